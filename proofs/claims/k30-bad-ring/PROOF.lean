import PyProof.Rows.All
import Wide.All
import OpenK.AllK
import Wide.FinOn
import HandS.Base
import HandS.Call
import HandS.List
import HandS.Exc
import HandS.IsInst
import HandS.Text
import HandS.Comp
import HandS.Iter
import HandS.Style
import HandS.WordsExc
import HandS.Defaults
import HandS.ExcOwn
import HandS.CallSlots
import KE.GoesMore
import PyProof.Draws
import PyProof.EnumMake
import HandS.TupAny
import HandS.Conv
import KE.KExcSuper
import HandS.ExcInit
import HandS.HeadHook1
import HandS.TryOnly
import HandS.HeadHook4
import HandS.Evl
import HandS.Ends
import HandS.HeadEnd
import HandS.HeadHook3
import HandS.HeadHook2
import PyProof.WalksMore
import PyProof.SumWalkG
import KE.KStateDown
import Lean
import HandS.More
import HandS.Words
import HandS.Head0
import HandS.Head1
import HandS.Head2
import PySem.Challenge.RW_statesmoved_k30_whole_bad_ring_exactly
set_option Elab.async false
set_option linter.all false
section
set_option maxRecDepth 100000
set_option maxHeartbeats 2000000
/-! VL1: data, cells, the relation of a frame's ghost state with the heap -/
namespace VL
open PySem PySem.Spec PyProof.Rows L2

/-- plain data -/
inductive D where
  | non | bl (b : Bool) | int (i : Int) | str (s : Str) | tup (xs : List D) | lst (xs : List D)
  | ins (c : Nat) (ns : List Str) (xs : List D)
/-- an exception: its class by number, its attributes -/
structure Ex where
  c : Nat
  ns : List Str
  ds : List D
/-- what a slot holds: nothing known, frozen data, an owned list, a borrowed list, an owned or borrowed instance, the exception in hand -/
inductive Cell where
  | un
  | sh (d : D)
  | ol (ds : List D)
  | bl (ds : List D)
  | oi (c : Nat) (ns : List Str) (cs : List Cell)
  | bi (c : Nat) (ns : List Str) (cs : List Cell)
  | xn (e : Ex)

/-- classes by number; the exception in hand (its address, class, dict) -/
structure Kc where
  cl : Nat → Addr
  xa : Option (Addr × Value × Option Addr)
  io : List Nat

section
variable (K : PySem.W.Frag) (k : Kc)
mutual
def Rp (G : Hp) : D → V → Prop
  | .non, v => v = .non
  | .bl b, v => v = .bl b
  | .int i, v => v = .int i
  | .str s, v => v = .str s
  | .tup ds, v => ∃ p vs, v = .ref p ∧ SqT K G p vs ∧ RpL G ds vs
  | .lst ds, v => ∃ p vs, v = .ref p ∧ G p = some (.lst vs) ∧ RpL G ds vs
  | .ins c ns ds, v => ∃ p dx fs, v = .ref p ∧ G p = some (.ins (k.cl c) dx fs) ∧ fs.map (·.1) = ns ∧ RpL G ds (fs.map (·.2))
def RpL (G : Hp) : List D → List V → Prop
  | [], vs => vs = []
  | d :: ds, vs => ∃ v w, vs = v :: w ∧ Rp G d v ∧ RpL G ds w
end
end

/-- one heap lies in another -/
def Sub (G H : Hp) : Prop := ∀ p o, G p = some o → H p = some o
theorem Sub.refl (G : Hp) : Sub G G := fun _ _ h => h
theorem Sub.trans {A B C : Hp} (a : Sub A B) (b : Sub B C) : Sub A C := fun p o h => b p o (a p o h)
theorem Sub.seqL {K : PySem.W.Frag} {G H : Hp} {p : Addr} {vs : List V} (s : Sub G H) (h : SqL K G p vs) : SqL K H p vs := by
  rcases h with (h | ⟨o, h⟩) | h
  · exact .inl (.inl (s _ _ h))
  · exact .inl (.inr ⟨o, s _ _ h⟩)
  · exact .inr h
theorem Sub.seqT {K : PySem.W.Frag} {G H : Hp} {p : Addr} {vs : List V} (s : Sub G H) (h : SqT K G p vs) : SqT K H p vs := by
  rcases h with (h | ⟨o, h⟩) | h
  · exact .inl (.inl (s _ _ h))
  · exact .inl (.inr ⟨o, s _ _ h⟩)
  · exact .inr h

section
variable {K : PySem.W.Frag} {k : Kc} {G G' : Hp}
mutual
theorem Rp.mono (s : Sub G G') : ∀ (d : D) (v : V), Rp K k G d v → Rp K k G' d v
  | .non, _, h => h
  | .bl _, _, h => h
  | .int _, _, h => h
  | .str _, _, h => h
  | .tup ds, _, h => by
    obtain ⟨p, vs, e, q, r⟩ := h
    exact ⟨p, vs, e, s.seqT q, RpL.mono s ds vs r⟩
  | .lst ds, _, h => by
    obtain ⟨p, vs, e, q, r⟩ := h
    exact ⟨p, vs, e, s _ _ q, RpL.mono s ds vs r⟩
  | .ins c ns ds, _, h => by
    obtain ⟨p, dx, fs, e, q, n, r⟩ := h
    exact ⟨p, dx, fs, e, s _ _ q, n, RpL.mono s ds _ r⟩
theorem RpL.mono (s : Sub G G') : ∀ (ds : List D) (vs : List V), RpL K k G ds vs → RpL K k G' ds vs
  | [], _, h => h
  | d :: ds, _, h => by
    obtain ⟨v, w, e, h1, h2⟩ := h
    exact ⟨v, w, e, Rp.mono s d v h1, RpL.mono s ds w h2⟩
end
theorem RpL.iff : ∀ (ds : List D) (vs : List V), RpL K k G ds vs ↔ ds.length = vs.length ∧ ∀ (i : Nat) d v, ds[i]? = some d → vs[i]? = some v → Rp K k G d v
  | [], vs => by
    constructor
    · intro h
      have h : vs = [] := h
      subst h
      exact ⟨rfl, fun i d v e => by simp at e⟩
    · intro h
      have : vs = [] := List.length_eq_zero_iff.mp h.1.symm
      exact this
  | d :: ds, [] => by
    constructor
    · intro h
      obtain ⟨v, w, e, _⟩ := h
      cases e
    · intro h
      have := h.1
      simp at this
  | d :: ds, v :: vs => by
    have ih := RpL.iff ds vs
    constructor
    · intro h
      obtain ⟨v', w, e, h1, h2⟩ := h
      cases e
      obtain ⟨l, q⟩ := ih.mp h2
      refine ⟨by simp [l], fun i d' v' e1 e2 => ?_⟩
      cases i with
      | zero =>
        simp at e1 e2
        subst e1 e2
        exact h1
      | succ i => exact q i d' v' (by simpa using e1) (by simpa using e2)
    · intro h
      obtain ⟨l, q⟩ := h
      refine ⟨v, vs, rfl, q 0 d v rfl rfl, ih.mpr ⟨by simpa using l, fun i d' v' e1 e2 => q (i + 1) d' v' (by simpa using e1) (by simpa using e2)⟩⟩
theorem RpL.length {ds : List D} {vs : List V} (h : RpL K k G ds vs) : ds.length = vs.length := ((RpL.iff ds vs).mp h).1
theorem RpL.at {ds : List D} {vs : List V} (h : RpL K k G ds vs) {i : Nat} {d : D} (e : ds[i]? = some d) : ∃ v, vs[i]? = some v ∧ Rp K k G d v := by
  obtain ⟨l, q⟩ := (RpL.iff ds vs).mp h
  have hi := (List.getElem?_eq_some_iff.mp e).1
  have hj : i < vs.length := by omega
  exact ⟨vs[i], List.getElem?_eq_getElem hj, q i d _ e (List.getElem?_eq_getElem hj)⟩
theorem RpL.nil : RpL K k G [] [] := rfl
theorem RpL.cons {d : D} {v : V} {ds : List D} {vs : List V} (h1 : Rp K k G d v) (h2 : RpL K k G ds vs) : RpL K k G (d :: ds) (v :: vs) := ⟨v, vs, rfl, h1, h2⟩
theorem RpL.append {ds es : List D} {vs ws : List V} (h1 : RpL K k G ds vs) (h2 : RpL K k G es ws) : RpL K k G (ds ++ es) (vs ++ ws) := by
  induction ds generalizing vs with
  | nil =>
    have h : vs = [] := h1
    subst h
    exact h2
  | cons d ds ih =>
    obtain ⟨v, w, e, a, b⟩ := h1
    subst e
    exact ⟨v, w ++ ws, rfl, a, ih b⟩
theorem RpL.take {ds : List D} {vs : List V} (n : Nat) (h : RpL K k G ds vs) : RpL K k G (ds.take n) (vs.take n) := by
  obtain ⟨l, q⟩ := (RpL.iff ds vs).mp h
  refine (RpL.iff _ _).mpr ⟨by simp [l], fun i d v e1 e2 => ?_⟩
  rw [List.getElem?_take] at e1 e2
  split at e1
  · rename_i hi
    rw [if_pos hi] at e2
    exact q i d v e1 e2
  · cases e1
theorem RpL.drop {ds : List D} {vs : List V} (n : Nat) (h : RpL K k G ds vs) : RpL K k G (ds.drop n) (vs.drop n) := by
  obtain ⟨l, q⟩ := (RpL.iff ds vs).mp h
  refine (RpL.iff _ _).mpr ⟨by simp [l], fun i d v e1 e2 => ?_⟩
  rw [List.getElem?_drop] at e1 e2
  exact q _ d v e1 e2
theorem RpL.reverse {ds : List D} {vs : List V} (h : RpL K k G ds vs) : RpL K k G ds.reverse vs.reverse := by
  induction ds generalizing vs with
  | nil =>
    have h : vs = [] := h
    subst h
    exact rfl
  | cons d ds ih =>
    obtain ⟨v, w, e, a, b⟩ := h
    subst e
    rw [List.reverse_cons, List.reverse_cons]
    exact RpL.append (ih b) (RpL.cons a RpL.nil)
theorem RpL.set {ds : List D} {vs : List V} {d : D} {v : V} (n : Nat) (h : RpL K k G ds vs) (hd : Rp K k G d v) : RpL K k G (ds.set n d) (vs.set n v) := by
  induction ds generalizing vs n with
  | nil =>
    have h : vs = [] := h
    subst h
    exact rfl
  | cons e ds ih =>
    obtain ⟨w, ws, e1, a, b⟩ := h
    subst e1
    cases n with
    | zero => exact ⟨v, ws, rfl, hd, b⟩
    | succ n => exact ⟨w, _, rfl, a, ih n b⟩
theorem RpL.dropLast {ds : List D} {vs : List V} (h : RpL K k G ds vs) : RpL K k G ds.dropLast vs.dropLast := by
  rw [List.dropLast_eq_take, List.dropLast_eq_take, h.length]
  exact h.take _
theorem RpL.ints (ns : List Int) : RpL K k G (ns.map D.int) (ns.map V.int) := by
  induction ns with
  | nil => exact rfl
  | cons n ns ih => exact ⟨_, _, rfl, rfl, ih⟩
/-- data of ints is ints -/
theorem RpL.ints_inv : ∀ {ns : List Int} {vs : List V}, RpL K k G (ns.map D.int) vs → vs = ns.map V.int
  | [], vs, h => h
  | n :: ns, vs, h => by
    obtain ⟨v, w, e, a, b⟩ := h
    have a : v = .int n := a
    rw [e, a, RpL.ints_inv b]
    rfl
theorem RpL.bools_inv : ∀ {ns : List Bool} {vs : List V}, RpL K k G (ns.map D.bl) vs → vs = ns.map V.bl
  | [], vs, h => h
  | n :: ns, vs, h => by
    obtain ⟨v, w, e, a, b⟩ := h
    have a : v = .bl n := a
    rw [e, a, RpL.bools_inv b]
    rfl
end

/-! ### the ghost state -/
/-- a frame's: the frozen part of the heap; who owns what (a slot's number, a path into it); what is borrowed; the arguments that keep their slots -/
structure Gs where
  G : Hp
  w : Addr → Option (Nat × List Nat)
  F : Addr → Prop
  pv : List (Nat × V)

def ExV (K : PySem.W.Frag) (k : Kc) (G : Hp) (e : Ex) (cls : Value) (d : Option Addr) : Prop :=
  cls = .ref (k.cl e.c) ∧ ((e.ns = [] ∧ e.ds = [] ∧ d = none) ∨ ∃ b fs, d = some b ∧ G b = some (.xd fs) ∧ fs.map (·.1) = e.ns ∧ RpL K k G e.ds (fs.map (·.2)))

/-- a list of the module -/
def SqLK (K : PySem.W.Frag) (a : Addr) (xs : List V) : Prop := ∃ (o : Obj) (its : Array Value) (n : Nat), K.lookup a = some o ∧ o.cls = .type "list" ∧ o.dict = none ∧ o.data = .seq its n ∧ its.size ≤ sizeLine ∧ Vals xs its.toList
section
variable (K : PySem.W.Frag) (k : Kc) (g : Gs) (H : Hp) (ow : List Nat → Addr → Prop)
mutual
def CV (p : List Nat) : Cell → V → Prop
  | .un, _ => True
  | .sh d, v => Rp K k g.G d v
  | .ol ds, v => ∃ a vs, v = .ref a ∧ ow p a ∧ H a = some (.lst vs) ∧ RpL K k g.G ds vs
  | .bl ds, v => ∃ a vs, v = .ref a ∧ (g.F a ∨ SqLK K a vs) ∧ SqL K H a vs ∧ RpL K k g.G ds vs
  | .oi c ns cs, v => ∃ a dx fs, v = .ref a ∧ ow p a ∧ H a = some (.ins (k.cl c) dx fs) ∧ fs.map (·.1) = ns ∧ CVL p 0 cs (fs.map (·.2))
  | .bi c ns cs, v => ∃ a dx fs, v = .ref a ∧ g.F a ∧ H a = some (.ins (k.cl c) dx fs) ∧ fs.map (·.1) = ns ∧ CVL p 0 cs (fs.map (·.2))
  | .xn e, v => ∃ a cls d, v = .ref a ∧ k.xa = some (a, cls, d) ∧ ExV K k g.G e cls d
def CVL (p : List Nat) (j : Nat) : List Cell → List V → Prop
  | [], vs => vs = []
  | c :: cs, vs => ∃ v w, vs = v :: w ∧ CV (p ++ [j]) c v ∧ CVL p (j + 1) cs w
end
end
theorem ExV.mono {K : PySem.W.Frag} {k : Kc} {G G' : Hp} {e : Ex} {cls : Value} {d : Option Addr} (s : Sub G G') (h : ExV K k G e cls d) : ExV K k G' e cls d := by
  obtain ⟨a, b | ⟨b, fs, e1, e2, e3, e4⟩⟩ := h
  · exact ⟨a, .inl b⟩
  · exact ⟨a, .inr ⟨b, fs, e1, s _ _ e2, e3, e4.mono s _ _⟩⟩
section
variable {K : PySem.W.Frag} {k : Kc} {g g' : Gs} {H H' : Hp} {ow ow' : List Nat → Addr → Prop}
mutual
theorem CV.mono (s : Sub g.G g'.G) (f : ∀ a, g.F a → g'.F a) (hf : ∀ a, g.F a → ∀ o, H a = some o → H' a = some o) {q : List Nat} (ho : ∀ p a, ow p a → ow' (q ++ p) a ∧ ∀ o, H a = some o → H' a = some o) : ∀ (c : Cell) (p : List Nat) (v : V), CV K k g H ow p c v → CV K k g' H' ow' (q ++ p) c v
  | .un, _, _, _ => True.intro
  | .sh d, _, v, h => Rp.mono s d v h
  | .ol ds, p, _, h => by
    obtain ⟨a, vs, e, h1, h2, h3⟩ := h
    exact ⟨a, vs, e, (ho _ _ h1).1, (ho _ _ h1).2 _ h2, h3.mono s _ _⟩
  | .bl ds, p, _, h => by
    obtain ⟨a, vs, e, h1, h2, h3⟩ := h
    refine ⟨a, vs, e, h1.imp (f _) id, ?_, h3.mono s _ _⟩
    rcases h1 with h1 | h1
    · rcases h2 with (h | ⟨o, h⟩) | h
      · exact .inl (.inl (hf _ h1 _ h))
      · exact .inl (.inr ⟨o, hf _ h1 _ h⟩)
      · exact .inr h
    · exact .inr h1
  | .oi c ns cs, p, _, h => by
    obtain ⟨a, dx, fs, e, h1, h2, h3, h4⟩ := h
    exact ⟨a, dx, fs, e, (ho _ _ h1).1, (ho _ _ h1).2 _ h2, h3, CVL.mono s f hf ho cs p 0 _ h4⟩
  | .bi c ns cs, p, _, h => by
    obtain ⟨a, dx, fs, e, h1, h2, h3, h4⟩ := h
    exact ⟨a, dx, fs, e, f _ h1, hf _ h1 _ h2, h3, CVL.mono s f hf ho cs p 0 _ h4⟩
  | .xn e, _, _, h => by
    obtain ⟨a, cls, d, e1, e2, e3⟩ := h
    exact ⟨a, cls, d, e1, e2, e3.mono s⟩
theorem CVL.mono (s : Sub g.G g'.G) (f : ∀ a, g.F a → g'.F a) (hf : ∀ a, g.F a → ∀ o, H a = some o → H' a = some o) {q : List Nat} (ho : ∀ p a, ow p a → ow' (q ++ p) a ∧ ∀ o, H a = some o → H' a = some o) : ∀ (cs : List Cell) (p : List Nat) (j : Nat) (vs : List V), CVL K k g H ow p j cs vs → CVL K k g' H' ow' (q ++ p) j cs vs
  | [], _, _, _, h => h
  | c :: cs, p, j, _, h => by
    obtain ⟨v, w, e, h1, h2⟩ := h
    refine ⟨v, w, e, ?_, CVL.mono s f hf ho cs p (j + 1) w h2⟩
    rw [List.append_assoc]
    exact CV.mono s f hf ho c (p ++ [j]) v h1
end
end

section
variable {K : PySem.W.Frag} {k : Kc} {g : Gs} {H : Hp} {P : Addr → Prop}
mutual
/-- where the owner's path does not matter -/
theorem CV.re : ∀ (c : Cell) (p p' : List Nat) (v : V), CV K k g H (fun _ a => P a) p c v → CV K k g H (fun _ a => P a) p' c v
  | .un, _, _, _, _ => True.intro
  | .sh _, _, _, _, h => h
  | .ol _, _, _, _, h => h
  | .bl _, _, _, _, h => h
  | .oi c ns cs, p, p', _, h => by
    obtain ⟨a, dx, fs, e, h1, h2, h3, h4⟩ := h
    exact ⟨a, dx, fs, e, h1, h2, h3, CVL.re cs p p' 0 _ h4⟩
  | .bi c ns cs, p, p', _, h => by
    obtain ⟨a, dx, fs, e, h1, h2, h3, h4⟩ := h
    exact ⟨a, dx, fs, e, h1, h2, h3, CVL.re cs p p' 0 _ h4⟩
  | .xn _, _, _, _, h => h
theorem CVL.re : ∀ (cs : List Cell) (p p' : List Nat) (j : Nat) (vs : List V), CVL K k g H (fun _ a => P a) p j cs vs → CVL K k g H (fun _ a => P a) p' j cs vs
  | [], _, _, _, _, h => h
  | c :: cs, p, p', j, _, h => by
    obtain ⟨v, w, e, h1, h2⟩ := h
    exact ⟨v, w, e, CV.re c _ _ v h1, CVL.re cs p p' (j + 1) w h2⟩
end
end
theorem CV.mono0 {K : PySem.W.Frag} {k : Kc} {g g' : Gs} {H H' : Hp} {ow ow' : List Nat → Addr → Prop} {p : List Nat} {c : Cell} {v : V} (h : CV K k g H ow p c v) (s : Sub g.G g'.G) (f : ∀ a, g.F a → g'.F a) (hf : ∀ a, g.F a → ∀ o, H a = some o → H' a = some o)
    (ho : ∀ p a, ow p a → ow' p a ∧ ∀ o, H a = some o → H' a = some o) : CV K k g' H' ow' p c v := CV.mono (q := []) s f hf ho c p v h
theorem CVL.mono0 {K : PySem.W.Frag} {k : Kc} {g g' : Gs} {H H' : Hp} {ow ow' : List Nat → Addr → Prop} {p : List Nat} {j : Nat} {cs : List Cell} {vs : List V} (h : CVL K k g H ow p j cs vs) (s : Sub g.G g'.G) (f : ∀ a, g.F a → g'.F a) (hf : ∀ a, g.F a → ∀ o, H a = some o → H' a = some o)
    (ho : ∀ p a, ow p a → ow' p a ∧ ∀ o, H a = some o → H' a = some o) : CVL K k g' H' ow' p j cs vs := CVL.mono (q := []) s f hf ho cs p j vs h

/-- the frame's relation: its slots by cells, their values, the abstract heap -/
structure Rel (K : PySem.W.Frag) (k : Kc) (g : Gs) (s : List Cell) (sv : L2.St) (H : Hp) : Prop where
  len : s.length = sv.length
  sub : Sub g.G H
  dis : ∀ a q, g.w a = some q → g.G a = none ∧ H a ≠ none
  fra : ∀ a, g.F a → g.w a = none ∧ H a ≠ none
  cel : ∀ (i : Nat) c, s[i]? = some c → c ≠ .un → ∃ v, sv[i]? = some (some v) ∧ CV K k g H (fun p a => g.w a = some (i, p)) [] c v
  pin : ∀ i v, (i, v) ∈ g.pv → sv[i]? = some (some v)
  pio : ∀ i v, (i, v) ∈ g.pv → i ∈ k.io

/-- from one state of a frame to a later one -/
structure Ext (g : Gs) (H : Hp) (g' : Gs) (H' : Hp) : Prop where
  fr : ∀ a o, H a = some o → g.w a = none → H' a = some o ∧ g'.w a = none
  G : Sub g.G g'.G
  new : ∀ a, g'.G a ≠ none → g.G a ≠ none ∨ g.w a ≠ none ∨ H a = none
  F : g'.F = g.F
  pv : g'.pv = g.pv
theorem Ext.refl (g : Gs) (H : Hp) : Ext g H g H := ⟨fun _ _ h w => ⟨h, w⟩, Sub.refl _, fun _ h => .inl h, rfl, rfl⟩
theorem Ext.back {g g' : Gs} {H H' : Hp} (x : Ext g H g' H') {a : Addr} (h : g'.w a ≠ none ∨ H' a = none) : g.w a ≠ none ∨ H a = none := by
  cases e : H a with
  | none => exact .inr rfl
  | some o =>
    cases w : g.w a with
    | some q => exact .inl (by simp)
    | none =>
      obtain ⟨h1, h2⟩ := x.fr a o e w
      rcases h with h | h
      · exact absurd h2 h
      · rw [h1] at h
        cases h
theorem Ext.trans {g g1 g2 : Gs} {H H1 H2 : Hp} (x : Ext g H g1 H1) (y : Ext g1 H1 g2 H2) : Ext g H g2 H2 where
  fr := fun a o h w => let ⟨h1, w1⟩ := x.fr a o h w; y.fr a o h1 w1
  G := x.G.trans y.G
  new := fun a h => by
    rcases y.new a h with h | h
    · exact x.new a h
    · exact .inr (x.back h)
  F := y.F.trans x.F
  pv := y.pv.trans x.pv

/-- a result that is owned by nobody's slot: t tells its parts -/
def Own (t : Addr → Option (List Nat)) (g : Gs) (H : Hp) (g' : Gs) (H' : Hp) : Prop :=
  ∀ a, t a ≠ none → g'.w a = none ∧ g'.G a = none ∧ H' a ≠ none ∧ (g.w a ≠ none ∨ H a = none)
theorem own_none {g g' : Gs} {H H' : Hp} : Own (fun _ => none) g H g' H' := fun _ h => absurd rfl h
theorem Own.later {t : Addr → Option (List Nat)} {g g1 g2 : Gs} {H H1 H2 : Hp} (x : Ext g H g1 H1) (o : Own t g1 H1 g2 H2) : Own t g H g2 H2 := fun a h =>
  let ⟨a1, a2, a3, a4⟩ := o a h; ⟨a1, a2, a3, x.back a4⟩
end VL
end
section
set_option maxRecDepth 100000
set_option maxHeartbeats 2000000
/-! VL2: moves of the ghost state -/
namespace VL
open PySem PySem.Spec PyProof.Rows L2

mutual
def frzD : Cell → Option D
  | .sh d => some d
  | .ol ds => some (.lst ds)
  | .oi c ns cs => match frzL cs with
    | some ds => some (.ins c ns ds)
    | none => none
  | _ => none
def frzL : List Cell → Option (List D)
  | [] => some []
  | c :: cs => match frzD c, frzL cs with
    | some d, some ds => some (d :: ds)
    | _, _ => none
end

def Gs.drop (g : Gs) (i : Nat) : Gs := { g with w := fun a => match g.w a with
  | some (j, p) => if j = i then none else some (j, p)
  | none => none }
def Gs.tk (g : Gs) (i : Nat) : Addr → Option (List Nat) := fun a => match g.w a with
  | some (j, p) => if j = i then some p else none
  | none => none
def Gs.put (g : Gs) (i : Nat) (t : Addr → Option (List Nat)) : Gs := { g with w := fun a => match t a with
  | some p => some (i, p)
  | none => (g.drop i).w a }
def Gs.frz (g : Gs) (t : Addr → Option (List Nat)) (H : Hp) : Gs := { g with G := fun a => match t a with
  | some _ => H a
  | none => g.G a }
def Gs.lay (g : Gs) (a : Addr) (o : HO) : Gs := { g with G := upd g.G a o }
theorem drop_some {g : Gs} {i j : Nat} {p : List Nat} {a : Addr} : (g.drop i).w a = some (j, p) ↔ g.w a = some (j, p) ∧ j ≠ i := by
  show (match g.w a with
    | some (j, p) => if j = i then none else some (j, p)
    | none => none) = some (j, p) ↔ _
  cases e : g.w a with
  | none => simp
  | some q =>
    obtain ⟨l, r⟩ := q
    by_cases h : l = i
    · simp only [h, if_true]
      constructor
      · intro z; cases z
      · intro z; obtain ⟨z1, z2⟩ := z; cases z1; exact absurd rfl z2
    · simp only [h, if_false]
      constructor
      · intro z; cases z; exact ⟨rfl, h⟩
      · intro z; exact z.1
theorem drop_none {g : Gs} {i : Nat} {a : Addr} (h : g.w a = none) : (g.drop i).w a = none := by
  show (match g.w a with
    | some (j, p) => if j = i then none else some (j, p)
    | none => none) = none
  rw [h]
theorem tk_some {g : Gs} {i : Nat} {p : List Nat} {a : Addr} : g.tk i a = some p ↔ g.w a = some (i, p) := by
  show (match g.w a with
    | some (j, p) => if j = i then some p else none
    | none => none) = some p ↔ _
  cases e : g.w a with
  | none => simp
  | some q =>
    obtain ⟨l, r⟩ := q
    by_cases h : l = i
    · simp [h]
    · simp [h]
theorem tk_drop {g : Gs} {i : Nat} {a : Addr} (h : g.tk i a ≠ none) : (g.drop i).w a = none := by
  cases e : g.tk i a with
  | none => exact absurd e h
  | some p =>
    have w := tk_some.mp e
    show (match g.w a with
      | some (j, p) => if j = i then none else some (j, p)
      | none => none) = none
    rw [w]
    simp

section
variable {K : PySem.W.Frag} {k : Kc} {g g0 : Gs} {s : List Cell} {sv : L2.St} {H H0 : Hp} {t : Addr → Option (List Nat)} {c : Cell} {v : V} {i : Nat}

mutual
theorem frz_ok {g g' : Gs} {ow : List Nat → Addr → Prop} (sb : Sub g.G g'.G) (hh : ∀ p a, ow p a → ∀ o, H a = some o → g'.G a = some o) : ∀ (c : Cell) (p : List Nat) (v : V) (d : D), frzD c = some d → CV K k g H ow p c v → Rp K k g'.G d v
  | .sh d', p, v, d, e, h => by
    cases e
    exact Rp.mono sb d' v h
  | .ol ds, p, v, d, e, h => by
    cases e
    obtain ⟨a, vs, e, h1, h2, h3⟩ := h
    exact ⟨a, vs, e, hh _ _ h1 _ h2, h3.mono sb _ _⟩
  | .oi c ns cs, p, v, d, e, h => by
    unfold frzD at e
    cases e2 : frzL cs with
    | none => rw [e2] at e; cases e
    | some ds =>
      rw [e2] at e
      cases e
      obtain ⟨a, dx, fs, e, h1, h2, h3, h4⟩ := h
      exact ⟨a, dx, fs, e, hh _ _ h1 _ h2, h3, frzL_ok sb hh cs p 0 _ ds e2 h4⟩
  | .un, _, _, _, e, _ => by cases e
  | .bl _, _, _, _, e, _ => by cases e
  | .bi _ _ _, _, _, _, e, _ => by cases e
  | .xn _, _, _, _, e, _ => by cases e
theorem frzL_ok {g g' : Gs} {ow : List Nat → Addr → Prop} (sb : Sub g.G g'.G) (hh : ∀ p a, ow p a → ∀ o, H a = some o → g'.G a = some o) : ∀ (cs : List Cell) (p : List Nat) (j : Nat) (vs : List V) (ds : List D), frzL cs = some ds → CVL K k g H ow p j cs vs → RpL K k g'.G ds vs
  | [], p, j, vs, ds, e, h => by
    cases e
    exact h
  | c :: cs, p, j, vs, ds, e, h => by
    unfold frzL at e
    cases e1 : frzD c with
    | none => rw [e1] at e; cases e
    | some d =>
      cases e2 : frzL cs with
      | none => rw [e1, e2] at e; cases e
      | some ds' =>
        rw [e1, e2] at e
        cases e
        obtain ⟨v, w, e, h1, h2⟩ := h
        exact ⟨v, w, e, frz_ok sb hh c _ v d e1 h1, frzL_ok sb hh cs p (j + 1) w ds' e2 h2⟩
end

theorem Rel.len_lt (R : Rel K k g s sv H) {c : Cell} (e : s[i]? = some c) : i < sv.length := by
  rw [← R.len]
  exact (List.getElem?_eq_some_iff.mp e).1

/-- all that stood stands: the heap has grown -/
theorem Rel.grown {H' : Hp} (R : Rel K k g s sv H) (h : Sub H H') : Rel K k g s sv H' where
  len := R.len
  sub := R.sub.trans h
  dis := fun a q e => ⟨(R.dis a q e).1, fun z => by
    cases e2 : H a with
    | none => exact (R.dis a q e).2 e2
    | some o => rw [h _ _ e2] at z; cases z⟩
  fra := fun a e => ⟨(R.fra a e).1, fun z => by
    cases e2 : H a with
    | none => exact (R.fra a e).2 e2
    | some o => rw [h _ _ e2] at z; cases z⟩
  cel := fun i c e n => by
    obtain ⟨v, e1, h1⟩ := R.cel i c e n
    exact ⟨v, e1, CV.mono0 h1 (Sub.refl _) (fun _ z => z) (fun a _ o e => h a o e) (fun p a e => ⟨e, fun o e => h a o e⟩)⟩
  pin := R.pin
  pio := R.pio
theorem Ext.grown {H' : Hp} (h : Sub H H') : Ext g H g H' := ⟨fun a o e w => ⟨h _ _ e, w⟩, Sub.refl _, fun _ h => .inl h, rfl, rfl⟩
theorem sub_upd {p : Addr} {o : HO} (h : H p = none) : Sub H (upd H p o) := fun a u e => by
  rw [upd_ne (ne_of_none e h)]
  exact e

/-- a new frozen object -/
theorem Rel.lay {p : Addr} {o : HO} (R : Rel K k g s sv H) (h : H p = none) : Rel K k (g.lay p o) s sv (upd H p o) := by
  have R' := R.grown (sub_upd (o := o) h)
  have hG : Sub g.G (g.lay p o).G := fun a u e => by
    show upd g.G p o a = some u
    rw [upd_ne (ne_of_none (R.sub _ _ e) h)]
    exact e
  refine ⟨R.len, fun a u e => ?_, fun a q e => ?_, R'.fra, fun i c e n => ?_, R.pin, R.pio⟩
  · have e : upd g.G p o a = some u := e
    by_cases hp : a = p
    · subst hp
      rw [upd_same] at e
      rw [upd_same]
      exact e
    · rw [upd_ne hp] at e
      rw [upd_ne hp]
      exact R.sub _ _ e
  · have hp : a ≠ p := fun z => by
      rw [z] at e
      exact (R.dis p q e).2 h
    refine ⟨?_, (R'.dis a q e).2⟩
    show upd g.G p o a = none
    rw [upd_ne hp]
    exact (R.dis a q e).1
  · obtain ⟨v, e1, h1⟩ := R'.cel i c e n
    exact ⟨v, e1, CV.mono0 h1 hG (fun _ z => z) (fun a _ o e => e) (fun p a e => ⟨e, fun o e => e⟩)⟩
theorem Ext.lay {p : Addr} {o : HO} (R : Rel K k g s sv H) (h : H p = none) : Ext g H (g.lay p o) (upd H p o) where
  fr := fun a u e w => ⟨sub_upd h _ _ e, w⟩
  G := fun a u e => by
    show upd g.G p o a = some u
    rw [upd_ne (ne_of_none (R.sub _ _ e) h)]
    exact e
  new := fun a e => by
    by_cases hp : a = p
    · subst hp
      exact .inr (.inr h)
    · have e : upd g.G p o a ≠ none := e
      rw [upd_ne hp] at e
      exact .inl e
  F := rfl
  pv := rfl
theorem lay_at {p : Addr} {o : HO} : (g.lay p o).G p = some o := by
  show upd g.G p o p = some o
  exact upd_same

/-- a slot is given up: what it owned is in hand -/
theorem Rel.drop (R : Rel K k g s sv H) (i : Nat) : Rel K k (g.drop i) (s.set i .un) sv H where
  len := by rw [List.length_set]; exact R.len
  sub := R.sub
  dis := fun a q e => R.dis a q (by
    obtain ⟨j, p⟩ := q
    exact (drop_some.mp e).1)
  fra := fun a e => ⟨drop_none (R.fra a e).1, (R.fra a e).2⟩
  cel := fun j c e n => by
    by_cases h : i = j
    · subst h
      have hl : i < s.length := by
        by_cases hl : i < s.length
        · exact hl
        · rw [List.getElem?_eq_none (by simpa using hl)] at e; cases e
      rw [List.getElem?_set_self hl] at e
      cases e
      exact absurd rfl n
    · rw [List.getElem?_set_ne h] at e
      obtain ⟨v, e1, h1⟩ := R.cel j c e n
      exact ⟨v, e1, CV.mono0 h1 (Sub.refl _) (fun _ z => z) (fun a _ o e => e) (fun p a e => ⟨drop_some.mpr ⟨e, fun z => h z.symm⟩, fun o e => e⟩)⟩
  pin := R.pin
  pio := R.pio
theorem Ext.drop (i : Nat) : Ext g H (g.drop i) H := ⟨fun a o e w => ⟨e, drop_none w⟩, Sub.refl _, fun _ h => .inl h, rfl, rfl⟩
theorem Own.drop (R : Rel K k g s sv H) (i : Nat) : Own (g.tk i) g H (g.drop i) H := fun a h => by
  cases e : g.tk i a with
  | none => exact absurd e h
  | some p =>
    have w := tk_some.mp e
    obtain ⟨h1, h2⟩ := R.dis a _ w
    exact ⟨tk_drop h, h1, h2, .inl (by rw [w]; simp)⟩
theorem Rel.drop_cv (R : Rel K k g s sv H) {c : Cell} {v : V} (h : CV K k g H (fun p a => g.w a = some (i, p)) [] c v) : CV K k (g.drop i) H (fun p a => g.tk i a = some p) [] c v :=
  CV.mono0 h (Sub.refl _) (fun _ z => z) (fun a _ o e => e) (fun p a e => ⟨tk_some.mpr e, fun o e => e⟩)

/-- a result is stored in a slot -/
theorem Rel.put (R : Rel K k g s sv H) (x : Ext g0 H0 g H) (R0 : ∀ a, g0.F a → g0.w a = none ∧ H0 a ≠ none) (o : Own t g0 H0 g H) {c : Cell} {v : V} (h : CV K k g H (fun p a => t a = some p) [] c v) {sv' : L2.St} (hl : sv'.length = sv.length)
    (hi : sv'[i]? = some (some v)) (hj : ∀ j, j ≠ i → sv'[j]? = sv[j]?) (hp : ∀ j w, (j, w) ∈ g.pv → sv'[j]? = some (some w)) : Rel K k (g.put i t) (s.set i c) sv' H ∧ Ext g0 H0 (g.put i t) H := by
  have pw : ∀ {a j p}, (g.put i t).w a = some (j, p) → (t a = some p ∧ j = i) ∨ (t a = none ∧ g.w a = some (j, p) ∧ j ≠ i) := fun {a j p} e => by
    have e : (match t a with
      | some p => some (i, p)
      | none => (g.drop i).w a) = some (j, p) := e
    cases q : t a with
    | some p' =>
      rw [q] at e
      cases e
      exact .inl ⟨rfl, rfl⟩
    | none =>
      rw [q] at e
      exact .inr ⟨rfl, drop_some.mp e⟩
  have nF : ∀ a, g.F a → t a = none := fun a hf => by
    cases q : t a with
    | none => rfl
    | some p =>
      have z := (o a (by rw [q]; simp)).2.2.2
      rw [x.F] at hf
      obtain ⟨z1, z2⟩ := R0 a hf
      rcases z with z | z
      · exact absurd z1 z
      · exact absurd z z2
  have pn : ∀ a, t a = none → g.w a = none → (g.put i t).w a = none := fun a h1 h2 => by
    show (match t a with
      | some p => some (i, p)
      | none => (g.drop i).w a) = none
    rw [h1]
    exact drop_none h2
  refine ⟨⟨by rw [List.length_set, hl]; exact R.len, R.sub, fun a q e => ?_, fun a e => ⟨pn a (nF a e) (R.fra a e).1, (R.fra a e).2⟩, fun j d e n => ?_, hp, R.pio⟩, ⟨fun a u e w => ?_, x.G, x.new, x.F, x.pv⟩⟩
  · obtain ⟨j, p⟩ := q
    rcases pw e with ⟨e1, _⟩ | ⟨_, e1, _⟩
    · have z := o a (by rw [e1]; simp)
      exact ⟨z.2.1, z.2.2.1⟩
    · exact R.dis a _ e1
  · by_cases hij : i = j
    · subst hij
      have hlt : i < s.length := by
        by_cases hl : i < s.length
        · exact hl
        · rw [List.getElem?_eq_none (by simpa using hl)] at e; cases e
      rw [List.getElem?_set_self hlt] at e
      cases e
      refine ⟨v, hi, CV.mono0 h (Sub.refl _) (fun _ z => z) (fun a _ o e => e) (fun p a e => ⟨?_, fun o e => e⟩)⟩
      show (match t a with
        | some p => some (i, p)
        | none => (g.drop i).w a) = some (i, p)
      rw [e]
    · rw [List.getElem?_set_ne hij] at e
      obtain ⟨w, e1, h1⟩ := R.cel j d e n
      refine ⟨w, by rw [hj j (fun z => hij z.symm)]; exact e1, CV.mono0 h1 (Sub.refl _) (fun _ z => z) (fun a _ o e => e) (fun p a e => ⟨?_, fun o e => e⟩)⟩
      show (match t a with
        | some p => some (i, p)
        | none => (g.drop i).w a) = some (j, p)
      cases q : t a with
      | some p' =>
        have z := (o a (by rw [q]; simp)).1
        rw [z] at e
        cases e
      | none => exact drop_some.mpr ⟨e, fun z => hij z.symm⟩
  · obtain ⟨e1, w1⟩ := x.fr a u e w
    refine ⟨e1, pn a ?_ w1⟩
    cases q : t a with
    | none => rfl
    | some p =>
      have z := (o a (by rw [q]; simp)).2.2.2
      rcases z with z | z
      · exact absurd w z
      · rw [e] at z; cases z
/-- a result is frozen -/
theorem Rel.frz (R : Rel K k g s sv H) (x : Ext g0 H0 g H) (o : Own t g0 H0 g H) : Rel K k (g.frz t H) s sv H ∧ Ext g0 H0 (g.frz t H) H ∧ Sub g.G (g.frz t H).G ∧ (∀ p a, t a = some p → ∀ u, H a = some u → (g.frz t H).G a = some u) := by
  have fz : ∀ {a}, (g.frz t H).G a = match t a with
    | some _ => H a
    | none => g.G a := fun {a} => rfl
  have sb : Sub g.G (g.frz t H).G := fun a u e => by
    rw [fz]
    cases q : t a with
    | none => exact e
    | some p =>
      have z := (o a (by rw [q]; simp)).2.1
      rw [z] at e; cases e
  refine ⟨⟨R.len, fun a u e => ?_, fun a q e => ⟨?_, (R.dis a q e).2⟩, R.fra, fun i c e n => ?_, R.pin, R.pio⟩, ⟨x.fr, x.G.trans sb, fun a h => ?_, x.F, x.pv⟩, sb, fun p a e u h => ?_⟩
  · rw [fz] at e
    cases q : t a with
    | none => rw [q] at e; exact R.sub _ _ e
    | some p => rw [q] at e; exact e
  · rw [fz]
    cases z : t a with
    | none => exact (R.dis a q e).1
    | some p =>
      have y := (o a (by rw [z]; simp)).1
      have e : g.w a = some q := e
      rw [y] at e; cases e
  · obtain ⟨v, e1, h1⟩ := R.cel i c e n
    exact ⟨v, e1, CV.mono0 h1 sb (fun _ z => z) (fun a _ o e => e) (fun p a e => ⟨e, fun o e => e⟩)⟩
  · rw [fz] at h
    cases q : t a with
    | none => rw [q] at h; exact x.new a h
    | some p => exact .inr (o a (by rw [q]; simp)).2.2.2
  · rw [fz, e]
    exact h
/-- what a slot owns is written -/
theorem Rel.write (R : Rel K k g s sv H) {a : Addr} {p : List Nat} {o : HO} {c' : Cell} {v : V} (ha : g.w a = some (i, p)) (hv : sv[i]? = some (some v)) (hc : CV K k g (upd H a o) (fun p a => g.w a = some (i, p)) [] c' v) :
    Rel K k g (s.set i c') sv (upd H a o) ∧ Ext g H g (upd H a o) := by
  have ne : ∀ b, g.w b = none → b ≠ a := fun b w z => by rw [z, ha] at w; cases w
  refine ⟨⟨by rw [List.length_set]; exact R.len, fun b u e => ?_, fun b q e => ⟨(R.dis b q e).1, fun z => ?_⟩, fun b e => ⟨(R.fra b e).1, fun z => ?_⟩, fun j d e n => ?_, R.pin, R.pio⟩, ⟨fun b u e w => ⟨?_, w⟩, Sub.refl _, fun _ h => .inl h, rfl, rfl⟩⟩
  · have hb : b ≠ a := fun z => by rw [z, (R.dis a _ ha).1] at e; cases e
    rw [upd_ne hb]
    exact R.sub _ _ e
  · by_cases hb : b = a
    · rw [hb, upd_same] at z; cases z
    · rw [upd_ne hb] at z
      exact (R.dis b q e).2 z
  · rw [upd_ne (ne b (R.fra b e).1)] at z
    exact (R.fra b e).2 z
  · by_cases hij : i = j
    · subst hij
      have hlt : i < s.length := by
        by_cases hl : i < s.length
        · exact hl
        · rw [List.getElem?_eq_none (by simpa using hl)] at e; cases e
      rw [List.getElem?_set_self hlt] at e
      cases e
      exact ⟨v, hv, hc⟩
    · rw [List.getElem?_set_ne hij] at e
      obtain ⟨w, e1, h1⟩ := R.cel j d e n
      refine ⟨w, e1, CV.mono0 h1 (Sub.refl _) (fun _ z => z) (fun b hf u e => ?_) (fun p b e => ⟨e, fun u e2 => ?_⟩)⟩
      · rw [upd_ne (ne b (R.fra b hf).1)]
        exact e
      · have hb : b ≠ a := fun z => by
          have e : g.w b = some (j, p) := e
          rw [z, ha] at e
          exact hij (Prod.mk.inj (Option.some.inj e)).1
        rw [upd_ne hb]
        exact e2
  · rw [upd_ne (ne b w)]
    exact e
end
end VL
end
section
set_option maxRecDepth 100000
set_option maxHeartbeats 2000000
/-! VL3: denotations, judgements, conversions -/
namespace VL
open PySem PySem.Spec PyProof.Rows L2

inductive O (α : Type) where
  | ok (a : α) (s : List Cell)
  | ex (e : Ex) (s : List Cell)
  | bad
inductive SO where
  | nx (s : List Cell) | rt (c : Cell) (s : List Cell) | bk (s : List Cell) | ct (s : List Cell) | ex (e : Ex) (s : List Cell) | bad
abbrev DQ := List Cell → Option Cell
abbrev DV := List Cell → O D
abbrev DC := List Cell → O Cell
abbrev DT := List Cell → O Bool
abbrev DS := List Cell → SO

theorem _root_.L2.PE.imp {X : Cx} {e : Expr} {t t' : TE} (h : PE X e t) (i : ∀ sv H Q, t' sv H Q → t sv H Q) : PE X e t' := ⟨fun pins s sv H Q I hw => h.run pins s sv H Q I (i _ _ _ hw)⟩
theorem _root_.L2.PT.imp {X : Cx} {e : Expr} {t t' : TT} (h : PT X e t) (i : ∀ sv H Q, t' sv H Q → t sv H Q) : PT X e t' := ⟨fun pins s sv H Q I hw => h.run pins s sv H Q I (i _ _ _ hw)⟩
theorem _root_.L2.PA.imp {X : Cx} {e : List Expr} {t t' : TA} (h : PA X e t) (i : ∀ sv H Q, t' sv H Q → t sv H Q) : PA X e t' := ⟨fun pos pins s sv H Q I hw => h.run pos pins s sv H Q I (i _ _ _ hw)⟩
theorem _root_.L2.PS.imp {X : Cx} {e : Stmt} {t t' : TS} (h : PS X e t) (i : ∀ D sv H, t' D sv H → t D sv H) : PS X e t' := ⟨fun pins s sv H Q I hw => h.run pins s sv H Q I (i _ _ _ hw)⟩
theorem _root_.L2.PSs.imp {X : Cx} {e : List Stmt} {t t' : TS} (h : PSs X e t) (i : ∀ D sv H, t' D sv H → t D sv H) : PSs X e t' := ⟨fun pins s sv H Q I hw => h.run pins s sv H Q I (i _ _ _ hw)⟩
theorem _root_.L2.PI.imp {X : Cx} {tg e : Expr} {t t' : TI} (h : PI X tg e t) (i : ∀ sv H Q, t' sv H Q → t sv H Q) : PI X tg e t' := ⟨fun pins s sv H Q I hw => h.run pins s sv H Q I (i _ _ _ hw)⟩

section
variable (K : PySem.W.Frag) (k : Kc)
/-- what a quiet expression gives: the state and the heap stay -/
def tQ (r : Nat) (dq : DQ) : TE := fun sv H Q => ∃ g s, Rel K k g s sv H ∧ match dq s with
  | some c => ∀ v, CV K k g H (fun _ a => ∃ q, g.w a = some (r, q)) [] c v → Q v H
  | none => False
/-- the way out by an exception -/
def exW (W : WX) (g : Gs) (H : Hp) (e : Ex) (s' : List Cell) : Prop := ∀ cls d g' sv' H', Rel K k g' s' sv' H' → Ext g H g' H' → ExV K k g'.G e cls d → W cls d sv' H'
/-- a frozen value -/
def tV (W : WX) (dv : DV) : TE := fun sv H Q => ∃ g s, Rel K k g s sv H ∧ match dv s with
  | .ok d s' => ∀ v g' H', Rel K k g' s' sv H' → Ext g H g' H' → Rp K k g'.G d v → Q v H'
  | .ex e s' => exW K k W g H e s'
  | .bad => False
/-- a value that may be owned by nobody else -/
def tC (W : WX) (dc : DC) : TE := fun sv H Q => ∃ g s, Rel K k g s sv H ∧ match dc s with
  | .ok c s' => ∀ v g' H' t, Rel K k g' s' sv H' → Ext g H g' H' → Own t g H g' H' → CV K k g' H' (fun p a => t a = some p) [] c v → Q v H'
  | .ex e s' => exW K k W g H e s'
  | .bad => False
def tT (W : WX) (dt : DT) : TT := fun sv H Q => ∃ g s, Rel K k g s sv H ∧ match dt s with
  | .ok b s' => ∀ g' H', Rel K k g' s' sv H' → Ext g H g' H' → Q b H'
  | .ex e s' => exW K k W g H e s'
  | .bad => False
def tS (W : WX) (ds : DS) : TS := fun D sv H => ∃ g s, Rel K k g s sv H ∧ match ds s with
  | .nx s' => ∀ g' sv' H', Rel K k g' s' sv' H' → Ext g H g' H' → D.nx sv' H'
  | .rt c s' => ∀ v g' sv' H' t, Rel K k g' s' sv' H' → Ext g H g' H' → Own t g H g' H' → CV K k g' H' (fun p a => t a = some p) [] c v → D.rt v H'
  | .bk s' => ∀ g' sv' H', Rel K k g' s' sv' H' → Ext g H g' H' → D.bk sv' H'
  | .ct s' => ∀ g' sv' H', Rel K k g' s' sv' H' → Ext g H g' H' → D.ct sv' H'
  | .ex e s' => exW K k W g H e s'
  | .bad => False
end

section
variable (X : Cx) (k : Kc)
structure SQ (r : Nat) (e : Expr) (dq : DQ) : Prop where
  run : PE X e (tQ X.K k r dq)
structure SV (e : Expr) (dv : DV) : Prop where
  run : ∀ W, Takes X W → PE X e (tV X.K k W dv)
structure SC (e : Expr) (dc : DC) : Prop where
  run : ∀ W, Takes X W → PE X e (tC X.K k W dc)
structure ST (e : Expr) (dt : DT) : Prop where
  run : ∀ W, Takes X W → PT X e (tT X.K k W dt)
structure SS (st : Stmt) (ds : DS) : Prop where
  run : ∀ W, Takes X W → PassesOwn (model X.prog X.w) X.A X.env X.xe → PS X st (tS X.K k W ds)
structure SSs (st : List Stmt) (ds : DS) : Prop where
  run : ∀ W, Takes X W → PassesOwn (model X.prog X.w) X.A X.env X.xe → PSs X st (tS X.K k W ds)
end

section
variable {K : PySem.W.Frag} {k : Kc} {W : WX} {g g1 : Gs} {H H1 : Hp}
theorem exW.later {e : Ex} {s' : List Cell} (x : Ext g H g1 H1) (h : exW K k W g H e s') : exW K k W g1 H1 e s' := fun cls d g' sv' H' R y z => h cls d g' sv' H' R (x.trans y) z
end

/-! ### conversions -/
def vQ (dq : DQ) : DV := fun s => match dq s with
  | some (.sh d) => .ok d s
  | _ => .bad
def cV (dv : DV) : DC := fun s => match dv s with
  | .ok d s' => .ok (.sh d) s'
  | .ex e s' => .ex e s'
  | .bad => .bad
def vC (dc : DC) : DV := fun s => match dc s with
  | .ok c s' => match frzD c with
    | some d => .ok d s'
    | none => .bad
  | .ex e s' => .ex e s'
  | .bad => .bad
def tV' (dv : DV) : DT := fun s => match dv s with
  | .ok (.bl b) s' => .ok b s'
  | .ex e s' => .ex e s'
  | _ => .bad
def vT (dt : DT) : DV := fun s => match dt s with
  | .ok b s' => .ok (.bl b) s'
  | .ex e s' => .ex e s'
  | .bad => .bad
def qVar (i : Nat) : DQ := fun s => match s[i]? with
  | some .un => none
  | r => r
def vVar (i : Nat) : DV := fun s => match s[i]? with
  | some (.sh d) => .ok d s
  | some c => match frzD c with
    | some d => .ok d (s.set i (.sh d))
    | none => .bad
  | none => .bad
/-- the slot's whole content goes out -/
def cVar (i : Nat) : DC := fun s => match s[i]? with
  | some .un => .bad
  | some c => .ok c (s.set i .un)
  | none => .bad
def qC (d : D) : DQ := fun _ => some (.sh d)

section
variable {X : Cx} {k : Kc} {r : Nat} {e : Expr}
theorem SV.of_q {dq : DQ} (h : SQ X k r e dq) : SV X k e (vQ dq) := ⟨fun W _ => h.run.imp fun sv H Q hw => by
  obtain ⟨g, s, R, m⟩ := hw
  refine ⟨g, s, R, ?_⟩
  unfold vQ at m
  cases q : dq s with
  | none => rw [q] at m; exact m
  | some c =>
    rw [q] at m
    cases c with
    | sh d => exact fun v hv => m v g H R (Ext.refl _ _) hv
    | _ => exact m.elim⟩
theorem SC.of_v {dv : DV} (h : SV X k e dv) : SC X k e (cV dv) := ⟨fun W tk => (h.run W tk).imp fun sv H Q hw => by
  obtain ⟨g, s, R, m⟩ := hw
  refine ⟨g, s, R, ?_⟩
  unfold cV at m
  cases q : dv s with
  | bad => rw [q] at m; exact m
  | ex e s' => rw [q] at m; exact m
  | ok d s' =>
    rw [q] at m
    exact fun v g' H' R' x hv => m v g' H' (fun _ => none) R' x own_none hv⟩
theorem SV.of_c {dc : DC} (h : SC X k e dc) : SV X k e (vC dc) := ⟨fun W tk => (h.run W tk).imp fun sv H Q hw => by
  obtain ⟨g, s, R, m⟩ := hw
  refine ⟨g, s, R, ?_⟩
  unfold vC at m
  cases q : dc s with
  | bad => rw [q] at m; exact m
  | ex e s' => rw [q] at m; exact m
  | ok c s' =>
    rw [q] at m
    intro v g' H' t R' x o hv
    cases f : frzD c with
    | none =>
      simp only [f] at m
    | some d =>
      simp only [f] at m
      obtain ⟨R2, x2, sb, hh⟩ := R'.frz x o
      exact m v _ H' R2 x2 (frz_ok (g' := g'.frz t H') sb hh c [] v d f hv)⟩
theorem ST.of_v {dv : DV} (h : SV X k e dv) (he : ∀ whole, isTrue e X.env whole = (do let v ← whole; standAt e.pos; holding [v] (truthy v)) := by intro _; rfl) : ST X k e (tV' dv) := ⟨fun W tk => (pt_val (h.run W tk) he).imp fun sv H Q hw => by
  obtain ⟨g, s, R, m⟩ := hw
  refine ⟨g, s, R, ?_⟩
  unfold tV' at m
  cases q : dv s with
  | bad => rw [q] at m; exact m
  | ex e s' => rw [q] at m; exact m
  | ok d s' =>
    rw [q] at m
    cases d with
    | bl b => exact fun v g' H' R' x hv => ⟨b, hv, m g' H' R' x⟩
    | _ => exact m.elim⟩
theorem q_name {i : Nat} {x : Str} {pos : Pos} (hN : X.N[i]? = some x := by rfl) (hv : Vis X.env.scope x := by first | exact Or.inl rfl | exact Or.inr (Or.inl rfl) | exact Or.inr (Or.inr rfl)) (hd : (x == ("__debug__" : Str)) = false := by decide)
    (hcd : (x == ("__classdict__" : Str)) = false := by decide) : SQ X k i (.Name x pos) (qVar i) := ⟨(pe_var hN hv hd hcd).imp fun sv H Q hw => by
  obtain ⟨g, s, R, m⟩ := hw
  unfold qVar at m
  cases q : s[i]? with
  | none => rw [q] at m; exact m.elim
  | some c =>
    rw [q] at m
    have hn : c ≠ .un := fun z => by subst z; exact m
    have m : ∀ v, CV X.K k g H (fun _ a => ∃ q, g.w a = some (i, q)) [] c v → Q v H := by
      cases c <;> first | exact absurd rfl hn | exact m
    obtain ⟨v, e1, h1⟩ := R.cel i c q hn
    exact ⟨v, e1, m v (CV.mono0 h1 (Sub.refl _) (fun _ z => z) (fun a _ o e => e) (fun p a e => ⟨⟨p, e⟩, fun o e => e⟩))⟩⟩
theorem v_name {i : Nat} {x : Str} {pos : Pos} (hN : X.N[i]? = some x := by rfl) (hv : Vis X.env.scope x := by first | exact Or.inl rfl | exact Or.inr (Or.inl rfl) | exact Or.inr (Or.inr rfl)) (hd : (x == ("__debug__" : Str)) = false := by decide)
    (hcd : (x == ("__classdict__" : Str)) = false := by decide) : SV X k (.Name x pos) (vVar i) := ⟨fun W _ => (pe_var hN hv hd hcd).imp fun sv H Q hw => by
  obtain ⟨g, s, R, m⟩ := hw
  unfold vVar at m
  cases q : s[i]? with
  | none => rw [q] at m; exact m.elim
  | some c =>
    rw [q] at m
    have hn : c ≠ .un := fun z => by subst z; exact m
    obtain ⟨v, e1, h1⟩ := R.cel i c q hn
    have gen : ∀ d, frzD c = some d → (∀ v g' H', Rel X.K k g' (s.set i (.sh d)) sv H' → Ext g H g' H' → Rp X.K k g'.G d v → Q v H') → Q v H := fun d f m => by
      have R1 := R.drop i
      have o1 := Own.drop R i
      obtain ⟨R2, x2, sb, hh⟩ := R1.frz (Ext.drop i) o1
      have rp := frz_ok (g' := (g.drop i).frz (g.tk i) H) sb hh c [] v d f (R.drop_cv h1)
      obtain ⟨R3, x3⟩ := R2.put (i := i) (c := .sh d) (v := v) (t := fun _ => none) (sv' := sv) x2 R.fra own_none rp rfl e1 (fun _ _ => rfl) R2.pin
      rw [List.set_set] at R3
      exact m v _ H R3 x3 rp
    refine ⟨v, e1, ?_⟩
    cases c with
    | sh d => exact m v g H R (Ext.refl _ _) h1
    | un => exact absurd rfl hn
    | ol ds => exact gen _ rfl m
    | oi a b cs =>
      cases f : frzD (.oi a b cs) with
      | none => simp only [f] at m
      | some d =>
        simp only [f] at m
        exact gen d f m
    | bl _ => exact m.elim
    | bi _ _ _ => exact m.elim
    | xn _ => exact m.elim⟩
theorem c_name {i : Nat} {x : Str} {pos : Pos} (hN : X.N[i]? = some x := by rfl) (hv : Vis X.env.scope x := by first | exact Or.inl rfl | exact Or.inr (Or.inl rfl) | exact Or.inr (Or.inr rfl)) (hd : (x == ("__debug__" : Str)) = false := by decide)
    (hcd : (x == ("__classdict__" : Str)) = false := by decide) : SC X k (.Name x pos) (cVar i) := ⟨fun W _ => (pe_var hN hv hd hcd).imp fun sv H Q hw => by
  obtain ⟨g, s, R, m⟩ := hw
  unfold cVar at m
  cases q : s[i]? with
  | none => rw [q] at m; exact m.elim
  | some c =>
    rw [q] at m
    have hn : c ≠ .un := fun z => by subst z; exact m
    have m : ∀ v g' H' t, Rel X.K k g' (s.set i .un) sv H' → Ext g H g' H' → Own t g H g' H' → CV X.K k g' H' (fun p a => t a = some p) [] c v → Q v H' := by
      cases c <;> first | exact absurd rfl hn | exact m
    obtain ⟨v, e1, h1⟩ := R.cel i c q hn
    exact ⟨v, e1, m v _ H _ (R.drop i) (Ext.drop i) (Own.drop R i) (R.drop_cv h1)⟩⟩
theorem q_int {i j pos} : SQ X k r (.Constant (.int i) j pos) (qC (.int i)) := ⟨pe_int.imp fun _ _ _ ⟨_, _, _, m⟩ => m _ rfl⟩
theorem q_bl {b j pos} : SQ X k r (.Constant (.bool b) j pos) (qC (.bl b)) := ⟨pe_bl.imp fun _ _ _ ⟨_, _, _, m⟩ => m _ rfl⟩
theorem q_non {j pos} : SQ X k r (.Constant .none j pos) (qC .non) := ⟨pe_non.imp fun _ _ _ ⟨_, _, _, m⟩ => m _ rfl⟩
theorem q_str {x j pos} : SQ X k r (.Constant (.str x) j pos) (qC (.str x)) := ⟨pe_str.imp fun _ _ _ ⟨_, _, _, m⟩ => m _ rfl⟩
/-- a name of the module -/
theorem q_glob {x : Str} {d : D} {v : V} {u : Value} {pos : Pos} (hg : Gl X x) (hm : X.mg x = some u) (rv : RelV v u) (hd : ∀ G, Rp X.K k G d v) (hdb : (x == ("__debug__" : Str)) = false := by decide) : SQ X k r (.Name x pos) (qC d) :=
  ⟨(pe_glob hg hm rv hdb).imp fun _ _ _ ⟨_, _, _, m⟩ => m _ (hd _)⟩
end
end VL
end
section
set_option maxRecDepth 100000
set_option maxHeartbeats 2000000
/-! VL4: operators by values -/
namespace VL
open PySem PySem.Spec PyProof.Rows L2

/-! ### data for == -/
mutual
def py : D → PyData
  | .non => .none
  | .bl b => .bool b
  | .int i => .int i
  | .str s => .str s
  | .tup ds => .tuple (pyL ds)
  | .lst ds => .list (pyL ds)
  | .ins _ _ _ => .none
def pyL : List D → List PyData
  | [] => []
  | d :: ds => py d :: pyL ds
end
mutual
def okD : D → Nat → Bool
  | .non, _ => true
  | .bl _, _ => true
  | .int _, _ => true
  | .str s, _ => PyData.strOk s
  | .tup ds, n => match n with
    | 0 => false
    | n + 1 => okDL ds n
  | .lst ds, n => match n with
    | 0 => false
    | n + 1 => okDL ds n
  | .ins _ _ _, _ => false
def okDL : List D → Nat → Bool
  | [], _ => true
  | d :: ds, n => okD d n && okDL ds n
end
def eqD (d e : D) : Bool := PyData.eqv (py d) (py e)
def eqDL (d e : List D) : Bool := PyData.eqvAll (pyL d) (pyL e)
mutual
theorem okD_shape : ∀ (d : D) (n : Nat), okD d n = true → (py d).canLay0 = true ∧ (py d).depth ≤ n
  | .non, n, _ => ⟨rfl, Nat.zero_le _⟩
  | .bl _, n, _ => ⟨rfl, Nat.zero_le _⟩
  | .int _, n, _ => ⟨rfl, Nat.zero_le _⟩
  | .str s, n, h => ⟨by show PyData.canLay0 (.str s) = true; unfold PyData.canLay0; exact h, Nat.zero_le _⟩
  | .tup ds, n, h => by
    cases n with
    | zero => cases h
    | succ n =>
      obtain ⟨a, b⟩ := okDL_shape ds n h
      refine ⟨?_, ?_⟩
      · show PyData.canLay0 (.tuple (pyL ds)) = true
        unfold PyData.canLay0
        exact a
      · show PyData.depth (.tuple (pyL ds)) ≤ n + 1
        unfold PyData.depth
        omega
  | .lst ds, n, h => by
    cases n with
    | zero => cases h
    | succ n =>
      obtain ⟨a, b⟩ := okDL_shape ds n h
      refine ⟨?_, ?_⟩
      · show PyData.canLay0 (.list (pyL ds)) = true
        unfold PyData.canLay0
        exact a
      · show PyData.depth (.list (pyL ds)) ≤ n + 1
        unfold PyData.depth
        omega
  | .ins _ _ _, _, h => by cases h
theorem okDL_shape : ∀ (ds : List D) (n : Nat), okDL ds n = true → PyData.canLayAll0 (pyL ds) = true ∧ PyData.depthAll (pyL ds) ≤ n
  | [], n, _ => ⟨by show PyData.canLayAll0 [] = true; unfold PyData.canLayAll0; rfl, by show PyData.depthAll [] ≤ n; unfold PyData.depthAll; omega⟩
  | d :: ds, n, h => by
    have h : (okD d n && okDL ds n) = true := h
    rw [Bool.and_eq_true] at h
    obtain ⟨a1, b1⟩ := okD_shape d n h.1
    obtain ⟨a2, b2⟩ := okDL_shape ds n h.2
    refine ⟨?_, ?_⟩
    · show PyData.canLayAll0 (py d :: pyL ds) = true
      unfold PyData.canLayAll0
      rw [a1, a2]
      rfl
    · show PyData.depthAll (py d :: pyL ds) ≤ n
      unfold PyData.depthAll
      omega
end
theorem okD_shaped {d : D} {n : Nat} (h : okD d n = true) (hn : n ≤ 64) : SeqAt.shaped (py d) = true := by
  obtain ⟨a, b⟩ := okD_shape d n h
  unfold SeqAt.shaped
  rw [a, decide_eq_true (Nat.le_trans b hn)]
  rfl
section
variable {K : PySem.W.Frag} {k : Kc} {G H : Hp}
mutual
theorem Rp.dp (sb : Sub G H) : ∀ (d : D) (n : Nat) (v : V), okD d n = true → Rp K k G d v → Dp K H v (py d)
  | .non, _, _, _, h => by cases (show _ = V.non from h); exact .non
  | .bl b, _, _, _, h => by cases (show _ = V.bl b from h); exact .bl b
  | .int i, _, _, _, h => by cases (show _ = V.int i from h); exact .int i
  | .str s, _, _, _, h => by cases (show _ = V.str s from h); exact .str s
  | .tup ds, n, _, o, h => by
    obtain ⟨p, vs, e, h1, h2⟩ := h
    subst e
    cases n with
    | zero => cases o
    | succ n => exact .tup (sb.seqT h1) (RpL.dp sb ds n vs o h2)
  | .lst ds, n, _, o, h => by
    obtain ⟨p, vs, e, h1, h2⟩ := h
    subst e
    cases n with
    | zero => cases o
    | succ n => exact .lst (SqL.of (sb _ _ h1)) (RpL.dp sb ds n vs o h2)
  | .ins _ _ _, _, _, o, _ => by cases o
theorem RpL.dp (sb : Sub G H) : ∀ (ds : List D) (n : Nat) (vs : List V), okDL ds n = true → RpL K k G ds vs → DpAll K H vs (pyL ds)
  | [], _, _, _, h => by
    cases (show _ = [] from h)
    exact .nil
  | d :: ds, n, _, o, h => by
    have o : (okD d n && okDL ds n) = true := o
    rw [Bool.and_eq_true] at o
    obtain ⟨v, w, e, h1, h2⟩ := h
    subst e
    exact .cons (Rp.dp sb d n v o.1 h1) (RpL.dp sb ds n w o.2 h2)
end
end

/-! ### a cell read as data -/
def dat : Cell → Option D
  | .sh d => some d
  | .ol ds => some (.lst ds)
  | .bl ds => some (.lst ds)
  | _ => none
/-- the items of a list or tuple -/
def its : Cell → Option (List D)
  | .sh (.tup ds) => some ds
  | .sh (.lst ds) => some ds
  | .ol ds => some ds
  | .bl ds => some ds
  | _ => none
section
variable {K : PySem.W.Frag} {k : Kc} {g : Gs} {H : Hp} {ow : List Nat → Addr → Prop} {p : List Nat}
theorem CV.its (sb : Sub g.G H) {c : Cell} {ds : List D} {v : V} (e : its c = some ds) (h : CV K k g H ow p c v) : ∃ a vs, v = .ref a ∧ (SqL K H a vs ∨ SqT K H a vs) ∧ RpL K k g.G ds vs := by
  unfold VL.its at e
  cases c with
  | sh d =>
    cases d with
    | tup es =>
      cases e
      obtain ⟨a, vs, e, h1, h2⟩ := h
      exact ⟨a, vs, e, .inr (sb.seqT h1), h2⟩
    | lst es =>
      cases e
      obtain ⟨a, vs, e, h1, h2⟩ := h
      exact ⟨a, vs, e, .inl (SqL.of (sb _ _ h1)), h2⟩
    | _ => cases e
  | ol es =>
    cases e
    obtain ⟨a, vs, e, h1, h2, h3⟩ := h
    exact ⟨a, vs, e, .inl (SqL.of h2), h3⟩
  | bl es =>
    cases e
    obtain ⟨a, vs, e, h1, h2, h3⟩ := h
    exact ⟨a, vs, e, .inl h2, h3⟩
  | _ => cases e
theorem CV.dp (sb : Sub g.G H) {c : Cell} {d : D} {v : V} {n : Nat} (e : dat c = some d) (o : okD d n = true) (h : CV K k g H ow p c v) : Dp K H v (py d) := by
  unfold dat at e
  cases c with
  | sh d' =>
    cases e
    exact Rp.dp sb d n v o h
  | ol es =>
    cases e
    obtain ⟨a, vs, e, h1, h2, h3⟩ := h
    subst e
    cases n with
    | zero => cases o
    | succ n => exact .lst (SqL.of h2) (RpL.dp sb es n vs o h3)
  | bl es =>
    cases e
    obtain ⟨a, vs, e, h1, h2, h3⟩ := h
    subst e
    cases n with
    | zero => cases o
    | succ n => exact .lst h2 (RpL.dp sb es n vs o h3)
  | _ => cases e
end

/-! ### operators of two values -/
abbrev Op2 := Cell → Cell → Option D
structure R2S (K : PySem.W.Frag) (r : R2) (op : Op2) : Prop where
  run : ∀ (k : Kc) (g : Gs) (H : Hp) (ow ow' : List Nat → Addr → Prop) (c1 c2 : Cell) (d : D) (v1 v2 : V) (Q : VK), Sub g.G H → op c1 c2 = some d → CV K k g H ow [] c1 v1 → CV K k g H ow' [] c2 v2 → (∀ v, Rp K k g.G d v → Q v H) → r v1 v2 H Q
def opI (f : Int → Int → D) : Op2 := fun a b => match a, b with
  | .sh (.int i), .sh (.int j) => some (f i j)
  | _, _ => none
def opIc (C : Int → Int → Bool) (f : Int → Int → D) : Op2 := fun a b => match a, b with
  | .sh (.int i), .sh (.int j) => if C i j = true then some (f i j) else none
  | _, _ => none
section
variable {K : PySem.W.Frag}
theorem r2_int (f : Int → Int → Int) : R2S K (rI0 fun i j => .int (f i j)) (opI fun i j => .int (f i j)) := ⟨fun k g H ow ow' c1 c2 d v1 v2 Q sb e h1 h2 q => by
  unfold opI at e
  split at e
  · cases e
    exact ⟨_, _, h1, h2, q _ rfl⟩
  · cases e⟩
theorem r2_bool (f : Int → Int → Bool) : R2S K (rI0 fun i j => .bl (f i j)) (opI fun i j => .bl (f i j)) := ⟨fun k g H ow ow' c1 c2 d v1 v2 Q sb e h1 h2 q => by
  unfold opI at e
  split at e
  · cases e
    exact ⟨_, _, h1, h2, q _ rfl⟩
  · cases e⟩
theorem r2_intc {C : Int → Int → Prop} {B : Int → Int → Bool} (hB : ∀ i j, B i j = true → C i j) (f : Int → Int → Int) : R2S K (rI C fun i j => .int (f i j)) (opIc B fun i j => .int (f i j)) := ⟨fun k g H ow ow' c1 c2 d v1 v2 Q sb e h1 h2 q => by
  unfold opIc at e
  split at e
  · split at e
    · rename_i hb
      cases e
      exact ⟨_, _, h1, h2, hB _ _ hb, q _ rfl⟩
    · cases e
  · cases e⟩
end
def oAdd : Op2 := opI fun i j => .int (i + j)
def oSub : Op2 := opI fun i j => .int (i - j)
def bMul (i j : Int) : Bool := (decide (-18446744073709551616 < i) && decide (i < 18446744073709551616)) || (decide (-18446744073709551616 < j) && decide (j < 18446744073709551616))
def oMul : Op2 := opIc bMul fun i j => .int (i * j)
def bDiv (i j : Int) : Bool := decide (0 < j) && decide (j < 1073741824)
def oDiv : Op2 := opIc bDiv fun i j => .int (i / j)
def bMod (i j : Int) : Bool := decide (0 < j)
def oMod : Op2 := opIc bMod fun i j => .int (i % j)
def oLt : Op2 := opI fun i j => .bl (decide (i < j))
def oLe : Op2 := opI fun i j => .bl (decide (i ≤ j))
def oGt : Op2 := opI fun i j => .bl (decide (j < i))
def oGe : Op2 := opI fun i j => .bl (decide (j ≤ i))
theorem bMul_ok (i j : Int) (h : bMul i j = true) : CMul i j := by
  unfold bMul at h
  simp only [Bool.or_eq_true, Bool.and_eq_true, decide_eq_true_eq] at h
  unfold CMul
  have e : (2 : Int) ^ 64 = 18446744073709551616 := by decide
  rw [e]
  exact h
theorem bDiv_ok (i j : Int) (h : bDiv i j = true) : CDiv i j := by
  unfold bDiv at h
  simp only [Bool.and_eq_true, decide_eq_true_eq] at h
  exact h
theorem bMod_ok (i j : Int) (h : bMod i j = true) : 0 < j := of_decide_eq_true h

/-- == of scalars as HandS's op_eq has it -/
def sEq : D → D → Option Bool
  | .non, .non => some true
  | .non, .int _ => some false | .int _, .non => some false
  | .non, .bl _ => some false | .bl _, .non => some false
  | .non, .str _ => some false | .str _, .non => some false
  | .int i, .int j => some (decide (i = j))
  | .bl a, .bl b => some (decide (a = b))
  | .str a, .str b => some (decide (a = b))
  | .int _, .str _ => some false | .str _, .int _ => some false
  | .bl _, .str _ => some false | .str _, .bl _ => some false
  | _, _ => none
def eqC (a b : Cell) : Option Bool := match dat a, dat b with
  | some d, some e => match sEq d e with
    | some r => some r
    | none => if (okD d 8 && okD e 8) = true then some (eqD d e) else none
  | _, _ => none
def oEq : Op2 := fun a b => (eqC a b).map D.bl
def oNe : Op2 := fun a b => (eqC a b).map fun r => D.bl (!r)
abbrev rEq2 (K : PySem.W.Frag) : R2 := fun x y H Q => rEq x y H Q ∨ rEqD K x y H Q
abbrev rNe2 (K : PySem.W.Frag) : R2 := fun x y H Q => rNe x y H Q ∨ rNeD K x y H Q
theorem sEq_ok {K : PySem.W.Frag} {k : Kc} {G : Hp} {d e : D} {b : Bool} {v u : V} (h : sEq d e = some b) (hv : Rp K k G d v) (hu : Rp K k G e u) : scal v u = true ∧ decide (v = u) = b := by
  unfold sEq at h
  split at h <;> first
    | (cases h; done)
    | (cases h
       have hv := hv
       have hu := hu
       simp only [Rp] at hv hu
       subst hv hu
       refine ⟨rfl, ?_⟩
       simp)
theorem eqC_ok {K : PySem.W.Frag} {k : Kc} {g : Gs} {H : Hp} {ow ow' : List Nat → Addr → Prop} {a b : Cell} {r : Bool} {v u : V} (sb : Sub g.G H) (h : eqC a b = some r) (hv : CV K k g H ow [] a v) (hu : CV K k g H ow' [] b u) :
    (scal v u = true ∧ decide (v = u) = r) ∨ ∃ d e, Dp K H v d ∧ Dp K H u e ∧ SeqAt.shaped d = true ∧ SeqAt.shaped e = true ∧ PyData.eqv d e = r := by
  unfold eqC at h
  cases ha : dat a with
  | none => rw [ha] at h; cases h
  | some d =>
    cases hb : dat b with
    | none => rw [ha, hb] at h; cases h
    | some e =>
      rw [ha, hb] at h
      have h : (match sEq d e with
        | some r => some r
        | none => if (okD d 8 && okD e 8) = true then some (eqD d e) else none) = some r := h
      cases hs : sEq d e with
      | some q =>
        rw [hs] at h
        cases h
        have na : ∀ {c : Cell} {d : D} {w : V} {o : List Nat → Addr → Prop}, dat c = some d → (∀ ds, d ≠ .lst ds) → CV K k g H o [] c w → Rp K k g.G d w := fun {c d w o} e1 nl hc => by
          cases c with
          | sh d' => cases e1; exact hc
          | ol es => cases e1; exact absurd rfl (nl es)
          | bl es => cases e1; exact absurd rfl (nl es)
          | _ => cases e1
        have hd : ∀ ds, d ≠ .lst ds := fun ds z => by subst z; cases e <;> cases hs
        have he : ∀ ds, e ≠ .lst ds := fun ds z => by subst z; cases d <;> cases hs
        exact .inl (sEq_ok hs (na ha hd hv) (na hb he hu))
      | none =>
        rw [hs] at h
        simp only at h
        split at h
        · rename_i ho
          cases h
          rw [Bool.and_eq_true] at ho
          exact .inr ⟨py d, py e, CV.dp sb ha ho.1 hv, CV.dp sb hb ho.2 hu, okD_shaped ho.1 (by decide), okD_shaped ho.2 (by decide), rfl⟩
        · cases h
section
variable {K : PySem.W.Frag}
theorem r2_eq : R2S K (rEq2 K) oEq := ⟨fun k g H ow ow' c1 c2 d v1 v2 Q sb e h1 h2 q => by
  unfold oEq at e
  cases z : eqC c1 c2 with
  | none => rw [z] at e; cases e
  | some r =>
    rw [z] at e
    cases e
    rcases eqC_ok sb z h1 h2 with ⟨a, b⟩ | ⟨d, e, a1, a2, a3, a4, b⟩
    · exact .inl ⟨a, by rw [b]; exact q _ rfl⟩
    · exact .inr ⟨d, e, a1, a2, a3, a4, by rw [b]; exact q _ rfl⟩⟩
theorem r2_ne : R2S K (rNe2 K) oNe := ⟨fun k g H ow ow' c1 c2 d v1 v2 Q sb e h1 h2 q => by
  unfold oNe at e
  cases z : eqC c1 c2 with
  | none => rw [z] at e; cases e
  | some r =>
    rw [z] at e
    cases e
    rcases eqC_ok sb z h1 h2 with ⟨a, b⟩ | ⟨d, e, a1, a2, a3, a4, b⟩
    · exact .inl ⟨a, by rw [b]; exact q _ rfl⟩
    · exact .inr ⟨d, e, a1, a2, a3, a4, by rw [b]; exact q _ rfl⟩⟩
/-- is None -/
def isN : Cell → Option Bool
  | .un => none
  | .sh .non => some true
  | _ => some false
def oIsN : Op2 := fun a b => match b with
  | .sh .non => (isN a).map D.bl
  | _ => none
def oNotN : Op2 := fun a b => match b with
  | .sh .non => (isN a).map fun r => D.bl (!r)
  | _ => none
theorem isN_ok {k : Kc} {g : Gs} {H : Hp} {ow : List Nat → Addr → Prop} {a : Cell} {r : Bool} {v : V} (h : isN a = some r) (hv : CV K k g H ow [] a v) : decide (v = .non) = r := by
  have nr : ∀ {x : Addr}, v = .ref x → decide (v = V.non) = false := fun e => by rw [e]; rfl
  cases a with
  | un => cases h
  | sh d =>
    cases d with
    | non => cases h; cases (show v = .non from hv); rfl
    | bl b => cases h; cases (show v = .bl b from hv); rfl
    | int i => cases h; cases (show v = .int i from hv); rfl
    | str s => cases h; cases (show v = .str s from hv); rfl
    | tup ds => cases h; obtain ⟨p, vs, e, _⟩ := hv; exact nr e
    | lst ds => cases h; obtain ⟨p, vs, e, _⟩ := hv; exact nr e
    | ins c ns ds => cases h; obtain ⟨p, dx, fs, e, _⟩ := hv; exact nr e
  | ol ds => cases h; obtain ⟨p, vs, e, _⟩ := hv; exact nr e
  | bl ds => cases h; obtain ⟨p, vs, e, _⟩ := hv; exact nr e
  | oi c ns cs => cases h; obtain ⟨p, dx, fs, e, _⟩ := hv; exact nr e
  | bi c ns cs => cases h; obtain ⟨p, dx, fs, e, _⟩ := hv; exact nr e
  | xn e => cases h; obtain ⟨p, _, _, e, _⟩ := hv; exact nr e
theorem r2_isN : R2S K (fun x y H Q => y = .non ∧ Q (.bl (decide (x = .non))) H) oIsN := ⟨fun k g H ow ow' c1 c2 d v1 v2 Q sb e h1 h2 q => by
  unfold oIsN at e
  split at e
  · cases z : isN c1 with
    | none => rw [z] at e; cases e
    | some r =>
      rw [z] at e
      cases e
      exact ⟨h2, by rw [isN_ok z h1]; exact q _ rfl⟩
  · cases e⟩
theorem r2_notN : R2S K (fun x y H Q => y = .non ∧ Q (.bl (!decide (x = .non))) H) oNotN := ⟨fun k g H ow ow' c1 c2 d v1 v2 Q sb e h1 h2 q => by
  unfold oNotN at e
  split at e
  · cases z : isN c1 with
    | none => rw [z] at e; cases e
    | some r =>
      rw [z] at e
      cases e
      exact ⟨h2, by rw [isN_ok z h1]; exact q _ rfl⟩
  · cases e⟩
/-! in -/
def flt : D → Option V
  | .non => some .non
  | .bl b => some (.bl b)
  | .int i => some (.int i)
  | .str s => some (.str s)
  | _ => none
def fltL : List D → Option (List V)
  | [] => some []
  | d :: ds => match flt d, fltL ds with
    | some v, some vs => some (v :: vs)
    | _, _ => none
theorem flt_ok {k : Kc} {G : Hp} {d : D} {u v : V} (h : flt d = some u) (hv : Rp K k G d v) : v = u ∧ flatV u = true := by
  cases d <;> cases h <;> exact ⟨hv, rfl⟩
theorem fltL_ok {k : Kc} {G : Hp} : ∀ {ds : List D} {us vs : List V}, fltL ds = some us → RpL K k G ds vs → vs = us ∧ us.all flatV = true
  | [], us, vs, h, hv => by
    cases h
    exact ⟨hv, rfl⟩
  | d :: ds, us, vs, h, hv => by
    unfold fltL at h
    cases e1 : flt d with
    | none => rw [e1] at h; cases h
    | some u =>
      cases e2 : fltL ds with
      | none => rw [e1, e2] at h; cases h
      | some us' =>
        rw [e1, e2] at h
        cases h
        obtain ⟨v, w, e, h1, h2⟩ := hv
        obtain ⟨a1, a2⟩ := flt_ok e1 h1
        obtain ⟨b1, b2⟩ := fltL_ok e2 h2
        subst a1 b1
        refine ⟨e, ?_⟩
        rw [List.all_cons, a2, b2]
        rfl
def inC (a b : Cell) : Option Bool := match a with
  | .sh d => match flt d, its b with
    | some v, some ds => match fltL ds with
      | some vs => some (inV v vs)
      | none => none
    | _, _ => none
  | _ => none
def oIn : Op2 := fun a b => (inC a b).map D.bl
def oNotIn : Op2 := fun a b => (inC a b).map fun r => D.bl (!r)
theorem inC_ok {k : Kc} {g : Gs} {H : Hp} {ow ow' : List Nat → Addr → Prop} {a b : Cell} {r : Bool} {v u : V} (sb : Sub g.G H) (h : inC a b = some r) (hv : CV K k g H ow [] a v) (hu : CV K k g H ow' [] b u) :
    ∃ p xs, u = .ref p ∧ (SqL K H p xs ∨ SqT K H p xs) ∧ flatV v = true ∧ xs.all flatV = true ∧ inV v xs = r := by
  unfold inC at h
  cases a with
  | sh d =>
    cases e1 : flt d with
    | none => simp only [e1] at h; cases h
    | some w =>
      cases e2 : its b with
      | none => simp only [e1, e2] at h; cases h
      | some ds =>
        cases e3 : fltL ds with
        | none => simp only [e1, e2, e3] at h; cases h
        | some vs =>
          simp only [e1, e2, e3] at h
          cases h
          obtain ⟨p, ws, e, hs, hr⟩ := CV.its sb e2 hu
          obtain ⟨a1, a2⟩ := flt_ok e1 hv
          obtain ⟨b1, b2⟩ := fltL_ok e3 hr
          subst a1 b1
          exact ⟨p, _, e, hs, a2, b2, rfl⟩
  | _ => cases h
theorem r2_in : R2S K (rIn K false) oIn := ⟨fun k g H ow ow' c1 c2 d v1 v2 Q sb e h1 h2 q => by
  unfold oIn at e
  cases z : inC c1 c2 with
  | none => rw [z] at e; cases e
  | some r =>
    rw [z] at e
    cases e
    obtain ⟨p, xs, e, hs, a, b, c⟩ := inC_ok sb z h1 h2
    exact ⟨p, xs, e, hs, a, b, by rw [if_neg Bool.false_ne_true, c]; exact q _ rfl⟩⟩
theorem r2_notIn : R2S K (rIn K true) oNotIn := ⟨fun k g H ow ow' c1 c2 d v1 v2 Q sb e h1 h2 q => by
  unfold oNotIn at e
  cases z : inC c1 c2 with
  | none => rw [z] at e; cases e
  | some r =>
    rw [z] at e
    cases e
    obtain ⟨p, xs, e, hs, a, b, c⟩ := inC_ok sb z h1 h2
    exact ⟨p, xs, e, hs, a, b, by rw [if_pos rfl, c]; exact q _ rfl⟩⟩
/-- one sign in a text -/
def inS (a b : Cell) : Option Bool := match a, b with
  | .sh (.str c), .sh (.str z) => match c with
    | ⟨⟨[x]⟩⟩ => some (decide (x ∈ z.cps.toList))
    | _ => none
  | _, _ => none
def oInS : Op2 := fun a b => (inS a b).map D.bl
def oNotInS : Op2 := fun a b => (inS a b).map fun r => D.bl (!r)
theorem inS_ok {k : Kc} {g : Gs} {H : Hp} {ow ow' : List Nat → Addr → Prop} {a b : Cell} {r : Bool} {v u : V} (h : inS a b = some r) (hv : CV K k g H ow [] a v) (hu : CV K k g H ow' [] b u) :
    ∃ (c : Nat) (z : Str), v = .str ⟨#[c]⟩ ∧ u = .str z ∧ decide (c ∈ z.cps.toList) = r := by
  unfold inS at h
  split at h
  · split at h
    · cases h
      exact ⟨_, _, hv, hu, rfl⟩
    · cases h
  · cases h
theorem r2_inS : R2S K (fun x y H Q => ∃ (c : Nat) (z : Str), x = .str ⟨#[c]⟩ ∧ y = .str z ∧ Q (.bl (decide (c ∈ z.cps.toList))) H) oInS := ⟨fun k g H ow ow' c1 c2 d v1 v2 Q sb e h1 h2 q => by
  unfold oInS at e
  cases z : inS c1 c2 with
  | none => rw [z] at e; cases e
  | some r =>
    rw [z] at e
    cases e
    obtain ⟨c, w, e1, e2, e3⟩ := inS_ok z h1 h2
    exact ⟨c, w, e1, e2, by rw [e3]; exact q _ rfl⟩⟩
theorem r2_notInS : R2S K (fun x y H Q => ∃ (c : Nat) (z : Str), x = .str ⟨#[c]⟩ ∧ y = .str z ∧ Q (.bl (!decide (c ∈ z.cps.toList))) H) oNotInS := ⟨fun k g H ow ow' c1 c2 d v1 v2 Q sb e h1 h2 q => by
  unfold oNotInS at e
  cases z : inS c1 c2 with
  | none => rw [z] at e; cases e
  | some r =>
    rw [z] at e
    cases e
    obtain ⟨c, w, e1, e2, e3⟩ := inS_ok z h1 h2
    exact ⟨c, w, e1, e2, by rw [e3]; exact q _ rfl⟩⟩
/-! a subscript -/
def oIx : Op2 := fun a b => match b with
  | .sh (.int i) => match a with
    | .sh (.str z) => if z.length ≤ 16777216 then (atI z.cps.toList i).map fun c => D.str ⟨#[c]⟩ else none
    | c => match its c with
      | some ds => atI ds i
      | none => none
  | _ => none
theorem atI_rp {k : Kc} {G : Hp} {ds : List D} {vs : List V} {i : Int} {d : D} (h : RpL K k G ds vs) (e : atI ds i = some d) : ∃ v, atI vs i = some v ∧ Rp K k G d v := by
  unfold atI at e ⊢
  rw [← h.length]
  cases q : ixN ds.length i with
  | none => rw [q] at e; cases e
  | some j =>
    rw [q] at e
    exact h.at e
theorem r2_ix : R2S K (rIx K) oIx := ⟨fun k g H ow ow' c1 c2 d v1 v2 Q sb e h1 h2 q => by
  unfold oIx at e
  split at e
  · rename_i i
    split at e
    · rename_i z
      split at e
      · rename_i hz
        cases q2 : atI z.cps.toList i with
        | none => rw [q2] at e; cases e
        | some c =>
          rw [q2] at e
          cases e
          exact .inr (.inr ⟨z, i, c, h1, h2, by rw [sizeLine_eq]; exact hz, q2, q _ rfl⟩)
      · cases e
    · split at e
      · rename_i ds hi
        obtain ⟨a, vs, ev, hs, hr⟩ := CV.its sb hi h1
        obtain ⟨v, hv, rv⟩ := atI_rp hr e
        rcases hs with hs | hs
        · exact .inl ⟨a, vs, i, v, ev, h2, hs, hv, q _ rv⟩
        · exact .inr (.inl ⟨a, vs, i, v, ev, h2, hs, hv, q _ rv⟩)
      · cases e
  · cases e⟩
end
end VL
end
section
set_option maxRecDepth 100000
set_option maxHeartbeats 2000000
/-! VL5: expressions -/
namespace VL
open PySem PySem.Spec PyProof.Rows L2

def O.bind {α β : Type} : O α → (α → List Cell → O β) → O β
  | .ok a s, f => f a s
  | .ex e s, _ => .ex e s
  | .bad, _ => .bad
theorem O.bind_ok {α β : Type} (a : α) (s : List Cell) (f : α → List Cell → O β) : (O.ok a s).bind f = f a s := rfl
theorem O.bind_ex {α β : Type} (e : Ex) (s : List Cell) (f : α → List Cell → O β) : (O.ex e s : O α).bind f = .ex e s := rfl
theorem O.bind_bad {α β : Type} (f : α → List Cell → O β) : (O.bad : O α).bind f = .bad := rfl
def optO {α : Type} : Option α → List Cell → O α
  | some a, s => .ok a s
  | none, _ => .bad
theorem O.bind_eq_ok {α β : Type} {x : O α} {f : α → List Cell → O β} {b : β} {s : List Cell} (h : x.bind f = .ok b s) : ∃ a s1, x = .ok a s1 ∧ f a s1 = .ok b s := by
  cases x with
  | ok a s1 => exact ⟨a, s1, rfl, h⟩
  | ex e s1 => cases h
  | bad => cases h

/-! ### two operands -/
def qOp (op : Op2) (da db : DQ) : DQ := fun s => match da s, db s with
  | some a, some b => (op a b).map Cell.sh
  | _, _ => none
def vOp (op : Op2) (da db : DV) : DV := fun s => (da s).bind fun a s1 => (db s1).bind fun b s2 => optO (op (.sh a) (.sh b)) s2
section
variable {K : PySem.W.Frag} {k : Kc} {W : WX} {r : R2} {op : Op2} {sv : L2.St} {H : Hp} {Q : VK}
theorem tOp_q {ra rb rc : Nat} {da db : DQ} (S : R2S K r op) (h : tQ K k rc (qOp op da db) sv H Q) : tOp r (tQ K k ra da) (tQ K k rb db) sv H Q := by
  obtain ⟨g, s, R, m⟩ := h
  unfold qOp at m
  cases ea : da s with
  | none => rw [ea] at m; exact m.elim
  | some a =>
    cases eb : db s with
    | none => rw [ea, eb] at m; exact m.elim
    | some b =>
      cases eo : op a b with
      | none => simp only [ea, eb, eo, Option.map_none] at m
      | some d =>
        simp only [ea, eb, eo, Option.map_some] at m
        refine ⟨g, s, R, ?_⟩
        rw [ea]
        intro x hx
        refine ⟨g, s, R, ?_⟩
        rw [eb]
        intro y hy
        exact S.run k g H _ _ a b d x y Q R.sub eo hx hy fun v hv => m v hv
theorem tOp_v {da db : DV} (S : R2S K r op) (h : tV K k W (vOp op da db) sv H Q) : tOp r (tV K k W da) (tV K k W db) sv H Q := by
  obtain ⟨g, s, R, m⟩ := h
  unfold vOp at m
  refine ⟨g, s, R, ?_⟩
  cases ea : da s with
  | bad => rw [ea] at m; exact m
  | ex e s' => rw [ea] at m; exact m
  | ok a s1 =>
    rw [ea, O.bind_ok] at m
    intro x g1 H1 R1 x1 hx
    refine ⟨g1, s1, R1, ?_⟩
    cases eb : db s1 with
    | bad => rw [eb] at m; exact m
    | ex e s' => rw [eb] at m; exact exW.later x1 m
    | ok b s2 =>
      rw [eb, O.bind_ok] at m
      intro y g2 H2 R2 x2 hy
      cases eo : op (.sh a) (.sh b) with
      | none => rw [eo] at m; exact m.elim
      | some d =>
        rw [eo] at m
        exact S.run k g2 H2 (fun _ _ => False) (fun _ _ => False) (.sh a) (.sh b) d x y Q R2.sub eo (Rp.mono x2.G a x hx) hy fun v hv => m v g2 H2 R2 (x1.trans x2) hv
end
section
variable {X : Cx} {k : Kc} {a b : Expr} {pos : Pos} {ra rb rc : Nat}
theorem q_bin {o : Operator} {r : R2} {op : Op2} {da db : DQ} (ho : OpR X (binaryOp o) r) (S : R2S X.K r op) (ha : SQ X k ra a da) (hb : SQ X k rb b db) : SQ X k rc (.BinOp a o b pos) (qOp op da db) := ⟨(pe_op ho ha.run hb.run).imp fun _ _ _ h => tOp_q S h⟩
theorem v_bin {o : Operator} {r : R2} {op : Op2} {da db : DV} (ho : OpR X (binaryOp o) r) (S : R2S X.K r op) (ha : SV X k a da) (hb : SV X k b db) : SV X k (.BinOp a o b pos) (vOp op da db) := ⟨fun W tk => (pe_op ho (ha.run W tk) (hb.run W tk)).imp fun _ _ _ h => tOp_v S h⟩
theorem q_cmp {o : CmpOp} {r : R2} {op : Op2} {da db : DQ} (ho : OpR X (compareOp o) r) (S : R2S X.K r op) (ha : SQ X k ra a da) (hb : SQ X k rb b db) (hm : behindInMarks o b = false := by rfl) : SQ X k rc (.Compare a [o] [b] pos) (qOp op da db) := ⟨(pe_cmpR ho ha.run hb.run hm).imp fun _ _ _ h => tOp_q S h⟩
theorem v_cmp {o : CmpOp} {r : R2} {op : Op2} {da db : DV} (ho : OpR X (compareOp o) r) (S : R2S X.K r op) (ha : SV X k a da) (hb : SV X k b db) (hm : behindInMarks o b = false := by rfl) : SV X k (.Compare a [o] [b] pos) (vOp op da db) := ⟨fun W tk => (pe_cmpR ho (ha.run W tk) (hb.run W tk) hm).imp fun _ _ _ h => tOp_v S h⟩
theorem tT_q {r : Nat} {dq : DQ} {W : WX} {sv : L2.St} {H : Hp} {Q : Bool → Hp → Prop} (h : tT X.K k W (tV' (vQ dq)) sv H Q) : tQ X.K k r dq sv H (fun x H' => ∃ b, x = .bl b ∧ Q b H') := by
  obtain ⟨g, s, R, m⟩ := h
  refine ⟨g, s, R, ?_⟩
  unfold tV' vQ at m
  cases q : dq s with
  | none => rw [q] at m; exact m
  | some c =>
    rw [q] at m
    cases c with
    | sh d =>
      cases d with
      | bl b => exact fun v hv => ⟨b, hv, m g H R (Ext.refl _ _)⟩
      | _ => exact m.elim
    | _ => exact m.elim
theorem tT_v {dv : DV} {W : WX} {sv : L2.St} {H : Hp} {Q : Bool → Hp → Prop} (h : tT X.K k W (tV' dv) sv H Q) : tV X.K k W dv sv H (fun x H' => ∃ b, x = .bl b ∧ Q b H') := by
  obtain ⟨g, s, R, m⟩ := h
  refine ⟨g, s, R, ?_⟩
  unfold tV' at m
  cases q : dv s with
  | bad => rw [q] at m; exact m
  | ex e s' => rw [q] at m; exact m
  | ok d s' =>
    rw [q] at m
    cases d with
    | bl b => exact fun v g' H' R' x hv => ⟨b, hv, m g' H' R' x⟩
    | _ => exact m.elim
theorem t_cmpQ {o : CmpOp} {r : R2} {op : Op2} {da db : DQ} (ho : OpR X (compareOp o) r) (S : R2S X.K r op) (ha : SQ X k ra a da) (hb : SQ X k rb b db) (hm : behindInMarks o b = false := by rfl) : ST X k (.Compare a [o] [b] pos) (tV' (vQ (qOp op da db))) :=
  ⟨fun W tk => (pt_cmpR ho ha.run hb.run hm).imp fun _ _ _ h => tOp_q (rc := 0) S (tT_q h)⟩
theorem t_cmpV {o : CmpOp} {r : R2} {op : Op2} {da db : DV} (ho : OpR X (compareOp o) r) (S : R2S X.K r op) (ha : SV X k a da) (hb : SV X k b db) (hm : behindInMarks o b = false := by rfl) : ST X k (.Compare a [o] [b] pos) (tV' (vOp op da db)) :=
  ⟨fun W tk => (pt_cmpR ho (ha.run W tk) (hb.run W tk) hm).imp fun _ _ _ h => tOp_v S (tT_v h)⟩
theorem q_ix {da db : DQ} (ha : SQ X k ra a da) (hb : SQ X k rb b db) (hs : PlainIx b := by intro _ _; rfl) : SQ X k rc (.Subscript a b pos) (qOp oIx da db) := ⟨(pe_ix ix_seq ha.run hb.run hs).imp fun _ _ _ h => tOp_q r2_ix h⟩
theorem v_ix {da db : DV} (ha : SV X k a da) (hb : SV X k b db) (hs : PlainIx b := by intro _ _; rfl) : SV X k (.Subscript a b pos) (vOp oIx da db) := ⟨fun W tk => (pe_ix ix_seq (ha.run W tk) (hb.run W tk) hs).imp fun _ _ _ h => tOp_v r2_ix h⟩
/-- x[e], x a name, e may change what stands (not x's slot's value) -/
def vIxN (op : Op2) (i : Nat) (db : DV) : DV := fun s => match s[i]? with
  | some .un => .bad
  | none => .bad
  | some _ => (db s).bind fun b s1 => match s1[i]? with
    | some .un => .bad
    | some c => optO (op c (.sh b)) s1
    | none => .bad
theorem v_ixN {i : Nat} {x : Str} {p : Pos} {db : DV} (hN : X.N[i]? = some x := by rfl) (hv : Vis X.env.scope x := by first | exact Or.inl rfl | exact Or.inr (Or.inl rfl) | exact Or.inr (Or.inr rfl)) (hb : SV X k b db) (hd : (x == ("__debug__" : Str)) = false := by decide)
    (hcd : (x == ("__classdict__" : Str)) = false := by decide) (hs : PlainIx b := by intro _ _; rfl) : SV X k (.Subscript (.Name x p) b pos) (vIxN oIx i db) := ⟨fun W tk => (pe_ix ix_seq (pe_var hN hv hd hcd) (hb.run W tk) hs).imp fun sv H Q h => by
  obtain ⟨g, s, R, m⟩ := h
  unfold vIxN at m
  cases q : s[i]? with
  | none => rw [q] at m; exact m.elim
  | some c0 =>
    rw [q] at m
    have hn : c0 ≠ .un := fun z => by subst z; exact m
    obtain ⟨v, e1, _⟩ := R.cel i c0 q hn
    refine ⟨v, e1, g, s, R, ?_⟩
    have m : match (db s).bind fun b s1 => match s1[i]? with
      | some .un => O.bad
      | some c => optO (oIx c (.sh b)) s1
      | none => .bad with
      | .ok d s' => ∀ v g' H', Rel X.K k g' s' sv H' → Ext g H g' H' → Rp X.K k g'.G d v → Q v H'
      | .ex e s' => exW X.K k W g H e s'
      | .bad => False := by
      cases c0 <;> first | exact absurd rfl hn | exact m
    cases eb : db s with
    | bad => rw [eb] at m; exact m
    | ex e s' => rw [eb] at m; exact m
    | ok d s1 =>
      rw [eb, O.bind_ok] at m
      intro y g1 H1 R1 x1 hy
      cases q1 : s1[i]? with
      | none => simp only [q1] at m
      | some c =>
        have hn1 : c ≠ .un := fun z => by subst z; simp only [q1] at m
        obtain ⟨v', e2, h2⟩ := R1.cel i c q1 hn1
        rw [e1] at e2
        cases e2
        have m : match optO (oIx c (.sh d)) s1 with
          | .ok d s' => ∀ v g' H', Rel X.K k g' s' sv H' → Ext g H g' H' → Rp X.K k g'.G d v → Q v H'
          | .ex e s' => exW X.K k W g H e s'
          | .bad => False := by
          rw [q1] at m
          cases c <;> first | exact absurd rfl hn1 | exact m
        cases eo : oIx c (.sh d) with
        | none => rw [eo] at m; exact m.elim
        | some z =>
          rw [eo] at m
          exact r2_ix.run k g1 H1 _ (fun _ _ => False) c (.sh d) z v y Q R1.sub eo h2 hy fun w hw => m w g1 H1 R1 x1 hw⟩
end

/-! ### one operand -/
abbrev Op1 := Cell → Option D
def oNeg : Op1 := fun a => match a with
  | .sh (.int i) => some (.int (-i))
  | _ => none
def qUn (op : Op1) (da : DQ) : DQ := fun s => match da s with
  | some a => (op a).map Cell.sh
  | none => none
def vUn (op : Op1) (da : DV) : DV := fun s => (da s).bind fun a s1 => optO (op (.sh a)) s1
section
variable {X : Cx} {k : Kc} {a b c : Expr} {pos : Pos} {ra rb rc : Nat}
theorem q_neg {da : DQ} (ha : SQ X k ra a da) : SQ X k rc (.UnaryOp .USub a pos) (qUn oNeg da) := ⟨(pe_un un_neg ha.run).imp fun sv H Q h => by
  obtain ⟨g, s, R, m⟩ := h
  refine ⟨g, s, R, ?_⟩
  unfold qUn at m
  cases e : da s with
  | none => rw [e] at m; exact m
  | some c =>
    rw [e] at m
    intro v hv
    cases c with
    | sh d =>
      cases d with
      | int i => exact ⟨i, hv, m _ rfl⟩
      | _ => exact m.elim
    | _ => exact m.elim⟩
theorem v_neg {da : DV} (ha : SV X k a da) : SV X k (.UnaryOp .USub a pos) (vUn oNeg da) := ⟨fun W tk => (pe_un un_neg (ha.run W tk)).imp fun sv H Q h => by
  obtain ⟨g, s, R, m⟩ := h
  refine ⟨g, s, R, ?_⟩
  unfold vUn at m
  cases e : da s with
  | bad => rw [e] at m; exact m
  | ex e' s' => rw [e] at m; exact m
  | ok d s1 =>
    rw [e, O.bind_ok] at m
    intro v g' H' R' x hv
    unfold oNeg at m
    cases d with
    | int i => exact ⟨_, hv, m _ g' H' R' x rfl⟩
    | _ => exact m.elim⟩
/-! ### and, or, not, if, by bools -/
def tAndD (da db : DT) : DT := fun s => (da s).bind fun a s1 => if a = true then db s1 else .ok false s1
def tOrD (da db : DT) : DT := fun s => (da s).bind fun a s1 => if a = true then .ok true s1 else db s1
def tNotD (da : DT) : DT := fun s => (da s).bind fun a s1 => .ok (!a) s1
def vAnd (da db : DV) : DV := fun s => (da s).bind fun a s1 => match a with
  | .bl true => db s1
  | .bl false => .ok (.bl false) s1
  | _ => .bad
def vOr (da db : DV) : DV := fun s => (da s).bind fun a s1 => match a with
  | .bl true => .ok (.bl true) s1
  | .bl false => db s1
  | _ => .bad
def vNot (da : DV) : DV := fun s => (da s).bind fun a s1 => match a with
  | .bl b => .ok (.bl (!b)) s1
  | _ => .bad
def vIf (dc : DT) (da db : DV) : DV := fun s => (dc s).bind fun c s1 => if c = true then da s1 else db s1
structure SW (X : Cx) (k : Kc) (e : Expr) (dt : DT) : Prop where
  run : ∀ W, Takes X W → PW X e (tT X.K k W dt)
theorem ST.of_w {dt : DT} (h : SW X k a dt) : ST X k a dt := ⟨fun W tk => (h.run W tk).pt⟩
theorem PW.imp {X : Cx} {e : Expr} {t t' : TT} (h : PW X e t) (i : ∀ sv H Q, t' sv H Q → t sv H Q) : PW X e t' := ⟨fun w pins s sv H Q I hw => h.run w pins s sv H Q I (i _ _ _ hw)⟩
theorem w_and1 {da : DT} (ha : ST X k a da) : SW X k (.BoolOp .And [a] pos) da := ⟨fun W tk => pw_and1 (ha.run W tk)⟩
theorem w_or1 {da : DT} (ha : ST X k a da) : SW X k (.BoolOp .Or [a] pos) da := ⟨fun W tk => pw_or1 (ha.run W tk)⟩
theorem w_and {es : List Expr} {da db : DT} (ha : ST X k a da) (hb : SW X k (.BoolOp .And (b :: es) pos) db) : SW X k (.BoolOp .And (a :: b :: es) pos) (tAndD da db) := ⟨fun W tk => PW.imp (pw_and (ha.run W tk) (hb.run W tk)) fun sv H Q h => by
  obtain ⟨g, s, R, m⟩ := h
  refine ⟨g, s, R, ?_⟩
  unfold tAndD at m
  cases e : da s with
  | bad => rw [e] at m; exact m
  | ex e' s' => rw [e] at m; exact m
  | ok c s1 =>
    rw [e, O.bind_ok] at m
    intro g1 H1 R1 x1
    cases c with
    | false =>
      rw [if_neg Bool.false_ne_true]
      rw [if_neg Bool.false_ne_true] at m
      exact m g1 H1 R1 x1
    | true =>
      rw [if_pos rfl]
      rw [if_pos rfl] at m
      refine ⟨g1, s1, R1, ?_⟩
      cases e2 : db s1 with
      | bad => rw [e2] at m; exact m
      | ex e' s' => rw [e2] at m; exact exW.later x1 m
      | ok c2 s2 =>
        rw [e2] at m
        exact fun g2 H2 R2 x2 => m g2 H2 R2 (x1.trans x2)⟩
theorem w_or {es : List Expr} {da db : DT} (ha : ST X k a da) (hb : SW X k (.BoolOp .Or (b :: es) pos) db) : SW X k (.BoolOp .Or (a :: b :: es) pos) (tOrD da db) := ⟨fun W tk => PW.imp (pw_or (ha.run W tk) (hb.run W tk)) fun sv H Q h => by
  obtain ⟨g, s, R, m⟩ := h
  refine ⟨g, s, R, ?_⟩
  unfold tOrD at m
  cases e : da s with
  | bad => rw [e] at m; exact m
  | ex e' s' => rw [e] at m; exact m
  | ok c s1 =>
    rw [e, O.bind_ok] at m
    intro g1 H1 R1 x1
    cases c with
    | true =>
      rw [if_pos rfl]
      rw [if_pos rfl] at m
      exact m g1 H1 R1 x1
    | false =>
      rw [if_neg Bool.false_ne_true]
      rw [if_neg Bool.false_ne_true] at m
      refine ⟨g1, s1, R1, ?_⟩
      cases e2 : db s1 with
      | bad => rw [e2] at m; exact m
      | ex e' s' => rw [e2] at m; exact exW.later x1 m
      | ok c2 s2 =>
        rw [e2] at m
        exact fun g2 H2 R2 x2 => m g2 H2 R2 (x1.trans x2)⟩
theorem t_not {da : DT} (ha : ST X k a da) : ST X k (.UnaryOp .Not a pos) (tNotD da) := ⟨fun W tk => (pt_not (ha.run W tk)).imp fun sv H Q h => by
  obtain ⟨g, s, R, m⟩ := h
  refine ⟨g, s, R, ?_⟩
  unfold tNotD at m
  cases e : da s with
  | bad => rw [e] at m; exact m
  | ex e' s' => rw [e] at m; exact m
  | ok c s1 =>
    rw [e, O.bind_ok] at m
    exact m⟩
theorem v_one {o} {da : DV} (ha : SV X k a da) : SV X k (.BoolOp o [a] pos) da := ⟨fun W tk => pe_one (ha.run W tk)⟩
theorem v_and {es : List Expr} {da db : DV} (ha : SV X k a da) (hb : SV X k (.BoolOp .And (b :: es) pos) db) : SV X k (.BoolOp .And (a :: b :: es) pos) (vAnd da db) := ⟨fun W tk => (pe_and (ha.run W tk) (hb.run W tk)).imp fun sv H Q h => by
  obtain ⟨g, s, R, m⟩ := h
  refine ⟨g, s, R, ?_⟩
  unfold vAnd at m
  cases e : da s with
  | bad => rw [e] at m; exact m
  | ex e' s' => rw [e] at m; exact m
  | ok c s1 =>
    rw [e, O.bind_ok] at m
    intro v g1 H1 R1 x1 hv
    cases c with
    | bl b =>
      refine ⟨b, hv, ?_⟩
      cases b with
      | false =>
        rw [if_neg Bool.false_ne_true]
        exact m _ g1 H1 R1 x1 rfl
      | true =>
        rw [if_pos rfl]
        refine ⟨g1, s1, R1, ?_⟩
        cases e2 : db s1 with
        | bad => simp only [e2] at m
        | ex e' s' => simp only [e2] at m; exact exW.later x1 m
        | ok c2 s2 =>
          simp only [e2] at m
          exact fun v g2 H2 R2 x2 hv => m v g2 H2 R2 (x1.trans x2) hv
    | _ => exact m.elim⟩
theorem v_or {es : List Expr} {da db : DV} (ha : SV X k a da) (hb : SV X k (.BoolOp .Or (b :: es) pos) db) : SV X k (.BoolOp .Or (a :: b :: es) pos) (vOr da db) := ⟨fun W tk => (pe_or (ha.run W tk) (hb.run W tk)).imp fun sv H Q h => by
  obtain ⟨g, s, R, m⟩ := h
  refine ⟨g, s, R, ?_⟩
  unfold vOr at m
  cases e : da s with
  | bad => rw [e] at m; exact m
  | ex e' s' => rw [e] at m; exact m
  | ok c s1 =>
    rw [e, O.bind_ok] at m
    intro v g1 H1 R1 x1 hv
    cases c with
    | bl b =>
      refine ⟨b, hv, ?_⟩
      cases b with
      | true =>
        rw [if_pos rfl]
        exact m _ g1 H1 R1 x1 rfl
      | false =>
        rw [if_neg Bool.false_ne_true]
        refine ⟨g1, s1, R1, ?_⟩
        cases e2 : db s1 with
        | bad => simp only [e2] at m
        | ex e' s' => simp only [e2] at m; exact exW.later x1 m
        | ok c2 s2 =>
          simp only [e2] at m
          exact fun v g2 H2 R2 x2 hv => m v g2 H2 R2 (x1.trans x2) hv
    | _ => exact m.elim⟩
theorem v_not {da : DV} (ha : SV X k a da) : SV X k (.UnaryOp .Not a pos) (vNot da) := ⟨fun W tk => (pe_not (ha.run W tk)).imp fun sv H Q h => by
  obtain ⟨g, s, R, m⟩ := h
  refine ⟨g, s, R, ?_⟩
  unfold vNot at m
  cases e : da s with
  | bad => rw [e] at m; exact m
  | ex e' s' => rw [e] at m; exact m
  | ok c s1 =>
    rw [e, O.bind_ok] at m
    intro v g1 H1 R1 x1 hv
    cases c with
    | bl b => exact ⟨b, hv, m _ g1 H1 R1 x1 rfl⟩
    | _ => exact m.elim⟩
theorem v_ifx {dc : DT} {da db : DV} (hc : ST X k c dc) (ha : SV X k a da) (hb : SV X k b db) : SV X k (.IfExp c a b pos) (vIf dc da db) := ⟨fun W tk => (pe_ifExp (hc.run W tk) (ha.run W tk) (hb.run W tk)).imp fun sv H Q h => by
  obtain ⟨g, s, R, m⟩ := h
  refine ⟨g, s, R, ?_⟩
  unfold vIf at m
  cases e : dc s with
  | bad => rw [e] at m; exact m
  | ex e' s' => rw [e] at m; exact m
  | ok c s1 =>
    rw [e, O.bind_ok] at m
    intro g1 H1 R1 x1
    have gen : ∀ {dv : DV}, (match dv s1 with
      | .ok d s' => ∀ v g' H', Rel X.K k g' s' sv H' → Ext g H g' H' → Rp X.K k g'.G d v → Q v H'
      | .ex e s' => exW X.K k W g H e s'
      | .bad => False) → tV X.K k W dv sv H1 Q := fun {dv} m => by
      refine ⟨g1, s1, R1, ?_⟩
      cases e2 : dv s1 with
      | bad => rw [e2] at m; exact m
      | ex e' s' => rw [e2] at m; exact exW.later x1 m
      | ok c2 s2 =>
        rw [e2] at m
        exact fun v g2 H2 R2 x2 hv => m v g2 H2 R2 (x1.trans x2) hv
    cases c with
    | false =>
      rw [if_neg Bool.false_ne_true]
      rw [if_neg Bool.false_ne_true] at m
      exact gen m
    | true =>
      rw [if_pos rfl]
      rw [if_pos rfl] at m
      exact gen m⟩
end
end VL
end
section
set_option maxRecDepth 100000
set_option maxHeartbeats 2000000
/-! VL6: built-in calls, displays, attributes -/
namespace VL
open PySem PySem.Spec PyProof.Rows L2

/-! ### built-in functions of one and two values -/
structure C1S (K : PySem.W.Frag) (r : List V → Hp → VK → Prop) (op : Op1) : Prop where
  run : ∀ (k : Kc) (g : Gs) (H : Hp) (ow : List Nat → Addr → Prop) (c : Cell) (d : D) (v : V) (Q : VK), Sub g.G H → op c = some d → CV K k g H ow [] c v → (∀ u, Rp K k g.G d u → Q u H) → r [v] H Q
structure C2S (K : PySem.W.Frag) (r : List V → Hp → VK → Prop) (op : Op2) : Prop where
  run : ∀ (k : Kc) (g : Gs) (H : Hp) (ow ow' : List Nat → Addr → Prop) (c c' : Cell) (d : D) (v v' : V) (Q : VK), Sub g.G H → op c c' = some d → CV K k g H ow [] c v → CV K k g H ow' [] c' v' → (∀ u, Rp K k g.G d u → Q u H) → r [v, v'] H Q
section
variable {X : Cx} {k : Kc} {a b c e : Expr} {x : Str} {p pos : Pos} {ra rb rc : Nat} {id T : String} {r : List V → Hp → VK → Prop}
theorem tc1_q {op : Op1} {da : DQ} {sv : L2.St} {H : Hp} {Q : VK} (S : C1S X.K r op) (h : tQ X.K k rc (qUn op da) sv H Q) : tCB r (tCons (tQ X.K k ra da) tNil) sv H Q := by
  obtain ⟨g, s, R, m⟩ := h
  refine ⟨g, s, R, ?_⟩
  unfold qUn at m
  cases e : da s with
  | none => rw [e] at m; exact m
  | some c =>
    rw [e] at m
    intro v hv
    cases o : op c with
    | none => simp only [o, Option.map_none] at m
    | some d =>
      simp only [o, Option.map_some] at m
      exact S.run k g H _ c d v Q R.sub o hv fun u hu => m u hu
theorem tc1_v {op : Op1} {da : DV} {W : WX} {sv : L2.St} {H : Hp} {Q : VK} (S : C1S X.K r op) (h : tV X.K k W (vUn op da) sv H Q) : tCB r (tCons (tV X.K k W da) tNil) sv H Q := by
  obtain ⟨g, s, R, m⟩ := h
  refine ⟨g, s, R, ?_⟩
  unfold vUn at m
  cases e : da s with
  | bad => rw [e] at m; exact m
  | ex e' s' => rw [e] at m; exact m
  | ok d s1 =>
    rw [e, O.bind_ok] at m
    intro v g' H' R' x hv
    cases o : op (.sh d) with
    | none => rw [o] at m; exact m.elim
    | some z =>
      rw [o] at m
      exact S.run k g' H' (fun _ _ => False) (.sh d) z v Q R'.sub o hv fun u hu => m u g' H' R' x hu
theorem q_call1 {op : Op1} {da : DQ} (hc : CallR X (.builtin id) r) (S : C1S X.K r op) (hm : X.mg x = none) (hv : bootBuiltins x = some (.builtin id)) (ha : SQ X k ra a da) (hg : Gl X x := by rfl) (hn : x ≠ "__name__" := by decide) (hdb : (x == ("__debug__" : Str)) = false := by decide)
    (he : starEach [a] X.env = (false, eval a X.env) :: starEach [] X.env := by rfl) (hpl : (backTo pos (starEach [] X.env)).any (·.1) = false := by rfl) : SQ X k rc (.Call (.Name x p) [a] [] pos) (qUn op da) :=
  ⟨(pe_callB hc hg hm hv (pa_cons ha.run pa_nil he) hn hdb he hpl).imp fun _ _ _ h => tc1_q S h⟩
theorem q_callT1 {op : Op1} {da : DQ} (hc : CallR X (.type T) r) (S : C1S X.K r op) (hm : X.mg x = none) (hv : bootBuiltins x = some (.type T)) (ha : SQ X k ra a da) (hg : Gl X x := by rfl) (hn : x ≠ "__name__" := by decide) (hdb : (x == ("__debug__" : Str)) = false := by decide)
    (he : starEach [a] X.env = (false, eval a X.env) :: starEach [] X.env := by rfl) (hpl : (backTo pos (starEach [] X.env)).any (·.1) = false := by rfl) : SQ X k rc (.Call (.Name x p) [a] [] pos) (qUn op da) :=
  ⟨(pe_callTy hc hg hm hv (pa_cons ha.run pa_nil he) hn hdb he hpl).imp fun _ _ _ h => tc1_q S h⟩
theorem v_call1 {op : Op1} {da : DV} (hc : CallR X (.builtin id) r) (S : C1S X.K r op) (hm : X.mg x = none) (hv : bootBuiltins x = some (.builtin id)) (ha : SV X k a da) (hg : Gl X x := by rfl) (hn : x ≠ "__name__" := by decide) (hdb : (x == ("__debug__" : Str)) = false := by decide)
    (he : starEach [a] X.env = (false, eval a X.env) :: starEach [] X.env := by rfl) (hpl : (backTo pos (starEach [] X.env)).any (·.1) = false := by rfl) : SV X k (.Call (.Name x p) [a] [] pos) (vUn op da) :=
  ⟨fun W tk => (pe_callB hc hg hm hv (pa_cons (ha.run W tk) pa_nil he) hn hdb he hpl).imp fun _ _ _ h => tc1_v S h⟩
theorem v_callT1 {op : Op1} {da : DV} (hc : CallR X (.type T) r) (S : C1S X.K r op) (hm : X.mg x = none) (hv : bootBuiltins x = some (.type T)) (ha : SV X k a da) (hg : Gl X x := by rfl) (hn : x ≠ "__name__" := by decide) (hdb : (x == ("__debug__" : Str)) = false := by decide)
    (he : starEach [a] X.env = (false, eval a X.env) :: starEach [] X.env := by rfl) (hpl : (backTo pos (starEach [] X.env)).any (·.1) = false := by rfl) : SV X k (.Call (.Name x p) [a] [] pos) (vUn op da) :=
  ⟨fun W tk => (pe_callTy hc hg hm hv (pa_cons (ha.run W tk) pa_nil he) hn hdb he hpl).imp fun _ _ _ h => tc1_v S h⟩
theorem tc2_q {op : Op2} {da db : DQ} {sv : L2.St} {H : Hp} {Q : VK} (S : C2S X.K r op) (h : tQ X.K k rc (qOp op da db) sv H Q) : tCB r (tCons (tQ X.K k ra da) (tCons (tQ X.K k rb db) tNil)) sv H Q :=
  tOp_q (r := fun x y H Q => r [x, y] H Q) ⟨S.run⟩ h
theorem tc2_v {op : Op2} {da db : DV} {W : WX} {sv : L2.St} {H : Hp} {Q : VK} (S : C2S X.K r op) (h : tV X.K k W (vOp op da db) sv H Q) : tCB r (tCons (tV X.K k W da) (tCons (tV X.K k W db) tNil)) sv H Q :=
  tOp_v (r := fun x y H Q => r [x, y] H Q) ⟨S.run⟩ h
theorem q_call2 {op : Op2} {da db : DQ} (hc : CallR X (.builtin id) r) (S : C2S X.K r op) (hm : X.mg x = none) (hv : bootBuiltins x = some (.builtin id)) (ha : SQ X k ra a da) (hb : SQ X k rb b db) (hg : Gl X x := by rfl) (hn : x ≠ "__name__" := by decide) (hdb : (x == ("__debug__" : Str)) = false := by decide)
    (he : starEach [a, b] X.env = (false, eval a X.env) :: starEach [b] X.env := by rfl) (he2 : starEach [b] X.env = (false, eval b X.env) :: starEach [] X.env := by rfl) (hpl : (backTo pos (starEach [b] X.env)).any (·.1) = false := by rfl) : SQ X k rc (.Call (.Name x p) [a, b] [] pos) (qOp op da db) :=
  ⟨(pe_callB hc hg hm hv (pa_cons ha.run (pa_cons hb.run pa_nil he2) he) hn hdb he hpl).imp fun _ _ _ h => tc2_q S h⟩
theorem v_call2 {op : Op2} {da db : DV} (hc : CallR X (.builtin id) r) (S : C2S X.K r op) (hm : X.mg x = none) (hv : bootBuiltins x = some (.builtin id)) (ha : SV X k a da) (hb : SV X k b db) (hg : Gl X x := by rfl) (hn : x ≠ "__name__" := by decide) (hdb : (x == ("__debug__" : Str)) = false := by decide)
    (he : starEach [a, b] X.env = (false, eval a X.env) :: starEach [b] X.env := by rfl) (he2 : starEach [b] X.env = (false, eval b X.env) :: starEach [] X.env := by rfl) (hpl : (backTo pos (starEach [b] X.env)).any (·.1) = false := by rfl) : SV X k (.Call (.Name x p) [a, b] [] pos) (vOp op da db) :=
  ⟨fun W tk => (pe_callB hc hg hm hv (pa_cons (ha.run W tk) (pa_cons (hb.run W tk) pa_nil he2) he) hn hdb he hpl).imp fun _ _ _ h => tc2_v S h⟩
end
/-! the operations -/
def oLen : Op1 := fun a => match a with
  | .sh (.str z) => if z.length ≤ 16777216 then some (.int z.length) else none
  | c => (its c).map fun ds => .int ds.length
def oAbs : Op1 := fun a => match a with
  | .sh (.int i) => some (.int (if i < 0 then -i else i))
  | _ => none
def oInt : Op1 := fun a => match a with
  | .sh (.int i) => some (.int i)
  | .sh (.bl b) => some (.int (if b then 1 else 0))
  | _ => none
def oStr : Op1 := fun a => match a with
  | .sh (.int i) => if i.natAbs < 1000000000000 then some (.str (toString i)) else none
  | _ => none
def intsD : List D → Option (List Int)
  | [] => some []
  | .int i :: ds => (intsD ds).map (i :: ·)
  | _ => none
def boolsD : List D → Option (List Bool)
  | [] => some []
  | .bl i :: ds => (boolsD ds).map (i :: ·)
  | _ => none
theorem intsD_ok {K : PySem.W.Frag} {k : Kc} {G : Hp} : ∀ {ds : List D} {ns : List Int} {vs : List V}, intsD ds = some ns → RpL K k G ds vs → vs = ns.map V.int
  | [], ns, vs, h, hv => by
    cases h
    exact hv
  | d :: ds, ns, vs, h, hv => by
    obtain ⟨v, w, e, h1, h2⟩ := hv
    cases d with
    | int i =>
      unfold intsD at h
      cases q : intsD ds with
      | none => rw [q] at h; cases h
      | some ms =>
        rw [q] at h
        cases h
        have h1 : v = .int i := h1
        rw [e, h1, intsD_ok q h2]
        rfl
    | _ => cases h
theorem boolsD_ok {K : PySem.W.Frag} {k : Kc} {G : Hp} : ∀ {ds : List D} {ns : List Bool} {vs : List V}, boolsD ds = some ns → RpL K k G ds vs → vs = ns.map V.bl
  | [], ns, vs, h, hv => by
    cases h
    exact hv
  | d :: ds, ns, vs, h, hv => by
    obtain ⟨v, w, e, h1, h2⟩ := hv
    cases d with
    | bl i =>
      unfold boolsD at h
      cases q : boolsD ds with
      | none => rw [q] at h; cases h
      | some ms =>
        rw [q] at h
        cases h
        have h1 : v = .bl i := h1
        rw [e, h1, boolsD_ok q h2]
        rfl
    | _ => cases h
/-- the items of a LIST -/
def itsL : Cell → Option (List D)
  | .sh (.lst ds) => some ds
  | .ol ds => some ds
  | .bl ds => some ds
  | _ => none
theorem CV.itsL {K : PySem.W.Frag} {k : Kc} {g : Gs} {H : Hp} {ow : List Nat → Addr → Prop} {p : List Nat} (sb : Sub g.G H) {c : Cell} {ds : List D} {v : V} (e : itsL c = some ds) (h : CV K k g H ow p c v) : ∃ a vs, v = .ref a ∧ SqL K H a vs ∧ RpL K k g.G ds vs := by
  unfold VL.itsL at e
  cases c with
  | sh d =>
    cases d with
    | lst es =>
      cases e
      obtain ⟨a, vs, e, h1, h2⟩ := h
      exact ⟨a, vs, e, SqL.of (sb _ _ h1), h2⟩
    | _ => cases e
  | ol es =>
    cases e
    obtain ⟨a, vs, e, h1, h2, h3⟩ := h
    exact ⟨a, vs, e, SqL.of h2, h3⟩
  | bl es =>
    cases e
    obtain ⟨a, vs, e, h1, h2, h3⟩ := h
    exact ⟨a, vs, e, h2, h3⟩
  | _ => cases e
def lmin : List Int → Option Int
  | [] => none
  | x :: xs => some (xs.foldl min x)
def lmax : List Int → Option Int
  | [] => none
  | x :: xs => some (xs.foldl max x)
theorem foldl_min : ∀ (xs : List Int) (x m : Int), (m = x ∨ m ∈ xs) → m ≤ x → (∀ y ∈ xs, m ≤ y) → xs.foldl min x = m
  | [], x, m, h, _, _ => by
    rcases h with h | h
    · exact h.symm
    · cases h
  | y :: ys, x, m, h, h1, h2 => by
    have hy := h2 y (List.mem_cons_self ..)
    refine foldl_min ys (min x y) m ?_ (by omega) fun z hz => h2 z (List.mem_cons_of_mem _ hz)
    rcases h with h | h
    · exact .inl (by omega)
    · rcases List.mem_cons.mp h with h | h
      · exact .inl (by omega)
      · exact .inr h
theorem foldl_max : ∀ (xs : List Int) (x m : Int), (m = x ∨ m ∈ xs) → x ≤ m → (∀ y ∈ xs, y ≤ m) → xs.foldl max x = m
  | [], x, m, h, _, _ => by
    rcases h with h | h
    · exact h.symm
    · cases h
  | y :: ys, x, m, h, h1, h2 => by
    have hy := h2 y (List.mem_cons_self ..)
    refine foldl_max ys (max x y) m ?_ (by omega) fun z hz => h2 z (List.mem_cons_of_mem _ hz)
    rcases h with h | h
    · exact .inl (by omega)
    · rcases List.mem_cons.mp h with h | h
      · exact .inl (by omega)
      · exact .inr h
def oSum : Op1 := fun a => (its a).bind fun ds => (intsD ds).map fun ns => .int ns.sum
def oSumL : Op1 := fun a => (itsL a).bind fun ds => (intsD ds).map fun ns => .int ns.sum
def oAll : Op1 := fun a => (itsL a).bind fun ds => (boolsD ds).map fun ns => .bl (ns.all id)
def oAny : Op1 := fun a => (itsL a).bind fun ds => (boolsD ds).map fun ns => .bl (ns.any id)
def oMinL : Op1 := fun a => (itsL a).bind fun ds => (intsD ds).bind fun ns => (lmin ns).map D.int
def oMaxL : Op1 := fun a => (itsL a).bind fun ds => (intsD ds).bind fun ns => (lmax ns).map D.int
def oMin2 : Op2 := opI fun i j => .int (min i j)
def oMax2 : Op2 := opI fun i j => .int (max i j)
def oIntS : Op1 := fun a => match a with
  | .sh (.str z) => if z.length ≤ 640 then (PySem.intText? z).map D.int else none
  | _ => none
section
variable {K : PySem.W.Frag}
theorem c1_len : C1S K (fun xs H Q => ∃ x n, xs = [x] ∧ LenV K x H n ∧ Q (.int n) H) oLen := ⟨fun k g H ow c d v Q sb e h q => by
  unfold oLen at e
  split at e
  · split at e
    · rename_i z hz
      cases e
      cases (show v = .str z from h)
      exact ⟨_, z.length, rfl, ⟨by rw [sizeLine_eq]; exact hz, rfl⟩, q _ rfl⟩
    · cases e
  · cases hi : its c with
    | none => rw [hi] at e; cases e
    | some ds =>
      rw [hi] at e
      cases e
      obtain ⟨a, vs, ev, hs, hr⟩ := CV.its sb hi h
      subst ev
      refine ⟨_, vs.length, rfl, ?_, q _ (by show V.int _ = V.int _; rw [hr.length])⟩
      rcases hs with hs | hs
      · exact .inl ⟨vs, hs, rfl⟩
      · exact .inr ⟨vs, hs, rfl⟩⟩
theorem c1_abs : C1S K (fun xs H Q => ∃ i, xs = [.int i] ∧ Q (.int (if i < 0 then -i else i)) H) oAbs := ⟨fun k g H ow c d v Q sb e h q => by
  unfold oAbs at e
  split at e
  · cases e
    cases (show v = .int _ from h)
    exact ⟨_, rfl, q _ rfl⟩
  · cases e⟩
theorem c1_int : C1S K (fun xs H Q => (∃ i, xs = [.int i] ∧ Q (.int i) H) ∨ ∃ k, xs = [.bl k] ∧ Q (.int (if k then 1 else 0)) H) oInt := ⟨fun k g H ow c d v Q sb e h q => by
  unfold oInt at e
  split at e
  · cases e
    cases (show v = .int _ from h)
    exact .inl ⟨_, rfl, q _ rfl⟩
  · cases e
    cases (show v = .bl _ from h)
    exact .inr ⟨_, rfl, q _ rfl⟩
  · cases e⟩
theorem c1_str : C1S K (fun xs H Q => ∃ i, xs = [.int i] ∧ i.natAbs.log2 < 1920 ∧ Q (.str (toString i)) H) oStr := ⟨fun k g H ow c d v Q sb e h q => by
  unfold oStr at e
  split at e
  · split at e
    · rename_i i hi
      cases e
      cases (show v = .int _ from h)
      refine ⟨i, rfl, ?_, q _ rfl⟩
      by_cases h0 : i.natAbs = 0
      · rw [h0]
        decide
      · refine (Nat.log2_lt h0).mpr (Nat.lt_trans hi ?_)
        exact Nat.lt_of_lt_of_le (show 1000000000000 < 2 ^ 64 by decide) (Nat.pow_le_pow_right (by decide) (by decide))
    · cases e
  · cases e⟩
theorem c1_sum : C1S K (rSum K) oSumL := ⟨fun k g H ow c d v Q sb e h q => by
  unfold oSumL at e
  cases hi : itsL c with
  | none => rw [hi] at e; cases e
  | some ds =>
    cases hn : intsD ds with
    | none => simp only [hi, hn, Option.bind_some, Option.map_none] at e; cases e
    | some ns =>
      simp only [hi, hn, Option.bind_some, Option.map_some] at e
      cases e
      obtain ⟨a, vs, ev, hs, hr⟩ := CV.itsL sb hi h
      exact ⟨a, ns, by rw [ev], by rw [← intsD_ok hn hr]; exact hs, q _ rfl⟩⟩
theorem c1_all : C1S K (rAll K) oAll := ⟨fun k g H ow c d v Q sb e h q => by
  unfold oAll at e
  cases hi : itsL c with
  | none => rw [hi] at e; cases e
  | some ds =>
    cases hn : boolsD ds with
    | none => simp only [hi, hn, Option.bind_some, Option.map_none] at e; cases e
    | some ns =>
      simp only [hi, hn, Option.bind_some, Option.map_some] at e
      cases e
      obtain ⟨a, vs, ev, hs, hr⟩ := CV.itsL sb hi h
      exact ⟨a, ns, by rw [ev], by rw [← boolsD_ok hn hr]; exact hs, q _ rfl⟩⟩
theorem c1_any : C1S K (rAny K) oAny := ⟨fun k g H ow c d v Q sb e h q => by
  unfold oAny at e
  cases hi : itsL c with
  | none => rw [hi] at e; cases e
  | some ds =>
    cases hn : boolsD ds with
    | none => simp only [hi, hn, Option.bind_some, Option.map_none] at e; cases e
    | some ns =>
      simp only [hi, hn, Option.bind_some, Option.map_some] at e
      cases e
      obtain ⟨a, vs, ev, hs, hr⟩ := CV.itsL sb hi h
      exact ⟨a, ns, by rw [ev], by rw [← boolsD_ok hn hr]; exact hs, q _ rfl⟩⟩
theorem c1_min : C1S K (rMin K) oMinL := ⟨fun k g H ow c d v Q sb e h q => by
  unfold oMinL at e
  cases hi : itsL c with
  | none => rw [hi] at e; cases e
  | some ds =>
    cases hn : intsD ds with
    | none => simp only [hi, hn, Option.bind_some, Option.bind_none] at e; cases e
    | some ns =>
      simp only [hi, hn, Option.bind_some] at e
      obtain ⟨a, vs, ev, hs, hr⟩ := CV.itsL sb hi h
      cases ns with
      | nil => cases e
      | cons x xs =>
        cases e
        refine ⟨a, x :: xs, by rw [ev], by rw [← intsD_ok hn hr]; exact hs, by simp, fun m hm hl => ?_⟩
        have e2 := foldl_min xs x m (List.mem_cons.mp hm) (hl x (List.mem_cons_self ..)) fun y hy => hl y (List.mem_cons_of_mem _ hy)
        refine q _ ?_
        show _ = V.int _
        rw [e2]⟩
theorem c1_max : C1S K (rMax K) oMaxL := ⟨fun k g H ow c d v Q sb e h q => by
  unfold oMaxL at e
  cases hi : itsL c with
  | none => rw [hi] at e; cases e
  | some ds =>
    cases hn : intsD ds with
    | none => simp only [hi, hn, Option.bind_some, Option.bind_none] at e; cases e
    | some ns =>
      simp only [hi, hn, Option.bind_some] at e
      obtain ⟨a, vs, ev, hs, hr⟩ := CV.itsL sb hi h
      cases ns with
      | nil => cases e
      | cons x xs =>
        cases e
        refine ⟨a, x :: xs, by rw [ev], by rw [← intsD_ok hn hr]; exact hs, by simp, fun m hm hl => ?_⟩
        have e2 := foldl_max xs x m (List.mem_cons.mp hm) (hl x (List.mem_cons_self ..)) fun y hy => hl y (List.mem_cons_of_mem _ hy)
        refine q _ ?_
        show _ = V.int _
        rw [e2]⟩
theorem c1_intS : C1S K (fun xs H Q => ∃ (a : Str) (n : Int), xs = [.str a] ∧ PySem.intText? a = some n ∧ a.length ≤ 640 ∧ Q (.int n) H) oIntS := ⟨fun k g H ow c d v Q sb e h q => by
  unfold oIntS at e
  split at e
  · split at e
    · rename_i z hz
      cases hn : PySem.intText? z with
      | none => rw [hn] at e; cases e
      | some n =>
        rw [hn] at e
        cases e
        cases (show v = .str _ from h)
        exact ⟨z, n, rfl, hn, hz, q _ rfl⟩
    · cases e
  · cases e⟩
theorem c2_max : C2S K (fun xs H Q => ∃ i j, xs = [.int i, .int j] ∧ Q (.int (if j > i then j else i)) H) oMax2 := ⟨fun k g H ow ow' c c' d v v' Q sb e h h' q => by
  unfold oMax2 opI at e
  split at e
  · cases e
    cases (show v = .int _ from h)
    cases (show v' = .int _ from h')
    rename_i i j
    refine ⟨i, j, rfl, q _ ?_⟩
    show V.int _ = V.int _
    congr 1
    split <;> omega
  · cases e⟩
theorem c2_min : C2S K (fun xs H Q => ∃ i j, xs = [.int i, .int j] ∧ Q (.int (if j < i then j else i)) H) oMin2 := ⟨fun k g H ow ow' c c' d v v' Q sb e h h' q => by
  unfold oMin2 opI at e
  split at e
  · cases e
    cases (show v = .int _ from h)
    cases (show v' = .int _ from h')
    rename_i i j
    refine ⟨i, j, rfl, q _ ?_⟩
    show V.int _ = V.int _
    congr 1
    split <;> omega
  · cases e⟩
end

/-! ### isinstance -/
inductive Ty5 where
  | int | bool | str | tuple | list
def Ty5.name : Ty5 → String
  | .int => "int" | .bool => "bool" | .str => "str" | .tuple => "tuple" | .list => "list"
def isTy (t : Ty5) : Cell → Option Bool
  | .sh .non => some false
  | .sh (.bl _) => match t with
    | .int => some true | .bool => some true | _ => some false
  | .sh (.int _) => match t with
    | .int => some true | _ => some false
  | .sh (.str _) => match t with
    | .str => some true | _ => some false
  | .sh (.tup _) => match t with
    | .tuple => some true | _ => some false
  | .sh (.lst _) => match t with
    | .list => some true | _ => some false
  | .ol _ => match t with
    | .list => some true | _ => some false
  | .bl _ => match t with
    | .list => some true | _ => some false
  | _ => none
theorem kit_non (t : Ty5) : kitB "NoneType" t.name = some false := by cases t <;> decide +kernel
theorem kit_bool : ∀ t : Ty5, kitB "bool" t.name = some (match t with | .int => true | .bool => true | _ => false) := by intro t; cases t <;> decide +kernel
theorem kit_int : ∀ t : Ty5, kitB "int" t.name = some (match t with | .int => true | _ => false) := by intro t; cases t <;> decide +kernel
theorem kit_str : ∀ t : Ty5, kitB "str" t.name = some (match t with | .str => true | _ => false) := by intro t; cases t <;> decide +kernel
theorem kit_tup : ∀ t : Ty5, kitB "tuple" t.name = some (match t with | .tuple => true | _ => false) := by intro t; cases t <;> decide +kernel
theorem kit_lst : ∀ t : Ty5, kitB "list" t.name = some (match t with | .list => true | _ => false) := by intro t; cases t <;> decide +kernel
section
variable {K : PySem.W.Frag} {k : Kc} {g : Gs} {H : Hp} {ow : List Nat → Addr → Prop}
theorem tyL {a : Addr} {vs : List V} (h : SqL K H a vs) : TyX K H (.ref a) (.type "list") := by
  rcases h with (h | ⟨o, h⟩) | ⟨o, its, n, h, c, _⟩
  · exact .base (.lst h)
  · exact .base (.frz h)
  · exact .kList h c
theorem tyT {a : Addr} {vs : List V} (h : SqT K H a vs) : TyX K H (.ref a) (.type "tuple") := by
  rcases h with (h | ⟨o, h⟩) | ⟨o, its, n, h, c, _⟩
  · exact .base (.tup h)
  · exact .fTuple h
  · exact .kTuple h c
/-- one type of the value serves all five questions -/
theorem isTy_ok (sb : Sub g.G H) {c : Cell} {v : V} (hv : CV K k g H ow [] c v) (hn : ∃ t b, isTy t c = some b) : ∃ n : String, TyX K H v (.type n) ∧ ∀ t b, isTy t c = some b → PySem.W.kitOne K (.type n) (.type t.name) = some b := by
  obtain ⟨t0, b0, h0⟩ := hn
  cases c with
  | sh d =>
    cases d with
    | non =>
      cases (show v = .non from hv)
      exact ⟨_, .base .non, fun t b h => by cases h; exact kit_ty (kit_non t)⟩
    | bl x =>
      cases (show v = .bl x from hv)
      exact ⟨_, .base (.bl x), fun t b h => by
        rw [kit_ty (kit_bool t)]
        cases t <;> cases h <;> rfl⟩
    | int x =>
      cases (show v = .int x from hv)
      exact ⟨_, .base (.int x), fun t b h => by
        rw [kit_ty (kit_int t)]
        cases t <;> cases h <;> rfl⟩
    | str x =>
      cases (show v = .str x from hv)
      exact ⟨_, .base (.str x), fun t b h => by
        rw [kit_ty (kit_str t)]
        cases t <;> cases h <;> rfl⟩
    | tup ds =>
      obtain ⟨a, vs, e, h1, h2⟩ := hv
      subst e
      exact ⟨_, tyT (sb.seqT h1), fun t b h => by
        rw [kit_ty (kit_tup t)]
        cases t <;> cases h <;> rfl⟩
    | lst ds =>
      obtain ⟨a, vs, e, h1, h2⟩ := hv
      subst e
      exact ⟨_, tyL (SqL.of (sb _ _ h1)), fun t b h => by
        rw [kit_ty (kit_lst t)]
        cases t <;> cases h <;> rfl⟩
    | ins _ _ _ => cases h0
  | ol ds =>
    obtain ⟨a, vs, e, h1, h2, h3⟩ := hv
    subst e
    exact ⟨_, tyL (SqL.of h2), fun t b h => by
      rw [kit_ty (kit_lst t)]
      cases t <;> cases h <;> rfl⟩
  | bl ds =>
    obtain ⟨a, vs, e, h1, h2, h3⟩ := hv
    subst e
    exact ⟨_, tyL h2, fun t b h => by
      rw [kit_ty (kit_lst t)]
      cases t <;> cases h <;> rfl⟩
  | _ => cases h0
end
def oIsi (t : Ty5) : Op1 := fun c => (isTy t c).map D.bl
def oIsi2 (t u : Ty5) : Op1 := fun c => match isTy t c, isTy u c with
  | some a, some b => some (.bl (a || b))
  | _, _ => none
section
variable {X : Cx} {k : Kc} {a : Expr} {x y z : Str} {p p1 p2 p3 pos : Pos} {ra rc : Nat} {j : Nat}
theorem isi_r {K : PySem.W.Frag} {k : Kc} {g : Gs} {H : Hp} {ow : List Nat → Addr → Prop} {c : Cell} {v : V} {d : D} {Q : VK} (t : Ty5) (sb : Sub g.G H) (e : oIsi t c = some d) (hv : CV K k g H ow [] c v) (q : ∀ u, Rp K k g.G d u → Q u H) : rIsi K [v, .ty t.name] H Q := by
  unfold oIsi at e
  cases h : isTy t c with
  | none => rw [h] at e; cases e
  | some b =>
    rw [h] at e
    cases e
    obtain ⟨n, ty, kt⟩ := isTy_ok sb hv ⟨t, b, h⟩
    exact ⟨v, .ty t.name, .type n, .type t.name, b, rfl, .ty _, ty, kt t b h, q _ rfl⟩
theorem q_isi (t : Ty5) {da : DQ} (hm : X.mg "isinstance" = none) (hy : X.mg y = none) (hvy : bootBuiltins y = some (.type t.name)) (ha : SQ X k ra a da) (hg : Gl X "isinstance" := by rfl) (hgy : Gl X y := by rfl) (hny : y ≠ "__name__" := by decide) (hdy : (y == ("__debug__" : Str)) = false := by decide)
    (he : starEach [a, .Name y p1] X.env = (false, eval a X.env) :: starEach [.Name y p1] X.env := by rfl) (hpl : (backTo pos (starEach [.Name y p1] X.env)).any (·.1) = false := by rfl) :
    SQ X k rc (.Call (.Name "isinstance" p) [a, .Name y p1] [] pos) (qUn (oIsi t) da) :=
  ⟨(pe_callB call_isi hg hm boot_isinstance (pa_cons ha.run (pa_cons (pe_bltn (v := .ty t.name) hgy hy hvy rfl hny hdy) pa_nil) he) (by decide) (by decide) he hpl).imp fun sv H Q h => by
    obtain ⟨g, s, R, m⟩ := h
    refine ⟨g, s, R, ?_⟩
    unfold qUn at m
    cases e : da s with
    | none => rw [e] at m; exact m
    | some c =>
      rw [e] at m
      intro v hv
      cases o : oIsi t c with
      | none => simp only [o, Option.map_none] at m
      | some d =>
        simp only [o, Option.map_some] at m
        exact isi_r t R.sub o hv fun u hu => m u hu⟩
def vIsi2 (t u : Ty5) (da : DQ) : DV := fun s => match da s with
  | some c => optO (oIsi2 t u c) s
  | none => .bad
theorem v_isi2 (t u : Ty5) {da : DQ} (hm : X.mg "isinstance" = none) (hy : X.mg y = none) (hvy : bootBuiltins y = some (.type t.name)) (hz : X.mg z = none) (hvz : bootBuiltins z = some (.type u.name)) (ha : SQ X k ra a da) (hg : Gl X "isinstance" := by rfl)
    (hgy : Gl X y := by rfl) (hny : y ≠ "__name__" := by decide) (hdy : (y == ("__debug__" : Str)) = false := by decide) (hgz : Gl X z := by rfl) (hnz : z ≠ "__name__" := by decide) (hdz : (z == ("__debug__" : Str)) = false := by decide)
    (he : starEach [a, .Tuple [.Name y p1, .Name z p2] j p3] X.env = (false, eval a X.env) :: starEach [.Tuple [.Name y p1, .Name z p2] j p3] X.env := by rfl) (hpl : (backTo pos (starEach [.Tuple [.Name y p1, .Name z p2] j p3] X.env)).any (·.1) = false := by rfl) :
    SV X k (.Call (.Name "isinstance" p) [a, .Tuple [.Name y p1, .Name z p2] j p3] [] pos) (vIsi2 t u da) :=
  ⟨fun W tk => (pe_callB call_isiT hg hm boot_isinstance (pa_cons ha.run (pa_cons (pe_tup (pa_cons (pe_bltn (v := .ty t.name) hgy hy hvy rfl hny hdy) (pa_cons (pe_bltn (v := .ty u.name) hgz hz hvz rfl hnz hdz) pa_nil))) pa_nil) he) (by decide) (by decide) he hpl).imp fun sv H Q h => by
    obtain ⟨g, s, R, m⟩ := h
    refine ⟨g, s, R, ?_⟩
    unfold vIsi2 at m
    cases e : da s with
    | none => rw [e] at m; exact m
    | some c =>
      rw [e] at m
      intro v hv
      cases o : oIsi2 t u c with
      | none => simp only [o, optO] at m
      | some d =>
        simp only [o, optO] at m
        unfold oIsi2 at o
        cases h1 : isTy t c with
        | none => rw [h1] at o; cases o
        | some b1 =>
          cases h2 : isTy u c with
          | none => rw [h1, h2] at o; cases o
          | some b2 =>
            rw [h1, h2] at o
            cases o
            refine ⟨Nat.le_trans (show 2 ≤ 16777216 by decide) (Nat.le_of_eq sizeLine_eq.symm), fun q hq => ?_⟩
            have R1 := R.grown (sub_upd (o := .tup [.ty t.name, .ty u.name]) hq)
            have hv1 : CV X.K k g (upd H q (.tup [.ty t.name, .ty u.name])) (fun _ a => ∃ q, g.w a = some (ra, q)) [] c v := CV.mono0 hv (Sub.refl _) (fun _ z => z) (fun a _ o e => sub_upd hq _ _ e) (fun p a e => ⟨e, fun o e => sub_upd hq _ _ e⟩)
            obtain ⟨n, ty, kt⟩ := isTy_ok R1.sub hv1 ⟨t, b1, h1⟩
            refine ⟨v, q, _, .type n, [.type t.name, .type u.name], (b1 || b2), rfl, upd_same, .cons (.ty _) (.cons (.ty _) .nil), ty, ?_, ?_⟩
            · refine kitAny_cons (kt t b1 h1) (fun hb => ?_) (fun hb => by rw [hb]; rfl)
              rw [hb, Bool.false_or]
              refine kitAny_cons (kt u b2 h2) (fun hb => ?_) (fun hb => hb)
              rw [hb]
              exact kitAny_nil
            · exact m _ g _ R1 (Ext.grown (sub_upd hq)) rfl⟩
end

/-! ### argument lists of values, displays -/
abbrev DVs := List Cell → O (List D)
def tVs (K : PySem.W.Frag) (k : Kc) (W : WX) (dv : DVs) : TA := fun sv H Q => ∃ g s, Rel K k g s sv H ∧ match dv s with
  | .ok ds s' => ∀ vs g' H', Rel K k g' s' sv H' → Ext g H g' H' → RpL K k g'.G ds vs → Q vs H'
  | .ex e s' => exW K k W g H e s'
  | .bad => False
structure SVs (X : Cx) (k : Kc) (es : List Expr) (dv : DVs) : Prop where
  run : ∀ W, Takes X W → PA X es (tVs X.K k W dv)
def vsNil : DVs := fun s => .ok [] s
def vsCons (da : DV) (db : DVs) : DVs := fun s => (da s).bind fun a s1 => (db s1).bind fun b s2 => .ok (a :: b) s2
def vTup (dv : DVs) : DV := fun s => (dv s).bind fun ds s1 => if ds.length ≤ 16777216 then .ok (.tup ds) s1 else .bad
def cLst (dv : DVs) : DC := fun s => (dv s).bind fun ds s1 => if ds.length ≤ 16777216 then .ok (.ol ds) s1 else .bad
/-- a new object's own map -/
def new1 (p : Addr) : Addr → Option (List Nat) := fun a => if a = p then some [] else none
theorem new1_same {p : Addr} : new1 p p = some [] := if_pos rfl
theorem new1_some {p a : Addr} {q : List Nat} (h : new1 p a = some q) : a = p ∧ q = [] := by
  unfold new1 at h
  split at h
  · cases h
    exact ⟨‹_›, rfl⟩
  · cases h
section
variable {K : PySem.W.Frag} {k : Kc} {g : Gs} {s : List Cell} {sv : L2.St} {H : Hp}
theorem Rel.free (R : Rel K k g s sv H) {p : Addr} (h : H p = none) : g.w p = none ∧ g.G p = none ∧ ¬ g.F p := by
  refine ⟨?_, ?_, fun z => (R.fra p z).2 h⟩
  · cases e : g.w p with
    | none => rfl
    | some q => exact absurd h (R.dis p q e).2
  · cases e : g.G p with
    | none => rfl
    | some o =>
      rw [R.sub _ _ e] at h
      cases h
theorem Own.new (R : Rel K k g s sv H) {p : Addr} {o : HO} (h : H p = none) : Own (new1 p) g H g (upd H p o) := fun a ha => by
  cases e : new1 p a with
  | none => exact absurd e ha
  | some q =>
    obtain ⟨rfl, _⟩ := new1_some e
    obtain ⟨h1, h2, _⟩ := R.free h
    exact ⟨h1, h2, by rw [upd_same]; simp, .inr h⟩
theorem new_ol {p : Addr} {ds : List D} {vs : List V} (h : RpL K k g.G ds vs) : CV K k g (upd H p (.lst vs)) (fun q a => new1 p a = some q) [] (.ol ds) (.ref p) := ⟨p, vs, rfl, new1_same, upd_same, h⟩
end
section
variable {X : Cx} {k : Kc} {e : Expr} {es : List Expr} {pos : Pos}
theorem vs_nil : SVs X k [] vsNil := ⟨fun W _ => pa_nil.imp fun sv H Q h => by
  obtain ⟨g, s, R, m⟩ := h
  exact m [] g H R (Ext.refl _ _) rfl⟩
theorem vs_cons {da : DV} {db : DVs} (ha : SV X k e da) (hb : SVs X k es db) (hs : starEach (e :: es) X.env = (false, eval e X.env) :: starEach es X.env := by rfl) : SVs X k (e :: es) (vsCons da db) := ⟨fun W tk => (pa_cons (ha.run W tk) (hb.run W tk) hs).imp fun sv H Q h => by
  obtain ⟨g, s, R, m⟩ := h
  refine ⟨g, s, R, ?_⟩
  unfold vsCons at m
  cases e1 : da s with
  | bad => rw [e1] at m; exact m
  | ex e' s' => rw [e1] at m; exact m
  | ok d s1 =>
    rw [e1, O.bind_ok] at m
    intro v g1 H1 R1 x1 hv
    refine ⟨g1, s1, R1, ?_⟩
    cases e2 : db s1 with
    | bad => rw [e2] at m; exact m
    | ex e' s' => rw [e2] at m; exact exW.later x1 m
    | ok ds s2 =>
      rw [e2, O.bind_ok] at m
      intro vs g2 H2 R2 x2 hvs
      exact m (v :: vs) g2 H2 R2 (x1.trans x2) (RpL.cons (Rp.mono x2.G d v hv) hvs)⟩
theorem v_tup {j : Nat} {dv : DVs} (h : SVs X k es dv) : SV X k (.Tuple es j pos) (vTup dv) := ⟨fun W tk => (pe_tup (h.run W tk)).imp fun sv H Q h => by
  obtain ⟨g, s, R, m⟩ := h
  refine ⟨g, s, R, ?_⟩
  unfold vTup at m
  cases e1 : dv s with
  | bad => rw [e1] at m; exact m
  | ex e' s' => rw [e1] at m; exact m
  | ok ds s1 =>
    rw [e1, O.bind_ok] at m
    intro vs g1 H1 R1 x1 hv
    by_cases hl : ds.length ≤ 16777216
    · rw [if_pos hl] at m
      refine ⟨by rw [sizeLine_eq, ← hv.length]; exact hl, fun p hp => ?_⟩
      exact m (.ref p) (g1.lay p (.tup vs)) _ (R1.lay hp) (x1.trans (Ext.lay R1 hp)) ⟨p, vs, rfl, SqT.of lay_at, hv.mono (Ext.lay R1 hp).G _ _⟩
    · rw [if_neg hl] at m
      exact m.elim⟩
theorem c_lst {dv : DVs} (h : SVs X k es dv) : SC X k (.List es pos) (cLst dv) := ⟨fun W tk => (pe_lst (h.run W tk)).imp fun sv H Q h => by
  obtain ⟨g, s, R, m⟩ := h
  refine ⟨g, s, R, ?_⟩
  unfold cLst at m
  cases e1 : dv s with
  | bad => rw [e1] at m; exact m
  | ex e' s' => rw [e1] at m; exact m
  | ok ds s1 =>
    rw [e1, O.bind_ok] at m
    intro vs g1 H1 R1 x1 hv
    by_cases hl : ds.length ≤ 16777216
    · rw [if_pos hl] at m
      refine ⟨by rw [sizeLine_eq, ← hv.length]; exact hl, fun p hp => ?_⟩
      exact m (.ref p) g1 _ (new1 p) (R1.grown (sub_upd hp)) (x1.trans (Ext.grown (sub_upd hp))) ((Own.new R1 hp).later x1) (new_ol hv)
    · rw [if_neg hl] at m
      exact m.elim⟩
end

/-! ### attributes -/
def lkp {α : Type} : List Str → List α → Str → Option α
  | n :: ns, x :: xs, f => if n = f then some x else lkp ns xs f
  | _, _, _ => none
theorem lkp_fs {α : Type} {P : α → V → Prop} : ∀ {ns : List Str} {ds : List α} {fs : List (Str × V)} {f : Str} {d : α}, fs.map (·.1) = ns → ds.length = fs.length → (∀ (i : Nat) d v, ds[i]? = some d → (fs.map (·.2))[i]? = some v → P d v) → lkp ns ds f = some d → ∃ v, fs.lookup f = some v ∧ P d v
  | [], _, _, _, _, _, _, _, h => by cases h
  | n :: ns, [], _, _, _, _, _, _, h => by cases h
  | n :: ns, x :: xs, [], _, _, e, _, _, _ => by cases e
  | n :: ns, x :: xs, (m, u) :: fs, f, d, e, l, hp, h => by
    simp only [List.map_cons, List.cons.injEq] at e
    obtain ⟨e1, e2⟩ := e
    subst e1
    unfold lkp at h
    by_cases hf : m = f
    · rw [if_pos hf] at h
      cases h
      refine ⟨u, ?_, hp 0 x u rfl rfl⟩
      have hb : (f == m) = true := beq_iff_eq.mpr hf.symm
      simp only [List.lookup, hb]
    · rw [if_neg hf] at h
      obtain ⟨v, h1, h2⟩ := lkp_fs (ns := ns) (ds := xs) (fs := fs) e2 (by simpa using l) (fun i d v a b => hp (i + 1) d v (by simpa using a) (by simpa using b)) h
      refine ⟨v, ?_, h2⟩
      have hb : (f == m) = false := beq_eq_false_iff_ne.mpr fun z => hf z.symm
      simp only [List.lookup, hb]
      exact h1
section
variable {K : PySem.W.Frag} {k : Kc} {g : Gs} {H : Hp} {ow : List Nat → Addr → Prop}
theorem CVL.length : ∀ {cs : List Cell} {vs : List V} {p : List Nat} {j : Nat}, CVL K k g H ow p j cs vs → cs.length = vs.length
  | [], vs, _, _, h => by
    cases (show vs = [] from h)
    rfl
  | c :: cs, vs, p, j, h => by
    obtain ⟨v, w, e, _, h2⟩ := h
    subst e
    simp [CVL.length h2]
theorem CVL.at : ∀ {cs : List Cell} {vs : List V} {p : List Nat} {j : Nat} {i : Nat} {c : Cell} {v : V}, CVL K k g H ow p j cs vs → cs[i]? = some c → vs[i]? = some v → CV K k g H ow (p ++ [j + i]) c v
  | [], _, _, _, _, _, _, _, e, _ => by simp at e
  | d :: cs, vs, p, j, i, c, v, h, e1, e2 => by
    obtain ⟨u, w, e, h1, h2⟩ := h
    subst e
    cases i with
    | zero =>
      simp at e1 e2
      subst e1 e2
      exact h1
    | succ i =>
      have z := CVL.at h2 (i := i) (by simpa using e1) (by simpa using e2)
      rw [show j + (i + 1) = j + 1 + i by omega]
      exact z
end
def attrC (cs : List Nat) (f : Str) : Cell → Option Cell
  | .sh (.ins c ns ds) => if c ∈ cs then (lkp ns ds f).map Cell.sh else none
  | .oi c ns es => if c ∈ cs then lkp ns es f else none
  | .bi c ns es => if c ∈ cs then lkp ns es f else none
  | _ => none
def qAttr (cs : List Nat) (f : Str) (da : DQ) : DQ := fun s => match da s with
  | some c => attrC cs f c
  | none => none
section
variable {X : Cx} {k : Kc} {a : Expr} {f : Str} {pos : Pos} {ra : Nat}
theorem q_attr {cs : List Nat} {da : DQ} (hC : ∀ c ∈ cs, Cls X.K (k.cl c) ∧ NoAttr X.K (k.cl c) f) (ha : SQ X k ra a da) (hb : attributeBase a f X.env (eval a X.env) = eval a X.env := by rfl) : SQ X k ra (.Attribute a f pos) (qAttr cs f da) :=
  ⟨(pe_fld ha.run hb).imp fun sv H Q h => by
    obtain ⟨g, s, R, m⟩ := h
    refine ⟨g, s, R, ?_⟩
    unfold qAttr at m
    cases e : da s with
    | none => rw [e] at m; exact m
    | some c =>
      rw [e] at m
      intro v hv
      have key : ∀ {cn : Nat} {ns : List Str} {es : List Cell} {p : Addr} {dx : Addr} {fs : List (Str × V)}, v = .ref p → H p = some (.ins (k.cl cn) dx fs) → fs.map (·.1) = ns → CVL X.K k g H (fun _ a => ∃ q, g.w a = some (ra, q)) [] 0 es (fs.map (·.2)) → (match if cn ∈ cs then lkp ns es f else none with
          | some c => ∀ v, CV X.K k g H (fun _ a => ∃ q, g.w a = some (ra, q)) [] c v → Q v H
          | none => False) → ∃ a C dx fs v', v = .ref a ∧ H a = some (.ins C dx fs) ∧ Cls X.K C ∧ NoAttr X.K C f ∧ fs.lookup f = some v' ∧ Q v' H := fun {cn ns es p dx fs} e1 h1 h2 h3 m => by
        by_cases hc : cn ∈ cs
        · rw [if_pos hc] at m
          cases q : lkp ns es f with
          | none => rw [q] at m; exact m.elim
          | some c' =>
            rw [q] at m
            obtain ⟨u, hu, pu⟩ := lkp_fs (P := fun c v => ∃ p, CV X.K k g H (fun _ a => ∃ q, g.w a = some (ra, q)) p c v) h2 (by have := h3.length; rw [List.length_map] at this; exact this) (fun i d v a b => ⟨_, CVL.at h3 a b⟩) q
            obtain ⟨p', pu⟩ := pu
            obtain ⟨k1, k2⟩ := hC cn hc
            exact ⟨p, _, dx, fs, u, e1, h1, k1, k2, hu, m u (CV.re c' p' [] u pu)⟩
        · rw [if_neg hc] at m
          exact m.elim
      cases c with
      | sh d =>
        cases d with
        | ins cn ns ds =>
          obtain ⟨p, dx, fs, e1, h1, h2, h3⟩ := hv
          simp only [attrC] at m
          by_cases hc : cn ∈ cs
          · rw [if_pos hc] at m
            cases q : lkp ns ds f with
            | none => simp only [q, Option.map_none] at m
            | some d' =>
              simp only [q, Option.map_some] at m
              obtain ⟨u, hu, pu⟩ := lkp_fs (P := fun d v => Rp X.K k g.G d v) h2 (by have := h3.length; rw [List.length_map] at this; exact this) ((RpL.iff _ _).mp h3).2 q
              obtain ⟨k1, k2⟩ := hC cn hc
              exact ⟨p, _, dx, fs, u, e1, R.sub _ _ h1, k1, k2, hu, m u pu⟩
          · rw [if_neg hc] at m
            exact m.elim
        | _ => exact m.elim
      | oi cn ns es =>
        obtain ⟨p, dx, fs, e1, h0, h1, h2, h3⟩ := hv
        exact key e1 h1 h2 h3 m
      | bi cn ns es =>
        obtain ⟨p, dx, fs, e1, h0, h1, h2, h3⟩ := hv
        exact key e1 h1 h2 h3 m
      | _ => exact m.elim⟩
end
end VL
end
section
set_option maxRecDepth 100000
set_option maxHeartbeats 2000000
/-! VL7: statements, targets, loops, comprehensions -/
namespace VL
open PySem PySem.Spec PyProof.Rows L2

/-- what is wanted behind a statement that came out as so -/
def soW (K : PySem.W.Frag) (k : Kc) (W : WX) (D : Ends) (g : Gs) (H : Hp) : SO → Prop
  | .nx s' => ∀ g' sv' H', Rel K k g' s' sv' H' → Ext g H g' H' → D.nx sv' H'
  | .rt c s' => ∀ v g' sv' H' t, Rel K k g' s' sv' H' → Ext g H g' H' → Own t g H g' H' → CV K k g' H' (fun p a => t a = some p) [] c v → D.rt v H'
  | .bk s' => ∀ g' sv' H', Rel K k g' s' sv' H' → Ext g H g' H' → D.bk sv' H'
  | .ct s' => ∀ g' sv' H', Rel K k g' s' sv' H' → Ext g H g' H' → D.ct sv' H'
  | .ex e s' => exW K k W g H e s'
  | .bad => False
section
variable {K : PySem.W.Frag} {k : Kc} {W : WX} {D : Ends} {g g1 : Gs} {H H1 : Hp}
theorem soW.later {so : SO} (x : Ext g H g1 H1) (h : soW K k W D g H so) : soW K k W D g1 H1 so := by
  cases so with
  | nx s' => exact fun g' sv' H' R y => h g' sv' H' R (x.trans y)
  | rt c s' => exact fun v g' sv' H' t R y o hv => h v g' sv' H' t R (x.trans y) (o.later x) hv
  | bk s' => exact fun g' sv' H' R y => h g' sv' H' R (x.trans y)
  | ct s' => exact fun g' sv' H' R y => h g' sv' H' R (x.trans y)
  | ex e s' => exact exW.later x h
  | bad => exact h
theorem tS_eq {ds : DS} {sv : L2.St} : tS K k W ds D sv H = ∃ g s, Rel K k g s sv H ∧ soW K k W D g H (ds s) := by
  unfold tS
  congr 1
theorem tS_of {ds : DS} {s : List Cell} {sv : L2.St} (R : Rel K k g s sv H) (h : soW K k W D g H (ds s)) : tS K k W ds D sv H := by
  rw [tS_eq]
  exact ⟨g, s, R, h⟩
end
section
variable {K : PySem.W.Frag} {k : Kc} {g g0 : Gs} {s : List Cell} {sv : L2.St} {H H0 : Hp} {t : Addr → Option (List Nat)} {c : Cell} {v : V} {i : Nat}
theorem Rel.assign (R : Rel K k g s sv H) (x : Ext g0 H0 g H) (R0 : ∀ a, g0.F a → g0.w a = none ∧ H0 a ≠ none) (o : Own t g0 H0 g H) (hv : CV K k g H (fun p a => t a = some p) [] c v) (hio : i ∉ k.io) :
    ∃ g2, Rel K k g2 (s.set i c) (sv.set i (some v)) H ∧ Ext g0 H0 g2 H := by
  by_cases hl : i < sv.length
  · exact ⟨_, R.put (i := i) (c := c) (v := v) (sv' := sv.set i (some v)) x R0 o hv (by simp) (by rw [List.getElem?_set_self hl]) (fun j hj => by rw [List.getElem?_set_ne (Ne.symm hj)])
      (fun j w hw => by
        have hj : j ≠ i := fun z => hio (z ▸ R.pio j w hw)
        rw [List.getElem?_set_ne (Ne.symm hj)]
        exact R.pin j w hw)⟩
  · refine ⟨g, ?_, x⟩
    have hl2 := R.len
    rw [List.set_eq_of_length_le (show s.length ≤ i by omega), List.set_eq_of_length_le (show sv.length ≤ i by omega)]
    exact R
/-- a frozen value is stored -/
theorem Rel.assignD {d : D} (R : Rel K k g s sv H) (hv : Rp K k g.G d v) (hio : i ∉ k.io) : ∃ g2, Rel K k g2 (s.set i (.sh d)) (sv.set i (some v)) H ∧ Ext g H g2 H :=
  R.assign (t := fun _ => none) (c := .sh d) (Ext.refl _ _) R.fra own_none hv hio
theorem set_id {α : Type} {l : List α} {i : Nat} {x : α} (h : l[i]? = some x) : l.set i x = l := by
  apply List.ext_getElem?
  intro j
  by_cases e : i = j
  · subst e
    rw [List.getElem?_set_self (List.getElem?_eq_some_iff.mp h).1, h]
  · rw [List.getElem?_set_ne e]
end
def SO.then : SO → DS → SO
  | .nx s, f => f s
  | r, _ => r
def sNil : DS := fun s => .nx s
def sSeq (d1 d2 : DS) : DS := fun s => (d1 s).then d2
def oS {α : Type} (x : O α) (f : α → List Cell → SO) : SO := match x with
  | .ok a s => f a s
  | .ex e s => .ex e s
  | .bad => .bad
def sSet (i : Nat) (dc : DC) : DS := fun s => oS (dc s) fun c s1 => .nx (s1.set i c)
def sExpr (dv : DV) : DS := fun s => oS (dv s) fun _ s1 => .nx s1
def sRet (dc : DC) : DS := fun s => oS (dc s) fun c s1 => .rt c s1
def sRetN : DS := fun s => .rt (.sh .non) s
def sIf (dt : DT) (d1 d2 : DS) : DS := fun s => oS (dt s) fun b s1 => if b = true then d1 s1 else d2 s1
def sPass : DS := fun s => .nx s
def sBreak : DS := fun s => .bk s
def sCont : DS := fun s => .ct s
def sAug (op : Op2) (i : Nat) (dv : DV) : DS := fun s => match s[i]? with
  | some (.sh d) => oS (dv s) fun y s1 => match op (.sh d) (.sh y) with
    | some z => .nx (s1.set i (.sh z))
    | none => .bad
  | _ => .bad
section
variable {X : Cx} {k : Kc} {st : Stmt} {sts : List Stmt} {e : Expr} {x : Str} {p p' pos : Pos} {i : Nat}
theorem ss_nil : SSs X k [] sNil := ⟨fun W _ _ => pss_nil.imp fun D sv H h => by
  rw [tS_eq] at h
  obtain ⟨g, s, R, m⟩ := h
  exact m g sv H R (Ext.refl _ _)⟩
theorem ss_cons {d1 d2 : DS} (h1 : SS X k st d1) (h2 : SSs X k sts d2) : SSs X k (st :: sts) (sSeq d1 d2) := ⟨fun W tk po => (pss_cons (h1.run W tk po) (h2.run W tk po)).imp fun D sv H h => by
  rw [tS_eq] at h
  obtain ⟨g, s, R, m⟩ := h
  refine tS_of R ?_
  unfold sSeq at m
  cases e : d1 s with
  | nx s1 =>
    rw [e] at m
    exact fun g1 sv1 H1 R1 x1 => tS_of R1 (soW.later x1 m)
  | rt c s1 => rw [e] at m; exact m
  | bk s1 => rw [e] at m; exact m
  | ct s1 => rw [e] at m; exact m
  | ex e' s1 => rw [e] at m; exact m
  | bad => rw [e] at m; exact m⟩
theorem ss_one {d : DS} (h : SS X k st d) : SSs X k [st] d := ⟨fun W tk po => pss_one (h.run W tk po)⟩
theorem s_set {dc : DC} (he : SC X k e dc) (hio : i ∉ k.io) (hN : X.N.Nodup) (hi : X.N[i]? = some x := by rfl) (hx : Loc X.env.scope x := by first | exact .inl rfl | exact .inr rfl) (hs : swapsWith e (some (.Name x p')) pos.line X.env = pure false := by rfl)
    (hf : X.fn x = true ∨ X.env.scope.names.lookup x = some .local := by first | exact .inl rfl | exact .inr rfl) : SS X k (.Assign [.Name x p'] e pos) (sSet i dc) := ⟨fun W tk po => (ps_set hN hi hx (he.run W tk) hs hf).imp fun D sv H h => by
  rw [tS_eq] at h
  obtain ⟨g, s, R, m⟩ := h
  refine ⟨g, s, R, ?_⟩
  unfold sSet at m
  cases e : dc s with
  | bad => rw [e] at m; exact m
  | ex e' s' => rw [e] at m; exact m
  | ok c s1 =>
    rw [e] at m
    intro v g1 H1 t R1 x1 o hv
    obtain ⟨g2, R2, x2⟩ := R1.assign x1 R.fra o hv hio
    exact m g2 _ H1 R2 x2⟩
theorem s_expr {dv : DV} (he : SV X k e dv) (hs : swapsWith e none pos.line X.env = pure false := by rfl) : SS X k (.Expr e pos) (sExpr dv) := ⟨fun W tk po => (ps_expr (he.run W tk) hs).imp fun D sv H h => by
  rw [tS_eq] at h
  obtain ⟨g, s, R, m⟩ := h
  refine ⟨g, s, R, ?_⟩
  unfold sExpr at m
  cases e : dv s with
  | bad => rw [e] at m; exact m
  | ex e' s' => rw [e] at m; exact m
  | ok d s1 => rw [e] at m; exact fun v g1 H1 R1 x1 hv => m g1 sv H1 R1 x1⟩
theorem s_doc {z : Str} {j : Nat} {q : Pos} {jj : Nat} : SS X k (.Expr (.Constant (.str z) jj q) pos) sPass := ⟨fun W tk po => ps_doc.imp fun D sv H h => by
  rw [tS_eq] at h
  obtain ⟨g, s, R, m⟩ := h
  exact m g sv H R (Ext.refl _ _)⟩
theorem s_ret {dc : DC} (he : SC X k e dc) : SS X k (.Return (some e) pos) (sRet dc) := ⟨fun W tk po => (ps_ret (he.run W tk)).imp fun D sv H h => by
  rw [tS_eq] at h
  obtain ⟨g, s, R, m⟩ := h
  refine ⟨g, s, R, ?_⟩
  unfold sRet at m
  cases e : dc s with
  | bad => rw [e] at m; exact m
  | ex e' s' => rw [e] at m; exact m
  | ok d s1 => rw [e] at m; exact fun v g1 H1 t R1 x1 o hv => m v g1 sv H1 t R1 x1 o hv⟩
theorem s_retN : SS X k (.Return none pos) sRetN := ⟨fun W tk po => ps_retN.imp fun D sv H h => by
  rw [tS_eq] at h
  obtain ⟨g, s, R, m⟩ := h
  exact m .non g sv H (fun _ => none) R (Ext.refl _ _) own_none rfl⟩
theorem s_if {dt : DT} {d1 d2 : DS} {a b : List Stmt} (hc : ST X k e dt) (h1 : SSs X k a d1) (h2 : SSs X k b d2) : SS X k (.If e a b pos) (sIf dt d1 d2) := ⟨fun W tk po => (ps_if (hc.run W tk) (h1.run W tk po) (h2.run W tk po)).imp fun D sv H h => by
  rw [tS_eq] at h
  obtain ⟨g, s, R, m⟩ := h
  refine ⟨g, s, R, ?_⟩
  unfold sIf at m
  cases e : dt s with
  | bad => rw [e] at m; exact m
  | ex e' s' => rw [e] at m; exact m
  | ok b s1 =>
    rw [e] at m
    intro g1 H1 R1 x1
    cases b with
    | true => exact tS_of R1 (soW.later x1 m)
    | false => exact tS_of R1 (soW.later x1 m)⟩
theorem s_pass : SS X k (.Pass pos) sPass := ⟨fun W tk po => ps_pass.imp fun D sv H h => by
  rw [tS_eq] at h
  obtain ⟨g, s, R, m⟩ := h
  exact m g sv H R (Ext.refl _ _)⟩
theorem s_break : SS X k (.Break pos) sBreak := ⟨fun W tk po => ps_break.imp fun D sv H h => by
  rw [tS_eq] at h
  obtain ⟨g, s, R, m⟩ := h
  exact m g sv H R (Ext.refl _ _)⟩
theorem s_continue : SS X k (.Continue pos) sCont := ⟨fun W tk po => ps_continue.imp fun D sv H h => by
  rw [tS_eq] at h
  obtain ⟨g, s, R, m⟩ := h
  exact m g sv H R (Ext.refl _ _)⟩
/-- x op= e, a frozen x -/
theorem s_aug {o : Operator} {r : R2} {op : Op2} {dv : DV} (ho : OpR X (inplaceOp o) r) (S : R2S X.K r op) (he : SV X k e dv) (hio : i ∉ k.io) (hN : X.N.Nodup) (hi : X.N[i]? = some x := by rfl) (hx : Loc X.env.scope x := by first | exact .inl rfl | exact .inr rfl)
    (hf : X.fn x = true ∨ X.env.scope.names.lookup x = some .local := by first | exact .inl rfl | exact .inr rfl) : SS X k (.AugAssign (.Name x p') o e pos) (sAug op i dv) := ⟨fun W tk po => (ps_aug (ti := r) hN hi hx (he.run W tk) ho hf).imp fun D sv H h => by
  rw [tS_eq] at h
  obtain ⟨g, s, R, m⟩ := h
  unfold sAug at m
  cases q : s[i]? with
  | none => rw [q] at m; exact m.elim
  | some c =>
    rw [q] at m
    cases c with
    | sh d =>
      obtain ⟨v, e1, h1⟩ := R.cel i _ q (by intro z; cases z)
      refine ⟨v, e1, g, s, R, ?_⟩
      cases e : dv s with
      | bad => simp only [e] at m; exact m
      | ex e' s' => simp only [e] at m; exact m
      | ok y s1 =>
        simp only [e] at m
        intro u g1 H1 R1 x1 hu
        cases eo : op (.sh d) (.sh y) with
        | none => simp only [oS, eo] at m; exact m.elim
        | some z =>
          simp only [oS, eo] at m
          refine S.run k g1 H1 (fun _ _ => False) (fun _ _ => False) (.sh d) (.sh y) z v u _ R1.sub eo (Rp.mono x1.G d v h1) hu fun w hw => ?_
          obtain ⟨g2, R2, x2⟩ := R1.assignD (i := i) hw hio
          exact m g2 _ H1 R2 (x1.trans x2)
    | _ => exact m.elim⟩
end

/-! ### methods of a list that a slot owns -/
def vAppend (i : Nat) (dv : DV) : DV := fun s => match s[i]? with
  | some (.ol _) => (dv s).bind fun d s1 => match s1[i]? with
    | some (.ol ds) => if ds.length < 16777216 then .ok .non (s1.set i (.ol (ds ++ [d]))) else .bad
    | _ => .bad
  | _ => .bad
def vPop (i : Nat) : DV := fun s => match s[i]? with
  | some (.ol ds) => match ds.getLast? with
    | some d => .ok d (s.set i (.ol ds.dropLast))
    | none => .bad
  | _ => .bad
def vReverse (i : Nat) : DV := fun s => match s[i]? with
  | some (.ol ds) => .ok .non (s.set i (.ol ds.reverse))
  | _ => .bad
section
variable {X : Cx} {k : Kc} {e : Expr} {x : Str} {p ap cp : Pos} {i : Nat}
theorem ol_at {K : PySem.W.Frag} {g : Gs} {s : List Cell} {sv : L2.St} {H : Hp} {ds : List D} (R : Rel K k g s sv H) (q : s[i]? = some (.ol ds)) : ∃ a vs, sv[i]? = some (some (.ref a)) ∧ g.w a = some (i, []) ∧ H a = some (.lst vs) ∧ RpL K k g.G ds vs := by
  obtain ⟨v, e1, a, vs, e, h1, h2, h3⟩ := R.cel i _ q (by intro z; cases z)
  subst e
  exact ⟨a, vs, e1, h1, h2, h3⟩
theorem ol_wr {K : PySem.W.Frag} {g : Gs} {s : List Cell} {sv : L2.St} {H : Hp} {a : Addr} {ds : List D} {vs : List V} (R : Rel K k g s sv H) (e1 : sv[i]? = some (some (.ref a))) (hw : g.w a = some (i, [])) (h : RpL K k g.G ds vs) :
    Rel K k g (s.set i (.ol ds)) sv (upd H a (.lst vs)) ∧ Ext g H g (upd H a (.lst vs)) := R.write hw e1 ⟨a, vs, rfl, hw, upd_same, h⟩
theorem v_append {dv : DV} (he : SV X k e dv) (hN : X.N[i]? = some x := by rfl) (hv : Vis X.env.scope x := by first | exact Or.inl rfl | exact Or.inr (Or.inl rfl) | exact Or.inr (Or.inr rfl)) (hd : (x == ("__debug__" : Str)) = false := by decide)
    (hcd : (x == ("__classdict__" : Str)) = false := by decide) (hbase : attributeBase (.Name x p) "append" X.env (eval (.Name x p) X.env) = eval (.Name x p) X.env := by rfl)
    (hfew : ((backTo cp (starEach [e] X.env)).all (fun x => !x.1) && (backToKw cp (keywordEach [] X.env)).all (fun x => x.1.isSome) && decide (([e] : List Expr).length + ([] : List Keyword).length + (if ([] : List Keyword).isEmpty then 0 else 1) < 30)) = true := by rfl)
    (hline : (ap.endLine == cp.line) = true := by rfl) (hs : starEach [e] X.env = (false, eval e X.env) :: starEach [] X.env := by rfl) (hplain : (backTo cp (starEach [] X.env)).any (·.1) = false := by rfl) :
    SV X k (.Call (.Attribute (.Name x p) "append" ap) [e] [] cp) (vAppend i dv) := ⟨fun W tk => (pe_bm PySem.F.plainAttrs_list PySem.F.slot_list_append PySem.F.type_list_append mt_append (pe_var hN hv hd hcd) (pa_cons (he.run W tk) pa_nil hs) hbase hfew hline hs hplain).imp fun sv H Q h => by
  obtain ⟨g, s, R, m⟩ := h
  unfold vAppend at m
  cases q : s[i]? with
  | none => rw [q] at m; exact m.elim
  | some c =>
    rw [q] at m
    cases c with
    | ol ds0 =>
      obtain ⟨a, vs0, e1, hw0, hH0, _⟩ := ol_at R q
      refine ⟨.ref a, e1, .inl ⟨rfl, vs0, SqL.of hH0⟩, g, s, R, ?_⟩
      cases e2 : dv s with
      | bad => simp only [e2] at m; exact m
      | ex e' s' => simp only [e2] at m; exact m
      | ok d s1 =>
        simp only [e2, O.bind_ok] at m
        intro y g1 H1 R1 x1 hy
        cases q1 : s1[i]? with
        | none => simp only [q1] at m
        | some c1 =>
          cases c1 with
          | ol ds =>
            simp only [q1] at m
            obtain ⟨a', vs, e1', hw, hH, hr⟩ := ol_at R1 q1
            rw [e1] at e1'
            cases e1'
            by_cases hl : ds.length < 16777216
            · rw [if_pos hl] at m
              obtain ⟨R2, x2⟩ := ol_wr R1 e1 hw (hr.append (RpL.cons hy RpL.nil))
              exact ⟨a, vs, y, rfl, rfl, hH, by rw [sizeLine_eq, ← hr.length]; exact hl, m .non g1 _ R2 (x1.trans x2) rfl⟩
            · rw [if_neg hl] at m
              exact m.elim
          | _ => simp only [q1] at m
    | _ => exact m.elim⟩
theorem v_pop (hN : X.N[i]? = some x := by rfl) (hv : Vis X.env.scope x := by first | exact Or.inl rfl | exact Or.inr (Or.inl rfl) | exact Or.inr (Or.inr rfl)) (hd : (x == ("__debug__" : Str)) = false := by decide)
    (hcd : (x == ("__classdict__" : Str)) = false := by decide) (hbase : attributeBase (.Name x p) "pop" X.env (eval (.Name x p) X.env) = eval (.Name x p) X.env := by rfl) (hline : (ap.endLine == cp.line) = true := by rfl) :
    SV X k (.Call (.Attribute (.Name x p) "pop" ap) [] [] cp) (vPop i) := ⟨fun W tk => (pe_bm0 PySem.F.plainAttrs_list PySem.F.slot_list_pop PySem.F.type_list_pop mt_pop (pe_var hN hv hd hcd) hbase hline).imp fun sv H Q h => by
  obtain ⟨g, s, R, m⟩ := h
  unfold vPop at m
  cases q : s[i]? with
  | none => rw [q] at m; exact m.elim
  | some c =>
    rw [q] at m
    cases c with
    | ol ds =>
      obtain ⟨a, vs, e1, hw, hH, hr⟩ := ol_at R q
      refine ⟨.ref a, e1, .inl ⟨rfl, vs, SqL.of hH⟩, ?_⟩
      cases q2 : ds.getLast? with
      | none => simp only [q2] at m
      | some d =>
        simp only [q2] at m
        rw [List.getLast?_eq_getElem?] at q2
        obtain ⟨y, h1, h2⟩ := hr.at q2
        obtain ⟨R2, x2⟩ := ol_wr R e1 hw hr.dropLast
        rw [hr.length] at h1
        exact ⟨a, vs, y, rfl, rfl, hH, h1, m y g _ R2 x2 h2⟩
    | _ => exact m.elim⟩
theorem v_reverse (hN : X.N[i]? = some x := by rfl) (hv : Vis X.env.scope x := by first | exact Or.inl rfl | exact Or.inr (Or.inl rfl) | exact Or.inr (Or.inr rfl)) (hd : (x == ("__debug__" : Str)) = false := by decide)
    (hcd : (x == ("__classdict__" : Str)) = false := by decide) (hbase : attributeBase (.Name x p) "reverse" X.env (eval (.Name x p) X.env) = eval (.Name x p) X.env := by rfl) (hline : (ap.endLine == cp.line) = true := by rfl) :
    SV X k (.Call (.Attribute (.Name x p) "reverse" ap) [] [] cp) (vReverse i) := ⟨fun W tk => (pe_bm0 PySem.F.plainAttrs_list PySem.F.slot_list_reverse PySem.F.type_list_reverse mt_reverse (pe_var hN hv hd hcd) hbase hline).imp fun sv H Q h => by
  obtain ⟨g, s, R, m⟩ := h
  unfold vReverse at m
  cases q : s[i]? with
  | none => rw [q] at m; exact m.elim
  | some c =>
    rw [q] at m
    cases c with
    | ol ds =>
      obtain ⟨a, vs, e1, hw, hH, hr⟩ := ol_at R q
      obtain ⟨R2, x2⟩ := ol_wr R e1 hw hr.reverse
      exact ⟨.ref a, e1, .inl ⟨rfl, vs, SqL.of hH⟩, a, vs, rfl, rfl, hH, m .non g _ R2 x2 rfl⟩
    | _ => exact m.elim⟩
end

/-! ### targets -/
abbrev DG := D → List Cell → Option (List Cell)
abbrev DGs := List D → List Cell → Option (List Cell)
/-- only the slots js are stored -/
def OnlyAt (js : List Nat) (sv sv' : L2.St) : Prop := sv'.length = sv.length ∧ ∀ j, j ∉ js → sv'[j]? = sv[j]?
theorem OnlyAt.refl {js : List Nat} {sv : L2.St} : OnlyAt js sv sv := ⟨rfl, fun _ _ => rfl⟩
theorem OnlyAt.trans {js : List Nat} {a b c : L2.St} (x : OnlyAt js a b) (y : OnlyAt js b c) : OnlyAt js a c := ⟨y.1.trans x.1, fun j h => (y.2 j h).trans (x.2 j h)⟩
theorem OnlyAt.mono {js ks : List Nat} {a b : L2.St} (x : OnlyAt js a b) (h : ∀ j ∈ js, j ∈ ks) : OnlyAt ks a b := ⟨x.1, fun j hj => x.2 j fun z => hj (h j z)⟩
theorem OnlyAt.wipe {js : List Nat} {a b : L2.St} (x : OnlyAt js a b) : L2.wipe b js = L2.wipe a js := by
  apply List.ext_getElem?
  intro j
  have key : ∀ (sv : L2.St) (vs : List Nat), (L2.wipe sv vs)[j]? = if j ∈ vs then (if j < sv.length then some none else none) else sv[j]? := by
    intro sv vs
    induction vs with
    | nil => rfl
    | cons v vs ih =>
      unfold L2.wipe
      by_cases hv : v = j
      · subst hv
        rw [if_pos (List.mem_cons_self ..)]
        by_cases hl : v < sv.length
        · rw [if_pos hl, List.getElem?_set_self (by rw [wipe_length]; exact hl)]
        · rw [if_neg hl, List.getElem?_eq_none (by rw [List.length_set, wipe_length]; omega)]
      · rw [List.getElem?_set_ne hv, ih]
        by_cases hj : j ∈ vs
        · rw [if_pos hj, if_pos (List.mem_cons_of_mem _ hj)]
        · rw [if_neg hj, if_neg (by simp only [List.mem_cons, not_or]; exact ⟨fun e => hv e.symm, hj⟩)]
  rw [key, key, x.1]
  by_cases hj : j ∈ js
  · rw [if_pos hj, if_pos hj]
  · rw [if_neg hj, if_neg hj, x.2 j hj]
def tG (K : PySem.W.Frag) (k : Kc) (js : List Nat) (dg : DG) : TG := fun v sv H Q => ∃ g s d, Rel K k g s sv H ∧ Rp K k g.G d v ∧ match dg d s with
  | some s' => ∀ g' sv', Rel K k g' s' sv' H → Ext g H g' H → OnlyAt js sv sv' → Q sv' H
  | none => False
def tGs (K : PySem.W.Frag) (k : Kc) (js : List Nat) (dg : DGs) : TGs := fun vs sv H Q => ∃ g s ds, Rel K k g s sv H ∧ RpL K k g.G ds vs ∧ match dg ds s with
  | some s' => ∀ g' sv', Rel K k g' s' sv' H → Ext g H g' H → OnlyAt js sv sv' → Q sv' H
  | none => False
structure SG (X : Cx) (k : Kc) (tg : Expr) (js : List Nat) (dg : DG) : Prop where
  run : PG X tg (tG X.K k js dg)
structure SGs (X : Cx) (k : Kc) (tg : List Expr) (js : List Nat) (dg : DGs) : Prop where
  run : PGs X tg (tGs X.K k js dg)
def gName (i : Nat) : DG := fun d s => some (s.set i (.sh d))
def gsNil : DGs := fun ds s => match ds with
  | [] => some s
  | _ => none
def gsCons (a : DG) (b : DGs) : DGs := fun ds s => match ds with
  | d :: ds => match a d s with
    | some s1 => b ds s1
    | none => none
  | [] => none
def gTup (n : Nat) (b : DGs) : DG := fun d s => match d with
  | .tup ds => if ds.length = n then b ds s else none
  | _ => none
theorem _root_.L2.PG.imp {X : Cx} {e : Expr} {t t' : TG} (h : PG X e t) (i : ∀ v sv H Q, t' v sv H Q → t v sv H Q) : PG X e t' := ⟨fun pins s sv H v u Q I r hw => h.run pins s sv H v u Q I r (i _ _ _ _ hw)⟩
theorem _root_.L2.PGs.imp {X : Cx} {e : List Expr} {t t' : TGs} (h : PGs X e t) (i : ∀ v sv H Q, t' v sv H Q → t v sv H Q) : PGs X e t' := ⟨fun pins s sv H v u Q I r hw => h.run pins s sv H v u Q I r (i _ _ _ _ hw)⟩
section
variable {X : Cx} {k : Kc} {x : Str} {p pos : Pos} {i : Nat} {e : Expr} {es : List Expr}
theorem g_name (hio : i ∉ k.io) (hN : X.N.Nodup) (hi : X.N[i]? = some x := by rfl) (hx : Loc X.env.scope x := by first | exact .inl rfl | exact .inr rfl) (hf : X.fn x = true ∨ X.env.scope.names.lookup x = some .local := by first | exact .inl rfl | exact .inr rfl) : SG X k (.Name x p) [i] (gName i) :=
  ⟨(pg_name hN hi hx hf).imp fun v sv H Q h => by
    obtain ⟨g, s, d, R, hv, m⟩ := h
    obtain ⟨g2, R2, x2⟩ := R.assignD (i := i) hv hio
    exact m g2 _ R2 x2 ⟨by rw [List.length_set], fun j hj => List.getElem?_set_ne (fun z => hj (by rw [z]; exact List.mem_singleton.mpr rfl))⟩⟩
theorem gs_nil : SGs X k [] [] gsNil := ⟨pgs_nil.imp fun v sv H Q h => by
  obtain ⟨g, s, ds, R, hv, m⟩ := h
  cases ds with
  | nil => exact ⟨hv, m g sv R (Ext.refl _ _) OnlyAt.refl⟩
  | cons _ _ => exact m.elim⟩
theorem gs_cons {a : DG} {b : DGs} {js ks : List Nat} (h1 : SG X k e js a) (h2 : SGs X k es ks b) (hs : (assignEach (e :: es) X.env).map (·.2) = assign e X.env :: (assignEach es X.env).map (·.2) := by rfl) : SGs X k (e :: es) (js ++ ks) (gsCons a b) := ⟨(pgs_cons h1.run h2.run hs).imp fun v sv H Q h => by
  obtain ⟨g, s, ds, R, hv, m⟩ := h
  cases ds with
  | nil => exact m.elim
  | cons d ds =>
    obtain ⟨v1, w, ev, h1, h2⟩ := hv
    refine ⟨v1, w, ev, g, s, d, R, h1, ?_⟩
    unfold gsCons at m
    cases q : a d s with
    | none => simp only [q] at m
    | some s1 =>
      simp only [q] at m
      intro g1 sv1 R1 x1 o1
      refine ⟨g1, s1, ds, R1, h2.mono x1.G _ _, ?_⟩
      cases q2 : b ds s1 with
      | none => simp only [q2] at m
      | some s2 =>
        simp only [q2] at m
        exact fun g2 sv2 R2 x2 o2 => m g2 sv2 R2 (x1.trans x2) ((o1.mono fun j h => List.mem_append_left _ h).trans (o2.mono fun j h => List.mem_append_right _ h))⟩
theorem g_tup {b : DGs} {j n : Nat} {js : List Nat} (hc : X.calm = true) (h : SGs X k es js b) (hn : (assignEach es X.env).length = n := by rfl) (hst : (assignEach es X.env).findIdx? (·.1) = none := by rfl) : SG X k (.Tuple es j pos) js (gTup n b) := ⟨(pg_tup hc h.run hn hst).imp fun v sv H Q h => by
  obtain ⟨g, s, d, R, hv, m⟩ := h
  cases d with
  | tup ds =>
    obtain ⟨a, vs, e, h1, h2⟩ := hv
    simp only [gTup] at m
    by_cases hl : ds.length = n
    · rw [if_pos hl] at m
      exact ⟨a, vs, e, R.sub.seqT h1, by rw [← h2.length]; exact hl, g, s, ds, R, h2, m⟩
    · rw [if_neg hl] at m
      exact m.elim
  | _ => exact m.elim⟩
def sAsg (dv : DV) (dg : DG) : DS := fun s => oS (dv s) fun d s1 => match dg d s1 with
  | some s2 => .nx s2
  | none => .bad
theorem s_asg {tg : Expr} {dv : DV} {dg : DG} {js : List Nat} (he : SV X k e dv) (hg : SG X k tg js dg) (hs : swapsWithSole [tg] e pos.line X.env = pure false := by rfl) (hw : swappedStores [tg] e X.env = pure none := by rfl) (h1 : (assignEach [tg] X.env).map (·.2) = [assign tg X.env] := by rfl) :
    SS X k (.Assign [tg] e pos) (sAsg dv dg) := ⟨fun W tk po => (ps_asg (he.run W tk) hg.run hs hw h1).imp fun D sv H h => by
  rw [tS_eq] at h
  obtain ⟨g, s, R, m⟩ := h
  refine ⟨g, s, R, ?_⟩
  unfold sAsg at m
  cases e : dv s with
  | bad => rw [e] at m; exact m
  | ex e' s' => rw [e] at m; exact m
  | ok d s1 =>
    rw [e] at m
    intro v g1 H1 R1 x1 hv
    refine ⟨g1, s1, d, R1, hv, ?_⟩
    cases q : dg d s1 with
    | none => simp only [oS, q] at m; exact m
    | some s2 =>
      simp only [oS, q] at m
      exact fun g2 sv2 R2 x2 _ => m g2 sv2 H1 R2 (x1.trans x2)⟩
/-- xs[i] = e, xs a slot's own list -/
def sSetIx (i : Nat) (dv di : DV) : DS := fun s => oS (dv s) fun d s1 => match s1[i]? with
  | some (.ol _) => oS (di s1) fun j s2 => match s2[i]?, j with
    | some (.ol ds), .int j => match ixN ds.length j with
      | some n => .nx (s2.set i (.ol (ds.set n d)))
      | none => .bad
    | _, _ => .bad
  | _ => .bad
theorem s_setIx {ix : Expr} {p1 p2 : Pos} {dv di : DV} (he : SV X k e dv) (hj : SV X k ix di) (hN : X.N[i]? = some x := by rfl) (hv : Vis X.env.scope x := by first | exact Or.inl rfl | exact Or.inr (Or.inl rfl) | exact Or.inr (Or.inr rfl)) (hd : (x == ("__debug__" : Str)) = false := by decide)
    (hcd : (x == ("__classdict__" : Str)) = false := by decide) (ha : ∀ v, assign (.Subscript (.Name x p1) ix p2) X.env v = (do
      let ov ← holding [v] (eval (.Name x p1) X.env)
      let iv ← holding [v, ov] (eval ix X.env)
      standAt p2
      holding [v, ov, iv] (setItem ov iv v)
      release [v, ov, iv] []) := by intro _; rfl) (hs : swapsWithSole [.Subscript (.Name x p1) ix p2] e pos.line X.env = pure false := by rfl) (hw : swappedStores [.Subscript (.Name x p1) ix p2] e X.env = pure none := by rfl)
    (h1 : (assignEach [.Subscript (.Name x p1) ix p2] X.env).map (·.2) = [assign (.Subscript (.Name x p1) ix p2) X.env] := by rfl) : SS X k (.Assign [.Subscript (.Name x p1) ix p2] e pos) (sSetIx i dv di) := ⟨fun W tk po => (ps_asg (he.run W tk) (pg_sub (pe_var hN hv hd hcd) (hj.run W tk) set_list ha) hs hw h1).imp fun D sv H h => by
  rw [tS_eq] at h
  obtain ⟨g, s, R, m⟩ := h
  refine ⟨g, s, R, ?_⟩
  unfold sSetIx at m
  cases e : dv s with
  | bad => rw [e] at m; exact m
  | ex e' s' => rw [e] at m; exact m
  | ok d s1 =>
    rw [e] at m
    intro v g1 H1 R1 x1 hv
    cases q : s1[i]? with
    | none => simp only [oS, q] at m; exact m.elim
    | some c =>
      cases c with
      | ol ds0 =>
        simp only [oS, q] at m
        obtain ⟨a, vs0, e1, hw0, hH0, _⟩ := ol_at R1 q
        refine ⟨.ref a, e1, g1, s1, R1, ?_⟩
        cases e2 : di s1 with
        | bad => simp only [e2] at m; exact m
        | ex e' s' => simp only [e2] at m; exact exW.later x1 m
        | ok j s2 =>
          simp only [e2] at m
          intro y g2 H2 R2 x2 hy
          cases q2 : s2[i]? with
          | none => simp only [q2] at m; exact m.elim
          | some c2 =>
            cases c2 with
            | ol ds =>
              cases j with
              | int j =>
                simp only [q2] at m
                obtain ⟨a', vs, e1', hw, hH, hr⟩ := ol_at R2 q2
                rw [e1] at e1'
                cases e1'
                cases q3 : ixN ds.length j with
                | none => simp only [q3] at m; exact m.elim
                | some n =>
                  simp only [q3] at m
                  obtain ⟨R3, x3⟩ := ol_wr R2 e1 hw (hr.set n (Rp.mono x2.G d v hv))
                  exact ⟨a, vs, j, n, rfl, hy, hH, by rw [← hr.length]; exact q3, m g2 sv _ R3 ((x1.trans x2).trans x3)⟩
              | _ => simp only [q2] at m; exact m.elim
            | _ => simp only [q2] at m; exact m.elim
      | _ => simp only [oS, q] at m; exact m.elim⟩
/-- xs += a list -/
def sAugL (i : Nat) (dv : DV) : DS := fun s => match s[i]? with
  | some (.ol _) => oS (dv s) fun y s1 => match s1[i]?, y with
    | some (.ol ds), .lst es => if ds.length + es.length ≤ 16777216 then .nx (s1.set i (.ol (ds ++ es))) else .bad
    | _, _ => .bad
  | _ => .bad
theorem s_augL {p' : Pos} {dv : DV} (he : SV X k e dv) (hN : X.N.Nodup) (hi : X.N[i]? = some x := by rfl) (hx : Loc X.env.scope x := by first | exact .inl rfl | exact .inr rfl)
    (hf : X.fn x = true ∨ X.env.scope.names.lookup x = some .local := by first | exact .inl rfl | exact .inr rfl) : SS X k (.AugAssign (.Name x p') .Add e pos) (sAugL i dv) := ⟨fun W tk po => (ps_aug (ti := rExt2) hN hi hx (he.run W tk) iop_ext hf).imp fun D sv H h => by
  rw [tS_eq] at h
  obtain ⟨g, s, R, m⟩ := h
  unfold sAugL at m
  cases q : s[i]? with
  | none => rw [q] at m; exact m.elim
  | some c =>
    rw [q] at m
    cases c with
    | ol ds0 =>
      obtain ⟨a, vs0, e1, hw0, hH0, _⟩ := ol_at R q
      refine ⟨.ref a, e1, g, s, R, ?_⟩
      cases e2 : dv s with
      | bad => simp only [e2] at m; exact m
      | ex e' s' => simp only [e2] at m; exact m
      | ok y s1 =>
        simp only [e2, oS] at m
        intro u g1 H1 R1 x1 hu
        cases q1 : s1[i]? with
        | none => simp only [q1] at m; exact m.elim
        | some c1 =>
          cases c1 with
          | ol ds =>
            cases y with
            | lst es =>
              simp only [q1] at m
              obtain ⟨a', vs, e1', hw, hH, hr⟩ := ol_at R1 q1
              rw [e1] at e1'
              cases e1'
              obtain ⟨b, ws, eb, hb, hrb⟩ := hu
              by_cases hl : ds.length + es.length ≤ 16777216
              · rw [if_pos hl] at m
                obtain ⟨R2, x2⟩ := ol_wr R1 e1 hw (hr.append hrb)
                refine ⟨a, b, vs, ws, rfl, eb, hH, R1.sub _ _ hb, by rw [sizeLine_eq, ← hr.length, ← hrb.length]; exact hl, ?_⟩
                show D.nx (sv.set i (some (.ref a))) _
                rw [set_id e1]
                exact m g1 sv _ R2 (x1.trans x2)
              · rw [if_neg hl] at m
                exact m.elim
            | _ => simp only [q1] at m; exact m.elim
          | _ => simp only [q1] at m; exact m.elim
    | _ => exact m.elim⟩
end
end VL
end
section
set_option maxRecDepth 100000
set_option maxHeartbeats 2000000
/-! VL8: what a loop walks; for; comprehensions -/
namespace VL
open PySem PySem.Spec PyProof.Rows L2

structure JOk (K : PySem.W.Frag) (k : Kc) (J : It) (ds : List D) (g : Gs) (H : Hp) : Prop where
  go : ∀ (i : Nat) d g2 H2, ds[i]? = some d → Ext g H g2 H2 → Sub g2.G H2 → J.go i H2 ∧ ∀ x H3, J.yld i H2 x H3 → ∃ g3, (∀ s sv, Rel K k g2 s sv H2 → Rel K k g3 s sv H3) ∧ ((∀ s sv, Rel K k g2 s sv H2 → Ext g2 H2 g3 H3)) ∧ Rp K k g3.G d x
  stop : ∀ g2 H2, Ext g H g2 H2 → J.stop ds.length H2
abbrev DI := List Cell → O (List D)
def tI (K : PySem.W.Frag) (k : Kc) (W : WX) (di : DI) : TI := fun sv H R => ∃ g s, Rel K k g s sv H ∧ match di s with
  | .ok ds s' => ∀ J g' H', Rel K k g' s' sv H' → Ext g H g' H' → JOk K k J ds g' H' → R J H'
  | .ex e s' => exW K k W g H e s'
  | .bad => False
structure SI (X : Cx) (k : Kc) (tg e : Expr) (di : DI) : Prop where
  run : ∀ W, Takes X W → PI X tg e (tI X.K k W di)

/-! ### sources -/
def signs (z : Str) : List D := z.cps.toList.map fun c => D.str ⟨#[c]⟩
def itD : D → Option (List D)
  | .tup ds => some ds
  | .lst ds => some ds
  | .str z => some (signs z)
  | _ => none
def iVal (dv : DV) : DI := fun s => (dv s).bind fun d s1 => optO (itD d) s1
section
variable {K : PySem.W.Frag} {k : Kc} {g : Gs} {s : List Cell} {sv : L2.St} {H : Hp}
theorem Inv.seq_in {K : PySem.W.Frag} {H H2 : Hp} {a : Addr} {vs : List V} (h : ∀ o, H a = some o → H2 a = some o) (q : SqL K H a vs) : SqL K H2 a vs := by
  rcases q with (q | ⟨o, q⟩) | q
  · exact .inl (.inl (h _ q))
  · exact .inl (.inr ⟨o, h _ q⟩)
  · exact .inr q
theorem sqT_in {K : PySem.W.Frag} {H H2 : Hp} {a : Addr} {vs : List V} (h : ∀ o, H a = some o → H2 a = some o) (q : SqT K H a vs) : SqT K H2 a vs := by
  rcases q with (q | ⟨o, q⟩) | q
  · exact .inl (.inl (h _ q))
  · exact .inl (.inr ⟨o, h _ q⟩)
  · exact .inr q
/-- a list's iterator: the list is not ours to write -/
theorem jok_list {a : Addr} {vs : List V} {ds : List D} (h : SqL K H a vs) (hw : (∀ o, H a = some o → g.w a = none)) (hr : RpL K k g.G ds vs) : JOk K k (Itl K a) ds g H where
  go := fun i d g2 H2 e x sb => by
    obtain ⟨v, e1, h1⟩ := hr.at e
    have h2 : SqL K H2 a vs := Inv.seq_in (fun o ho => (x.fr a o ho (hw o ho)).1) h
    refine ⟨⟨vs, v, h2, e1⟩, fun y H3 hy => ?_⟩
    obtain ⟨e3, hy⟩ := hy
    subst e3
    refine ⟨g2, fun _ _ R => R, fun _ _ _ => Ext.refl _ _, ?_⟩
    have e4 := hy vs h2
    rw [e1] at e4
    cases e4
    exact Rp.mono x.G d v h1
  stop := fun g2 H2 x => ⟨vs, Inv.seq_in (fun o ho => (x.fr a o ho (hw o ho)).1) h, by rw [hr.length]; exact Nat.le_refl _⟩
theorem jok_tup {a : Addr} {vs : List V} {ds : List D} (h : SqT K H a vs) (hw : (∀ o, H a = some o → g.w a = none)) (hr : RpL K k g.G ds vs) : JOk K k (Itt K a) ds g H where
  go := fun i d g2 H2 e x sb => by
    obtain ⟨v, e1, h1⟩ := hr.at e
    have h2 : SqT K H2 a vs := sqT_in (fun o ho => (x.fr a o ho (hw o ho)).1) h
    refine ⟨⟨vs, v, h2, e1⟩, fun y H3 hy => ?_⟩
    obtain ⟨e3, hy⟩ := hy
    subst e3
    refine ⟨g2, fun _ _ R => R, fun _ _ _ => Ext.refl _ _, ?_⟩
    have e4 := hy vs h2
    rw [e1] at e4
    cases e4
    exact Rp.mono x.G d v h1
  stop := fun g2 H2 x => ⟨vs, sqT_in (fun o ho => (x.fr a o ho (hw o ho)).1) h, by rw [hr.length]; exact Nat.le_refl _⟩
theorem jok_str {z : Str} : JOk K k (Its z) (signs z) g H where
  go := fun i d g2 H2 e x sb => by
    have hl : i < z.cps.size := by
      have := (List.getElem?_eq_some_iff.mp e).1
      unfold signs at this
      simpa using this
    refine ⟨hl, fun y H3 hy => ?_⟩
    obtain ⟨e3, c, hc, hy⟩ := hy
    subst e3
    refine ⟨g2, fun _ _ R => R, fun _ _ _ => Ext.refl _ _, ?_⟩
    unfold signs at e
    rw [List.getElem?_map] at e
    have e5 : z.cps.toList[i]? = some c := by simpa using hc
    rw [e5] at e
    cases e
    exact hy
  stop := fun g2 H2 x => by
    show z.cps.size ≤ (signs z).length
    unfold signs
    simp
theorem jok_range {lo : Int} {n : Nat} : JOk K k (Itr lo n) ((List.range n).map fun (i : Nat) => D.int (lo + i)) g H where
  go := fun i d g2 H2 e x sb => by
    have hl : i < n := by
      have := (List.getElem?_eq_some_iff.mp e).1
      simpa using this
    refine ⟨hl, fun y H3 hy => ?_⟩
    obtain ⟨e3, hy⟩ := hy
    subst e3
    refine ⟨g2, fun _ _ R => R, fun _ _ _ => Ext.refl _ _, ?_⟩
    rw [List.getElem?_map, List.getElem?_range hl] at e
    cases e
    exact hy
  stop := fun g2 H2 x => by
    show n ≤ _
    simp
/-- a frozen object is not ours to write -/
theorem Rel.fz (R : Rel K k g s sv H) {a : Addr} {u : HO} (h : g.G a = some u) : ∀ o, H a = some o → g.w a = none := fun o _ => by
  cases e : g.w a with
  | none => rfl
  | some q => rw [(R.dis a q e).1] at h; cases h
theorem Rel.fzT (R : Rel K k g s sv H) {a : Addr} {vs : List V} (h : SqT K g.G a vs) : ∀ o, H a = some o → g.w a = none ∨ True := fun _ _ => .inr True.intro
end
theorem PI.or {X : Cx} {tg e : Expr} {t u : TI} (h1 : PI X tg e t) (h2 : PI X tg e u) : PI X tg e (fun sv H R => t sv H R ∨ u sv H R) := ⟨fun pins s sv H R I h => by
  rcases h with h | h
  · exact h1.run pins s sv H R I h
  · exact h2.run pins s sv H R I h⟩
/-- the three sources at once, by the value that the expression will give -/
def iAny (K : PySem.W.Frag) (te : TE) : TI := fun sv H R => te sv H fun x H1 => (∃ a, x = .ref a ∧ (∃ xs, SqL K H1 a xs) ∧ R (Itl K a) H1) ∨ (∃ a, x = .ref a ∧ (∃ xs, SqT K H1 a xs) ∧ R (Itt K a) H1) ∨ ∃ z, x = .str z ∧ R (Its z) H1
theorem pi_any {X : Cx} {tg l : Expr} {tl : TE} (hl : PE X l tl) : PI X tg l (iAny X.K tl) := by
  refine ⟨fun pins s σ H R I h => ?_⟩
  refine thn (hl.run pins s σ H _ I h) fun v s1 ⟨x, H1, I1, r1, q1⟩ => ?_
  rcases q1 with ⟨a, e, ⟨xs, hq⟩, q⟩ | ⟨a, e, ⟨xs, hq⟩, q⟩ | ⟨z, ex, q⟩
  · subst e
    cases r1
    obtain ⟨its, rv, p, hz⟩ := I1.list hq
    refine wpAny_pyIter_list p.isList ?_
    refine ⟨s1.heap.objs.size, [s1.heap.objs.size], _, _, H1, rfl, I1.kept (t' := s1.toks) fun b o e => Heap.get?_push_of_some _ e, turn_list a _, ⟨_, Heap.get?_push_size _ rfl, rfl, rfl⟩, fun b hb => ?_, q⟩
    have e : b = s1.heap.objs.size := by simpa using hb
    subst e
    exact I1.fpOk (Nat.le_refl _) (I1.hok.fresh (Nat.le_refl _))
  · subst e
    cases r1
    obtain ⟨its, rv, p, hz⟩ := I1.tuple hq
    refine wpAny_pyIter_tuple (show s1.heap.IsTuple a its.toArray from p) ?_
    refine ⟨s1.heap.objs.size, [s1.heap.objs.size], _, _, H1, rfl, I1.kept (t' := s1.toks) fun b o e => Heap.get?_push_of_some _ e, turn_tuple a _, ⟨_, Heap.get?_push_size _ rfl, rfl, rfl⟩, fun b hb => ?_, q⟩
    have e : b = s1.heap.objs.size := by simpa using hb
    subst e
    exact I1.fpOk (Nat.le_refl _) (I1.hok.fresh (Nat.le_refl _))
  · subst ex
    obtain ⟨t, rfl⟩ := r1
    cases ha : z.cps.all (· < 128)
    · exact wpAny_pyIter_wide ha (pi_one (tk := s1.toks) I1 _ (turn_str _ z t "str_iterator" (.inr rfl)) ⟨_, Heap.get?_push_size _ rfl, rfl, rfl⟩ q)
    · exact wpAny_pyIter_ascii ha (pi_one (tk := s1.toks) I1 _ (turn_str _ z t "str_ascii_iterator" (.inl rfl)) ⟨_, Heap.get?_push_size _ rfl, rfl, rfl⟩ q)
section
variable {X : Cx} {k : Kc} {tg e a b : Expr} {p pos : Pos} {ra : Nat}
/-- over a value: a tuple, a list, a text's signs -/
theorem si_val {dv : DV} (he : SV X k e dv) : SI X k tg e (iVal dv) := ⟨fun W tk => ⟨fun pins st sv H R I h => (pi_any (he.run W tk)).run pins st sv H R I (by
  obtain ⟨g, s, Rl, m⟩ := h
  refine ⟨g, s, Rl, ?_⟩
  unfold iVal at m
  cases e1 : dv s with
  | bad => rw [e1] at m; exact m
  | ex e' s' => rw [e1] at m; exact m
  | ok d s1 =>
    rw [e1, O.bind_ok] at m
    intro x g1 H1 R1 x1 hx
    cases d with
    | lst ds =>
      obtain ⟨q, vs, ev, h1, h2⟩ := hx
      exact .inl ⟨q, ev, ⟨vs, SqL.of (R1.sub _ _ h1)⟩, m _ g1 H1 R1 x1 (jok_list (SqL.of (R1.sub _ _ h1)) (R1.fz h1) h2)⟩
    | tup ds =>
      obtain ⟨q, vs, ev, h1, h2⟩ := hx
      refine .inr (.inl ⟨q, ev, ⟨vs, R1.sub.seqT h1⟩, m _ g1 H1 R1 x1 ?_⟩)
      rcases h1 with h1 | h1
      · have hw : ∀ o, H1 q = some o → g1.w q = none := by
          rcases h1 with h1 | ⟨o, h1⟩
          · exact R1.fz h1
          · exact R1.fz h1
        exact jok_tup (R1.sub.seqT (.inl h1)) hw h2
      · refine { go := fun i d g2 H2 e x sb => ?_, stop := fun g2 H2 x => ⟨vs, .inr h1, by rw [h2.length]; exact Nat.le_refl _⟩ }
        obtain ⟨v, e1, hv⟩ := h2.at e
        refine ⟨⟨vs, v, .inr h1, e1⟩, fun y H3 hy => ?_⟩
        obtain ⟨e3, hy⟩ := hy
        subst e3
        refine ⟨g2, fun _ _ R => R, fun _ _ _ => Ext.refl _ _, ?_⟩
        have e4 := hy vs (.inr h1)
        rw [e1] at e4
        cases e4
        exact Rp.mono x.G d v hv
    | str z => exact .inr (.inr ⟨z, hx, m _ g1 H1 R1 x1 jok_str⟩)
    | _ => exact m.elim)⟩⟩
/-- over a borrowed list -/
def iBl (dq : DQ) : DI := fun s => match dq s with
  | some (.bl ds) => .ok ds s
  | some (.sh d) => optO (itD d) s
  | _ => .bad
theorem si_bl {dq : DQ} (he : SQ X k ra e dq) : SI X k tg e (iBl dq) := ⟨fun W tk => ⟨fun pins st sv H R I h => (by
  obtain ⟨g, s, Rl, m⟩ := h
  unfold iBl at m
  cases e1 : dq s with
  | none => rw [e1] at m; exact m.elim
  | some c =>
    rw [e1] at m
    cases c with
    | bl ds =>
      refine (pi_list he.run).run pins st sv H R I ⟨g, s, Rl, ?_⟩
      rw [e1]
      intro v hv
      obtain ⟨q, vs, ev, h1, h2, h3⟩ := hv
      refine ⟨q, ev, ⟨vs, h2⟩, m _ g H Rl (Ext.refl _ _) ?_⟩
      rcases h1 with h1 | h1
      · exact jok_list h2 (fun _ _ => (Rl.fra _ h1).1) h3
      · refine { go := fun i d g2 H2 e x sb => ?_, stop := fun g2 H2 x => ⟨vs, .inr h1, by rw [h3.length]; exact Nat.le_refl _⟩ }
        obtain ⟨v, e1, hv⟩ := h3.at e
        refine ⟨⟨vs, v, .inr h1, e1⟩, fun y H3 hy => ?_⟩
        obtain ⟨e3, hy⟩ := hy
        subst e3
        refine ⟨g2, fun _ _ R => R, fun _ _ _ => Ext.refl _ _, ?_⟩
        have e4 := hy vs (.inr h1)
        rw [e1] at e4
        cases e4
        exact Rp.mono x.G d v hv
    | sh d =>
      refine (si_val (SV.of_q he)).run W tk |>.run pins st sv H R I ⟨g, s, Rl, ?_⟩
      unfold iVal vQ
      rw [e1]
      exact m
    | _ => exact m.elim)⟩⟩
def rngD (lo hi : Int) : List D := (List.range (hi - lo).toNat).map fun (i : Nat) => D.int (lo + i)
def bSmall (i : Int) : Bool := decide (-4611686018427387904 ≤ i) && decide (i < 4611686018427387904)
theorem bSmall_ok {i : Int} (h : bSmall i = true) : -(2 ^ 62) ≤ i ∧ i < 2 ^ 62 := by
  unfold bSmall at h
  simp only [Bool.and_eq_true, decide_eq_true_eq] at h
  have e : (2 : Int) ^ 62 = 4611686018427387904 := by decide
  rw [e]
  exact h
def iRng1 (da : DV) : DI := fun s => (da s).bind fun d s1 => match d with
  | .int i => if bSmall i = true then .ok (rngD 0 i) s1 else .bad
  | _ => .bad
def iRng2 (da db : DV) : DI := fun s => (da s).bind fun d s1 => (db s1).bind fun e s2 => match d, e with
  | .int i, .int j => if (bSmall i && bSmall j) = true then .ok (rngD i j) s2 else .bad
  | _, _ => .bad
theorem si_range1 {da : DV} (ha : SV X k a da) (hm : X.mg "range" = none) (hg : Gl X "range" := by rfl) (hs : starEach [a] X.env = [(false, eval a X.env)] := by rfl) : SI X k tg (.Call (.Name "range" p) [a] [] pos) (iRng1 da) := ⟨fun W tk => (pi_range1 hg hm (pa_cons (ha.run W tk) pa_nil hs) hs).imp fun sv H R h => by
  obtain ⟨g, s, Rl, m⟩ := h
  refine ⟨g, s, Rl, ?_⟩
  unfold iRng1 at m
  cases e1 : da s with
  | bad => rw [e1] at m; exact m
  | ex e' s' => rw [e1] at m; exact m
  | ok d s1 =>
    rw [e1, O.bind_ok] at m
    intro x g1 H1 R1 x1 hx
    cases d with
    | int i =>
      by_cases hb : bSmall i = true
      · simp only [if_pos hb] at m
        obtain ⟨b1, b2⟩ := bSmall_ok hb
        have hx : x = .int i := hx
        refine ⟨i, by rw [hx], b1, b2, m _ g1 H1 R1 x1 ?_⟩
        have z : rngD 0 i = (List.range i.toNat).map fun (j : Nat) => D.int (0 + j) := by unfold rngD; rw [Int.sub_zero]
        rw [z]
        exact jok_range
      · simp only [if_neg hb] at m
    | _ => exact m.elim⟩
theorem si_range2 {da db : DV} (ha : SV X k a da) (hb : SV X k b db) (hm : X.mg "range" = none) (hg : Gl X "range" := by rfl) (hs : starEach [a, b] X.env = [(false, eval a X.env), (false, eval b X.env)] := by rfl) (h1 : starEach [a, b] X.env = (false, eval a X.env) :: starEach [b] X.env := by rfl) (h2 : starEach [b] X.env = [(false, eval b X.env)] := by rfl) :
    SI X k tg (.Call (.Name "range" p) [a, b] [] pos) (iRng2 da db) := ⟨fun W tk => (pi_range2 hg hm (pa_cons (ha.run W tk) (pa_cons (hb.run W tk) pa_nil h2) h1) hs h2).imp fun sv H R h => by
  obtain ⟨g, s, Rl, m⟩ := h
  refine ⟨g, s, Rl, ?_⟩
  unfold iRng2 at m
  cases e1 : da s with
  | bad => rw [e1] at m; exact m
  | ex e' s' => rw [e1] at m; exact m
  | ok d s1 =>
    rw [e1, O.bind_ok] at m
    intro x g1 H1 R1 x1 hx
    refine ⟨g1, s1, R1, ?_⟩
    cases e2 : db s1 with
    | bad => rw [e2] at m; exact m
    | ex e' s' => rw [e2] at m; exact exW.later x1 m
    | ok e s2 =>
      rw [e2, O.bind_ok] at m
      intro y g2 H2 R2 x2 hy
      cases d with
      | int i =>
        cases e with
        | int j =>
          by_cases hc : (bSmall i && bSmall j) = true
          · simp only [if_pos hc] at m
            rw [Bool.and_eq_true] at hc
            obtain ⟨b1, b2⟩ := bSmall_ok hc.1
            obtain ⟨b3, b4⟩ := bSmall_ok hc.2
            have hx : x = .int i := hx
            have hy : y = .int j := hy
            exact ⟨i, j, by rw [hx, hy], ⟨b1, b2, b3, b4⟩, m _ g2 H2 R2 (x1.trans x2) jok_range⟩
          · simp only [if_neg hc] at m
        | _ => exact m.elim
      | _ => exact m.elim⟩
/-! ### enumerate of a list -/
def enumD (n : Int) : List D → List D
  | [] => []
  | d :: ds => .tup [.int n, d] :: enumD (n + 1) ds
theorem enumD_get : ∀ (ds : List D) (n : Int) (i : Nat) (e : D), (enumD n ds)[i]? = some e → ∃ d, ds[i]? = some d ∧ e = .tup [.int (n + i), d]
  | [], n, i, e, h => by simp [enumD] at h
  | d :: ds, n, 0, e, h => by
    simp [enumD] at h
    exact ⟨d, rfl, by rw [← h]; simp⟩
  | d :: ds, n, i + 1, e, h => by
    have h : (enumD (n + 1) ds)[i]? = some e := by simpa [enumD] using h
    obtain ⟨d', h1, h2⟩ := enumD_get ds (n + 1) i e h
    refine ⟨d', by simpa using h1, ?_⟩
    rw [h2]
    have : n + 1 + (i : Int) = n + ((i + 1 : Nat) : Int) := by omega
    rw [this]
theorem enumD_length : ∀ (ds : List D) (n : Int), (enumD n ds).length = ds.length
  | [], _ => rfl
  | d :: ds, n => by simp [enumD, enumD_length ds (n + 1)]
theorem jok_enum {K : PySem.W.Frag} {k : Kc} {g : Gs} {H : Hp} {a : Addr} {vs : List V} {ds : List D} (h : SqL K H a vs) (hw : (∀ o, H a = some o → g.w a = none)) (hr : RpL K k g.G ds vs) : JOk K k (Ite K a) (enumD 0 ds) g H where
  go := fun i e g2 H2 he x sb => by
    obtain ⟨d, hd, rfl⟩ := enumD_get ds 0 i e he
    obtain ⟨v, e1, h1⟩ := hr.at hd
    have h2 : SqL K H2 a vs := Inv.seq_in (fun o ho => (x.fr a o ho (hw o ho)).1) h
    refine ⟨⟨vs, v, h2, e1⟩, fun y H3 hy => ?_⟩
    obtain ⟨T, u, ey, hT, e3, hy⟩ := hy
    subst ey e3
    have e4 := hy vs h2
    rw [e1] at e4
    cases e4
    refine ⟨g2.lay T (.tup [.int (i : Nat), v]), fun s sv R => R.lay hT, fun s sv R => Ext.lay R hT, T, [.int (i : Nat), v], rfl, SqT.of lay_at, .int (i : Nat), [v], rfl, ?_, v, [], rfl, ?_, rfl⟩
    · show V.int _ = V.int _
      simp
    · have sG : Sub g2.G (g2.lay T (.tup [.int (i : Nat), v])).G := fun b o e => by
        show upd g2.G T _ b = some o
        rw [upd_ne (ne_of_none (sb _ _ e) hT)]
        exact e
      exact Rp.mono sG d v (Rp.mono x.G d v h1)
  stop := fun g2 H2 x => ⟨vs, Inv.seq_in (fun o ho => (x.fr a o ho (hw o ho)).1) h, by rw [enumD_length, hr.length]; exact Nat.le_refl _⟩
end
/-! ### for -/
def loopD (dg : DG) (db : DS) : List D → List Cell → SO
  | [], s => .nx s
  | d :: ds, s => match dg d s with
    | none => .bad
    | some s1 => match db s1 with
      | .nx s2 => loopD dg db ds s2
      | .ct s2 => loopD dg db ds s2
      | .bk s2 => .nx s2
      | r => r
def sFor (di : DI) (dg : DG) (db : DS) : DS := fun s => oS (di s) fun ds s1 => loopD dg db ds s1
theorem s_for {X : Cx} {k : Kc} {tg it : Expr} {body : List Stmt} {pos : Pos} {di : DI} {dg : DG} {db : DS} {js : List Nat} (hi : SI X k tg it di) (hg : SG X k tg js dg) (hb : SSs X k body db) (hc : X.calm = true) (hs : ∀ x, foldedSetIterable it X.env x = pure x := by intro _; rfl) :
    SS X k (.For tg it body [] pos) (sFor di dg db) := ⟨fun W tk po => (ps_for po hc (hi.run W tk) hg.run (hb.run W tk po) hs).imp fun Dn sv H h => by
  rw [tS_eq] at h
  obtain ⟨g, s, R, m⟩ := h
  refine ⟨g, s, R, ?_⟩
  unfold sFor at m
  cases e1 : di s with
  | bad => rw [e1] at m; exact m
  | ex e' s' => rw [e1] at m; exact m
  | ok ds s1 =>
    rw [e1] at m
    have m : soW X.K k W Dn g H (loopD dg db ds s1) := m
    intro J g1 H1 R1 x1 jok
    refine ⟨fun i mm sv2 H2 => mm = ds.length - i ∧ i ≤ ds.length ∧ ∃ g2 s2, Rel X.K k g2 s2 sv2 H2 ∧ Ext g1 H1 g2 H2 ∧ soW X.K k W Dn g2 H2 (loopD dg db (ds.drop i) s2), ⟨ds.length, by simp, Nat.zero_le _, g1, s1, R1, Ext.refl _ _, soW.later x1 m⟩, ?_⟩
    rintro i mm sv2 H2 ⟨rfl, hl, g2, s2, R2, x2, m2⟩
    by_cases hlt : i < ds.length
    · refine .inr ?_
      have ed : ds[i]? = some ds[i] := List.getElem?_eq_getElem hlt
      obtain ⟨go, yl⟩ := jok.go i ds[i] g2 H2 ed x2 R2.sub
      refine ⟨go, fun sv' H' => ∃ g2 s2, Rel X.K k g2 s2 sv' H' ∧ Ext g1 H1 g2 H' ∧ soW X.K k W Dn g2 H' (loopD dg db (ds.drop (i + 1)) s2), fun sv' H' ⟨g3, s3, R3, x3, m3⟩ => ⟨ds.length - (i + 1), by omega, rfl, hlt, g3, s3, R3, x3, m3⟩, fun x H3 hy => ?_⟩
      obtain ⟨g3, rl, xl, hx⟩ := yl x H3 hy
      have R3 := rl _ _ R2
      have x3 := xl _ _ R2
      refine ⟨g3, s2, ds[i], R3, hx, ?_⟩
      rw [List.drop_eq_getElem_cons hlt] at m2
      unfold loopD at m2
      cases e2 : dg ds[i] s2 with
      | none => simp only [e2] at m2; exact m2
      | some s3 =>
        simp only [e2] at m2
        intro g4 sv4 R4 x4 _
        refine tS_of R4 ?_
        have x14 := (x2.trans x3).trans x4
        cases e3 : db s3 with
        | nx s5 =>
          simp only [e3] at m2
          exact fun g5 sv5 H5 R5 x5 => ⟨g5, s5, R5, x14.trans x5, soW.later ((x3.trans x4).trans x5) m2⟩
        | ct s5 =>
          simp only [e3] at m2
          exact fun g5 sv5 H5 R5 x5 => ⟨g5, s5, R5, x14.trans x5, soW.later ((x3.trans x4).trans x5) m2⟩
        | bk s5 =>
          simp only [e3] at m2
          exact fun g5 sv5 H5 R5 x5 => m2 g5 sv5 H5 R5 ((x3.trans x4).trans x5)
        | rt c s5 =>
          simp only [e3] at m2
          exact soW.later (x3.trans x4) m2
        | ex e' s5 =>
          simp only [e3] at m2
          exact soW.later (x3.trans x4) m2
        | bad =>
          simp only [e3] at m2
          exact m2
    · have e : i = ds.length := by omega
      subst e
      refine .inl ⟨jok.stop g2 H2 x2, ?_⟩
      rw [List.drop_length] at m2
      exact m2 g2 sv2 H2 R2 (Ext.refl _ _)⟩

/-! ### list comprehensions -/
/-- an exception within is not told of -/
def O.calm {α : Type} : O α → O α
  | .ex _ _ => .bad
  | x => x
def wipeC (s : List Cell) : List Nat → List Cell
  | [] => s
  | v :: vs => (wipeC s vs).set v .un
/-- the own names' slots as they stood, where they were frozen -/
def backC (s0 s : List Cell) : List Nat → List Cell
  | [] => s
  | v :: vs => (backC s0 s vs).set v (match s0[v]? with
    | some (.sh d) => .sh d
    | _ => .un)
def compD (vs : List Nat) (dg : DG) (dt : DT) (de : DV) : List D → List Cell → O (List D)
  | [], s => .ok [] s
  | d :: ds, s => match dg d (wipeC s vs) with
    | none => .bad
    | some s1 => (dt s1).calm.bind fun b s2 => if b = true then (de s2).calm.bind fun y s3 => (compD vs dg dt de ds s3).bind fun ys s4 => .ok (y :: ys) s4 else compD vs dg dt de ds s2
def cLc (vs : List Nat) (di : DI) (dg : DG) (dt : DT) (de : DV) : DC := fun s => (di s).bind fun ds s1 => if ds.length ≤ 16777216 then (compD vs dg dt de ds s1).bind fun ys s2 => .ok (.ol ys) (backC s1 s2 vs) else .bad
def tYesD : DT := fun s => .ok true s
section
variable {K : PySem.W.Frag} {k : Kc} {g : Gs} {s : List Cell} {sv : L2.St} {H : Hp}
theorem wipeC_length (s : List Cell) : ∀ vs, (wipeC s vs).length = s.length
  | [] => rfl
  | v :: vs => by unfold wipeC; rw [List.length_set, wipeC_length s vs]
theorem backC_length (s0 s : List Cell) : ∀ vs, (backC s0 s vs).length = s.length
  | [] => rfl
  | v :: vs => by unfold backC; rw [List.length_set, backC_length s0 s vs]
theorem wipe_get {sv : L2.St} {i : Nat} : ∀ {vs : List Nat}, i ∉ vs → (wipe sv vs)[i]? = sv[i]?
  | [], _ => rfl
  | v :: vs, h => by
    unfold wipe
    rw [List.getElem?_set_ne (fun z => h (by rw [z]; exact List.mem_cons_self ..))]
    exact wipe_get fun z => h (List.mem_cons_of_mem _ z)
theorem wipeC_get {s : List Cell} {i : Nat} {c : Cell} : ∀ {vs : List Nat}, (wipeC s vs)[i]? = some c → c ≠ .un → s[i]? = some c ∧ i ∉ vs
  | [], h, _ => ⟨h, by simp⟩
  | v :: vs, h, n => by
    unfold wipeC at h
    by_cases hi : v = i
    · subst hi
      by_cases hv : v < (wipeC s vs).length
      · rw [List.getElem?_set_self hv] at h
        cases h
        exact absurd rfl n
      · rw [List.getElem?_eq_none (by simpa using hv)] at h
        cases h
    · rw [List.getElem?_set_ne hi] at h
      obtain ⟨h1, h2⟩ := wipeC_get h n
      exact ⟨h1, by simp only [List.mem_cons, not_or]; exact ⟨fun e => hi e.symm, h2⟩⟩
theorem Rel.wipe (R : Rel K k g s sv H) {vs : List Nat} (hio : ∀ i ∈ vs, i ∉ k.io) : Rel K k g (wipeC s vs) (wipe sv vs) H where
  len := by rw [wipeC_length, wipe_length]; exact R.len
  sub := R.sub
  dis := R.dis
  fra := R.fra
  cel := fun i c e n => by
    obtain ⟨e1, e2⟩ := wipeC_get e n
    obtain ⟨v, e3, h⟩ := R.cel i c e1 n
    exact ⟨v, by rw [wipe_get e2]; exact e3, h⟩
  pin := fun i v h => by
    rw [wipe_get fun z => hio i z (R.pio i v h)]
    exact R.pin i v h
  pio := R.pio
theorem backC_get {s0 s : List Cell} {i : Nat} {c : Cell} : ∀ {vs : List Nat}, (backC s0 s vs)[i]? = some c → c ≠ .un → (i ∉ vs ∧ s[i]? = some c) ∨ (i ∈ vs ∧ ∃ d, c = .sh d ∧ s0[i]? = some (.sh d))
  | [], h, _ => .inl ⟨by simp, h⟩
  | v :: vs, h, n => by
    unfold backC at h
    by_cases hi : v = i
    · subst hi
      by_cases hv : v < (backC s0 s vs).length
      · rw [List.getElem?_set_self hv] at h
        have h := Option.some.inj h
        refine .inr ⟨List.mem_cons_self .., ?_⟩
        split at h
        · rename_i d hd
          exact ⟨d, h.symm, hd⟩
        · exact absurd h.symm n
      · rw [List.getElem?_eq_none (by simpa using hv)] at h
        cases h
    · rw [List.getElem?_set_ne hi] at h
      rcases backC_get h n with ⟨h1, h2⟩ | ⟨h1, h2⟩
      · exact .inl ⟨by simp only [List.mem_cons, not_or]; exact ⟨fun e => hi e.symm, h1⟩, h2⟩
      · exact .inr ⟨List.mem_cons_of_mem _ h1, h2⟩
/-- behind a comprehension -/
theorem Rel.back {g0 : Gs} {s0 : List Cell} {H0 : Hp} {sw : L2.St} (R0 : Rel K k g0 s0 sv H0) {vs : List Nat} (R : Rel K k g s sw H) (x : Ext g0 H0 g H) (hw : L2.wipe sw vs = L2.wipe sv vs) : Rel K k g (backC s0 s vs) sv H where
  len := by
    rw [backC_length, R.len]
    have := congrArg List.length hw
    rw [wipe_length, wipe_length] at this
    exact this
  sub := R.sub
  dis := R.dis
  fra := R.fra
  cel := fun i c e n => by
    rcases backC_get e n with ⟨h1, h2⟩ | ⟨h1, d, e1, e2⟩
    · obtain ⟨v, e3, h⟩ := R.cel i c h2 n
      refine ⟨v, ?_, h⟩
      rw [← wipe_get h1, ← hw, wipe_get h1]
      exact e3
    · subst e1
      obtain ⟨v, e3, h⟩ := R0.cel i _ e2 n
      exact ⟨v, e3, Rp.mono x.G d v h⟩
  pin := fun i v h => by
    rw [x.pv] at h
    exact R0.pin i v h
  pio := R.pio
end
section
variable {X : Cx} {k : Kc} {elt tg iter : Expr} {ifs : List Expr} {scope : Scope} {own : List (Str × Nat)} {pos pos' : Pos} {di : DI} {dg : DG} {dt : DT} {de : DV}
structure STs (X : Cx) (k : Kc) (ifs : List Expr) (dt : DT) : Prop where
  run : ∀ W, Takes X W → PTs X ifs (tT X.K k W dt)
theorem ts_nil : STs X k [] tYesD := ⟨fun W _ => ⟨fun pins s sv H Q I h => by
  obtain ⟨g, st, R, m⟩ := h
  exact pts_nil.run pins s sv H Q I (m g H R (Ext.refl _ _))⟩⟩
theorem ts_one {c : Expr} (h : ST X k c dt) : STs X k [c] dt := ⟨fun W tk => pts_one (h.run W tk)⟩
/-- the heap without one object -/
def hid (H : Hp) (p : Addr) : Hp := fun a => if a = p then none else H a
theorem hid_ne {H : Hp} {p a : Addr} (h : a ≠ p) : hid H p a = H a := if_neg h
theorem hid_same {H : Hp} {p : Addr} : hid H p p = none := if_pos rfl
theorem hid_sub {H : Hp} {p : Addr} : Sub (hid H p) H := fun a o e => by
  by_cases h : a = p
  · rw [h, hid_same] at e
    cases e
  · rw [hid_ne h] at e
    exact e
theorem hid_upd {H : Hp} {p : Addr} {o : HO} : hid (upd H p o) p = hid H p := by
  funext a
  by_cases h : a = p
  · rw [h, hid_same, hid_same]
  · rw [hid_ne h, hid_ne h, upd_ne h]
theorem Rel.hide {K : PySem.W.Frag} {g : Gs} {s : List Cell} {sv : L2.St} {H : Hp} {p : Addr} (R : Rel K k g s sv H) (h1 : g.G p = none) (h2 : g.w p = none) (h3 : ¬ g.F p) : Rel K k g s sv (hid H p) := by
  have nw : ∀ a q, g.w a = some q → a ≠ p := fun a q e z => by rw [z, h2] at e; cases e
  have nF : ∀ a, g.F a → a ≠ p := fun a e z => h3 (z ▸ e)
  refine ⟨R.len, fun a o e => ?_, fun a q e => ⟨(R.dis a q e).1, by rw [hid_ne (nw a q e)]; exact (R.dis a q e).2⟩, fun a e => ⟨(R.fra a e).1, by rw [hid_ne (nF a e)]; exact (R.fra a e).2⟩, fun i c e n => ?_, R.pin, R.pio⟩
  · have hp : a ≠ p := fun z => by rw [z, h1] at e; cases e
    rw [hid_ne hp]
    exact R.sub _ _ e
  · obtain ⟨v, e1, h⟩ := R.cel i c e n
    refine ⟨v, e1, CV.mono0 h (Sub.refl _) (fun _ z => z) (fun a hf o e => by rw [hid_ne (nF a hf)]; exact e) (fun q a e => ⟨e, fun o e2 => by rw [hid_ne (nw a _ e)]; exact e2⟩)⟩
theorem Ext.hide {g g' : Gs} {H H' : Hp} {p : Addr} (x : Ext g H g' H') : Ext g (hid H p) g' (hid H' p) where
  fr := fun a o e w => by
    by_cases h : a = p
    · rw [h, hid_same] at e
      cases e
    · rw [hid_ne h] at e ⊢
      exact x.fr a o e w
  G := x.G
  new := fun a h => by
    rcases x.new a h with h | h | h
    · exact .inl h
    · exact .inr (.inl h)
    · refine .inr (.inr ?_)
      by_cases hp : a = p
      · rw [hp, hid_same]
      · rw [hid_ne hp]
        exact h
  F := x.F
  pv := x.pv
theorem Ext.unhide {g g' : Gs} {H H' : Hp} {p : Addr} (x : Ext g H g' (hid H' p)) : Ext g H g' H' := ⟨fun a o e w => let ⟨h1, h2⟩ := x.fr a o e w; ⟨hid_sub _ _ h1, h2⟩, x.G, x.new, x.F, x.pv⟩
theorem wipe_wipe {sv : L2.St} {vs : List Nat} : L2.wipe (L2.wipe sv vs) vs = L2.wipe sv vs := by
  refine OnlyAt.wipe (js := vs) ⟨wipe_length _ _, fun j hj => wipe_get hj⟩
theorem backC_wipe (s0 : List Cell) {s : List Cell} : ∀ {vs : List Nat}, (∀ j, j ∉ vs → (wipeC s vs)[j]? = s[j]?) → True := fun _ => True.intro
theorem wipeC_get' {s : List Cell} {j : Nat} : ∀ {vs : List Nat}, j ∉ vs → (wipeC s vs)[j]? = s[j]?
  | [], _ => rfl
  | v :: vs, h => by
    unfold wipeC
    rw [List.getElem?_set_ne (fun z => h (by rw [z]; exact List.mem_cons_self ..))]
    exact wipeC_get' fun z => h (List.mem_cons_of_mem _ z)
theorem backC_key (s0 s : List Cell) (j : Nat) : ∀ vs : List Nat, (backC s0 s vs)[j]? = if j ∈ vs then (if j < s.length then some (match s0[j]? with
    | some (.sh d) => .sh d
    | _ => .un) else none) else s[j]?
  | [] => rfl
  | v :: vs => by
    unfold backC
    by_cases hv : v = j
    · subst hv
      rw [if_pos (List.mem_cons_self ..)]
      by_cases hl : v < s.length
      · rw [if_pos hl, List.getElem?_set_self (by rw [backC_length]; exact hl)]
      · rw [if_neg hl, List.getElem?_eq_none (by rw [List.length_set, backC_length]; omega)]
    · rw [List.getElem?_set_ne hv, backC_key s0 s j vs]
      by_cases hj : j ∈ vs
      · rw [if_pos hj, if_pos (List.mem_cons_of_mem _ hj)]
      · rw [if_neg hj, if_neg (by simp only [List.mem_cons, not_or]; exact ⟨fun e => hv e.symm, hj⟩)]
theorem backC_at {s0 s s' : List Cell} {j : Nat} {vs : List Nat} (hl : s.length = s'.length) (h : j ∉ vs → s[j]? = s'[j]?) : (backC s0 s vs)[j]? = (backC s0 s' vs)[j]? := by
  rw [backC_key, backC_key, hl]
  by_cases hj : j ∈ vs
  · rw [if_pos hj, if_pos hj]
  · rw [if_neg hj, if_neg hj, h hj]
theorem compD_calm {vs : List Nat} {dg : DG} {dt : DT} {de : DV} : ∀ (ds : List D) (s : List Cell) (e : Ex) (s' : List Cell), compD vs dg dt de ds s ≠ .ex e s'
  | [], s, e, s' => fun h => by cases h
  | d :: ds, s, e, s' => fun h => by
    unfold compD at h
    cases e2 : dg d (wipeC s vs) with
    | none => simp only [e2] at h; cases h
    | some s3 =>
      simp only [e2] at h
      cases e3 : dt s3 with
      | bad => simp only [e3, O.calm, O.bind_bad] at h; cases h
      | ex e' s' => simp only [e3, O.calm, O.bind_bad] at h; cases h
      | ok b s4 =>
        simp only [e3, O.calm, O.bind_ok] at h
        cases b with
        | false =>
          rw [if_neg Bool.false_ne_true] at h
          exact compD_calm ds s4 e s' h
        | true =>
          rw [if_pos rfl] at h
          cases e4 : de s4 with
          | bad => simp only [e4, O.calm, O.bind_bad] at h; cases h
          | ex e' s' => simp only [e4, O.calm, O.bind_bad] at h; cases h
          | ok y s5 =>
            simp only [e4, O.calm, O.bind_ok] at h
            cases e5 : compD vs dg dt de ds s5 with
            | bad => simp only [e5, O.bind_bad] at h; cases h
            | ex e' s'' => exact compD_calm ds s5 e' s'' e5
            | ok ys s6 => simp only [e5, O.bind_ok] at h; cases h
/-- the reading of a comprehension -/
theorem tLc_of {W : WX} {sv : L2.St} {H : Hp} {Q : VK} {vs js : List Nat} (hio : ∀ i ∈ vs, i ∉ k.io) (hjs : ∀ j ∈ js, j ∈ vs) (h : tC X.K k W (cLc vs di dg dt de) sv H Q) :
    tLc (tI X.K k W di) (tG X.K k js dg) (tT X.K k (fun _ _ _ _ => False) dt) (tV X.K k (fun _ _ _ _ => False) de) vs sv H Q := by
  obtain ⟨g, s, R, m⟩ := h
  refine ⟨g, s, R, ?_⟩
  unfold cLc at m
  cases e1 : di s with
  | bad => rw [e1] at m; exact m
  | ex e' s' => rw [e1] at m; exact m
  | ok ds s1 =>
    rw [e1, O.bind_ok] at m
    intro J g1 H1 R1 x1 jok p hp
    by_cases hl : ds.length ≤ 16777216
    · rw [if_pos hl] at m
      obtain ⟨fw, fG, fF⟩ := R1.free hp
      have m : match compD vs dg dt de ds s1 with
        | .ok ys s2 => ∀ v g' H' t, Rel X.K k g' (backC s1 s2 vs) sv H' → Ext g H g' H' → Own t g H g' H' → CV X.K k g' H' (fun p a => t a = some p) [] (.ol ys) v → Q v H'
        | .ex e s2 => exW X.K k W g H e s2
        | .bad => False := by
        cases q : compD vs dg dt de ds s1 <;> rw [q] at m <;> exact m
      refine ⟨fun i mm H2 => mm = ds.length - i ∧ i ≤ ds.length ∧ ∃ g2 s2 acc dn, acc.length ≤ i ∧ H2 p = some (.lst acc) ∧ RpL X.K k g2.G dn acc ∧ Rel X.K k g2 (wipeC s2 vs) (L2.wipe sv vs) (hid H2 p) ∧ Ext g1 H1 g2 (hid H2 p) ∧ g2.G p = none ∧ g2.w p = none ∧
        match compD vs dg dt de (ds.drop i) s2 with
        | .ok ys s3 => ∀ v g' H' t, Rel X.K k g' (backC s1 s3 vs) sv H' → Ext g H g' H' → Own t g H g' H' → CV X.K k g' H' (fun p a => t a = some p) [] (.ol (dn ++ ys)) v → Q v H'
        | _ => False, ⟨ds.length, by simp, Nat.zero_le _, g1, s1, [], [], Nat.zero_le _, upd_same, rfl, ?_, ?_, fG, fw, ?_⟩, ?_⟩
      · rw [hid_upd]
        exact (R1.hide fG fw fF).wipe hio
      · rw [hid_upd]
        have e : hid H1 p = H1 := by
          funext a
          by_cases h : a = p
          · rw [h, hid_same, hp]
          · rw [hid_ne h]
        rw [e]
        exact Ext.refl _ _
      · rw [List.drop_zero]
        cases q : compD vs dg dt de ds s1 with
        | ok ys s3 => rw [q] at m; exact m
        | ex e s3 => exact absurd q (compD_calm _ _ _ _)
        | bad => rw [q] at m; exact m
      · rintro i mm H2 ⟨rfl, hle, g2, s2, acc, dn, hacc, hD, hr, R2, x2, hG, hw, m2⟩
        have hF : ¬ g2.F p := by rw [x2.F]; exact fF
        have x2' := x2.unhide
        have R2' := R2.grown hid_sub
        by_cases hlt : i < ds.length
        · refine .inr ?_
          have ed : ds[i]? = some ds[i] := List.getElem?_eq_getElem hlt
          obtain ⟨go, yl⟩ := jok.go i ds[i] g2 H2 ed x2' R2'.sub
          refine ⟨go, fun H6 => ∃ g2 s2 acc dn, acc.length ≤ i + 1 ∧ H6 p = some (.lst acc) ∧ RpL X.K k g2.G dn acc ∧ Rel X.K k g2 (wipeC s2 vs) (L2.wipe sv vs) (hid H6 p) ∧ Ext g1 H1 g2 (hid H6 p) ∧ g2.G p = none ∧ g2.w p = none ∧
            match compD vs dg dt de (ds.drop (i + 1)) s2 with
            | .ok ys s3 => ∀ v g' H' t, Rel X.K k g' (backC s1 s3 vs) sv H' → Ext g H g' H' → Own t g H g' H' → CV X.K k g' H' (fun p a => t a = some p) [] (.ol (dn ++ ys)) v → Q v H'
            | _ => False, fun H6 h6 => ⟨ds.length - (i + 1), by omega, rfl, hlt, h6⟩, fun x H3 hy => ?_⟩
          obtain ⟨g3, rl, xl, hx⟩ := yl x H3 hy
          have R3 := rl _ _ R2'
          have x3 := xl _ _ R2'
          have stays : ∀ {g4 : Gs} {H4 : Hp}, Ext g2 H2 g4 H4 → H4 p = some (.lst acc) ∧ g4.w p = none ∧ g4.G p = none := fun {g4 H4} y => by
            obtain ⟨a1, a2⟩ := y.fr p _ hD hw
            refine ⟨a1, a2, ?_⟩
            cases e : g4.G p with
            | none => rfl
            | some o =>
              rcases y.new p (by rw [e]; simp) with z | z | z
              · exact absurd hG z
              · exact absurd hw z
              · rw [hD] at z; cases z
          rw [List.drop_eq_getElem_cons hlt] at m2
          unfold compD at m2
          refine ⟨g3, _, ds[i], R3, hx, ?_⟩
          cases e2 : dg ds[i] (wipeC s2 vs) with
          | none => simp only [e2] at m2
          | some s3 =>
            simp only [e2] at m2
            intro g4 sv4 R4 x4 o4
            have o4' := (o4.mono hjs).wipe
            rw [wipe_wipe] at o4'
            refine ⟨o4', g4, s3, R4, ?_⟩
            have x24 := x3.trans x4
            cases e3 : dt s3 with
            | bad => simp only [e3, O.calm, O.bind_bad] at m2
            | ex e' s' => simp only [e3, O.calm, O.bind_bad] at m2
            | ok b s4 =>
              simp only [e3, O.calm, O.bind_ok] at m2
              intro g5 H5 R5 x5
              have x25 := x24.trans x5
              cases b with
              | false =>
                rw [if_neg Bool.false_ne_true] at m2 ⊢
                obtain ⟨h1, h2, h3⟩ := stays x25
                have R5' := (R5.hide h3 h2 (by rw [x25.F]; exact hF)).wipe hio
                rw [o4'] at R5'
                exact ⟨g5, s4, acc, dn, Nat.le_succ_of_le hacc, h1, hr.mono x25.G _ _, R5', x2.trans x25.hide, h3, h2, m2⟩
              | true =>
                rw [if_pos rfl] at m2 ⊢
                refine ⟨g5, s4, R5, ?_⟩
                cases e4 : de s4 with
                | bad => simp only [e4, O.calm, O.bind_bad] at m2
                | ex e' s' => simp only [e4, O.calm, O.bind_bad] at m2
                | ok y s5 =>
                  simp only [e4, O.calm, O.bind_ok] at m2
                  intro u g6 H6 R6 x6 hu
                  have x26 := x25.trans x6
                  obtain ⟨h1, h2, h3⟩ := stays x26
                  have R6' := (R6.hide h3 h2 (by rw [x26.F]; exact hF)).wipe hio
                  rw [o4'] at R6'
                  have hz : sizeLine = 16777216 := sizeLine_eq
                  refine ⟨acc, h1, by omega, g6, s5, acc ++ [u], dn ++ [y], by rw [List.length_append]; show acc.length + 1 ≤ i + 1; omega, upd_same, (hr.mono x26.G _ _).append (RpL.cons hu RpL.nil), ?_, ?_, h3, h2, ?_⟩
                  · rw [hid_upd]; exact R6'
                  · rw [hid_upd]; exact x2.trans x26.hide
                  · cases e5 : compD vs dg dt de (ds.drop (i + 1)) s5 with
                    | bad => simp only [e5, O.bind_bad] at m2
                    | ex e' s' => simp only [e5, O.bind_ex] at m2
                    | ok ys s6 =>
                      simp only [e5, O.bind_ok] at m2
                      simp only [List.append_assoc]
                      exact m2
        · have e : i = ds.length := by omega
          subst e
          refine .inl ⟨jok.stop g2 H2 x2', ?_⟩
          rw [List.drop_length] at m2
          unfold compD at m2
          simp only [List.append_nil] at m2
          have ow : Own (new1 p) g H g2 H2 := fun a ha => by
            cases e : new1 p a with
            | none => exact absurd e ha
            | some q =>
              obtain ⟨rfl, _⟩ := new1_some e
              exact ⟨hw, hG, by rw [hD]; simp, x1.back (.inr hp)⟩
          have Rb := R1.back R2 x2 wipe_wipe
          have eb : backC s1 (wipeC s2 vs) vs = backC s1 s2 vs := by
            apply List.ext_getElem?
            intro j
            exact backC_at (wipeC_length _ _) fun h => wipeC_get' h
          rw [eb] at Rb
          exact m2 (.ref p) g2 H2 (new1 p) (Rb.grown hid_sub) (x1.trans x2') ow ⟨p, acc, rfl, new1_same, hD, hr⟩
    · rw [if_neg hl] at m
      exact m.elim
theorem nio {k : Kc} {i : Nat} (h : k.io.contains i = false) : i ∉ k.io := fun z => by
  rw [List.contains_iff_mem.mpr z] at h
  cases h
theorem nios {k : Kc} {l : List Nat} (h : l.all (fun i => !k.io.contains i) = true) : ∀ i ∈ l, i ∉ k.io := fun i hi => nio (by
  have z := List.all_eq_true.mp h i hi
  simpa using z)
theorem c_lc {js : List Nat} (hc : X.calm = true) (hN : X.N.Nodup) (hi : SI X k tg iter di) (ok : BlkOk X.N X.env.scope scope own)
    (hg : ∀ (s : Shared) (H : Hp) (C : Addr) (cl : List (Str × Addr)) (fp : List Addr), SG (X.blk s H scope (compEnvC scope cl C X.env) fp) k tg js dg) (ht : ∀ (s : Shared) (H : Hp) (C : Addr) (cl : List (Str × Addr)) (fp : List Addr), STs (X.blk s H scope (compEnvC scope cl C X.env) fp) k ifs dt)
    (he : ∀ (s : Shared) (H : Hp) (C : Addr) (cl : List (Str × Addr)) (fp : List Addr), SV (X.blk s H scope (compEnvC scope cl C X.env) fp) k elt de) (hio : (own.map (·.2)).all (fun i => !k.io.contains i) = true := by rfl) (hjs : ∀ j ∈ js, j ∈ own.map (·.2) := by decide) (hs : ∀ x, foldedSetIterable iter X.env x = pure x := by intro _; rfl) :
    SC X k (.ListComp elt [⟨tg, iter, ifs, 0⟩] scope pos) (cLc (own.map (·.2)) di dg dt de) := ⟨fun W tk => (pe_lc hc hN (hi.run W tk) ok (fun s H C cl fp => (hg s H C cl fp).run) (fun s H C cl fp => (ht s H C cl fp).run _ takes0) (fun s H C cl fp => (he s H C cl fp).run _ takes0) hs).imp fun _ _ _ h => tLc_of (nios hio) hjs h⟩
theorem s_setLc {js : List Nat} {i : Nat} {y : Str} {py spos : Pos} (hc : X.calm = true) (hN : X.N.Nodup) (hi : SI X k tg iter di) (ok : BlkOk X.N X.env.scope scope own)
    (hg : ∀ (s : Shared) (H : Hp) (C : Addr) (cl : List (Str × Addr)) (fp : List Addr), SG (X.blk s H scope (compEnvC scope cl C X.env) fp) k tg js dg) (ht : ∀ (s : Shared) (H : Hp) (C : Addr) (cl : List (Str × Addr)) (fp : List Addr), STs (X.blk s H scope (compEnvC scope cl C X.env) fp) k ifs dt)
    (he : ∀ (s : Shared) (H : Hp) (C : Addr) (cl : List (Str × Addr)) (fp : List Addr), SV (X.blk s H scope (compEnvC scope cl C X.env) fp) k elt de) (hsw : swapsWith (.ListComp elt [⟨tg, iter, ifs, 0⟩] scope pos) (some (.Name y py)) spos.line X.env = pure true)
    (hio2 : k.io.contains i = false := by rfl) (hy : X.N[i]? = some y := by rfl) (hyl : X.env.scope.names.lookup y = some .local := by rfl)
    (hio : (own.map (·.2)).all (fun i => !k.io.contains i) = true := by rfl) (hjs : ∀ j ∈ js, j ∈ own.map (·.2) := by decide) (hs : ∀ x, foldedSetIterable iter X.env x = pure x := by intro _; rfl) :
    SS X k (.Assign [.Name y py] (.ListComp elt [⟨tg, iter, ifs, 0⟩] scope pos) spos) (sSet i (cLc (own.map (·.2)) di dg dt de)) := ⟨fun W tk po => (ps_setLc (g := tG X.K k js dg) (tt := tT X.K k (fun _ _ _ _ => False) dt) (te := tV X.K k (fun _ _ _ _ => False) de) hc hN hy hyl hsw (hi.run W tk) ok (fun s H C cl fp => (hg s H C cl fp).run) (fun s H C cl fp => (ht s H C cl fp).run _ takes0) (fun s H C cl fp => (he s H C cl fp).run _ takes0) hs).imp fun Dn sv H h => by
  rw [tS_eq] at h
  obtain ⟨g, s, R, m⟩ := h
  refine tLc_of (W := W) (dg := dg) (dt := dt) (de := de) (nios hio) hjs ⟨g, s, R, ?_⟩
  unfold sSet at m
  cases e : cLc (own.map (·.2)) di dg dt de s with
  | bad => rw [e] at m; exact m
  | ex e' s' => rw [e] at m; exact m
  | ok c s1 =>
    rw [e] at m
    intro v g1 H1 t R1 x1 o hv
    obtain ⟨g2, R2, x2⟩ := R1.assign x1 R.fra o hv (nio hio2)
    exact m g2 _ H1 R2 x2⟩
end
end VL
end
section
set_option maxRecDepth 100000
set_option maxHeartbeats 2000000
/-! VL9: calls of own functions -/
namespace VL
open PySem PySem.Spec PyProof.Rows L2

/-! ### another frame's constants -/
section
variable {K : PySem.W.Frag} {k k' : Kc} {G : Hp}
mutual
theorem Rp.chg (h : k'.cl = k.cl) : ∀ (d : D) (v : V), Rp K k G d v → Rp K k' G d v
  | .non, _, h => h
  | .bl _, _, h => h
  | .int _, _, h => h
  | .str _, _, h => h
  | .tup ds, _, q => by
    obtain ⟨p, vs, e, q, r⟩ := q
    exact ⟨p, vs, e, q, RpL.chg h ds vs r⟩
  | .lst ds, _, q => by
    obtain ⟨p, vs, e, q, r⟩ := q
    exact ⟨p, vs, e, q, RpL.chg h ds vs r⟩
  | .ins c ns ds, _, q => by
    obtain ⟨p, dx, fs, e, q, n, r⟩ := q
    exact ⟨p, dx, fs, e, by rw [h]; exact q, n, RpL.chg h ds _ r⟩
theorem RpL.chg (h : k'.cl = k.cl) : ∀ (ds : List D) (vs : List V), RpL K k G ds vs → RpL K k' G ds vs
  | [], _, q => q
  | d :: ds, _, q => by
    obtain ⟨v, w, e, h1, h2⟩ := q
    exact ⟨v, w, e, Rp.chg h d v h1, RpL.chg h ds w h2⟩
end
theorem ExV.chg (h : k'.cl = k.cl) {e : Ex} {cls : Value} {d : Option Addr} (q : ExV K k G e cls d) : ExV K k' G e cls d := by
  obtain ⟨a, b | ⟨b, fs, e1, e2, e3, e4⟩⟩ := q
  · exact ⟨by rw [h]; exact a, .inl b⟩
  · exact ⟨by rw [h]; exact a, .inr ⟨b, fs, e1, e2, e3, e4.chg h _ _⟩⟩
end
mutual
/-- no exception in hand within -/
def plC : Cell → Bool
  | .xn _ => false
  | .oi _ _ cs => plCL cs
  | .bi _ _ cs => plCL cs
  | _ => true
def plCL : List Cell → Bool
  | [] => true
  | c :: cs => plC c && plCL cs
end
section
variable {K : PySem.W.Frag} {k k' : Kc} {g : Gs} {H : Hp} {ow : List Nat → Addr → Prop}
mutual
theorem CV.chg (hk : k'.cl = k.cl) : ∀ (c : Cell) (p : List Nat) (v : V), (plC c = true ∨ k.xa = none) → CV K k g H ow p c v → CV K k' g H ow p c v
  | .un, _, _, _, _ => True.intro
  | .sh d, _, v, _, h => Rp.chg hk d v h
  | .ol ds, p, _, _, h => by
    obtain ⟨a, vs, e, h1, h2, h3⟩ := h
    exact ⟨a, vs, e, h1, h2, h3.chg hk _ _⟩
  | .bl ds, p, _, _, h => by
    obtain ⟨a, vs, e, h1, h2, h3⟩ := h
    exact ⟨a, vs, e, h1, h2, h3.chg hk _ _⟩
  | .oi c ns cs, p, _, y, h => by
    obtain ⟨a, dx, fs, e, h1, h2, h3, h4⟩ := h
    exact ⟨a, dx, fs, e, h1, by rw [hk]; exact h2, h3, CVL.chg hk cs p 0 _ y h4⟩
  | .bi c ns cs, p, _, y, h => by
    obtain ⟨a, dx, fs, e, h1, h2, h3, h4⟩ := h
    exact ⟨a, dx, fs, e, h1, by rw [hk]; exact h2, h3, CVL.chg hk cs p 0 _ y h4⟩
  | .xn e, _, _, y, h => by
    obtain ⟨a, cls, d, e1, e2, e3⟩ := h
    rcases y with y | y
    · cases y
    · rw [y] at e2; cases e2
theorem CVL.chg (hk : k'.cl = k.cl) : ∀ (cs : List Cell) (p : List Nat) (j : Nat) (vs : List V), (plCL cs = true ∨ k.xa = none) → CVL K k g H ow p j cs vs → CVL K k' g H ow p j cs vs
  | [], _, _, _, _, h => h
  | c :: cs, p, j, _, y, h => by
    obtain ⟨v, w, e, h1, h2⟩ := h
    refine ⟨v, w, e, CV.chg hk c _ v (y.imp (fun z => ?_) id) h1, CVL.chg hk cs p (j + 1) w (y.imp (fun z => ?_) id) h2⟩
    · unfold plCL at z
      exact (Bool.and_eq_true_iff.mp z).1
    · unfold plCL at z
      exact (Bool.and_eq_true_iff.mp z).2
end
end

/-! ### arguments: a value, or the slot of the caller whose content is lent -/
abbrev Md := List (Option Nat)
def posM : Md → Nat → Option Nat
  | [], _ => none
  | x :: m, j => if x = some j then some 0 else (posM m j).map (· + 1)
def okM (m : Md) (io : List Nat) : Bool := (List.range m.length).all fun i => match m[i]? with
  | some (some j) => posM m j == some i && io.contains i
  | _ => true
theorem posM_get : ∀ {m : Md} {j i : Nat}, posM m j = some i → m[i]? = some (some j)
  | [], j, i, h => by cases h
  | x :: m, j, i, h => by
    unfold posM at h
    by_cases e : x = some j
    · rw [if_pos e] at h
      cases h
      simp [e]
    · rw [if_neg e] at h
      cases q : posM m j with
      | none => rw [q] at h; cases h
      | some l =>
        rw [q] at h
        cases h
        simpa using posM_get q
theorem okM_at {m : Md} {io : List Nat} (h : okM m io = true) {i j : Nat} (e : m[i]? = some (some j)) : posM m j = some i ∧ i ∈ io := by
  have hl : i < m.length := (List.getElem?_eq_some_iff.mp e).1
  have z := List.all_eq_true.mp h i (List.mem_range.mpr hl)
  rw [e] at z
  simp only [Bool.and_eq_true, beq_iff_eq, List.contains_iff_mem] at z
  exact z
def argC (s : List Cell) (j : Nat) : Cell := match s[j]? with
  | some c => if plC c then c else .un
  | none => .un
def fillA : Md → List Cell → List Cell → List Cell
  | none :: m, c :: cs, s => c :: fillA m cs s
  | some j :: m, _ :: cs, s => argC s j :: fillA m cs s
  | _, _, _ => []
def backA : Md → List Cell → List Cell → List Cell
  | some j :: m, c :: fin, s => backA m fin (s.set j c)
  | none :: m, _ :: fin, s => backA m fin s
  | _, _, s => s
def ArgL (K : PySem.W.Frag) (k : Kc) (G : Hp) (sv : L2.St) : Md → List Cell → List V → Prop
  | [], cs, vs => cs = [] ∧ vs = []
  | none :: m, cs, vs => ∃ d cs' v vs', cs = .sh d :: cs' ∧ vs = v :: vs' ∧ Rp K k G d v ∧ ArgL K k G sv m cs' vs'
  | some j :: m, cs, vs => ∃ cs' v vs', cs = .un :: cs' ∧ vs = v :: vs' ∧ sv[j]? = some (some v) ∧ ArgL K k G sv m cs' vs'
theorem ArgL.mono {K : PySem.W.Frag} {k : Kc} {G G' : Hp} {sv : L2.St} (sb : Sub G G') : ∀ {m : Md} {cs : List Cell} {vs : List V}, ArgL K k G sv m cs vs → ArgL K k G' sv m cs vs
  | [], _, _, h => h
  | none :: m, _, _, h => by
    obtain ⟨d, cs', v, vs', e1, e2, r, t⟩ := h
    exact ⟨d, cs', v, vs', e1, e2, r.mono sb _ _, ArgL.mono sb t⟩
  | some j :: m, _, _, h => by
    obtain ⟨cs', v, vs', e1, e2, r, t⟩ := h
    exact ⟨cs', v, vs', e1, e2, r, ArgL.mono sb t⟩
theorem ArgL.len {K : PySem.W.Frag} {k : Kc} {G : Hp} {sv : L2.St} : ∀ {m : Md} {cs : List Cell} {vs : List V}, ArgL K k G sv m cs vs → vs.length = m.length
  | [], _, _, h => by rw [h.2]; rfl
  | none :: m, _, _, h => by
    obtain ⟨d, cs', v, vs', e1, e2, r, t⟩ := h
    rw [e2]
    exact congrArg Nat.succ (ArgL.len t)
  | some j :: m, _, _, h => by
    obtain ⟨cs', v, vs', e1, e2, r, t⟩ := h
    rw [e2]
    exact congrArg Nat.succ (ArgL.len t)
theorem ArgL.flen {K : PySem.W.Frag} {k : Kc} {G : Hp} {sv : L2.St} (s : List Cell) : ∀ {m : Md} {cs : List Cell} {vs : List V}, ArgL K k G sv m cs vs → (fillA m cs s).length = m.length
  | [], _, _, h => by rw [h.1]; rfl
  | none :: m, _, _, h => by
    obtain ⟨d, cs', v, vs', e1, e2, r, t⟩ := h
    rw [e1]
    exact congrArg Nat.succ (ArgL.flen s t)
  | some j :: m, _, _, h => by
    obtain ⟨cs', v, vs', e1, e2, r, t⟩ := h
    rw [e1]
    exact congrArg Nat.succ (ArgL.flen s t)
theorem ArgL.at {K : PySem.W.Frag} {k : Kc} {G : Hp} {sv : L2.St} (s : List Cell) : ∀ {m : Md} {cs : List Cell} {vs : List V} {i : Nat} {c : Cell}, ArgL K k G sv m cs vs → (fillA m cs s)[i]? = some c →
    (m[i]? = some none ∧ ∃ d v, c = .sh d ∧ vs[i]? = some v ∧ Rp K k G d v) ∨ (∃ j v, m[i]? = some (some j) ∧ c = argC s j ∧ vs[i]? = some v ∧ sv[j]? = some (some v))
  | [], _, _, i, c, h, e => by
    rw [h.1] at e
    cases e
  | none :: m, _, _, i, c, h, e => by
    obtain ⟨d, cs', v, vs', e1, e2, r, t⟩ := h
    subst e1 e2
    cases i with
    | zero =>
      cases e
      exact .inl ⟨rfl, d, v, rfl, rfl, r⟩
    | succ i =>
      have z := ArgL.at s (i := i) (c := c) t e
      simpa using z
  | some j :: m, _, _, i, c, h, e => by
    obtain ⟨cs', v, vs', e1, e2, r, t⟩ := h
    subst e1 e2
    cases i with
    | zero =>
      cases e
      exact .inr ⟨j, v, rfl, rfl, rfl, r⟩
    | succ i =>
      have z := ArgL.at s (i := i) (c := c) t e
      simpa using z
theorem ArgL.slot {K : PySem.W.Frag} {k : Kc} {G : Hp} {sv : L2.St} : ∀ {m : Md} {cs : List Cell} {vs : List V} {i j : Nat}, ArgL K k G sv m cs vs → m[i]? = some (some j) → ∃ v, vs[i]? = some v ∧ sv[j]? = some (some v)
  | [], _, _, i, j, h, e => by cases e
  | none :: m, _, _, i, j, h, e => by
    obtain ⟨d, cs', v, vs', e1, e2, r, t⟩ := h
    subst e1 e2
    cases i with
    | zero => cases e
    | succ i => simpa using ArgL.slot (i := i) t (by simpa using e)
  | some l :: m, _, _, i, j, h, e => by
    obtain ⟨cs', v, vs', e1, e2, r, t⟩ := h
    subst e1 e2
    cases i with
    | zero =>
      cases e
      exact ⟨v, rfl, r⟩
    | succ i => simpa using ArgL.slot (i := i) t (by simpa using e)
theorem backA_len : ∀ (m : Md) (fin s : List Cell), (backA m fin s).length = s.length
  | [], fin, s => by cases fin <;> rfl
  | none :: m, [], s => rfl
  | some j :: m, [], s => rfl
  | none :: m, c :: fin, s => backA_len m fin s
  | some j :: m, c :: fin, s => (backA_len m fin _).trans (List.length_set ..)
theorem backA_get {l : Nat} {c : Cell} : ∀ (m : Md) (fin s : List Cell), m.length ≤ fin.length → (backA m fin s)[l]? = some c →
    (∃ i : Nat, m[i]? = some (some l) ∧ fin[i]? = some c) ∨ ((∀ i : Nat, m[i]? ≠ some (some l)) ∧ s[l]? = some c)
  | [], fin, s, _, e => by
    have e : s[l]? = some c := by cases fin <;> exact e
    exact .inr ⟨fun i h => (by cases h), e⟩
  | none :: m, [], s, h, e => by simp at h
  | some j :: m, [], s, h, e => by simp at h
  | none :: m, c' :: fin, s, h, e => by
    rcases backA_get m fin s (by simpa using h) e with ⟨i, h1, h2⟩ | ⟨h1, h2⟩
    · exact .inl ⟨i + 1, by simpa using h1, by simpa using h2⟩
    · refine .inr ⟨fun i => ?_, h2⟩
      cases i with
      | zero => simp
      | succ i => simpa using h1 i
  | some j :: m, c' :: fin, s, h, e => by
    rcases backA_get m fin _ (by simpa using h) e with ⟨i, h1, h2⟩ | ⟨h1, h2⟩
    · exact .inl ⟨i + 1, by simpa using h1, by simpa using h2⟩
    · by_cases hj : j = l
      · subst hj
        have hl : j < s.length := by
          by_cases hl : j < s.length
          · exact hl
          · rw [List.getElem?_eq_none (by rw [List.length_set]; omega)] at h2; cases h2
        rw [List.getElem?_set_self hl] at h2
        exact .inl ⟨0, rfl, by simpa using h2⟩
      · rw [List.getElem?_set_ne hj] at h2
        refine .inr ⟨fun i => ?_, h2⟩
        cases i with
        | zero =>
          intro z
          cases z
          exact hj rfl
        | succ i => simpa using h1 i

/-! ### the callee's ghost state, and back -/
def pinsM (m : Md) (vs : List V) : List (Nat × V) := (List.range m.length).filterMap fun i => match m[i]?, vs[i]? with
  | some (some _), some v => some (i, v)
  | _, _ => none
theorem pinsM_mem {m : Md} {vs : List V} {i : Nat} {v : V} (h : (i, v) ∈ pinsM m vs) : (∃ j, m[i]? = some (some j)) ∧ vs[i]? = some v := by
  obtain ⟨l, _, e⟩ := List.mem_filterMap.mp h
  cases q : m[l]? with
  | none => simp only [q] at e; cases e
  | some x =>
    cases x with
    | none => simp only [q] at e; cases e
    | some j =>
      cases q2 : vs[l]? with
      | none => simp only [q, q2] at e; cases e
      | some u =>
        simp only [q, q2] at e
        cases e
        exact ⟨⟨j, q⟩, q2⟩
theorem mem_pinsM {m : Md} {vs : List V} {i j : Nat} {v : V} (h : m[i]? = some (some j)) (e : vs[i]? = some v) : (i, v) ∈ pinsM m vs :=
  List.mem_filterMap.mpr ⟨i, List.mem_range.mpr (List.getElem?_eq_some_iff.mp h).1, by simp only [h, e]⟩
def Gs.into (g : Gs) (m : Md) (vs : List V) : Gs where
  G := g.G
  w := fun a => match g.w a with
    | some (j, p) => (posM m j).map fun i => (i, p)
    | none => none
  F := g.F
  pv := pinsM m vs
def Gs.back (g g' : Gs) (m : Md) : Gs where
  G := g'.G
  w := fun a => match g'.w a with
    | some (i, p) => match m[i]? with
      | some (some j) => some (j, p)
      | _ => none
    | none => match g.w a with
      | some (j, p) => match posM m j with
        | some _ => none
        | none => some (j, p)
      | none => none
  F := g.F
  pv := g.pv
theorem into_some {g : Gs} {m : Md} {vs : List V} {a : Addr} {i : Nat} {p : List Nat} (h : (g.into m vs).w a = some (i, p)) : ∃ j, g.w a = some (j, p) ∧ posM m j = some i := by
  have h : (match g.w a with
    | some (j, p) => (posM m j).map fun i => (i, p)
    | none => none) = some (i, p) := h
  cases q : g.w a with
  | none => rw [q] at h; cases h
  | some x =>
    obtain ⟨j, p'⟩ := x
    rw [q] at h
    cases q2 : posM m j with
    | none => simp only [q2] at h; cases h
    | some l =>
      simp only [q2] at h
      cases h
      exact ⟨j, rfl, q2⟩
theorem into_none {g : Gs} {m : Md} {vs : List V} {a : Addr} (h : g.w a = none) : (g.into m vs).w a = none := by
  show (match g.w a with
    | some (j, p) => (posM m j).map fun i => (i, p)
    | none => none) = none
  rw [h]
theorem into_of {g : Gs} {m : Md} {vs : List V} {a : Addr} {i j : Nat} {p : List Nat} (h : g.w a = some (j, p)) (e : posM m j = some i) : (g.into m vs).w a = some (i, p) := by
  show (match g.w a with
    | some (j, p) => (posM m j).map fun i => (i, p)
    | none => none) = some (i, p)
  simp only [h, e]
  rfl
theorem back_some {g g' : Gs} {m : Md} {a : Addr} {j : Nat} {p : List Nat} (h : (g.back g' m).w a = some (j, p)) : (∃ i, g'.w a = some (i, p) ∧ m[i]? = some (some j)) ∨ (g'.w a = none ∧ g.w a = some (j, p) ∧ posM m j = none) := by
  have h : (match g'.w a with
    | some (i, p) => match m[i]? with
      | some (some j) => some (j, p)
      | _ => none
    | none => match g.w a with
      | some (j, p) => match posM m j with
        | some _ => none
        | none => some (j, p)
      | none => none) = some (j, p) := h
  cases q : g'.w a with
  | some x =>
    obtain ⟨i, p'⟩ := x
    simp only [q] at h
    cases q2 : m[i]? with
    | none => simp only [q2] at h; cases h
    | some y =>
      cases y with
      | none => simp only [q2] at h; cases h
      | some j' =>
        simp only [q2] at h
        cases h
        exact .inl ⟨i, rfl, q2⟩
  | none =>
    simp only [q] at h
    cases q2 : g.w a with
    | none => simp only [q2] at h; cases h
    | some x =>
      obtain ⟨j', p'⟩ := x
      simp only [q2] at h
      cases q3 : posM m j' with
      | some _ => simp only [q3] at h; cases h
      | none =>
        simp only [q3] at h
        cases h
        exact .inr ⟨rfl, rfl, q3⟩
theorem back_none {g g' : Gs} {m : Md} {a : Addr} (h1 : g'.w a = none) (h2 : g.w a = none) : (g.back g' m).w a = none := by
  cases e : (g.back g' m).w a with
  | none => rfl
  | some q =>
    obtain ⟨j, p⟩ := q
    rcases back_some e with ⟨i, z, _⟩ | ⟨_, z, _⟩
    · rw [h1] at z; cases z
    · rw [h2] at z; cases z
section
variable {K : PySem.W.Frag} {k k' : Kc} {g g' : Gs} {s fin cs : List Cell} {sv sv' : L2.St} {H H' : Hp} {m : Md} {vs : List V}
theorem Rel.into (R : Rel K k g s sv H) (A : ArgL K k g.G sv m cs vs) (ok : okM m k'.io = true) (hk : k'.cl = k.cl) : Rel K k' (g.into m vs) (fillA m cs s) (vs.map some) H where
  len := by rw [A.flen s, List.length_map, A.len]
  sub := R.sub
  dis := fun a q e => by
    obtain ⟨i, p⟩ := q
    obtain ⟨j, e1, _⟩ := into_some e
    exact R.dis a _ e1
  fra := fun a e => ⟨into_none (R.fra a e).1, (R.fra a e).2⟩
  cel := fun i c e n => by
    rcases A.at s e with ⟨_, d, v, rfl, e2, r⟩ | ⟨j, v, e1, rfl, e2, e3⟩
    · refine ⟨v, ?_, ?_⟩
      · rw [List.getElem?_map, e2]; rfl
      · exact Rp.chg hk d v r
    · refine ⟨v, ?_, ?_⟩
      · rw [List.getElem?_map, e2]; rfl
      · unfold argC at n ⊢
        cases q : s[j]? with
        | none => simp only [q] at n; exact absurd rfl n
        | some c =>
          simp only [q] at n ⊢
          by_cases pc : plC c = true
          · rw [if_pos pc] at n ⊢
            obtain ⟨v', e4, h4⟩ := R.cel j c q n
            rw [e3] at e4
            cases e4
            have h5 := CV.chg (k' := k') hk c [] v (.inl pc) h4
            exact CV.mono0 h5 (Sub.refl _) (fun _ z => z) (fun a _ o e => e) (fun p a e => ⟨into_of e (okM_at ok e1).1, fun o e => e⟩)
          · rw [if_neg pc] at n
            exact absurd rfl n
  pin := fun i v h => by
    obtain ⟨_, e⟩ := pinsM_mem h
    rw [List.getElem?_map, e]; rfl
  pio := fun i v h => by
    obtain ⟨⟨j, e⟩, _⟩ := pinsM_mem h
    exact (okM_at ok e).2
theorem Rel.outof (R : Rel K k g s sv H) (A : ArgL K k g.G sv m cs vs) (ok : okM m k'.io = true) (hk : k'.cl = k.cl) (hx : k'.xa = none) (hf : fin.length = m.length) (R' : Rel K k' g' fin sv' H') (x : Ext (g.into m vs) H g' H') :
    Rel K k (g.back g' m) (backA m fin s) sv H' ∧ Ext g H (g.back g' m) H' := by
  have old : ∀ {a j p}, g.w a = some (j, p) → posM m j = none → ∃ o, H a = some o ∧ H' a = some o ∧ g'.w a = none ∧ g'.G a = none := fun {a j p} h q => by
    obtain ⟨z1, z2⟩ := R.dis a _ h
    cases e : H a with
    | none => exact absurd e z2
    | some o =>
      have nw : (g.into m vs).w a = none := by
        cases e2 : (g.into m vs).w a with
        | none => rfl
        | some y =>
          obtain ⟨i, p'⟩ := y
          obtain ⟨j', e3, e4⟩ := into_some e2
          rw [h] at e3
          cases e3
          rw [q] at e4; cases e4
      obtain ⟨y1, y2⟩ := x.fr a o e nw
      refine ⟨o, rfl, y1, y2, ?_⟩
      cases e5 : g'.G a with
      | none => rfl
      | some u =>
        rcases x.new a (by rw [e5]; simp) with z | z | z
        · exact absurd z1 z
        · exact absurd nw z
        · rw [e] at z; cases z
  have nF : ∀ a, g.F a → g.w a = none ∧ ∃ o, H a = some o ∧ H' a = some o ∧ g'.w a = none := fun a e => by
    obtain ⟨z1, z2⟩ := R.fra a e
    cases e2 : H a with
    | none => exact absurd e2 z2
    | some o =>
      obtain ⟨y1, y2⟩ := x.fr a o e2 (into_none z1)
      exact ⟨z1, o, rfl, y1, y2⟩
  refine ⟨⟨by rw [backA_len]; exact R.len, R'.sub, fun a q e => ?_, fun a e => ?_, fun l c e n => ?_, R.pin, R.pio⟩, ⟨fun a o e w => ?_, x.G, fun a e => ?_, rfl, rfl⟩⟩
  · obtain ⟨j, p⟩ := q
    rcases back_some e with ⟨i, z, _⟩ | ⟨_, z, z2⟩
    · exact R'.dis a _ z
    · obtain ⟨o, _, h1, _, h2⟩ := old z z2
      exact ⟨h2, by rw [h1]; simp⟩
  · obtain ⟨z1, o, _, z2, z3⟩ := nF a e
    exact ⟨back_none z3 z1, by rw [z2]; simp⟩
  · rcases backA_get m fin s (by omega) e with ⟨i, e1, e2⟩ | ⟨e1, e2⟩
    · obtain ⟨v, e3, h3⟩ := R'.cel i c e2 n
      obtain ⟨v', e4, e5⟩ := A.slot e1
      have pn := R'.pin i v' (by rw [x.pv]; exact mem_pinsM e1 e4)
      rw [e3] at pn
      cases pn
      refine ⟨v, e5, CV.mono0 (CV.chg (k' := k) hk.symm c [] v (.inr hx) h3) (Sub.refl _) (fun a z => by rw [x.F] at z; exact z) (fun a _ o e => e) (fun p a e => ⟨?_, fun o e => e⟩)⟩
      show (match g'.w a with
        | some (i, p) => match m[i]? with
          | some (some j) => some (j, p)
          | _ => none
        | none => match g.w a with
          | some (j, p) => match posM m j with
            | some _ => none
            | none => some (j, p)
          | none => none) = some (l, p)
      simp only [e, e1]
    · obtain ⟨v, e3, h3⟩ := R.cel l c e2 n
      have pn : posM m l = none := by
        cases q : posM m l with
        | none => rfl
        | some i => exact absurd (posM_get q) (e1 i)
      refine ⟨v, e3, CV.mono0 h3 x.G (fun _ z => z) (fun a hf o e => ?_) (fun p a e => ?_)⟩
      · obtain ⟨_, o', y1, y2, _⟩ := nF a hf
        rw [e] at y1; cases y1
        exact y2
      · obtain ⟨o, y1, y2, y3, _⟩ := old e pn
        refine ⟨?_, fun o' e' => by rw [y1] at e'; cases e'; exact y2⟩
        show (match g'.w a with
          | some (i, p) => match m[i]? with
            | some (some j) => some (j, p)
            | _ => none
          | none => match g.w a with
            | some (j, p) => match posM m j with
              | some _ => none
              | none => some (j, p)
            | none => none) = some (l, p)
        have e : g.w a = some (l, p) := e
        simp only [y3, e, pn]
  · obtain ⟨y1, y2⟩ := x.fr a o e (into_none w)
    exact ⟨y1, back_none y2 w⟩
  · rcases x.new a e with z | z | z
    · exact .inl z
    · refine .inr (.inl fun q => z (into_none q))
    · exact .inr (.inr z)
theorem Own.outof {t : Addr → Option (List Nat)} (R : Rel K k g s sv H) (x : Ext (g.into m vs) H g' H') (o : Own t (g.into m vs) H g' H') : Own t g H (g.back g' m) H' := fun a h => by
  obtain ⟨a1, a2, a3, a4⟩ := o a h
  refine ⟨?_, a2, a3, ?_⟩
  · cases e : (g.back g' m).w a with
    | none => rfl
    | some q =>
      obtain ⟨j, p⟩ := q
      rcases back_some e with ⟨i, z, _⟩ | ⟨_, z, z2⟩
      · rw [a1] at z; cases z
      · have d := (R.dis a _ z).2
        rcases a4 with y | y
        · cases e2 : (g.into m vs).w a with
          | none => exact absurd e2 y
          | some u =>
            obtain ⟨i, p'⟩ := u
            obtain ⟨j', e3, e4⟩ := into_some e2
            rw [z] at e3
            cases e3
            rw [z2] at e4; cases e4
        · exact absurd y d
  · rcases a4 with y | y
    · exact .inl fun q => y (into_none q)
    · exact .inr y
theorem Rel.more (R : Rel K k g cs (vs.map some) H) (n : Nat) : Rel K k g (cs ++ List.replicate n .un) (vs.map some ++ List.replicate n none) H where
  len := by
    have := R.len
    simp only [List.length_append, List.length_replicate]
    omega
  sub := R.sub
  dis := R.dis
  fra := R.fra
  cel := fun i c e ne => by
    by_cases h : i < cs.length
    · rw [List.getElem?_append_left h] at e
      obtain ⟨v, e1, h1⟩ := R.cel i c e ne
      refine ⟨v, ?_, h1⟩
      rw [List.getElem?_append_left (by rw [← R.len]; exact h)]
      exact e1
    · rw [List.getElem?_append_right (by omega)] at e
      have z := List.eq_of_mem_replicate (List.mem_of_getElem? e)
      exact absurd z ne
  pin := fun i v h => by
    have e := R.pin i v h
    have hl := (List.getElem?_eq_some_iff.mp e).1
    rw [List.getElem?_append_left hl]
    exact e
  pio := R.pio
theorem Rel.take (R : Rel K k g s sv H) (n : Nat) (hp : ∀ i v, (i, v) ∈ g.pv → i < n) : Rel K k g (s.take n) (sv.take n) H where
  len := by rw [List.length_take, List.length_take, R.len]
  sub := R.sub
  dis := R.dis
  fra := R.fra
  cel := fun i c e ne => by
    rw [List.getElem?_take] at e
    by_cases h : i < n
    · rw [if_pos h] at e
      obtain ⟨v, e1, h1⟩ := R.cel i c e ne
      refine ⟨v, ?_, h1⟩
      rw [List.getElem?_take, if_pos h]
      exact e1
    · rw [if_neg h] at e; cases e
  pin := fun i v h => by
    rw [List.getElem?_take, if_pos (hp i v h)]
    exact R.pin i v h
  pio := R.pio
end

/-! ### what a def promises -/
abbrev DF := List Cell → O Cell
def spD (K : PySem.W.Frag) (k : Kc) (n : Nat) (φ : DF) : Sp := fun vs H Q E => vs.length = n ∧ ∃ g cs, Rel K k g cs (vs.map some) H ∧ match φ cs with
  | .ok c fin => ∀ v g' sv' H' t, fin.length = n → Rel K k g' fin sv' H' → Ext g H g' H' → Own t g H g' H' → CV K k g' H' (fun p a => t a = some p) [] c v → Q v H'
  | .ex e fin => ∀ cls d g' sv' H', fin.length = n → Rel K k g' fin sv' H' → Ext g H g' H' → ExV K k g'.G e cls d → E cls d H'
  | .bad => False
def fnD (n N : Nat) (b : DS) : DF := fun cs => match b (cs ++ List.replicate (N - n) .un) with
  | .nx s => if n ≤ s.length then .ok (.sh .non) (s.take n) else .bad
  | .rt c s => if n ≤ s.length then .ok c (s.take n) else .bad
  | .ex e s => if n ≤ s.length then .ex e (s.take n) else .bad
  | _ => .bad
theorem fn_okD {P : Program} {w : World} {K : PySem.W.Frag} {mg : Str → Option Value} {base : Heap} {x qual : Str} {params : Arguments} {body : List Stmt} {scope : Scope} {dvs : List V} {kws : List (Str × V)} {f : Addr} {fd : FuncData} {N ps : List Str} {lvl n : Nat} {k : Kc} {b : DS}
    (F : FunD K x qual params body scope dvs kws f fd) (S : FnScope N ps scope) (hn : ps.length = n)
    (hb : ∀ (cdv : Value) (A : Around) (outer : List Env) (s : Shared) (H : Hp) (E : XK), Room lvl (A.deeper (envOfC qual scope s.heap.objs.size f cdv)) → SSs (cxOf (L2.CX P w) P w K mg base N qual scope f cdv A outer s H E) k body b) :
    FnOk P w K mg base (L2.CX P w) (lvl + 1) f fd ps (spD K k n (fnD n N.length b)) := by
  refine F.ok S (fun vs H Q E h => h.1.trans hn.symm) fun cdv A outer s H vs Q E hr h => ?_
  obtain ⟨hl, g, cs, R, m⟩ := h
  refine ⟨_, (hb cdv A outer s H E hr).run (fun cls d _ H => E cls d H) (takes_of rfl rfl rfl rfl) (passes_of rfl), ?_⟩
  have hc : cs.length = n := by rw [R.len, List.length_map]; exact hl
  have hp : ∀ g' : Gs, g'.pv = g.pv → ∀ i v, (i, v) ∈ g'.pv → i < n := fun g' e i v h => by
    rw [e] at h
    have z := (List.getElem?_eq_some_iff.mp (R.pin i v h)).1
    rw [List.length_map, hl] at z
    exact z
  have R2 := R.more (N.length - n)
  unfold fnD at m
  have e0 : L2.start N vs = vs.map some ++ List.replicate (N.length - n) none := by
    unfold L2.start
    rw [hl]
  rw [e0]
  refine ⟨g, _, R2, ?_⟩
  have ft : ∀ s' : List Cell, n ≤ s'.length → (s'.take n).length = n := fun s' z => by rw [List.length_take]; omega
  cases q : b (cs ++ List.replicate (N.length - n) .un) with
  | nx s' =>
    simp only [q] at m
    intro g' sv' H' R' x
    by_cases z : n ≤ s'.length
    · rw [if_pos z] at m
      exact m .non g' _ H' (fun _ => none) (ft s' z) (R'.take n (hp g' x.pv)) x own_none rfl
    · rw [if_neg z] at m
      exact m.elim
  | rt c s' =>
    simp only [q] at m
    intro v g' sv' H' t R' x o hv
    by_cases z : n ≤ s'.length
    · rw [if_pos z] at m
      exact m v g' _ H' t (ft s' z) (R'.take n (hp g' x.pv)) x o hv
    · rw [if_neg z] at m
      exact m.elim
  | ex e s' =>
    simp only [q] at m
    intro cls d g' sv' H' R' x hv
    by_cases z : n ≤ s'.length
    · rw [if_pos z] at m
      exact m cls d g' _ H' (ft s' z) (R'.take n (hp g' x.pv)) x hv
    · rw [if_neg z] at m
      exact m.elim
  | bk s' => simp only [q] at m
  | ct s' => simp only [q] at m
  | bad => simp only [q] at m

/-! ### argument lists -/
abbrev DAs := List Cell → O (List Cell)
def tA (K : PySem.W.Frag) (k : Kc) (W : WX) (m : Md) (das : DAs) : TA := fun sv H Q => ∃ g s, Rel K k g s sv H ∧ match das s with
  | .ok cs s' => ∀ vs g' H', Rel K k g' s' sv H' → Ext g H g' H' → ArgL K k g'.G sv m cs vs → Q vs H'
  | .ex e s' => exW K k W g H e s'
  | .bad => False
structure SAs (X : Cx) (k : Kc) (es : List Expr) (m : Md) (das : DAs) : Prop where
  run : ∀ W, Takes X W → PA X es (tA X.K k W m das)
def asNil : DAs := fun s => .ok [] s
def asVal (dv : DV) (das : DAs) : DAs := fun s => (dv s).bind fun d s1 => (das s1).bind fun cs s2 => .ok (.sh d :: cs) s2
def asSlot (j : Nat) (das : DAs) : DAs := fun s => match s[j]? with
  | none => .bad
  | some .un => .bad
  | _ => (das s).bind fun cs s2 => .ok (.un :: cs) s2
section
variable {X : Cx} {k : Kc} {e : Expr} {es : List Expr} {m : Md} {das : DAs}
theorem as_nil : SAs X k [] [] asNil := ⟨fun W _ => pa_nil.imp fun sv H Q h => by
  obtain ⟨g, s, R, q⟩ := h
  exact q [] g H R (Ext.refl _ _) ⟨rfl, rfl⟩⟩
theorem as_val {dv : DV} (ha : SV X k e dv) (hb : SAs X k es m das) (hs : starEach (e :: es) X.env = (false, eval e X.env) :: starEach es X.env := by rfl) : SAs X k (e :: es) (none :: m) (asVal dv das) := ⟨fun W tk => (pa_cons (ha.run W tk) (hb.run W tk) hs).imp fun sv H Q h => by
  obtain ⟨g, s, R, q⟩ := h
  refine ⟨g, s, R, ?_⟩
  unfold asVal at q
  cases e1 : dv s with
  | bad => rw [e1] at q; exact q
  | ex e' s' => rw [e1] at q; exact q
  | ok d s1 =>
    rw [e1, O.bind_ok] at q
    intro v g1 H1 R1 x1 hv
    refine ⟨g1, s1, R1, ?_⟩
    cases e2 : das s1 with
    | bad => rw [e2] at q; exact q
    | ex e' s' => rw [e2] at q; exact exW.later x1 q
    | ok cs s2 =>
      rw [e2, O.bind_ok] at q
      intro vs g2 H2 R2 x2 hvs
      exact q (v :: vs) g2 H2 R2 (x1.trans x2) ⟨d, cs, v, vs, rfl, rfl, hv.mono x2.G _ _, hvs⟩⟩
theorem as_slot {j : Nat} {x : Str} {pos : Pos} (hb : SAs X k es m das) (hN : X.N[j]? = some x := by rfl) (hv : Vis X.env.scope x := by first | exact Or.inl rfl | exact Or.inr (Or.inl rfl) | exact Or.inr (Or.inr rfl)) (hd : (x == ("__debug__" : Str)) = false := by decide)
    (hcd : (x == ("__classdict__" : Str)) = false := by decide) (hs : starEach (.Name x pos :: es) X.env = (false, eval (.Name x pos) X.env) :: starEach es X.env := by rfl) : SAs X k (.Name x pos :: es) (some j :: m) (asSlot j das) := ⟨fun W tk => (pa_cons (pe_var hN hv hd hcd) (hb.run W tk) hs).imp fun sv H Q h => by
  obtain ⟨g, s, R, q⟩ := h
  unfold asSlot at q
  cases e1 : s[j]? with
  | none => simp only [e1] at q
  | some c =>
    have hn : c ≠ .un := fun z => by subst z; simp only [e1] at q
    have q : match (das s).bind fun cs s2 => O.ok (.un :: cs) s2 with
      | .ok cs s' => ∀ vs g' H', Rel X.K k g' s' sv H' → Ext g H g' H' → ArgL X.K k g'.G sv (some j :: m) cs vs → Q vs H'
      | .ex e s' => exW X.K k W g H e s'
      | .bad => False := by
      simp only [e1] at q
      cases c <;> first | exact absurd rfl hn | exact q
    obtain ⟨v, e2, _⟩ := R.cel j c e1 hn
    refine ⟨v, e2, g, s, R, ?_⟩
    cases e3 : das s with
    | bad => rw [e3] at q; exact q
    | ex e' s' => rw [e3] at q; exact q
    | ok cs s2 =>
      rw [e3, O.bind_ok] at q
      intro vs g2 H2 R2 x2 hvs
      exact q (v :: vs) g2 H2 R2 x2 ⟨cs, v, vs, rfl, rfl, e2, hvs⟩⟩
end

/-! ### calls -/
def cDo (m : Md) (φ : DF) (cs s : List Cell) : O Cell := match φ (fillA m cs s) with
  | .ok c fin => .ok c (backA m fin s)
  | .ex e fin => .ex e (backA m fin s)
  | .bad => .bad
def cCall (m : Md) (das : DAs) (φ : DF) : DC := fun s => (das s).bind fun cs s1 => cDo m φ cs s1
section
variable {K : PySem.W.Frag} {k k' : Kc} {g g0 : Gs} {s cs : List Cell} {sv : L2.St} {H H0 : Hp} {m : Md} {vs : List V} {W : WX} {Q : VK} {φ : DF} {n : Nat}
/-- the callee's promise -/
theorem sp_of (R : Rel K k g s sv H) (x0 : Ext g0 H0 g H) (A : ArgL K k g.G sv m cs vs) (ok : okM m k'.io = true) (hk : k'.cl = k.cl) (hx : k'.xa = none) (hn : m.length = n)
    (h : match cDo m φ cs s with
      | .ok c s' => ∀ v g' H' t, Rel K k g' s' sv H' → Ext g0 H0 g' H' → Own t g0 H0 g' H' → CV K k g' H' (fun p a => t a = some p) [] c v → Q v H'
      | .ex e s' => exW K k W g0 H0 e s'
      | .bad => False) : spD K k' n φ vs H Q (WE W sv) := by
  refine ⟨A.len.trans hn, g.into m vs, fillA m cs s, R.into A ok hk, ?_⟩
  unfold cDo at h
  cases q : φ (fillA m cs s) with
  | bad => simp only [q] at h
  | ok c fin =>
    simp only [q] at h
    intro v g' sv' H' t hf R' x' o hv
    obtain ⟨R2, x2⟩ := R.outof A ok hk hx (hf.trans hn.symm) R' x'
    have o2 := Own.outof R x' o
    refine h v _ H' t R2 (x0.trans x2) (o2.later x0) ?_
    exact CV.mono0 (CV.chg (k' := k) hk.symm c [] v (.inr hx) hv) (Sub.refl _) (fun a z => by rw [x'.F] at z; exact z) (fun a _ o e => e) (fun p a e => ⟨e, fun o e => e⟩)
  | ex e fin =>
    simp only [q] at h
    intro cls d g' sv' H' hf R' x' hv
    obtain ⟨R2, x2⟩ := R.outof A ok hk hx (hf.trans hn.symm) R' x'
    exact h cls d _ sv H' R2 (x0.trans x2) (hv.chg hk.symm)
end
section
variable {X : Cx} {k k' : Kc} {lvl n : Nat} {f C : Addr} {fd : FuncData} {ps : List Str} {φ : DF} {x : Str} {p pos apos : Pos} {e o : Expr} {es : List Expr} {m : Md} {das : DAs}
theorem c_call (F : FnOk X.prog X.w X.K X.mg X.base (L2.CX X.prog X.w) lvl f fd ps (spD X.K k' n φ)) (hr : Room lvl X.A) (hm : X.mg x = some (.ref f)) (hk : PySem.W.keepIn X.K (.ref f) = true) (hb : Binds X.K fd ps [])
    (ha : SAs X k (e :: es) m das) (hcl : k'.cl = k.cl) (ok : okM m k'.io = true := by rfl) (hx : k'.xa = none := by rfl) (hn : m.length = n := by rfl) (hg : Gl X x := by rfl) (hdb : (x == ("__debug__" : Str)) = false := by decide)
    (he : starEach (e :: es) X.env = (false, eval e X.env) :: starEach es X.env := by rfl) (hpl : (backTo pos (starEach es X.env)).any (·.1) = false := by rfl) :
    SC X k (.Call (.Name x p) (e :: es) [] pos) (cCall m das φ) := ⟨fun W tk => (pe_callS F hr hg hm hk hb (fun σ => passAt tk σ) (ha.run W tk) hdb he hpl).imp fun sv H Q h => by
  obtain ⟨g, s, R, q⟩ := h
  refine ⟨g, s, R, ?_⟩
  unfold cCall at q
  cases e1 : das s with
  | bad => rw [e1] at q; exact q
  | ex e' s' => rw [e1] at q; exact q
  | ok cs s1 =>
    rw [e1, O.bind_ok] at q
    intro vs g1 H1 R1 x1 A
    exact sp_of R1 x1 A ok hcl hx hn q⟩
end
end VL
end
section
set_option maxRecDepth 100000
set_option maxHeartbeats 2000000
/-! VLE: enumerate of a tuple -/
namespace VL
open PySem PySem.Spec PyProof.Rows L2

theorem meets_enumerate_newT (l : Addr) (items : Array Value) (o : Obj) (hc : o.cls = .type "tuple") (n : Nat) (hd : o.data = .seq items n) :
    Meets (Builtin.«enumerate.__new__» ⟨[.type "enumerate", .ref l], []⟩) (fun _ R s => s.heap.get? l = some o ∧
      R (.ok (.ret (.ref (s.heap.push { cls := .type "tuple_iterator", data := .fields #[.ref l, .int 0 0] }).objs.size)))
        { s with heap := (s.heap.push { cls := .type "tuple_iterator", data := .fields #[.ref l, .int 0 0] }).push { cls := .type "enumerate", data := .fields #[.none, .bool false, .ref s.heap.objs.size, rawInt 0, .none, .none] } }) :=
  .of_wp fun prog w A R s h => by
    obtain ⟨hp, g, d, tk, os⟩ := s; obtain ⟨hl, h⟩ := h
    have hsub := sub_enumerate
    have hL : Heap.IsTuple (Shared.heap ⟨hp, g, d, tk, os⟩) l items := ⟨_, hl, hc, n, hd⟩
    wp_walk using AutoSeq1.wpAny_loadPart' hl
    refine wpAny_stack_any fun st => wpAny_pure ?_
    split
    · rename_i c _ _ _ _ _
      cases (c == Value.type "enumerate")
      · wp_walk using AutoSeq1.wpAny_loadPart' hl, wpAny_pyIter_tuple hL
        exact ⟨_, rfl, h⟩
      · wp_walk using AutoSeq1.wpAny_loadPart' hl, wpAny_pyIter_tuple hL
        exact ⟨_, rfl, h⟩
    · wp_walk using AutoSeq1.wpAny_loadPart' hl, wpAny_pyIter_tuple hL
      exact ⟨_, rfl, h⟩
section
variable {prog : Program} {w : World} {A : Around} {E : Value → Shared → Prop} {s : Shared}
theorem call_enumerate_tuple {l : Addr} {items : Array Value} {Q : Value → Shared → Prop} (hL : s.heap.IsTuple l items)
    (h : ∀ h', IsEnum h' (s.heap.objs.size + 1) s.heap.objs.size 0 .none → h'.IsTupleIter s.heap.objs.size l 0 → h'.objs.size = s.heap.objs.size + 2 →
      (∀ b o, s.heap.get? b = some o → h'.get? b = some o) → Q (.ref (s.heap.objs.size + 1)) { s with heap := h' }) :
    wpAny (model prog w) A (call (.type "enumerate") [.ref l]) Q E s := by
  obtain ⟨o, hl, hc, n, hd⟩ := hL
  refine callType_new F.called_enumerate (by decide) (F.typeCall_enumerate_1 _) (F.newCall_enumerate_1 _) (fun obj => F.args_object_init_2 obj _) F.entry_enumerate_new
    (meets_enumerate_newT l items o hc n hd) ⟨hl, ?_⟩
  have hz : (s.heap.push { cls := .type "tuple_iterator", data := .fields #[.ref l, .int 0 0] }).objs.size = s.heap.objs.size + 1 := Heap.size_push ..
  show _ ∧ _
  rw [hz]
  have he : IsEnum ((s.heap.push { cls := .type "tuple_iterator", data := .fields #[.ref l, .int 0 0] }).push
      { cls := .type "enumerate", data := .fields #[.none, .bool false, .ref s.heap.objs.size, rawInt 0, .none, .none] }) (s.heap.objs.size + 1) s.heap.objs.size 0 .none := by
    have := Heap.get?_push_size (s.heap.push { cls := .type "tuple_iterator", data := .fields #[.ref l, .int 0 0] })
      (o := { cls := .type "enumerate", data := .fields #[.none, .bool false, .ref s.heap.objs.size, rawInt 0, .none, .none] }) rfl
    rw [hz] at this; exact this
  refine ⟨⟨_, he, rfl⟩, h _ he ⟨_, Heap.get?_push_of_some _ (Heap.get?_push_size _ rfl), rfl, rfl⟩ (by rw [Heap.size_push, hz]) fun b o x => Heap.get?_push_of_some _ (Heap.get?_push_of_some _ x)⟩
end
/-- the tuple at a, each item in a new pair -/
def IteT (K : PySem.W.Frag) (a : Addr) : It :=
  ⟨fun i H => ∃ (xs : List V) (x : V), SqT K H a xs ∧ xs[i]? = some x, fun i H v H' => ∃ T x, v = .ref T ∧ H T = none ∧ H' = upd H T (.tup [.int (i : Nat), x]) ∧ ∀ xs, SqT K H a xs → xs[i]? = some x, fun i H => ∃ xs : List V, SqT K H a xs ∧ xs.length ≤ i⟩
theorem tup_ne {h : Heap} {a b : Addr} {its : Array Value} {o : Obj} (t : h.IsTuple a its) (e : h.get? b = some o) (hc : o.cls ≠ .type "tuple") : b ≠ a := fun z => by
  obtain ⟨o', e', hc', _⟩ := t
  rw [z, e'] at e
  cases e
  exact hc hc'
theorem turn_enumT {P : Program} {w : World} {K : PySem.W.Frag} {elts : List Expr} {kk : Nat} {tpos : Pos} (a e it : Addr) :
    Turn P w K (.Tuple elts kk tpos) (IteT K a) [e, it] e (fun i h => (∃ old, IsEnum h e it ((i : Nat) : Int) old) ∧ h.IsTupleIter it a i ∧ e ≠ it) where
  mem := by simp
  obj := fun i h st b hb => by
    obtain ⟨⟨old, he⟩, ⟨o, ho, hc, hd⟩, _⟩ := st
    have e' : b = e ∨ b = it := by simpa using hb
    rcases e' with z | z
    · rw [z]; exact ⟨_, he, fun v q => nomatch q⟩
    · rw [z]; exact ⟨o, ho, fun v q => by rw [hd] at q; cases q⟩
  keep := fun i h h' st k => let ⟨⟨old, he⟩, hi, hne⟩ := st; ⟨⟨old, k e (by simp) _ he⟩, hi.at fun o q => k it (by simp) o q, hne⟩
  item := by
    intro X hP hw hK hc i pins s σ H E I hf st hg
    subst hP hw hK
    obtain ⟨⟨old, he⟩, hit, hne⟩ := st
    obtain ⟨xs, x, hq, hx⟩ := hg
    obtain ⟨its, rv, p, hz⟩ := I.tuple hq
    obtain ⟨u, hu, ru⟩ := rv.get hx
    have hel : e < s.heap.objs.size := Heap.lt_size he
    have hil : it < s.heap.objs.size := by obtain ⟨_, q, _⟩ := hit; exact Heap.lt_size q
    have nie : it ≠ a := by
      obtain ⟨o, q, qc, _⟩ := hit
      exact tup_ne p q (by rw [qc]; decide)
    have nee : e ≠ a := tup_ne p he (by show Value.type "enumerate" ≠ .type "tuple"; decide)
    have hin : X.A.in1.handled = none := I.ok.hd hc
    have hxl : i < its.toArray.size := by
      rw [List.size_toArray]
      exact (List.getElem?_eq_some_iff.mp hu).1
    refine wpAny_pyNext_enum_itemD (Draws.tuple hin it a nie.symm its.toArray) he ⟨hit, p⟩ hxl hne (by simp [hne, nee]) fun u' h' tk hP' ho hit' hT hsz hk => ?_
    have eu : u' = u := by
      rw [List.getElem?_toArray, hu] at hP'
      exact (Option.some.inj hP').symm
    subst eu
    refine ⟨_, rfl, wpAny_letOwnedTupleGo_enum (s := { s with heap := h', toks := tk + 1 }) ho fun h'' he' sb => ?_⟩
    have hT2 : h''.get? s.heap.objs.size = some { cls := .type "tuple", data := .seq #[.int i tk, u'] } := (sb.2 _ (Nat.ne_of_gt hel)).trans hT
    have new : ObjOk X.prog X.w (upd H s.heap.objs.size (.tup [.int (i : Nat), x])) h'' s.heap.objs.size (.tup [.int (i : Nat), x]) :=
      ⟨by show 2 ≤ sizeLine; decide, [.int i tk, u'], .cons ⟨_, rfl⟩ (.cons ru .nil), ⟨_, hT2, rfl, _, rfl⟩⟩
    have I1 : Inv X pins σ (upd H s.heap.objs.size (.tup [.int (i : Nat), x])) { s with heap := h'', toks := tk + 1 } :=
      I.turnedNew (t' := tk + 1) (ch := [e, it]) (fun b ob hb q => (sb.2 b (fun z => hb (by simp [z]))).trans (hk b ob (fun z => hb (by simp [z])) (fun z => hb (by simp [z])) q)) hf (Nat.le_refl _) new
    refine ⟨.ref s.heap.objs.size, _, I1, rfl, ⟨_, x, rfl, I.hok.fresh (Nat.le_refl _), rfl, fun ys hy => by rw [I.tuple_inj hy hq]; exact hx⟩, ⟨⟨u', ?_⟩, hit'.1.at fun o q => (sb.2 it (Ne.symm hne)).trans q, hne⟩, fun b hb => ?_⟩
    · have e1 : ((i + 1 : Nat) : Int) = (i : Int) + 1 := by omega
      rw [e1]; exact he'
    · have hb' : b < s.heap.objs.size := by
        have e' : b = e ∨ b = it := by simpa using hb
        rcases e' with z | z
        · rw [z]; exact hel
        · rw [z]; exact hil
      rw [upd_ne (Nat.ne_of_lt hb')]
      exact (hf b hb).1
  done := by
    intro X hP hw hK hc i pins s σ H E I hf st hg
    subst hP hw hK
    obtain ⟨⟨old, he⟩, hit, hne⟩ := st
    obtain ⟨xs, hq, hx⟩ := hg
    obtain ⟨its, rv, p, hz⟩ := I.tuple hq
    obtain ⟨f0, f1, f2, f3, f4, f5⟩ := hf it (by simp)
    have hl := rv.length
    have hin : X.A.in1.handled = none := I.ok.hd hc
    have hT : s.TypeIs (.ref e) "enumerate" := ⟨_, he, rfl⟩
    unfold pyNext
    refine wpAny_bind (wpAny_attempt (wpAny_callSpecial?_slot (name := Str.ofString "__next__") hT F.slot_enumerate_next
      (wpAny_call_entry F.slot_enumerate_next hT F.entry_enumerate_next ?_ (F.args_enumerate_next_1 _))))
    show wpAny _ _ (field (.ref e) 2 >>= _) _ _ _
    refine wpAny_bind (wpAny_field he rfl (x := .ref it) rfl ?_)
    refine wpAny_bind (wpAny_nextOf_tuple_end hin hit p (by simp; omega) fun h' x he' hx' => ?_)
    obtain ⟨o, ho, hc'⟩ := hx'
    refine wpAny_bind (wpAny_isInstance (T := "StopIteration") (b := true) ⟨o, ho, hc'⟩ isSubtype_stop ?_)
    exact wpAny_pure ⟨rfl, I.turned (t' := s.toks) (fun b o hb q => he' b o hb q) f0 f1 f3 f4 f5⟩
  self := fun A i s Q E st h => let ⟨⟨_, he⟩, _⟩ := st; wpAny_pyIter_enum he h
def iEnum2 (K : PySem.W.Frag) (ta : TA) : TI := fun σ H R => ta σ H fun vs H1 => ∃ a, vs = [.ref a] ∧ ((∃ xs, SqL K H1 a xs) ∧ R (Ite K a) H1 ∨ (∃ xs, SqT K H1 a xs) ∧ R (IteT K a) H1)
theorem pi_enum2 {X : Cx} {e : Expr} {ta : TA} {p pos tpos : Pos} {elts : List Expr} {kk : Nat} (hg : Gl X "enumerate") (hm : X.mg "enumerate" = none) (ha : PA X [e] ta) (hs : starEach [e] X.env = [(false, eval e X.env)] := by rfl) :
    PI X (.Tuple elts kk tpos) (.Call (.Name "enumerate" p) [e] [] pos) (iEnum2 X.K ta) := by
  refine ⟨fun pins s σ H R I h => ?_⟩
  refine Call_ (ld_blt I hg hm boot_enumerate (PyProof.Rows.callWith_type1 (thn (ha.run pos pins s σ H _ I h) fun us s1 ⟨vs, H1, I1, r1, q1⟩ => ?_) hs rfl))
  obtain ⟨a, ex, q⟩ := q1
  subst ex
  cases r1 with
  | cons r rr =>
    cases rr
    cases r
    rcases q with ⟨⟨xs, hq⟩, q⟩ | ⟨⟨xs, hq⟩, q⟩
    · obtain ⟨its, rv, p', hz⟩ := I1.list hq
      refine call_enumerate_list p'.isList fun h' he hit hsz hk => wpAny_pyIter_enum he ?_
      have I2 : Inv X pins σ H1 { s1 with heap := h' } := I1.kept (t' := s1.toks) hk
      refine ⟨s1.heap.objs.size + 1, [s1.heap.objs.size + 1, s1.heap.objs.size], _, _, H1, rfl, I2, turn_enum a (s1.heap.objs.size + 1) s1.heap.objs.size, ⟨⟨.none, he⟩, hit, Nat.succ_ne_self _⟩, fun b hb => ?_, q⟩
      have e' : b = s1.heap.objs.size + 1 ∨ b = s1.heap.objs.size := by simpa using hb
      have hle : s1.heap.objs.size ≤ b := by
        rcases e' with z | z
        · rw [z]; exact Nat.le_add_right _ _
        · rw [z]; exact Nat.le_refl _
      exact I1.fpOk hle (I1.hok.fresh hle)
    · obtain ⟨its, rv, p', hz⟩ := I1.tuple hq
      refine call_enumerate_tuple p' fun h' he hit hsz hk => wpAny_pyIter_enum he ?_
      have I2 : Inv X pins σ H1 { s1 with heap := h' } := I1.kept (t' := s1.toks) hk
      refine ⟨s1.heap.objs.size + 1, [s1.heap.objs.size + 1, s1.heap.objs.size], _, _, H1, rfl, I2, turn_enumT a (s1.heap.objs.size + 1) s1.heap.objs.size, ⟨⟨.none, he⟩, hit, Nat.succ_ne_self _⟩, fun b hb => ?_, q⟩
      have e' : b = s1.heap.objs.size + 1 ∨ b = s1.heap.objs.size := by simpa using hb
      have hle : s1.heap.objs.size ≤ b := by
        rcases e' with z | z
        · rw [z]; exact Nat.le_add_right _ _
        · rw [z]; exact Nat.le_refl _
      exact I1.fpOk hle (I1.hok.fresh hle)
section
variable {K : PySem.W.Frag} {k : Kc} {g : Gs} {H : Hp}
theorem jok_enumT {a : Addr} {vs : List V} {ds : List D} (h : SqT K H a vs) (hw : (∀ o, H a = some o → g.w a = none)) (hr : RpL K k g.G ds vs) : JOk K k (IteT K a) (enumD 0 ds) g H where
  go := fun i e g2 H2 he x sb => by
    obtain ⟨d, hd, rfl⟩ := enumD_get ds 0 i e he
    obtain ⟨v, e1, h1⟩ := hr.at hd
    have h2 : SqT K H2 a vs := sqT_in (fun o ho => (x.fr a o ho (hw o ho)).1) h
    refine ⟨⟨vs, v, h2, e1⟩, fun y H3 hy => ?_⟩
    obtain ⟨T, u, ey, hT, e3, hy⟩ := hy
    subst ey e3
    have e4 := hy vs h2
    rw [e1] at e4
    cases e4
    refine ⟨g2.lay T (.tup [.int (i : Nat), v]), fun s sv R => R.lay hT, fun s sv R => Ext.lay R hT, T, [.int (i : Nat), v], rfl, SqT.of lay_at, .int (i : Nat), [v], rfl, ?_, v, [], rfl, ?_, rfl⟩
    · show V.int _ = V.int _
      simp
    · have sG : Sub g2.G (g2.lay T (.tup [.int (i : Nat), v])).G := fun b o e => by
        show upd g2.G T _ b = some o
        rw [upd_ne (ne_of_none (sb _ _ e) hT)]
        exact e
      exact Rp.mono sG d v (Rp.mono x.G d v h1)
  stop := fun g2 H2 x => ⟨vs, sqT_in (fun o ho => (x.fr a o ho (hw o ho)).1) h, by rw [enumD_length, hr.length]; exact Nat.le_refl _⟩
end
end VL
end
section
set_option maxRecDepth 100000
set_option maxHeartbeats 2000000
/-! VLA: operations that make new objects -/
namespace VL
open PySem PySem.Spec PyProof.Rows L2

/-- what stands behind an operation that may make objects -/
def KR (K : PySem.W.Frag) (k : Kc) (g : Gs) (s : List Cell) (sv : L2.St) (H : Hp) (res : Cell) (Q : VK) : Prop :=
  ∀ u g' H' t, Rel K k g' s sv H' → Ext g H g' H' → Own t g H g' H' → CV K k g' H' (fun p a => t a = some p) [] res u → Q u H'
section
variable {K : PySem.W.Frag} {k : Kc} {g : Gs} {s : List Cell} {sv : L2.St} {H : Hp} {Q : VK}
theorem KR.sh (R : Rel K k g s sv H) {d : D} (h : KR K k g s sv H (.sh d) Q) {v : V} (r : Rp K k g.G d v) : Q v H := h v g H (fun _ => none) R (Ext.refl _ _) own_none r
theorem KR.lst (R : Rel K k g s sv H) {ds : List D} (h : KR K k g s sv H (.ol ds) Q) {vs : List V} (r : RpL K k g.G ds vs) (p : Addr) (hp : H p = none) : Q (.ref p) (upd H p (.lst vs)) :=
  h (.ref p) g _ (new1 p) (R.grown (sub_upd hp)) (Ext.grown (sub_upd hp)) (Own.new R hp) (new_ol r)
theorem KR.tup (R : Rel K k g s sv H) {ds : List D} (h : KR K k g s sv H (.sh (.tup ds)) Q) {vs : List V} (r : RpL K k g.G ds vs) (p : Addr) (hp : H p = none) : Q (.ref p) (upd H p (.tup vs)) :=
  h (.ref p) (g.lay p (.tup vs)) _ (fun _ => none) (R.lay hp) (Ext.lay R hp) own_none ⟨p, vs, rfl, SqT.of lay_at, r.mono (Ext.lay R hp).G _ _⟩
end
abbrev OpN := Cell → Cell → Option Cell
structure R2N (K : PySem.W.Frag) (r : R2) (op : OpN) : Prop where
  run : ∀ (k : Kc) (g : Gs) (s : List Cell) (sv : L2.St) (H : Hp) (ow ow' : List Nat → Addr → Prop) (c c' res : Cell) (v v' : V) (Q : VK), Rel K k g s sv H → op c c' = some res → CV K k g H ow [] c v → CV K k g H ow' [] c' v' → KR K k g s sv H res Q → r v v' H Q
theorem R2N.of {K : PySem.W.Frag} {r : R2} {op : Op2} (S : R2S K r op) : R2N K r (fun a b => (op a b).map Cell.sh) := ⟨fun k g s sv H ow ow' c c' res v v' Q R e h h' q => by
  cases e1 : op c c' with
  | none => rw [e1] at e; cases e
  | some d =>
    rw [e1] at e
    cases e
    exact S.run k g H ow ow' c c' d v v' Q R.sub e1 h h' fun u hu => q.sh R hu⟩
theorem R2N.or {K : PySem.W.Frag} {r r' : R2} {op op' : OpN} (a : R2N K r op) (b : R2N K r' op') : R2N K (fun x y H Q => r x y H Q ∨ r' x y H Q) (fun c c' => (op c c').or (op' c c')) := ⟨fun k g s sv H ow ow' c c' res v v' Q R e h h' q => by
  cases e1 : op c c' with
  | none =>
    simp only [e1, Option.none_or] at e
    exact .inr (b.run k g s sv H ow ow' c c' res v v' Q R e h h' q)
  | some d =>
    simp only [e1, Option.some_or] at e
    cases e
    exact .inl (a.run k g s sv H ow ow' c c' _ v v' Q R e1 h h' q)⟩
/-- of values, of quiet operands -/
def cOpV (op : OpN) (da db : DV) : DC := fun s => (da s).bind fun a s1 => (db s1).bind fun b s2 => optO (op (.sh a) (.sh b)) s2
def cOpQ (op : OpN) (da db : DQ) : DC := fun s => match da s, db s with
  | some a, some b => optO (op a b) s
  | _, _ => .bad
section
variable {X : Cx} {k : Kc} {a b c : Expr} {pos : Pos} {ra rb : Nat} {r : R2} {op : OpN}
theorem tOpN_v {W : WX} {sv : L2.St} {H : Hp} {Q : VK} {da db : DV} (S : R2N X.K r op) (h : tC X.K k W (cOpV op da db) sv H Q) : tOp r (tV X.K k W da) (tV X.K k W db) sv H Q := by
  obtain ⟨g, s, R, m⟩ := h
  refine ⟨g, s, R, ?_⟩
  unfold cOpV at m
  cases e1 : da s with
  | bad => rw [e1] at m; exact m
  | ex e' s' => rw [e1] at m; exact m
  | ok d s1 =>
    rw [e1, O.bind_ok] at m
    intro v g1 H1 R1 x1 hv
    refine ⟨g1, s1, R1, ?_⟩
    cases e2 : db s1 with
    | bad => rw [e2] at m; exact m
    | ex e' s' => rw [e2] at m; exact exW.later x1 m
    | ok d2 s2 =>
      rw [e2, O.bind_ok] at m
      intro v2 g2 H2 R2 x2 hv2
      cases e3 : op (.sh d) (.sh d2) with
      | none => rw [e3] at m; exact m.elim
      | some res =>
        rw [e3] at m
        exact S.run k g2 s2 sv H2 (fun _ _ => False) (fun _ _ => False) (.sh d) (.sh d2) res v v2 Q R2 e3 (Rp.mono x2.G d v hv) hv2 fun u g' H' t R' x' o hu => m u g' H' t R' ((x1.trans x2).trans x') (o.later (x1.trans x2)) hu
theorem tOpN_q {W : WX} {sv : L2.St} {H : Hp} {Q : VK} {da db : DQ} (S : R2N X.K r op) (h : tC X.K k W (cOpQ op da db) sv H Q) : tOp r (tQ X.K k ra da) (tQ X.K k rb db) sv H Q := by
  obtain ⟨g, s, R, m⟩ := h
  refine ⟨g, s, R, ?_⟩
  unfold cOpQ at m
  cases e1 : da s with
  | none => simp only [e1] at m
  | some d =>
    intro v hv
    refine ⟨g, s, R, ?_⟩
    cases e2 : db s with
    | none => simp only [e1, e2] at m
    | some d2 =>
      intro v2 hv2
      simp only [e1, e2] at m
      cases e3 : op d d2 with
      | none => rw [e3] at m; exact m.elim
      | some res =>
        rw [e3] at m
        exact S.run k g s sv H _ _ d d2 res v v2 Q R e3 hv hv2 m
theorem c_binV {o : Operator} {da db : DV} (ho : OpR X (binaryOp o) r) (S : R2N X.K r op) (ha : SV X k a da) (hb : SV X k b db) : SC X k (.BinOp a o b pos) (cOpV op da db) := ⟨fun W tk => (pe_op ho (ha.run W tk) (hb.run W tk)).imp fun _ _ _ h => tOpN_v S h⟩
theorem c_binQ {o : Operator} {da db : DQ} (ho : OpR X (binaryOp o) r) (S : R2N X.K r op) (ha : SQ X k ra a da) (hb : SQ X k rb b db) : SC X k (.BinOp a o b pos) (cOpQ op da db) := ⟨fun W tk => (pe_op ho ha.run hb.run).imp fun _ _ _ h => tOpN_q S h⟩
end
/-! ### +, * -/
def lstC : Cell → Option (List D)
  | .sh (.lst ds) => some ds
  | .ol ds => some ds
  | _ => none
theorem lstC_ok {K : PySem.W.Frag} {k : Kc} {g : Gs} {H : Hp} {ow : List Nat → Addr → Prop} {c : Cell} {ds : List D} {v : V} {p : List Nat} (sb : Sub g.G H) (e : lstC c = some ds) (h : CV K k g H ow p c v) : ∃ a vs, v = .ref a ∧ H a = some (.lst vs) ∧ RpL K k g.G ds vs := by
  cases c with
  | sh d =>
    cases d with
    | lst es =>
      cases e
      obtain ⟨a, vs, e1, e2, r⟩ := h
      exact ⟨a, vs, e1, sb _ _ e2, r⟩
    | _ => cases e
  | ol es =>
    cases e
    obtain ⟨a, vs, e1, _, e2, r⟩ := h
    exact ⟨a, vs, e1, e2, r⟩
  | _ => cases e
def oCatL : OpN := fun a b => match lstC a, lstC b with
  | some x, some y => if x.length + y.length ≤ 16777216 then some (.ol (x ++ y)) else none
  | _, _ => none
theorem r2_cat {K : PySem.W.Frag} : R2N K rCat oCatL := ⟨fun k g s sv H ow ow' c c' res v v' Q R e h h' q => by
  unfold oCatL at e
  cases e1 : lstC c with
  | none => simp only [e1] at e; cases e
  | some x =>
    cases e2 : lstC c' with
    | none => simp only [e1, e2] at e; cases e
    | some y =>
      simp only [e1, e2] at e
      split at e
      · rename_i hl
        cases e
        obtain ⟨a, vs, rfl, ha, ra⟩ := lstC_ok R.sub e1 h
        obtain ⟨b, ws, rfl, hb, rb⟩ := lstC_ok R.sub e2 h'
        exact ⟨a, b, vs, ws, rfl, rfl, ha, hb, by rw [sizeLine_eq, ← ra.length, ← rb.length]; exact hl, fun p hp => q.lst R (ra.append rb) p hp⟩
      · cases e⟩
def oCatT : OpN := fun a b => match a, b with
  | .sh (.tup x), .sh (.tup y) => if x.length + y.length ≤ 16777216 then some (.sh (.tup (x ++ y))) else none
  | _, _ => none
theorem r2_catT {K : PySem.W.Frag} : R2N K (rCatA K) oCatT := ⟨fun k g s sv H ow ow' c c' res v v' Q R e h h' q => by
  unfold oCatT at e
  split at e
  · rename_i x y
    split at e
    · rename_i hl
      cases e
      obtain ⟨a, vs, rfl, ha, ra⟩ := h
      obtain ⟨b, ws, rfl, hb, rb⟩ := h'
      refine ⟨a, b, vs, ws, rfl, rfl, R.sub.seqT ha, R.sub.seqT hb, by rw [sizeLine_eq, ← ra.length, ← rb.length]; exact hl, fun z => ?_, fun _ z => ?_, fun _ _ p hp => q.tup R (ra.append rb) p hp⟩
      · subst z
        have : x = [] := List.length_eq_zero_iff.mp ra.length
        subst this
        exact q.sh R ⟨b, ws, rfl, hb, rb⟩
      · subst z
        have : y = [] := List.length_eq_zero_iff.mp rb.length
        subst this
        rw [List.append_nil] at q
        exact q.sh R ⟨a, vs, rfl, ha, ra⟩
    · cases e
  · cases e⟩
def oCatS : Op2 := fun a b => match a, b with
  | .sh (.str x), .sh (.str y) => if x.length + y.length ≤ 16777216 then some (.str (x ++ y)) else none
  | _, _ => none
theorem r2_catS {K : PySem.W.Frag} : R2S K (fun x y H Q => ∃ i j, x = .str i ∧ y = .str j ∧ i.length + j.length ≤ sizeLine ∧ Q (.str (i ++ j)) H) oCatS := ⟨fun k g H ow ow' c c' d v v' Q sb e h h' q => by
  unfold oCatS at e
  split at e
  · rename_i x y
    split at e
    · rename_i hl
      cases e
      exact ⟨x, y, h, h', by rw [sizeLine_eq]; exact hl, q _ rfl⟩
    · cases e
  · cases e⟩
def oRepL : OpN := fun a b => match lstC a, b with
  | some x, .sh (.int n) => if n < 16777216 ∧ -16777216 ≤ n ∧ x.length * n.toNat ≤ 16777216 then some (.ol (List.replicate n.toNat x).flatten) else none
  | _, _ => none
theorem RpL.rep {K : PySem.W.Frag} {k : Kc} {G : Hp} {ds : List D} {vs : List V} (h : RpL K k G ds vs) : ∀ n, RpL K k G (List.replicate n ds).flatten (List.replicate n vs).flatten
  | 0 => rfl
  | n + 1 => by
    rw [List.replicate_succ, List.replicate_succ, List.flatten_cons, List.flatten_cons]
    exact h.append (RpL.rep h n)
theorem r2_rep {K : PySem.W.Frag} : R2N K rRep oRepL := ⟨fun k g s sv H ow ow' c c' res v v' Q R e h h' q => by
  unfold oRepL at e
  split at e
  · rename_i x n e1
    split at e
    · rename_i hl
      cases e
      obtain ⟨a, vs, rfl, ha, ra⟩ := lstC_ok R.sub e1 h
      exact ⟨a, n, vs, rfl, h', ha, by omega, by omega, by rw [sizeLine_eq, ← ra.length]; exact hl.2.2, fun p hp => q.lst R (ra.rep _) p hp⟩
    · cases e
  · cases e⟩

/-! ### slices -/
abbrev OpS := Cell → Option Int → Option Int → Option Cell
structure SlN (K : PySem.W.Frag) (r : V → Option Int → Option Int → Hp → VK → Prop) (op : OpS) : Prop where
  run : ∀ (k : Kc) (g : Gs) (s : List Cell) (sv : L2.St) (H : Hp) (ow : List Nat → Addr → Prop) (c res : Cell) (lo hi : Option Int) (v : V) (Q : VK), Rel K k g s sv H → op c lo hi = some res → CV K k g H ow [] c v → KR K k g s sv H res Q → r v lo hi H Q
def cutD (ds : List D) (lo hi : Option Int) : List D := (ds.drop (HT.sIx ds.length 0 lo)).take (HT.sIx ds.length ds.length hi - HT.sIx ds.length 0 lo)
theorem cut_rp {K : PySem.W.Frag} {k : Kc} {G : Hp} {ds : List D} {vs : List V} (h : RpL K k G ds vs) (lo hi : Option Int) : RpL K k G (cutD ds lo hi) (cutV vs lo hi) := by
  unfold cutD cutV
  rw [h.length]
  exact (h.drop _).take _
def oSl : OpS := fun c lo hi => match c with
  | .sh (.str z) => if z.length ≤ 16777216 then some (.sh (.str (cutS z lo hi))) else none
  | .sh (.tup ds) => some (.sh (.tup (cutD ds lo hi)))
  | .sh (.lst ds) => some (.ol (cutD ds lo hi))
  | .ol ds => some (.ol (cutD ds lo hi))
  | .bl ds => some (.ol (cutD ds lo hi))
  | _ => none
abbrev rSl3 (K : PySem.W.Frag) : V → Option Int → Option Int → Hp → VK → Prop := fun x lo hi H Q => rSlS x lo hi H Q ∨ (rSlA K x lo hi H Q ∨ rSlL K x lo hi H Q)
theorem sl3 {X : Cx} : SlR X (rSl3 X.K) := SlR.or sl_str (SlR.or sl_tupA sl_list)
theorem sIx_le (n : Nat) (lo : Option Int) : HT.sIx n 0 lo ≤ n := by
  unfold HT.sIx
  cases lo with
  | none => simp
  | some i =>
    simp only
    split <;> omega
theorem sIx_le2 (n : Nat) (lo : Option Int) : HT.sIx n n lo ≤ n := by
  unfold HT.sIx
  cases lo with
  | none => simp
  | some i =>
    simp only
    split <;> omega
theorem cutD_whole {ds : List D} {lo hi : Option Int} (h1 : HT.sIx ds.length 0 lo = 0) (h2 : HT.sIx ds.length ds.length hi = ds.length) : cutD ds lo hi = ds := by
  unfold cutD
  rw [h1, h2]
  simp
theorem sl_n {K : PySem.W.Frag} : SlN K (rSl3 K) oSl := ⟨fun k g s sv H ow c res lo hi v Q R e h q => by
  unfold oSl at e
  split at e
  · rename_i z
    split at e
    · rename_i hz
      cases e
      exact .inl ⟨z, h, by rw [sizeLine_eq]; exact hz, q.sh R rfl⟩
    · cases e
  · rename_i ds
    cases e
    obtain ⟨a, vs, rfl, ha, ra⟩ := h
    refine .inr (.inl ⟨a, vs, rfl, R.sub.seqT ha, fun z => ?_, fun _ p hp => q.tup R (cut_rp ra lo hi) p hp⟩)
    rw [cutD_whole (by rw [ra.length]; exact z.1) (by rw [ra.length]; exact z.2)] at q
    exact q.sh R ⟨a, vs, rfl, ha, ra⟩
  · rename_i ds
    cases e
    obtain ⟨a, vs, rfl, ha, ra⟩ := h
    exact .inr (.inr ⟨a, vs, rfl, SqL.of (R.sub _ _ ha), fun p hp => q.lst R (cut_rp ra lo hi) p hp⟩)
  · rename_i ds
    cases e
    obtain ⟨a, vs, rfl, _, ha, ra⟩ := h
    exact .inr (.inr ⟨a, vs, rfl, SqL.of ha, fun p hp => q.lst R (cut_rp ra lo hi) p hp⟩)
  · rename_i ds
    cases e
    obtain ⟨a, vs, rfl, _, ha, ra⟩ := h
    exact .inr (.inr ⟨a, vs, rfl, ha, fun p hp => q.lst R (cut_rp ra lo hi) p hp⟩)
  · cases e⟩
/-- a slice's bound -/
abbrev DB := List Cell → O (Option Int)
def tB (K : PySem.W.Frag) (k : Kc) (W : WX) (db : DB) : TO := fun sv H Q => ∃ g s, Rel K k g s sv H ∧ match db s with
  | .ok i s' => ∀ g' H', Rel K k g' s' sv H' → Ext g H g' H' → Q i H'
  | .ex e s' => exW K k W g H e s'
  | .bad => False
structure SB (X : Cx) (k : Kc) (e : Option Expr) (db : DB) : Prop where
  run : ∀ W, Takes X W → PO X e (tB X.K k W db)
def bNone : DB := fun s => .ok none s
def bSome (dv : DV) : DB := fun s => (dv s).bind fun d s1 => match d with
  | .int i => .ok (some i) s1
  | _ => .bad
theorem _root_.L2.PO.imp {X : Cx} {e : Option Expr} {t t' : TO} (h : PO X e t) (i : ∀ sv H Q, t' sv H Q → t sv H Q) : PO X e t' := ⟨fun pins s sv H Q I hw => h.run pins s sv H Q I (i _ _ _ hw)⟩
section
variable {X : Cx} {k : Kc} {e : Expr} {lo hi : Option Expr} {pos p2 : Pos} {ra : Nat}
theorem b_none : SB X k none bNone := ⟨fun W _ => po_none.imp fun sv H Q h => by
  obtain ⟨g, s, R, m⟩ := h
  exact m g H R (Ext.refl _ _)⟩
theorem b_some {dv : DV} (h : SV X k e dv) : SB X k (some e) (bSome dv) := ⟨fun W tk => (po_some (h.run W tk)).imp fun sv H Q h => by
  obtain ⟨g, s, R, m⟩ := h
  refine ⟨g, s, R, ?_⟩
  unfold bSome at m
  cases e1 : dv s with
  | bad => rw [e1] at m; exact m
  | ex e' s' => rw [e1] at m; exact m
  | ok d s1 =>
    rw [e1, O.bind_ok] at m
    intro v g1 H1 R1 x1 hv
    cases d with
    | int i => exact ⟨i, hv, m g1 H1 R1 x1⟩
    | _ => exact m.elim⟩
/-- of a value -/
def cSlV (dv : DV) (dl dh : DB) : DC := fun s => (dv s).bind fun d s1 => (dl s1).bind fun l s2 => (dh s2).bind fun h s3 => optO (oSl (.sh d) l h) s3
theorem c_slV {dv : DV} {dl dh : DB} (he : SV X k e dv) (hl : SB X k lo dl) (hh : SB X k hi dh) : SC X k (.Subscript e (.Slice lo hi none p2) pos) (cSlV dv dl dh) := ⟨fun W tk => (pe_slice sl3 (he.run W tk) (hl.run W tk) (hh.run W tk)).imp fun sv H Q h => by
  obtain ⟨g, s, R, m⟩ := h
  refine ⟨g, s, R, ?_⟩
  unfold cSlV at m
  cases e1 : dv s with
  | bad => rw [e1] at m; exact m
  | ex e' s' => rw [e1] at m; exact m
  | ok d s1 =>
    rw [e1, O.bind_ok] at m
    intro v g1 H1 R1 x1 hv
    refine ⟨g1, s1, R1, ?_⟩
    cases e2 : dl s1 with
    | bad => rw [e2] at m; exact m
    | ex e' s' => rw [e2] at m; exact exW.later x1 m
    | ok l s2 =>
      rw [e2, O.bind_ok] at m
      intro g2 H2 R2 x2
      refine ⟨g2, s2, R2, ?_⟩
      cases e3 : dh s2 with
      | bad => rw [e3] at m; exact m
      | ex e' s' => rw [e3] at m; exact exW.later (x1.trans x2) m
      | ok u s3 =>
        rw [e3, O.bind_ok] at m
        intro g3 H3 R3 x3
        cases e4 : oSl (.sh d) l u with
        | none => rw [e4] at m; exact m.elim
        | some res =>
          rw [e4] at m
          exact sl_n.run k g3 s3 sv H3 (fun _ _ => False) (.sh d) res l u v Q R3 e4 (Rp.mono (x2.trans x3).G d v hv) fun u g' H' t R' x' o hu => m u g' H' t R' ((x1.trans (x2.trans x3)).trans x') (o.later (x1.trans (x2.trans x3))) hu⟩
/-- of a slot's list that stays owned: the bounds are read ahead, and leave the slot as it is -/
def cSlN (i : Nat) (dl dh : DB) : DC := fun s => match s[i]? with
  | none => .bad
  | some .un => .bad
  | _ => (dl s).bind fun l s2 => (dh s2).bind fun h s3 => match s3[i]? with
    | some c' => optO (oSl c' l h) s3
    | none => .bad
theorem oSl_un {c : Cell} {l h : Option Int} {r : Cell} (e : oSl c l h = some r) : c ≠ .un := fun z => by rw [z] at e; cases e
theorem c_slN {i : Nat} {x : Str} {px : Pos} {dl dh : DB} (hl : SB X k lo dl) (hh : SB X k hi dh) (hN : X.N[i]? = some x := by rfl) (hv : Vis X.env.scope x := by first | exact Or.inl rfl | exact Or.inr (Or.inl rfl) | exact Or.inr (Or.inr rfl)) (hd : (x == ("__debug__" : Str)) = false := by decide)
    (hcd : (x == ("__classdict__" : Str)) = false := by decide) : SC X k (.Subscript (.Name x px) (.Slice lo hi none p2) pos) (cSlN i dl dh) := ⟨fun W tk => (pe_slice sl3 (pe_var hN hv hd hcd) (hl.run W tk) (hh.run W tk)).imp fun sv H Q h => by
  obtain ⟨g, s, R, m⟩ := h
  unfold cSlN at m
  cases e0 : s[i]? with
  | none => simp only [e0] at m
  | some c =>
    have hc : c ≠ .un := fun z => by subst z; simp only [e0] at m
    have m : match (dl s).bind fun l s2 => (dh s2).bind fun h s3 => match s3[i]? with
        | some c' => optO (oSl c' l h) s3
        | none => .bad with
      | .ok c s' => ∀ v g' H' t, Rel X.K k g' s' sv H' → Ext g H g' H' → Own t g H g' H' → CV X.K k g' H' (fun p a => t a = some p) [] c v → Q v H'
      | .ex e s' => exW X.K k W g H e s'
      | .bad => False := by
      simp only [e0] at m
      cases c <;> first | exact absurd rfl hc | exact m
    obtain ⟨v, ev, _⟩ := R.cel i c e0 hc
    refine ⟨v, ev, g, s, R, ?_⟩
    cases e2 : dl s with
    | bad => rw [e2] at m; exact m
    | ex e' s' => rw [e2] at m; exact m
    | ok l s2 =>
      rw [e2, O.bind_ok] at m
      intro g2 H2 R2 x2
      refine ⟨g2, s2, R2, ?_⟩
      cases e3 : dh s2 with
      | bad => rw [e3] at m; exact m
      | ex e' s' => rw [e3] at m; exact exW.later x2 m
      | ok u s3 =>
        rw [e3, O.bind_ok] at m
        intro g3 H3 R3 x3
        cases e4 : s3[i]? with
        | none => rw [e4] at m; exact m.elim
        | some c' =>
          rw [e4] at m
          cases e5 : oSl c' l u with
          | none => simp only [e5] at m; exact m.elim
          | some res =>
            simp only [e5] at m
            obtain ⟨v', e6, hv'⟩ := R3.cel i c' e4 (oSl_un e5)
            rw [ev] at e6
            cases e6
            exact sl_n.run k g3 s3 sv H3 _ c' res l u v Q R3 e5 hv' fun u g' H' t R' x' o hu => m u g' H' t R' ((x2.trans x3).trans x') (o.later (x2.trans x3)) hu⟩
end
/-! ### list(x), tuple(x), str(i), int(text) -/
section
variable {X : Cx} {k : Kc} {a e o : Expr} {p pos apos : Pos} {ra rb : Nat} {r : List V → Hp → VK → Prop}
structure C1N (K : PySem.W.Frag) (r : List V → Hp → VK → Prop) (op : Cell → Option Cell) : Prop where
  run : ∀ (k : Kc) (g : Gs) (s : List Cell) (sv : L2.St) (H : Hp) (ow : List Nat → Addr → Prop) (c res : Cell) (v : V) (Q : VK), Rel K k g s sv H → op c = some res → CV K k g H ow [] c v → KR K k g s sv H res Q → r [v] H Q
def c1V (op : Cell → Option Cell) (da : DV) : DC := fun s => (da s).bind fun a s1 => optO (op (.sh a)) s1
def c1Q (op : Cell → Option Cell) (da : DQ) : DC := fun s => match da s with
  | some a => optO (op a) s
  | none => .bad
theorem t1N_v {op : Cell → Option Cell} {W : WX} {sv : L2.St} {H : Hp} {Q : VK} {da : DV} (S : C1N X.K r op) (h : tC X.K k W (c1V op da) sv H Q) : tCB r (tCons (tV X.K k W da) tNil) sv H Q := by
  obtain ⟨g, s, R, m⟩ := h
  refine ⟨g, s, R, ?_⟩
  unfold c1V at m
  cases e1 : da s with
  | bad => rw [e1] at m; exact m
  | ex e' s' => rw [e1] at m; exact m
  | ok d s1 =>
    rw [e1, O.bind_ok] at m
    intro v g1 H1 R1 x1 hv
    cases e3 : op (.sh d) with
    | none => rw [e3] at m; exact m.elim
    | some res =>
      rw [e3] at m
      exact S.run k g1 s1 sv H1 (fun _ _ => False) (.sh d) res v Q R1 e3 hv fun u g' H' t R' x' o hu => m u g' H' t R' (x1.trans x') (o.later x1) hu
theorem t1N_q {op : Cell → Option Cell} {W : WX} {sv : L2.St} {H : Hp} {Q : VK} {da : DQ} (S : C1N X.K r op) (h : tC X.K k W (c1Q op da) sv H Q) : tCB r (tCons (tQ X.K k ra da) tNil) sv H Q := by
  obtain ⟨g, s, R, m⟩ := h
  refine ⟨g, s, R, ?_⟩
  unfold c1Q at m
  cases e1 : da s with
  | none => simp only [e1] at m
  | some d =>
    simp only [e1] at m
    intro v hv
    cases e3 : op d with
    | none => rw [e3] at m; exact m.elim
    | some res =>
      rw [e3] at m
      exact S.run k g s sv H _ d res v Q R e3 hv m
theorem c_callTV {T : String} {x : Str} {op : Cell → Option Cell} {da : DV} (hc : CallR X (.type T) r) (S : C1N X.K r op) (hm : X.mg x = none) (hv : bootBuiltins x = some (.type T)) (ha : SV X k a da) (hg : Gl X x := by rfl) (hn : x ≠ "__name__" := by decide) (hdb : (x == ("__debug__" : Str)) = false := by decide)
    (he : starEach [a] X.env = (false, eval a X.env) :: starEach [] X.env := by rfl) (hpl : (backTo pos (starEach [] X.env)).any (·.1) = false := by rfl) : SC X k (.Call (.Name x p) [a] [] pos) (c1V op da) :=
  ⟨fun W tk => (pe_callTy hc hg hm hv (pa_cons (ha.run W tk) pa_nil he) hn hdb he hpl).imp fun _ _ _ h => t1N_v S h⟩
theorem c_callTQ {T : String} {x : Str} {op : Cell → Option Cell} {da : DQ} (hc : CallR X (.type T) r) (S : C1N X.K r op) (hm : X.mg x = none) (hv : bootBuiltins x = some (.type T)) (ha : SQ X k ra a da) (hg : Gl X x := by rfl) (hn : x ≠ "__name__" := by decide) (hdb : (x == ("__debug__" : Str)) = false := by decide)
    (he : starEach [a] X.env = (false, eval a X.env) :: starEach [] X.env := by rfl) (hpl : (backTo pos (starEach [] X.env)).any (·.1) = false := by rfl) : SC X k (.Call (.Name x p) [a] [] pos) (c1Q op da) :=
  ⟨fun W tk => (pe_callTy hc hg hm hv (pa_cons ha.run pa_nil he) hn hdb he hpl).imp fun _ _ _ h => t1N_q S h⟩
def oList : Cell → Option Cell := fun c => (its c).map Cell.ol
theorem c1_list : C1N X.K (fun xs H Q => ∃ p ys, xs = [.ref p] ∧ (SqL X.K H p ys ∨ SqT X.K H p ys) ∧ ∀ l, H l = none → Q (.ref l) (upd H l (.lst ys))) oList := ⟨fun k g s sv H ow c res v Q R e h q => by
  unfold oList at e
  cases e1 : its c with
  | none => rw [e1] at e; cases e
  | some ds =>
    rw [e1] at e
    cases e
    obtain ⟨a, vs, rfl, h1, h2⟩ := CV.its R.sub e1 h
    exact ⟨a, vs, rfl, h1, fun l hl => q.lst R h2 l hl⟩⟩
def oTuple : Cell → Option Cell := fun c => match c with
  | .sh (.tup ds) => some (.sh (.tup ds))
  | .sh (.lst ds) => some (.sh (.tup ds))
  | .ol ds => some (.sh (.tup ds))
  | .bl ds => some (.sh (.tup ds))
  | _ => none
theorem c1_tuple : C1N X.K (fun xs H Q => ∃ p ys, xs = [.ref p] ∧ ((SqL X.K H p ys ∧ ∀ l, H l = none → Q (.ref l) (upd H l (.tup ys))) ∨ (SqT X.K H p ys ∧ Q (.ref p) H))) oTuple := ⟨fun k g s sv H ow c res v Q R e h q => by
  unfold oTuple at e
  split at e
  · cases e
    obtain ⟨a, vs, rfl, h1, h2⟩ := h
    exact ⟨a, vs, rfl, .inr ⟨R.sub.seqT h1, q.sh R ⟨a, vs, rfl, h1, h2⟩⟩⟩
  · cases e
    obtain ⟨a, vs, rfl, h1, h2⟩ := h
    exact ⟨a, vs, rfl, .inl ⟨SqL.of (R.sub _ _ h1), fun l hl => q.tup R h2 l hl⟩⟩
  · cases e
    obtain ⟨a, vs, rfl, _, h1, h2⟩ := h
    exact ⟨a, vs, rfl, .inl ⟨SqL.of h1, fun l hl => q.tup R h2 l hl⟩⟩
  · cases e
    obtain ⟨a, vs, rfl, _, h1, h2⟩ := h
    exact ⟨a, vs, rfl, .inl ⟨h1, fun l hl => q.tup R h2 l hl⟩⟩
  · cases e⟩
def oIntT : Op1 := fun c => match c with
  | .sh (.str z) => if z.length ≤ 640 then (PySem.intText? z).map D.int else none
  | _ => none
theorem c1_intT : C1S X.K (fun xs H Q => ∃ a n, xs = [.str a] ∧ PySem.intText? a = some n ∧ a.length ≤ 640 ∧ Q (.int n) H) oIntT := ⟨fun k g H ow c d v Q sb e h q => by
  unfold oIntT at e
  split at e
  · rename_i z
    split at e
    · rename_i hz
      cases e1 : PySem.intText? z with
      | none => rw [e1] at e; cases e
      | some n =>
        rw [e1] at e
        cases e
        exact ⟨z, n, by rw [show v = .str z from h], e1, hz, q _ rfl⟩
    · cases e
  · cases e⟩
/-! ### a.split(b), a.join(xs) -/
def cSplit (da db : DV) : DC := fun s => (da s).bind fun a s1 => match a with
  | .str x => (db s1).bind fun b s2 => match b with
    | .str y => if (y.length == 0) = false ∧ x.length + 2 ≤ 16777216 then .ok (.ol ((Txt.split x y).map D.str)) s2 else .bad
    | _ => .bad
  | _ => .bad
theorem RpL.strs {K : PySem.W.Frag} {k : Kc} {G : Hp} : ∀ (ns : List Str), RpL K k G (ns.map D.str) (ns.map V.str)
  | [] => rfl
  | n :: ns => ⟨_, _, rfl, rfl, RpL.strs ns⟩
theorem RpL.strs_inv {K : PySem.W.Frag} {k : Kc} {G : Hp} : ∀ {ns : List Str} {vs : List V}, RpL K k G (ns.map D.str) vs → vs = ns.map V.str
  | [], _, h => h
  | n :: ns, _, h => by
    obtain ⟨v, w, e, a, b⟩ := h
    have a : v = .str n := a
    rw [e, a, RpL.strs_inv b]
    rfl
theorem c_split {da db : DV} (ha : SV X k o da) (hb : SV X k e db) (hs : starEach [e] X.env = [(false, eval e X.env)] := by rfl) (hbase : attributeBase o "split" X.env (eval o X.env) = eval o X.env := by rfl) (hline : (apos.endLine == pos.line) = true := by rfl) :
    SC X k (.Call (.Attribute o "split" apos) [e] [] pos) (cSplit da db) := ⟨fun W tk => (pe_split (ha.run W tk) (hb.run W tk) hs hbase hline).imp fun sv H Q h => by
  obtain ⟨g, s, R, m⟩ := h
  refine ⟨g, s, R, ?_⟩
  unfold cSplit at m
  cases e1 : da s with
  | bad => rw [e1] at m; exact m
  | ex e' s' => rw [e1] at m; exact m
  | ok d s1 =>
    rw [e1, O.bind_ok] at m
    intro v g1 H1 R1 x1 hv
    cases d with
    | str x =>
      refine ⟨⟨x, hv⟩, g1, s1, R1, ?_⟩
      cases e2 : db s1 with
      | bad => simp only [e2, O.bind_bad] at m
      | ex e' s' => simp only [e2, O.bind_ex] at m; exact exW.later x1 m
      | ok d2 s2 =>
        simp only [e2, O.bind_ok] at m
        intro v2 g2 H2 R2 x2 hv2
        cases d2 with
        | str y =>
          simp only at m
          by_cases hc : (y.length == 0) = false ∧ x.length + 2 ≤ 16777216
          · rw [if_pos hc] at m
            refine ⟨x, y, hv, by rw [show v2 = .str y from hv2], hc.1, by rw [sizeLine_eq]; exact hc.2, fun p hp => ?_⟩
            exact KR.lst (K := X.K) (k := k) (ds := (Txt.split x y).map D.str) R2 (fun u g' H' t R' x' o hu => m u g' H' t R' ((x1.trans x2).trans x') (o.later (x1.trans x2)) hu) (RpL.strs _) p hp
          · rw [if_neg hc] at m
            exact m.elim
        | _ => exact m.elim
    | _ => exact m.elim⟩
def allStr : List D → Option (List Str)
  | [] => some []
  | .str x :: ds => (allStr ds).map (x :: ·)
  | _ => none
theorem allStr_ok : ∀ {ds : List D} {ys : List Str}, allStr ds = some ys → ds = ys.map D.str
  | [], ys, h => by cases h; rfl
  | d :: ds, ys, h => by
    cases d with
    | str x =>
      unfold allStr at h
      cases e : allStr ds with
      | none => rw [e] at h; cases h
      | some zs =>
        rw [e] at h
        cases h
        rw [allStr_ok e]
        rfl
    | _ => cases h
def vJoin (z : Str) (db : DV) : DV := fun s => (db s).bind fun b s1 => match its (.sh b) with
  | some ds => match allStr ds with
    | some ys => if (ys.map (·.length)).sum + ys.length * z.length ≤ 16777216 then .ok (.str (Txt.join z ys)) s1 else .bad
    | none => .bad
  | none => .bad
theorem v_join {z : Str} {jj : Nat} {pz : Pos} {db : DV} (hb : SV X k e db) (hs : starEach [e] X.env = [(false, eval e X.env)] := by rfl) (hbase : attributeBase (.Constant (.str z) jj pz) "join" X.env (eval (.Constant (.str z) jj pz) X.env) = eval (.Constant (.str z) jj pz) X.env := by rfl) (hline : (apos.endLine == pos.line) = true := by rfl) :
    SV X k (.Call (.Attribute (.Constant (.str z) jj pz) "join" apos) [e] [] pos) (vJoin z db) := ⟨fun W tk => (pe_join pe_str (hb.run W tk) hs hbase hline).imp fun sv H Q h => by
  obtain ⟨g, s, R, m⟩ := h
  refine ⟨⟨z, rfl⟩, g, s, R, ?_⟩
  unfold vJoin at m
  cases e1 : db s with
  | bad => rw [e1] at m; exact m
  | ex e' s' => rw [e1] at m; exact m
  | ok d s1 =>
    rw [e1, O.bind_ok] at m
    intro v g1 H1 R1 x1 hv
    cases e2 : its (.sh d) with
    | none => rw [e2] at m; exact m.elim
    | some ds =>
      simp only [e2] at m
      cases e3 : allStr ds with
      | none => rw [e3] at m; exact m.elim
      | some ys =>
        simp only [e3] at m
        by_cases hc : (ys.map (·.length)).sum + ys.length * z.length ≤ 16777216
        · rw [if_pos hc] at m
          obtain ⟨a, vs, rfl, h1, h2⟩ := CV.its (ow := fun _ _ => False) (p := []) R1.sub e2 (show CV X.K k g1 H1 (fun _ _ => False) [] (.sh d) v from hv)
          have ed := allStr_ok e3
          subst ed
          have ev := RpL.strs_inv h2
          subst ev
          exact ⟨z, a, ys, rfl, rfl, h1, hc, m _ g1 H1 R1 x1 rfl⟩
        · rw [if_neg hc] at m
          exact m.elim⟩
end
end VL
end
section
set_option maxRecDepth 100000
set_option maxHeartbeats 4000000
/-! VLX: an own exception class whose __init__ is super().__init__('..'); self.f = f -/
namespace PySem
namespace SupX
open PySem.W PySem.Calls PyProof.Rows PySem.HandSPX
/-- the text of __init__ -/
def iA (f : Str) (p1 p2 : Pos) : Arguments := { posonlyargs := [], args := [{ arg := "self", annotation := none, pos := p1 }, { arg := f, annotation := none, pos := p2 }], vararg := none, kwonlyargs := [], kw_defaults := [], kwarg := none, defaults := [] }
def iB (f txt : Str) (j : Nat) (q1 q2 q3 q4 q5 q6 r1 r2 r3 r4 : Pos) : List Stmt :=
  [.Expr (.Call (.Attribute (.Call (.Name "super" q1) [] [] q2) "__init__" q3) [.Constant (.str txt) j q4] [] q5) q6, .Assign [.Attribute (.Name "self" r1) f r2] (.Name f r3) r4]
structure ScOk (f : Str) (sc : Scope) : Prop where
  kind : sc.kind = .function
  co : sc.isCoroutine = false
  gen : sc.isGenerator = false
  cell : ∀ x ∈ sc.names, x.2 ≠ .cell
  self : sc.names.lookup ("self" : Str) = some .local
  arg : sc.names.lookup f = some .local
  sup : sc.names.lookup ("super" : Str) = some .globalImplicit
  cls : sc.names.lookup ("__class__" : Str) = some .free
/-- how the two parameters are bound -/
def BdOk (f : Str) : Prop := ∀ (qual : Str) (body : List Stmt) (sc : Scope) (p1 p2 : Pos) (doc pm : Value) (an : Option Addr) (cd ct : Value) (cc : Addr) (a v : Value),
  bindArgs (ksFn "__init__" qual (iA f p1 p2) body sc .none .none doc pm an cd ct cc) ⟨[a, v], []⟩ = pure [(("self" : Str), a), (f, v)]
/-- what the written part says of the class at C, and of its __init__, at fI -/
structure SupTxt (K : Frag) (C fI : Addr) (f file : Str) : Prop where
  cls : ∃ nm q N bs bm sn sub ab col dd k0 k1 k2 k3 k5, K.lookup C = some (excClassObj nm q C N bs bm true sn sub ab col dd k0 k1 k2 k3 k5 "ValueError.__new__") ∧ refsVE bm = true
  sa : findIn K (.ref C) "__setattr__" = some (some (.builtin "object.__setattr__"))
  ga : findIn K (.ref C) "__getattribute__" = some (some (.builtin "BaseException.__getattribute__"))
  gg : findIn K (.ref C) "__getattr__" = some none
  noN : findIn K (.ref C) f = some none
  iC : findIn K (.ref C) "__init__" = some (some (.ref fI))
  tC : typeIn K (.ref fI) = some (.type "function")
  kC : keepIn K (.ref C) = true
  exC : subIn K (.ref C) (.type "BaseException") = some true
  veC : subIn K (.ref C) (.type "ValueError") = some true
  tyC : typeIn K (.ref C) = some (.type "type")
  hdC : hasDictIn K C = true
  ms : mroIn K C (.ref C) = some true
  si : ks_superIn K C C "__init__" = some (some (.builtin "ValueError.__init__"))
  op : nsIn K cStatics "thirdparty.any" = some none
  su : nsIn K mainGlobals "super" = some none
  nf : f ≠ "self" ∧ (f == ("__debug__" : Str)) = false
  fn : ∃ (oc : Value) (od : Option Addr) (doc pm : Value) (an : Option Addr) (cda cc : Addr) (ct : Value) (osl : Array (Option Value)) (qual txt : Str) (j : Nat) (sc : Scope) (p1 p2 q1 q2 q3 q4 q5 q6 r1 r2 r3 r4 : Pos)
    (ccl : Value) (cdd : Option Addr) (vs : Array Value) (ccs : Array (Option Value)) (tf : Tok) (cl : Value) (cld : Option Addr) (csl : Array (Option Value)),
    K.lookup fI = some ⟨oc, od, .func (ksFn "__init__" qual (iA f p1 p2) (iB f txt j q1 q2 q3 q4 q5 q6 r1 r2 r3 r4) sc .none .none doc pm an (.ref cda) ct cc), osl⟩ ∧ codeIn K (.ref cda) qual = true ∧ ScOk f sc ∧
    K.lookup cda = some ⟨ccl, cdd, .fields vs, ccs⟩ ∧ vs[2]? = some (.str file tf) ∧ K.lookup cc = some ⟨cl, cld, .cell (some (.ref C)), csl⟩ ∧ (q3.endLine == q5.line) = true
theorem one_size (v : Value) : [v].length ≤ sizeLine := by
  rw [sizeLine_eq]
  exact (by decide : 1 ≤ 16777216)
/-- what __init__ leaves of a fresh exception at x -/
structure InitEnd (h h' : Heap) (x C dx t1 : Addr) (f : Str) (v : Value) : Prop where
  keep : ∀ b o, b ≠ x → h.get? b = some o → h'.get? b = some o
  obj : h'.get? x = some { cls := .ref C, dict := some dx, data := .fields #[.ref t1, .none, .none, .none, .bool false, .none] }
  dbig : h.objs.size ≤ dx
  dne : dx ≠ x
  ns : h'.Ns1 dx (fun y => if y = f then some v else none)
structure OwnMade (h h' : Heap) (e C d : Addr) (f : Str) (v : Value) : Prop where
  keep : ∀ b o, h.get? b = some o → h'.get? b = some o
  new : h.objs.size ≤ e
  obj : ∃ oe vs, h'.get? e = some oe ∧ oe.cls = .ref C ∧ oe.dict = some d ∧ oe.data = .fields vs ∧ vs[1]? = some .none
  dbig : h.objs.size ≤ d
  dne : d ≠ e
  ns : h'.Ns1 d (fun y => if y = f then some v else none)
section
variable {prog : Program} {w : World} {A : Around} {E : Value → Shared → Prop} {R : Result → Shared → Prop} {s : Shared} {K : Frag} {mg mb : Str → Option Value} {C fI : Addr} {f : Str}
/-- the bound built-in __init__, called -/
theorem mw_call {u x t0 : Addr} {rest : List Value} {Q : Value → Shared → Prop} {nm q : Str} {N : Addr} {bs bm : List Value} {sn : List Str} {sub : List Value} {ab : Bool} {col : Option Bool} {dd : Option Addr} {k0 k1 k2 k3 k5 : Option Value}
    (hC : s.heap.get? C = some (excClassObj nm q C N bs bm true sn sub ab col dd k0 k1 k2 k3 k5 "ValueError.__new__")) (hu : s.heap.get? u = some (kxs_mw "ValueError.__init__" x)) (he : s.heap.get? x = some (HandSPX.excO C t0)) (hz : rest.length ≤ sizeLine)
    (h : ∀ h' t', (∀ b o, b ≠ x → s.heap.get? b = some o → h'.get? b = some o) → h'.get? x = some (HandSPX.excO C t') → Q .none { s with heap := h' }) :
    wpAny (model prog w) A (call (.ref u) rest) Q E s := by
  obtain ⟨hh, g, d, tk, os⟩ := s
  refine wpAny_call (codeAny_of_tree ?_)
  show wpAny _ A.in1 (callAny (.ref u) ⟨rest, []⟩) _ _ _
  simp only [callAny]
  refine wpAny_bind (wpAny_load hu ?_)
  simp only [kxs_mw, show (Value.type "method-wrapper" == Value.type "method" || Value.type "method-wrapper" == Value.type "builtin_function_or_method" || Value.type "method-wrapper" == Value.type "method-wrapper") = true by decide, if_true]
  refine KFB.if_so (by decide) ?_
  refine wpAny_bind (check_bound_init F.excBase_ValueError.toExcCallFacts hC he rfl ?_)
  refine wpAny_bind (wpAny_pure (wpAny_pure ?_))
  refine ⟨plainId_quiet F.excBase_ValueError.init.plain _, codeAny_builtin F.excBase_ValueError.initEntry ?_⟩
  exact exc_init_tree (cls := .ref C) (t0 := t0) (dv := none) (c2 := .none) (c3 := .none) (b4 := .bool false) he hz fun h' k e' _ => h h' _ k e'
theorem sup_init {file : Str} (T : SupTxt K C fI f file) (bd : BdOk f) (hfile : ((prog.main.file : Str) == file) = true) (htop : (prog.main.scope.names.lookup ("super" : Str)).isSome = false) {x t0 : Addr} {v : Value} (X : K.In s.heap) (G : s.heap.Ns mainGlobals mg) (B : s.heap.Ns builtinsNs mb) (hB : mb "super" = some (.type "super")) (hlim : s.heap.NoLimit)
    (hx : s.heap.get? x = some (HandSPX.excO C t0)) (hnx : K.lookup x = none) (hg : x ≠ mainGlobals) (hb : x ≠ builtinsNs) (hroom : A.depth < recursionLimit)
    (hq : ∀ h' tk dx t1, InitEnd s.heap h' x C dx t1 f v → R (.ok (.ret .none)) { s with heap := h', toks := tk }) :
    codeAny (model prog w) A (.call (.ref fI) ⟨[.ref x, v], []⟩) R s := by
  obtain ⟨oc, od, doc, pm, an, cda, cc, ct, osl, qual, txt, j, sc, p1, p2, q1, q2, q3, q4, q5, q6, r1, r2, r3, r4, ccl, cdd, vs, ccs, tf, cl, cld, csl, ho, hcd, sk, hcode, hvs, hcell, hline⟩ := T.fn
  obtain ⟨nm, q, N, bs, bm, sn, sub, ab, col, dd, k0, k1, k2, k3, k5, hC, hbm⟩ := T.cls
  have hcl : clsIn K C = some { name := nm, bases := bs, mro := .ref C :: bm, ns := N, qualname := q, hasDict := true, slotNames := sn, subclasses := sub, abstract := ab, collection := col, hasDel := false } := by unfold clsIn; rw [hC] <;> rfl
  have hself : ("self" : Str) ≠ f := fun z => T.nf.1 z.symm
  refine ks_codeAny_call_defAt (fd := ksFn "__init__" qual (iA f p1 p2) (iB f txt j q1 q2 q3 q4 q5 q6 r1 r2 r3 r4) sc .none .none doc pm an (.ref cda) ct cc) (body := iB f txt j q1 q2 q3 q4 q5 q6 r1 r2 r3 r4) (binds := [("self", .ref x), (f, v)])
    hroom (X _ _ ho) rfl hlim (codeRec_of X hcd) rfl (BindsTo.of_eq ?_) sk.cell (fun y hy => ?_) (fun h₁ hn k => ?_) sk.co sk.gen sk.kind
  · exact bd _ _ _ _ _ _ _ _ _ _ _ _ _
  · rcases List.mem_cons.mp hy with rfl | hy
    · exact sk.self
    · rcases List.mem_cons.mp hy with rfl | hy
      · exact sk.arg
      · cases hy
  have hm1 : (fun y => List.lookup y [((f : Str), v), (("self" : Str), Value.ref x)]) ("self" : Str) = some (.ref x) := by
    have e : (("self" : Str) == f) = false := beq_eq_false_iff_ne.mpr hself
    simp [List.lookup, e]
  have hm2 : (fun y => List.lookup y [((f : Str), v), (("self" : Str), Value.ref x)]) f = some v := by
    simp [List.lookup]
  have hn : h₁.Ns s.heap.objs.size (fun y => List.lookup y [((f : Str), v), (("self" : Str), Value.ref x)]) := hn
  obtain ⟨hp, gs, dr, tk, os⟩ := s
  have hxL : hp.objs.size ≠ x := Nat.ne_of_gt (Heap.lt_size hx)
  have X₁ : K.In h₁ := X.keeps k
  have hx₁ := k _ _ hx
  have hCls : h₁.get? C = some (excClassObj nm q C N bs bm true sn sub ab col dd k0 k1 k2 k3 k5 "ValueError.__new__") := X₁ _ _ hC
  have hxC : x ≠ C := fun z => by
    rw [z, hC] at hnx; cases hnx
  -- super().__init__('..')
  refine ks_wpAt_execs_cons (ks_wpAt_Expr_any (ks_wpAt_MethodCall ?_ (he := by rw [arm_eval_Call]; unfold methodCall methodCallPos; simp only [hline, Bool.or_true, if_true, pure_bind]; rfl)) ?_)
  · refine ks_wpAt_super_base (env := ksEnv qual sc hp.objs.size fI (.ref cda) cc) sk.sup sk.cls (by decide) rfl (X₁ _ _ ho) rfl rfl rfl (X₁ _ _ hcode) rfl hvs hfile htop ?_
    refine ks_loadName_global sk.kind sk.sup (loadGlobal_builtin (env := ksEnv qual sc hp.objs.size fI (.ref cda) cc) (G.keeps k) (mg_none_of X G T.su) (B.keeps k) hB ⟨rfl, ?_⟩)
    refine wpAny_loadName_free sk.kind sk.cls rfl ⟨_, X₁ _ _ hcell, rfl⟩ ?_
    refine wpAny_loadName_local sk.kind sk.self hn hm1 ?_
    refine ks_wpAny_isType_cls hCls rfl ⟨rfl, ?_⟩
    refine ks_wpAny_call_super hCls rfl hx₁ rfl (fun c e => by cases e) (looks_mroIn X₁ T.ms) (fun h₂ hso k₂ => ?_)
    have X₂ : K.In h₂ := X₁.keeps k₂
    have hx₂ := k₂ _ _ hx₁
    have hI : Looks (model prog w) h₂ (isInstance (.ref x) (.type "ValueError")) true := by
      have I : InstAt h₂ x (HandSPX.excO C t0) C none := ⟨hx₂, rfl, rfl, trivial⟩
      exact I.type.andThen (looks_subIn X₂ T.veC)
    have hsi := T.si
    unfold ks_superIn at hsi
    rw [hcl] at hsi
    have L : Looks (model prog w) h₂ (mroOf (.ref C)) (.ref C :: bm) := fun A Q E s k q => wpAny_bind ((looks_clsIn X₂ hcl) A _ E s k (wpAny_pure q))
    refine kxs_getMethod kxs_ValueError hso (looks_opaque X₂ T.op) L rfl X₂ hsi hI hxC (by decide) ?_
    refine kxs_callWith (i := "ValueError.__init__") (x := x) rfl ?_
    refine evalArgs_plain (spliced_cons ?_)
    refine wpAny_Constant_str (pos := q4) (k := j) (spliced_nil ⟨Heap.get?_push_size _ rfl, ?_⟩)
    have hC2 : (h₂.push (kxs_mw "ValueError.__init__" x)).get? C = some (excClassObj nm q C N bs bm true sn sub ab col dd k0 k1 k2 k3 k5 "ValueError.__new__") := Heap.get?_push_of_some _ (X₂ _ _ hC)
    refine mw_call hC2 (Heap.get?_push_size _ rfl) (Heap.get?_push_of_some _ hx₂) (one_size _) (fun h₃ t' k₃ hx₃ => ?_)
    have kk : ∀ b o, b ≠ x → h₁.get? b = some o → h₃.get? b = some o := fun b o nb e => k₃ b o nb (Heap.get?_push_of_some _ (k₂ b o e))
    have X₃ : K.In h₃ := fun b o e => kk b o (fun z => by rw [z, hnx] at e; cases e) (X₁ _ _ e)
    have hn₃ : h₃.Ns hp.objs.size (fun y => List.lookup y [((f : Str), v), (("self" : Str), Value.ref x)]) := by
      obtain ⟨oL, es, ep, hL, r⟩ := hn
      exact ⟨oL, es, ep, kk _ _ hxL hL, r⟩
    -- self.f = f
    refine ks_wpAt_execs_cons (ks_wpAt_Assign_Attr ?_)
    refine wpAt_of_wpAny (wpAny_Name (wpAny_loadName_local sk.kind sk.arg hn₃ hm2 ?_) T.nf.2)
    refine wpAny_Name (wpAny_loadName_local sk.kind sk.self hn₃ hm1 ?_) (by decide)
    refine set_plain X₃ (ox := HandSPX.excO C t') (od := none) ⟨hx₃, rfl, rfl, trivial⟩ T.sa ?_
    refine exc_osa X₃ hx₃ hcl (show refsVE (.ref C :: bm) = true from hbm) rfl T.noN (fun h₄ tk₄ dx k₄ dn dne hx₄ hn₄ => ?_)
    show wpAt _ _ _ (execs _ _) _ _ _
    have z1 : hp.objs.size < h₁.objs.size := hn.lt
    have z3 : h₃.objs.size ≤ dx := dn
    have z2 : hp.objs.size < h₃.objs.size := hn₃.lt
    refine wpAt_of_wpAny (wpAny_execs_nil ?_)
    exact hq h₄ tk₄ dx t' ⟨fun b o hb' e => k₄ b o hb' (kk b o hb' (k b o e)), hx₄, by show hp.objs.size ≤ dx; omega, dne, hn₄⟩
  · unfold interactive
    have e : (callEnv (ksFn "__init__" qual (iA f p1 p2) (iB f txt j q1 q2 q3 q4 q5 q6 r1 r2 r3 r4) sc .none .none doc pm an (.ref cda) ct cc) hp.objs.size fI).scope.kind = .function := sk.kind
    show (((callEnv (ksFn "__init__" qual (iA f p1 p2) (iB f txt j q1 q2 q3 q4 q5 q6 r1 r2 r3 r4) sc .none .none doc pm an (.ref cda) ct cc) hp.objs.size fI).scope.kind == .module) && _) = false
    rw [e]
    rfl
theorem sup_made {file : Str} (T : SupTxt K C fI f file) (bd : BdOk f) (hfile : ((prog.main.file : Str) == file) = true) (htop : (prog.main.scope.names.lookup ("super" : Str)).isSome = false) {v : Value} (X : K.In s.heap) (G : s.heap.Ns mainGlobals mg) (B : s.heap.Ns builtinsNs mb) (hB : mb "super" = some (.type "super")) (hlim : s.heap.NoLimit) (hroom : A.depth + 1 < recursionLimit)
    (hq : ∀ h' tk e d, OwnMade s.heap h' e C d f v → R (.ok (.ret (.ref e))) { s with heap := h', toks := tk }) :
    codeAny (model prog w) A (.call (.ref C) ⟨[v], []⟩) R s := by
  obtain ⟨nm, q, N, bs, bm, sn, sub, ab, col, dd, k0, k1, k2, k3, k5, hC, hbm⟩ := T.cls
  obtain ⟨hp, g, dr, tk, os⟩ := s
  have k : ∀ b o, hp.get? b = some o → ((hp.push (kdv_tup [v])).push (HandSPX.excO C hp.objs.size)).get? b = some o := fun b o e => Heap.get?_push_of_some _ (Heap.get?_push_of_some _ e)
  have hget : ((hp.push (kdv_tup [v])).push (HandSPX.excO C hp.objs.size)).get? (hp.objs.size + 1) = some (HandSPX.excO C hp.objs.size) := by heap_get
  have lt : ∀ {b : Addr} {o : Obj}, hp.get? b = some o → hp.objs.size + 1 ≠ b := fun {b o} e z => by
    have y := Heap.lt_size e
    rw [← z] at y
    exact absurd (Nat.lt_of_succ_lt y) (Nat.lt_irrefl _)
  have hnx : K.lookup (hp.objs.size + 1) = none := by
    cases e : K.lookup (hp.objs.size + 1) with
    | none => rfl
    | some o => exact absurd rfl (lt (X _ _ e))
  have hg : hp.objs.size + 1 ≠ mainGlobals := by
    obtain ⟨o, _, _, e, _⟩ := G
    exact lt e
  have hb : hp.objs.size + 1 ≠ builtinsNs := by
    obtain ⟨o, _, _, e, _⟩ := B
    exact lt e
  refine call_own F.excBase_ValueError (fun X => refsVE_contains X bm hbm) (X _ _ hC) (looks_findIn X T.iC) (fun self => bind_fn X self T.tC) (one_size v) ?_
  refine sup_init (s := ⟨(hp.push (kdv_tup [v])).push (HandSPX.excO C hp.objs.size), g, dr, tk, os⟩) T bd hfile htop (X.keeps k) (G.keeps k) (B.keeps k) hB (hlim.keeps k) hget hnx hg hb ?_ fun h' tk' dx t1 ⟨k', hx, dn, dne, hns⟩ => ?_
  · show A.depth + 1 < recursionLimit
    exact hroom
  · have old : ∀ b o, hp.get? b = some o → h'.get? b = some o := fun b o e => k' b o (Nat.ne_of_lt (Nat.lt_succ_of_lt (Heap.lt_size e))) (k b o e)
    have z : hp.objs.size + 1 + 1 ≤ dx := by
      first
        | (simpa only [Heap.size_push] using dn)
        | exact dn
        | (have q := dn; rw [Heap.size_push, Heap.size_push] at q; exact q)
    exact ⟨rfl, hq h' tk' (hp.objs.size + 1) dx ⟨old, Nat.le_succ _, ⟨_, _, hx, rfl, rfl, rfl, rfl⟩, Nat.le_trans (Nat.le_trans (Nat.le_succ _) (Nat.le_succ _)) z, dne, hns⟩⟩
end
end SupX
end PySem
namespace VL
open PySem PySem.Spec PyProof.Rows L2
theorem relO_one {v : V} {v' : Value} (r : RelV v v') (n f : Str) : RelO (List.lookup f [(n, v)]) (if f = n then some v' else none) := by
  by_cases hw : f = n
  · subst hw
    rw [if_pos rfl]
    have q : List.lookup f [(f, v)] = some v := by simp [List.lookup]
    rw [q]
    exact r
  · rw [if_neg hw]
    have qw : (f == n) = false := by simpa using hw
    have q2 : List.lookup f [(n, v)] = none := by simp [List.lookup, qw]
    rw [q2]
    trivial
section
variable {X : Cx} {C fI : Addr}
/-- C(e) -/
def tMkSup (C : Addr) (n : Str) (ta : TA) : L2.St → Hp → XK → Prop := fun σ H Q => ta σ H fun vs H1 => ∃ v, vs = [v] ∧ ∀ d, H1 d = none → Q (.ref C) (some d) (upd H1 d (.xd [(n, v)]))
theorem pmk_sup {x n file : Str} {a : Expr} {ta : TA} {p pos : Pos} {k : Nat} (T : PySem.SupX.SupTxt X.K C fI n file) (bd : PySem.SupX.BdOk n) (hfile : ((X.prog.main.file : Str) == file) = true) (htop : (X.prog.main.scope.names.lookup ("super" : Str)).isSome = false) (gC : X.mg x = some (.ref C)) (hr : Room k X.A) (ha : PA X [a] ta) (hg : Gl X x)
    (hdb : (x == ("__debug__" : Str)) = false) (he : starEach (a :: []) X.env = (false, eval a X.env) :: starEach [] X.env) (hpl : (backTo pos (starEach [] X.env)).any (·.1) = false) :
    PMk X (.Call (.Name x p) [a] [] pos) (tMkSup C n ta) := by
  intro pins s σ H Q I h
  refine wpAny_Call_Name_kw (ld_glob I hg gC ?_ hdb)
  refine PySem.W.callWith_K (h₀ := X.base) I.ok.mod.kin T.kC (thn (ha.run pos pins s σ H _ I h) fun us s1 hh => ?_) he hpl
  obtain ⟨vs, H1, I1, r1, v, ev, q1⟩ := hh
  subst ev
  refine ⟨I1.kIn, ?_⟩
  cases r1 with
  | cons rv rn =>
    rename_i v' us'
    cases rn
    show wpAny _ _ (call (.ref C) [v']) _ _ _
    have hlim := I1.nolimit
    obtain ⟨mb, nb, hmb⟩ := I1.ok.mod.blt
    have bk : ∀ b o, X.base.get? b = some o → s1.heap.get? b = some o := I1.bk
    have G1 : s1.heap.Ns mainGlobals X.mg := I1.ok.mod.glob.keeps bk
    have B1 : s1.heap.Ns builtinsNs mb := nb.keeps bk
    obtain ⟨hp, g, dr, tk, os⟩ := s1
    refine wpAny_call (PySem.SupX.sup_made T bd hfile htop I1.kIn G1 B1 ((hmb _ (by decide)).trans (by decide +kernel)) hlim (by have := hr.dp; omega) fun h' tk' e d M => ?_)
    show MkP X pins σ Q (.ref e) ⟨h', g, dr, tk', os⟩
    obtain ⟨oe, fv, hoe, hc, hd, hdat, h1⟩ := M.obj
    have hns := M.ns
    obtain ⟨G', g1, g2⟩ := restrict h' fun b => decide (b ≠ e)
    have gk : ∀ b, b ≠ e → G'.get? b = h'.get? b := fun b hb => g1 b (decide_eq_true hb)
    have ge : G'.get? e = none := g2 e (by simp)
    have old : ∀ b o, hp.get? b = some o → G'.get? b = some o := fun b o q => (gk b (Nat.ne_of_lt (Nat.lt_of_lt_of_le (Heap.lt_size q) M.new))).trans (M.keep b o q)
    have ob : ObjOk X.prog X.w (upd H1 d (.xd [(n, v)])) G' d (.xd [(n, v)]) :=
      ⟨_, hns.at (fun o q => (gk d M.dne).trans q), fun f => relO_one rv n f⟩
    have J : Inv X pins σ (upd H1 d (.xd [(n, v)])) ⟨G', g, dr, tk', os⟩ := I1.laid (t' := tk') old M.dbig ob
    refine ⟨e, oe, fv, ⟨G', g, dr, tk', os⟩, _, .ref C, some d, rfl, J, fun b o q => ?_, ge, hoe, ⟨hc, hd⟩, hdat, h1, ?_, rfl, I1.bare, raises_own T.exC T.tyC, q1 d (I1.hok.fresh M.dbig)⟩
    · by_cases hb : b = e
      · have q' : G'.get? b = some o := q
        rw [hb, ge] at q'; cases q'
      · exact (gk b hb).symm.trans q
    · rw [upd_ne (Ne.symm M.dne)]
      exact I1.hok.fresh M.new
/-- e.f, e the exception that the suite holds -/
theorem pe_exF {n file : Str} {a : Addr} {oe : Obj} {cls : Value} {d : Option Addr} {pn : List (Addr × Obj)} {e : Expr} {te : TE} {pos : Pos} (T : PySem.SupX.SupTxt X.K C fI n file) (hz : Zc cls d oe) (hf : ∃ vs, oe.data = .fields vs) (he : PE (X.suite a ((a, oe) :: pn)) e te)
    (hb : attributeBase e n X.env (eval e X.env) = eval e X.env) :
    PE (X.suite a ((a, oe) :: pn)) (.Attribute e n pos) (fun σ H Q => te σ H fun x H1 => x = .ref a ∧ cls = .ref C ∧ ∃ (dd : Addr) (v : V), d = some dd ∧ H1 dd = some (.xd [(n, v)]) ∧ Q v H1) := by
  refine ⟨fun pins s σ H Q I h => ?_⟩
  refine attr_of hb (thn (he.run pins s σ H _ I h) fun u s1 hh => ?_)
  obtain ⟨x, H1, I1, rx, ex, ec, dd, v, ed, ea, q⟩ := hh
  subst ex
  obtain rfl : u = Value.ref a := rx
  subst ec
  subst ed
  obtain ⟨ha, _⟩ := I1.pin (a, oe) (List.mem_append_left _ List.mem_cons_self)
  obtain ⟨vs, hd⟩ := hf
  have hx : ObjOk X.prog X.w H1 s1.heap dd (.xd [(n, v)]) := I1.hok dd _ ea
  obtain ⟨mA, hns, hr⟩ := hx
  obtain ⟨od, ho, hl⟩ := lookIn_ns hns
  have l : List.lookup n [(n, v)] = some v := by simp [List.lookup]
  obtain ⟨u, hu, ru⟩ := RelO.some_of (v := v) (o := mA n) (by rw [← l]; exact hr n)
  have J : PySem.W.InstAt s1.heap a oe C (some od) := ⟨ha, hz.1, by unfold PySem.W.notCls; rw [hd] <;> rfl, by rw [hz.2]; exact ho⟩
  exact HandSPX.exc_get I1.kIn J T.ga T.gg T.exC (PySem.W.findObj_own T.hdC T.noN rfl (by rw [hl, hu])) (handed_of ru) ⟨v, H1, I1.tok _, ru, q⟩
end
end VL
end
section
set_option maxRecDepth 100000
set_option maxHeartbeats 2000000
/-! VLR: raise, try, enumerate, chains, calls with keywords -/
namespace VL
open PySem PySem.Spec PyProof.Rows L2

/-! ### raise -/
theorem pmk_own0 {X : Cx} {C : Addr} {bmB : List Value} {B newId initId : String} {x : Str} {p pos : Pos} (F : ExcBaseFacts B newId initId bmB) (q : PySem.W.excIn X.K C bmB newId = true) (gC : X.mg x = some (.ref C)) (kC : PySem.W.keepIn X.K (.ref C) = true) (r : Raises X (.ref C)) (hg : Gl X x)
    (hdb : (x == ("__debug__" : Str)) = false) : PMk X (.Call (.Name x p) [] [] pos) (fun _ H Q => Q (.ref C) none H) := by
  intro pins s σ H Q I h
  refine wpAny_Call_Name_kw (ld_glob I hg gC ?_ hdb)
  refine PySem.W.callWith_K0 I.kIn kC ?_
  show wpAny _ _ (call (.ref C) []) _ _ _
  obtain ⟨bm, N, nm, qn, bs, hdct, sn, sub, ab, col, dd, k0, k1, k2, k3, k5, mN, hC, hN, hni, T⟩ := exc_obj I.kIn q
  refine wpAny_call_exc_subT F T hC hN hni (fun h' e hm => ?_) (by show 0 ≤ sizeLine; omega)
  exact mk_of I hm r h (I.hok.gone hm.new)
def sRaise0 (c : Nat) : DS := fun s => .ex ⟨c, [], []⟩ s
def sRaise1 (c : Nat) (n : Str) (dv : DV) : DS := fun s => oS (dv s) fun d s1 => .ex ⟨c, [n], [d]⟩ s1
section
variable {X : Cx} {k : Kc} {x n : Str} {a e : Expr} {p pos pos2 : Pos} {C fI : Addr} {c lvl : Nat}
theorem s_raise0 (hc : X.calm = true) (q : PySem.W.excIn X.K (k.cl c) He.veBase "ValueError.__new__" = true) (gC : X.mg x = some (.ref (k.cl c))) (kC : PySem.W.keepIn X.K (.ref (k.cl c)) = true) (r : Raises X (.ref (k.cl c))) (hg : Gl X x := by rfl)
    (hdb : (x == ("__debug__" : Str)) = false := by decide) : SS X k (.Raise (some (.Call (.Name x p) [] [] pos)) none pos2) (sRaise0 c) := ⟨fun W tk _ => (ps_raise hc tk (pmk_own0 F.excBase_ValueError q gC kC r hg hdb)).imp fun D sv H h => by
  obtain ⟨g, s, R, m⟩ := h
  exact m _ none g sv H R (Ext.refl _ _) ⟨rfl, .inl ⟨rfl, rfl, rfl⟩⟩⟩
theorem s_raise1 {file : Str} {dv : DV} (hc : X.calm = true) (T : PySem.SupX.SupTxt X.K (k.cl c) fI n file) (bd : PySem.SupX.BdOk n) (hfile : ((X.prog.main.file : Str) == file) = true) (htop : (X.prog.main.scope.names.lookup ("super" : Str)).isSome = false) (gC : X.mg x = some (.ref (k.cl c))) (hr : Room lvl X.A) (ha : SV X k a dv) (hg : Gl X x := by rfl)
    (hdb : (x == ("__debug__" : Str)) = false := by decide) (he : starEach (a :: []) X.env = (false, eval a X.env) :: starEach [] X.env := by rfl) (hpl : (backTo pos (starEach [] X.env)).any (·.1) = false := by rfl) :
    SS X k (.Raise (some (.Call (.Name x p) [a] [] pos)) none pos2) (sRaise1 c n dv) := ⟨fun W tk _ => (ps_raise hc tk (pmk_sup T bd hfile htop gC hr (pa_cons (ha.run W tk) pa_nil he) hg hdb he hpl)).imp fun D sv H h => by
  rw [tS_eq] at h
  obtain ⟨g, s, R, m⟩ := h
  refine ⟨g, s, R, ?_⟩
  unfold sRaise1 at m
  cases e1 : dv s with
  | bad => rw [e1] at m; exact m
  | ex e' s' => rw [e1] at m; exact m
  | ok d s1 =>
    rw [e1] at m
    intro v g1 H1 R1 x1 hv
    refine ⟨v, rfl, fun dd hd => ?_⟩
    exact m _ (some dd) (g1.lay dd (.xd [(n, v)])) sv _ (R1.lay hd) (x1.trans (Ext.lay R1 hd)) ⟨rfl, .inr ⟨dd, [(n, v)], rfl, lay_at, rfl, v, [], rfl, Rp.mono (Ext.lay R1 hd).G d v hv, rfl⟩⟩⟩
end

/-! ### try -/
/-- which classes a clause catches -/
abbrev Cat := Nat → Option Bool
def SO.calm : SO → SO
  | .ex _ _ => .bad
  | r => r
def sTry (cs : Cat) (db ds : DS) : DS := fun s => match db s with
  | .ex e s1 => match cs e.c with
    | some true => (ds s1).calm
    | some false => .ex e s1
    | none => .bad
  | r => r
def SO.endAs (i : Nat) : SO → SO
  | .nx s => if plCL (s.set i .un) = true then .nx (s.set i .un) else .bad
  | .rt c s => if plC c = true ∧ plCL (s.set i .un) = true then .rt c (s.set i .un) else .bad
  | .bk s => if plCL (s.set i .un) = true then .bk (s.set i .un) else .bad
  | .ct s => if plCL (s.set i .un) = true then .ct (s.set i .un) else .bad
  | _ => .bad
/-- except .. as n: n's slot is i -/
def sTryAs (cs : Cat) (i : Nat) (db ds : DS) : DS := fun s => match db s with
  | .ex e s1 => match cs e.c with
    | some true => if plCL (s1.set i .un) = true ∧ i < s1.length then (ds (s1.set i (.xn e))).endAs i else .bad
    | some false => .ex e s1
    | none => .bad
  | r => r
theorem plCL_at : ∀ {cs : List Cell} {i : Nat} {c : Cell}, plCL cs = true → cs[i]? = some c → plC c = true
  | [], i, c, _, e => by cases e
  | d :: cs, 0, c, h, e => by
    cases e
    unfold plCL at h
    exact (Bool.and_eq_true_iff.mp h).1
  | d :: cs, i + 1, c, h, e => by
    unfold plCL at h
    exact plCL_at (i := i) (Bool.and_eq_true_iff.mp h).2 (by simpa using e)
theorem Rel.chg {K : PySem.W.Frag} {k k' : Kc} {g : Gs} {s : List Cell} {sv : L2.St} {H : Hp} (R : Rel K k g s sv H) (hk : k'.cl = k.cl) (hi : k'.io = k.io) (hp : plCL s = true ∨ k.xa = none) : Rel K k' g s sv H where
  len := R.len
  sub := R.sub
  dis := R.dis
  fra := R.fra
  cel := fun i c e n => by
    obtain ⟨v, e1, h1⟩ := R.cel i c e n
    exact ⟨v, e1, CV.chg hk c [] v (hp.imp (fun z => plCL_at z e) id) h1⟩
  pin := R.pin
  pio := fun i v h => by
    rw [hi]
    exact R.pio i v h
section
variable {X : Cx} {k : Kc} {x n : Str} {i : Nat} {cc : Value} {body suite : List Stmt} {b₀ : Stmt} {np pos pos' : Pos} {cs : Cat} {db ds : DS}
theorem s_try (hs : X.stack = X.env :: X.outer) (hf : X.env.frame = some X.env.locals) (hc : Names X x cc) (hcs : ∀ j b, cs j = some b → PySem.W.exmOne X.K (.ref (k.cl j)) cc = some b)
    (hb : ∀ (pn : List (Addr × Obj)) (xe : Value → Shared → Prop), SSs (X.tr pn xe) k body db) (hsu : ∀ (a : Addr) (oe : Obj) (pn : List (Addr × Obj)), SSs (X.suite a ((a, oe) :: pn)) k (b₀ :: suite) ds) :
    SS X k (.Try body [.ExceptHandler (some (.Name x np)) none (b₀ :: suite) pos'] [] [] pos) (sTry cs db ds) := ⟨fun W tk po =>
  (ps_try_only (tb := fun W' => tS X.K k W' db) (ts := fun _ _ _ => tS X.K k (fun _ _ _ _ => False) ds) hs hf hc tk (fun W' pn xe tk' po' => (hb pn xe).run W' tk' po') (fun a oe cls d pn _ _ => (hsu a oe pn).run _ takes0 PassesOwn.never)).imp fun D sv H h => by
  obtain ⟨g, s, R, m⟩ := h
  refine ⟨g, s, R, ?_⟩
  unfold sTry at m
  cases e1 : db s with
  | nx s' => simp only [e1] at m ⊢; exact m
  | rt c s' => simp only [e1] at m ⊢; exact m
  | bk s' => simp only [e1] at m ⊢; exact m
  | ct s' => simp only [e1] at m ⊢; exact m
  | bad => simp only [e1] at m
  | ex e s1 =>
    simp only [e1] at m ⊢
    intro cls d g1 sv1 H1 R1 x1 hv
    have hcl := hv.1
    cases e2 : cs e.c with
    | none => simp only [e2] at m
    | some b =>
      have hx := hcs _ _ e2
      refine ⟨b, by rw [hcl]; exact hx, fun hb' a ha => ?_, fun hb' => ?_⟩
      · subst hb'
        simp only [e2] at m
        refine ⟨g1, s1, R1, ?_⟩
        cases e3 : ds s1 with
        | nx s' =>
          simp only [e3] at m ⊢
          exact fun g' sv' H' R' x' => m g' sv' H' R' (x1.trans x')
        | rt c s' =>
          simp only [e3] at m ⊢
          exact fun v g' sv' H' t R' x' o hv' => m v g' sv' H' t R' (x1.trans x') (o.later x1) hv'
        | bk s' =>
          simp only [e3] at m ⊢
          exact fun g' sv' H' R' x' => m g' sv' H' R' (x1.trans x')
        | ct s' =>
          simp only [e3] at m ⊢
          exact fun g' sv' H' R' x' => m g' sv' H' R' (x1.trans x')
        | ex e' s' => simp only [e3, SO.calm] at m
        | bad => simp only [e3, SO.calm] at m
      · subst hb'
        simp only [e2] at m
        exact m cls d g1 sv1 H1 R1 x1 hv⟩
theorem s_tryAs {h : i ∉ k.io} (hs : X.stack = X.env :: X.outer) (hf : X.env.frame = some X.env.locals) (hN : X.N.Nodup) (hi : X.N[i]? = some n) (hln : X.env.kindOf n = some .local) (hc : Names X x cc) (hcs : ∀ j b, cs j = some b → PySem.W.exmOne X.K (.ref (k.cl j)) cc = some b)
    (hb : ∀ (pn : List (Addr × Obj)) (xe : Value → Shared → Prop), SSs (X.tr pn xe) k body db)
    (hsu : ∀ (a : Addr) (oe : Obj) (cls : Value) (d : Option Addr) (pn : List (Addr × Obj)), Zc cls d oe → (∃ vs, oe.data = .fields vs) → SSs (X.suite a ((a, oe) :: pn)) { k with xa := some (a, cls, d) } (b₀ :: suite) ds) :
    SS X k (.Try body [.ExceptHandler (some (.Name x np)) (some n) (b₀ :: suite) pos'] [] [] pos) (sTryAs cs i db ds) := ⟨fun W tk po =>
  (ps_try_as (i := i) (tb := fun W' => tS X.K k W' db) (ts := fun a cls d => tS X.K { k with xa := some (a, cls, d) } (fun _ _ _ _ => False) ds) hs hf hN hi hln hc tk (fun W' pn xe tk' po' => (hb pn xe).run W' tk' po') (fun a oe cls d pn hz hd => (hsu a oe cls d pn hz hd).run _ takes0 PassesOwn.never)).imp fun D sv H hw => by
  obtain ⟨g, s, R, m⟩ := hw
  refine ⟨g, s, R, ?_⟩
  unfold sTryAs at m
  cases e1 : db s with
  | nx s' => simp only [e1] at m ⊢; exact m
  | rt c s' => simp only [e1] at m ⊢; exact m
  | bk s' => simp only [e1] at m ⊢; exact m
  | ct s' => simp only [e1] at m ⊢; exact m
  | bad => simp only [e1] at m
  | ex e s1 =>
    simp only [e1] at m ⊢
    intro cls d g1 sv1 H1 R1 x1 hv
    have hcl := hv.1
    cases e2 : cs e.c with
    | none => simp only [e2] at m
    | some b =>
      have hx := hcs _ _ e2
      refine ⟨b, by rw [hcl]; exact hx, fun hb' a ha => ?_, fun hb' => ?_⟩
      · subst hb'
        simp only [e2] at m
        by_cases hpl : plCL (s1.set i .un) = true ∧ i < s1.length
        · rw [if_pos hpl] at m
          have Rd := ((R1.drop i).chg (k' := { k with xa := some (a, cls, d) }) rfl rfl (.inl hpl.1))
          have hv' : ExV X.K { k with xa := some (a, cls, d) } (g1.drop i).G e cls d := ExV.chg (k := k) (k' := { k with xa := some (a, cls, d) }) (show k.cl = k.cl from rfl) (show ExV X.K k (g1.drop i).G e cls d from hv)
          have len : ∀ {l : Nat}, l < sv1.length ↔ l < s1.length := fun {l} => by rw [R1.len]
          obtain ⟨R2, x2⟩ := Rd.put (i := i) (c := .xn e) (v := .ref a) (t := fun _ => none) (sv' := sv1.set i (some (.ref a))) (Ext.refl _ _) Rd.fra own_none ⟨a, cls, d, rfl, rfl, hv'⟩ (List.length_set ..) (by
              rw [List.getElem?_set_self (by rw [← R1.len]; exact hpl.2)]) (fun j hj => List.getElem?_set_ne (Ne.symm hj)) (fun j w hw => by
              have ne : i ≠ j := fun z => h (by rw [z]; exact Rd.pio j w hw)
              rw [List.getElem?_set_ne ne]
              exact Rd.pin j w hw)
          rw [List.set_set] at R2
          have x12 : Ext g H _ H1 := (x1.trans (Ext.drop i)).trans x2
          refine ⟨_, s1.set i (.xn e), R2, ?_⟩
          have back : ∀ {g' s' sv' H'}, Rel X.K { k with xa := some (a, cls, d) } g' s' sv' H' → plCL (s'.set i .un) = true → Rel X.K k g' (s'.set i .un) (sv'.set i none) H' := fun {g' s' sv' H'} R' hp =>
            (R'.wipe (vs := [i]) (by intro j hj; rcases List.mem_singleton.mp hj with rfl; exact h)).chg rfl rfl (.inl hp)
          cases e3 : ds (s1.set i (.xn e)) with
          | nx s' =>
            simp only [e3, SO.endAs] at m ⊢
            intro g' sv' H' R' x'
            by_cases hp : plCL (s'.set i .un) = true
            · rw [if_pos hp] at m
              exact m g' _ H' (back R' hp) (x12.trans x')
            · rw [if_neg hp] at m
              exact m.elim
          | rt c s' =>
            simp only [e3, SO.endAs] at m ⊢
            intro v g' sv' H' t R' x' o hcv
            by_cases hp : plC c = true ∧ plCL (s'.set i .un) = true
            · rw [if_pos hp] at m
              exact m v g' _ H' t (back R' hp.2) (x12.trans x') (o.later x12) (CV.chg (k := { k with xa := some (a, cls, d) }) (k' := k) rfl c [] v (.inl hp.1) hcv)
            · rw [if_neg hp] at m
              exact m.elim
          | bk s' =>
            simp only [e3, SO.endAs] at m ⊢
            intro g' sv' H' R' x'
            by_cases hp : plCL (s'.set i .un) = true
            · rw [if_pos hp] at m
              exact m g' _ H' (back R' hp) (x12.trans x')
            · rw [if_neg hp] at m
              exact m.elim
          | ct s' =>
            simp only [e3, SO.endAs] at m ⊢
            intro g' sv' H' R' x'
            by_cases hp : plCL (s'.set i .un) = true
            · rw [if_pos hp] at m
              exact m g' _ H' (back R' hp) (x12.trans x')
            · rw [if_neg hp] at m
              exact m.elim
          | ex e' s' => simp only [e3, SO.endAs] at m
          | bad => simp only [e3, SO.endAs] at m
        · rw [if_neg hpl] at m
          exact m.elim
      · subst hb'
        simp only [e2] at m
        exact m cls d g1 sv1 H1 R1 x1 hv⟩
/-- n.f in the suite -/
def qExF (c : Nat) (f : Str) (i : Nat) : DQ := fun s => match s[i]? with
  | some (.xn e) => match e.ns, e.ds with
    | [f'], [d] => if e.c = c ∧ f' = f then some (.sh d) else none
    | _, _ => none
  | _ => none
theorem q_exF {f file : Str} {fI : Addr} {c r : Nat} {a : Addr} {oe : Obj} {cls : Value} {d : Option Addr} {pn : List (Addr × Obj)} {px pos2 : Pos} (T : PySem.SupX.SupTxt X.K (k.cl c) fI f file) (hz : Zc cls d oe) (hd : ∃ vs, oe.data = .fields vs) (hxa : k.xa = some (a, cls, d))
    (hN : X.N[i]? = some n := by rfl) (hv : Vis X.env.scope n := by first | exact Or.inl rfl | exact Or.inr (Or.inl rfl) | exact Or.inr (Or.inr rfl)) (hdb : (n == ("__debug__" : Str)) = false := by decide) (hcd : (n == ("__classdict__" : Str)) = false := by decide)
    (hb : attributeBase (.Name n px) f X.env (eval (.Name n px) X.env) = eval (.Name n px) X.env := by rfl) :
    SQ (X.suite a ((a, oe) :: pn)) k r (.Attribute (.Name n px) f pos2) (qExF c f i) := ⟨(pe_exF (X := X) T hz hd (pe_var (X := X.suite a ((a, oe) :: pn)) (i := i) hN hv hdb hcd) hb).imp fun sv H Q hw => by
  obtain ⟨g, s, R, m⟩ := hw
  unfold qExF at m
  split at m
  · rename_i e e0
    split at e0
    · rename_i e' es
      split at e0
      · rename_i f' d' en ed
        split at e0
        · rename_i hcf
          cases e0
          obtain ⟨v, ev, a', cls', d0, rfl, exa, hx⟩ := R.cel i _ es (by intro z; cases z)
          rw [hxa] at exa
          cases exa
          obtain ⟨h1, h2⟩ := hx
          refine ⟨_, ev, rfl, by rw [h1, hcf.1], ?_⟩
          rcases h2 with ⟨z, _⟩ | ⟨b, fs, hd', hG, hn, hr⟩
          · rw [en] at z; cases z
          · rw [en] at hn
            rw [ed] at hr
            match fs, hn with
            | [(fn, v)], hn =>
              have hfn : fn = f' := by simpa using hn
              obtain ⟨v', w, e4, h4, h5⟩ := hr
              cases e4
              refine ⟨b, v, hd', ?_, m v h4⟩
              rw [R.sub _ _ hG, hfn, hcf.2]
        · cases e0
      · cases e0
    · cases e0
  · exact m.elim⟩
end
end VL
end
section
set_option maxRecDepth 100000
set_option maxHeartbeats 2000000
/-! VLS: enumerate, chains, calls with keywords -/
namespace VL
open PySem PySem.Spec PyProof.Rows L2

/-! ### enumerate -/
def itsD : D → Option (List D)
  | .tup ds => some ds
  | .lst ds => some ds
  | _ => none
def iEnumD (dv : DV) : DI := fun s => (dv s).bind fun d s1 => optO ((itsD d).map (enumD 0)) s1
section
variable {X : Cx} {k : Kc} {e : Expr} {p pos tpos : Pos} {elts : List Expr} {kk : Nat}
theorem si_enum {dv : DV} (he : SV X k e dv) (hm : X.mg "enumerate" = none) (hg : Gl X "enumerate" := by rfl) (hs : starEach [e] X.env = [(false, eval e X.env)] := by rfl) : SI X k (.Tuple elts kk tpos) (.Call (.Name "enumerate" p) [e] [] pos) (iEnumD dv) := ⟨fun W tk => ⟨fun pins st sv H R I h => (pi_enum2 hg hm (pa_cons (he.run W tk) pa_nil hs) hs).run pins st sv H R I (by
  obtain ⟨g, s, Rl, m⟩ := h
  refine ⟨g, s, Rl, ?_⟩
  unfold iEnumD at m
  cases e1 : dv s with
  | bad => rw [e1] at m; exact m
  | ex e' s' => rw [e1] at m; exact m
  | ok d s1 =>
    rw [e1, O.bind_ok] at m
    intro x g1 H1 R1 x1 hx
    cases d with
    | lst ds =>
      obtain ⟨q, vs, ev, h1, h2⟩ := hx
      subst ev
      exact ⟨q, rfl, .inl ⟨⟨vs, SqL.of (R1.sub _ _ h1)⟩, m _ g1 H1 R1 x1 (jok_enum (SqL.of (R1.sub _ _ h1)) (R1.fz h1) h2)⟩⟩
    | tup ds =>
      obtain ⟨q, vs, ev, h1, h2⟩ := hx
      subst ev
      refine ⟨q, rfl, .inr ⟨⟨vs, R1.sub.seqT h1⟩, m _ g1 H1 R1 x1 ?_⟩⟩
      rcases h1 with h1 | h1
      · have hw : ∀ o, H1 q = some o → g1.w q = none := by
          rcases h1 with h1 | ⟨o, h1⟩
          · exact R1.fz h1
          · exact R1.fz h1
        exact jok_enumT (R1.sub.seqT (.inl h1)) hw h2
      · refine { go := fun i e g2 H2 he x sb => ?_, stop := fun g2 H2 x => ⟨vs, .inr h1, by rw [enumD_length, h2.length]; exact Nat.le_refl _⟩ }
        obtain ⟨d, hd, rfl⟩ := enumD_get ds 0 i e he
        obtain ⟨v, e1, hv⟩ := h2.at hd
        refine ⟨⟨vs, v, .inr h1, e1⟩, fun y H3 hy => ?_⟩
        obtain ⟨T, u, ey, hT, e3, hy⟩ := hy
        subst ey e3
        have e4 := hy vs (.inr h1)
        rw [e1] at e4
        cases e4
        refine ⟨g2.lay T (.tup [.int (i : Nat), v]), fun s sv R => R.lay hT, fun s sv R => Ext.lay R hT, T, [.int (i : Nat), v], rfl, SqT.of lay_at, .int (i : Nat), [v], rfl, ?_, v, [], rfl, ?_, rfl⟩
        · show V.int _ = V.int _
          simp
        · have sG : Sub g2.G (g2.lay T (.tup [.int (i : Nat), v])).G := fun b o e => by
            show upd g2.G T _ b = some o
            rw [upd_ne (ne_of_none (sb _ _ e) hT)]
            exact e
          exact Rp.mono sG d v (Rp.mono x.G d v hv)
    | _ => exact m.elim)⟩⟩
end
/-! ### a op b op' c -/
def vChain (op op' : Op2) (da db dc : DV) : DV := fun s => (da s).bind fun a s1 => (db s1).bind fun b s2 => match op (.sh a) (.sh b) with
  | some (.bl true) => (dc s2).bind fun c s3 => optO (op' (.sh b) (.sh c)) s3
  | some (.bl false) => .ok (.bl false) s2
  | _ => .bad
section
variable {X : Cx} {k : Kc} {a b c : Expr} {pos : Pos}
theorem tChain_v {W : WX} {sv : L2.St} {H : Hp} {Q : VK} {r r' : R2} {op op' : Op2} {da db dc : DV} (S : R2S X.K r op) (S' : R2S X.K r' op') (h : tV X.K k W (vChain op op' da db dc) sv H Q) : tChain r r' (tV X.K k W da) (tV X.K k W db) (tV X.K k W dc) sv H Q := by
  obtain ⟨g, s, R, m⟩ := h
  refine ⟨g, s, R, ?_⟩
  unfold vChain at m
  cases e1 : da s with
  | bad => rw [e1] at m; exact m
  | ex e' s' => rw [e1] at m; exact m
  | ok x s1 =>
    rw [e1, O.bind_ok] at m
    intro v g1 H1 R1 x1 hv
    refine ⟨g1, s1, R1, ?_⟩
    cases e2 : db s1 with
    | bad => rw [e2] at m; exact m
    | ex e' s' => rw [e2] at m; exact exW.later x1 m
    | ok y s2 =>
      rw [e2, O.bind_ok] at m
      intro u g2 H2 R2 x2 hu
      cases e3 : op (.sh x) (.sh y) with
      | none => simp only [e3] at m
      | some z =>
        refine S.run k g2 H2 (fun _ _ => False) (fun _ _ => False) (.sh x) (.sh y) z v u _ R2.sub e3 (Rp.mono x2.G x v hv) hu fun w hw => ?_
        cases z with
        | bl t =>
          refine ⟨t, hw, ?_⟩
          cases t with
          | false =>
            simp only [e3] at m
            rw [if_neg Bool.false_ne_true]
            exact m _ g2 H2 R2 (x1.trans x2) rfl
          | true =>
            simp only [e3] at m
            rw [if_pos rfl]
            refine ⟨g2, s2, R2, ?_⟩
            cases e4 : dc s2 with
            | bad => rw [e4] at m; exact m
            | ex e' s' => rw [e4] at m; exact exW.later (x1.trans x2) m
            | ok zc s3 =>
              rw [e4, O.bind_ok] at m
              intro w' g3 H3 R3 x3 hw'
              cases e5 : op' (.sh y) (.sh zc) with
              | none => rw [e5] at m; exact m.elim
              | some res =>
                rw [e5] at m
                exact S'.run k g3 H3 (fun _ _ => False) (fun _ _ => False) (.sh y) (.sh zc) res u w' Q R3.sub e5 (Rp.mono x3.G y u hu) hw' fun q hq => m q g3 H3 R3 (x1.trans (x2.trans x3)) hq
        | _ => simp only [e3] at m
theorem v_chain {o o' : CmpOp} {r r' : R2} {op op' : Op2} {da db dc : DV} (ho : OpR X (compareOp o) r) (S : R2S X.K r op) (ho' : OpR X (compareOp o') r') (S' : R2S X.K r' op') (ha : SV X k a da) (hb : SV X k b db) (hc : SV X k c dc)
    (hm : lastMarks [o, o'] [b, c] = false := by with_unfolding_all rfl) : SV X k (.Compare a [o, o'] [b, c] pos) (vChain op op' da db dc) := ⟨fun W tk => (pe_chain ho ho' (ha.run W tk) (hb.run W tk) (hc.run W tk) hm).imp fun _ _ _ h => tChain_v S S' h⟩
theorem t_chain {o o' : CmpOp} {r r' : R2} {op op' : Op2} {da db dc : DV} (ho : OpR X (compareOp o) r) (S : R2S X.K r op) (ho' : OpR X (compareOp o') r') (S' : R2S X.K r' op') (ha : SV X k a da) (hb : SV X k b db) (hc : SV X k c dc)
    (hm : lastMarks [o, o'] [b, c] = false := by with_unfolding_all rfl) : ST X k (.Compare a [o, o'] [b, c] pos) (tV' (vChain op op' da db dc)) := ⟨fun W tk => (pt_chain ho ho' (ha.run W tk) (hb.run W tk) (hc.run W tk) hm).imp fun _ _ _ h => tChain_v S S' (tT_v h)⟩
end
/-! ### f(e, .., k = v, ..) -/
structure SKs (X : Cx) (k : Kc) (kws : List Keyword) (dk : DVs) : Prop where
  run : ∀ W, Takes X W → PK X kws (tVs X.K k W dk)
theorem _root_.L2.PK.imp {X : Cx} {e : List Keyword} {t t' : TA} (h : PK X e t) (i : ∀ sv H Q, t' sv H Q → t sv H Q) : PK X e t' := ⟨fun pos pins s sv H Q I hw => h.run pos pins s sv H Q I (i _ _ _ hw)⟩
section
variable {X : Cx} {k : Kc} {kws : List Keyword} {e : Expr} {nm : Option Str} {kpos : Pos}
theorem sk_nil : SKs X k [] vsNil := ⟨fun W _ => pk_nil.imp fun sv H Q h => by
  obtain ⟨g, s, R, m⟩ := h
  exact m [] g H R (Ext.refl _ _) rfl⟩
theorem sk_cons {da : DV} {db : DVs} (ha : SV X k e da) (hb : SKs X k kws db) : SKs X k (⟨nm, e, kpos⟩ :: kws) (vsCons da db) := ⟨fun W tk => (pk_cons (ha.run W tk) (hb.run W tk)).imp fun sv H Q h => by
  obtain ⟨g, s, R, m⟩ := h
  refine ⟨g, s, R, ?_⟩
  unfold vsCons at m
  cases e1 : da s with
  | bad => rw [e1] at m; exact m
  | ex e' s' => rw [e1] at m; exact m
  | ok d s1 =>
    rw [e1, O.bind_ok] at m
    intro v g1 H1 R1 x1 hv
    refine ⟨g1, s1, R1, ?_⟩
    cases e2 : db s1 with
    | bad => rw [e2] at m; exact m
    | ex e' s' => rw [e2] at m; exact exW.later x1 m
    | ok ds s2 =>
      rw [e2, O.bind_ok] at m
      intro vs g2 H2 R2 x2 hvs
      exact m (v :: vs) g2 H2 R2 (x1.trans x2) ⟨v, vs, rfl, Rp.mono x2.G d v hv, hvs⟩⟩
end
section
variable {X : Cx} {k k' : Kc} {lvl n np : Nat} {f C : Addr} {fd : FuncData} {ps ks : List Str} {φ : DF} {x : Str} {p pos apos : Pos} {e o : Expr} {es : List Expr} {kws : List Keyword} {m : Md} {das : DAs} {dk : DVs} {g : List Value → List Value → List Value} {gV : List V → List V → List V}
/-- f(e, .., k = v, ..): what is raised is wished for at the caller's slots -/
theorem pe_callNS {CX : CXT} {sp : Sp} {E : L2.St → XK} {t tk : TA} (F : FnOk X.prog X.w X.K X.mg X.base CX lvl f fd ps sp) (hr : Room lvl X.A) (hg : Gl X x) (hm : X.mg x = some (.ref f)) (hk : PySem.W.keepIn X.K (.ref f) = true) (hb : KBn X.K fd ps np ks g gV) (hx : ∀ σ, PassesAt CX X σ (E σ))
    (ha : PA X (e :: es) t) (hkw : PK X kws tk) (hall : (backToKw pos (keywordEach kws X.env)).all (·.1.isSome) = true) (hks : (backToKw pos (keywordEach kws X.env)).filterMap (·.1) = ks)
    (hdb : (x == ("__debug__" : Str)) = false) (he : starEach (e :: es) X.env = (false, eval e X.env) :: starEach es X.env)
    (hpl : ((backTo pos (starEach (e :: es) X.env)).any (·.1) || (backToKw pos (keywordEach kws X.env)).any (·.1.isNone)) = false) :
    PE X (.Call (.Name x p) (e :: es) kws pos) (fun σ H Q => t σ H fun vs H1 => tk σ H1 fun zs H2 => vs.length = np ∧ zs.length = ks.length ∧ sp (gV vs zs) H2 Q (E σ)) := by
  refine ⟨fun pins s σ H Q I h => ?_⟩
  refine wpAny_Call_Name_kw (ld_glob I hg hm ?_ hdb)
  refine PySem.W.callWith_KW (h₀ := X.base) I.ok.mod.kin hk hall (thn (ha.run pos pins s σ H _ I h) fun us s1 ⟨vs, H1, I1, r, q⟩ => ?_) hpl he
  refine thn (hkw.run pos pins s1 σ H1 _ I1 q) fun ws s2 ⟨zs, H2, I2, rz, l1, l2, q2⟩ => ⟨I2.kIn, ?_⟩
  rw [hks]
  have r2 := hb.rel r rz
  refine wpAny_call (codeAny_mono (F.run X.A X.stack s2 H2 ⟨us, ks.zip ws⟩ (g us ws) (gV vs zs) Q (E σ) hr I2.env0 (hb.to s2 us ws I2.kIn (r.length.symm.trans l1) (rz.length.symm.trans l2)) r2 q2) fun r s' hq => ?_)
  cases r with
  | error e => exact hx σ pins H2 s2 e s' I2 hq
  | ok fl =>
    cases fl with
    | ret u => exact I2.after hq
    | next => exact False.elim hq
    | brk => exact False.elim hq
    | cont => exact False.elim hq
theorem ArgL.app {K : PySem.W.Frag} {k : Kc} {G : Hp} {sv : L2.St} : ∀ {m : Md} {cs : List Cell} {vs : List V} {ds : List D} {ws : List V}, ArgL K k G sv m cs vs → RpL K k G ds ws → ArgL K k G sv (m ++ List.replicate ds.length none) (cs ++ ds.map Cell.sh) (vs ++ ws)
  | [], cs, vs, [], ws, h, r => by
    rw [h.1, h.2, show ws = [] from r]
    exact ⟨rfl, rfl⟩
  | [], cs, vs, d :: ds, ws, h, r => by
    obtain ⟨v, w, e, r1, r2⟩ := r
    rw [h.1, h.2, e]
    exact ⟨d, ds.map Cell.sh, v, w, rfl, rfl, r1, ArgL.app (m := []) (cs := []) (vs := []) ⟨rfl, rfl⟩ r2⟩
  | none :: m, _, _, ds, ws, h, r => by
    obtain ⟨d, cs', v, vs', e1, e2, r1, t⟩ := h
    subst e1 e2
    exact ⟨d, _, v, _, rfl, rfl, r1, ArgL.app t r⟩
  | some j :: m, _, _, ds, ws, h, r => by
    obtain ⟨cs', v, vs', e1, e2, r1, t⟩ := h
    subst e1 e2
    exact ⟨_, v, _, rfl, rfl, r1, ArgL.app t r⟩
def cCallK (m : Md) (nk : Nat) (das : DAs) (dk : DVs) (φ : DF) : DC := fun s => (das s).bind fun cs s1 => (dk s1).bind fun ds s2 => if ds.length = nk then cDo (m ++ List.replicate nk none) φ (cs ++ ds.map Cell.sh) s2 else .bad
/-- the keywords are all the parameters behind the positional ones, in order -/
theorem c_callK (F : FnOk X.prog X.w X.K X.mg X.base (L2.CX X.prog X.w) lvl f fd ps (spD X.K k' n φ)) (hr : Room lvl X.A) (hm : X.mg x = some (.ref f)) (hk : PySem.W.keepIn X.K (.ref f) = true) (hb : KBn X.K fd ps np ks (fun us ws => us ++ ws) (fun vs zs => vs ++ zs))
    (ha : SAs X k (e :: es) m das) (hkw : SKs X k kws dk) (hcl : k'.cl = k.cl) (ok : okM (m ++ List.replicate ks.length none) k'.io = true := by rfl) (hx : k'.xa = none := by rfl) (hn : (m ++ List.replicate ks.length none).length = n := by rfl) (hnp : m.length = np := by rfl) (hg : Gl X x := by rfl) (hdb : (x == ("__debug__" : Str)) = false := by decide)
    (hall : (backToKw pos (keywordEach kws X.env)).all (·.1.isSome) = true := by rfl) (hks : (backToKw pos (keywordEach kws X.env)).filterMap (·.1) = ks := by rfl) (he : starEach (e :: es) X.env = (false, eval e X.env) :: starEach es X.env := by rfl)
    (hpl : ((backTo pos (starEach (e :: es) X.env)).any (·.1) || (backToKw pos (keywordEach kws X.env)).any (·.1.isNone)) = false := by rfl) :
    SC X k (.Call (.Name x p) (e :: es) kws pos) (cCallK m ks.length das dk φ) := ⟨fun W tk => (pe_callNS F hr hg hm hk hb (fun σ => passAt tk σ) (ha.run W tk) (hkw.run W tk) hall hks hdb he hpl).imp fun sv H Q h => by
  obtain ⟨g, s, R, q⟩ := h
  refine ⟨g, s, R, ?_⟩
  unfold cCallK at q
  cases e1 : das s with
  | bad => rw [e1] at q; exact q
  | ex e' s' => rw [e1] at q; exact q
  | ok cs s1 =>
    rw [e1, O.bind_ok] at q
    intro vs g1 H1 R1 x1 A
    refine ⟨g1, s1, R1, ?_⟩
    cases e2 : dk s1 with
    | bad => rw [e2] at q; exact q
    | ex e' s' => rw [e2] at q; exact exW.later x1 q
    | ok ds s2 =>
      rw [e2, O.bind_ok] at q
      intro zs g2 H2 R2 x2 hz
      by_cases hl : ds.length = ks.length
      · rw [if_pos hl] at q
        refine ⟨A.len.trans hnp, by rw [← hz.length]; exact hl, ?_⟩
        have A2 := (A.mono x2.G).app hz
        rw [hl] at A2
        exact sp_of R2 (x1.trans x2) A2 ok hcl hx hn q
      · rw [if_neg hl] at q
        exact q.elim⟩
/-- f() -/
theorem pe_call0S {CX : CXT} {sp : Sp} {E : L2.St → XK} (F : FnOk X.prog X.w X.K X.mg X.base CX lvl f fd ps sp) (hr : Room lvl X.A) (hg : Gl X x) (hm : X.mg x = some (.ref f)) (hk : PySem.W.keepIn X.K (.ref f) = true) (hb : Binds X.K fd ps []) (hx : ∀ σ, PassesAt CX X σ (E σ)) (hdb : (x == ("__debug__" : Str)) = false) :
    PE X (.Call (.Name x p) [] [] pos) (fun σ H Q => sp [] H Q (E σ)) := by
  refine ⟨fun pins s σ H Q I h => ?_⟩
  refine wpAny_Call_Name_kw (ld_glob I hg hm ?_ hdb)
  exact PySem.W.callWith_K0 I.kIn hk (run_fnS (us := []) F hr hb (hx σ) I .nil h)
theorem c_call0 (F : FnOk X.prog X.w X.K X.mg X.base (L2.CX X.prog X.w) lvl f fd ps (spD X.K k' 0 φ)) (hr : Room lvl X.A) (hm : X.mg x = some (.ref f)) (hk : PySem.W.keepIn X.K (.ref f) = true) (hb : Binds X.K fd ps []) (hcl : k'.cl = k.cl) (hx : k'.xa = none := by rfl) (hg : Gl X x := by rfl) (hdb : (x == ("__debug__" : Str)) = false := by decide) :
    SC X k (.Call (.Name x p) [] [] pos) (cCall [] asNil φ) := ⟨fun W tk => (pe_call0S F hr hg hm hk hb (fun σ => passAt tk σ) hdb).imp fun sv H Q h => by
  obtain ⟨g, s, R, q⟩ := h
  exact sp_of (m := []) (cs := []) R (Ext.refl _ _) ⟨rfl, rfl⟩ (by rfl) hcl hx rfl q⟩
end
end VL
end
section
set_option maxRecDepth 100000
set_option maxHeartbeats 2000000
/-! VLT: is True; what the head's Bools say of the exception classes -/
namespace VL
open PySem PySem.Spec PyProof.Rows L2
section
variable {X : Cx}
theorem op_isB : OpR X (compareOp .Is) (fun x y H Q => ∃ a b, x = .bl a ∧ y = .bl b ∧ Q (.bl (a == b)) H) := by
  intro pins s σ H x y v u Q I rx ry h
  obtain ⟨a, b, rfl, rfl, q⟩ := h
  cases rx
  cases ry
  exact PyProof.Rows.is_bool (fin_bl I q rfl)
theorem op_isnotB : OpR X (compareOp .IsNot) (fun x y H Q => ∃ a b, x = .bl a ∧ y = .bl b ∧ Q (.bl (a != b)) H) := by
  intro pins s σ H x y v u Q I rx ry h
  obtain ⟨a, b, rfl, rfl, q⟩ := h
  cases rx
  cases ry
  exact PyProof.Rows.isnot_bool (fin_bl I q rfl)
end
def oIsB : Op2 := fun a b => match a, b with
  | .sh (.bl a), .sh (.bl b) => some (.bl (a == b))
  | _, _ => none
def oNotB : Op2 := fun a b => match a, b with
  | .sh (.bl a), .sh (.bl b) => some (.bl (a != b))
  | _, _ => none
section
variable {K : PySem.W.Frag}
theorem r2_isB : R2S K (fun x y H Q => ∃ a b, x = .bl a ∧ y = .bl b ∧ Q (.bl (a == b)) H) oIsB := ⟨fun k g H ow ow' c1 c2 d v1 v2 Q sb e h1 h2 q => by
  unfold oIsB at e
  split at e
  · cases e
    exact ⟨_, _, h1, h2, q _ rfl⟩
  · cases e⟩
theorem r2_notB : R2S K (fun x y H Q => ∃ a b, x = .bl a ∧ y = .bl b ∧ Q (.bl (a != b)) H) oNotB := ⟨fun k g H ow ow' c1 c2 d v1 v2 Q sb e h1 h2 q => by
  unfold oNotB at e
  split at e
  · cases e
    exact ⟨_, _, h1, h2, q _ rfl⟩
  · cases e⟩
end
theorem op_eqF {X : Cx} (hu : X.A.units + 64 < cLine) : OpR X (compareOp .Eq) (rEq2 X.K) := L2.OpR.or op_eq (op_eqD hu)
theorem op_neF {X : Cx} (hu : X.A.units + 64 < cLine) : OpR X (compareOp .NotEq) (rNe2 X.K) := L2.OpR.or op_ne (op_neD hu)
/-! ### the exception classes, by Bools -/
open PySem.W PySem.SupX PySem.HandSPX in
def clsB (K : Frag) (C : Addr) : Bool := match K.lookup C with
  | some ⟨.type t, _, .cls cd, sl⟩ => (match cd.mro, sl.toList with
    | .ref C' :: bm, [_, _, _, _, some (.builtin n), _] => t == "type" && (C' == C && (n == "ValueError.__new__" && (!cd.hasDel && (cd.hasDict && PySem.HandSPX.refsVE bm))))
    | _, _ => false)
  | _ => false
open PySem.W PySem.SupX PySem.HandSPX in
theorem clsB_ok {K : Frag} {C : Addr} (q : clsB K C = true) : ∃ nm q N bs bm sn sub ab col dd k0 k1 k2 k3 k5, K.lookup C = some (excClassObj nm q C N bs bm true sn sub ab col dd k0 k1 k2 k3 k5 "ValueError.__new__") ∧ refsVE bm = true := by
  unfold clsB at q
  split at q
  · rename_i t dd cd sl ho
    split at q
    · rename_i C' bm k0 k1 k2 k3 n k5 hm hs
      simp only [Bool.and_eq_true, beq_iff_eq, Bool.not_eq_true'] at q
      obtain ⟨rfl, rfl, rfl, hdel, hdd, ht⟩ := q
      obtain ⟨nm, bs, mro, ns, qn, hd, sn, sub, ab, col, del⟩ := cd
      dsimp only at hm hdel hdd
      subst hm hdel hdd
      have hsl : sl = #[k0, k1, k2, k3, some (.builtin "ValueError.__new__"), k5] := by
        obtain ⟨l⟩ := sl
        simp only at hs
        rw [hs]
      subst hsl
      exact ⟨nm, qn, ns, bs, bm, sn, sub, ab, col, dd, k0, k1, k2, k3, k5, ho, ht⟩
    · cases q
  · cases q
def scB (f : Str) (sc : Scope) : Bool :=
  decide (sc.kind = .function) && (!sc.isCoroutine && (!sc.isGenerator && ((sc.names.all fun x => decide (x.2 ≠ .cell)) && (decide (sc.names.lookup ("self" : Str) = some .local) && (decide (sc.names.lookup f = some .local) && (decide (sc.names.lookup ("super" : Str) = some .globalImplicit) && decide (sc.names.lookup ("__class__" : Str) = some .free)))))))
theorem scB_ok {f : Str} {sc : Scope} (h : scB f sc = true) : PySem.SupX.ScOk f sc := by
  unfold scB at h
  simp only [Bool.and_eq_true, decide_eq_true_eq, Bool.not_eq_true', List.all_eq_true] at h
  obtain ⟨h1, h2, h3, h4, h5, h6, h7, h8⟩ := h
  exact ⟨h1, h2, h3, h4, h5, h6, h7, h8⟩
/-- __init__: its function object -/
def iniB (K : PySem.W.Frag) (C fI : Addr) (f file : Str) : Bool := match K.lookup fI with
  | some ⟨_, _, .func fd, _⟩ => (match fd.params, fd.body, fd.closure, fd.code with
    | ⟨[], [⟨a1, none, _⟩, ⟨a2, none, _⟩], none, [], [], none, []⟩, .stmts [.Expr (.Call (.Attribute (.Call (.Name su _) [] [] _) ini q3) [.Constant (.str _) _ _] [] q5) _, .Assign [.Attribute (.Name se _) g _] (.Name h _) _], [(cn, cc)], .ref cda =>
      decide (a1 = ("self" : Str)) && (decide (a2 = f) && (decide (su = ("super" : Str)) && (decide (ini = ("__init__" : Str)) && (decide (se = ("self" : Str)) && (decide (g = f) && (decide (h = f) && (decide (cn = ("__class__" : Str)) && ((q3.endLine == q5.line) &&
        (decide (fd.name = ("__init__" : Str)) && (decide (fd.globals = mainGlobals) && (decide (fd.builtins = builtinsNs) && (decide (fd.defaults = .none) && (decide (fd.kwdefaults = .none) && (PySem.W.codeIn K (.ref cda) fd.qualname && (scB f fd.scope &&
        ((match K.lookup cda with
          | some ⟨_, _, .fields vs, _⟩ => (match (vs[2]? : Option Value) with
            | some (Value.str fl _) => decide (fl = file)
            | _ => false)
          | _ => false) && (match K.lookup cc with
          | some ⟨_, _, .cell (some (.ref D)), _⟩ => decide (D = C)
          | _ => false)))))))))))))))))
    | _, _, _, _ => false)
  | _ => false
theorem iniB_ok {K : PySem.W.Frag} {C fI : Addr} {f file : Str} (h : iniB K C fI f file = true) : ∃ (oc : Value) (od : Option Addr) (doc pm : Value) (an : Option Addr) (cda cc : Addr) (ct : Value) (osl : Array (Option Value)) (qual txt : Str) (j : Nat) (sc : Scope) (p1 p2 q1 q2 q3 q4 q5 q6 r1 r2 r3 r4 : Pos)
    (ccl : Value) (cdd : Option Addr) (vs : Array Value) (ccs : Array (Option Value)) (tf : Tok) (cl : Value) (cld : Option Addr) (csl : Array (Option Value)),
    K.lookup fI = some ⟨oc, od, .func (PySem.W.ksFn "__init__" qual (PySem.SupX.iA f p1 p2) (PySem.SupX.iB f txt j q1 q2 q3 q4 q5 q6 r1 r2 r3 r4) sc .none .none doc pm an (.ref cda) ct cc), osl⟩ ∧ PySem.W.codeIn K (.ref cda) qual = true ∧ PySem.SupX.ScOk f sc ∧
    K.lookup cda = some ⟨ccl, cdd, .fields vs, ccs⟩ ∧ vs[2]? = some (.str file tf) ∧ K.lookup cc = some ⟨cl, cld, .cell (some (.ref C)), csl⟩ ∧ (q3.endLine == q5.line) = true := by
  unfold iniB at h
  split at h
  · rename_i oc od fd osl ho
    split at h
    · rename_i a1 p1 a2 p2 su q1 q2 ini q3 txt j q4 q5 q6 se r1 g r2 hh r3 r4 cn cc cda e1 e2 e3 e4
      simp only [Bool.and_eq_true, decide_eq_true_eq] at h
      obtain ⟨h1, h2, h3, h4, h5, h6, h7, h8, h9, h10, h11, h12, h13, h14, h15, h16, h17, h18⟩ := h
      obtain ⟨n1, n2, n3, n4, n5, n6, n7, n8, n9, n10, n11, n12, n13, n14, n15⟩ := fd
      dsimp only at e1 e2 e3 e4 h10 h11 h12 h13 h14 h15 h16
      subst e1 e2 e3 e4 h1 h2 h3 h4 h5 h6 h8 h10 h11 h12 h13 h14
      split at h17
      · rename_i ccl cdd vs ccs hcd
        split at h17
        · rename_i fl tf hv
          have h17 := of_decide_eq_true h17
          subst h17
          split at h18
          · rename_i cl cld D csl hcc
            have h18 := of_decide_eq_true h18
            subst h18
            rw [h7] at ho
            exact ⟨oc, od, _, _, _, cda, cc, _, osl, _, _, _, _, _, _, _, _, _, _, _, _, _, _, _, _, ccl, cdd, vs, ccs, tf, cl, cld, csl, ho, h15, scB_ok h16, hcd, hv, hcc, h9⟩
          · cases h18
        · cases h17
      · cases h17
    · cases h
  · cases h
/-- the class named x: super().__init__('..'), then the field f -/
def supB (K : PySem.W.Frag) (x f file : Str) : Bool :=
  clsB K (He.ga K x) && (He.eqO (PySem.W.findIn K (.ref (He.ga K x)) "__setattr__") (some (some (.builtin "object.__setattr__"))) && (He.eqO (PySem.W.findIn K (.ref (He.ga K x)) "__getattribute__") (some (some (.builtin "BaseException.__getattribute__"))) &&
  (He.eqO (PySem.W.findIn K (.ref (He.ga K x)) "__getattr__") (some none) && (He.eqO (PySem.W.findIn K (.ref (He.ga K x)) f) (some none) && (He.eqO (PySem.W.findIn K (.ref (He.ga K x)) "__init__") (some (some (.ref (He.ma K (He.ga K x) "__init__")))) &&
  (decide (PySem.W.typeIn K (.ref (He.ma K (He.ga K x) "__init__")) = some (.type "function")) && (PySem.W.keepIn K (.ref (He.ga K x)) && (decide (PySem.W.subIn K (.ref (He.ga K x)) (.type "BaseException") = some true) && (decide (PySem.W.subIn K (.ref (He.ga K x)) (.type "ValueError") = some true) &&
  (decide (PySem.W.typeIn K (.ref (He.ga K x)) = some (.type "type")) && (PySem.W.hasDictIn K (He.ga K x) && (decide (PySem.W.mroIn K (He.ga K x) (.ref (He.ga K x)) = some true) && (He.eqO (PySem.W.ks_superIn K (He.ga K x) (He.ga K x) "__init__") (some (some (.builtin "ValueError.__init__"))) &&
  (He.eqO (PySem.W.nsIn K cStatics "thirdparty.any") (some none) && (He.eqO (PySem.W.nsIn K mainGlobals "super") (some none) && (decide (f ≠ ("self" : Str)) && (decide ((f == ("__debug__" : Str)) = false) && iniB K (He.ga K x) (He.ma K (He.ga K x) "__init__") f file)))))))))))))))))
theorem supB_ok {K : PySem.W.Frag} {x f file : Str} (h : supB K x f file = true) : PySem.SupX.SupTxt K (He.ga K x) (He.ma K (He.ga K x) "__init__") f file := by
  unfold supB at h
  simp only [Bool.and_eq_true, decide_eq_true_eq] at h
  obtain ⟨h1, h2, h3, h4, h5, h6, h7, h8, h9, h10, h11, h12, h13, h14, h15, h16, h17, h18, h19⟩ := h
  exact { cls := clsB_ok h1, sa := He.eqO_ok h2, ga := He.eqO_ok h3, gg := He.eqO_ok h4, noN := He.eqO_ok h5, iC := He.eqO_ok h6, tC := h7, kC := h8, exC := h9, veC := h10, tyC := h11, hdC := h12, ms := h13, si := He.eqO_ok h14, op := He.eqO_ok h15, su := He.eqO_ok h16, nf := ⟨h17, h18⟩, fn := iniB_ok h19 }
/-- which classes a clause for the class named y catches -/
def catB (K : PySem.W.Frag) (cl : Nat → Addr) (y : Str) (bs : List (Option Bool)) : Bool := (List.range bs.length).all fun j => match bs[j]? with
  | some (some b) => decide (PySem.W.exmOne K (.ref (cl j)) (.ref (He.ga K y)) = some b)
  | _ => true
def catOf (bs : List (Option Bool)) : Cat := fun j => match bs[j]? with
  | some r => r
  | none => none
theorem catB_ok {K : PySem.W.Frag} {cl : Nat → Addr} {y : Str} {bs : List (Option Bool)} (h : catB K cl y bs = true) (j : Nat) (b : Bool) (e : catOf bs j = some b) : PySem.W.exmOne K (.ref (cl j)) (.ref (He.ga K y)) = some b := by
  unfold catOf at e
  cases q : bs[j]? with
  | none => rw [q] at e; cases e
  | some r =>
    rw [q] at e
    simp only at e
    subst e
    have hl : j < bs.length := (List.getElem?_eq_some_iff.mp q).1
    have z := List.all_eq_true.mp h j (List.mem_range.mpr hl)
    rw [q] at z
    exact of_decide_eq_true z
end VL
end
section
set_option maxRecDepth 100000
set_option maxHeartbeats 2000000
/-! VLU: xs[i] op= e -/
namespace VL
open PySem PySem.Spec PyProof.Rows L2
theorem get_list {X : Cx} : PGet X (rIxL X.K) := by
  intro pins s σ H x y v u Q I rx ry h
  obtain ⟨p, xs, i, z, rfl, rfl, hq, he, q⟩ := h
  cases rx
  obtain ⟨t, rfl⟩ := ry
  obtain ⟨its, r, pl, hz⟩ := I.list hq
  obtain ⟨j, h1, h2, h3, h4, h5⟩ := atI_get he
  obtain ⟨w, ew, rw'⟩ := r.get h2
  have hl := r.length
  have hn := line63
  have fin : EP X pins σ Q w s := ⟨z, H, I, rw', q⟩
  by_cases h0 : 0 ≤ i
  · have hj : i.toNat = j := by
      rw [seqIndex_of h0 h5] at h1
      exact Option.some.inj h1
    exact wpAny_getItem_list pl.isList h0 (by omega) (by rw [hj]; simpa using ew) fin
  · have hj : (i + (its.toArray.size : Int)).toNat = j := by
      rw [seqIndex_neg (by omega) h4] at h1
      rw [List.size_toArray, ← hl]
      exact Option.some.inj h1
    exact wpAny_getItem_list_neg pl.isList (by omega) (by rw [List.size_toArray] <;> omega) (by omega) (by rw [hj]; simpa using ew) fin
def sAugIx (op : Op2) (i : Nat) (di dv : DV) : DS := fun s => match s[i]? with
  | some (.ol _) => oS (di s) fun j s1 => match s1[i]?, j with
    | some (.ol ds), .int j => match atI ds j with
      | some x => oS (dv s1) fun y s2 => match s2[i]?, op (.sh x) (.sh y) with
        | some (.ol ds2), some z => match ixN ds2.length j with
          | some n => .nx (s2.set i (.ol (ds2.set n z)))
          | none => .bad
        | _, _ => .bad
      | none => .bad
    | _, _ => .bad
  | _ => .bad
section
variable {X : Cx} {k : Kc} {i : Nat} {x : Str} {e ix : Expr} {p1 p2 pos : Pos}
theorem s_augIx {o : Operator} {r : R2} {op : Op2} {di dv : DV} (ho : OpR X (inplaceOp o) r) (S : R2S X.K r op) (hj : SV X k ix di) (he : SV X k e dv) (hN : X.N[i]? = some x := by rfl) (hv : Vis X.env.scope x := by first | exact Or.inl rfl | exact Or.inr (Or.inl rfl) | exact Or.inr (Or.inr rfl)) (hd : (x == ("__debug__" : Str)) = false := by decide)
    (hcd : (x == ("__classdict__" : Str)) = false := by decide) (ha : ∀ ov iv new, augStore ix ov iv new = (do holding [new, ov, iv] (setItem ov iv new); release [new, ov, iv] []; pure .next) := by intros; rfl) :
    SS X k (.AugAssign (.Subscript (.Name x p1) ix p2) o e pos) (sAugIx op i di dv) := ⟨fun W tk po => (ps_augS (tip := r) (pe_var hN hv hd hcd) (hj.run W tk) get_list (he.run W tk) ho set_list ha).imp fun D sv H h => by
  rw [tS_eq] at h
  obtain ⟨g, s, R, m⟩ := h
  unfold sAugIx at m
  cases q : s[i]? with
  | none => simp only [q] at m; exact m.elim
  | some c =>
    cases c with
    | ol ds0 =>
      simp only [q] at m
      obtain ⟨a, vs0, e1, hw0, hH0, _⟩ := ol_at R q
      refine ⟨.ref a, e1, g, s, R, ?_⟩
      cases e2 : di s with
      | bad => simp only [e2, oS] at m; exact m
      | ex e' s' => simp only [e2, oS] at m; exact m
      | ok j s1 =>
        simp only [e2, oS] at m
        intro y g1 H1 R1 x1 hy
        cases q1 : s1[i]? with
        | none => simp only [q1] at m; exact m.elim
        | some c1 =>
          cases c1 with
          | ol ds =>
            cases j with
            | int j =>
              simp only [q1] at m
              cases q2 : atI ds j with
              | none => simp only [q2] at m; exact m.elim
              | some xd =>
                simp only [q2] at m
                obtain ⟨a', vs, e1', hw, hH, hr⟩ := ol_at R1 q1
                rw [e1] at e1'
                cases e1'
                obtain ⟨xv, hxv, rx⟩ := atI_rp hr q2
                refine ⟨a, vs, j, xv, rfl, hy, SqL.of hH, hxv, g1, s1, R1, ?_⟩
                cases e3 : dv s1 with
                | bad => simp only [e3] at m; exact m
                | ex e' s' => simp only [e3] at m; exact exW.later x1 m
                | ok yd s2 =>
                  simp only [e3] at m
                  intro yv g2 H2 R2 x2 hyv
                  cases q3 : s2[i]? with
                  | none => simp only [q3] at m; exact m.elim
                  | some c2 =>
                    cases c2 with
                    | ol ds2 =>
                      cases q4 : op (.sh xd) (.sh yd) with
                      | none => simp only [q3, q4] at m; exact m.elim
                      | some zd =>
                        simp only [q3, q4] at m
                        refine S.run k g2 H2 (fun _ _ => False) (fun _ _ => False) (.sh xd) (.sh yd) zd xv yv _ R2.sub q4 (Rp.mono x2.G xd xv rx) hyv fun zv hzv => ?_
                        obtain ⟨a', vs2, e1', hw2, hH2, hr2⟩ := ol_at R2 q3
                        rw [e1] at e1'
                        cases e1'
                        cases q5 : ixN ds2.length j with
                        | none => simp only [q5] at m; exact m.elim
                        | some n =>
                          simp only [q5] at m
                          obtain ⟨R3, x3⟩ := ol_wr R2 e1 hw2 (hr2.set n hzv)
                          exact ⟨a, vs2, j, n, rfl, hy, hH2, by rw [← hr2.length]; exact q5, m g2 sv _ R3 ((x1.trans x2).trans x3)⟩
                    | _ => simp only [q3] at m; exact m.elim
            | _ => simp only [q1] at m; exact m.elim
          | _ => simp only [q1] at m; exact m.elim
    | _ => simp only [q] at m; exact m.elim⟩
end
end VL
end
section
set_option maxRecDepth 100000
set_option maxHeartbeats 2000000
/-! VLZ: the law's end -/
namespace VL
open PySem PySem.Spec PyProof.Rows L2
theorem law_sp {K : PySem.W.Frag} {k : Kc} {φ : DF} {H : Hp} {a : Addr} {ns : List Int} {fin : List Cell} (hS : SqL K H a (ns.map V.int)) (h : φ [.bl (ns.map D.int)] = .ok (.sh (.bl true)) fin) :
    spD K k 1 φ [.ref a] H (fun v _ => v = .bl true) fun _ _ _ => False := by
  refine ⟨rfl, ⟨fun _ => none, fun _ => none, fun b => b = a ∧ H b ≠ none, []⟩, [.bl (ns.map D.int)], ⟨rfl, (fun p o e => by cases e), (fun b q e => by cases e), (fun b e => ⟨rfl, e.2⟩), (fun i c e n => ?_), (fun i v e => by cases e), (fun i v e => by cases e)⟩, ?_⟩
  · cases i with
    | zero =>
      cases e
      refine ⟨.ref a, rfl, a, ns.map V.int, rfl, ?_, hS, RpL.ints ns⟩
      rcases hS with hS | hS
      · refine .inl ⟨rfl, ?_⟩
        rcases hS with h | ⟨o, h⟩ <;> rw [h] <;> simp
      · exact .inr hS
    | succ i => cases e
  · rw [h]
    exact fun v g' sv' H' t _ _ _ _ hv => hv
/-- no exception leaves the law: it asks for none -/
theorem cx_none {P : Program} {w : World} (H : Hp) (s : Shared) (e : Value) (s' : Shared) (h : L2.CX P w [] H s (fun _ _ _ => False) e s') : False := by
  obtain ⟨_, _, _, _, _, _, _, _, _, _, _, _, z⟩ := h
  exact z
/-- the same, at whatever world -/
def CXe (P : Program) : CXT := fun o H s E e s' => ∃ w, L2.CX P w o H s E e s'
theorem cxe_none {P : Program} (H : Hp) (s : Shared) (e : Value) (s' : Shared) (h : CXe P [] H s (fun _ _ _ => False) e s') : False := by
  obtain ⟨w, h⟩ := h
  exact cx_none H s e s' h
theorem fn_cxe {P : Program} {w : World} {K : PySem.W.Frag} {mg : Str → Option Value} {base : Heap} {k : Nat} {f : Addr} {fd : FuncData} {ps : List Str} {sp : Sp} (F : FnOk P w K mg base (L2.CX P w) k f fd ps sp) : FnOk P w K mg base (CXe P) k f fd ps sp :=
  ⟨F.len, fun A outer s H args us vs Q E hr he hb hv hs => codeAny_mono (F.run A outer s H args us vs Q E hr he hb hv hs) fun r s' q => by
    cases r with
    | ok fl => cases fl <;> exact q
    | error e => exact ⟨w, q⟩⟩
end VL
end
section
set_option maxRecDepth 100000
set_option maxHeartbeats 2000000
/-! VLH: the head's Hook, the statics' table beside the module's objects -/
namespace VL
open PySem PySem.Spec PyProof.Rows L2 He
def asY (g : Addr → Option Obj) (n : Nat) : List Addr := asD g n ++ [cStatics]
abbrev AlY : Type := AlD × Bool
def obsY (n : Nat) (fa : List Fa) (fn : List DefD) (ex : PySem.W.Frag → Bool) (g : Addr → Option Obj) : AlY := (obsD fa fn (frT g (asY g n)), ex (frT g (asY g n)))
def valY (fn : List DefD) : AlY := (valD fn, true)
structure SaysY (fa : List Fa) (fn : List DefD) (ex : PySem.W.Frag → Bool) (K : PySem.W.Frag) : Prop where
  d : SaysD fa fn K
  more : ex K = true
def hookY (n : Nat) (fa : List Fa) (fn : List DefD) (ex : PySem.W.Frag → Bool) : PySem.W.Hook where
  α := AlY
  obs := fun s => obsY n fa fn ex s.heap.get?
  val := fun _ => valY fn
  says := fun _ h => ∃ K : PySem.W.Frag, K.In h ∧ SaysY fa fn ex K
  of := fun _ _ e => ⟨_, frT_in, congrArg (fun z : AlY => z.1) e, congrArg (fun z : AlY => z.2) e⟩
  keeps := fun _ _ _ ⟨K, hK, c⟩ k => ⟨K, PySem.W.Frag.In.keeps hK k, c⟩
theorem obsY_eq {n : Nat} {fa : List Fa} {fn : List DefD} {ex : PySem.W.Frag → Bool} {g : Addr → Option Obj} {s : Shared} (h : ∀ a, g a = s.heap.get? a) : obsY n fa fn ex g = (hookY n fa fn ex).obs s := by
  have e : g = s.heap.get? := funext h
  rw [e] <;> rfl
end VL
end
section
set_option maxRecDepth 100000
set_option maxHeartbeats 2000000
/-! VLN: further words: sum of a tuple -/
namespace VL
open PySem PySem.Spec PyProof.Rows L2
section
variable {prog : Program} {w : World} {A : Around} {E : Value → Shared → Prop} {s : Shared} {l : Addr}
theorem kept_over {h' : Heap} {ob : Obj} (hk : ∀ b o, b ∉ [s.heap.objs.size] → (s.heap.push ob).get? b = some o → h'.get? b = some o) (b : Addr) (o : Obj) (e : s.heap.get? b = some o) : h'.get? b = some o := by
  refine hk b o (fun hm => ?_) (Heap.get?_push_of_some _ e)
  have hb : b = s.heap.objs.size := by simpa using hm
  exact absurd (hb ▸ Heap.lt_size e) (Nat.lt_irrefl _)
theorem sum_tup {xs : Array (Int × Tok)} {Q : Value → Shared → Prop} (hh : A.handled = none) (hl : s.heap.IsTuple l (intItems xs))
    (h : ∀ h' tk t', (∀ b o, s.heap.get? b = some o → h'.get? b = some o) → Q (.int (preSum (numAt xs) xs.size) t') { s with heap := h', toks := tk }) :
    wpAny (model prog w) A (call (.builtin "sum") [.ref l]) Q E s := by
  have hlt : l < s.heap.objs.size := by
    obtain ⟨_, e, _⟩ := hl
    exact Heap.lt_size e
  refine call_sum_walkG (wpAny_pyIter_tuple hl ?_)
  refine ⟨_, _, _, _, _, _, numAt xs, rfl, Walks.tuple (A := A.in1) hh _ l (Nat.ne_of_lt hlt) (intItems xs), ⟨⟨_, Heap.get?_push_size _ rfl, rfl, rfl⟩, hl.at fun o e => Heap.get?_push_of_some _ e⟩, fun b hb => ?_, (fun _ _ => intItems_at), fun h' tk t' hk => ?_⟩
  · show b < (s.heap.push _).objs.size
    rw [Heap.size_push]
    have hb' : b = s.heap.objs.size ∨ b = l := by simpa using hb
    rcases hb' with hb' | hb'
    · rw [hb']
      exact Nat.lt_succ_self _
    · rw [hb']
      exact Nat.lt_succ_of_lt hlt
  · have := h h' tk t' (kept_over hk)
    simpa [intItems] using this
theorem sum_tup_ints {its : List Value} {ns : List Int} {Q : Value → Shared → Prop} (hh : A.handled = none) (hl : s.heap.IsTuple l its.toArray) (hi : IntsAre its ns)
    (h : ∀ h' tk t', (∀ b o, s.heap.get? b = some o → h'.get? b = some o) → Q (.int ns.sum t') { s with heap := h', toks := tk }) :
    wpAny (model prog w) A (call (.builtin "sum") [.ref l]) Q E s := by
  obtain ⟨xs, e⟩ := hi.allInts.items
  have hn := hi.numsOf
  rw [show its = (intItems xs).toList by rw [← e], nums_intItems] at hn
  rw [e] at hl
  refine sum_tup hh hl fun h' tk t' hk => ?_
  rw [preSum_eq, List.take_of_length_le (by simp), hn]
  exact h h' tk t' hk
end
def rSumA (K : PySem.W.Frag) : List V → Hp → VK → Prop := fun vs H Q => ∃ (a : Addr) (ns : List Int), vs = [V.ref a] ∧ (SqL K H a (ns.map V.int) ∨ SqT K H a (ns.map V.int)) ∧ Q (.int ns.sum) H
theorem cr_sumA {X : Cx} (hc : X.calm = true) : CallR X (.builtin "sum") (rSumA X.K) := by
  intro pins s σ H vs us Q I r h
  obtain ⟨a, ns, rfl, hs, q⟩ := h
  rcases hs with hs | hs
  · exact cr_sum hc pins s σ H _ us Q I r ⟨a, ns, rfl, hs, q⟩
  · obtain ⟨its, rv, hl, _⟩ := I.tuple hs
    rw [Vals.ref1 r]
    exact sum_tup_ints (I.ok.hd hc) hl rv.ints fun h' tk t' hk => ⟨.int _, H, I.kept hk, ⟨_, rfl⟩, q⟩
theorem c1_sumA {K : PySem.W.Frag} : C1S K (rSumA K) oSum := ⟨fun k g H ow c d v Q sb e h q => by
  unfold oSum at e
  cases hi : its c with
  | none => rw [hi] at e; cases e
  | some ds =>
    cases hn : intsD ds with
    | none => simp only [hi, hn, Option.bind_some, Option.map_none] at e; cases e
    | some ns =>
      simp only [hi, hn, Option.bind_some, Option.map_some] at e
      cases e
      obtain ⟨a, vs, ev, hs, hr⟩ := CV.its sb hi h
      refine ⟨a, ns, by rw [ev], ?_, q _ rfl⟩
      rw [← intsD_ok hn hr]
      exact hs⟩
end VL
end
section
set_option maxRecDepth 100000
set_option maxHeartbeats 2000000
/-! VM1: reasoning about denotations -/
namespace VL
open PySem PySem.Spec L2
/-! what is known of a part goes on: by functions of their own, so that simp meets no match -/
def unO : Option Cell → Option Cell
  | some .un => none
  | r => r
def op2O (op : Op2) : Option Cell → Option Cell → Option Cell
  | some a, some b => (op a b).map Cell.sh
  | _, _ => none
def op1O (op : Op1) : Option Cell → Option Cell
  | some c => (op c).map Cell.sh
  | none => none
def qvO (s : List Cell) : Option Cell → O D
  | some (.sh d) => .ok d s
  | _ => .bad
def bvO : O D → O Bool
  | .ok (.bl b) s => .ok b s
  | .ex e s => .ex e s
  | _ => .bad
def frO (s : List Cell) : Option D → O D
  | some d => .ok d s
  | none => .bad
def cvO : O Cell → O D
  | .ok c s => frO s (frzD c)
  | .ex e s => .ex e s
  | .bad => .bad
def vcO : O D → O Cell
  | .ok d s => .ok (.sh d) s
  | .ex e s => .ex e s
  | .bad => .bad
def vv2 (i : Nat) (s : List Cell) : Option D → O D
  | some d => .ok d (s.set i (.sh d))
  | none => .bad
def vvO (i : Nat) (s : List Cell) : Option Cell → O D
  | some (.sh d) => .ok d s
  | some c => vv2 i s (frzD c)
  | none => .bad
def ccO (i : Nat) (s : List Cell) : Option Cell → O Cell
  | some .un => .bad
  | some c => .ok c (s.set i .un)
  | none => .bad
def andO (b : DV) (s : List Cell) : D → O D
  | .bl true => b s
  | .bl false => .ok (.bl false) s
  | _ => .bad
def orO (b : DV) (s : List Cell) : D → O D
  | .bl true => .ok (.bl true) s
  | .bl false => b s
  | _ => .bad
def notO (s : List Cell) : D → O D
  | .bl b => .ok (.bl (!b)) s
  | _ => .bad
def slO (o : O (List Cell)) : Option Cell → O (List Cell)
  | none => .bad
  | some .un => .bad
  | some _ => o.bind fun cs s2 => .ok (.un :: cs) s2
def doO (m : Md) (s : List Cell) : O Cell → O Cell
  | .ok c fin => .ok c (backA m fin s)
  | .ex e fin => .ex e (backA m fin s)
  | .bad => .bad
def arO : Option Cell → Cell
  | some c => if plC c then c else .un
  | none => .un
def asgO : Option (List Cell) → SO
  | some s2 => .nx s2
  | none => .bad
def c1O (op : Cell → Option Cell) (s : List Cell) : Option Cell → O Cell
  | some a => optO (op a) s
  | none => .bad
def ap2 (i : Nat) (d : D) (s : List Cell) : Option Cell → O D
  | some (.ol ds) => if ds.length < 16777216 then .ok .non (s.set i (.ol (ds ++ [d]))) else .bad
  | _ => .bad
def apO (i : Nat) (o : O D) : Option Cell → O D
  | some (.ol _) => o.bind fun d s1 => ap2 i d s1 s1[i]?
  | _ => .bad
def ix2 (op : Op2) (b : D) (s : List Cell) : Option Cell → O D
  | some .un => .bad
  | some c => optO (op c (.sh b)) s
  | none => .bad
def ixO1 (op : Op2) (i : Nat) (o : O D) : Option Cell → O D
  | some .un => .bad
  | none => .bad
  | some _ => o.bind fun b s1 => ix2 op b s1 s1[i]?
def au2 (i : Nat) (s : List Cell) : Option D → SO
  | some d => .nx (s.set i (.sh d))
  | none => .bad
def auO (op : Op2) (i : Nat) (o : O D) : Option Cell → SO
  | some (.sh x) => oS o fun y s1 => au2 i s1 (op (.sh x) (.sh y))
  | _ => .bad
def po2 (i : Nat) (ds : List D) (s : List Cell) : Option D → O D
  | some d => .ok d (s.set i (.ol ds.dropLast))
  | none => .bad
def poO (i : Nat) (s : List Cell) : Option Cell → O D
  | some (.ol ds) => po2 i ds s ds.getLast?
  | _ => .bad
def reO (i : Nat) (s : List Cell) : Option Cell → O D
  | some (.ol ds) => .ok .non (s.set i (.ol ds.reverse))
  | _ => .bad
def bsO (s : List Cell) : D → O (Option Int)
  | .int i => .ok (some i) s
  | _ => .bad
def isO (t u : Ty5) (s : List Cell) : Option Cell → O D
  | some c => optO (oIsi2 t u c) s
  | none => .bad
def chO (op' : Op2) (b : D) (dc : DV) (s : List Cell) : Option D → O D
  | some (.bl true) => (dc s).bind fun c s3 => optO (op' (.sh b) (.sh c)) s3
  | some (.bl false) => .ok (.bl false) s
  | _ => .bad
section
variable {s : List Cell}
@[simp] theorem unO_sh (d : D) : unO (some (.sh d)) = some (.sh d) := (rfl)
@[simp] theorem unO_ol (d : List D) : unO (some (.ol d)) = some (.ol d) := (rfl)
@[simp] theorem unO_bl (d : List D) : unO (some (.bl d)) = some (.bl d) := (rfl)
@[simp] theorem unO_xn (e : Ex) : unO (some (.xn e)) = some (.xn e) := (rfl)
@[simp] theorem unO_oi (c : Nat) (ns : List Str) (cs : List Cell) : unO (some (.oi c ns cs)) = some (.oi c ns cs) := (rfl)
@[simp] theorem unO_bi (c : Nat) (ns : List Str) (cs : List Cell) : unO (some (.bi c ns cs)) = some (.bi c ns cs) := (rfl)
@[simp] theorem a_qVar (i : Nat) : qVar i s = unO s[i]? := (rfl)
@[simp] theorem a_qC (d : D) : qC d s = some (.sh d) := (rfl)
@[simp] theorem a_qOp (op : Op2) (a b : DQ) : qOp op a b s = op2O op (a s) (b s) := (rfl)
@[simp] theorem op2O_ok (op : Op2) (a b : Cell) : op2O op (some a) (some b) = (op a b).map Cell.sh := (rfl)
@[simp] theorem a_qUn (op : Op1) (a : DQ) : qUn op a s = op1O op (a s) := (rfl)
@[simp] theorem op1O_ok (op : Op1) (a : Cell) : op1O op (some a) = (op a).map Cell.sh := (rfl)
@[simp] theorem a_vQ (q : DQ) : vQ q s = qvO s (q s) := (rfl)
@[simp] theorem qvO_ok (d : D) : qvO s (some (.sh d)) = .ok d s := (rfl)
@[simp] theorem a_vOp (op : Op2) (a b : DV) : vOp op a b s = (a s).bind fun a s1 => (b s1).bind fun b s2 => optO (op (.sh a) (.sh b)) s2 := (rfl)
@[simp] theorem a_vUn (op : Op1) (a : DV) : vUn op a s = (a s).bind fun a s1 => optO (op (.sh a)) s1 := (rfl)
@[simp] theorem a_bind_ok {α β : Type} (a : α) (f : α → List Cell → O β) : (O.ok a s).bind f = f a s := (rfl)
@[simp] theorem a_bind_ex {α β : Type} (e : Ex) (f : α → List Cell → O β) : (O.ex e s : O α).bind f = .ex e s := (rfl)
@[simp] theorem a_optO_some {α : Type} (a : α) : optO (some a) s = .ok a s := (rfl)
@[simp] theorem a_tV' (v : DV) : tV' v s = bvO (v s) := (rfl)
@[simp] theorem bvO_ok (b : Bool) : bvO (.ok (.bl b) s) = .ok b s := (rfl)
@[simp] theorem bvO_ex (e : Ex) : bvO (.ex e s) = .ex e s := (rfl)
@[simp] theorem a_vC (c : DC) : vC c s = cvO (c s) := (rfl)
@[simp] theorem cvO_ok (c : Cell) : cvO (.ok c s) = frO s (frzD c) := (rfl)
@[simp] theorem cvO_ex (e : Ex) : cvO (.ex e s) = .ex e s := (rfl)
@[simp] theorem frO_ok (d : D) : frO s (some d) = .ok d s := (rfl)
@[simp] theorem a_cV (v : DV) : cV v s = vcO (v s) := (rfl)
@[simp] theorem vcO_ok (d : D) : vcO (.ok d s) = .ok (.sh d) s := (rfl)
@[simp] theorem vcO_ex (e : Ex) : vcO (.ex e s) = .ex e s := (rfl)
@[simp] theorem a_vVar (i : Nat) : vVar i s = vvO i s s[i]? := (rfl)
@[simp] theorem vvO_sh (i : Nat) (d : D) : vvO i s (some (.sh d)) = .ok d s := (rfl)
@[simp] theorem vvO_ol (i : Nat) (d : List D) : vvO i s (some (.ol d)) = .ok (.lst d) (s.set i (.sh (.lst d))) := (rfl)
@[simp] theorem vvO_oi (i : Nat) (c : Nat) (ns : List Str) (cs : List Cell) : vvO i s (some (.oi c ns cs)) = vv2 i s (frzD (.oi c ns cs)) := (rfl)
@[simp] theorem vv2_ok (i : Nat) (d : D) : vv2 i s (some d) = .ok d (s.set i (.sh d)) := (rfl)
@[simp] theorem a_cVar (i : Nat) : cVar i s = ccO i s s[i]? := (rfl)
@[simp] theorem ccO_sh (i : Nat) (d : D) : ccO i s (some (.sh d)) = .ok (.sh d) (s.set i .un) := (rfl)
@[simp] theorem ccO_ol (i : Nat) (d : List D) : ccO i s (some (.ol d)) = .ok (.ol d) (s.set i .un) := (rfl)
@[simp] theorem ccO_bl (i : Nat) (d : List D) : ccO i s (some (.bl d)) = .ok (.bl d) (s.set i .un) := (rfl)
@[simp] theorem ccO_oi (i : Nat) (c : Nat) (ns : List Str) (cs : List Cell) : ccO i s (some (.oi c ns cs)) = .ok (.oi c ns cs) (s.set i .un) := (rfl)
@[simp] theorem ccO_bi (i : Nat) (c : Nat) (ns : List Str) (cs : List Cell) : ccO i s (some (.bi c ns cs)) = .ok (.bi c ns cs) (s.set i .un) := (rfl)
@[simp] theorem a_vAnd (a b : DV) : vAnd a b s = (a s).bind fun a s1 => andO b s1 a := (rfl)
@[simp] theorem andO_t (b : DV) : andO b s (.bl true) = b s := (rfl)
@[simp] theorem andO_f (b : DV) : andO b s (.bl false) = .ok (.bl false) s := (rfl)
@[simp] theorem a_vOr (a b : DV) : vOr a b s = (a s).bind fun a s1 => orO b s1 a := (rfl)
@[simp] theorem orO_t (b : DV) : orO b s (.bl true) = .ok (.bl true) s := (rfl)
@[simp] theorem orO_f (b : DV) : orO b s (.bl false) = b s := (rfl)
@[simp] theorem a_vNot (a : DV) : vNot a s = (a s).bind fun a s1 => notO s1 a := (rfl)
@[simp] theorem notO_ok (b : Bool) : notO s (.bl b) = .ok (.bl (!b)) s := (rfl)
@[simp] theorem a_tAnd (a b : DT) : tAndD a b s = (a s).bind fun a s1 => if a = true then b s1 else .ok false s1 := (rfl)
@[simp] theorem a_tOr (a b : DT) : tOrD a b s = (a s).bind fun a s1 => if a = true then .ok true s1 else b s1 := (rfl)
@[simp] theorem a_tNot (a : DT) : tNotD a s = (a s).bind fun a s1 => .ok (!a) s1 := (rfl)
@[simp] theorem a_tYes : tYesD s = .ok true s := (rfl)
@[simp] theorem a_sSeq (a b : DS) : sSeq a b s = (a s).then b := (rfl)
@[simp] theorem a_then_nx (b : DS) : (SO.nx s).then b = b s := (rfl)
@[simp] theorem a_then_rt (c : Cell) (b : DS) : (SO.rt c s).then b = .rt c s := (rfl)
@[simp] theorem a_then_ex (e : Ex) (b : DS) : (SO.ex e s).then b = .ex e s := (rfl)
@[simp] theorem a_then_bk (b : DS) : (SO.bk s).then b = .bk s := (rfl)
@[simp] theorem a_then_ct (b : DS) : (SO.ct s).then b = .ct s := (rfl)
@[simp] theorem a_sNil : sNil s = .nx s := (rfl)
@[simp] theorem a_oS_ok {α : Type} (a : α) (f : α → List Cell → SO) : oS (.ok a s) f = f a s := (rfl)
@[simp] theorem a_oS_ex {α : Type} (e : Ex) (f : α → List Cell → SO) : oS (.ex e s) f = .ex e s := (rfl)
@[simp] theorem a_sSet (i : Nat) (c : DC) : sSet i c s = oS (c s) fun c s1 => .nx (s1.set i c) := (rfl)
@[simp] theorem a_sExpr (v : DV) : sExpr v s = oS (v s) fun _ s1 => .nx s1 := (rfl)
@[simp] theorem a_sRet (c : DC) : sRet c s = oS (c s) fun c s1 => .rt c s1 := (rfl)
@[simp] theorem a_sRetN : sRetN s = .rt (.sh .non) s := (rfl)
@[simp] theorem a_sIf (t : DT) (a b : DS) : sIf t a b s = oS (t s) fun b' s1 => if b' = true then a s1 else b s1 := (rfl)
@[simp] theorem a_sPass : sPass s = .nx s := (rfl)
@[simp] theorem a_sBreak : sBreak s = .bk s := (rfl)
@[simp] theorem a_sCont : sCont s = .ct s := (rfl)
@[simp] theorem a_sRaise0 (c : Nat) : sRaise0 c s = .ex ⟨c, [], []⟩ s := (rfl)
@[simp] theorem a_sRaise1 (c : Nat) (n : Str) (v : DV) : sRaise1 c n v s = oS (v s) fun d s1 => .ex ⟨c, [n], [d]⟩ s1 := (rfl)
@[simp] theorem a_asNil : asNil s = .ok [] s := (rfl)
@[simp] theorem a_asVal (v : DV) (a : DAs) : asVal v a s = (v s).bind fun d s1 => (a s1).bind fun cs s2 => .ok (.sh d :: cs) s2 := (rfl)
@[simp] theorem a_asSlot (j : Nat) (a : DAs) : asSlot j a s = slO (a s) s[j]? := by
  unfold asSlot slO
  cases s[j]? with
  | none => rfl
  | some c => cases c <;> rfl
@[simp] theorem slO_sh (o : O (List Cell)) (d : D) : slO o (some (.sh d)) = o.bind fun cs s2 => .ok (.un :: cs) s2 := (rfl)
@[simp] theorem slO_ol (o : O (List Cell)) (d : List D) : slO o (some (.ol d)) = o.bind fun cs s2 => .ok (.un :: cs) s2 := (rfl)
@[simp] theorem slO_bl (o : O (List Cell)) (d : List D) : slO o (some (.bl d)) = o.bind fun cs s2 => .ok (.un :: cs) s2 := (rfl)
@[simp] theorem slO_oi (o : O (List Cell)) (c : Nat) (ns : List Str) (cs : List Cell) : slO o (some (.oi c ns cs)) = o.bind fun cs s2 => .ok (.un :: cs) s2 := (rfl)
@[simp] theorem slO_bi (o : O (List Cell)) (c : Nat) (ns : List Str) (cs : List Cell) : slO o (some (.bi c ns cs)) = o.bind fun cs s2 => .ok (.un :: cs) s2 := (rfl)
@[simp] theorem a_cCall (m : Md) (a : DAs) (φ : DF) : cCall m a φ s = (a s).bind fun cs s1 => cDo m φ cs s1 := (rfl)
@[simp] theorem a_cDo (m : Md) (φ : DF) (cs : List Cell) : cDo m φ cs s = doO m s (φ (fillA m cs s)) := (rfl)
@[simp] theorem doO_ok (m : Md) (c : Cell) (fin : List Cell) : doO m s (.ok c fin) = .ok c (backA m fin s) := (rfl)
@[simp] theorem doO_ex (m : Md) (e : Ex) (fin : List Cell) : doO m s (.ex e fin) = .ex e (backA m fin s) := (rfl)
@[simp] theorem a_fillA0 (cs : List Cell) : fillA [] cs s = [] := by cases cs <;> rfl
@[simp] theorem a_fillA1 (m : Md) (c : Cell) (cs : List Cell) : fillA (none :: m) (c :: cs) s = c :: fillA m cs s := (rfl)
@[simp] theorem a_fillA2 (j : Nat) (m : Md) (c : Cell) (cs : List Cell) : fillA (some j :: m) (c :: cs) s = argC s j :: fillA m cs s := (rfl)
@[simp] theorem a_argC (j : Nat) : argC s j = arO s[j]? := (rfl)
@[simp] theorem arO_ok (c : Cell) : arO (some c) = if plC c then c else .un := (rfl)
@[simp] theorem a_plC_sh (d : D) : plC (.sh d) = true := (rfl)
@[simp] theorem a_plC_ol (d : List D) : plC (.ol d) = true := (rfl)
@[simp] theorem a_plC_bl (d : List D) : plC (.bl d) = true := (rfl)
@[simp] theorem a_plC_un : plC .un = true := (rfl)
@[simp] theorem a_plCL0 : plCL [] = true := (rfl)
@[simp] theorem a_plCL1 (c : Cell) (cs : List Cell) : plCL (c :: cs) = (plC c && plCL cs) := (rfl)
@[simp] theorem a_backA0 (fin : List Cell) : backA [] fin s = s := by cases fin <;> rfl
@[simp] theorem a_backA1 (m : Md) (c : Cell) (fin : List Cell) : backA (none :: m) (c :: fin) s = backA m fin s := (rfl)
@[simp] theorem a_backA2 (j : Nat) (m : Md) (c : Cell) (fin : List Cell) : backA (some j :: m) (c :: fin) s = backA m fin (s.set j c) := (rfl)
@[simp] theorem a_vsNil : vsNil s = .ok [] s := (rfl)
@[simp] theorem a_vsCons (a : DV) (b : DVs) : vsCons a b s = (a s).bind fun a s1 => (b s1).bind fun b s2 => .ok (a :: b) s2 := (rfl)
@[simp] theorem a_vTup (v : DVs) : vTup v s = (v s).bind fun ds s1 => if ds.length ≤ 16777216 then .ok (.tup ds) s1 else .bad := (rfl)
@[simp] theorem a_cLst (v : DVs) : cLst v s = (v s).bind fun ds s1 => if ds.length ≤ 16777216 then .ok (.ol ds) s1 else .bad := (rfl)
@[simp] theorem a_frz_sh (d : D) : frzD (.sh d) = some d := (rfl)
@[simp] theorem a_frz_ol (d : List D) : frzD (.ol d) = some (.lst d) := (rfl)
@[simp] theorem a_sFor (i : DI) (g : DG) (b : DS) : sFor i g b s = oS (i s) fun ds s1 => loopD g b ds s1 := (rfl)
@[simp] theorem a_iVal (v : DV) : iVal v s = (v s).bind fun d s1 => optO (itD d) s1 := (rfl)
@[simp] theorem a_iEnumD (v : DV) : iEnumD v s = (v s).bind fun d s1 => optO ((itsD d).map (enumD 0)) s1 := (rfl)
@[simp] theorem a_gName (i : Nat) (d : D) : gName i d s = some (s.set i (.sh d)) := (rfl)
@[simp] theorem a_sAsg (v : DV) (g : DG) : sAsg v g s = oS (v s) fun d s1 => asgO (g d s1) := (rfl)
@[simp] theorem asgO_ok : asgO (some s) = .nx s := (rfl)
@[simp] theorem a_cOpV (op : OpN) (a b : DV) : cOpV op a b s = (a s).bind fun a s1 => (b s1).bind fun b s2 => optO (op (.sh a) (.sh b)) s2 := (rfl)
@[simp] theorem a_c1Q (op : Cell → Option Cell) (a : DQ) : c1Q op a s = c1O op s (a s) := (rfl)
@[simp] theorem c1O_ok (op : Cell → Option Cell) (a : Cell) : c1O op s (some a) = optO (op a) s := (rfl)
@[simp] theorem a_c1V (op : Cell → Option Cell) (a : DV) : c1V op a s = (a s).bind fun a s1 => optO (op (.sh a)) s1 := (rfl)
@[simp] theorem a_vAppend (i : Nat) (v : DV) : vAppend i v s = apO i (v s) s[i]? := (rfl)
@[simp] theorem apO_ok (i : Nat) (o : O D) (ds : List D) : apO i o (some (.ol ds)) = o.bind fun d s1 => ap2 i d s1 s1[i]? := (rfl)
@[simp] theorem ap2_ok (i : Nat) (d : D) (ds : List D) : ap2 i d s (some (.ol ds)) = if ds.length < 16777216 then .ok .non (s.set i (.ol (ds ++ [d]))) else .bad := (rfl)
@[simp] theorem a_vIxN (op : Op2) (i : Nat) (v : DV) : vIxN op i v s = ixO1 op i (v s) s[i]? := by
  unfold vIxN ixO1
  cases s[i]? with
  | none => rfl
  | some c => cases c <;> first | rfl | (simp only; congr 1; funext b s1; unfold ix2; rfl)
@[simp] theorem ixO1_sh (op : Op2) (i : Nat) (o : O D) (d : D) : ixO1 op i o (some (.sh d)) = o.bind fun b s1 => ix2 op b s1 s1[i]? := (rfl)
@[simp] theorem ixO1_ol (op : Op2) (i : Nat) (o : O D) (d : List D) : ixO1 op i o (some (.ol d)) = o.bind fun b s1 => ix2 op b s1 s1[i]? := (rfl)
@[simp] theorem ixO1_bl (op : Op2) (i : Nat) (o : O D) (d : List D) : ixO1 op i o (some (.bl d)) = o.bind fun b s1 => ix2 op b s1 s1[i]? := (rfl)
@[simp] theorem ix2_sh (op : Op2) (b d : D) : ix2 op b s (some (.sh d)) = optO (op (.sh d) (.sh b)) s := (rfl)
@[simp] theorem ix2_ol (op : Op2) (b : D) (d : List D) : ix2 op b s (some (.ol d)) = optO (op (.ol d) (.sh b)) s := (rfl)
@[simp] theorem ix2_bl (op : Op2) (b : D) (d : List D) : ix2 op b s (some (.bl d)) = optO (op (.bl d) (.sh b)) s := (rfl)
@[simp] theorem a_sAug (op : Op2) (i : Nat) (v : DV) : sAug op i v s = auO op i (v s) s[i]? := by
  unfold sAug auO
  cases s[i]? with
  | none => rfl
  | some c => cases c <;> first | rfl | (simp only; congr 1)
@[simp] theorem auO_ok (op : Op2) (i : Nat) (o : O D) (x : D) : auO op i o (some (.sh x)) = oS o fun y s1 => au2 i s1 (op (.sh x) (.sh y)) := (rfl)
@[simp] theorem au2_ok (i : Nat) (d : D) : au2 i s (some d) = .nx (s.set i (.sh d)) := (rfl)
@[simp] theorem a_vPop (i : Nat) : vPop i s = poO i s s[i]? := (rfl)
@[simp] theorem poO_ok (i : Nat) (ds : List D) : poO i s (some (.ol ds)) = po2 i ds s ds.getLast? := (rfl)
@[simp] theorem po2_ok (i : Nat) (ds : List D) (d : D) : po2 i ds s (some d) = .ok d (s.set i (.ol ds.dropLast)) := (rfl)
@[simp] theorem a_vReverse (i : Nat) : vReverse i s = reO i s s[i]? := (rfl)
@[simp] theorem reO_ok (i : Nat) (ds : List D) : reO i s (some (.ol ds)) = .ok .non (s.set i (.ol ds.reverse)) := (rfl)
@[simp] theorem a_bNone : bNone s = .ok none s := (rfl)
@[simp] theorem a_bSome (v : DV) : bSome v s = (v s).bind fun d s1 => bsO s1 d := (rfl)
@[simp] theorem bsO_ok (i : Int) : bsO s (.int i) = .ok (some i) s := (rfl)
@[simp] theorem a_vIsi2 (t u : Ty5) (a : DQ) : vIsi2 t u a s = isO t u s (a s) := (rfl)
@[simp] theorem isO_ok (t u : Ty5) (c : Cell) : isO t u s (some c) = optO (oIsi2 t u c) s := (rfl)
@[simp] theorem a_vChain (op op' : Op2) (a b c : DV) : vChain op op' a b c s = (a s).bind fun a s1 => (b s1).bind fun b s2 => chO op' b c s2 (op (.sh a) (.sh b)) := (rfl)
@[simp] theorem chO_t (op' : Op2) (b : D) (dc : DV) : chO op' b dc s (some (.bl true)) = (dc s).bind fun c s3 => optO (op' (.sh b) (.sh c)) s3 := (rfl)
@[simp] theorem chO_f (op' : Op2) (b : D) (dc : DV) : chO op' b dc s (some (.bl false)) = .ok (.bl false) s := (rfl)
end
section
variable (i j : Int)
@[simp] theorem o_add : oAdd (.sh (.int i)) (.sh (.int j)) = some (.int (i + j)) := (rfl)
@[simp] theorem o_sub : oSub (.sh (.int i)) (.sh (.int j)) = some (.int (i - j)) := (rfl)
@[simp] theorem o_lt : oLt (.sh (.int i)) (.sh (.int j)) = some (.bl (decide (i < j))) := (rfl)
@[simp] theorem o_le : oLe (.sh (.int i)) (.sh (.int j)) = some (.bl (decide (i ≤ j))) := (rfl)
@[simp] theorem o_gt : oGt (.sh (.int i)) (.sh (.int j)) = some (.bl (decide (j < i))) := (rfl)
@[simp] theorem o_ge : oGe (.sh (.int i)) (.sh (.int j)) = some (.bl (decide (j ≤ i))) := (rfl)
@[simp] theorem o_eq : oEq (.sh (.int i)) (.sh (.int j)) = some (.bl (decide (i = j))) := (rfl)
@[simp] theorem o_ne : oNe (.sh (.int i)) (.sh (.int j)) = some (.bl (!decide (i = j))) := (rfl)
@[simp] theorem o_eqN : oEq (.sh .non) (.sh (.int j)) = some (.bl false) := (rfl)
@[simp] theorem o_neN : oNe (.sh .non) (.sh (.int j)) = some (.bl true) := (rfl)
@[simp] theorem o_eqB (a b : Bool) : oEq (.sh (.bl a)) (.sh (.bl b)) = some (.bl (decide (a = b))) := (rfl)
@[simp] theorem o_neB (a b : Bool) : oNe (.sh (.bl a)) (.sh (.bl b)) = some (.bl (!decide (a = b))) := (rfl)
theorem o_eqS (a b : Str) : oEq (.sh (.str a)) (.sh (.str b)) = some (.bl (decide (a = b))) := (rfl)
theorem o_neS (a b : Str) : oNe (.sh (.str a)) (.sh (.str b)) = some (.bl (!decide (a = b))) := (rfl)
@[simp] theorem o_isN0 : oIsN (.sh .non) (.sh .non) = some (.bl true) := (rfl)
@[simp] theorem o_isN1 : oIsN (.sh (.int i)) (.sh .non) = some (.bl false) := (rfl)
@[simp] theorem o_isN2 (l : List D) : oIsN (.sh (.lst l)) (.sh .non) = some (.bl false) := (rfl)
@[simp] theorem o_isN3 (l : List D) : oIsN (.sh (.tup l)) (.sh .non) = some (.bl false) := (rfl)
@[simp] theorem o_notN0 : oNotN (.sh .non) (.sh .non) = some (.bl false) := (rfl)
@[simp] theorem o_notN1 : oNotN (.sh (.int i)) (.sh .non) = some (.bl true) := (rfl)
@[simp] theorem o_notN2 (l : List D) : oNotN (.sh (.lst l)) (.sh .non) = some (.bl true) := (rfl)
@[simp] theorem o_notN3 (l : List D) : oNotN (.sh (.tup l)) (.sh .non) = some (.bl true) := (rfl)
@[simp] theorem o_isB (a b : Bool) : oIsB (.sh (.bl a)) (.sh (.bl b)) = some (.bl (a == b)) := (rfl)
@[simp] theorem o_notB (a b : Bool) : oNotB (.sh (.bl a)) (.sh (.bl b)) = some (.bl (a != b)) := (rfl)
@[simp] theorem o_neg : oNeg (.sh (.int i)) = some (.int (-i)) := (rfl)
@[simp] theorem o_int : oInt (.sh (.int i)) = some (.int i) := (rfl)
@[simp] theorem o_intB (b : Bool) : oInt (.sh (.bl b)) = some (.int (if b then 1 else 0)) := (rfl)
@[simp] theorem o_abs : oAbs (.sh (.int i)) = some (.int (if i < 0 then -i else i)) := (rfl)
@[simp] theorem o_max2 : oMax2 (.sh (.int i)) (.sh (.int j)) = some (.int (max i j)) := (rfl)
@[simp] theorem o_min2 : oMin2 (.sh (.int i)) (.sh (.int j)) = some (.int (min i j)) := (rfl)
@[simp] theorem o_lenL (l : List D) : oLen (.sh (.lst l)) = some (.int l.length) := (rfl)
@[simp] theorem o_lenT (l : List D) : oLen (.sh (.tup l)) = some (.int l.length) := (rfl)
@[simp] theorem o_lenO (l : List D) : oLen (.ol l) = some (.int l.length) := (rfl)
@[simp] theorem o_listL (l : List D) : oList (.sh (.lst l)) = some (.ol l) := (rfl)
@[simp] theorem o_listT (l : List D) : oList (.sh (.tup l)) = some (.ol l) := (rfl)
@[simp] theorem o_listO (l : List D) : oList (.ol l) = some (.ol l) := (rfl)
@[simp] theorem o_tupL (l : List D) : oTuple (.sh (.lst l)) = some (.sh (.tup l)) := (rfl)
@[simp] theorem o_tupT (l : List D) : oTuple (.sh (.tup l)) = some (.sh (.tup l)) := (rfl)
@[simp] theorem o_tupO (l : List D) : oTuple (.ol l) = some (.sh (.tup l)) := (rfl)
end
theorem boolsD_map {α : Type} (g : α → Bool) (l : List α) : boolsD (l.map fun x => D.bl (g x)) = some (l.map g) := by
  induction l with
  | nil => rfl
  | cons x l ih => simp [boolsD, ih]
theorem intsD_map {α : Type} (g : α → Int) (l : List α) : intsD (l.map fun x => D.int (g x)) = some (l.map g) := by
  induction l with
  | nil => rfl
  | cons x l ih => simp [intsD, ih]
@[simp] theorem o_all {α : Type} (g : α → Bool) (l : List α) : oAll (.sh (.lst (l.map fun x => D.bl (g x)))) = some (.bl (l.all g)) := by
  simp only [oAll, itsL, Option.bind_some, boolsD_map, Option.map_some, List.all_map]
  rfl
@[simp] theorem o_any {α : Type} (g : α → Bool) (l : List α) : oAny (.sh (.lst (l.map fun x => D.bl (g x)))) = some (.bl (l.any g)) := by
  simp only [oAny, itsL, Option.bind_some, boolsD_map, Option.map_some, List.any_map]
  rfl
@[simp] theorem o_sum {α : Type} (g : α → Int) (l : List α) : oSum (.sh (.lst (l.map fun x => D.int (g x)))) = some (.int (l.map g).sum) := by
  simp only [oSum, its, Option.bind_some, intsD_map, Option.map_some]
@[simp] theorem o_sumI (l : List Int) : oSum (.sh (.lst (l.map D.int))) = some (.int l.sum) := by
  have z := o_sum (fun x : Int => x) l
  simpa using z
theorem o_sumT (l : List Int) : oSum (.sh (.tup (l.map D.int))) = some (.int l.sum) := by
  have z := intsD_map (fun x : Int => x) l
  simp only [oSum, its, Option.bind_some]
  have e : (l.map D.int) = l.map fun x => D.int x := rfl
  rw [e, z]
  simp
theorem fnD_eq (n N : Nat) (b : DS) (cs : List Cell) : fnD n N b cs = (match b (cs ++ List.replicate (N - n) .un) with
  | .nx s => if n ≤ s.length then .ok (.sh .non) (s.take n) else .bad
  | .rt c s => if n ≤ s.length then .ok c (s.take n) else .bad
  | .ex e s => if n ≤ s.length then .ex e (s.take n) else .bad
  | _ => .bad) := (rfl)
section
variable {α : Type}
@[simp high] theorem gt0 (x0 : α) (l : List α) : (x0 :: l)[0]? = some x0 := (rfl)
@[simp high] theorem st0 (x0 c : α) (l : List α) : (x0 :: l).set 0 c = c :: l := (rfl)
@[simp high] theorem gt1 (x0 x1 : α) (l : List α) : (x0 :: x1 :: l)[1]? = some x1 := (rfl)
@[simp high] theorem st1 (x0 x1 c : α) (l : List α) : (x0 :: x1 :: l).set 1 c = x0 :: c :: l := (rfl)
@[simp high] theorem gt2 (x0 x1 x2 : α) (l : List α) : (x0 :: x1 :: x2 :: l)[2]? = some x2 := (rfl)
@[simp high] theorem st2 (x0 x1 x2 c : α) (l : List α) : (x0 :: x1 :: x2 :: l).set 2 c = x0 :: x1 :: c :: l := (rfl)
@[simp high] theorem gt3 (x0 x1 x2 x3 : α) (l : List α) : (x0 :: x1 :: x2 :: x3 :: l)[3]? = some x3 := (rfl)
@[simp high] theorem st3 (x0 x1 x2 x3 c : α) (l : List α) : (x0 :: x1 :: x2 :: x3 :: l).set 3 c = x0 :: x1 :: x2 :: c :: l := (rfl)
@[simp high] theorem gt4 (x0 x1 x2 x3 x4 : α) (l : List α) : (x0 :: x1 :: x2 :: x3 :: x4 :: l)[4]? = some x4 := (rfl)
@[simp high] theorem st4 (x0 x1 x2 x3 x4 c : α) (l : List α) : (x0 :: x1 :: x2 :: x3 :: x4 :: l).set 4 c = x0 :: x1 :: x2 :: x3 :: c :: l := (rfl)
@[simp high] theorem gt5 (x0 x1 x2 x3 x4 x5 : α) (l : List α) : (x0 :: x1 :: x2 :: x3 :: x4 :: x5 :: l)[5]? = some x5 := (rfl)
@[simp high] theorem st5 (x0 x1 x2 x3 x4 x5 c : α) (l : List α) : (x0 :: x1 :: x2 :: x3 :: x4 :: x5 :: l).set 5 c = x0 :: x1 :: x2 :: x3 :: x4 :: c :: l := (rfl)
@[simp high] theorem gt6 (x0 x1 x2 x3 x4 x5 x6 : α) (l : List α) : (x0 :: x1 :: x2 :: x3 :: x4 :: x5 :: x6 :: l)[6]? = some x6 := (rfl)
@[simp high] theorem st6 (x0 x1 x2 x3 x4 x5 x6 c : α) (l : List α) : (x0 :: x1 :: x2 :: x3 :: x4 :: x5 :: x6 :: l).set 6 c = x0 :: x1 :: x2 :: x3 :: x4 :: x5 :: c :: l := (rfl)
@[simp high] theorem gt7 (x0 x1 x2 x3 x4 x5 x6 x7 : α) (l : List α) : (x0 :: x1 :: x2 :: x3 :: x4 :: x5 :: x6 :: x7 :: l)[7]? = some x7 := (rfl)
@[simp high] theorem st7 (x0 x1 x2 x3 x4 x5 x6 x7 c : α) (l : List α) : (x0 :: x1 :: x2 :: x3 :: x4 :: x5 :: x6 :: x7 :: l).set 7 c = x0 :: x1 :: x2 :: x3 :: x4 :: x5 :: x6 :: c :: l := (rfl)
@[simp high] theorem gt8 (x0 x1 x2 x3 x4 x5 x6 x7 x8 : α) (l : List α) : (x0 :: x1 :: x2 :: x3 :: x4 :: x5 :: x6 :: x7 :: x8 :: l)[8]? = some x8 := (rfl)
@[simp high] theorem st8 (x0 x1 x2 x3 x4 x5 x6 x7 x8 c : α) (l : List α) : (x0 :: x1 :: x2 :: x3 :: x4 :: x5 :: x6 :: x7 :: x8 :: l).set 8 c = x0 :: x1 :: x2 :: x3 :: x4 :: x5 :: x6 :: x7 :: c :: l := (rfl)
@[simp high] theorem gt9 (x0 x1 x2 x3 x4 x5 x6 x7 x8 x9 : α) (l : List α) : (x0 :: x1 :: x2 :: x3 :: x4 :: x5 :: x6 :: x7 :: x8 :: x9 :: l)[9]? = some x9 := (rfl)
@[simp high] theorem st9 (x0 x1 x2 x3 x4 x5 x6 x7 x8 x9 c : α) (l : List α) : (x0 :: x1 :: x2 :: x3 :: x4 :: x5 :: x6 :: x7 :: x8 :: x9 :: l).set 9 c = x0 :: x1 :: x2 :: x3 :: x4 :: x5 :: x6 :: x7 :: x8 :: c :: l := (rfl)
@[simp high] theorem gt10 (x0 x1 x2 x3 x4 x5 x6 x7 x8 x9 x10 : α) (l : List α) : (x0 :: x1 :: x2 :: x3 :: x4 :: x5 :: x6 :: x7 :: x8 :: x9 :: x10 :: l)[10]? = some x10 := (rfl)
@[simp high] theorem st10 (x0 x1 x2 x3 x4 x5 x6 x7 x8 x9 x10 c : α) (l : List α) : (x0 :: x1 :: x2 :: x3 :: x4 :: x5 :: x6 :: x7 :: x8 :: x9 :: x10 :: l).set 10 c = x0 :: x1 :: x2 :: x3 :: x4 :: x5 :: x6 :: x7 :: x8 :: x9 :: c :: l := (rfl)
@[simp high] theorem gt11 (x0 x1 x2 x3 x4 x5 x6 x7 x8 x9 x10 x11 : α) (l : List α) : (x0 :: x1 :: x2 :: x3 :: x4 :: x5 :: x6 :: x7 :: x8 :: x9 :: x10 :: x11 :: l)[11]? = some x11 := (rfl)
@[simp high] theorem st11 (x0 x1 x2 x3 x4 x5 x6 x7 x8 x9 x10 x11 c : α) (l : List α) : (x0 :: x1 :: x2 :: x3 :: x4 :: x5 :: x6 :: x7 :: x8 :: x9 :: x10 :: x11 :: l).set 11 c = x0 :: x1 :: x2 :: x3 :: x4 :: x5 :: x6 :: x7 :: x8 :: x9 :: x10 :: c :: l := (rfl)
@[simp high] theorem gt12 (x0 x1 x2 x3 x4 x5 x6 x7 x8 x9 x10 x11 x12 : α) (l : List α) : (x0 :: x1 :: x2 :: x3 :: x4 :: x5 :: x6 :: x7 :: x8 :: x9 :: x10 :: x11 :: x12 :: l)[12]? = some x12 := (rfl)
@[simp high] theorem st12 (x0 x1 x2 x3 x4 x5 x6 x7 x8 x9 x10 x11 x12 c : α) (l : List α) : (x0 :: x1 :: x2 :: x3 :: x4 :: x5 :: x6 :: x7 :: x8 :: x9 :: x10 :: x11 :: x12 :: l).set 12 c = x0 :: x1 :: x2 :: x3 :: x4 :: x5 :: x6 :: x7 :: x8 :: x9 :: x10 :: x11 :: c :: l := (rfl)
@[simp high] theorem gt13 (x0 x1 x2 x3 x4 x5 x6 x7 x8 x9 x10 x11 x12 x13 : α) (l : List α) : (x0 :: x1 :: x2 :: x3 :: x4 :: x5 :: x6 :: x7 :: x8 :: x9 :: x10 :: x11 :: x12 :: x13 :: l)[13]? = some x13 := (rfl)
@[simp high] theorem st13 (x0 x1 x2 x3 x4 x5 x6 x7 x8 x9 x10 x11 x12 x13 c : α) (l : List α) : (x0 :: x1 :: x2 :: x3 :: x4 :: x5 :: x6 :: x7 :: x8 :: x9 :: x10 :: x11 :: x12 :: x13 :: l).set 13 c = x0 :: x1 :: x2 :: x3 :: x4 :: x5 :: x6 :: x7 :: x8 :: x9 :: x10 :: x11 :: x12 :: c :: l := (rfl)
@[simp high] theorem gt14 (x0 x1 x2 x3 x4 x5 x6 x7 x8 x9 x10 x11 x12 x13 x14 : α) (l : List α) : (x0 :: x1 :: x2 :: x3 :: x4 :: x5 :: x6 :: x7 :: x8 :: x9 :: x10 :: x11 :: x12 :: x13 :: x14 :: l)[14]? = some x14 := (rfl)
@[simp high] theorem st14 (x0 x1 x2 x3 x4 x5 x6 x7 x8 x9 x10 x11 x12 x13 x14 c : α) (l : List α) : (x0 :: x1 :: x2 :: x3 :: x4 :: x5 :: x6 :: x7 :: x8 :: x9 :: x10 :: x11 :: x12 :: x13 :: x14 :: l).set 14 c = x0 :: x1 :: x2 :: x3 :: x4 :: x5 :: x6 :: x7 :: x8 :: x9 :: x10 :: x11 :: x12 :: x13 :: c :: l := (rfl)
@[simp high] theorem gt15 (x0 x1 x2 x3 x4 x5 x6 x7 x8 x9 x10 x11 x12 x13 x14 x15 : α) (l : List α) : (x0 :: x1 :: x2 :: x3 :: x4 :: x5 :: x6 :: x7 :: x8 :: x9 :: x10 :: x11 :: x12 :: x13 :: x14 :: x15 :: l)[15]? = some x15 := (rfl)
@[simp high] theorem st15 (x0 x1 x2 x3 x4 x5 x6 x7 x8 x9 x10 x11 x12 x13 x14 x15 c : α) (l : List α) : (x0 :: x1 :: x2 :: x3 :: x4 :: x5 :: x6 :: x7 :: x8 :: x9 :: x10 :: x11 :: x12 :: x13 :: x14 :: x15 :: l).set 15 c = x0 :: x1 :: x2 :: x3 :: x4 :: x5 :: x6 :: x7 :: x8 :: x9 :: x10 :: x11 :: x12 :: x13 :: x14 :: c :: l := (rfl)
@[simp high] theorem gt16 (x0 x1 x2 x3 x4 x5 x6 x7 x8 x9 x10 x11 x12 x13 x14 x15 x16 : α) (l : List α) : (x0 :: x1 :: x2 :: x3 :: x4 :: x5 :: x6 :: x7 :: x8 :: x9 :: x10 :: x11 :: x12 :: x13 :: x14 :: x15 :: x16 :: l)[16]? = some x16 := (rfl)
@[simp high] theorem st16 (x0 x1 x2 x3 x4 x5 x6 x7 x8 x9 x10 x11 x12 x13 x14 x15 x16 c : α) (l : List α) : (x0 :: x1 :: x2 :: x3 :: x4 :: x5 :: x6 :: x7 :: x8 :: x9 :: x10 :: x11 :: x12 :: x13 :: x14 :: x15 :: x16 :: l).set 16 c = x0 :: x1 :: x2 :: x3 :: x4 :: x5 :: x6 :: x7 :: x8 :: x9 :: x10 :: x11 :: x12 :: x13 :: x14 :: x15 :: c :: l := (rfl)
@[simp high] theorem gt17 (x0 x1 x2 x3 x4 x5 x6 x7 x8 x9 x10 x11 x12 x13 x14 x15 x16 x17 : α) (l : List α) : (x0 :: x1 :: x2 :: x3 :: x4 :: x5 :: x6 :: x7 :: x8 :: x9 :: x10 :: x11 :: x12 :: x13 :: x14 :: x15 :: x16 :: x17 :: l)[17]? = some x17 := (rfl)
@[simp high] theorem st17 (x0 x1 x2 x3 x4 x5 x6 x7 x8 x9 x10 x11 x12 x13 x14 x15 x16 x17 c : α) (l : List α) : (x0 :: x1 :: x2 :: x3 :: x4 :: x5 :: x6 :: x7 :: x8 :: x9 :: x10 :: x11 :: x12 :: x13 :: x14 :: x15 :: x16 :: x17 :: l).set 17 c = x0 :: x1 :: x2 :: x3 :: x4 :: x5 :: x6 :: x7 :: x8 :: x9 :: x10 :: x11 :: x12 :: x13 :: x14 :: x15 :: x16 :: c :: l := (rfl)
@[simp high] theorem gt18 (x0 x1 x2 x3 x4 x5 x6 x7 x8 x9 x10 x11 x12 x13 x14 x15 x16 x17 x18 : α) (l : List α) : (x0 :: x1 :: x2 :: x3 :: x4 :: x5 :: x6 :: x7 :: x8 :: x9 :: x10 :: x11 :: x12 :: x13 :: x14 :: x15 :: x16 :: x17 :: x18 :: l)[18]? = some x18 := (rfl)
@[simp high] theorem st18 (x0 x1 x2 x3 x4 x5 x6 x7 x8 x9 x10 x11 x12 x13 x14 x15 x16 x17 x18 c : α) (l : List α) : (x0 :: x1 :: x2 :: x3 :: x4 :: x5 :: x6 :: x7 :: x8 :: x9 :: x10 :: x11 :: x12 :: x13 :: x14 :: x15 :: x16 :: x17 :: x18 :: l).set 18 c = x0 :: x1 :: x2 :: x3 :: x4 :: x5 :: x6 :: x7 :: x8 :: x9 :: x10 :: x11 :: x12 :: x13 :: x14 :: x15 :: x16 :: x17 :: c :: l := (rfl)
@[simp high] theorem gt19 (x0 x1 x2 x3 x4 x5 x6 x7 x8 x9 x10 x11 x12 x13 x14 x15 x16 x17 x18 x19 : α) (l : List α) : (x0 :: x1 :: x2 :: x3 :: x4 :: x5 :: x6 :: x7 :: x8 :: x9 :: x10 :: x11 :: x12 :: x13 :: x14 :: x15 :: x16 :: x17 :: x18 :: x19 :: l)[19]? = some x19 := (rfl)
@[simp high] theorem st19 (x0 x1 x2 x3 x4 x5 x6 x7 x8 x9 x10 x11 x12 x13 x14 x15 x16 x17 x18 x19 c : α) (l : List α) : (x0 :: x1 :: x2 :: x3 :: x4 :: x5 :: x6 :: x7 :: x8 :: x9 :: x10 :: x11 :: x12 :: x13 :: x14 :: x15 :: x16 :: x17 :: x18 :: x19 :: l).set 19 c = x0 :: x1 :: x2 :: x3 :: x4 :: x5 :: x6 :: x7 :: x8 :: x9 :: x10 :: x11 :: x12 :: x13 :: x14 :: x15 :: x16 :: x17 :: x18 :: c :: l := (rfl)
@[simp high] theorem gt20 (x0 x1 x2 x3 x4 x5 x6 x7 x8 x9 x10 x11 x12 x13 x14 x15 x16 x17 x18 x19 x20 : α) (l : List α) : (x0 :: x1 :: x2 :: x3 :: x4 :: x5 :: x6 :: x7 :: x8 :: x9 :: x10 :: x11 :: x12 :: x13 :: x14 :: x15 :: x16 :: x17 :: x18 :: x19 :: x20 :: l)[20]? = some x20 := (rfl)
@[simp high] theorem st20 (x0 x1 x2 x3 x4 x5 x6 x7 x8 x9 x10 x11 x12 x13 x14 x15 x16 x17 x18 x19 x20 c : α) (l : List α) : (x0 :: x1 :: x2 :: x3 :: x4 :: x5 :: x6 :: x7 :: x8 :: x9 :: x10 :: x11 :: x12 :: x13 :: x14 :: x15 :: x16 :: x17 :: x18 :: x19 :: x20 :: l).set 20 c = x0 :: x1 :: x2 :: x3 :: x4 :: x5 :: x6 :: x7 :: x8 :: x9 :: x10 :: x11 :: x12 :: x13 :: x14 :: x15 :: x16 :: x17 :: x18 :: x19 :: c :: l := (rfl)
@[simp high] theorem gt21 (x0 x1 x2 x3 x4 x5 x6 x7 x8 x9 x10 x11 x12 x13 x14 x15 x16 x17 x18 x19 x20 x21 : α) (l : List α) : (x0 :: x1 :: x2 :: x3 :: x4 :: x5 :: x6 :: x7 :: x8 :: x9 :: x10 :: x11 :: x12 :: x13 :: x14 :: x15 :: x16 :: x17 :: x18 :: x19 :: x20 :: x21 :: l)[21]? = some x21 := (rfl)
@[simp high] theorem st21 (x0 x1 x2 x3 x4 x5 x6 x7 x8 x9 x10 x11 x12 x13 x14 x15 x16 x17 x18 x19 x20 x21 c : α) (l : List α) : (x0 :: x1 :: x2 :: x3 :: x4 :: x5 :: x6 :: x7 :: x8 :: x9 :: x10 :: x11 :: x12 :: x13 :: x14 :: x15 :: x16 :: x17 :: x18 :: x19 :: x20 :: x21 :: l).set 21 c = x0 :: x1 :: x2 :: x3 :: x4 :: x5 :: x6 :: x7 :: x8 :: x9 :: x10 :: x11 :: x12 :: x13 :: x14 :: x15 :: x16 :: x17 :: x18 :: x19 :: x20 :: c :: l := (rfl)
@[simp high] theorem gt22 (x0 x1 x2 x3 x4 x5 x6 x7 x8 x9 x10 x11 x12 x13 x14 x15 x16 x17 x18 x19 x20 x21 x22 : α) (l : List α) : (x0 :: x1 :: x2 :: x3 :: x4 :: x5 :: x6 :: x7 :: x8 :: x9 :: x10 :: x11 :: x12 :: x13 :: x14 :: x15 :: x16 :: x17 :: x18 :: x19 :: x20 :: x21 :: x22 :: l)[22]? = some x22 := (rfl)
@[simp high] theorem st22 (x0 x1 x2 x3 x4 x5 x6 x7 x8 x9 x10 x11 x12 x13 x14 x15 x16 x17 x18 x19 x20 x21 x22 c : α) (l : List α) : (x0 :: x1 :: x2 :: x3 :: x4 :: x5 :: x6 :: x7 :: x8 :: x9 :: x10 :: x11 :: x12 :: x13 :: x14 :: x15 :: x16 :: x17 :: x18 :: x19 :: x20 :: x21 :: x22 :: l).set 22 c = x0 :: x1 :: x2 :: x3 :: x4 :: x5 :: x6 :: x7 :: x8 :: x9 :: x10 :: x11 :: x12 :: x13 :: x14 :: x15 :: x16 :: x17 :: x18 :: x19 :: x20 :: x21 :: c :: l := (rfl)
@[simp high] theorem gt23 (x0 x1 x2 x3 x4 x5 x6 x7 x8 x9 x10 x11 x12 x13 x14 x15 x16 x17 x18 x19 x20 x21 x22 x23 : α) (l : List α) : (x0 :: x1 :: x2 :: x3 :: x4 :: x5 :: x6 :: x7 :: x8 :: x9 :: x10 :: x11 :: x12 :: x13 :: x14 :: x15 :: x16 :: x17 :: x18 :: x19 :: x20 :: x21 :: x22 :: x23 :: l)[23]? = some x23 := (rfl)
@[simp high] theorem st23 (x0 x1 x2 x3 x4 x5 x6 x7 x8 x9 x10 x11 x12 x13 x14 x15 x16 x17 x18 x19 x20 x21 x22 x23 c : α) (l : List α) : (x0 :: x1 :: x2 :: x3 :: x4 :: x5 :: x6 :: x7 :: x8 :: x9 :: x10 :: x11 :: x12 :: x13 :: x14 :: x15 :: x16 :: x17 :: x18 :: x19 :: x20 :: x21 :: x22 :: x23 :: l).set 23 c = x0 :: x1 :: x2 :: x3 :: x4 :: x5 :: x6 :: x7 :: x8 :: x9 :: x10 :: x11 :: x12 :: x13 :: x14 :: x15 :: x16 :: x17 :: x18 :: x19 :: x20 :: x21 :: x22 :: c :: l := (rfl)
@[simp high] theorem gt24 (x0 x1 x2 x3 x4 x5 x6 x7 x8 x9 x10 x11 x12 x13 x14 x15 x16 x17 x18 x19 x20 x21 x22 x23 x24 : α) (l : List α) : (x0 :: x1 :: x2 :: x3 :: x4 :: x5 :: x6 :: x7 :: x8 :: x9 :: x10 :: x11 :: x12 :: x13 :: x14 :: x15 :: x16 :: x17 :: x18 :: x19 :: x20 :: x21 :: x22 :: x23 :: x24 :: l)[24]? = some x24 := (rfl)
@[simp high] theorem st24 (x0 x1 x2 x3 x4 x5 x6 x7 x8 x9 x10 x11 x12 x13 x14 x15 x16 x17 x18 x19 x20 x21 x22 x23 x24 c : α) (l : List α) : (x0 :: x1 :: x2 :: x3 :: x4 :: x5 :: x6 :: x7 :: x8 :: x9 :: x10 :: x11 :: x12 :: x13 :: x14 :: x15 :: x16 :: x17 :: x18 :: x19 :: x20 :: x21 :: x22 :: x23 :: x24 :: l).set 24 c = x0 :: x1 :: x2 :: x3 :: x4 :: x5 :: x6 :: x7 :: x8 :: x9 :: x10 :: x11 :: x12 :: x13 :: x14 :: x15 :: x16 :: x17 :: x18 :: x19 :: x20 :: x21 :: x22 :: x23 :: c :: l := (rfl)
@[simp high] theorem gt25 (x0 x1 x2 x3 x4 x5 x6 x7 x8 x9 x10 x11 x12 x13 x14 x15 x16 x17 x18 x19 x20 x21 x22 x23 x24 x25 : α) (l : List α) : (x0 :: x1 :: x2 :: x3 :: x4 :: x5 :: x6 :: x7 :: x8 :: x9 :: x10 :: x11 :: x12 :: x13 :: x14 :: x15 :: x16 :: x17 :: x18 :: x19 :: x20 :: x21 :: x22 :: x23 :: x24 :: x25 :: l)[25]? = some x25 := (rfl)
@[simp high] theorem st25 (x0 x1 x2 x3 x4 x5 x6 x7 x8 x9 x10 x11 x12 x13 x14 x15 x16 x17 x18 x19 x20 x21 x22 x23 x24 x25 c : α) (l : List α) : (x0 :: x1 :: x2 :: x3 :: x4 :: x5 :: x6 :: x7 :: x8 :: x9 :: x10 :: x11 :: x12 :: x13 :: x14 :: x15 :: x16 :: x17 :: x18 :: x19 :: x20 :: x21 :: x22 :: x23 :: x24 :: x25 :: l).set 25 c = x0 :: x1 :: x2 :: x3 :: x4 :: x5 :: x6 :: x7 :: x8 :: x9 :: x10 :: x11 :: x12 :: x13 :: x14 :: x15 :: x16 :: x17 :: x18 :: x19 :: x20 :: x21 :: x22 :: x23 :: x24 :: c :: l := (rfl)
end
end VL
end
section
set_option maxRecDepth 100000
set_option maxHeartbeats 2000000
/-! VM2: loops and comprehensions, once and for all -/
namespace VL
open PySem PySem.Spec L2
/-- one turn of a loop -/
def turnD (dg : DG) (db : DS) (d : D) (s : List Cell) : SO := match dg d s with
  | none => .bad
  | some s1 => db s1
inductive Stp (β γ : Type) where
  | go (b : β) | out (c : γ) | stop (b : β)
def runS {β γ : Type} (step : β → D → Stp β γ) : List D → β → Sum β γ
  | [], b => .inl b
  | d :: ds, b => match step b d with
    | .go b' => runS step ds b'
    | .stop b' => .inl b'
    | .out c => .inr c
def isOut : SO → Bool
  | .rt _ _ => true
  | .ex _ _ => true
  | _ => false
theorem loopD_run {β γ : Type} {dg : DG} {db : DS} (P : β → List Cell → Prop) (R : γ → SO → Prop) (step : β → D → Stp β γ) : ∀ (ds : List D) (b : β) (s : List Cell),
    (∀ b s d, d ∈ ds → P b s → match step b d with
      | .go b' => ∃ s', (turnD dg db d s = .nx s' ∨ turnD dg db d s = .ct s') ∧ P b' s'
      | .stop b' => ∃ s', turnD dg db d s = .bk s' ∧ P b' s'
      | .out c => isOut (turnD dg db d s) = true ∧ R c (turnD dg db d s)) → P b s →
    match runS step ds b with
    | .inl b' => ∃ s', loopD dg db ds s = .nx s' ∧ P b' s'
    | .inr c => isOut (loopD dg db ds s) = true ∧ R c (loopD dg db ds s)
  | [], b, s, _, hp => ⟨s, rfl, hp⟩
  | d :: ds, b, s, h, hp => by
    have h1 := h b s d (List.mem_cons_self ..) hp
    unfold runS
    cases e : step b d with
    | go b' =>
      simp only [e] at h1 ⊢
      obtain ⟨s', h2, hp'⟩ := h1
      have ih := loopD_run P R step ds b' s' (fun b s d hd => h b s d (List.mem_cons_of_mem _ hd)) hp'
      have el : loopD dg db (d :: ds) s = loopD dg db ds s' := by
        unfold turnD at h2
        rw [loopD]
        cases q : dg d s with
        | none => rw [q] at h2; rcases h2 with h2 | h2 <;> cases h2
        | some s1 =>
          rw [q] at h2
          simp only at h2 ⊢
          rcases h2 with h2 | h2 <;> rw [h2]
      rw [el]
      exact ih
    | stop b' =>
      simp only [e] at h1 ⊢
      obtain ⟨s', h2, hp'⟩ := h1
      refine ⟨s', ?_, hp'⟩
      unfold turnD at h2
      rw [loopD]
      cases q : dg d s with
      | none => rw [q] at h2; cases h2
      | some s1 =>
        rw [q] at h2
        simp only at h2 ⊢
        rw [h2]
    | out c =>
      simp only [e] at h1 ⊢
      obtain ⟨h2, h3⟩ := h1
      have el : loopD dg db (d :: ds) s = turnD dg db d s := by
        unfold turnD at h2 ⊢
        rw [loopD]
        cases q : dg d s with
        | none => rfl
        | some s1 =>
          rw [q] at h2
          simp only at h2 ⊢
          cases q2 : db s1 with
          | rt c s' => simp only [q2]
          | ex e' s' => simp only [q2]
          | nx s' => rw [q2] at h2; cases h2
          | bk s' => rw [q2] at h2; cases h2
          | ct s' => rw [q2] at h2; cases h2
          | bad => simp only [q2]
      rw [el]
      exact ⟨h2, h3⟩
/-- a loop that goes to its end -/
theorem loopD_fold {β : Type} {dg : DG} {db : DS} (P : β → List Cell → Prop) (step : β → D → β) (ds : List D) (b : β) (s : List Cell)
    (h : ∀ b s d, d ∈ ds → P b s → ∃ s', (turnD dg db d s = .nx s' ∨ turnD dg db d s = .ct s') ∧ P (step b d) s') (hp : P b s) : ∃ s', loopD dg db ds s = .nx s' ∧ P (ds.foldl step b) s' := by
  have z := loopD_run (γ := Empty) P (fun _ _ => False) (fun b d => .go (step b d)) ds b s h hp
  have e : ∀ (ds : List D) (b : β), runS (γ := Empty) (fun b d => .go (step b d)) ds b = .inl (ds.foldl step b) := by
    intro ds
    induction ds with
    | nil => intro b; rfl
    | cons d ds ih => intro b; exact ih _
  rw [e] at z
  exact z
/-! ### comprehensions -/
def runC {β : Type} (step : β → D → β × Option D) : List D → β → β × List D
  | [], b => (b, [])
  | d :: ds, b => ((runC step ds (step b d).1).1, match (step b d).2 with
    | some y => y :: (runC step ds (step b d).1).2
    | none => (runC step ds (step b d).1).2)
theorem compD_run {β : Type} {vs : List Nat} {dg : DG} {dt : DT} {de : DV} (P : β → List Cell → Prop) (step : β → D → β × Option D) : ∀ (ds : List D) (b : β) (s : List Cell),
    (∀ b s d, d ∈ ds → P b s → ∃ s1 t s2, dg d s = some s1 ∧ dt s1 = .ok t s2 ∧ (t = false → (step b d).2 = none ∧ P (step b d).1 (wipeC s2 vs)) ∧ (t = true → ∃ y s3, de s2 = .ok y s3 ∧ (step b d).2 = some y ∧ P (step b d).1 (wipeC s3 vs))) → P b (wipeC s vs) →
    ∃ s', compD vs dg dt de ds s = .ok (runC step ds b).2 s' ∧ P (runC step ds b).1 (wipeC s' vs)
  | [], b, s, _, hp => ⟨s, rfl, hp⟩
  | d :: ds, b, s, h, hp => by
    obtain ⟨s1, t, s2, e1, e2, hf, ht⟩ := h b _ d (List.mem_cons_self ..) hp
    cases t with
    | false =>
      obtain ⟨e3, hp'⟩ := hf rfl
      obtain ⟨s', e4, hp4⟩ := compD_run P step ds (step b d).1 s2 (fun b s d hd => h b s d (List.mem_cons_of_mem _ hd)) hp'
      refine ⟨s', ?_, hp4⟩
      unfold compD runC
      simp only [e1, e2, O.calm, O.bind_ok, e3, e4]
      simp
    | true =>
      obtain ⟨y, s3, e3, e4, hp'⟩ := ht rfl
      obtain ⟨s', e5, hp5⟩ := compD_run P step ds (step b d).1 s3 (fun b s d hd => h b s d (List.mem_cons_of_mem _ hd)) hp'
      refine ⟨s', ?_, hp5⟩
      unfold compD runC
      simp only [e1, e2, O.calm, O.bind_ok, e3, e4, e5, if_true]
theorem backC_id {s s' : List Cell} {vs : List Nat} (hw : wipeC s' vs = wipeC s vs) (h : ∀ j ∈ vs, s[j]? = some .un ∨ ∃ d, s[j]? = some (.sh d)) : backC s s' vs = s := by
  have hl : s'.length = s.length := by
    have := congrArg List.length hw
    rw [wipeC_length, wipeC_length] at this
    exact this
  apply List.ext_getElem?
  intro j
  rw [backC_key]
  by_cases hj : j ∈ vs
  · rw [if_pos hj]
    rcases h j hj with e | ⟨d, e⟩
    · have hlt := (List.getElem?_eq_some_iff.mp e).1
      rw [if_pos (by omega), e]
    · have hlt := (List.getElem?_eq_some_iff.mp e).1
      rw [if_pos (by omega), e]
  · rw [if_neg hj]
    have := congrArg (fun l => l[j]?) hw
    simp only [wipeC_get' hj] at this
    exact this
/-- a comprehension that leaves the state as it was -/
theorem cLc_pure {vs : List Nat} {di : DI} {dg : DG} {dt : DT} {de : DV} {s s1 : List Cell} {ds : List D} (p : D → Bool) (f : D → D) (hd : di s = .ok ds s1) (hl : ds.length ≤ 16777216) (hs : ∀ j ∈ vs, s1[j]? = some .un ∨ ∃ d, s1[j]? = some (.sh d))
    (h : ∀ d ∈ ds, ∃ a b, dg d (wipeC s1 vs) = some a ∧ dt a = .ok (p d) b ∧ (p d = false → wipeC b vs = wipeC s1 vs) ∧ (p d = true → ∃ c, de b = .ok (f d) c ∧ wipeC c vs = wipeC s1 vs)) :
    cLc vs di dg dt de s = .ok (.ol ((ds.filter p).map f)) s1 := by
  have ww : ∀ s : List Cell, wipeC (wipeC s vs) vs = wipeC s vs := fun s => by
    apply List.ext_getElem?
    intro j
    by_cases hj : j ∈ vs
    · have key : ∀ (s : List Cell), (wipeC s vs)[j]? = if j < s.length then some .un else none := fun s => by
        cases e : (wipeC s vs)[j]? with
        | none =>
          rw [List.getElem?_eq_none_iff, wipeC_length] at e
          rw [if_neg (by omega)]
        | some c =>
          have hlt := (List.getElem?_eq_some_iff.mp e).1
          rw [wipeC_length] at hlt
          rw [if_pos hlt]
          by_cases hc : c = .un
          · rw [hc]
          · exact absurd hj (wipeC_get e hc).2
      rw [key, key, wipeC_length]
    · rw [wipeC_get' hj]
  obtain ⟨s', e, hw⟩ := compD_run (β := Unit) (vs := vs) (dg := dg) (dt := dt) (de := de) (fun _ s => s = wipeC s1 vs) (fun _ d => ((), if p d = true then some (f d) else none)) ds () s1 (fun b s d hd hp => by
    subst hp
    obtain ⟨a, b', e1, e2, h3, h4⟩ := h d hd
    refine ⟨a, p d, b', e1, e2, fun z => ⟨by rw [z]; rfl, h3 z⟩, fun z => ?_⟩
    obtain ⟨c, e5, e6⟩ := h4 z
    exact ⟨f d, c, e5, by rw [z]; rfl, e6⟩) rfl
  have col : ∀ (l : List D), (runC (fun (_ : Unit) d => (((), if p d = true then some (f d) else none) : Unit × Option D)) l ()).2 = (l.filter p).map f := by
    intro l
    induction l with
    | nil => rfl
    | cons y l ih =>
      unfold runC
      by_cases hy : p y = true
      · simp [hy, ih]
      · simp [hy, ih]
  unfold cLc
  rw [hd]
  simp only [O.bind_ok]
  rw [if_pos hl, e]
  simp only [O.bind_ok]
  rw [backC_id hw hs, col]
/-- a comprehension that changes the state besides -/
theorem cLc_run {β : Type} {vs : List Nat} {di : DI} {dg : DG} {dt : DT} {de : DV} {s s1 : List Cell} {ds : List D} (P : β → List Cell → Prop) (step : β → D → β × Option D) (b : β) (hd : di s = .ok ds s1) (hl : ds.length ≤ 16777216)
    (h : ∀ b s d, d ∈ ds → P b s → ∃ s1 t s2, dg d s = some s1 ∧ dt s1 = .ok t s2 ∧ (t = false → (step b d).2 = none ∧ P (step b d).1 (wipeC s2 vs)) ∧ (t = true → ∃ y s3, de s2 = .ok y s3 ∧ (step b d).2 = some y ∧ P (step b d).1 (wipeC s3 vs))) (hp : P b (wipeC s1 vs)) :
    ∃ s', cLc vs di dg dt de s = .ok (.ol (runC step ds b).2) (backC s1 s' vs) ∧ P (runC step ds b).1 (wipeC s' vs) := by
  obtain ⟨s', e, hp'⟩ := compD_run P step ds b s1 h hp
  refine ⟨s', ?_, hp'⟩
  unfold cLc
  rw [hd]
  simp only [O.bind_ok]
  rw [if_pos hl, e]
  rfl
theorem cLc_map {vs : List Nat} {di : DI} {dg : DG} {de : DV} {s s1 : List Cell} {ds : List D} (f : D → D) (hd : di s = .ok ds s1) (hl : ds.length ≤ 16777216) (hs : ∀ j ∈ vs, s1[j]? = some .un ∨ ∃ d, s1[j]? = some (.sh d))
    (h : ∀ d ∈ ds, ∃ a c, dg d (wipeC s1 vs) = some a ∧ de a = .ok (f d) c ∧ wipeC c vs = wipeC s1 vs) : cLc vs di dg tYesD de s = .ok (.ol (ds.map f)) s1 := by
  have q := cLc_pure (vs := vs) (di := di) (dg := dg) (dt := tYesD) (de := de) (s := s) (fun _ => true) f hd hl hs (fun d hd => by
    obtain ⟨a, c, e1, e2, e3⟩ := h d hd
    exact ⟨a, a, e1, rfl, fun z => Bool.noConfusion z, fun _ => ⟨c, e2, e3⟩⟩)
  rw [q, List.filter_eq_self.mpr (fun _ _ => rfl)]
end VL
end
section
set_option maxRecDepth 100000
set_option maxHeartbeats 2000000
/-! VM3: loops and comprehensions over typed data -/
namespace VL
open PySem PySem.Spec L2
/-- a turn's end, continue as next -/
def SO.lp : SO → SO
  | .ct s => .nx s
  | x => x
@[simp] theorem lp_nx (s : List Cell) : (SO.nx s).lp = .nx s := (rfl)
@[simp] theorem lp_ct (s : List Cell) : (SO.ct s).lp = .nx s := (rfl)
@[simp] theorem lp_bk (s : List Cell) : (SO.bk s).lp = .bk s := (rfl)
@[simp] theorem lp_rt (c : Cell) (s : List Cell) : (SO.rt c s).lp = .rt c s := (rfl)
@[simp] theorem lp_ex (e : Ex) (s : List Cell) : (SO.ex e s).lp = .ex e s := (rfl)
def turnL (dg : DG) (db : DS) (d : D) (s : List Cell) : SO := (turnD dg db d s).lp
def trO (db : DS) : Option (List Cell) → SO
  | none => .bad
  | some s1 => db s1
@[simp] theorem trO_ok (db : DS) (s : List Cell) : trO db (some s) = db s := (rfl)
theorem turnL_eq (dg : DG) (db : DS) (d : D) (s : List Cell) : turnL dg db d s = (trO db (dg d s)).lp := (rfl)
theorem loop_nx {dg : DG} {db : DS} {d : D} {ds : List D} {s s' : List Cell} (h : turnL dg db d s = .nx s') : loopD dg db (d :: ds) s = loopD dg db ds s' := by
  unfold turnL turnD at h
  rw [loopD]
  cases q : dg d s with
  | none => rw [q] at h; cases h
  | some s1 =>
    rw [q] at h
    simp only at h ⊢
    cases q2 : db s1 <;> rw [q2] at h <;> simp only [SO.lp] at h <;> first | (cases h; rfl) | cases h
theorem loop_bk {dg : DG} {db : DS} {d : D} {ds : List D} {s s' : List Cell} (h : turnL dg db d s = .bk s') : loopD dg db (d :: ds) s = .nx s' := by
  unfold turnL turnD at h
  rw [loopD]
  cases q : dg d s with
  | none => rw [q] at h; cases h
  | some s1 =>
    rw [q] at h
    simp only at h ⊢
    cases q2 : db s1 <;> rw [q2] at h <;> simp only [SO.lp] at h <;> first | (cases h; rfl) | cases h
theorem loop_rt {dg : DG} {db : DS} {d : D} {ds : List D} {s s' : List Cell} {c : Cell} (h : turnL dg db d s = .rt c s') : loopD dg db (d :: ds) s = .rt c s' := by
  unfold turnL turnD at h
  rw [loopD]
  cases q : dg d s with
  | none => rw [q] at h; cases h
  | some s1 =>
    rw [q] at h
    simp only at h ⊢
    cases q2 : db s1 <;> rw [q2] at h <;> simp only [SO.lp] at h <;> first | (cases h; rfl) | cases h
theorem loop_ex {dg : DG} {db : DS} {d : D} {ds : List D} {s s' : List Cell} {e : Ex} (h : turnL dg db d s = .ex e s') : loopD dg db (d :: ds) s = .ex e s' := by
  unfold turnL turnD at h
  rw [loopD]
  cases q : dg d s with
  | none => rw [q] at h; cases h
  | some s1 =>
    rw [q] at h
    simp only at h ⊢
    cases q2 : db s1 <;> rw [q2] at h <;> simp only [SO.lp] at h <;> first | (cases h; rfl) | cases h
/-- a loop to its end, by an invariant of the number of turns -/
theorem loop_inv {α β : Type} (dg : DG) (db : DS) (enc : α → D) (st : β → List Cell) (Inv : Nat → β → Prop) : ∀ (xs : List α) (n : Nat) (b : β),
    (∀ (b : β) (i : Nat) (x : α), xs[i]? = some x → Inv (n + i) b → ∃ b', turnL dg db (enc x) (st b) = .nx (st b') ∧ Inv (n + i + 1) b') → Inv n b →
    ∃ b', loopD dg db (xs.map enc) (st b) = .nx (st b') ∧ Inv (n + xs.length) b'
  | [], n, b, _, hb => ⟨b, rfl, hb⟩
  | x :: xs, n, b, h, hb => by
    obtain ⟨b1, e1, h1⟩ := h b 0 x rfl hb
    obtain ⟨b2, e2, h2⟩ := loop_inv dg db enc st Inv xs (n + 1) b1 (fun b i y hy hi => by
      have z := h b (i + 1) y (by simpa using hy) (by rw [show n + (i + 1) = n + 1 + i by omega]; exact hi)
      rw [show n + (i + 1) = n + 1 + i by omega] at z
      exact z) h1
    refine ⟨b2, ?_, ?_⟩
    · rw [List.map_cons, loop_nx e1]
      exact e2
    · rw [List.length_cons, show n + (xs.length + 1) = n + 1 + xs.length by omega]
      exact h2
/-- a loop to its end, as a fold; what is left in the other slots is not told -/
theorem loop_fold {α β J : Type} (dg : DG) (db : DS) (enc : α → D) (st : β → J → List Cell) (step : β → α → β) (Inv : β → Prop) : ∀ (xs : List α) (b : β) (j : J),
    (∀ (b : β) (j : J) (x : α), x ∈ xs → Inv b → (∃ j', turnL dg db (enc x) (st b j) = .nx (st (step b x) j')) ∧ Inv (step b x)) → Inv b →
    (∃ j', loopD dg db (xs.map enc) (st b j) = .nx (st (xs.foldl step b) j')) ∧ Inv (xs.foldl step b)
  | [], b, j, _, hb => ⟨⟨j, rfl⟩, hb⟩
  | x :: xs, b, j, h, hb => by
    obtain ⟨⟨j1, e1⟩, h1⟩ := h b j x (List.mem_cons_self ..) hb
    obtain ⟨⟨j2, e2⟩, h2⟩ := loop_fold dg db enc st step Inv xs (step b x) j1 (fun b j y hy hi => h b j y (List.mem_cons_of_mem _ hy) hi) h1
    refine ⟨⟨j2, ?_⟩, h2⟩
    rw [List.map_cons, loop_nx e1]
    exact e2
/-- the same, where a turn may leave the loop -/
theorem loop_inv_bk {α β : Type} (dg : DG) (db : DS) (enc : α → D) (st : β → List Cell) (Inv : Nat → β → Prop) : ∀ (xs : List α) (n : Nat) (b : β),
    (∀ (b : β) (i : Nat) (x : α), xs[i]? = some x → Inv (n + i) b → ∃ b', (turnL dg db (enc x) (st b) = .nx (st b') ∨ turnL dg db (enc x) (st b) = .bk (st b')) ∧ Inv (n + i + 1) b') → Inv n b →
    ∃ b' m, m ≤ n + xs.length ∧ loopD dg db (xs.map enc) (st b) = .nx (st b') ∧ Inv m b'
  | [], n, b, _, hb => ⟨b, n, by simp, rfl, hb⟩
  | x :: xs, n, b, h, hb => by
    obtain ⟨b1, e1, h1⟩ := h b 0 x rfl hb
    rcases e1 with e1 | e1
    · obtain ⟨b2, m, hm, e2, h2⟩ := loop_inv_bk dg db enc st Inv xs (n + 1) b1 (fun b i y hy hi => by
        have z := h b (i + 1) y (by simpa using hy) (by rw [show n + (i + 1) = n + 1 + i by omega]; exact hi)
        rw [show n + (i + 1) = n + 1 + i by omega] at z
        exact z) h1
      refine ⟨b2, m, by rw [List.length_cons]; omega, ?_, h2⟩
      rw [List.map_cons, loop_nx e1]
      exact e2
    · refine ⟨b1, n + 1, by rw [List.length_cons]; omega, ?_, h1⟩
      rw [List.map_cons, loop_bk e1]
/-- what a turn comes to: on, out of the loop, out of the def -/
inductive Tn (β γ : Type) where
  | go (b : β) | stop (b : β) | out (c : γ)
def runT {α β γ : Type} (step : β → α → Tn β γ) : List α → β → Sum β γ
  | [], b => .inl b
  | x :: xs, b => match step b x with
    | .go b' => runT step xs b'
    | .stop b' => .inl b'
    | .out c => .inr c
/-- how a def ends -/
inductive Fi where
  | rt (c : Cell) | ex (e : Ex)
def Fi.so (s : List Cell) : Fi → SO
  | .rt c => .rt c s
  | .ex e => .ex e s
theorem loop_run {α β γ J : Type} (dg : DG) (db : DS) (enc : α → D) (st : β → J → List Cell) (step : β → α → Tn β γ) (fin : γ → Fi) (sf : γ → J → List Cell) (Inv : β → Prop) : ∀ (xs : List α) (b : β) (j : J),
    (∀ (b : β) (j : J) (x : α), x ∈ xs → Inv b → match step b x with
      | .go b' => (∃ j', turnL dg db (enc x) (st b j) = .nx (st b' j')) ∧ Inv b'
      | .stop b' => (∃ j', turnL dg db (enc x) (st b j) = .bk (st b' j')) ∧ Inv b'
      | .out c => ∃ j', turnL dg db (enc x) (st b j) = (fin c).so (sf c j')) → Inv b →
    (∀ b', runT step xs b = .inl b' → (∃ j', loopD dg db (xs.map enc) (st b j) = .nx (st b' j')) ∧ Inv b') ∧
    (∀ c, runT step xs b = .inr c → ∃ j', loopD dg db (xs.map enc) (st b j) = (fin c).so (sf c j'))
  | [], b, j, _, hb => by
    refine ⟨fun b' e => ?_, fun c e => ?_⟩
    · cases e
      exact ⟨⟨j, rfl⟩, hb⟩
    · cases e
  | x :: xs, b, j, h, hb => by
    have h1 := h b j x (List.mem_cons_self ..) hb
    unfold runT
    cases e : step b x with
    | go b' =>
      simp only [e] at h1 ⊢
      obtain ⟨⟨j1, e1⟩, h1⟩ := h1
      have ih := loop_run dg db enc st step fin sf Inv xs b' j1 (fun b j y hy hi => h b j y (List.mem_cons_of_mem _ hy) hi) h1
      rw [List.map_cons, loop_nx e1]
      exact ih
    | stop b' =>
      simp only [e] at h1 ⊢
      obtain ⟨⟨j1, e1⟩, h1⟩ := h1
      refine ⟨fun b2 e2 => ?_, fun c e2 => ?_⟩
      · cases e2
        exact ⟨⟨j1, by rw [List.map_cons, loop_bk e1]⟩, h1⟩
      · cases e2
    | out c =>
      simp only [e] at h1 ⊢
      obtain ⟨j1, e1⟩ := h1
      refine ⟨fun b2 e2 => (by cases e2), fun c2 e2 => ?_⟩
      cases e2
      refine ⟨j1, ?_⟩
      rw [List.map_cons]
      cases q : fin c with
      | rt r => rw [q] at e1; exact loop_rt e1
      | ex r => rw [q] at e1; exact loop_ex e1
/-- a search: the first of the items at which the def ends -/
def seekT {α γ : Type} (step : α → Option γ) : List α → Option γ
  | [] => none
  | x :: xs => match step x with
    | none => seekT step xs
    | some c => some c
theorem loop_seek {α γ J : Type} (dg : DG) (db : DS) (enc : α → D) (st : J → List Cell) (step : α → Option γ) (fin : γ → Fi) (sf : γ → J → List Cell) : ∀ (xs : List α) (j : J),
    (∀ (j : J) (x : α), x ∈ xs → match step x with
      | none => ∃ j', turnL dg db (enc x) (st j) = .nx (st j')
      | some c => ∃ j', turnL dg db (enc x) (st j) = (fin c).so (sf c j')) →
    (seekT step xs = none → ∃ j', loopD dg db (xs.map enc) (st j) = .nx (st j')) ∧
    (∀ c, seekT step xs = some c → ∃ j', loopD dg db (xs.map enc) (st j) = (fin c).so (sf c j'))
  | [], j, _ => by
    refine ⟨fun _ => ⟨j, rfl⟩, fun c e => ?_⟩
    cases e
  | x :: xs, j, h => by
    have h1 := h j x (List.mem_cons_self ..)
    unfold seekT
    cases e : step x with
    | none =>
      simp only [e] at h1 ⊢
      obtain ⟨j1, e1⟩ := h1
      have ih := loop_seek dg db enc st step fin sf xs j1 (fun j y hy => h j y (List.mem_cons_of_mem _ hy))
      rw [List.map_cons, loop_nx e1]
      exact ih
    | some c =>
      simp only [e] at h1 ⊢
      obtain ⟨j1, e1⟩ := h1
      refine ⟨fun e2 => (by cases e2), fun c2 e2 => ?_⟩
      cases e2
      refine ⟨j1, ?_⟩
      rw [List.map_cons]
      cases q : fin c with
      | rt r => rw [q] at e1; exact loop_rt e1
      | ex r => rw [q] at e1; exact loop_ex e1
@[simp] theorem fi_rt (c : Cell) (s : List Cell) : (Fi.rt c).so s = .rt c s := (rfl)
@[simp] theorem fi_ex (e : Ex) (s : List Cell) : (Fi.ex e).so s = .ex e s := (rfl)
@[simp] theorem a_gTup (n : Nat) (g : DGs) (ds : List D) (s : List Cell) : gTup n g (.tup ds) s = if ds.length = n then g ds s else none := (rfl)
@[simp] theorem a_gsNil (s : List Cell) : gsNil [] s = some s := (rfl)
def gcO (b : DGs) (ds : List D) : Option (List Cell) → Option (List Cell)
  | some s1 => b ds s1
  | none => none
@[simp] theorem a_gsCons (a : DG) (b : DGs) (d : D) (ds : List D) (s : List Cell) : gsCons a b (d :: ds) s = gcO b ds (a d s) := (rfl)
@[simp] theorem gcO_ok (b : DGs) (ds : List D) (s : List Cell) : gcO b ds (some s) = b ds s := (rfl)
/-- the most that is said of a loop: to its end, left by break, or the def ends -/
theorem loop_all {α β : Type} (dg : DG) (db : DS) (enc : α → D) (st : β → List Cell) (Inv : Nat → β → Prop) (Stop : β → Prop) (Out : Fi → List Cell → Prop) : ∀ (xs : List α) (n : Nat) (b : β),
    (∀ (b : β) (i : Nat) (x : α), xs[i]? = some x → Inv (n + i) b → (∃ b', turnL dg db (enc x) (st b) = .nx (st b') ∧ Inv (n + i + 1) b') ∨ (∃ b', turnL dg db (enc x) (st b) = .bk (st b') ∧ Stop b') ∨ (∃ f s, turnL dg db (enc x) (st b) = f.so s ∧ Out f s)) → Inv n b →
    (∃ b', loopD dg db (xs.map enc) (st b) = .nx (st b') ∧ (Inv (n + xs.length) b' ∨ Stop b')) ∨ (∃ f s, loopD dg db (xs.map enc) (st b) = Fi.so s f ∧ Out f s)
  | [], n, b, _, hb => .inl ⟨b, rfl, .inl hb⟩
  | x :: xs, n, b, h, hb => by
    rcases h b 0 x rfl hb with ⟨b1, e1, h1⟩ | ⟨b1, e1, h1⟩ | ⟨f, s, e1, h1⟩
    · have z := loop_all dg db enc st Inv Stop Out xs (n + 1) b1 (fun b i y hy hi => by
        have z := h b (i + 1) y (by simpa using hy) (by rw [show n + (i + 1) = n + 1 + i by omega]; exact hi)
        rw [show n + (i + 1) = n + 1 + i by omega] at z
        exact z) h1
      rw [List.map_cons, loop_nx e1, List.length_cons, show n + (xs.length + 1) = n + 1 + xs.length by omega]
      exact z
    · exact .inl ⟨b1, by rw [List.map_cons, loop_bk e1], .inr h1⟩
    · refine .inr ⟨f, s, ?_, h1⟩
      rw [List.map_cons]
      cases f with
      | rt r => exact loop_rt e1
      | ex r => exact loop_ex e1
/-! ### comprehensions -/
/-- map and filter; the state stays -/
theorem comp_pure {α γ : Type} {vs : List Nat} {di : DI} {dg : DG} {dt : DT} {de : DV} {s s1 : List Cell} (enc : α → D) (enc' : γ → D) (xs : List α) (p : α → Bool) (f : α → γ) (hd : di s = .ok (xs.map enc) s1) (hl : xs.length ≤ 16777216) (hs : ∀ j ∈ vs, s1[j]? = some .un ∨ ∃ d, s1[j]? = some (.sh d))
    (h : ∀ x ∈ xs, ∃ a b, dg (enc x) (wipeC s1 vs) = some a ∧ dt a = .ok (p x) b ∧ (p x = false → wipeC b vs = wipeC s1 vs) ∧ (p x = true → ∃ c, de b = .ok (enc' (f x)) c ∧ wipeC c vs = wipeC s1 vs)) :
    cLc vs di dg dt de s = .ok (.ol (((xs.filter p).map f).map enc')) s1 := by
  have ww : ∀ s : List Cell, wipeC (wipeC s vs) vs = wipeC s vs := fun s => by
    apply List.ext_getElem?
    intro j
    by_cases hj : j ∈ vs
    · have key : ∀ (s : List Cell), (wipeC s vs)[j]? = if j < s.length then some .un else none := fun s => by
        cases e : (wipeC s vs)[j]? with
        | none =>
          rw [List.getElem?_eq_none_iff, wipeC_length] at e
          rw [if_neg (by omega)]
        | some c =>
          have hlt := (List.getElem?_eq_some_iff.mp e).1
          rw [wipeC_length] at hlt
          rw [if_pos hlt]
          by_cases hc : c = .un
          · rw [hc]
          · exact absurd hj (wipeC_get e hc).2
      rw [key, key, wipeC_length]
    · rw [wipeC_get' hj]
  have run : ∀ (xs : List α) (s : List Cell), wipeC s vs = wipeC s1 vs → (∀ x ∈ xs, ∃ a b, dg (enc x) (wipeC s1 vs) = some a ∧ dt a = .ok (p x) b ∧ (p x = false → wipeC b vs = wipeC s1 vs) ∧ (p x = true → ∃ c, de b = .ok (enc' (f x)) c ∧ wipeC c vs = wipeC s1 vs)) →
      ∃ s', compD vs dg dt de (xs.map enc) s = .ok (((xs.filter p).map f).map enc') s' ∧ wipeC s' vs = wipeC s1 vs := by
    intro xs
    induction xs with
    | nil => intro s hw _; exact ⟨s, rfl, hw⟩
    | cons x xs ih =>
      intro s hw h
      obtain ⟨a, b, e1, e2, h3, h4⟩ := h x (List.mem_cons_self ..)
      cases hp : p x with
      | false =>
        obtain ⟨s', e4, hw4⟩ := ih b (h3 hp) (fun y hy => h y (List.mem_cons_of_mem _ hy))
        refine ⟨s', ?_, hw4⟩
        rw [List.map_cons]
        unfold compD
        rw [hw]
        rw [hp] at e2
        simp only [e1, e2, O.calm, O.bind_ok, e4]
        simp [hp]
      | true =>
        obtain ⟨c, e5, hw5⟩ := h4 hp
        obtain ⟨s', e4, hw4⟩ := ih c hw5 (fun y hy => h y (List.mem_cons_of_mem _ hy))
        refine ⟨s', ?_, hw4⟩
        rw [List.map_cons]
        unfold compD
        rw [hw]
        rw [hp] at e2
        simp only [e1, e2, O.calm, O.bind_ok, e5, e4, if_true]
        simp [hp]
  obtain ⟨s', e, hw⟩ := run xs s1 rfl h
  unfold cLc
  rw [hd]
  simp only [O.bind_ok]
  rw [if_pos (by simpa using hl), e]
  simp only [O.bind_ok]
  rw [backC_id hw hs]
theorem comp_map {α γ : Type} {vs : List Nat} {di : DI} {dg : DG} {de : DV} {s s1 : List Cell} (enc : α → D) (enc' : γ → D) (xs : List α) (f : α → γ) (hd : di s = .ok (xs.map enc) s1) (hl : xs.length ≤ 16777216) (hs : ∀ j ∈ vs, s1[j]? = some .un ∨ ∃ d, s1[j]? = some (.sh d))
    (h : ∀ x ∈ xs, ∃ a c, dg (enc x) (wipeC s1 vs) = some a ∧ de a = .ok (enc' (f x)) c ∧ wipeC c vs = wipeC s1 vs) : cLc vs di dg tYesD de s = .ok (.ol ((xs.map f).map enc')) s1 := by
  have q := comp_pure (vs := vs) (di := di) (dg := dg) (dt := tYesD) (de := de) (s := s) enc enc' xs (fun _ => true) f hd hl hs (fun x hx => by
    obtain ⟨a, c, e1, e2, e3⟩ := h x hx
    exact ⟨a, a, e1, rfl, fun z => Bool.noConfusion z, fun _ => ⟨c, e2, e3⟩⟩)
  rw [q, List.filter_eq_self.mpr (fun _ _ => rfl)]
/-- a comprehension that changes the state besides, by an invariant; its own names' slots are wiped -/
theorem comp_inv {α β γ : Type} {vs : List Nat} {di : DI} {dg : DG} {de : DV} {s s1 : List Cell} (enc : α → D) (enc' : γ → D) (st : β → List Cell) (Inv : List γ → β → Prop) (xs : List α) (b : β) (hd : di s = .ok (xs.map enc) s1) (hl : xs.length ≤ 16777216) (hs : wipeC s1 vs = st b)
    (h : ∀ (b : β) (ys : List γ) (x : α), x ∈ xs → Inv ys b → ∃ a y c b', dg (enc x) (st b) = some a ∧ de a = .ok (enc' y) c ∧ wipeC c vs = st b' ∧ Inv (ys ++ [y]) b') (hi : Inv [] b) :
    ∃ ys b' s', cLc vs di dg tYesD de s = .ok (.ol (ys.map enc')) (backC s1 s' vs) ∧ wipeC s' vs = st b' ∧ Inv ys b' ∧ ys.length = xs.length := by
  have run : ∀ (xs : List α) (s : List Cell) (b : β) (zs : List γ), wipeC s vs = st b → Inv zs b → (∀ (b : β) (ys : List γ) (x : α), x ∈ xs → Inv ys b → ∃ a y c b', dg (enc x) (st b) = some a ∧ de a = .ok (enc' y) c ∧ wipeC c vs = st b' ∧ Inv (ys ++ [y]) b') →
      ∃ ys b' s', compD vs dg tYesD de (xs.map enc) s = .ok (ys.map enc') s' ∧ wipeC s' vs = st b' ∧ Inv (zs ++ ys) b' ∧ ys.length = xs.length := by
    intro xs
    induction xs with
    | nil => intro s b zs hw hz _; exact ⟨[], b, s, rfl, hw, by simpa using hz, rfl⟩
    | cons x xs ih =>
      intro s b zs hw hz h
      obtain ⟨a, y, c, b', e1, e2, e3, e4⟩ := h b zs x (List.mem_cons_self ..) hz
      obtain ⟨ys, b2, s', e5, e6, e7, e8⟩ := ih c b' (zs ++ [y]) e3 e4 (fun b ys x hx => h b ys x (List.mem_cons_of_mem _ hx))
      refine ⟨y :: ys, b2, s', ?_, e6, by simpa using e7, by simp [e8]⟩
      rw [List.map_cons]
      unfold compD
      rw [hw]
      simp only [e1, tYesD, O.calm, O.bind_ok, e2, e5, if_true]
      simp
  obtain ⟨ys, b', s', e, hw, hz, hn⟩ := run xs s1 b [] hs hi h
  refine ⟨ys, b', s', ?_, hw, by simpa using hz, hn⟩
  unfold cLc
  rw [hd]
  simp only [O.bind_ok]
  rw [if_pos (by simpa using hl), e]
  rfl
/-! ### iterables -/
theorem rngD_map (lo hi : Int) : rngD lo hi = ((List.range (hi - lo).toNat).map fun (i : Nat) => lo + (i : Int)).map D.int := by
  unfold rngD
  rw [List.map_map]
  rfl
theorem rngD_map0 (n : Nat) : rngD 0 (n : Int) = (List.range n).map fun (i : Nat) => D.int i := by
  unfold rngD
  have e : ((n : Int) - 0).toNat = n := by omega
  rw [e]
  apply List.map_congr_left
  intro i _
  rw [Int.zero_add]
theorem bSm {n : Int} (h0 : -1000000 ≤ n) (h1 : n ≤ 1000000) : bSmall n = true := by
  unfold bSmall
  rw [Bool.and_eq_true]
  exact ⟨decide_eq_true (by omega), decide_eq_true (by omega)⟩
theorem enumD_map {α : Type} (enc : α → D) : ∀ (xs : List α) (n : Nat), enumD n (xs.map enc) = (xs.zipIdx n).map fun (p : α × Nat) => D.tup [.int p.2, enc p.1]
  | [], _ => rfl
  | x :: xs, n => by
    have z := enumD_map enc xs (n + 1)
    have e : ((n : Int) + 1) = ((n + 1 : Nat) : Int) := by omega
    simp only [List.map_cons, enumD, List.zipIdx_cons]
    rw [e, z]
structure J1 where
  (a : Cell)
@[simp] theorem J1.ex {p : J1 → Prop} : (∃ j, p j) ↔ ∃ a, p ⟨a⟩ := ⟨fun ⟨⟨a⟩, z⟩ => ⟨a, z⟩, fun ⟨a, z⟩ => ⟨⟨a⟩, z⟩⟩
structure J2 where
  (a b : Cell)
@[simp] theorem J2.ex {p : J2 → Prop} : (∃ j, p j) ↔ ∃ a b, p ⟨a, b⟩ := ⟨fun ⟨⟨a, b⟩, z⟩ => ⟨a, b, z⟩, fun ⟨a, b, z⟩ => ⟨⟨a, b⟩, z⟩⟩
structure J3 where
  (a b c : Cell)
@[simp] theorem J3.ex {p : J3 → Prop} : (∃ j, p j) ↔ ∃ a b c, p ⟨a, b, c⟩ := ⟨fun ⟨⟨a, b, c⟩, z⟩ => ⟨a, b, c, z⟩, fun ⟨a, b, c, z⟩ => ⟨⟨a, b, c⟩, z⟩⟩
structure J4 where
  (a b c d : Cell)
@[simp] theorem J4.ex {p : J4 → Prop} : (∃ j, p j) ↔ ∃ a b c d, p ⟨a, b, c, d⟩ := ⟨fun ⟨⟨a, b, c, d⟩, z⟩ => ⟨a, b, c, d, z⟩, fun ⟨a, b, c, d, z⟩ => ⟨⟨a, b, c, d⟩, z⟩⟩
structure J5 where
  (a b c d e : Cell)
@[simp] theorem J5.ex {p : J5 → Prop} : (∃ j, p j) ↔ ∃ a b c d e, p ⟨a, b, c, d, e⟩ := ⟨fun ⟨⟨a, b, c, d, e⟩, z⟩ => ⟨a, b, c, d, e, z⟩, fun ⟨a, b, c, d, e, z⟩ => ⟨⟨a, b, c, d, e⟩, z⟩⟩
structure J6 where
  (a b c d e f : Cell)
@[simp] theorem J6.ex {p : J6 → Prop} : (∃ j, p j) ↔ ∃ a b c d e f, p ⟨a, b, c, d, e, f⟩ := ⟨fun ⟨⟨a, b, c, d, e, f⟩, z⟩ => ⟨a, b, c, d, e, f, z⟩, fun ⟨a, b, c, d, e, f, z⟩ => ⟨⟨a, b, c, d, e, f⟩, z⟩⟩
structure J7 where
  (a b c d e f g : Cell)
@[simp] theorem J7.ex {p : J7 → Prop} : (∃ j, p j) ↔ ∃ a b c d e f g, p ⟨a, b, c, d, e, f, g⟩ := ⟨fun ⟨⟨a, b, c, d, e, f, g⟩, z⟩ => ⟨a, b, c, d, e, f, g, z⟩, fun ⟨a, b, c, d, e, f, g, z⟩ => ⟨⟨a, b, c, d, e, f, g⟩, z⟩⟩
structure J8 where
  (a b c d e f g h : Cell)
@[simp] theorem J8.ex {p : J8 → Prop} : (∃ j, p j) ↔ ∃ a b c d e f g h, p ⟨a, b, c, d, e, f, g, h⟩ := ⟨fun ⟨⟨a, b, c, d, e, f, g, h⟩, z⟩ => ⟨a, b, c, d, e, f, g, h, z⟩, fun ⟨a, b, c, d, e, f, g, h, z⟩ => ⟨⟨a, b, c, d, e, f, g, h⟩, z⟩⟩
structure J9 where
  (a b c d e f g h i : Cell)
@[simp] theorem J9.ex {p : J9 → Prop} : (∃ j, p j) ↔ ∃ a b c d e f g h i, p ⟨a, b, c, d, e, f, g, h, i⟩ := ⟨fun ⟨⟨a, b, c, d, e, f, g, h, i⟩, z⟩ => ⟨a, b, c, d, e, f, g, h, i, z⟩, fun ⟨a, b, c, d, e, f, g, h, i, z⟩ => ⟨⟨a, b, c, d, e, f, g, h, i⟩, z⟩⟩
structure J10 where
  (a b c d e f g h i k : Cell)
@[simp] theorem J10.ex {p : J10 → Prop} : (∃ j, p j) ↔ ∃ a b c d e f g h i k, p ⟨a, b, c, d, e, f, g, h, i, k⟩ := ⟨fun ⟨⟨a, b, c, d, e, f, g, h, i, k⟩, z⟩ => ⟨a, b, c, d, e, f, g, h, i, k, z⟩, fun ⟨a, b, c, d, e, f, g, h, i, k, z⟩ => ⟨⟨a, b, c, d, e, f, g, h, i, k⟩, z⟩⟩
structure J11 where
  (a b c d e f g h i k l : Cell)
@[simp] theorem J11.ex {p : J11 → Prop} : (∃ j, p j) ↔ ∃ a b c d e f g h i k l, p ⟨a, b, c, d, e, f, g, h, i, k, l⟩ := ⟨fun ⟨⟨a, b, c, d, e, f, g, h, i, k, l⟩, z⟩ => ⟨a, b, c, d, e, f, g, h, i, k, l, z⟩, fun ⟨a, b, c, d, e, f, g, h, i, k, l, z⟩ => ⟨⟨a, b, c, d, e, f, g, h, i, k, l⟩, z⟩⟩
structure J12 where
  (a b c d e f g h i k l m : Cell)
@[simp] theorem J12.ex {p : J12 → Prop} : (∃ j, p j) ↔ ∃ a b c d e f g h i k l m, p ⟨a, b, c, d, e, f, g, h, i, k, l, m⟩ := ⟨fun ⟨⟨a, b, c, d, e, f, g, h, i, k, l, m⟩, z⟩ => ⟨a, b, c, d, e, f, g, h, i, k, l, m, z⟩, fun ⟨a, b, c, d, e, f, g, h, i, k, l, m, z⟩ => ⟨⟨a, b, c, d, e, f, g, h, i, k, l, m⟩, z⟩⟩
/-- an item of enumerate -/
def enumE {α : Type} (enc : α → D) : α × Nat → D := fun q => .tup [.int q.2, enc q.1]
@[simp] theorem enumE_eq {α : Type} (enc : α → D) (x : α) (k : Nat) : enumE enc (x, k) = .tup [.int k, enc x] := (rfl)
theorem enumD_enc {α : Type} (enc : α → D) (xs : List α) : enumD 0 (xs.map enc) = xs.zipIdx.map (enumE enc) := enumD_map enc xs 0
/-- a number of range -/
def natE (i : Nat) : D := .int i
@[simp] theorem natE_eq (i : Nat) : natE i = .int i := (rfl)
theorem iRng1_eq (n : Int) (s s1 : List Cell) (v : DV) (hv : v s = .ok (.int n) s1) : iRng1 v s = if bSmall n = true then .ok (rngD 0 n) s1 else .bad := by
  unfold iRng1
  rw [hv]
  rfl
theorem iRng2_eq (n m : Int) (s s1 s2 : List Cell) (u v : DV) (hu : u s = .ok (.int n) s1) (hv : v s1 = .ok (.int m) s2) : iRng2 u v s = if (bSmall n && bSmall m) = true then .ok (rngD n m) s2 else .bad := by
  unfold iRng2
  rw [hu]
  show ((v s1).bind _) = _
  rw [hv]
  rfl
theorem iRng1_ok2 {n : Nat} {s s1 : List Cell} {v : DV} (hv : v s = .ok (.int n) s1) (hn : n ≤ 1000) : iRng1 v s = .ok ((List.range n).map natE) s1 := by
  rw [iRng1_eq n s s1 v hv, if_pos (bSm (by omega) (by omega)), rngD_map0]
  rfl
theorem iRng1_ok {n : Nat} {s : List Cell} {v : DV} (hv : v s = .ok (.int n) s) (hn : n ≤ 1000) : iRng1 v s = .ok ((List.range n).map natE) s := iRng1_ok2 hv hn
/-- a range of ints -/
def rngI (a b : Int) : List Int := (List.range (b - a).toNat).map fun (i : Nat) => a + (i : Int)
theorem mem_rngI {a b i : Int} : i ∈ rngI a b ↔ a ≤ i ∧ i < b := by
  unfold rngI
  rw [List.mem_map]
  constructor
  · rintro ⟨k, hk, rfl⟩
    have := List.mem_range.mp hk
    omega
  · intro ⟨h1, h2⟩
    exact ⟨(i - a).toNat, List.mem_range.mpr (by omega), by omega⟩
theorem rngI_length (a b : Int) : (rngI a b).length = (b - a).toNat := by simp [rngI]
theorem iRng2_ok2 {a b : Int} {s s1 s2 : List Cell} {u v : DV} (hu : u s = .ok (.int a) s1) (hv : v s1 = .ok (.int b) s2) (ha : -1000 ≤ a) (ha2 : a ≤ 1000) (hb : -1000 ≤ b) (hb2 : b ≤ 1000) : iRng2 u v s = .ok ((rngI a b).map D.int) s2 := by
  have h1 := bSm (n := a) (by omega) (by omega)
  have h2 := bSm (n := b) (by omega) (by omega)
  have h : (bSmall a && bSmall b) = true := by rw [h1, h2]; rfl
  rw [iRng2_eq a b s s1 s2 u v hu hv, if_pos h, rngD_map]
  rfl
theorem iRng2_ok {a b : Int} {s : List Cell} {u v : DV} (hu : u s = .ok (.int a) s) (hv : v s = .ok (.int b) s) (ha : -1000 ≤ a) (ha2 : a ≤ 1000) (hb : -1000 ≤ b) (hb2 : b ≤ 1000) : iRng2 u v s = .ok ((rngI a b).map D.int) s := iRng2_ok2 hu hv ha ha2 hb hb2
@[simp] theorem calm_nx (s : List Cell) : (SO.nx s).calm = .nx s := (rfl)
@[simp] theorem calm_rt (c : Cell) (s : List Cell) : (SO.rt c s).calm = .rt c s := (rfl)
@[simp] theorem calm_ex (e : Ex) (s : List Cell) : (SO.ex e s).calm = .bad := (rfl)
def tr2 (ds : DS) (e : Ex) (s : List Cell) : Option Bool → SO
  | some true => (ds s).calm
  | some false => .ex e s
  | none => .bad
def tryO (cs : Cat) (ds : DS) : SO → SO
  | .ex e s1 => tr2 ds e s1 (cs e.c)
  | r => r
@[simp] theorem a_sTry (cs : Cat) (db ds : DS) (s : List Cell) : sTry cs db ds s = tryO cs ds (db s) := by
  unfold sTry tryO
  cases db s <;> first | rfl | (simp only; unfold tr2; rfl)
@[simp] theorem tryO_nx (cs : Cat) (ds : DS) (s : List Cell) : tryO cs ds (.nx s) = .nx s := (rfl)
@[simp] theorem tryO_rt (cs : Cat) (ds : DS) (c : Cell) (s : List Cell) : tryO cs ds (.rt c s) = .rt c s := (rfl)
@[simp] theorem tryO_bk (cs : Cat) (ds : DS) (s : List Cell) : tryO cs ds (.bk s) = .bk s := (rfl)
@[simp] theorem tryO_ct (cs : Cat) (ds : DS) (s : List Cell) : tryO cs ds (.ct s) = .ct s := (rfl)
@[simp] theorem tryO_ex (cs : Cat) (ds : DS) (e : Ex) (s : List Cell) : tryO cs ds (.ex e s) = tr2 ds e s (cs e.c) := (rfl)
@[simp] theorem tr2_t (ds : DS) (e : Ex) (s : List Cell) : tr2 ds e s (some true) = (ds s).calm := (rfl)
@[simp] theorem tr2_f (ds : DS) (e : Ex) (s : List Cell) : tr2 ds e s (some false) = .ex e s := (rfl)
@[simp] theorem its_lst (l : List D) : itsD (.lst l) = some l := (rfl)
@[simp] theorem its_tup (l : List D) : itsD (.tup l) = some l := (rfl)
@[simp] theorem it_lst (l : List D) : itD (.lst l) = some l := (rfl)
@[simp] theorem it_tup (l : List D) : itD (.tup l) = some l := (rfl)
/-- how a def ends -/
def endF (n : Nat) : SO → O Cell
  | .nx s => if n ≤ s.length then .ok (.sh .non) (s.take n) else .bad
  | .rt c s => if n ≤ s.length then .ok c (s.take n) else .bad
  | .ex e s => if n ≤ s.length then .ex e (s.take n) else .bad
  | _ => .bad
@[simp] theorem endF_nx (n : Nat) (s : List Cell) : endF n (.nx s) = if n ≤ s.length then .ok (.sh .non) (s.take n) else .bad := (rfl)
@[simp] theorem endF_rt (n : Nat) (c : Cell) (s : List Cell) : endF n (.rt c s) = if n ≤ s.length then .ok c (s.take n) else .bad := (rfl)
@[simp] theorem endF_ex (n : Nat) (e : Ex) (s : List Cell) : endF n (.ex e s) = if n ≤ s.length then .ex e (s.take n) else .bad := (rfl)
def ta2 (i : Nat) (ds : DS) (e : Ex) (s : List Cell) : Option Bool → SO
  | some true => if plCL (s.set i .un) = true ∧ i < s.length then (ds (s.set i (.xn e))).endAs i else .bad
  | some false => .ex e s
  | none => .bad
def taO (cs : Cat) (i : Nat) (ds : DS) : SO → SO
  | .ex e s1 => ta2 i ds e s1 (cs e.c)
  | r => r
@[simp] theorem a_sTryAs (cs : Cat) (i : Nat) (db ds : DS) (s : List Cell) : sTryAs cs i db ds s = taO cs i ds (db s) := by
  unfold sTryAs taO
  cases db s <;> first | rfl | (simp only; unfold ta2; rfl)
@[simp] theorem taO_nx (cs : Cat) (i : Nat) (ds : DS) (s : List Cell) : taO cs i ds (.nx s) = .nx s := (rfl)
@[simp] theorem taO_rt (cs : Cat) (i : Nat) (ds : DS) (c : Cell) (s : List Cell) : taO cs i ds (.rt c s) = .rt c s := (rfl)
@[simp] theorem taO_ex (cs : Cat) (i : Nat) (ds : DS) (e : Ex) (s : List Cell) : taO cs i ds (.ex e s) = ta2 i ds e s (cs e.c) := (rfl)
@[simp] theorem ta2_t (i : Nat) (ds : DS) (e : Ex) (s : List Cell) : ta2 i ds e s (some true) = if plCL (s.set i .un) = true ∧ i < s.length then (ds (s.set i (.xn e))).endAs i else .bad := (rfl)
@[simp] theorem ta2_f (i : Nat) (ds : DS) (e : Ex) (s : List Cell) : ta2 i ds e s (some false) = .ex e s := (rfl)
@[simp] theorem endAs_nx (i : Nat) (s : List Cell) : (SO.nx s).endAs i = if plCL (s.set i .un) = true then .nx (s.set i .un) else .bad := (rfl)
@[simp] theorem endAs_rt (i : Nat) (c : Cell) (s : List Cell) : (SO.rt c s).endAs i = if plC c = true ∧ plCL (s.set i .un) = true then .rt c (s.set i .un) else .bad := (rfl)
def exO (c : Nat) (f : Str) : Option Cell → Option Cell
  | some (.xn e) => match e.ns, e.ds with
    | [f'], [d] => if e.c = c ∧ f' = f then some (.sh d) else none
    | _, _ => none
  | _ => none
@[simp] theorem a_qExF (c : Nat) (f : Str) (i : Nat) (s : List Cell) : qExF c f i s = exO c f s[i]? := (rfl)
@[simp] theorem exO_ok (c : Nat) (f : Str) (d : D) : exO c f (some (.xn ⟨c, [f], [d]⟩)) = some (.sh d) := by
  unfold exO
  simp
end VL
end
section
set_option maxRecDepth 100000
namespace VH
open PySem PySem.Spec L2 VL
def cb_BadToken : List (Option Bool) := [some false, some true, some false, some false, some false, some false, some false, some false, some false, some false, some false, some false, some false, some false, some false, some false, some false, some false, some false, some false, some false, some false, some false, some false, some false, some false, some false, some false, some false, some false, some false, some false, some false, some false, some false, some false]
abbrev ct_BadToken : Cat := catOf cb_BadToken
def cb_BadLine : List (Option Bool) := [some false, some false, some true, some false, some false, some false, some false, some false, some false, some false, some false, some false, some false, some false, some false, some false, some false, some false, some false, some false, some false, some false, some false, some false, some false, some false, some false, some false, some false, some false, some false, some false, some false, some false, some false, some false]
abbrev ct_BadLine : Cat := catOf cb_BadLine
def cb_BadSpan : List (Option Bool) := [some false, some false, some false, some true, some false, some false, some false, some false, some false, some false, some false, some false, some false, some false, some false, some false, some false, some false, some false, some false, some false, some false, some false, some false, some false, some false, some false, some false, some false, some false, some false, some false, some false, some false, some false, some false]
abbrev ct_BadSpan : Cat := catOf cb_BadSpan
def cb_BadClaim : List (Option Bool) := [some false, some false, some false, some false, some true, some false, some false, some false, some false, some false, some false, some false, some false, some false, some false, some false, some false, some false, some false, some false, some false, some false, some false, some false, some false, some false, some false, some false, some false, some false, some false, some false, some false, some false, some false, some false]
abbrev ct_BadClaim : Cat := catOf cb_BadClaim
def cb_BadPattern : List (Option Bool) := [some false, some false, some false, some false, some false, some true, some false, some false, some false, some false, some false, some false, some false, some false, some false, some false, some false, some false, some false, some false, some false, some false, some false, some false, some false, some false, some false, some false, some false, some false, some false, some false, some false, some false, some false, some false]
abbrev ct_BadPattern : Cat := catOf cb_BadPattern
def cb_BadArc : List (Option Bool) := [some false, some false, some false, some false, some false, some false, some true, some false, some false, some false, some false, some false, some false, some false, some false, some false, some false, some false, some false, some false, some false, some false, some false, some false, some false, some false, some false, some false, some false, some false, some false, some false, some false, some false, some false, some false]
abbrev ct_BadArc : Cat := catOf cb_BadArc
def cb_BadNumbers : List (Option Bool) := [some false, some false, some false, some false, some false, some false, some false, some true, some false, some false, some false, some false, some false, some false, some false, some false, some false, some false, some false, some false, some false, some false, some false, some false, some false, some false, some false, some false, some false, some false, some false, some false, some false, some false, some false, some false]
abbrev ct_BadNumbers : Cat := catOf cb_BadNumbers
def cb_Contrary : List (Option Bool) := [some false, some false, some false, some false, some false, some false, some false, some false, some true, some false, some false, some false, some false, some false, some false, some false, some false, some false, some false, some false, some false, some false, some false, some false, some false, some false, some false, some false, some false, some false, some false, some false, some false, some false, some false, some false]
abbrev ct_Contrary : Cat := catOf cb_Contrary
def cb_BadPlace : List (Option Bool) := [some false, some false, some false, some false, some false, some false, some false, some false, some false, some true, some false, some false, some false, some false, some false, some false, some false, some false, some false, some false, some false, some false, some false, some false, some false, some false, some false, some false, some false, some false, some false, some false, some false, some false, some false, some false]
abbrev ct_BadPlace : Cat := catOf cb_BadPlace
def cb_Against : List (Option Bool) := [some false, some false, some false, some false, some false, some false, some false, some false, some false, some false, some true, some false, some false, some false, some false, some false, some false, some false, some false, some false, some false, some false, some false, some false, some false, some false, some false, some false, some false, some false, some false, some false, some false, some false, some false, some false]
abbrev ct_Against : Cat := catOf cb_Against
def cb_BadSketch : List (Option Bool) := [some false, some false, some false, some false, some false, some false, some false, some false, some false, some false, some false, some true, some false, some false, some false, some false, some false, some false, some false, some false, some false, some false, some false, some false, some false, some false, some false, some false, some false, some false, some false, some false, some false, some false, some false, some false]
abbrev ct_BadSketch : Cat := catOf cb_BadSketch
def cb_NoEntry : List (Option Bool) := [some false, some false, some false, some false, some false, some false, some false, some false, some false, some false, some false, some false, some true, some false, some false, some false, some false, some false, some false, some false, some false, some false, some false, some false, some false, some false, some false, some false, some false, some false, some false, some false, some false, some false, some false, some false]
abbrev ct_NoEntry : Cat := catOf cb_NoEntry
def cb_OtherSpan : List (Option Bool) := [some false, some false, some false, some false, some false, some false, some false, some false, some false, some false, some false, some false, some false, some true, some false, some false, some false, some false, some false, some false, some false, some false, some false, some false, some false, some false, some false, some false, some false, some false, some false, some false, some false, some false, some false, some false]
abbrev ct_OtherSpan : Cat := catOf cb_OtherSpan
def cb_BadRows : List (Option Bool) := [some false, some false, some false, some false, some false, some false, some false, some false, some false, some false, some false, some false, some false, some false, some true, some false, some false, some false, some false, some false, some false, some false, some false, some false, some false, some false, some false, some false, some false, some false, some false, some false, some false, some false, some false, some false]
abbrev ct_BadRows : Cat := catOf cb_BadRows
def cb_BadCrew : List (Option Bool) := [some false, some false, some false, some false, some false, some false, some false, some false, some false, some false, some false, some false, some false, some false, some false, some true, some false, some false, some false, some false, some false, some false, some false, some false, some false, some false, some false, some false, some false, some false, some false, some false, some false, some false, some false, some false]
abbrev ct_BadCrew : Cat := catOf cb_BadCrew
def cb_BadGap : List (Option Bool) := [some false, some false, some false, some false, some false, some false, some false, some false, some false, some false, some false, some false, some false, some false, some false, some false, some true, some false, some false, some false, some false, some false, some false, some false, some false, some false, some false, some false, some false, some false, some false, some false, some false, some false, some false, some false]
abbrev ct_BadGap : Cat := catOf cb_BadGap
def cb_BadKind : List (Option Bool) := [some false, some false, some false, some false, some false, some false, some false, some false, some false, some false, some false, some false, some false, some false, some false, some false, some false, some true, some false, some false, some false, some false, some false, some false, some false, some false, some false, some false, some false, some false, some false, some false, some false, some false, some false, some false]
abbrev ct_BadKind : Cat := catOf cb_BadKind
def cb_BadName : List (Option Bool) := [some false, some false, some false, some false, some false, some false, some false, some false, some false, some false, some false, some false, some false, some false, some false, some false, some false, some false, some true, some false, some false, some false, some false, some false, some false, some false, some false, some false, some false, some false, some false, some false, some false, some false, some false, some false]
abbrev ct_BadName : Cat := catOf cb_BadName
def cb_BadRanking : List (Option Bool) := [some false, some false, some false, some false, some false, some false, some false, some false, some false, some false, some false, some false, some false, some false, some false, some false, some false, some false, some false, some true, some false, some false, some false, some false, some false, some false, some false, some false, some false, some false, some false, some false, some false, some false, some false, some false]
abbrev ct_BadRanking : Cat := catOf cb_BadRanking
def cb_BadScheme : List (Option Bool) := [some false, some false, some false, some false, some false, some false, some false, some false, some false, some false, some false, some false, some false, some false, some false, some false, some false, some false, some false, some false, some true, some false, some false, some false, some false, some false, some false, some false, some false, some false, some false, some false, some false, some false, some false, some false]
abbrev ct_BadScheme : Cat := catOf cb_BadScheme
def cb_BadSheet : List (Option Bool) := [some false, some false, some false, some false, some false, some false, some false, some false, some false, some false, some false, some false, some false, some false, some false, some false, some false, some false, some false, some false, some false, some true, some false, some false, some false, some false, some false, some false, some false, some false, some false, some false, some false, some false, some false, some false]
abbrev ct_BadSheet : Cat := catOf cb_BadSheet
def cb_BadText : List (Option Bool) := [some false, some false, some false, some false, some false, some false, some false, some false, some false, some false, some false, some false, some false, some false, some false, some false, some false, some false, some false, some false, some false, some false, some true, some false, some false, some false, some false, some false, some false, some false, some false, some false, some false, some false, some false, some false]
abbrev ct_BadText : Cat := catOf cb_BadText
def cb_BadYard : List (Option Bool) := [some false, some false, some false, some false, some false, some false, some false, some false, some false, some false, some false, some false, some false, some false, some false, some false, some false, some false, some false, some false, some false, some false, some false, some true, some false, some false, some false, some false, some false, some false, some false, some false, some false, some false, some false, some false]
abbrev ct_BadYard : Cat := catOf cb_BadYard
def cb_CutOpen : List (Option Bool) := [some false, some false, some false, some false, some false, some false, some false, some false, some false, some false, some false, some false, some false, some false, some false, some false, some false, some false, some false, some false, some false, some false, some false, some false, some true, some false, some false, some false, some false, some false, some false, some false, some false, some false, some false, some false]
abbrev ct_CutOpen : Cat := catOf cb_CutOpen
def cb_DuplicateName : List (Option Bool) := [some false, some false, some false, some false, some false, some false, some false, some false, some false, some false, some false, some false, some false, some false, some false, some false, some false, some false, some false, some false, some false, some false, some false, some false, some false, some true, some false, some false, some false, some false, some false, some false, some false, some false, some false, some false]
abbrev ct_DuplicateName : Cat := catOf cb_DuplicateName
def cb_Finished : List (Option Bool) := [some false, some false, some false, some false, some false, some false, some false, some false, some false, some false, some false, some false, some false, some false, some false, some false, some false, some false, some false, some false, some false, some false, some false, some false, some false, some false, some true, some false, some false, some false, some false, some false, some false, some false, some false, some false]
abbrev ct_Finished : Cat := catOf cb_Finished
def cb_NoLetters : List (Option Bool) := [some false, some false, some false, some false, some false, some false, some false, some false, some false, some false, some false, some false, some false, some false, some false, some false, some false, some false, some false, some false, some false, some false, some false, some false, some false, some false, some false, some true, some false, some false, some false, some false, some false, some false, some false, some false]
abbrev ct_NoLetters : Cat := catOf cb_NoLetters
def cb_NoMessage : List (Option Bool) := [some false, some false, some false, some false, some false, some false, some false, some false, some false, some false, some false, some false, some false, some false, some false, some false, some false, some false, some false, some false, some false, some false, some false, some false, some false, some false, some false, some false, some true, some false, some false, some false, some false, some false, some false, some false]
abbrev ct_NoMessage : Cat := catOf cb_NoMessage
def cb_NotAgain : List (Option Bool) := [some false, some false, some false, some false, some false, some false, some false, some false, some false, some false, some false, some false, some false, some false, some false, some false, some false, some false, some false, some false, some false, some false, some false, some false, some false, some false, some false, some false, some false, some true, some false, some false, some false, some false, some false, some false]
abbrev ct_NotAgain : Cat := catOf cb_NotAgain
def cb_NotFitting : List (Option Bool) := [some false, some false, some false, some false, some false, some false, some false, some false, some false, some false, some false, some false, some false, some false, some false, some false, some false, some false, some false, some false, some false, some false, some false, some false, some false, some false, some false, some false, some false, some false, some true, some false, some false, some false, some false, some false]
abbrev ct_NotFitting : Cat := catOf cb_NotFitting
def cb_NotUnder : List (Option Bool) := [some false, some false, some false, some false, some false, some false, some false, some false, some false, some false, some false, some false, some false, some false, some false, some false, some false, some false, some false, some false, some false, some false, some false, some false, some false, some false, some false, some false, some false, some false, some false, some true, some false, some false, some false, some false]
abbrev ct_NotUnder : Cat := catOf cb_NotUnder
def cb_OtherHolding : List (Option Bool) := [some false, some false, some false, some false, some false, some false, some false, some false, some false, some false, some false, some false, some false, some false, some false, some false, some false, some false, some false, some false, some false, some false, some false, some false, some false, some false, some false, some false, some false, some false, some false, some false, some true, some false, some false, some false]
abbrev ct_OtherHolding : Cat := catOf cb_OtherHolding
def cb_OutOfOrder : List (Option Bool) := [some false, some false, some false, some false, some false, some false, some false, some false, some false, some false, some false, some false, some false, some false, some false, some false, some false, some false, some false, some false, some false, some false, some false, some false, some false, some false, some false, some false, some false, some false, some false, some false, some false, some true, some false, some false]
abbrev ct_OutOfOrder : Cat := catOf cb_OutOfOrder
def cb_Unclear : List (Option Bool) := [some false, some false, some false, some false, some false, some false, some false, some false, some false, some false, some false, some false, some false, some false, some false, some false, some false, some false, some false, some false, some false, some false, some false, some false, some false, some false, some false, some false, some false, some false, some false, some false, some false, some false, some true, some false]
abbrev ct_Unclear : Cat := catOf cb_Unclear
def cb_UnknownName : List (Option Bool) := [some false, some false, some false, some false, some false, some false, some false, some false, some false, some false, some false, some false, some false, some false, some false, some false, some false, some false, some false, some false, some false, some false, some false, some false, some false, some false, some false, some false, some false, some false, some false, some false, some false, some false, some false, some true]
abbrev ct_UnknownName : Cat := catOf cb_UnknownName
def lg__law_stream_2 : DG := gName 5
def lb__law_stream_2 : DS := sSeq (sExpr (vAppend 1 (vQ (qOp oMod (qUn oInt (qVar 4)) (qC (.int 100)))))) (sSeq (sSet 4 (cV (vQ (qOp oDiv (qVar 4) (qC (.int 100)))))) (sSeq (sIf (tV' (vQ (qOp oEq (qVar 4) (qC (.int 0))))) (sSeq (sBreak) (sNil)) (sNil)) (sNil)))
def lg__law_stream_1 : DG := gTup 2 (gsCons (gName 2) (gsCons (gName 3) (gsNil)))
def lb__law_stream_1 : DS := sSeq (sSet 4 (cV (vQ (qUn oAbs (qVar 3))))) (sSeq (sIf (tV' (vQ (qOp oLt (qVar 4) (qC (.int 1000000000000000000))))) (sSeq (sSet 4 (cV (vQ (qOp oMod (qUn oInt (qOp oMul (qVar 4) (qOp oAdd (qOp oAdd (qC (.int 6364136223846793005)) (qOp oMul (qC (.int 2)) (qVar 2))) (qUn oInt (qOp oLt (qVar 3) (qC (.int 0))))))) (qC (.int 1000000000000000003)))))) (sSeq (sSet 4 (cV (vQ (qOp oMod (qUn oInt (qOp oMul (qVar 4) (qOp oAdd (qVar 4) (qC (.int 1442695040888963407))))) (qC (.int 1000000000000000009)))))) (sNil))) (sNil)) (sSeq (sFor (iRng1 (vQ (qC (.int 60)))) lg__law_stream_2 lb__law_stream_2) (sNil)))
def d__law_stream : DS := sSeq (sSet 1 (cLst (vsNil))) (sSeq (sFor (iEnumD (vC (cSlN 0 (bNone) (bSome (vQ (qC (.int 63))))))) lg__law_stream_1 lb__law_stream_1) (sSeq (sExpr (vReverse 1)) (sSeq (sRet (cVar 1)) (sNil))))
def f__law_stream : DF := fnD 1 6 d__law_stream
theorem u__law_stream (c0 : Cell) : f__law_stream [c0] = endF 1 (d__law_stream [c0, .un, .un, .un, .un, .un]) := (rfl)
def d__law_draw : DS := sSeq (sIf (tV' (vQ (qOp oEq (qUn oLen (qVar 0)) (qC (.int 0))))) (sSeq (sRet (cV (vQ (qC (.int 0))))) (sNil)) (sNil)) (sSeq (sRet (cV (vOp oMod (vUn oInt (vPop 0)) (vVar 1)))) (sNil))
def f__law_draw : DF := fnD 2 2 d__law_draw
theorem u__law_draw (c0 c1 : Cell) : f__law_draw [c0, c1] = endF 2 (d__law_draw [c0, c1]) := (rfl)
def d__law_claim : DS := sSeq (sSet 4 (cV (vC (cCall [some 0, none] (asSlot 0 (asVal (vVar 1) (asNil))) f__law_draw)))) (sSeq (sSet 5 (cV (vOp oAdd (vQ (qOp oAdd (qVar 4) (qC (.int 1)))) (vC (cCall [some 0, none] (asSlot 0 (asVal (vQ (qOp oSub (qVar 1) (qVar 4))) (asNil))) f__law_draw))))) (sSeq (sSet 6 (cV (vUn oSum (vC (cSlN 2 (bSome (vVar 4)) (bSome (vVar 5))))))) (sSeq (sSet 7 (cV (vC (cCall [some 0, none] (asSlot 0 (asVal (vVar 3) (asNil))) f__law_draw)))) (sSeq (sIf (tV' (vQ (qOp oLt (qVar 7) (qC (.int 4))))) (sSeq (sRet (cV (vTup (vsCons (vVar 4) (vsCons (vVar 5) (vsCons (vVar 6) (vsCons (vVar 6) (vsNil)))))))) (sNil)) (sNil)) (sSeq (sIf (tV' (vQ (qOp oEq (qVar 7) (qC (.int 4))))) (sSeq (sRet (cV (vTup (vsCons (vVar 4) (vsCons (vVar 5) (vsCons (vOp oSub (vVar 6) (vC (cCall [some 0, none] (asSlot 0 (asVal (vQ (qC (.int 3))) (asNil))) f__law_draw))) (vsCons (vOp oAdd (vVar 6) (vC (cCall [some 0, none] (asSlot 0 (asVal (vQ (qC (.int 2))) (asNil))) f__law_draw))) (vsNil)))))))) (sNil)) (sNil)) (sSeq (sIf (tV' (vQ (qOp oEq (qVar 7) (qC (.int 5))))) (sSeq (sRet (cV (vTup (vsCons (vVar 4) (vsCons (vVar 5) (vsCons (vVar 6) (vsCons (vOp oAdd (vQ (qOp oSub (qVar 5) (qVar 4))) (vC (cCall [some 0, none] (asSlot 0 (asVal (vQ (qC (.int 2))) (asNil))) f__law_draw))) (vsNil)))))))) (sNil)) (sNil)) (sSeq (sIf (tV' (vQ (qOp oEq (qVar 7) (qC (.int 6))))) (sSeq (sRet (cV (vTup (vsCons (vVar 4) (vsCons (vVar 5) (vsCons (vUn oNeg (vC (cCall [some 0, none] (asSlot 0 (asVal (vQ (qC (.int 3))) (asNil))) f__law_draw))) (vsCons (vVar 6) (vsNil)))))))) (sNil)) (sNil)) (sSeq (sSet 8 (cV (vOp oSub (vC (cCall [some 0, none] (asSlot 0 (asVal (vQ (qOp oAdd (qOp oSub (qVar 5) (qVar 4)) (qC (.int 2)))) (asNil))) f__law_draw)) (vC (cCall [some 0, none] (asSlot 0 (asVal (vQ (qC (.int 2))) (asNil))) f__law_draw))))) (sSeq (sRet (cV (vTup (vsCons (vVar 4) (vsCons (vVar 5) (vsCons (vVar 8) (vsCons (vOp oAdd (vVar 8) (vC (cCall [some 0, none] (asSlot 0 (asVal (vQ (qC (.int 3))) (asNil))) f__law_draw))) (vsNil)))))))) (sNil))))))))))
def f__law_claim : DF := fnD 4 9 d__law_claim
theorem u__law_claim (c0 c1 c2 c3 : Cell) : f__law_claim [c0, c1, c2, c3] = endF 4 (d__law_claim [c0, c1, c2, c3, .un, .un, .un, .un, .un]) := (rfl)
def cd__law_case_1 : DC := cLc [5] (iRng1 (vVar 2)) (gName 5) (tYesD) (vC (cCall [some 0, none] (asSlot 0 (asVal (vQ (qC (.int 2))) (asNil))) f__law_draw))
def lg__law_case_2 : DG := gName 5
def lb__law_case_2 : DS := sSeq (sExpr (vAppend 4 (vC (cCall [some 0, none, none, none] (asSlot 0 (asVal (vVar 2) (asVal (vVar 3) (asVal (vVar 1) (asNil))))) f__law_claim)))) (sNil)
def d__law_case : DS := sSeq (sSet 2 (cV (vOp oMod (vUn oInt (vOp oAdd (vC (cCall [some 0, none] (asSlot 0 (asVal (vQ (qC (.int 8))) (asNil))) f__law_draw)) (vQ (qC (.int 3))))) (vQ (qC (.int 8)))))) (sSeq (sSet 3 cd__law_case_1) (sSeq (sSet 4 (cLst (vsNil))) (sSeq (sIf (tV' (vQ (qOp oGt (qVar 2) (qC (.int 0))))) (sSeq (sFor (iRng1 (vOp oAdd (vQ (qC (.int 1))) (vC (cCall [some 0, none] (asSlot 0 (asVal (vQ (qC (.int 6))) (asNil))) f__law_draw)))) lg__law_case_2 lb__law_case_2) (sNil)) (sNil)) (sSeq (sRet (cV (vTup (vsCons (vVar 2) (vsCons (vVar 3) (vsCons (vVar 4) (vsNil))))))) (sNil)))))
def f__law_case : DF := fnD 2 6 d__law_case
theorem u__law_case (c0 c1 : Cell) : f__law_case [c0, c1] = endF 2 (d__law_case [c0, c1, .un, .un, .un, .un]) := (rfl)
def d_is_whole : DS := sSeq (sRet (cV (vAnd (vQ (qUn (oIsi .int) (qVar 0))) (vNot (vQ (qUn (oIsi .bool) (qVar 0))))))) (sNil)
def f_is_whole : DF := fnD 1 1 d_is_whole
theorem u_is_whole (c0 : Cell) : f_is_whole [c0] = endF 1 (d_is_whole [c0]) := (rfl)
def d_check_span : DS := sSeq (sIf (tOrD (tNotD (tV' (vC (cCall [none] (asVal (vVar 0) (asNil)) f_is_whole)))) (tV' (vQ (qOp oLt (qVar 0) (qC (.int 0)))))) (sSeq (sRaise1 3 ("span" : PySem.Str) (vVar 0)) (sNil)) (sNil)) (sNil)
def f_check_span : DF := fnD 1 1 d_check_span
theorem u_check_span (c0 : Cell) : f_check_span [c0] = endF 1 (d_check_span [c0]) := (rfl)
def cd_is_claim_1 : DC := cLc [6] (iVal (vVar 1)) (gName 6) (tYesD) (vC (cCall [none] (asVal (vVar 6) (asNil)) f_is_whole))
def d_is_claim : DS := sSeq (sIf (tOrD (tNotD (tV' (vQ (qUn (oIsi .tuple) (qVar 1))))) (tV' (vQ (qOp oNe (qUn oLen (qVar 1)) (qC (.int 4)))))) (sSeq (sRet (cV (vQ (qC (.bl false))))) (sNil)) (sNil)) (sSeq (sIf (tNotD (tV' (vUn oAll (vC (cd_is_claim_1))))) (sSeq (sRet (cV (vQ (qC (.bl false))))) (sNil)) (sNil)) (sSeq (sAsg (vVar 1) (gTup 4 (gsCons (gName 2) (gsCons (gName 3) (gsCons (gName 4) (gsCons (gName 5) (gsNil))))))) (sSeq (sRet (cV (vAnd (vQ (qOp oLe (qC (.int 0)) (qVar 2))) (vAnd (vQ (qOp oLt (qVar 2) (qVar 3))) (vAnd (vQ (qOp oLe (qVar 3) (qVar 0))) (vQ (qOp oLe (qVar 4) (qVar 5)))))))) (sNil))))
def f_is_claim : DF := fnD 2 7 d_is_claim
theorem u_is_claim (c0 c1 : Cell) : f_is_claim [c0, c1] = endF 2 (d_is_claim [c0, c1, .un, .un, .un, .un, .un]) := (rfl)
def lg_check_claims_1 : DG := gTup 2 (gsCons (gName 2) (gsCons (gName 3) (gsNil)))
def lb_check_claims_1 : DS := sSeq (sIf (tNotD (tV' (vC (cCall [none, none] (asVal (vVar 0) (asVal (vVar 3) (asNil))) f_is_claim)))) (sSeq (sRaise1 4 ("place" : PySem.Str) (vVar 2)) (sNil)) (sNil)) (sNil)
def d_check_claims : DS := sSeq (sExpr (vC (cCall [none] (asVal (vVar 0) (asNil)) f_check_span))) (sSeq (sFor (iEnumD (vVar 1)) lg_check_claims_1 lb_check_claims_1) (sNil))
def f_check_claims : DF := fnD 2 4 d_check_claims
theorem u_check_claims (c0 c1 : Cell) : f_check_claims [c0, c1] = endF 2 (d_check_claims [c0, c1, .un, .un]) := (rfl)
def cd_arcs_of_1 : DC := cLc [4] (iRng1 (vVar 0)) (gName 4) (tYesD) (vTup (vsCons (vQ (qC (.str ("up" : PySem.Str)))) (vsCons (vVar 4) (vsNil))))
def cd_arcs_of_2 : DC := cLc [4] (iRng1 (vVar 0)) (gName 4) (tYesD) (vTup (vsCons (vQ (qC (.str ("flat" : PySem.Str)))) (vsCons (vVar 4) (vsNil))))
def lg_arcs_of_3 : DG := gName 3
def lb_arcs_of_3 : DS := sSeq (sAugL 2 (vC (cLst (vsCons (vTup (vsCons (vQ (qC (.str ("most" : PySem.Str)))) (vsCons (vVar 3) (vsNil)))) (vsCons (vTup (vsCons (vQ (qC (.str ("least" : PySem.Str)))) (vsCons (vVar 3) (vsNil)))) (vsNil)))))) (sNil)
def d_arcs_of : DS := sSeq (sExpr (vC (cCall [none, none] (asVal (vVar 0) (asVal (vVar 1) (asNil))) f_check_claims))) (sSeq (sSet 2 cd_arcs_of_1) (sSeq (sAugL 2 (vC (cd_arcs_of_2))) (sSeq (sFor (iRng1 (vQ (qUn oLen (qVar 1)))) lg_arcs_of_3 lb_arcs_of_3) (sSeq (sRet (cVar 2)) (sNil)))))
def f_arcs_of : DF := fnD 2 5 d_arcs_of
theorem u_arcs_of (c0 c1 : Cell) : f_arcs_of [c0, c1] = endF 2 (d_arcs_of [c0, c1, .un, .un, .un]) := (rfl)
def d_arc_line : DS := sSeq (sAsg (vVar 1) (gTup 2 (gsCons (gName 2) (gsCons (gName 3) (gsNil))))) (sSeq (sIf (tV' (vQ (qOp oEq (qVar 2) (qC (.str ("up" : PySem.Str)))))) (sSeq (sRet (cV (vTup (vsCons (vVar 3) (vsCons (vQ (qOp oAdd (qVar 3) (qC (.int 1)))) (vsCons (vQ (qC (.int 1))) (vsNil))))))) (sNil)) (sNil)) (sSeq (sIf (tV' (vQ (qOp oEq (qVar 2) (qC (.str ("flat" : PySem.Str)))))) (sSeq (sRet (cV (vTup (vsCons (vQ (qOp oAdd (qVar 3) (qC (.int 1)))) (vsCons (vVar 3) (vsCons (vQ (qC (.int 0))) (vsNil))))))) (sNil)) (sNil)) (sSeq (sAsg (vQ (qOp oIx (qVar 0) (qVar 3))) (gTup 4 (gsCons (gName 4) (gsCons (gName 5) (gsCons (gName 6) (gsCons (gName 7) (gsNil))))))) (sSeq (sIf (tV' (vQ (qOp oEq (qVar 2) (qC (.str ("most" : PySem.Str)))))) (sSeq (sRet (cV (vTup (vsCons (vVar 4) (vsCons (vVar 5) (vsCons (vVar 7) (vsNil))))))) (sNil)) (sNil)) (sSeq (sRet (cV (vTup (vsCons (vVar 5) (vsCons (vVar 4) (vsCons (vQ (qUn oNeg (qVar 6))) (vsNil))))))) (sNil))))))
def f_arc_line : DF := fnD 2 8 d_arc_line
theorem u_arc_line (c0 c1 : Cell) : f_arc_line [c0, c1] = endF 2 (d_arc_line [c0, c1, .un, .un, .un, .un, .un, .un]) := (rfl)
def lg_arc_lines_1 : DG := gName 4
def lb_arc_lines_1 : DS := sSeq (sAsg (vC (cCall [none, none] (asVal (vVar 1) (asVal (vVar 4) (asNil))) f_arc_line)) (gTup 3 (gsCons (gName 5) (gsCons (gName 6) (gsCons (gName 7) (gsNil)))))) (sSeq (sIf (tV' (vQ (qOp oEq (qOp oIx (qVar 4) (qC (.int 0))) (qC (.str ("flat" : PySem.Str)))))) (sSeq (sExpr (vAppend 3 (vTup (vsCons (vVar 5) (vsCons (vVar 6) (vsCons (vVar 7) (vsCons (vVar 4) (vsNil)))))))) (sNil)) (sSeq (sExpr (vAppend 2 (vTup (vsCons (vVar 5) (vsCons (vVar 6) (vsCons (vVar 7) (vsCons (vVar 4) (vsNil)))))))) (sNil))) (sNil))
def d_arc_lines : DS := sSeq (sSet 2 (cLst (vsNil))) (sSeq (sSet 3 (cLst (vsNil))) (sSeq (sFor (iVal (vC (cCall [none, none] (asVal (vVar 0) (asVal (vVar 1) (asNil))) f_arcs_of))) lg_arc_lines_1 lb_arc_lines_1) (sSeq (sExpr (vReverse 3)) (sSeq (sRet (cOpV oCatL (vVar 2) (vVar 3))) (sNil)))))
def f_arc_lines : DF := fnD 2 8 d_arc_lines
theorem u_arc_lines (c0 c1 : Cell) : f_arc_lines [c0, c1] = endF 2 (d_arc_lines [c0, c1, .un, .un, .un, .un, .un, .un]) := (rfl)
def lg_relaxed_1 : DG := gTup 4 (gsCons (gName 4) (gsCons (gName 5) (gsCons (gName 6) (gsCons (gName 7) (gsNil)))))
def lb_relaxed_1 : DS := sSeq (sIf (tV' (vQ (qOp oNotN (qOp oIx (qVar 1) (qVar 4)) (qC .non)))) (sSeq (sSet 8 (cV (vQ (qOp oAdd (qOp oIx (qVar 1) (qVar 4)) (qVar 6))))) (sSeq (sIf (tOrD (tV' (vQ (qOp oIsN (qOp oIx (qVar 1) (qVar 5)) (qC .non)))) (tV' (vQ (qOp oLt (qVar 8) (qOp oIx (qVar 1) (qVar 5)))))) (sSeq (sSetIx 1 (vVar 8) (vVar 5)) (sSeq (sSetIx 2 (vTup (vsCons (vVar 4) (vsCons (vVar 7) (vsNil)))) (vVar 5)) (sSeq (sSet 3 (cV (vVar 5))) (sNil)))) (sNil)) (sNil))) (sNil)) (sNil)
def d_relaxed : DS := sSeq (sSet 3 (cV (vQ (qC .non)))) (sSeq (sFor (iVal (vVar 0)) lg_relaxed_1 lb_relaxed_1) (sSeq (sRet (cV (vVar 3))) (sNil)))
def f_relaxed : DF := fnD 3 9 d_relaxed
theorem u_relaxed (c0 c1 c2 : Cell) : f_relaxed [c0, c1, c2] = endF 3 (d_relaxed [c0, c1, c2, .un, .un, .un, .un, .un, .un]) := (rfl)
def lg_ring_through_1 : DG := gName 3
def lb_ring_through_1 : DS := sSeq (sSet 2 (cV (vQ (qOp oIx (qOp oIx (qVar 0) (qVar 2)) (qC (.int 0)))))) (sNil)
def lg_ring_through_2 : DG := gName 3
def lb_ring_through_2 : DS := sSeq (sAsg (vQ (qOp oIx (qVar 0) (qVar 2))) (gTup 2 (gsCons (gName 6) (gsCons (gName 7) (gsNil))))) (sSeq (sExpr (vAppend 5 (vVar 7))) (sSeq (sSet 2 (cV (vVar 6))) (sSeq (sIf (tV' (vQ (qOp oEq (qVar 2) (qVar 4)))) (sSeq (sBreak) (sNil)) (sNil)) (sNil))))
def d_ring_through : DS := sSeq (sSet 2 (cV (vVar 1))) (sSeq (sFor (iRng1 (vQ (qUn oLen (qVar 0)))) lg_ring_through_1 lb_ring_through_1) (sSeq (sSet 4 (cV (vVar 2))) (sSeq (sSet 5 (cLst (vsNil))) (sSeq (sFor (iRng1 (vQ (qUn oLen (qVar 0)))) lg_ring_through_2 lb_ring_through_2) (sSeq (sExpr (vReverse 5)) (sSeq (sRet (cVar 5)) (sNil)))))))
def f_ring_through : DF := fnD 2 8 d_ring_through
theorem u_ring_through (c0 c1 : Cell) : f_ring_through [c0, c1] = endF 2 (d_ring_through [c0, c1, .un, .un, .un, .un, .un, .un]) := (rfl)
def lg_bad_ring_1 : DG := gName 5
def lb_bad_ring_1 : DS := sSeq (sIf (tV' (vOp oIsN (vC (cCall [none, some 3, some 4] (asVal (vVar 2) (asSlot 3 (asSlot 4 (asNil)))) f_relaxed)) (vQ (qC .non)))) (sSeq (sRet (cV (vQ (qC .non)))) (sNil)) (sNil)) (sNil)
def d_bad_ring : DS := sSeq (sSet 2 (cV (vC (cCall [none, none] (asVal (vVar 0) (asVal (vVar 1) (asNil))) f_arc_lines)))) (sSeq (sSet 3 (cOpV oRepL (vC (cLst (vsCons (vQ (qC (.int 0))) (vsNil)))) (vQ (qOp oAdd (qVar 0) (qC (.int 1)))))) (sSeq (sSet 4 (cOpV oRepL (vC (cLst (vsCons (vQ (qC .non)) (vsNil)))) (vQ (qOp oAdd (qVar 0) (qC (.int 1)))))) (sSeq (sFor (iRng1 (vQ (qOp oAdd (qVar 0) (qC (.int 1))))) lg_bad_ring_1 lb_bad_ring_1) (sSeq (sSet 6 (cV (vC (cCall [none, some 3, some 4] (asVal (vVar 2) (asSlot 3 (asSlot 4 (asNil)))) f_relaxed)))) (sSeq (sIf (tV' (vQ (qOp oIsN (qVar 6) (qC .non)))) (sSeq (sRet (cV (vQ (qC .non)))) (sNil)) (sNil)) (sSeq (sRet (cCall [none, none] (asVal (vVar 4) (asVal (vVar 6) (asNil))) f_ring_through)) (sNil)))))))
def f_bad_ring : DF := fnD 2 7 d_bad_ring
theorem u_bad_ring (c0 c1 : Cell) : f_bad_ring [c0, c1] = endF 2 (d_bad_ring [c0, c1, .un, .un, .un, .un, .un]) := (rfl)
def d_check_met : DS := sSeq (sSet 2 (cV (vC (cCall [none, none] (asVal (vVar 0) (asVal (vVar 1) (asNil))) f_bad_ring)))) (sSeq (sIf (tV' (vQ (qOp oNotN (qVar 2) (qC .non)))) (sSeq (sRaise1 8 ("ring" : PySem.Str) (vVar 2)) (sNil)) (sNil)) (sNil))
def f_check_met : DF := fnD 2 3 d_check_met
theorem u_check_met (c0 c1 : Cell) : f_check_met [c0, c1] = endF 2 (d_check_met [c0, c1, .un]) := (rfl)
def lg_nearest_1 : DG := gName 6
def lb_nearest_1 : DS := sSeq (sIf (tV' (vOp oIsN (vC (cCall [none, some 4, some 5] (asVal (vVar 3) (asSlot 4 (asSlot 5 (asNil)))) f_relaxed)) (vQ (qC .non)))) (sSeq (sBreak) (sNil)) (sNil)) (sNil)
def d_nearest : DS := sSeq (sSet 3 (cV (vC (cCall [none, none] (asVal (vVar 0) (asVal (vVar 1) (asNil))) f_arc_lines)))) (sSeq (sSet 4 (cOpV oRepL (vC (cLst (vsCons (vQ (qC .non)) (vsNil)))) (vQ (qOp oAdd (qVar 0) (qC (.int 1)))))) (sSeq (sSet 5 (cOpV oRepL (vC (cLst (vsCons (vQ (qC .non)) (vsNil)))) (vQ (qOp oAdd (qVar 0) (qC (.int 1)))))) (sSeq (sSetIx 4 (vQ (qC (.int 0))) (vVar 2)) (sSeq (sFor (iRng1 (vQ (qOp oAdd (qVar 0) (qC (.int 1))))) lg_nearest_1 lb_nearest_1) (sSeq (sRet (cV (vTup (vsCons (vVar 4) (vsCons (vVar 5) (vsNil)))))) (sNil))))))
def f_nearest : DF := fnD 3 7 d_nearest
theorem u_nearest (c0 c1 c2 : Cell) : f_nearest [c0, c1, c2] = endF 3 (d_nearest [c0, c1, c2, .un, .un, .un, .un]) := (rfl)
def cd_reach_table_1 : DC := cLc [2] (iRng1 (vQ (qOp oAdd (qVar 0) (qC (.int 1))))) (gName 2) (tYesD) (vOp oIx (vC (cCall [none, none, none] (asVal (vVar 0) (asVal (vVar 1) (asVal (vVar 2) (asNil)))) f_nearest)) (vQ (qC (.int 0))))
def d_reach_table : DS := sSeq (sExpr (vC (cCall [none, none] (asVal (vVar 0) (asVal (vVar 1) (asNil))) f_check_met))) (sSeq (sRet (cd_reach_table_1)) (sNil))
def f_reach_table : DF := fnD 2 3 d_reach_table
theorem u_reach_table (c0 c1 : Cell) : f_reach_table [c0, c1] = endF 2 (d_reach_table [c0, c1, .un]) := (rfl)
def d__law_raised_ring : DS := sSeq (sTryAs ct_Contrary 2 (sSeq (sExpr (vC (cCall [none, none] (asVal (vVar 0) (asVal (vVar 1) (asNil))) f_reach_table))) (sNil)) (sSeq (sRet (cV (vQ (qExF 8 ("ring" : PySem.Str) 2)))) (sNil))) (sSeq (sRet (cV (vQ (qC .non)))) (sNil))
def f__law_raised_ring : DF := fnD 2 3 d__law_raised_ring
theorem u__law_raised_ring (c0 c1 : Cell) : f__law_raised_ring [c0, c1] = endF 2 (d__law_raised_ring [c0, c1, .un]) := (rfl)
def d__law_says : DS := sSeq (sRet (cV (vAnd (vQ (qUn (oIsi .bool) (qVar 0))) (vQ (qOp oEq (qVar 0) (qVar 1)))))) (sNil)
def f__law_says : DF := fnD 2 2 d__law_says
theorem u__law_says (c0 c1 : Cell) : f__law_says [c0, c1] = endF 2 (d__law_says [c0, c1]) := (rfl)
def d_is_arc : DS := sSeq (sIf (tOrD (tNotD (tV' (vQ (qUn (oIsi .tuple) (qVar 2))))) (tV' (vQ (qOp oNe (qUn oLen (qVar 2)) (qC (.int 2)))))) (sSeq (sRet (cV (vQ (qC (.bl false))))) (sNil)) (sNil)) (sSeq (sIf (tOrD (tNotD (tV' (vQ (qUn (oIsi .str) (qOp oIx (qVar 2) (qC (.int 0))))))) (tOrD (tV' (vQ (qOp oNotIn (qOp oIx (qVar 2) (qC (.int 0))) (qC (.tup [.str ("up" : PySem.Str), .str ("flat" : PySem.Str), .str ("most" : PySem.Str), .str ("least" : PySem.Str)]))))) (tNotD (tV' (vC (cCall [none] (asVal (vQ (qOp oIx (qVar 2) (qC (.int 1)))) (asNil)) f_is_whole)))))) (sSeq (sRet (cV (vQ (qC (.bl false))))) (sNil)) (sNil)) (sSeq (sIf (tV' (vOp oIn (vQ (qOp oIx (qVar 2) (qC (.int 0)))) (vTup (vsCons (vQ (qC (.str ("up" : PySem.Str)))) (vsCons (vQ (qC (.str ("flat" : PySem.Str)))) (vsNil)))))) (sSeq (sRet (cV (vAnd (vQ (qOp oLe (qC (.int 0)) (qOp oIx (qVar 2) (qC (.int 1))))) (vQ (qOp oLt (qOp oIx (qVar 2) (qC (.int 1))) (qVar 0)))))) (sNil)) (sNil)) (sSeq (sRet (cV (vAnd (vQ (qOp oLe (qC (.int 0)) (qOp oIx (qVar 2) (qC (.int 1))))) (vQ (qOp oLt (qOp oIx (qVar 2) (qC (.int 1))) (qUn oLen (qVar 1))))))) (sNil))))
def f_is_arc : DF := fnD 3 3 d_is_arc
theorem u_is_arc (c0 c1 c2 : Cell) : f_is_arc [c0, c1, c2] = endF 3 (d_is_arc [c0, c1, c2]) := (rfl)
def lg_way_line_1 : DG := gTup 2 (gsCons (gName 6) (gsCons (gName 7) (gsNil)))
def lb_way_line_1 : DS := sSeq (sIf (tNotD (tV' (vC (cCall [none, none, none] (asVal (vVar 0) (asVal (vVar 1) (asVal (vVar 7) (asNil)))) f_is_arc)))) (sSeq (sRaise1 6 ("place" : PySem.Str) (vVar 6)) (sNil)) (sNil)) (sSeq (sAsg (vC (cCall [none, none] (asVal (vVar 1) (asVal (vVar 7) (asNil))) f_arc_line)) (gTup 3 (gsCons (gName 8) (gsCons (gName 9) (gsCons (gName 10) (gsNil)))))) (sSeq (sIf (tAndD (tV' (vQ (qOp oNotN (qVar 4) (qC .non)))) (tV' (vQ (qOp oNe (qVar 8) (qVar 4))))) (sSeq (sRaise1 6 ("place" : PySem.Str) (vVar 6)) (sNil)) (sNil)) (sSeq (sIf (tV' (vQ (qOp oIsN (qVar 3) (qC .non)))) (sSeq (sSet 3 (cV (vVar 8))) (sNil)) (sNil)) (sSeq (sSet 4 (cV (vVar 9))) (sSeq (sAug oAdd 5 (vVar 10)) (sNil))))))
def d_way_line : DS := sSeq (sExpr (vC (cCall [none, none] (asVal (vVar 0) (asVal (vVar 1) (asNil))) f_check_claims))) (sSeq (sIf (tOrD (tNotD (tV' (vIsi2 .list .tuple (qVar 2)))) (tV' (vQ (qOp oEq (qUn oLen (qVar 2)) (qC (.int 0)))))) (sSeq (sRaise1 6 ("place" : PySem.Str) (vQ (qC (.int 0)))) (sNil)) (sNil)) (sSeq (sSet 3 (cV (vQ (qC .non)))) (sSeq (sSet 4 (cV (vQ (qC .non)))) (sSeq (sSet 5 (cV (vQ (qC (.int 0))))) (sSeq (sFor (iEnumD (vVar 2)) lg_way_line_1 lb_way_line_1) (sSeq (sRet (cV (vTup (vsCons (vVar 3) (vsCons (vVar 4) (vsCons (vVar 5) (vsNil))))))) (sNil)))))))
def f_way_line : DF := fnD 3 11 d_way_line
theorem u_way_line (c0 c1 c2 : Cell) : f_way_line [c0, c1, c2] = endF 3 (d_way_line [c0, c1, c2, .un, .un, .un, .un, .un, .un, .un, .un]) := (rfl)
def d_shows_contrary : DS := sSeq (sExpr (vC (cCall [none, none] (asVal (vVar 0) (asVal (vVar 1) (asNil))) f_check_claims))) (sSeq (sTry ct_BadArc (sSeq (sAsg (vC (cCall [none, none, none] (asVal (vVar 0) (asVal (vVar 1) (asVal (vVar 2) (asNil)))) f_way_line)) (gTup 3 (gsCons (gName 3) (gsCons (gName 4) (gsCons (gName 5) (gsNil)))))) (sNil)) (sSeq (sRet (cV (vQ (qC (.bl false))))) (sNil))) (sSeq (sRet (cV (vAnd (vQ (qOp oEq (qVar 3) (qVar 4))) (vQ (qOp oLt (qVar 5) (qC (.int 0))))))) (sNil)))
def f_shows_contrary : DF := fnD 3 6 d_shows_contrary
theorem u_shows_contrary (c0 c1 c2 : Cell) : f_shows_contrary [c0, c1, c2] = endF 3 (d_shows_contrary [c0, c1, c2, .un, .un, .un]) := (rfl)
def cd__law_lines_1 : DC := cLc [3] (iRng1 (vVar 0)) (gName 3) (tYesD) (vTup (vsCons (vTup (vsCons (vQ (qC (.str ("up" : PySem.Str)))) (vsCons (vVar 3) (vsNil)))) (vsCons (vVar 3) (vsCons (vQ (qOp oAdd (qVar 3) (qC (.int 1)))) (vsCons (vQ (qC (.int 1))) (vsNil))))))
def lg__law_lines_2 : DG := gName 3
def lb__law_lines_2 : DS := sSeq (sExpr (vAppend 2 (vTup (vsCons (vTup (vsCons (vQ (qC (.str ("flat" : PySem.Str)))) (vsCons (vVar 3) (vsNil)))) (vsCons (vQ (qOp oAdd (qVar 3) (qC (.int 1)))) (vsCons (vVar 3) (vsCons (vQ (qC (.int 0))) (vsNil)))))))) (sNil)
def lg__law_lines_3 : DG := gTup 2 (gsCons (gName 3) (gsCons (gName 4) (gsNil)))
def lb__law_lines_3 : DS := sSeq (sExpr (vAppend 2 (vTup (vsCons (vTup (vsCons (vQ (qC (.str ("most" : PySem.Str)))) (vsCons (vVar 3) (vsNil)))) (vsCons (vQ (qOp oIx (qVar 4) (qC (.int 0)))) (vsCons (vQ (qOp oIx (qVar 4) (qC (.int 1)))) (vsCons (vQ (qOp oIx (qVar 4) (qC (.int 3)))) (vsNil)))))))) (sSeq (sExpr (vAppend 2 (vTup (vsCons (vTup (vsCons (vQ (qC (.str ("least" : PySem.Str)))) (vsCons (vVar 3) (vsNil)))) (vsCons (vQ (qOp oIx (qVar 4) (qC (.int 1)))) (vsCons (vQ (qOp oIx (qVar 4) (qC (.int 0)))) (vsCons (vQ (qUn oNeg (qOp oIx (qVar 4) (qC (.int 2))))) (vsNil)))))))) (sNil))
def d__law_lines : DS := sSeq (sSet 2 cd__law_lines_1) (sSeq (sFor (iRng1 (vVar 0)) lg__law_lines_2 lb__law_lines_2) (sSeq (sFor (iEnumD (vVar 1)) lg__law_lines_3 lb__law_lines_3) (sSeq (sRet (cVar 2)) (sNil))))
def f__law_lines : DF := fnD 2 5 d__law_lines
theorem u__law_lines (c0 c1 : Cell) : f__law_lines [c0, c1] = endF 2 (d__law_lines [c0, c1, .un, .un, .un]) := (rfl)
def d__law_is_integer : DS := sSeq (sRet (cV (vAnd (vQ (qUn (oIsi .int) (qVar 0))) (vNot (vQ (qUn (oIsi .bool) (qVar 0))))))) (sNil)
def f__law_is_integer : DF := fnD 1 1 d__law_is_integer
theorem u__law_is_integer (c0 : Cell) : f__law_is_integer [c0] = endF 1 (d__law_is_integer [c0]) := (rfl)
def d__law_is_arc : DS := sSeq (sIf (tOrD (tNotD (tV' (vQ (qUn (oIsi .tuple) (qVar 0))))) (tV' (vQ (qOp oNe (qUn oLen (qVar 0)) (qC (.int 2)))))) (sSeq (sRet (cV (vQ (qC (.bl false))))) (sNil)) (sNil)) (sSeq (sRet (cV (vAnd (vQ (qUn (oIsi .str) (qOp oIx (qVar 0) (qC (.int 0))))) (vC (cCall [none] (asVal (vQ (qOp oIx (qVar 0) (qC (.int 1)))) (asNil)) f__law_is_integer))))) (sNil))
def f__law_is_arc : DF := fnD 1 1 d__law_is_arc
theorem u__law_is_arc (c0 : Cell) : f__law_is_arc [c0] = endF 1 (d__law_is_arc [c0]) := (rfl)
def cd__law_line_2 : DC := cLc [9] (iVal (vVar 3)) (gName 9) (tV' (vQ (qOp oEq (qOp oIx (qVar 9) (qC (.int 0))) (qVar 7)))) (vVar 9)
def lg__law_line_1 : DG := gName 7
def lb__law_line_1 : DS := sSeq (sIf (tNotD (tV' (vC (cCall [none] (asVal (vVar 7) (asNil)) f__law_is_arc)))) (sSeq (sRet (cV (vQ (qC .non)))) (sNil)) (sNil)) (sSeq (sSet 8 cd__law_line_2) (sSeq (sIf (tOrD (tV' (vQ (qOp oNe (qUn oLen (qVar 8)) (qC (.int 1))))) (tAndD (tV' (vQ (qOp oNotN (qVar 5) (qC .non)))) (tV' (vQ (qOp oNe (qOp oIx (qOp oIx (qVar 8) (qC (.int 0))) (qC (.int 1))) (qVar 5)))))) (sSeq (sRet (cV (vQ (qC .non)))) (sNil)) (sNil)) (sSeq (sIf (tV' (vQ (qOp oIsN (qVar 4) (qC .non)))) (sSeq (sSet 4 (cV (vQ (qOp oIx (qOp oIx (qVar 8) (qC (.int 0))) (qC (.int 1)))))) (sNil)) (sNil)) (sSeq (sSet 5 (cV (vQ (qOp oIx (qOp oIx (qVar 8) (qC (.int 0))) (qC (.int 2)))))) (sSeq (sSet 6 (cV (vQ (qOp oAdd (qVar 6) (qOp oIx (qOp oIx (qVar 8) (qC (.int 0))) (qC (.int 3))))))) (sNil))))))
def d__law_line : DS := sSeq (sIf (tAndD (tNotD (tV' (vQ (qUn (oIsi .list) (qVar 2))))) (tNotD (tV' (vQ (qUn (oIsi .tuple) (qVar 2)))))) (sSeq (sRet (cV (vQ (qC .non)))) (sNil)) (sNil)) (sSeq (sSet 3 (cV (vC (cCall [none, none] (asVal (vVar 0) (asVal (vVar 1) (asNil))) f__law_lines)))) (sSeq (sSet 4 (cV (vQ (qC .non)))) (sSeq (sSet 5 (cV (vQ (qC .non)))) (sSeq (sSet 6 (cV (vQ (qC (.int 0))))) (sSeq (sFor (iVal (vVar 2)) lg__law_line_1 lb__law_line_1) (sSeq (sIf (tV' (vQ (qOp oIsN (qVar 4) (qC .non)))) (sSeq (sRet (cV (vQ (qC .non)))) (sNil)) (sNil)) (sSeq (sRet (cV (vTup (vsCons (vVar 4) (vsCons (vVar 5) (vsCons (vVar 6) (vsNil))))))) (sNil))))))))
def f__law_line : DF := fnD 3 10 d__law_line
theorem u__law_line (c0 c1 c2 : Cell) : f__law_line [c0, c1, c2] = endF 3 (d__law_line [c0, c1, c2, .un, .un, .un, .un, .un, .un, .un]) := (rfl)
def d__law_is_bad : DS := sSeq (sSet 3 (cV (vC (cCall [none, none, none] (asVal (vVar 0) (asVal (vVar 1) (asVal (vVar 2) (asNil)))) f__law_line)))) (sSeq (sRet (cV (vAnd (vQ (qOp oNotN (qVar 3) (qC .non))) (vAnd (vQ (qOp oEq (qOp oIx (qVar 3) (qC (.int 0))) (qOp oIx (qVar 3) (qC (.int 1))))) (vQ (qOp oLt (qOp oIx (qVar 3) (qC (.int 2))) (qC (.int 0)))))))) (sNil))
def f__law_is_bad : DF := fnD 3 4 d__law_is_bad
theorem u__law_is_bad (c0 c1 c2 : Cell) : f__law_is_bad [c0, c1, c2] = endF 3 (d__law_is_bad [c0, c1, c2, .un]) := (rfl)
def lg__law_all_2 : DG := gName 4
def lb__law_all_2 : DS := sSeq (sExpr (vAppend 3 (vC (cOpV oCatT (vVar 4) (vTup (vsCons (vQ (qC (.int 0))) (vsNil))))))) (sSeq (sExpr (vAppend 3 (vC (cOpV oCatT (vVar 4) (vTup (vsCons (vQ (qC (.int 1))) (vsNil))))))) (sNil))
def lg__law_all_1 : DG := gName 2
def lb__law_all_1 : DS := sSeq (sSet 3 (cLst (vsNil))) (sSeq (sFor (iVal (vVar 1)) lg__law_all_2 lb__law_all_2) (sSeq (sSet 1 (cV (vC (c1Q oList (qVar 3))))) (sNil)))
def d__law_all : DS := sSeq (sSet 1 (cV (vC (cLst (vsCons (vTup (vsNil)) (vsNil)))))) (sSeq (sFor (iRng1 (vVar 0)) lg__law_all_1 lb__law_all_1) (sSeq (sRet (cV (vVar 1))) (sNil)))
def f__law_all : DF := fnD 1 5 d__law_all
theorem u__law_all (c0 : Cell) : f__law_all [c0] = endF 1 (d__law_all [c0, .un, .un, .un, .un]) := (rfl)
def d__law_ones_fit : DS := sSeq (sSet 2 (cV (vUn oSum (vC (cSlN 1 (bSome (vQ (qOp oIx (qVar 0) (qC (.int 0))))) (bSome (vQ (qOp oIx (qVar 0) (qC (.int 1)))))))))) (sSeq (sRet (cV (vAnd (vQ (qOp oLe (qOp oIx (qVar 0) (qC (.int 2))) (qVar 2))) (vQ (qOp oLe (qVar 2) (qOp oIx (qVar 0) (qC (.int 3)))))))) (sNil))
def f__law_ones_fit : DF := fnD 2 3 d__law_ones_fit
theorem u__law_ones_fit (c0 c1 : Cell) : f__law_ones_fit [c0, c1] = endF 2 (d__law_ones_fit [c0, c1, .un]) := (rfl)
def cd__law_fitting_2 : DC := cLc [3] (iVal (vVar 1)) (gName 3) (tYesD) (vC (cCall [none, none] (asVal (vVar 3) (asVal (vVar 2) (asNil))) f__law_ones_fit))
def cd__law_fitting_1 : DC := cLc [2] (iVal (vC (cCall [none] (asVal (vVar 0) (asNil)) f__law_all))) (gName 2) (tV' (vUn oAll (vC (cd__law_fitting_2)))) (vVar 2)
def d__law_fitting : DS := sSeq (sRet (cd__law_fitting_1)) (sNil)
def f__law_fitting : DF := fnD 2 4 d__law_fitting
theorem u__law_fitting (c0 c1 : Cell) : f__law_fitting [c0, c1] = endF 2 (d__law_fitting [c0, c1, .un, .un]) := (rfl)
def lg_ring_prices_1 : DG := gTup 2 (gsCons (gName 4) (gsCons (gName 5) (gsNil)))
def lb_ring_prices_1 : DS := sSeq (sIf (tNotD (tV' (vC (cCall [none, none, none] (asVal (vVar 0) (asVal (vVar 1) (asVal (vVar 5) (asNil)))) f_is_arc)))) (sSeq (sRaise1 6 ("place" : PySem.Str) (vVar 4)) (sNil)) (sNil)) (sSeq (sIf (tV' (vQ (qOp oEq (qOp oIx (qVar 5) (qC (.int 0))) (qC (.str ("least" : PySem.Str)))))) (sSeq (sAugIx oAdd 3 (vQ (qOp oIx (qVar 5) (qC (.int 1)))) (vQ (qC (.int 1)))) (sNil)) (sNil)) (sSeq (sIf (tV' (vQ (qOp oEq (qOp oIx (qVar 5) (qC (.int 0))) (qC (.str ("most" : PySem.Str)))))) (sSeq (sAugIx oSub 3 (vQ (qOp oIx (qVar 5) (qC (.int 1)))) (vQ (qC (.int 1)))) (sNil)) (sNil)) (sNil)))
def d_ring_prices : DS := sSeq (sExpr (vC (cCall [none, none] (asVal (vVar 0) (asVal (vVar 1) (asNil))) f_check_claims))) (sSeq (sSet 3 (cOpV oRepL (vC (cLst (vsCons (vQ (qC (.int 0))) (vsNil)))) (vQ (qUn oLen (qVar 1))))) (sSeq (sFor (iEnumD (vVar 2)) lg_ring_prices_1 lb_ring_prices_1) (sSeq (sRet (cVar 3)) (sNil))))
def f_ring_prices : DF := fnD 3 6 d_ring_prices
theorem u_ring_prices (c0 c1 c2 : Cell) : f_ring_prices [c0, c1, c2] = endF 3 (d_ring_prices [c0, c1, c2, .un, .un, .un]) := (rfl)
def lg__law_worth_k30_2 : DG := gName 7
def lb__law_worth_k30_2 : DS := sSeq (sSetIx 4 (vQ (qOp oAdd (qOp oIx (qVar 4) (qVar 7)) (qOp oIx (qVar 2) (qVar 5)))) (vVar 7)) (sNil)
def lg__law_worth_k30_1 : DG := gTup 2 (gsCons (gName 5) (gsCons (gName 6) (gsNil)))
def lb__law_worth_k30_1 : DS := sSeq (sIf (tV' (vQ (qOp oGt (qOp oIx (qVar 2) (qVar 5)) (qC (.int 0))))) (sSeq (sSet 3 (cV (vQ (qOp oAdd (qVar 3) (qOp oMul (qOp oIx (qVar 2) (qVar 5)) (qOp oIx (qVar 6) (qC (.int 2)))))))) (sNil)) (sNil)) (sSeq (sIf (tV' (vQ (qOp oLt (qOp oIx (qVar 2) (qVar 5)) (qC (.int 0))))) (sSeq (sSet 3 (cV (vQ (qOp oAdd (qVar 3) (qOp oMul (qOp oIx (qVar 2) (qVar 5)) (qOp oIx (qVar 6) (qC (.int 3)))))))) (sNil)) (sNil)) (sSeq (sFor (iRng2 (vQ (qOp oIx (qVar 6) (qC (.int 0)))) (vQ (qOp oIx (qVar 6) (qC (.int 1))))) lg__law_worth_k30_2 lb__law_worth_k30_2) (sNil)))
def cd__law_worth_k30_3 : DC := cLc [8] (iVal (vVar 4)) (gName 8) (tYesD) (vQ (qOp oMax2 (qC (.int 0)) (qVar 8)))
def d__law_worth_k30 : DS := sSeq (sSet 3 (cV (vQ (qC (.int 0))))) (sSeq (sSet 4 (cOpV oRepL (vC (cLst (vsCons (vQ (qC (.int 0))) (vsNil)))) (vVar 0))) (sSeq (sFor (iEnumD (vVar 1)) lg__law_worth_k30_1 lb__law_worth_k30_1) (sSeq (sRet (cV (vOp oSub (vVar 3) (vUn oSum (vC (cd__law_worth_k30_3)))))) (sNil))))
def f__law_worth_k30 : DF := fnD 3 9 d__law_worth_k30
theorem u__law_worth_k30 (c0 c1 c2 : Cell) : f__law_worth_k30 [c0, c1, c2] = endF 3 (d__law_worth_k30 [c0, c1, c2, .un, .un, .un, .un, .un, .un]) := (rfl)
def cd_check_numbers_1 : DC := cLc [2] (iVal (vVar 0)) (gName 2) (tYesD) (vC (cCall [none] (asVal (vVar 2) (asNil)) f_is_whole))
def d_check_numbers : DS := sSeq (sIf (tOrD (tNotD (tV' (vIsi2 .list .tuple (qVar 0)))) (tV' (vQ (qOp oNe (qUn oLen (qVar 0)) (qVar 1))))) (sSeq (sRaise0 7) (sNil)) (sNil)) (sSeq (sIf (tNotD (tV' (vUn oAll (vC (cd_check_numbers_1))))) (sSeq (sRaise0 7) (sNil)) (sNil)) (sNil))
def f_check_numbers : DF := fnD 2 3 d_check_numbers
theorem u_check_numbers (c0 c1 : Cell) : f_check_numbers [c0, c1] = endF 2 (d_check_numbers [c0, c1, .un]) := (rfl)
def lg_heights_1 : DG := gTup 2 (gsCons (gName 4) (gsCons (gTup 4 (gsCons (gName 5) (gsCons (gName 6) (gsCons (gName 7) (gsCons (gName 8) (gsNil)))))) (gsNil)))
def lb_heights_1 : DS := sSeq (sAugIx oAdd 3 (vVar 5) (vQ (qOp oIx (qVar 2) (qVar 4)))) (sSeq (sAugIx oSub 3 (vVar 6) (vQ (qOp oIx (qVar 2) (qVar 4)))) (sNil))
def lg_heights_2 : DG := gName 11
def lb_heights_2 : DS := sSeq (sAug oAdd 10 (vQ (qOp oIx (qVar 3) (qVar 11)))) (sSeq (sExpr (vAppend 9 (vVar 10))) (sNil))
def d_heights : DS := sSeq (sExpr (vC (cCall [none, none] (asVal (vVar 0) (asVal (vVar 1) (asNil))) f_check_claims))) (sSeq (sExpr (vC (cCall [none, none] (asVal (vVar 2) (asVal (vQ (qUn oLen (qVar 1))) (asNil))) f_check_numbers))) (sSeq (sSet 3 (cOpV oRepL (vC (cLst (vsCons (vQ (qC (.int 0))) (vsNil)))) (vQ (qOp oAdd (qVar 0) (qC (.int 1)))))) (sSeq (sFor (iEnumD (vVar 1)) lg_heights_1 lb_heights_1) (sSeq (sSet 9 (cLst (vsNil))) (sSeq (sSet 10 (cV (vQ (qC (.int 0))))) (sSeq (sFor (iRng1 (vVar 0)) lg_heights_2 lb_heights_2) (sSeq (sRet (cVar 9)) (sNil))))))))
def f_heights : DF := fnD 3 12 d_heights
theorem u_heights (c0 c1 c2 : Cell) : f_heights [c0, c1, c2] = endF 3 (d_heights [c0, c1, c2, .un, .un, .un, .un, .un, .un, .un, .un, .un]) := (rfl)
def d_claim_worth : DS := sSeq (sIf (tV' (vQ (qOp oGt (qVar 1) (qC (.int 0))))) (sSeq (sRet (cV (vQ (qOp oMul (qVar 1) (qOp oIx (qVar 0) (qC (.int 2))))))) (sNil)) (sNil)) (sSeq (sRet (cV (vQ (qOp oMul (qVar 1) (qOp oIx (qVar 0) (qC (.int 3))))))) (sNil))
def f_claim_worth : DF := fnD 2 2 d_claim_worth
theorem u_claim_worth (c0 c1 : Cell) : f_claim_worth [c0, c1] = endF 2 (d_claim_worth [c0, c1]) := (rfl)
def cd_worth_1 : DC := cLc [7, 8] (iEnumD (vVar 1)) (gTup 2 (gsCons (gName 7) (gsCons (gName 8) (gsNil)))) (tYesD) (vC (cCall [none, none] (asVal (vVar 8) (asVal (vQ (qOp oIx (qVar 3) (qVar 7))) (asNil))) f_claim_worth))
def cd_worth_2 : DC := cLc [9] (iRng1 (vVar 0)) (gName 9) (tYesD) (vQ (qOp oMax2 (qC (.int 0)) (qOp oSub (qOp oIx (qVar 4) (qVar 9)) (qOp oIx (qVar 2) (qVar 9)))))
def d_worth : DS := sSeq (sSet 4 (cV (vC (cCall [none, none, none] (asVal (vVar 0) (asVal (vVar 1) (asVal (vVar 3) (asNil)))) f_heights)))) (sSeq (sExpr (vC (cCall [none, none] (asVal (vVar 2) (asVal (vVar 0) (asNil))) f_check_numbers))) (sSeq (sSet 5 (cV (vUn oSum (vC (cd_worth_1))))) (sSeq (sSet 6 (cV (vUn oSum (vC (cd_worth_2))))) (sSeq (sRet (cV (vQ (qOp oSub (qVar 5) (qVar 6))))) (sNil)))))
def f_worth : DF := fnD 4 10 d_worth
theorem u_worth (c0 c1 c2 c3 : Cell) : f_worth [c0, c1, c2, c3] = endF 4 (d_worth [c0, c1, c2, c3, .un, .un, .un, .un, .un, .un]) := (rfl)
def d_shows_unmet : DS := sSeq (sExpr (vC (cCall [none, none] (asVal (vVar 0) (asVal (vVar 1) (asNil))) f_check_claims))) (sSeq (sTry ct_BadNumbers (sSeq (sSet 3 (cV (vC (cCall [none, none, none, none] (asVal (vVar 0) (asVal (vVar 1) (asVal (vC (cOpV oRepL (vC (cLst (vsCons (vQ (qC (.int 0))) (vsNil)))) (vVar 0))) (asVal (vVar 2) (asNil))))) f_worth)))) (sNil)) (sSeq (sRet (cV (vQ (qC (.bl false))))) (sNil))) (sSeq (sRet (cV (vQ (qOp oGt (qVar 3) (qC (.int 0)))))) (sNil)))
def f_shows_unmet : DF := fnD 3 4 d_shows_unmet
theorem u_shows_unmet (c0 c1 c2 : Cell) : f_shows_unmet [c0, c1, c2] = endF 3 (d_shows_unmet [c0, c1, c2, .un]) := (rfl)
def cd__law_ring_holds_k30_2 : DC := cLc [10] (iVal (vVar 3)) (gName 10) (tV' (vOp oEq (vVar 10) (vTup (vsCons (vQ (qC (.str ("least" : PySem.Str)))) (vsCons (vVar 7) (vsNil)))))) (vVar 10)
def cd__law_ring_holds_k30_3 : DC := cLc [10] (iVal (vVar 3)) (gName 10) (tV' (vOp oEq (vVar 10) (vTup (vsCons (vQ (qC (.str ("most" : PySem.Str)))) (vsCons (vVar 7) (vsNil)))))) (vVar 10)
def lg__law_ring_holds_k30_1 : DG := gName 7
def lb__law_ring_holds_k30_1 : DS := sSeq (sSet 8 (cV (vUn oLen (vC (cd__law_ring_holds_k30_2))))) (sSeq (sExpr (vAppend 6 (vOp oSub (vVar 8) (vUn oLen (vC (cd__law_ring_holds_k30_3)))))) (sNil))
def cd__law_ring_holds_k30_4 : DC := cLc [11] (iVal (vVar 9)) (gName 11) (tYesD) (vC (cCall [none] (asVal (vVar 11) (asNil)) f__law_is_integer))
def d__law_ring_holds_k30 : DS := sSeq (sIf (tOrD (tNotD (tV' (vQ (qUn (oIsi .list) (qVar 3))))) (tNotD (tV' (vC (cCall [none, none, none] (asVal (vVar 1) (asVal (vVar 2) (asVal (vVar 3) (asNil)))) f__law_is_bad))))) (sSeq (sRet (cV (vQ (qC (.bl false))))) (sNil)) (sNil)) (sSeq (sIf (tV' (vOp oNotB (vC (cCall [none, none, none] (asVal (vVar 1) (asVal (vC (c1Q oList (qVar 2))) (asVal (vC (c1Q oList (qVar 3))) (asNil)))) f_shows_contrary)) (vQ (qC (.bl true))))) (sSeq (sRet (cV (vQ (qC (.bl false))))) (sNil)) (sNil)) (sSeq (sSet 4 (cV (vC (cCall [some 0, none] (asSlot 0 (asVal (vQ (qUn oLen (qVar 3))) (asNil))) f__law_draw)))) (sSeq (sIf (tV' (vOp oNotB (vC (cCall [none, none, none] (asVal (vVar 1) (asVal (vC (c1Q oList (qVar 2))) (asVal (vC (c1V oTuple (vC (cOpV oCatL (vC (cSlN 3 (bSome (vVar 4)) (bNone))) (vC (cSlN 3 (bNone) (bSome (vVar 4)))))))) (asNil)))) f_shows_contrary)) (vQ (qC (.bl true))))) (sSeq (sRet (cV (vQ (qC (.bl false))))) (sNil)) (sNil)) (sSeq (sSet 5 (cV (vC (cOpV oCatL (vC (cSlN 3 (bNone) (bSome (vVar 4)))) (vC (cSlN 3 (bSome (vQ (qOp oAdd (qVar 4) (qC (.int 1))))) (bNone))))))) (sSeq (sIf (tNotD (tV' (vC (cCall [none, none] (asVal (vC (cCall [none, none, none] (asVal (vVar 1) (asVal (vC (c1Q oList (qVar 2))) (asVal (vVar 5) (asNil)))) f_shows_contrary)) (asVal (vC (cCall [none, none, none] (asVal (vVar 1) (asVal (vVar 2) (asVal (vVar 5) (asNil)))) f__law_is_bad)) (asNil))) f__law_says)))) (sSeq (sRet (cV (vQ (qC (.bl false))))) (sNil)) (sNil)) (sSeq (sSet 6 (cLst (vsNil))) (sSeq (sFor (iRng1 (vQ (qUn oLen (qVar 2)))) lg__law_ring_holds_k30_1 lb__law_ring_holds_k30_1) (sSeq (sSet 9 (cV (vC (cCall [none, none, none] (asVal (vVar 1) (asVal (vC (c1Q oList (qVar 2))) (asVal (vC (c1Q oList (qVar 3))) (asNil)))) f_ring_prices)))) (sSeq (sIf (tOrD (tNotD (tV' (vQ (qUn (oIsi .list) (qVar 9))))) (tOrD (tV' (vQ (qOp oNe (qVar 9) (qVar 6)))) (tNotD (tV' (vUn oAll (vC (cd__law_ring_holds_k30_4))))))) (sSeq (sRet (cV (vQ (qC (.bl false))))) (sNil)) (sNil)) (sSeq (sRet (cV (vAnd (vOp oGt (vC (cCall [none, none, none] (asVal (vVar 1) (asVal (vVar 2) (asVal (vVar 6) (asNil)))) f__law_worth_k30)) (vQ (qC (.int 0)))) (vOp oIsB (vC (cCall [none, none, none] (asVal (vVar 1) (asVal (vC (c1Q oList (qVar 2))) (asVal (vC (c1Q oList (qVar 6))) (asNil)))) f_shows_unmet)) (vQ (qC (.bl true))))))) (sNil)))))))))))
def f__law_ring_holds_k30 : DF := fnD 4 12 d__law_ring_holds_k30
theorem u__law_ring_holds_k30 (c0 c1 c2 c3 : Cell) : f__law_ring_holds_k30 [c0, c1, c2, c3] = endF 4 (d__law_ring_holds_k30 [c0, c1, c2, c3, .un, .un, .un, .un, .un, .un, .un, .un]) := (rfl)
def d__law_no_arc : DS := sSeq (sTryAs ct_BadArc 2 (sSeq (sExpr (vC (cCall [none, none, none] (asVal (vVar 0) (asVal (vVar 1) (asVal (vC (cLst (vsCons (vTup (vsCons (vQ (qC (.str ("least" : PySem.Str)))) (vsCons (vQ (qUn oLen (qVar 1))) (vsNil)))) (vsNil)))) (asNil)))) f_ring_prices))) (sNil)) (sSeq (sRet (cV (vQ (qOp oEq (qExF 6 ("place" : PySem.Str) 2) (qC (.int 0)))))) (sNil))) (sSeq (sRet (cV (vQ (qC (.bl false))))) (sNil))
def f__law_no_arc : DF := fnD 2 3 d__law_no_arc
theorem u__law_no_arc (c0 c1 : Cell) : f__law_no_arc [c0, c1] = endF 2 (d__law_no_arc [c0, c1, .un]) := (rfl)
def cd_law_k30_1 : DC := cLc [12] (iVal (vVar 4)) (gName 12) (tYesD) (vOp oSub (vC (cCall [some 1, none] (asSlot 1 (asVal (vQ (qC (.int 9))) (asNil))) f__law_draw)) (vQ (qC (.int 4))))
def d_law_k30 : DS := sSeq (sSet 1 (cCall [some 0] (asSlot 0 (asNil)) f__law_stream)) (sSeq (sAsg (vC (cCall [some 1, none] (asSlot 1 (asVal (vOp oAdd (vQ (qC (.int 7))) (vOp oMul (vQ (qC (.int 9))) (vC (cCall [some 1, none] (asSlot 1 (asVal (vQ (qC (.int 2))) (asNil))) f__law_draw)))) (asNil))) f__law_case)) (gTup 3 (gsCons (gName 2) (gsCons (gName 3) (gsCons (gName 4) (gsNil)))))) (sSeq (sSet 5 (cV (vOp oGt (vUn oLen (vC (cCall [none, none] (asVal (vVar 2) (asVal (vVar 4) (asNil))) f__law_fitting))) (vQ (qC (.int 0)))))) (sSeq (sSet 6 (cV (vC (cCall [none, none] (asVal (vVar 2) (asVal (vC (c1Q oList (qVar 4))) (asNil))) f_bad_ring)))) (sSeq (sSet 7 (cV (vC (cCall [none, none] (asVal (vVar 2) (asVal (vC (c1Q oList (qVar 4))) (asNil))) f__law_raised_ring)))) (sSeq (sIf (tAndD (tV' (vVar 5)) (tOrD (tV' (vQ (qOp oNotN (qVar 6) (qC .non)))) (tV' (vQ (qOp oNotN (qVar 7) (qC .non)))))) (sSeq (sRet (cV (vQ (qC (.bl false))))) (sNil)) (sNil)) (sSeq (sIf (tNotD (tV' (vVar 5))) (sSeq (sIf (tOrD (tV' (vQ (qOp oIsN (qVar 6) (qC .non)))) (tOrD (tV' (vQ (qOp oIsN (qVar 7) (qC .non)))) (tNotD (tV' (vC (cCall [none, none, none] (asVal (vVar 2) (asVal (vVar 4) (asVal (vVar 7) (asNil)))) f__law_is_bad)))))) (sSeq (sRet (cV (vQ (qC (.bl false))))) (sNil)) (sNil)) (sSeq (sIf (tNotD (tV' (vC (cCall [some 1, none, none, none] (asSlot 1 (asVal (vVar 2) (asVal (vVar 4) (asVal (vVar 6) (asNil))))) f__law_ring_holds_k30)))) (sSeq (sRet (cV (vQ (qC (.bl false))))) (sNil)) (sNil)) (sNil))) (sNil)) (sSeq (sSet 8 cd_law_k30_1) (sSeq (sIf (tNotD (tV' (vC (cCall [none, none] (asVal (vC (cCall [none, none, none] (asVal (vVar 2) (asVal (vC (c1Q oList (qVar 4))) (asVal (vC (c1Q oList (qVar 8))) (asNil)))) f_shows_unmet)) (asVal (vOp oGt (vC (cCall [none, none, none] (asVal (vVar 2) (asVal (vVar 4) (asVal (vVar 8) (asNil)))) f__law_worth_k30)) (vQ (qC (.int 0)))) (asNil))) f__law_says)))) (sSeq (sRet (cV (vQ (qC (.bl false))))) (sNil)) (sNil)) (sSeq (sIf (tAndD (tV' (vVar 5)) (tV' (vOp oGt (vC (cCall [none, none, none] (asVal (vVar 2) (asVal (vVar 4) (asVal (vVar 8) (asNil)))) f__law_worth_k30)) (vQ (qC (.int 0)))))) (sSeq (sRet (cV (vQ (qC (.bl false))))) (sNil)) (sNil)) (sSeq (sIf (tOrD (tV' (vOp oNotB (vC (cCall [none, none, none] (asVal (vVar 2) (asVal (vC (c1Q oList (qVar 4))) (asVal (vC (cOpV oCatL (vVar 8) (vC (cLst (vsCons (vQ (qC (.int 1))) (vsNil)))))) (asNil)))) f_shows_unmet)) (vQ (qC (.bl false))))) (tNotD (tV' (vC (cCall [none, none] (asVal (vVar 2) (asVal (vC (c1Q oList (qVar 4))) (asNil))) f__law_no_arc))))) (sSeq (sRet (cV (vQ (qC (.bl false))))) (sNil)) (sNil)) (sSeq (sIf (tV' (vOp oNotB (vC (cCall [none, none, none] (asVal (vVar 2) (asVal (vC (c1Q oList (qVar 4))) (asVal (vC (cLst (vsNil))) (asNil)))) f_shows_contrary)) (vQ (qC (.bl false))))) (sSeq (sRet (cV (vQ (qC (.bl false))))) (sNil)) (sNil)) (sSeq (sSet 9 (cV (vC (cOpV oCatL (vVar 4) (vC (cLst (vsCons (vTup (vsCons (vQ (qC (.int 0))) (vsCons (vQ (qC (.int 1))) (vsCons (vQ (qC (.int 1))) (vsCons (vQ (qC (.int 1))) (vsNil)))))) (vsCons (vTup (vsCons (vQ (qC (.int 0))) (vsCons (vQ (qC (.int 1))) (vsCons (vQ (qC (.int 0))) (vsCons (vQ (qC (.int 0))) (vsNil)))))) (vsNil))))))))) (sSeq (sIf (tV' (vQ (qOp oEq (qVar 2) (qC (.int 0))))) (sSeq (sRet (cV (vOp oIsN (vC (cCall [none, none] (asVal (vQ (qC (.int 0))) (asVal (vC (cLst (vsNil))) (asNil))) f_bad_ring)) (vQ (qC .non))))) (sNil)) (sNil)) (sSeq (sSet 10 (cV (vC (cLst (vsCons (vTup (vsCons (vQ (qC (.str ("up" : PySem.Str)))) (vsCons (vQ (qC (.int 0))) (vsNil)))) (vsCons (vTup (vsCons (vQ (qC (.str ("flat" : PySem.Str)))) (vsCons (vQ (qC (.int 0))) (vsNil)))) (vsNil))))))) (sSeq (sIf (tV' (vOp oNotB (vC (cCall [none, none, none] (asVal (vVar 2) (asVal (vC (c1Q oList (qVar 4))) (asVal (vVar 10) (asNil)))) f_shows_contrary)) (vQ (qC (.bl false))))) (sSeq (sRet (cV (vQ (qC (.bl false))))) (sNil)) (sNil)) (sSeq (sSet 11 (cV (vC (cCall [none, none] (asVal (vVar 2) (asVal (vC (c1Q oList (qVar 9))) (asNil))) f_bad_ring)))) (sSeq (sRet (cV (vAnd (vQ (qOp oNotN (qVar 11) (qC .non))) (vC (cCall [none, none, none] (asVal (vVar 2) (asVal (vVar 9) (asVal (vVar 11) (asNil)))) f__law_is_bad))))) (sNil))))))))))))))))))
def f_law_k30 : DF := fnD 1 13 d_law_k30
theorem u_law_k30 (c0 : Cell) : f_law_k30 [c0] = endF 1 (d_law_k30 [c0, .un, .un, .un, .un, .un, .un, .un, .un, .un, .un, .un, .un]) := (rfl)
def cd_is_pattern_1 : DC := cLc [2] (iVal (vVar 1)) (gName 2) (tYesD) (vAnd (vC (cCall [none] (asVal (vVar 2) (asNil)) f_is_whole)) (vOp oIn (vVar 2) (vTup (vsCons (vQ (qC (.int 0))) (vsCons (vQ (qC (.int 1))) (vsNil))))))
def d_is_pattern : DS := sSeq (sIf (tOrD (tNotD (tV' (vIsi2 .list .tuple (qVar 1)))) (tV' (vQ (qOp oNe (qUn oLen (qVar 1)) (qVar 0))))) (sSeq (sRet (cV (vQ (qC (.bl false))))) (sNil)) (sNil)) (sSeq (sRet (cV (vUn oAll (vC (cd_is_pattern_1))))) (sNil))
def f_is_pattern : DF := fnD 2 3 d_is_pattern
theorem u_is_pattern (c0 c1 : Cell) : f_is_pattern [c0, c1] = endF 2 (d_is_pattern [c0, c1, .un]) := (rfl)
def d_check_entries : DS := sSeq (sIf (tOrD (tNotD (tV' (vIsi2 .list .tuple (qVar 0)))) (tNotD (tV' (vC (cCall [none, none] (asVal (vQ (qUn oLen (qVar 0))) (asVal (vVar 0) (asNil))) f_is_pattern))))) (sSeq (sRaise0 5) (sNil)) (sNil)) (sNil)
def f_check_entries : DF := fnD 1 1 d_check_entries
theorem u_check_entries (c0 : Cell) : f_check_entries [c0] = endF 1 (d_check_entries [c0]) := (rfl)
def lg_totals_1 : DG := gName 2
def lb_totals_1 : DS := sSeq (sExpr (vAppend 1 (vQ (qOp oAdd (qOp oIx (qVar 1) (qUn oNeg (qC (.int 1)))) (qVar 2))))) (sNil)
def d_totals : DS := sSeq (sExpr (vC (cCall [none] (asVal (vVar 0) (asNil)) f_check_entries))) (sSeq (sSet 1 (cLst (vsCons (vQ (qC (.int 0))) (vsNil)))) (sSeq (sFor (iVal (vVar 0)) lg_totals_1 lb_totals_1) (sSeq (sRet (cVar 1)) (sNil))))
def f_totals : DF := fnD 1 3 d_totals
theorem u_totals (c0 : Cell) : f_totals [c0] = endF 1 (d_totals [c0, .un, .un]) := (rfl)
def lg_first_broken_1 : DG := gTup 2 (gsCons (gName 3) (gsCons (gTup 4 (gsCons (gName 4) (gsCons (gName 5) (gsCons (gName 6) (gsCons (gName 7) (gsNil)))))) (gsNil)))
def lb_first_broken_1 : DS := sSeq (sSet 8 (cV (vQ (qOp oSub (qOp oIx (qVar 2) (qVar 5)) (qOp oIx (qVar 2) (qVar 4)))))) (sSeq (sIf (tOrD (tV' (vQ (qOp oLt (qVar 8) (qVar 6)))) (tV' (vQ (qOp oGt (qVar 8) (qVar 7))))) (sSeq (sRet (cV (vVar 3))) (sNil)) (sNil)) (sNil))
def d_first_broken : DS := sSeq (sExpr (vC (cCall [none] (asVal (vVar 1) (asNil)) f_check_entries))) (sSeq (sExpr (vC (cCall [none, none] (asVal (vQ (qUn oLen (qVar 1))) (asVal (vVar 0) (asNil))) f_check_claims))) (sSeq (sSet 2 (cV (vC (cCall [none] (asVal (vVar 1) (asNil)) f_totals)))) (sSeq (sFor (iEnumD (vVar 0)) lg_first_broken_1 lb_first_broken_1) (sSeq (sRet (cV (vQ (qC .non)))) (sNil)))))
def f_first_broken : DF := fnD 2 9 d_first_broken
theorem u_first_broken (c0 c1 : Cell) : f_first_broken [c0, c1] = endF 2 (d_first_broken [c0, c1, .un, .un, .un, .un, .un, .un, .un]) := (rfl)
def d_meets : DS := sSeq (sRet (cV (vOp oIsN (vC (cCall [none, none] (asVal (vVar 0) (asVal (vVar 1) (asNil))) f_first_broken)) (vQ (qC .non))))) (sNil)
def f_meets : DF := fnD 2 2 d_meets
theorem u_meets (c0 c1 : Cell) : f_meets [c0, c1] = endF 2 (d_meets [c0, c1]) := (rfl)
def lg__law_heights_2 : DG := gName 6
def lb__law_heights_2 : DS := sSeq (sSetIx 3 (vQ (qOp oAdd (qOp oIx (qVar 3) (qVar 6)) (qOp oIx (qVar 2) (qVar 4)))) (vVar 6)) (sNil)
def lg__law_heights_1 : DG := gTup 2 (gsCons (gName 4) (gsCons (gName 5) (gsNil)))
def lb__law_heights_1 : DS := sSeq (sFor (iRng2 (vQ (qOp oIx (qVar 5) (qC (.int 0)))) (vQ (qOp oIx (qVar 5) (qC (.int 1))))) lg__law_heights_2 lb__law_heights_2) (sNil)
def d__law_heights : DS := sSeq (sSet 3 (cOpV oRepL (vC (cLst (vsCons (vQ (qC (.int 0))) (vsNil)))) (vVar 0))) (sSeq (sFor (iEnumD (vVar 1)) lg__law_heights_1 lb__law_heights_1) (sSeq (sRet (cVar 3)) (sNil)))
def f__law_heights : DF := fnD 3 7 d__law_heights
theorem u__law_heights (c0 c1 c2 : Cell) : f__law_heights [c0, c1, c2] = endF 3 (d__law_heights [c0, c1, c2, .un, .un, .un, .un]) := (rfl)
def cd_pattern_weight_1 : DC := cLc [2] (iRng1 (vQ (qUn oLen (qVar 1)))) (gName 2) (tYesD) (vQ (qOp oMul (qOp oIx (qVar 0) (qVar 2)) (qOp oIx (qVar 1) (qVar 2))))
def d_pattern_weight : DS := sSeq (sExpr (vC (cCall [none] (asVal (vVar 1) (asNil)) f_check_entries))) (sSeq (sExpr (vC (cCall [none, none] (asVal (vVar 0) (asVal (vQ (qUn oLen (qVar 1))) (asNil))) f_check_numbers))) (sSeq (sRet (cV (vUn oSum (vC (cd_pattern_weight_1))))) (sNil)))
def f_pattern_weight : DF := fnD 2 3 d_pattern_weight
theorem u_pattern_weight (c0 c1 : Cell) : f_pattern_weight [c0, c1] = endF 2 (d_pattern_weight [c0, c1, .un]) := (rfl)
def d_shows_lightest : DS := sSeq (sExpr (vC (cCall [none, none] (asVal (vVar 0) (asVal (vVar 1) (asNil))) f_check_claims))) (sSeq (sExpr (vC (cCall [none, none] (asVal (vVar 2) (asVal (vVar 0) (asNil))) f_check_numbers))) (sSeq (sIf (tOrD (tNotD (tV' (vC (cCall [none, none] (asVal (vVar 0) (asVal (vVar 3) (asNil))) f_is_pattern)))) (tNotD (tV' (vC (cCall [none, none] (asVal (vVar 1) (asVal (vVar 3) (asNil))) f_meets))))) (sSeq (sRet (cV (vQ (qC (.bl false))))) (sNil)) (sNil)) (sSeq (sTry ct_BadNumbers (sSeq (sSet 5 (cV (vC (cCall [none, none, none, none] (asVal (vVar 0) (asVal (vVar 1) (asVal (vVar 2) (asVal (vVar 4) (asNil))))) f_worth)))) (sNil)) (sSeq (sRet (cV (vQ (qC (.bl false))))) (sNil))) (sSeq (sRet (cV (vOp oEq (vVar 5) (vC (cCall [none, none] (asVal (vVar 2) (asVal (vVar 3) (asNil))) f_pattern_weight))))) (sNil)))))
def f_shows_lightest : DF := fnD 5 6 d_shows_lightest
theorem u_shows_lightest (c0 c1 c2 c3 c4 : Cell) : f_shows_lightest [c0, c1, c2, c3, c4] = endF 5 (d_shows_lightest [c0, c1, c2, c3, c4, .un]) := (rfl)
def d__law_other_refused : DS := sSeq (sSet 4 (cV (vQ (qC (.int 0))))) (sSeq (sTry ct_BadNumbers (sSeq (sExpr (vC (cCall [none, none, none] (asVal (vVar 0) (asVal (vVar 1) (asVal (vC (cOpV oCatL (vVar 3) (vC (cLst (vsCons (vQ (qC (.int 0))) (vsNil)))))) (asNil)))) f_heights))) (sNil)) (sSeq (sSet 4 (cV (vQ (qOp oAdd (qVar 4) (qC (.int 1)))))) (sNil))) (sSeq (sTry ct_BadNumbers (sSeq (sExpr (vC (cCall [none, none, none, none, none] (asVal (vVar 0) (asVal (vVar 1) (asVal (vC (cOpV oCatL (vVar 2) (vC (cLst (vsCons (vQ (qC (.int 1))) (vsNil)))))) (asVal (vC (cOpV oRepL (vC (cLst (vsCons (vQ (qC (.int 0))) (vsNil)))) (vVar 0))) (asVal (vVar 3) (asNil)))))) f_shows_lightest))) (sNil)) (sSeq (sSet 4 (cV (vQ (qOp oAdd (qVar 4) (qC (.int 1)))))) (sNil))) (sSeq (sTry ct_BadPattern (sSeq (sExpr (vC (cCall [none, none] (asVal (vVar 2) (asVal (vC (cOpV oCatL (vC (cOpV oRepL (vC (cLst (vsCons (vQ (qC (.int 0))) (vsNil)))) (vVar 0))) (vC (cLst (vsCons (vQ (qC (.int 2))) (vsNil)))))) (asNil))) f_pattern_weight))) (sNil)) (sSeq (sSet 4 (cV (vQ (qOp oAdd (qVar 4) (qC (.int 1)))))) (sNil))) (sSeq (sTry ct_BadNumbers (sSeq (sExpr (vC (cCall [none, none] (asVal (vC (cOpV oCatL (vVar 2) (vC (cLst (vsCons (vQ (qC (.bl true))) (vsNil)))))) (asVal (vC (cOpV oCatL (vC (cOpV oRepL (vC (cLst (vsCons (vQ (qC (.int 0))) (vsNil)))) (vVar 0))) (vC (cLst (vsCons (vQ (qC (.int 1))) (vsNil)))))) (asNil))) f_pattern_weight))) (sNil)) (sSeq (sSet 4 (cV (vQ (qOp oAdd (qVar 4) (qC (.int 1)))))) (sNil))) (sSeq (sRet (cV (vQ (qOp oEq (qVar 4) (qC (.int 4)))))) (sNil))))))
def f__law_other_refused : DF := fnD 4 5 d__law_other_refused
theorem u__law_other_refused (c0 c1 c2 c3 : Cell) : f__law_other_refused [c0, c1, c2, c3] = endF 4 (d__law_other_refused [c0, c1, c2, c3, .un]) := (rfl)
def lg__law_worth_k53_1 : DG := gTup 2 (gsCons (gName 5) (gsCons (gName 6) (gsNil)))
def lb__law_worth_k53_1 : DS := sSeq (sIf (tV' (vQ (qOp oGt (qOp oIx (qVar 3) (qVar 5)) (qC (.int 0))))) (sSeq (sSet 4 (cV (vQ (qOp oAdd (qVar 4) (qOp oMul (qOp oIx (qVar 3) (qVar 5)) (qOp oIx (qVar 6) (qC (.int 2)))))))) (sNil)) (sNil)) (sSeq (sIf (tV' (vQ (qOp oLt (qOp oIx (qVar 3) (qVar 5)) (qC (.int 0))))) (sSeq (sSet 4 (cV (vQ (qOp oAdd (qVar 4) (qOp oMul (qOp oIx (qVar 3) (qVar 5)) (qOp oIx (qVar 6) (qC (.int 3)))))))) (sNil)) (sNil)) (sNil))
def cd__law_worth_k53_2 : DC := cLc [5] (iRng1 (vVar 0)) (gName 5) (tYesD) (vQ (qOp oMax2 (qC (.int 0)) (qOp oSub (qOp oIx (qVar 7) (qVar 5)) (qOp oIx (qVar 2) (qVar 5)))))
def d__law_worth_k53 : DS := sSeq (sSet 4 (cV (vQ (qC (.int 0))))) (sSeq (sFor (iEnumD (vVar 1)) lg__law_worth_k53_1 lb__law_worth_k53_1) (sSeq (sSet 7 (cV (vC (cCall [none, none, none] (asVal (vVar 0) (asVal (vVar 1) (asVal (vVar 3) (asNil)))) f__law_heights)))) (sSeq (sRet (cV (vOp oSub (vVar 4) (vUn oSum (vC (cd__law_worth_k53_2)))))) (sNil))))
def f__law_worth_k53 : DF := fnD 4 8 d__law_worth_k53
theorem u__law_worth_k53 (c0 c1 c2 c3 : Cell) : f__law_worth_k53 [c0, c1, c2, c3] = endF 4 (d__law_worth_k53 [c0, c1, c2, c3, .un, .un, .un, .un]) := (rfl)
def d_check_pattern : DS := sSeq (sIf (tNotD (tV' (vC (cCall [none, none] (asVal (vVar 0) (asVal (vVar 1) (asNil))) f_is_pattern)))) (sSeq (sRaise0 5) (sNil)) (sNil)) (sNil)
def f_check_pattern : DF := fnD 2 2 d_check_pattern
theorem u_check_pattern (c0 c1 : Cell) : f_check_pattern [c0, c1] = endF 2 (d_check_pattern [c0, c1]) := (rfl)
def cd_loose_places_2 : DC := cLc [14] (iRng2 (vVar 8) (vVar 9)) (gName 14) (tYesD) (vQ (qOp oIx (qVar 3) (qVar 14)))
def lg_loose_places_1 : DG := gTup 2 (gsCons (gName 7) (gsCons (gTup 4 (gsCons (gName 8) (gsCons (gName 9) (gsCons (gName 10) (gsCons (gName 11) (gsNil)))))) (gsNil)))
def lb_loose_places_1 : DS := sSeq (sSet 12 (cV (vUn oSum (vC (cd_loose_places_2))))) (sSeq (sIf (tOrD (tAndD (tV' (vQ (qOp oGt (qOp oIx (qVar 4) (qVar 7)) (qC (.int 0))))) (tV' (vQ (qOp oNe (qVar 12) (qVar 10))))) (tAndD (tV' (vQ (qOp oLt (qOp oIx (qVar 4) (qVar 7)) (qC (.int 0))))) (tV' (vQ (qOp oNe (qVar 12) (qVar 11)))))) (sSeq (sExpr (vAppend 6 (vVar 7))) (sNil)) (sNil)) (sNil))
def lg_loose_places_3 : DG := gName 14
def lb_loose_places_3 : DS := sSeq (sIf (tAndD (tV' (vQ (qOp oLt (qOp oIx (qVar 2) (qVar 14)) (qOp oIx (qVar 5) (qVar 14))))) (tV' (vQ (qOp oEq (qOp oIx (qVar 3) (qVar 14)) (qC (.int 0)))))) (sSeq (sExpr (vAppend 13 (vVar 14))) (sNil)) (sNil)) (sSeq (sIf (tAndD (tV' (vQ (qOp oGt (qOp oIx (qVar 2) (qVar 14)) (qOp oIx (qVar 5) (qVar 14))))) (tV' (vQ (qOp oEq (qOp oIx (qVar 3) (qVar 14)) (qC (.int 1)))))) (sSeq (sExpr (vAppend 13 (vVar 14))) (sNil)) (sNil)) (sNil))
def d_loose_places : DS := sSeq (sSet 5 (cV (vC (cCall [none, none, none] (asVal (vVar 0) (asVal (vVar 1) (asVal (vVar 4) (asNil)))) f_heights)))) (sSeq (sExpr (vC (cCall [none, none] (asVal (vVar 2) (asVal (vVar 0) (asNil))) f_check_numbers))) (sSeq (sExpr (vC (cCall [none, none] (asVal (vVar 0) (asVal (vVar 3) (asNil))) f_check_pattern))) (sSeq (sSet 6 (cLst (vsNil))) (sSeq (sFor (iEnumD (vVar 1)) lg_loose_places_1 lb_loose_places_1) (sSeq (sSet 13 (cLst (vsNil))) (sSeq (sFor (iRng1 (vVar 0)) lg_loose_places_3 lb_loose_places_3) (sSeq (sRet (cV (vTup (vsCons (vVar 6) (vsCons (vVar 13) (vsNil)))))) (sNil))))))))
def f_loose_places : DF := fnD 5 15 d_loose_places
theorem u_loose_places (c0 c1 c2 c3 c4 : Cell) : f_loose_places [c0, c1, c2, c3, c4] = endF 5 (d_loose_places [c0, c1, c2, c3, c4, .un, .un, .un, .un, .un, .un, .un, .un, .un, .un]) := (rfl)
def lg__law_loose_1 : DG := gTup 2 (gsCons (gName 6) (gsCons (gName 7) (gsNil)))
def lb__law_loose_1 : DS := sSeq (sSet 8 (cV (vUn oSum (vC (cSlN 4 (bSome (vQ (qOp oIx (qVar 7) (qC (.int 0))))) (bSome (vQ (qOp oIx (qVar 7) (qC (.int 1)))))))))) (sSeq (sIf (tAndD (tV' (vQ (qOp oGt (qOp oIx (qVar 3) (qVar 6)) (qC (.int 0))))) (tV' (vQ (qOp oNe (qVar 8) (qOp oIx (qVar 7) (qC (.int 2))))))) (sSeq (sExpr (vAppend 5 (vVar 6))) (sNil)) (sNil)) (sSeq (sIf (tAndD (tV' (vQ (qOp oLt (qOp oIx (qVar 3) (qVar 6)) (qC (.int 0))))) (tV' (vQ (qOp oNe (qVar 8) (qOp oIx (qVar 7) (qC (.int 3))))))) (sSeq (sExpr (vAppend 5 (vVar 6))) (sNil)) (sNil)) (sNil)))
def lg__law_loose_2 : DG := gName 6
def lb__law_loose_2 : DS := sSeq (sIf (tAndD (tV' (vQ (qOp oLt (qOp oIx (qVar 2) (qVar 6)) (qOp oIx (qVar 9) (qVar 6))))) (tV' (vQ (qOp oEq (qOp oIx (qVar 4) (qVar 6)) (qC (.int 0)))))) (sSeq (sExpr (vAppend 10 (vVar 6))) (sNil)) (sNil)) (sSeq (sIf (tAndD (tV' (vQ (qOp oGt (qOp oIx (qVar 2) (qVar 6)) (qOp oIx (qVar 9) (qVar 6))))) (tV' (vQ (qOp oEq (qOp oIx (qVar 4) (qVar 6)) (qC (.int 1)))))) (sSeq (sExpr (vAppend 10 (vVar 6))) (sNil)) (sNil)) (sNil))
def d__law_loose : DS := sSeq (sSet 5 (cLst (vsNil))) (sSeq (sFor (iEnumD (vVar 1)) lg__law_loose_1 lb__law_loose_1) (sSeq (sSet 9 (cV (vC (cCall [none, none, none] (asVal (vVar 0) (asVal (vVar 1) (asVal (vVar 3) (asNil)))) f__law_heights)))) (sSeq (sSet 10 (cLst (vsNil))) (sSeq (sFor (iRng1 (vVar 0)) lg__law_loose_2 lb__law_loose_2) (sSeq (sRet (cV (vTup (vsCons (vVar 5) (vsCons (vVar 10) (vsNil)))))) (sNil))))))
def f__law_loose : DF := fnD 5 11 d__law_loose
theorem u__law_loose (c0 c1 c2 c3 c4 : Cell) : f__law_loose [c0, c1, c2, c3, c4] = endF 5 (d__law_loose [c0, c1, c2, c3, c4, .un, .un, .un, .un, .un, .un]) := (rfl)
def cd__law_told_right_1 : DC := cLc [12] (iRng1 (vVar 0)) (gName 12) (tYesD) (vQ (qOp oMul (qOp oIx (qVar 2) (qVar 12)) (qOp oIx (qVar 4) (qVar 12))))
def cd__law_told_right_2 : DC := cLc [13] (iVal (vVar 1)) (gName 13) (tYesD) (vC (cCall [none, none] (asVal (vVar 13) (asVal (vVar 4) (asNil))) f__law_ones_fit))
def d__law_told_right : DS := sSeq (sSet 5 (cV (vC (cCall [none, none, none, none] (asVal (vVar 0) (asVal (vVar 1) (asVal (vVar 2) (asVal (vVar 3) (asNil))))) f__law_worth_k53)))) (sSeq (sSet 6 (cV (vUn oSum (vC (cd__law_told_right_1))))) (sSeq (sSet 7 (cV (vC (cCall [none, none] (asVal (vC (c1Q oList (qVar 2))) (asVal (vC (c1Q oList (qVar 4))) (asNil))) f_pattern_weight)))) (sSeq (sIf (tOrD (tNotD (tV' (vC (cCall [none] (asVal (vVar 7) (asNil)) f__law_is_integer)))) (tV' (vQ (qOp oNe (qVar 7) (qVar 6))))) (sSeq (sRet (cV (vQ (qC (.bl false))))) (sNil)) (sNil)) (sSeq (sSet 7 (cV (vC (cCall [none, none, none, none] (asVal (vVar 0) (asVal (vC (c1Q oList (qVar 1))) (asVal (vC (c1Q oList (qVar 2))) (asVal (vC (c1Q oList (qVar 3))) (asNil))))) f_worth)))) (sSeq (sIf (tOrD (tNotD (tV' (vC (cCall [none] (asVal (vVar 7) (asNil)) f__law_is_integer)))) (tV' (vQ (qOp oNe (qVar 7) (qVar 5))))) (sSeq (sRet (cV (vQ (qC (.bl false))))) (sNil)) (sNil)) (sSeq (sSet 8 (cV (vC (cCall [none, none, none] (asVal (vVar 0) (asVal (vC (c1Q oList (qVar 1))) (asVal (vC (c1Q oTuple (qVar 3))) (asNil)))) f_heights)))) (sSeq (sIf (tOrD (tNotD (tV' (vQ (qUn (oIsi .list) (qVar 8))))) (tV' (vOp oNe (vVar 8) (vC (cCall [none, none, none] (asVal (vVar 0) (asVal (vVar 1) (asVal (vVar 3) (asNil)))) f__law_heights))))) (sSeq (sRet (cV (vQ (qC (.bl false))))) (sNil)) (sNil)) (sSeq (sSet 9 (cV (vC (cCall [none, none, none, none, none] (asVal (vVar 0) (asVal (vC (c1Q oList (qVar 1))) (asVal (vC (c1Q oList (qVar 2))) (asVal (vC (c1Q oList (qVar 4))) (asVal (vC (c1Q oList (qVar 3))) (asNil)))))) f_loose_places)))) (sSeq (sIf (tOrD (tNotD (tV' (vQ (qUn (oIsi .tuple) (qVar 9))))) (tV' (vOp oNe (vVar 9) (vC (cCall [none, none, none, none, none] (asVal (vVar 0) (asVal (vVar 1) (asVal (vVar 2) (asVal (vVar 3) (asVal (vVar 4) (asNil)))))) f__law_loose))))) (sSeq (sRet (cV (vQ (qC (.bl false))))) (sNil)) (sNil)) (sSeq (sSet 10 (cV (vUn oAll (vC (cd__law_told_right_2))))) (sSeq (sSet 11 (cV (vC (cCall [none, none, none, none, none] (asVal (vVar 0) (asVal (vC (c1Q oList (qVar 1))) (asVal (vC (c1Q oList (qVar 2))) (asVal (vC (c1Q oTuple (qVar 4))) (asVal (vC (c1Q oList (qVar 3))) (asNil)))))) f_shows_lightest)))) (sSeq (sIf (tNotD (tV' (vC (cCall [none, none] (asVal (vVar 11) (asVal (vAnd (vVar 10) (vQ (qOp oEq (qVar 5) (qVar 6)))) (asNil))) f__law_says)))) (sSeq (sRet (cV (vQ (qC (.bl false))))) (sNil)) (sNil)) (sSeq (sIf (tNotD (tV' (vVar 10))) (sSeq (sRet (cV (vQ (qC (.bl true))))) (sNil)) (sNil)) (sSeq (sRet (cV (vAnd (vQ (qOp oLe (qVar 5) (qVar 6))) (vOp oEq (vQ (qOp oEq (qVar 5) (qVar 6))) (vOp oEq (vVar 9) (vTup (vsCons (vC (cLst (vsNil))) (vsCons (vC (cLst (vsNil))) (vsNil))))))))) (sNil)))))))))))))))
def f__law_told_right : DF := fnD 5 14 d__law_told_right
theorem u__law_told_right (c0 c1 c2 c3 c4 : Cell) : f__law_told_right [c0, c1, c2, c3, c4] = endF 5 (d__law_told_right [c0, c1, c2, c3, c4, .un, .un, .un, .un, .un, .un, .un, .un, .un]) := (rfl)
def d__law_weights_refused : DS := sSeq (sSet 4 (cV (vQ (qC (.int 0))))) (sSeq (sTry ct_BadNumbers (sSeq (sExpr (vC (cCall [none, none, none, none] (asVal (vVar 0) (asVal (vVar 1) (asVal (vVar 2) (asVal (vVar 3) (asNil))))) f_worth))) (sNil)) (sSeq (sSet 4 (cV (vQ (qOp oAdd (qVar 4) (qC (.int 1)))))) (sNil))) (sSeq (sTry ct_BadNumbers (sSeq (sExpr (vC (cCall [none, none, none, none, none] (asVal (vVar 0) (asVal (vVar 1) (asVal (vVar 2) (asVal (vC (cOpV oRepL (vC (cLst (vsCons (vQ (qC (.int 0))) (vsNil)))) (vVar 0))) (asVal (vVar 3) (asNil)))))) f_loose_places))) (sNil)) (sSeq (sSet 4 (cV (vQ (qOp oAdd (qVar 4) (qC (.int 1)))))) (sNil))) (sSeq (sRet (cV (vQ (qOp oEq (qVar 4) (qC (.int 2)))))) (sNil))))
def f__law_weights_refused : DF := fnD 4 5 d__law_weights_refused
theorem u__law_weights_refused (c0 c1 c2 c3 : Cell) : f__law_weights_refused [c0, c1, c2, c3] = endF 4 (d__law_weights_refused [c0, c1, c2, c3, .un]) := (rfl)
end VH
end
section
set_option maxHeartbeats 2000000
set_option maxRecDepth 100000
namespace VH
open PySem VL
def wholeD : D → Bool
  | .int _ => true
  | _ => false
def noIns : D → Bool
  | .ins _ _ _ => false
  | _ => true
@[simp] theorem w1 (i : Int) : wholeD (.int i) = true := (rfl)
@[simp] theorem w2 (i : Bool) : wholeD (.bl i) = false := (rfl)
@[simp] theorem w3 (i : Str) : wholeD (.str i) = false := (rfl)
@[simp] theorem w4 (i : List D) : wholeD (.tup i) = false := (rfl)
@[simp] theorem w5 (i : List D) : wholeD (.lst i) = false := (rfl)
@[simp] theorem w6 : wholeD .non = false := (rfl)
@[simp] theorem n1 (i : Int) : noIns (.int i) = true := (rfl)
@[simp] theorem n2 (i : Bool) : noIns (.bl i) = true := (rfl)
@[simp] theorem n3 (i : Str) : noIns (.str i) = true := (rfl)
@[simp] theorem n4 (i : List D) : noIns (.tup i) = true := (rfl)
@[simp] theorem n5 (i : List D) : noIns (.lst i) = true := (rfl)
@[simp] theorem n6 : noIns .non = true := (rfl)
theorem q_is_whole (d : D) (h : noIns d = true) : f_is_whole [.sh d] = .ok (.sh (.bl (wholeD d))) [.sh d] := by
  cases d <;> first | rfl | cases h
@[simp] theorem iw1 (i : Int) : f_is_whole [.sh (.int i)] = .ok (.sh (.bl true)) [.sh (.int i)] := (rfl)
@[simp] theorem iw2 (i : Bool) : f_is_whole [.sh (.bl i)] = .ok (.sh (.bl false)) [.sh (.bl i)] := (rfl)
theorem q_check_span (n : Int) : f_check_span [.sh (.int n)] = if n < 0 then .ex ⟨3, ["span"], [.int n]⟩ [.sh (.int n)] else .ok (.sh .non) [.sh (.int n)] := by
  rw [u_check_span]
  unfold d_check_span
  by_cases h : n < 0
  · simp [oLt, opI, h]
  · simp [oLt, opI, h]
/-- the numbers of a list or a tuple -/
def numOk (ds : List D) (n : Int) : Bool := decide ((ds.length : Int) = n) && ds.all wholeD
theorem whole_lc (ds : List D) (s : List Cell) (i j : Nat) (x : D) (h : s[i]? = some (.sh x)) (hx : itD x = some ds) (hj : s[j]? = some .un ∨ ∃ d, s[j]? = some (.sh d)) (hl : ds.length ≤ 16777216) (hn : ds.all noIns = true) :
    cLc [j] (iVal (vVar i)) (gName j) tYesD (vC (cCall [none] (asVal (vVar j) asNil) f_is_whole)) s = .ok (.ol (ds.map fun d => .bl (wholeD d))) s := by
  have hjl : j < s.length := by
    rcases hj with e | ⟨d, e⟩ <;> exact (List.getElem?_eq_some_iff.mp e).1
  have w : wipeC s [j] = s.set j .un := by simp [wipeC]
  refine cLc_map (fun d => .bl (wholeD d)) (by simp [h, hx]) hl (by simpa using hj) (fun d hd => ?_)
  have hn' := List.all_eq_true.mp hn d hd
  have e := q_is_whole d hn'
  refine ⟨(s.set j .un).set j (.sh d), (s.set j .un).set j (.sh d), by simp [w], ?_, by simp [wipeC]⟩
  simp [List.getElem?_set_self, hjl, e]
theorem q_check_numbers (x : D) (ds : List D) (n : Int) (hx : itsD x = some ds) (hl : ds.length ≤ 16777216) (hn : ds.all noIns = true) :
    f_check_numbers [.sh x, .sh (.int n)] = if numOk ds n = true then .ok (.sh .non) [.sh x, .sh (.int n)] else .ex ⟨7, [], []⟩ [.sh x, .sh (.int n)] := by
  have hit : itD x = some ds := by cases x <;> first | exact hx | cases hx
  have hty : oIsi2 .list .tuple (.sh x) = some (.bl true) := by cases x <;> first | rfl | cases hx
  have hle : oLen (.sh x) = some (.int ds.length) := by cases x <;> first | (cases hx; rfl) | cases hx
  have al : (ds.map fun d => D.bl (wholeD d)) = ds.map fun d => D.bl (wholeD d) := rfl
  have lc := whole_lc ds [.sh x, .sh (.int n), .un] 0 2 x rfl hit (.inl rfl) hl hn
  rw [u_check_numbers]
  unfold d_check_numbers
  by_cases h1 : (ds.length : Int) = n
  · by_cases h2 : ds.all wholeD = true
    · simp [cd_check_numbers_1, hty, hle, lc, numOk, h1, h2, -List.all_eq_true]
    · simp [cd_check_numbers_1, hty, hle, lc, numOk, h1, h2, -List.all_eq_true]
  · simp [hty, hle, numOk, h1]
end VH
end
section
set_option maxHeartbeats 2000000
set_option maxRecDepth 100000
namespace VH
open PySem VL
/-! claims, patterns -/
structure Cl where
  lo : Int
  hi : Int
  mn : Int
  mx : Int
def Cl.d (c : Cl) : D := .tup [.int c.lo, .int c.hi, .int c.mn, .int c.mx]
def Cl.ok (span : Int) (c : Cl) : Bool := decide (0 ≤ c.lo) && (decide (c.lo < c.hi) && (decide (c.hi ≤ span) && decide (c.mn ≤ c.mx)))
theorem okC {span : Int} {c : Cl} (h : c.ok span = true) : 0 ≤ c.lo ∧ c.lo < c.hi ∧ c.hi ≤ span ∧ c.mn ≤ c.mx := by
  unfold Cl.ok at h
  simpa [Bool.and_eq_true, decide_eq_true_eq] using h
/-- is it a claim of the span? -/
def claimD (span : Int) : D → Bool
  | .tup [.int lo, .int hi, .int mn, .int mx] => Cl.ok span ⟨lo, hi, mn, mx⟩
  | _ => false
theorem claimD_d (span : Int) (c : Cl) : claimD span c.d = c.ok span := rfl
theorem claimD_len (span : Int) (x : D) (h : claimD span x = true) : ∃ c : Cl, x = c.d ∧ c.ok span = true := by
  unfold claimD at h
  split at h
  · exact ⟨_, rfl, h⟩
  · cases h
theorem wholeD_int {x : D} (h : wholeD x = true) : ∃ i, x = .int i := by
  cases x <;> first | exact ⟨_, rfl⟩ | cases h
theorem four_ints {l : List D} (h4 : (l.length : Int) = 4) (hw : l.all wholeD = true) : ∃ a b c d, l = [.int a, .int b, .int c, .int d] := by
  match l, h4, hw with
  | [a, b, c, d], _, hw =>
    simp only [List.all_cons, List.all_nil, Bool.and_true, Bool.and_eq_true] at hw
    obtain ⟨h1, h2, h3, h4⟩ := hw
    obtain ⟨a, rfl⟩ := wholeD_int h1
    obtain ⟨b, rfl⟩ := wholeD_int h2
    obtain ⟨c, rfl⟩ := wholeD_int h3
    obtain ⟨d, rfl⟩ := wholeD_int h4
    exact ⟨a, b, c, d, rfl⟩
theorem q_is_claim (span : Int) (x : D) (hx : noIns x = true) (hn : ∀ l, x = .tup l → l.all noIns = true ∧ l.length ≤ 1000) : f_is_claim [.sh (.int span), .sh x] = .ok (.sh (.bl (claimD span x))) [.sh (.int span), .sh x] := by
  rw [u_is_claim]
  unfold d_is_claim
  cases x with
  | tup l =>
    obtain ⟨hn, hl⟩ := hn l rfl
    have lc := whole_lc l [.sh (.int span), .sh (.tup l), .un, .un, .un, .un, .un] 1 6 (.tup l) rfl rfl (.inl rfl) (by omega) hn
    have ei : oIsi .tuple (.sh (.tup l)) = some (.bl true) := rfl
    by_cases h4 : (l.length : Int) = 4
    · by_cases hw : l.all wholeD = true
      · obtain ⟨lo, hi, mn, mx, rfl⟩ := four_ints h4 hw
        have eg : ∀ s : List Cell, gTup 4 (gsCons (gName 2) (gsCons (gName 3) (gsCons (gName 4) (gsCons (gName 5) gsNil)))) (.tup [.int lo, .int hi, .int mn, .int mx]) s = some ((((s.set 2 (.sh (.int lo))).set 3 (.sh (.int hi))).set 4 (.sh (.int mn))).set 5 (.sh (.int mx))) := fun _ => rfl
        have al : ([D.int lo, .int hi, .int mn, .int mx].map fun d => D.bl (wholeD d)) = [D.bl true, .bl true, .bl true, .bl true] := rfl
        rw [al] at lc
        have ea : oAll (.sh (.lst [D.bl true, .bl true, .bl true, .bl true])) = some (.bl true) := rfl
        have el : oLen (.sh (.tup [D.int lo, .int hi, .int mn, .int mx])) = some (.int 4) := rfl
        simp [ei, el, cd_is_claim_1, lc, ea, eg, Cl.ok, claimD]
        by_cases h1 : 0 ≤ lo <;> by_cases h2 : lo < hi <;> by_cases h3 : hi ≤ span <;> simp [h1, h2, h3]
      · have e2 : claimD span (.tup l) = false := by
          unfold claimD
          split
          · rename_i e
            cases e
            exact absurd rfl hw
          · rfl
        have hw : l.all wholeD = false := by simpa using hw
        rw [e2]
        simp [ei, cd_is_claim_1, h4, lc, hw, -List.all_eq_true, -List.all_eq_false]
    · have e2 : claimD span (.tup l) = false := by
        unfold claimD
        split
        · rename_i e
          cases e
          exact absurd rfl h4
        · rfl
      rw [e2]
      simp [ei, h4]
  | ins _ _ _ => cases hx
  | non => have ei : oIsi .tuple (.sh .non) = some (.bl false) := rfl
           simp [ei, claimD]
  | bl b => have ei : oIsi .tuple (.sh (.bl b)) = some (.bl false) := rfl
            simp [ei, claimD]
  | int b => have ei : oIsi .tuple (.sh (.int b)) = some (.bl false) := rfl
             simp [ei, claimD]
  | str b => have ei : oIsi .tuple (.sh (.str b)) = some (.bl false) := rfl
             simp [ei, claimD]
  | lst b => have ei : oIsi .tuple (.sh (.lst b)) = some (.bl false) := rfl
             simp [ei, claimD]
theorem q_is_claim_d (span : Int) (c : Cl) : f_is_claim [.sh (.int span), .sh c.d] = .ok (.sh (.bl (c.ok span))) [.sh (.int span), .sh c.d] :=
  q_is_claim span c.d rfl (fun l e => by cases e; exact ⟨rfl, by simp⟩)
/-- fit to be asked -/
def askD (x : D) : Prop := noIns x = true ∧ ∀ l, x = .tup l → l.all noIns = true ∧ l.length ≤ 1000
theorem askD_cl (c : Cl) : askD c.d := ⟨rfl, fun l e => by cases e; exact ⟨rfl, by simp⟩⟩
/-- where the first claim stands that is none of the span -/
def firstBadD (span : Int) (xs : List D) : Option Nat := seekT (fun (p : D × Nat) => if claimD span p.1 = true then none else some p.2) xs.zipIdx
theorem seekT_idx {α : Type} (p : α → Bool) : ∀ (xs : List α) (n : Nat), (∀ x ∈ xs, p x = true) → seekT (fun (q : α × Nat) => if p q.1 = true then none else some q.2) (xs.zipIdx n) = none
  | [], _, _ => rfl
  | x :: xs, n, h => by
    rw [List.zipIdx_cons]
    unfold seekT
    rw [if_pos (h x (List.mem_cons_self ..))]
    exact seekT_idx p xs (n + 1) fun y hy => h y (List.mem_cons_of_mem _ hy)
theorem seekT_idx_at {α : Type} (p : α → Bool) : ∀ (xs : List α) (y : α) (zs : List α) (n : Nat), (∀ x ∈ xs, p x = true) → p y = false → seekT (fun (q : α × Nat) => if p q.1 = true then none else some q.2) ((xs ++ y :: zs).zipIdx n) = some (n + xs.length)
  | [], y, zs, n, _, hy => by
    rw [List.nil_append, List.zipIdx_cons]
    unfold seekT
    simp [hy]
  | x :: xs, y, zs, n, h, hy => by
    rw [List.cons_append, List.zipIdx_cons]
    unfold seekT
    rw [if_pos (h x (List.mem_cons_self ..)), seekT_idx_at p xs y zs (n + 1) (fun y hy => h y (List.mem_cons_of_mem _ hy)) hy]
    simp
    omega
theorem firstBadD_ok {span : Int} {cs : List Cl} (h : ∀ c ∈ cs, c.ok span = true) : firstBadD span (cs.map Cl.d) = none := seekT_idx _ _ _ fun x hx => by
  obtain ⟨c, hc, rfl⟩ := List.mem_map.mp hx
  exact h c hc
theorem l_check_claims (span : Int) (x : D) (xs : List D) (hx : itsD x = some xs) (ha : ∀ y ∈ xs, askD y) (j : Cell × Cell) : (firstBadD span xs = none → ∃ j' : Cell × Cell, loopD lg_check_claims_1 lb_check_claims_1 (enumD 0 xs) [.sh (.int span), .sh x, j.1, j.2] = .nx [.sh (.int span), .sh x, j'.1, j'.2]) ∧
    ∀ m, firstBadD span xs = some m → ∃ j' : Cell × Cell, loopD lg_check_claims_1 lb_check_claims_1 (enumD 0 xs) [.sh (.int span), .sh x, j.1, j.2] = .ex ⟨4, ["place"], [.int m]⟩ [.sh (.int span), .sh x, j'.1, j'.2] := by
  have e : enumD 0 xs = (xs.zipIdx 0).map fun (p : D × Nat) => D.tup [.int p.2, p.1] := by
    have z := enumD_map (fun (d : D) => d) xs 0
    simpa using z
  rw [e]
  exact loop_seek (J := Cell × Cell) lg_check_claims_1 lb_check_claims_1 (fun (p : D × Nat) => D.tup [.int p.2, p.1]) (fun j => [.sh (.int span), .sh x, j.1, j.2]) (fun (p : D × Nat) => if claimD span p.1 = true then none else some p.2) (fun (m : Nat) => .ex ⟨4, ["place"], [.int m]⟩) (fun _ j => [.sh (.int span), .sh x, j.1, j.2]) (xs.zipIdx 0) j (fun j p hp => by
    obtain ⟨d, n⟩ := p
    have hd := ha d (by
      have := List.mem_zipIdx hp
      rw [this.2.2]
      exact List.getElem_mem _)
    have q := q_is_claim span d hd.1 hd.2
    by_cases h : claimD span d = true
    · simp only [h, if_true]
      simp [turnL_eq, lg_check_claims_1, lb_check_claims_1, q, h]
    · simp only [h, if_false]
      simp [turnL_eq, lg_check_claims_1, lb_check_claims_1, q, h])
theorem q_check_claims' (span : Int) (x : D) (xs : List D) (hx : itsD x = some xs) (ha : ∀ y ∈ xs, askD y) : f_check_claims [.sh (.int span), .sh x] = if span < 0 then .ex ⟨3, ["span"], [.int span]⟩ [.sh (.int span), .sh x] else match firstBadD span xs with
    | none => .ok (.sh .non) [.sh (.int span), .sh x]
    | some m => .ex ⟨4, ["place"], [.int m]⟩ [.sh (.int span), .sh x] := by
  rw [u_check_claims]
  unfold d_check_claims
  by_cases hs : span < 0
  · simp [q_check_span, hs]
  · have e := l_check_claims span x xs hx ha (.un, .un)
    cases q : firstBadD span xs with
    | none =>
      obtain ⟨j, e⟩ := e.1 q
      simp at e
      simp [q_check_span, hs, hx, e]
    | some m =>
      obtain ⟨j, e⟩ := e.2 m q
      simp at e
      simp [q_check_span, hs, hx, e]
theorem q_check_claims (n : Nat) (x : D) (cs : List Cl) (hx : itsD x = some (cs.map Cl.d)) (hc : ∀ c ∈ cs, c.ok n = true) : f_check_claims [.sh (.int n), .sh x] = .ok (.sh .non) [.sh (.int n), .sh x] := by
  rw [q_check_claims' n x _ hx (fun y hy => by
    obtain ⟨c, _, rfl⟩ := List.mem_map.mp hy
    exact askD_cl c), if_neg (by omega), firstBadD_ok hc]
end VH
end
section
set_option maxHeartbeats 2000000
set_option maxRecDepth 100000
namespace VH
open PySem VL
def is01 : D → Bool
  | .int i => decide (i = 0) || decide (i = 1)
  | _ => false
theorem in01 (i : Int) : oIn (.sh (.int i)) (.sh (.tup [.int 0, .int 1])) = some (.bl (decide (i = 0) || decide (i = 1))) := by
  have e : oIn (.sh (.int i)) (.sh (.tup [.int 0, .int 1])) = some (.bl (L2.inV (.int i) [.int 0, .int 1])) := rfl
  rw [e]
  have z : ∀ j : Int, L2.eqV (.int j) (.int i) = decide (i = j) := fun j => by
    show (j == i) = _
    rw [Bool.eq_iff_iff]
    rw [beq_iff_eq, decide_eq_true_iff]
    exact eq_comm
  simp [L2.inV, z]
theorem q_is_pattern (n : Int) (x : D) (ds : List D) (hx : itsD x = some ds) (hl : ds.length ≤ 16777216) (hn : ds.all noIns = true) :
    f_is_pattern [.sh (.int n), .sh x] = .ok (.sh (.bl (decide ((ds.length : Int) = n) && ds.all is01))) [.sh (.int n), .sh x] := by
  have hit : itD x = some ds := by cases x <;> first | exact hx | cases hx
  have hty : oIsi2 .list .tuple (.sh x) = some (.bl true) := by cases x <;> first | rfl | cases hx
  have hle : oLen (.sh x) = some (.int ds.length) := by cases x <;> first | (cases hx; rfl) | cases hx
  have lc : cd_is_pattern_1 [.sh (.int n), .sh x, .un] = .ok (.ol (ds.map fun d => .bl (is01 d))) [.sh (.int n), .sh x, .un] := by
    refine cLc_map (fun d => .bl (is01 d)) (by simp [hit]) hl (by simp) (fun d hd => ?_)
    have hn' := List.all_eq_true.mp hn d hd
    have e := q_is_whole d hn'
    refine ⟨[.sh (.int n), .sh x, .sh d], [.sh (.int n), .sh x, .sh d], rfl, ?_, rfl⟩
    cases d <;> first | (cases hn'; done) | simp [e, is01, in01]
  rw [u_is_pattern]
  unfold d_is_pattern
  by_cases h1 : (ds.length : Int) = n
  · simp [hty, hle, lc, h1, -List.all_eq_true]
  · simp [hty, hle, h1]
theorem q_check_pattern (n : Int) (x : D) (ds : List D) (hx : itsD x = some ds) (hl : ds.length ≤ 16777216) (hn : ds.all noIns = true) :
    f_check_pattern [.sh (.int n), .sh x] = if (decide ((ds.length : Int) = n) && ds.all is01) = true then .ok (.sh .non) [.sh (.int n), .sh x] else .ex ⟨5, [], []⟩ [.sh (.int n), .sh x] := by
  rw [u_check_pattern]
  unfold d_check_pattern
  have e := q_is_pattern n x ds hx hl hn
  cases h : (decide ((ds.length : Int) = n) && ds.all is01) <;> rw [h] at e <;> simp [e]
theorem q_check_entries (x : D) (ds : List D) (hx : itsD x = some ds) (hl : ds.length ≤ 16777216) (hn : ds.all noIns = true) :
    f_check_entries [.sh x] = if ds.all is01 = true then .ok (.sh .non) [.sh x] else .ex ⟨5, [], []⟩ [.sh x] := by
  have hty : oIsi2 .list .tuple (.sh x) = some (.bl true) := by cases x <;> first | rfl | cases hx
  have hle : oLen (.sh x) = some (.int ds.length) := by cases x <;> first | (cases hx; rfl) | cases hx
  rw [u_check_entries]
  unfold d_check_entries
  have e := q_is_pattern ds.length x ds hx hl hn
  simp only [decide_true, Bool.true_and] at e
  cases h : ds.all is01 <;> rw [h] at e <;> simp [e, hty, hle]
/-- the sums ahead of each number -/
def sumsFrom (a : Int) : List Int → List Int
  | [] => [a]
  | n :: ns => a :: sumsFrom (a + n) ns
theorem sumsFrom_ne (a : Int) (ns : List Int) : sumsFrom a ns ≠ [] := by cases ns <;> simp [sumsFrom]
theorem sumsFrom_snoc (a : Int) (ns : List Int) (n : Int) : sumsFrom a (ns ++ [n]) = sumsFrom a ns ++ [a + ns.sum + n] := by
  induction ns generalizing a with
  | nil => simp [sumsFrom]
  | cons m ns ih => simp [sumsFrom, ih, Int.add_assoc]
theorem sumsFrom_last (a : Int) (ns : List Int) : ∃ pre, sumsFrom a ns = pre ++ [a + ns.sum] := by
  induction ns generalizing a with
  | nil => exact ⟨[], by simp [sumsFrom]⟩
  | cons m ns ih =>
    obtain ⟨pre, e⟩ := ih (a + m)
    exact ⟨a :: pre, by simp [sumsFrom, e, Int.add_assoc]⟩
theorem sumsFrom_len (a : Int) (ns : List Int) : (sumsFrom a ns).length = ns.length + 1 := by
  induction ns generalizing a with
  | nil => rfl
  | cons n ns ih => simp [sumsFrom, ih]
theorem q_totals (x : D) (ns : List Int) (hx : itsD x = some (ns.map D.int)) (hl : ns.length ≤ 1000) (hp : (ns.map D.int).all is01 = true) : f_totals [.sh x] = .ok (.ol ((sumsFrom 0 ns).map D.int)) [.sh x] := by
  have hit : itD x = some (ns.map D.int) := by cases x <;> first | exact hx | cases hx
  have e := q_check_entries x _ hx (by simp; omega) (by simp)
  rw [hp] at e
  obtain ⟨⟨bl, j⟩, el, hi⟩ := loop_inv lg_totals_1 lb_totals_1 D.int (fun (b : List Int × Cell) => [.sh x, .ol ((sumsFrom 0 b.1).map D.int), b.2]) (fun i b => b.1 = ns.take i) ns 0 ([], .un) (fun b i y hy hb => by
    obtain ⟨bl, j⟩ := b
    simp only [Nat.zero_add] at hb ⊢
    obtain ⟨pre, hpre⟩ := sumsFrom_last 0 bl
    have ix : oIx (.ol ((pre ++ [0 + bl.sum]).map D.int)) (.sh (.int (-1))) = some (.int (0 + bl.sum)) := by
      rw [List.map_append]
      exact L2.atI_last _ _
    have hi := (List.getElem?_eq_some_iff.mp hy).1
    have len : pre.length + 1 < 16777216 := by
      have z := congrArg List.length hpre
      rw [sumsFrom_len, hb] at z
      simp at z
      omega
    refine ⟨(bl ++ [y], .sh (.int y)), ?_, ?_⟩
    · have z := sumsFrom_snoc 0 bl y
      simp only [z, hpre]
      simp only [Int.zero_add] at ix
      simp [turnL_eq, lg_totals_1, lb_totals_1, len]
      simp at ix
      simp [ix, len]
    · simp only [hb]
      rw [List.take_add_one, hy]
      rfl) rfl
  simp only [Nat.zero_add, List.take_length] at hi
  simp only [hi] at el
  rw [u_totals]
  unfold d_totals
  simp [sumsFrom] at el
  simp [e, hit, el]
theorem q_totals_bad (x : D) (ds : List D) (hx : itsD x = some ds) (hl : ds.length ≤ 1000) (hn : ds.all noIns = true) (hp : ds.all is01 = false) : f_totals [.sh x] = .ex ⟨5, [], []⟩ [.sh x] := by
  have e := q_check_entries x _ hx (by omega) hn
  rw [hp] at e
  rw [u_totals]
  unfold d_totals
  simp [e]
end VH
end
section
set_option maxHeartbeats 2000000
set_option maxRecDepth 100000
namespace VH
open PySem VL
def gI (l : List Int) (i : Int) : Int := l.getD i.toNat 0
theorem gI_nat (l : List Int) (i : Nat) (h : i < l.length) : gI l i = l[i] := by simp [gI, List.getD, h]
theorem atI_int (l : List Int) (i : Int) (h0 : 0 ≤ i) (h1 : i < l.length) : L2.atI (l.map D.int) i = some (.int (gI l i)) := by
  have hn : i.toNat < l.length := by omega
  unfold L2.atI L2.ixN
  rw [if_pos h0, if_pos (by simpa using h1)]
  simp [gI, List.getD, hn]
theorem ix_sh (l : List Int) (i : Int) (h0 : 0 ≤ i) (h1 : i < l.length) : oIx (.sh (.lst (l.map D.int))) (.sh (.int i)) = some (.int (gI l i)) := atI_int l i h0 h1
theorem ix_tp (l : List Int) (i : Int) (h0 : 0 ≤ i) (h1 : i < l.length) : oIx (.sh (.tup (l.map D.int))) (.sh (.int i)) = some (.int (gI l i)) := atI_int l i h0 h1
theorem ix_ol (l : List Int) (i : Int) (h0 : 0 ≤ i) (h1 : i < l.length) : oIx (.ol (l.map D.int)) (.sh (.int i)) = some (.int (gI l i)) := atI_int l i h0 h1
theorem ixs (x : D) (ws : List Int) (hx : itsD x = some (ws.map D.int)) (i : Int) (h0 : 0 ≤ i) (h1 : i < ws.length) : oIx (.sh x) (.sh (.int i)) = some (.int (gI ws i)) := by
  cases x with
  | tup l => cases hx; exact ix_tp ws i h0 h1
  | lst l => cases hx; exact ix_sh ws i h0 h1
  | _ => cases hx
theorem oLen_its {x : D} {ds : List D} (hx : itsD x = some ds) : oLen (.sh x) = some (.int ds.length) := by cases x <;> first | (cases hx; rfl) | cases hx
theorem itD_its {x : D} {ds : List D} (hx : itsD x = some ds) : itD x = some ds := by cases x <;> first | exact hx | cases hx
/-- the ones between two places -/
def seg (ns : List Int) (lo hi : Int) : Int := (ns.take hi.toNat).sum - (ns.take lo.toNat).sum
theorem sumsFrom_get (ns : List Int) : ∀ (a : Int) (i : Nat), i ≤ ns.length → (sumsFrom a ns).getD i 0 = a + (ns.take i).sum := by
  induction ns with
  | nil => intro a i h; have : i = 0 := by simpa using h
           subst this; simp [sumsFrom]
  | cons n ns ih =>
    intro a i h
    cases i with
    | zero => simp [sumsFrom]
    | succ i =>
      have z := ih (a + n) i (by simpa using h)
      simp only [sumsFrom, List.getD_cons_succ, z, List.take_succ_cons, List.sum_cons]
      omega
theorem gI_sums (ns : List Int) (i : Int) (h0 : 0 ≤ i) (h1 : i ≤ ns.length) : gI (sumsFrom 0 ns) i = (ns.take i.toNat).sum := by
  unfold gI
  rw [sumsFrom_get ns 0 i.toNat (by omega), Int.zero_add]
def Cl.fits (ns : List Int) (c : Cl) : Bool := decide (c.mn ≤ seg ns c.lo c.hi) && decide (seg ns c.lo c.hi ≤ c.mx)
theorem fits_iff (c : Cl) (ns : List Int) : c.fits ns = true ↔ c.mn ≤ seg ns c.lo c.hi ∧ seg ns c.lo c.hi ≤ c.mx := by
  unfold Cl.fits
  simp
/-- the first claim that the pattern does not meet -/
def firstOff (cs : List Cl) (ns : List Int) : Option Nat := seekT (fun (p : Cl × Nat) => if p.1.fits ns = true then none else some p.2) cs.zipIdx
theorem seekT_none_iff {α : Type} (p : α → Bool) : ∀ (xs : List α) (n : Nat), seekT (fun (q : α × Nat) => if p q.1 = true then none else some q.2) (xs.zipIdx n) = none ↔ xs.all p = true
  | [], _ => by simp [seekT]
  | x :: xs, n => by
    rw [List.zipIdx_cons]
    unfold seekT
    by_cases h : p x = true
    · simp only [h, if_true, List.all_cons, Bool.true_and]
      exact seekT_none_iff p xs (n + 1)
    · simp [h]
theorem l_first_broken (x y : D) (ns : List Int) (cs : List Cl) (hc : ∀ c ∈ cs, c.ok ns.length = true) (j : Cell × Cell × Cell × Cell × Cell × Cell) :
    (firstOff cs ns = none → ∃ j' : Cell × Cell × Cell × Cell × Cell × Cell, loopD lg_first_broken_1 lb_first_broken_1 (enumD 0 (cs.map Cl.d)) [.sh x, .sh y, .sh (.lst ((sumsFrom 0 ns).map D.int)), j.1, j.2.1, j.2.2.1, j.2.2.2.1, j.2.2.2.2.1, j.2.2.2.2.2] = .nx [.sh x, .sh y, .sh (.lst ((sumsFrom 0 ns).map D.int)), j'.1, j'.2.1, j'.2.2.1, j'.2.2.2.1, j'.2.2.2.2.1, j'.2.2.2.2.2]) ∧
    ∀ m, firstOff cs ns = some m → ∃ j' : Cell × Cell × Cell × Cell × Cell × Cell, loopD lg_first_broken_1 lb_first_broken_1 (enumD 0 (cs.map Cl.d)) [.sh x, .sh y, .sh (.lst ((sumsFrom 0 ns).map D.int)), j.1, j.2.1, j.2.2.1, j.2.2.2.1, j.2.2.2.2.1, j.2.2.2.2.2] = .rt (.sh (.int m)) [.sh x, .sh y, .sh (.lst ((sumsFrom 0 ns).map D.int)), j'.1, j'.2.1, j'.2.2.1, j'.2.2.2.1, j'.2.2.2.2.1, j'.2.2.2.2.2] := by
  rw [show (0 : Int) = ((0 : Nat) : Int) from rfl, enumD_map]
  refine loop_seek (J := Cell × Cell × Cell × Cell × Cell × Cell) lg_first_broken_1 lb_first_broken_1 _ (fun j => [.sh x, .sh y, .sh (.lst ((sumsFrom 0 ns).map D.int)), j.1, j.2.1, j.2.2.1, j.2.2.2.1, j.2.2.2.2.1, j.2.2.2.2.2]) (fun (p : Cl × Nat) => if p.1.fits ns = true then none else some p.2) (fun (m : Nat) => .rt (.sh (.int m)))
    (fun _ j => [.sh x, .sh y, .sh (.lst ((sumsFrom 0 ns).map D.int)), j.1, j.2.1, j.2.2.1, j.2.2.2.1, j.2.2.2.2.1, j.2.2.2.2.2]) (cs.zipIdx 0) j (fun j p hp => ?_)
  obtain ⟨c, n⟩ := p
  obtain ⟨h1, h2, h3, h4⟩ := okC (hc c (by
    have := List.mem_zipIdx hp
    rw [this.2.2]
    exact List.getElem_mem _))
  have i1 := ix_sh (sumsFrom 0 ns) c.hi (by omega) (by rw [sumsFrom_len]; omega)
  have i2 := ix_sh (sumsFrom 0 ns) c.lo (by omega) (by rw [sumsFrom_len]; omega)
  rw [gI_sums ns _ (by omega) (by omega)] at i1 i2
  by_cases hf : c.fits ns = true
  · simp only [hf, if_true]
    rw [fits_iff] at hf
    unfold seg at hf
    have f1 : ¬ ((ns.take c.hi.toNat).sum - (ns.take c.lo.toNat).sum < c.mn) := by omega
    have f2 : ¬ (c.mx < (ns.take c.hi.toNat).sum - (ns.take c.lo.toNat).sum) := by omega
    simp [turnL_eq, lg_first_broken_1, lb_first_broken_1, Cl.d, i1, i2, f1, f2]
  · simp only [hf, if_false]
    rw [fits_iff] at hf
    unfold seg at hf
    by_cases f1 : ((ns.take c.hi.toNat).sum - (ns.take c.lo.toNat).sum < c.mn)
    · simp [turnL_eq, lg_first_broken_1, lb_first_broken_1, Cl.d, i1, i2, f1]
    · have f2 : (c.mx < (ns.take c.hi.toNat).sum - (ns.take c.lo.toNat).sum) := by omega
      simp [turnL_eq, lg_first_broken_1, lb_first_broken_1, Cl.d, i1, i2, f1, f2]
def pat (ns : List Int) : Bool := ns.all fun n => decide (n = 0) || decide (n = 1)
theorem pat_is01 (ns : List Int) : (ns.map D.int).all is01 = pat ns := by
  rw [List.all_map]
  rfl
def optN : Option Nat → D
  | .none => .non
  | .some i => .int i
theorem q_first_broken (x y : D) (cs : List Cl) (ns : List Int) (hx : itsD x = some (cs.map Cl.d)) (hy : itsD y = some (ns.map D.int)) (hl : ns.length ≤ 1000) (hp : pat ns = true) (hc : ∀ c ∈ cs, c.ok ns.length = true) :
    f_first_broken [.sh x, .sh y] = .ok (.sh (optN (firstOff cs ns))) [.sh x, .sh y] := by
  rw [← pat_is01] at hp
  have e1 := q_check_entries y _ hy (by simp; omega) (by simp)
  rw [hp] at e1
  have hle := oLen_its hy
  have e2 := q_check_claims ns.length x cs hx hc
  have e3 := q_totals y ns hy hl hp
  have el := l_first_broken x y ns cs hc (.un, .un, .un, .un, .un, .un)
  rw [u_first_broken]
  unfold d_first_broken
  cases q : firstOff cs ns with
  | none =>
    obtain ⟨j, el⟩ := el.1 q
    simp only at el
    simp [e1, hle, e2, e3, hx, el, optN]
  | some m =>
    obtain ⟨j, el⟩ := el.2 m q
    simp only at el
    simp [e1, hle, e2, e3, hx, el, optN]
theorem q_meets (x y : D) (cs : List Cl) (ns : List Int) (hx : itsD x = some (cs.map Cl.d)) (hy : itsD y = some (ns.map D.int)) (hl : ns.length ≤ 1000) (hp : pat ns = true) (hc : ∀ c ∈ cs, c.ok ns.length = true) :
    f_meets [.sh x, .sh y] = .ok (.sh (.bl (cs.all (Cl.fits ns)))) [.sh x, .sh y] := by
  have e := q_first_broken x y cs ns hx hy hl hp hc
  have z := seekT_none_iff (Cl.fits ns) cs 0
  rw [u_meets]
  unfold d_meets
  cases q : firstOff cs ns with
  | none =>
    rw [q] at e
    rw [z.mp q]
    simp [e, optN]
  | some m =>
    rw [q] at e
    have : cs.all (Cl.fits ns) = false := by
      cases h : cs.all (Cl.fits ns) with
      | false => rfl
      | true =>
        have := z.mpr h
        unfold firstOff at q
        rw [this] at q
        cases q
    rw [this]
    simp [e, optN]
end VH
end
section
set_option maxHeartbeats 2000000
set_option maxRecDepth 100000
namespace VH
open PySem VL
theorem pat_gI {ns : List Int} (h : pat ns = true) (i : Int) : gI ns i = 0 ∨ gI ns i = 1 := by
  unfold gI
  by_cases hi : i.toNat < ns.length
  · have e : ns.getD i.toNat 0 = ns[i.toNat] := by simp [List.getD, hi]
    rw [e]
    have z := List.all_eq_true.mp h ns[i.toNat] (List.getElem_mem hi)
    simpa using z
  · left
    simp [List.getD, hi]
theorem mul_sm (a b : Int) (h : (-1000 ≤ a ∧ a ≤ 1000) ∨ (-1000 ≤ b ∧ b ≤ 1000)) : oMul (.sh (.int a)) (.sh (.int b)) = some (.int (a * b)) := by
  have e : bMul a b = true := by
    unfold bMul
    rw [Bool.or_eq_true, Bool.and_eq_true, Bool.and_eq_true]
    rcases h with h | h
    · left
      exact ⟨decide_eq_true (by omega), decide_eq_true (by omega)⟩
    · right
      exact ⟨decide_eq_true (by omega), decide_eq_true (by omega)⟩
  show (if bMul a b = true then some (D.int (a * b)) else none) = _
  rw [if_pos e]
theorem mul01 (a b : Int) (h : b = 0 ∨ b = 1) : oMul (.sh (.int a)) (.sh (.int b)) = some (.int (a * b)) := mul_sm a b (by omega)
def dot (ws ns : List Int) (n : Nat) : Int := ((List.range n).map fun (i : Nat) => gI ws i * gI ns i).sum
theorem q_check_numbers_int (x : D) (ws : List Int) (n : Int) (hx : itsD x = some (ws.map D.int)) (hl : ws.length ≤ 1000) : f_check_numbers [.sh x, .sh (.int n)] = if (ws.length : Int) = n then .ok (.sh .non) [.sh x, .sh (.int n)] else .ex ⟨7, [], []⟩ [.sh x, .sh (.int n)] := by
  rw [q_check_numbers x _ n hx (by simp; omega) (by simp)]
  simp [numOk]
theorem comp_range {γ : Type} (n : Nat) (hn : n ≤ 1000) {vs : List Nat} {v : DV} {dg : DG} {de : DV} {s : List Cell} (enc' : γ → D) (f : Nat → γ) (hv : v s = .ok (.int n) s) (hs : ∀ j ∈ vs, s[j]? = some .un ∨ ∃ d, s[j]? = some (.sh d))
    (h : ∀ i, i < n → ∃ a c, dg (.int i) (wipeC s vs) = some a ∧ de a = .ok (enc' (f i)) c ∧ wipeC c vs = wipeC s vs) : cLc vs (iRng1 v) dg tYesD de s = .ok (.ol (((List.range n).map f).map enc')) s :=
  comp_map natE enc' (List.range n) f (iRng1_ok hv hn) (by simp; omega) hs fun i hi => h i (List.mem_range.mp hi)
theorem q_pattern_weight (x y : D) (ws ns : List Int) (hx : itsD x = some (ws.map D.int)) (hy : itsD y = some (ns.map D.int)) (hw : ws.length = ns.length) (hl : ns.length ≤ 1000) (hp : pat ns = true) :
    f_pattern_weight [.sh x, .sh y] = .ok (.sh (.int (dot ws ns ns.length))) [.sh x, .sh y] := by
  have e1 := q_check_entries y _ hy (by simp; omega) (by simp)
  rw [pat_is01, hp] at e1
  have hle := oLen_its hy
  have e2 := q_check_numbers_int x ws ns.length hx (by omega)
  rw [hw, if_pos rfl] at e2
  have lc : cd_pattern_weight_1 [.sh x, .sh y, .un] = .ok (.ol (((List.range ns.length).map fun (i : Nat) => gI ws i * gI ns i).map D.int)) [.sh x, .sh y, .un] := by
    refine comp_range ns.length hl D.int _ (by simp [hle]) (by simp) (fun i hi => ?_)
    refine ⟨[.sh x, .sh y, .sh (.int i)], [.sh x, .sh y, .sh (.int i)], rfl, ?_, rfl⟩
    have i1 := ixs x ws hx i (by omega) (by omega)
    have i2 := ixs y ns hy i (by omega) (by omega)
    have m := mul01 (gI ws i) (gI ns i) (pat_gI hp i)
    simp [i1, i2, m]
  have su := o_sumI ((List.range ns.length).map fun (i : Nat) => gI ws i * gI ns i)
  rw [u_pattern_weight]
  unfold d_pattern_weight
  simp only [List.length_map] at hle
  simp [e1, e2, hle, lc, -List.map_map, su, dot]
/-! heights -/
def addAt (st : List Int) (i v : Int) : List Int := st.set i.toNat (gI st i + v)
theorem addAt_len (st : List Int) (i v : Int) : (addAt st i v).length = st.length := by simp [addAt]
theorem set_take_sum : ∀ (st : List Int) (i m : Nat) (v : Int), i < st.length → ((st.set i (st.getD i 0 + v)).take m).sum = (st.take m).sum + if i < m then v else 0
  | [], i, m, v, h => by simp at h
  | a :: st, 0, 0, v, h => by simp
  | a :: st, 0, m + 1, v, h => by simp; omega
  | a :: st, i + 1, 0, v, h => by simp
  | a :: st, i + 1, m + 1, v, h => by
    have z := set_take_sum st i m v (by simpa using h)
    simp only [List.set_cons_succ, List.getD_cons_succ, List.take_succ_cons, List.sum_cons, z]
    have e : (i + 1 < m + 1) ↔ i < m := by omega
    simp only [e]
    omega
theorem addAt_sum (st : List Int) (i v : Int) (m : Nat) (h0 : 0 ≤ i) (h1 : i < st.length) : ((addAt st i v).take m).sum = (st.take m).sum + if i < m then v else 0 := by
  unfold addAt gI
  rw [set_take_sum st i.toNat m v (by omega)]
  have e : (i.toNat < m) ↔ i < (m : Int) := by omega
  simp only [e]
theorem ixN_in (n : Nat) (i : Int) (h0 : 0 ≤ i) (h1 : i < n) : L2.ixN n i = some i.toNat := by
  unfold L2.ixN
  rw [if_pos h0, if_pos h1]
theorem augIx (op : Op2) (sg : Int) (ho : ∀ a b : Int, op (.sh (.int a)) (.sh (.int b)) = some (.int (a + sg * b))) (i : Nat) (di dv : DV) (s : List Cell) (st : List Int) (j v : Int) (hs : s[i]? = some (.ol (st.map D.int))) (hd : di s = .ok (.int j) s) (hv : dv s = .ok (.int v) s) (h0 : 0 ≤ j) (h1 : j < st.length) :
    sAugIx op i di dv s = .nx (s.set i (.ol ((addAt st j (sg * v)).map D.int))) := by
  unfold sAugIx
  rw [hs]
  simp only
  rw [hd]
  simp only [a_oS_ok, hs]
  rw [atI_int st j h0 h1]
  simp only [hv, a_oS_ok, hs, ho]
  rw [List.length_map, ixN_in _ _ h0 h1]
  simp only [addAt]
  rw [List.map_set]
theorem augIxAdd (i : Nat) (di dv : DV) (s : List Cell) (st : List Int) (j v : Int) (hs : s[i]? = some (.ol (st.map D.int))) (hd : di s = .ok (.int j) s) (hv : dv s = .ok (.int v) s) (h0 : 0 ≤ j) (h1 : j < st.length) :
    sAugIx oAdd i di dv s = .nx (s.set i (.ol ((addAt st j v).map D.int))) := by
  have z := augIx oAdd 1 (fun a b => by simp) i di dv s st j v hs hd hv h0 h1
  rwa [Int.one_mul] at z
theorem augIxSub (i : Nat) (di dv : DV) (s : List Cell) (st : List Int) (j v : Int) (hs : s[i]? = some (.ol (st.map D.int))) (hd : di s = .ok (.int j) s) (hv : dv s = .ok (.int v) s) (h0 : 0 ≤ j) (h1 : j < st.length) :
    sAugIx oSub i di dv s = .nx (s.set i (.ol ((addAt st j (-v)).map D.int))) := by
  have z := augIx oSub (-1) (fun a b => by simp; omega) i di dv s st j v hs hd hv h0 h1
  rwa [show (-1 : Int) * v = -v by omega] at z
def stpH (ps : List Int) (st : List Int) (q : Cl × Nat) : List Int := addAt (addAt st q.1.lo (gI ps q.2)) q.1.hi (-(gI ps q.2))
/-- how high a number is raised -/
def rsL (ps : List Int) (l : List (Cl × Nat)) (i : Int) : Int := (l.map fun q => if q.1.lo ≤ i ∧ i < q.1.hi then gI ps q.2 else 0).sum
def rs (ps : List Int) (cs : List Cl) (i : Int) : Int := rsL ps cs.zipIdx i
theorem mem_zipIdx_ok {n : Nat} {cs : List Cl} (hc : ∀ c ∈ cs, c.ok n = true) {q : Cl × Nat} (h : q ∈ cs.zipIdx) : 0 ≤ q.1.lo ∧ q.1.lo < q.1.hi ∧ q.1.hi ≤ n ∧ q.1.mn ≤ q.1.mx ∧ q.2 < cs.length := by
  obtain ⟨c, k⟩ := q
  have z := List.mem_zipIdx h
  have y := okC (hc c (by
    rw [z.2.2]
    exact List.getElem_mem _))
  exact ⟨y.1, y.2.1, y.2.2.1, y.2.2.2, by simpa using z.2.1⟩
theorem stpH_fold (ps : List Int) (n : Nat) (m : Nat) (hm : m ≤ n) : ∀ (l : List (Cl × Nat)) (st : List Int), st.length = n + 1 → (∀ q ∈ l, 0 ≤ q.1.lo ∧ q.1.lo < q.1.hi ∧ q.1.hi ≤ n) → ((l.foldl (stpH ps) st).take (m + 1)).sum = (st.take (m + 1)).sum + rsL ps l m
  | [], st, _, _ => by simp [rsL]
  | q :: l, st, hst, h => by
    obtain ⟨h1, h2, h3⟩ := h q (List.mem_cons_self ..)
    have ih := stpH_fold ps n m hm l (stpH ps st q) (by simp [stpH, addAt_len, hst]) (fun q hq => h q (List.mem_cons_of_mem _ hq))
    rw [List.foldl_cons, ih]
    unfold stpH
    rw [addAt_sum _ _ _ _ (by omega) (by rw [addAt_len]; omega), addAt_sum _ _ _ _ (by omega) (by omega)]
    unfold rsL
    rw [List.map_cons, List.sum_cons]
    by_cases a : q.1.lo ≤ (m : Int) <;> by_cases b : (m : Int) < q.1.hi
    · rw [if_pos (show q.1.lo < ((m + 1 : Nat) : Int) by omega), if_neg (show ¬ q.1.hi < ((m + 1 : Nat) : Int) by omega), if_pos ⟨a, b⟩]; omega
    · rw [if_pos (show q.1.lo < ((m + 1 : Nat) : Int) by omega), if_pos (show q.1.hi < ((m + 1 : Nat) : Int) by omega), if_neg (fun z => b z.2)]; omega
    · rw [if_neg (show ¬ q.1.lo < ((m + 1 : Nat) : Int) by omega), if_neg (show ¬ q.1.hi < ((m + 1 : Nat) : Int) by omega), if_neg (fun z => a z.1)]; omega
    · omega
theorem l_heights_1 (n : Nat) (x z : D) (ps : List Int) (cs : List Cl) (hz : itsD z = some (ps.map D.int)) (hl : ps.length = cs.length) (hc : ∀ c ∈ cs, c.ok n = true) (j : J5) (u v w : Cell) (st : List Int) (hst : st.length = n + 1) :
    ∃ j' : J5, loopD lg_heights_1 lb_heights_1 (enumD 0 (cs.map Cl.d)) [.sh (.int n), .sh x, .sh z, .ol (st.map D.int), j.a, j.b, j.c, j.d, j.e, u, v, w] =
      .nx [.sh (.int n), .sh x, .sh z, .ol ((cs.zipIdx.foldl (stpH ps) st).map D.int), j'.a, j'.b, j'.c, j'.d, j'.e, u, v, w] := by
  rw [enumD_enc]
  refine (loop_fold (J := J5) lg_heights_1 lb_heights_1 (enumE Cl.d) (fun st' j' => [.sh (.int n), .sh x, .sh z, .ol (st'.map D.int), j'.a, j'.b, j'.c, j'.d, j'.e, u, v, w]) (stpH ps) (fun st => st.length = n + 1) (cs.zipIdx 0) st j (fun st' j' q hq hs => ⟨?_, by simp [stpH, addAt_len, hs]⟩) hst).1
  obtain ⟨h1, h2, h3, _, h4⟩ := mem_zipIdx_ok hc hq
  obtain ⟨c, k⟩ := q
  simp only at h1 h2 h3 h4
  have ip := ixs z ps hz k (by omega) (by omega)
  have a1 := augIxAdd 3 (vVar 5) (vQ (qOp oIx (qVar 2) (qVar 4))) [.sh (.int n), .sh x, .sh z, .ol (st'.map D.int), .sh (.int k), .sh (.int c.lo), .sh (.int c.hi), .sh (.int c.mn), .sh (.int c.mx), u, v, w] st' c.lo (gI ps k) rfl (by simp) (by simp [ip]) h1 (by omega)
  have a2 := augIxSub 3 (vVar 6) (vQ (qOp oIx (qVar 2) (qVar 4))) [.sh (.int n), .sh x, .sh z, .ol ((addAt st' c.lo (gI ps k)).map D.int), .sh (.int k), .sh (.int c.lo), .sh (.int c.hi), .sh (.int c.mn), .sh (.int c.mx), u, v, w] (addAt st' c.lo (gI ps k)) c.hi (gI ps k) rfl (by simp) (by simp [ip]) (by omega) (by rw [addAt_len]; omega)
  simp [turnL_eq, lg_heights_1, lb_heights_1, Cl.d, a1, a2, stpH]
theorem take_sum_succ (st : List Int) (i : Nat) (h : i < st.length) : (st.take (i + 1)).sum = (st.take i).sum + gI st i := by
  rw [List.take_add_one, List.sum_append]
  simp [gI, h, List.getD]
theorem l_heights_2 (n : Nat) (x z : D) (st : List Int) (hst : st.length = n + 1) (hn : n ≤ 1000) (j : J5) (w : Cell) :
    ∃ v w', loopD lg_heights_2 lb_heights_2 ((List.range n).map natE) [.sh (.int n), .sh x, .sh z, .ol (st.map D.int), j.a, j.b, j.c, j.d, j.e, .ol [], .sh (.int 0), w] =
      .nx [.sh (.int n), .sh x, .sh z, .ol (st.map D.int), j.a, j.b, j.c, j.d, j.e, .ol (((List.range n).map fun (i : Nat) => (st.take (i + 1)).sum).map D.int), v, w'] := by
  obtain ⟨⟨b, c⟩, e, hb⟩ := loop_inv lg_heights_2 lb_heights_2 natE (fun (b : Nat × Cell) => [.sh (.int n), .sh x, .sh z, .ol (st.map D.int), j.a, j.b, j.c, j.d, j.e, .ol (((List.range b.1).map fun (i : Nat) => (st.take (i + 1)).sum).map D.int), .sh (.int (st.take b.1).sum), b.2])
    (fun i b => b.1 = i) (List.range n) 0 (0, w) (fun b i y hy hb => by
      obtain ⟨b, c⟩ := b
      simp only at hb
      have hi := (List.getElem?_eq_some_iff.mp hy).1
      rw [List.getElem?_range (by simpa using hi)] at hy
      cases hy
      simp at hi hb
      subst hb
      refine ⟨(b + 1, .sh (.int b)), ?_, by simp⟩
      have ix := ix_ol st b (by omega) (by omega)
      have sm := take_sum_succ st b (by omega)
      have pl : b < 16777216 := by omega
      simp only [sm, List.range_succ]
      simp [turnL_eq, lg_heights_2, lb_heights_2, ix, pl, sm]) rfl
  simp at hb
  subst hb
  simp only [List.range_zero, List.map_nil, List.take_zero, List.sum_nil, List.length_range] at e
  exact ⟨_, _, e⟩
theorem oRepL_eq (ds : List D) (i : Int) : oRepL (.sh (.lst ds)) (.sh (.int i)) = if i < 16777216 ∧ -16777216 ≤ i ∧ ds.length * i.toNat ≤ 16777216 then some (.ol (List.replicate i.toNat ds).flatten) else none := rfl
theorem rep_one (d : D) (n : Nat) (hn : n ≤ 1000) : oRepL (.sh (.lst [d])) (.sh (.int (n : Int))) = some (.ol (List.replicate n d)) := by
  have h1 : (n : Int) < 16777216 := by omega
  have h2 : (-16777216 : Int) ≤ (n : Int) := by omega
  have h3 : [d].length * (n : Int).toNat ≤ 16777216 := by
    rw [List.length_singleton, Int.toNat_natCast]
    omega
  rw [oRepL_eq, if_pos ⟨h1, h2, h3⟩, Int.toNat_natCast]
  congr 2
  clear h1 h2 h3 hn
  induction n with
  | zero => rfl
  | succ n ih => rw [List.replicate_succ, List.flatten_cons, ih, List.replicate_succ]; rfl
theorem rep0 (n : Nat) (hn : n ≤ 1000) : oRepL (.sh (.lst [.int 0])) (.sh (.int (n : Int))) = some (.ol ((List.replicate n (0 : Int)).map D.int)) := by
  rw [rep_one _ n hn, List.map_replicate]
def hts (n : Nat) (ps : List Int) (cs : List Cl) : List Int := (List.range n).map fun (i : Nat) => rs ps cs i
theorem q_heights (n : Nat) (x z : D) (cs : List Cl) (ps : List Int) (hx : itsD x = some (cs.map Cl.d)) (hz : itsD z = some (ps.map D.int)) (hn : n ≤ 100) (hl : ps.length = cs.length) (hl2 : cs.length ≤ 1000) (hc : ∀ c ∈ cs, c.ok n = true) :
    f_heights [.sh (.int n), .sh x, .sh z] = .ok (.ol ((hts n ps cs).map D.int)) [.sh (.int n), .sh x, .sh z] := by
  have e1 := q_check_claims n x cs hx hc
  have hle := oLen_its hx
  have e2 := q_check_numbers_int z ps cs.length hz (by omega)
  rw [hl, if_pos rfl] at e2
  have rp := rep0 (n + 1) (by omega)
  have en : ((n + 1 : Nat) : Int) = (n : Int) + 1 := by omega
  rw [en] at rp
  obtain ⟨j, el⟩ := l_heights_1 n x z ps cs hz hl hc ⟨.un, .un, .un, .un, .un⟩ .un .un .un (List.replicate (n + 1) 0) (by simp)
  have ln : (cs.zipIdx.foldl (stpH ps) (List.replicate (n + 1) 0)).length = n + 1 := by
    have : ∀ (l : List (Cl × Nat)) (st : List Int), (l.foldl (stpH ps) st).length = st.length := by
      intro l
      induction l with
      | nil => intro st; rfl
      | cons q l ih => intro st; rw [List.foldl_cons, ih]; simp [stpH, addAt_len]
    rw [this]
    simp
  have rg := iRng1_ok (n := n) (s := [.sh (.int n), .sh x, .sh z, .ol ((cs.zipIdx.foldl (stpH ps) (List.replicate (n + 1) 0)).map D.int), j.a, j.b, j.c, j.d, j.e, .ol [], .sh (.int 0), .un]) (v := vVar 0) (by simp) (by omega)
  obtain ⟨v, w, el2⟩ := l_heights_2 n x z _ ln (by omega) j .un
  have eh : ((List.range n).map fun (i : Nat) => ((cs.zipIdx.foldl (stpH ps) (List.replicate (n + 1) 0)).take (i + 1)).sum) = hts n ps cs := by
    apply List.map_congr_left
    intro i hi
    have hi := List.mem_range.mp hi
    rw [stpH_fold ps n i (by omega) _ _ (by simp) (fun q hq => by
      have z := mem_zipIdx_ok hc hq
      exact ⟨z.1, z.2.1, z.2.2.1⟩)]
    have : ((List.replicate (n + 1) (0 : Int)).take (i + 1)).sum = 0 := by
      rw [List.take_replicate]
      simp
    rw [this, Int.zero_add]
    rfl
  rw [eh] at el2
  simp only at el el2
  rw [u_heights]
  unfold d_heights
  simp only [List.length_map] at hle
  generalize hS : (cs.zipIdx.foldl (stpH ps) (List.replicate (n + 1) 0)) = S at *
  generalize hR : (List.replicate (n + 1) (0 : Int)).map D.int = R at *
  generalize hH : hts n ps cs = H at *
  simp [-List.map_replicate, e1, hle, e2, rp, hx, el, rg, el2]
end VH
end
section
set_option maxHeartbeats 2000000
set_option maxRecDepth 100000
namespace VH
open PySem VL
/-! what all laws share -/
theorem mod_ok (a b : Int) (h : 0 < b) : oMod (.sh (.int a)) (.sh (.int b)) = some (.int (a % b)) := by
  have e : bMod a b = true := decide_eq_true h
  show (if bMod a b = true then some (D.int (a % b)) else none) = _
  rw [if_pos e]
theorem div_ok (a b : Int) (h : 0 < b) (h2 : b ≤ 1000) : oDiv (.sh (.int a)) (.sh (.int b)) = some (.int (a / b)) := by
  have e : bDiv a b = true := by
    unfold bDiv
    rw [Bool.and_eq_true]
    exact ⟨decide_eq_true h, decide_eq_true (by omega)⟩
  show (if bDiv a b = true then some (D.int (a / b)) else none) = _
  rw [if_pos e]
theorem mul_ok (a b : Int) (h0 : 0 ≤ a) (h1 : a < 2000000000000000000) : oMul (.sh (.int a)) (.sh (.int b)) = some (.int (a * b)) := by
  have e : bMul a b = true := by
    unfold bMul
    rw [Bool.or_eq_true, Bool.and_eq_true]
    exact .inl ⟨decide_eq_true (by omega), decide_eq_true (by omega)⟩
  show (if bMul a b = true then some (D.int (a * b)) else none) = _
  rw [if_pos e]
theorem sIx_nn (n : Nat) (d : Nat) (i : Int) (h : 0 ≤ i) : HT.sIx n d (some i) = min i.toNat n := by
  unfold HT.sIx
  simp only
  split <;> omega
theorem cut_both (ds : List D) (a b : Int) (ha : 0 ≤ a) (hb : 0 ≤ b) : cutD ds (some a) (some b) = (ds.take b.toNat).drop a.toNat := by
  unfold cutD
  rw [sIx_nn _ _ _ ha, sIx_nn _ _ _ hb]
  rw [← List.drop_take]
  apply List.ext_getElem?
  intro i
  simp only [List.getElem?_drop, List.getElem?_take]
  by_cases h1 : a.toNat ≤ ds.length
  · rw [show min a.toNat ds.length = a.toNat by omega]
    by_cases h2 : a.toNat + i < min b.toNat ds.length
    · rw [if_pos h2, if_pos (by omega)]
    · rw [if_neg h2]
      split
      · rw [List.getElem?_eq_none (by omega)]
      · rfl
  · rw [show min a.toNat ds.length = ds.length by omega, if_neg (by omega)]
    split
    · rw [List.getElem?_eq_none (by omega)]
    · rfl
theorem cut_to (ds : List D) (b : Int) (hb : 0 ≤ b) : cutD ds none (some b) = ds.take b.toNat := by
  unfold cutD
  rw [sIx_nn _ _ _ hb]
  show (ds.drop 0).take (min b.toNat ds.length - 0) = _
  rw [List.drop_zero, Nat.sub_zero]
  rcases Nat.le_total b.toNat ds.length with h | h
  · rw [Nat.min_eq_left h]
  · rw [Nat.min_eq_right h, List.take_of_length_le (Nat.le_refl _), List.take_of_length_le h]
theorem cut_from (ds : List D) (a : Int) (ha : 0 ≤ a) : cutD ds (some a) none = ds.drop a.toNat := by
  unfold cutD
  rw [sIx_nn _ _ _ ha]
  show (ds.drop (min a.toNat ds.length)).take (ds.length - min a.toNat ds.length) = _
  rw [List.take_of_length_le (by simp)]
  rcases Nat.le_total a.toNat ds.length with h | h
  · rw [Nat.min_eq_left h]
  · rw [Nat.min_eq_right h, List.drop_length, List.drop_of_length_le h]
/-- a slice of ints sums up to seg -/
theorem seg_slice (ns : List Int) (a b : Int) (h : a ≤ b) (ha : 0 ≤ a) : ((ns.take b.toNat).drop a.toNat).sum = seg ns a b := by
  unfold seg
  have e : (ns.take b.toNat).sum = ((ns.take b.toNat).take a.toNat).sum + ((ns.take b.toNat).drop a.toNat).sum := by
    rw [← List.sum_append, List.take_append_drop]
  rw [List.take_take, Nat.min_eq_left (by omega)] at e
  omega
theorem sl_lst (ds : List D) (lo hi : Option Int) : oSl (.sh (.lst ds)) lo hi = some (.ol (cutD ds lo hi)) := rfl
theorem sl_tup (ds : List D) (lo hi : Option Int) : oSl (.sh (.tup ds)) lo hi = some (.sh (.tup (cutD ds lo hi))) := rfl
theorem sl_ol (ds : List D) (lo hi : Option Int) : oSl (.ol ds) lo hi = some (.ol (cutD ds lo hi)) := rfl
theorem sl_bl (ds : List D) (lo hi : Option Int) : oSl (.bl ds) lo hi = some (.ol (cutD ds lo hi)) := rfl
theorem a_cSlN (i : Nat) (dl dh : DB) (s : List Cell) (c : Cell) (hs : s[i]? = some c) (hc : c ≠ .un) (l h : Option Int) (hl : dl s = .ok l s) (hh : dh s = .ok h s) : cSlN i dl dh s = optO (oSl c l h) s := by
  unfold cSlN
  rw [hs]
  cases c <;> first | exact absurd rfl hc | simp [hl, hh, hs]
/-- sum(row[a:b]) -/
theorem sum_slice {s : List Cell} {i : Nat} {x : D} {ns : List Int} {a b : Int} {u v : DV} (hs : s[i]? = some (.sh x)) (hx : itsD x = some (ns.map D.int)) (hu : u s = .ok (.int a) s) (hv : v s = .ok (.int b) s) (h0 : 0 ≤ a) (h1 : a ≤ b) :
    ∃ c y, cSlN i (bSome u) (bSome v) s = .ok c s ∧ frzD c = some y ∧ oSum (.sh y) = some (.int (seg ns a b)) := by
  have e := a_cSlN i (bSome u) (bSome v) s _ hs (by simp) (some a) (some b) (by simp [hu]) (by simp [hv])
  have z := o_sumI ((ns.take b.toNat).drop a.toNat)
  have z2 := o_sumT ((ns.take b.toNat).drop a.toNat)
  rw [seg_slice ns a b h1 h0] at z z2
  cases x with
  | lst l =>
    cases hx
    rw [sl_lst, cut_both _ _ _ h0 (by omega), ← List.map_take, ← List.map_drop] at e
    exact ⟨_, _, e, rfl, z⟩
  | tup l =>
    cases hx
    rw [sl_tup, cut_both _ _ _ h0 (by omega), ← List.map_take, ← List.map_drop] at e
    exact ⟨_, _, e, rfl, z2⟩
  | _ => cases hx
theorem l_stream_2 (u : Cell) (at_ ce : Cell) (ps : List Int) (r : Int) (w : Cell) (hp : ps.length ≤ 4000) :
    ∃ (ps' : List Int) (r' : Int) (w' : Cell), loopD lg__law_stream_2 lb__law_stream_2 ((List.range 60).map natE) [u, .ol (ps.map D.int), at_, ce, .sh (.int r), w] = .nx [u, .ol (ps'.map D.int), at_, ce, .sh (.int r'), w'] ∧ ps'.length ≤ ps.length + 60 := by
  obtain ⟨⟨ps', r', w'⟩, m, hm, e, h1, h2⟩ := loop_inv_bk lg__law_stream_2 lb__law_stream_2 natE (fun (b : List Int × Int × Cell) => [u, .ol (b.1.map D.int), at_, ce, .sh (.int b.2.1), b.2.2]) (fun i b => b.1.length = ps.length + i ∧ i ≤ 60) (List.range 60) 0 (ps, r, w) (fun b i x hx hb => by
    obtain ⟨ps', r', w'⟩ := b
    simp only [Nat.zero_add] at hb ⊢
    have hi := (List.getElem?_eq_some_iff.mp hx).1
    simp at hi
    have len : ps'.length < 16777216 := by omega
    have m1 := mod_ok r' 100 (by omega)
    have m2 := div_ok r' 100 (by omega) (by omega)
    refine ⟨(ps' ++ [r' % 100], r' / 100, .sh (.int x)), ?_, by simp; omega⟩
    by_cases h : r' / 100 = 0
    · right
      simp [turnL_eq, lg__law_stream_2, lb__law_stream_2, len, m1, m2, h]
    · left
      simp [turnL_eq, lg__law_stream_2, lb__law_stream_2, len, m1, m2, h]) ⟨by simp, by omega⟩
  exact ⟨ps', r', w', e, by simp only at h1 hm; simp at hm; omega⟩
theorem l_stream_1 (u : Cell) (ns : List Int) (hn : ns.length ≤ 63) : ∃ (ps : List Int) (j : J4), loopD lg__law_stream_1 lb__law_stream_1 (enumD 0 (ns.map D.int)) [u, .ol [], .un, .un, .un, .un] = .nx [u, .ol (ps.map D.int), j.a, j.b, j.c, j.d] := by
  rw [enumD_enc]
  obtain ⟨⟨ps, j⟩, e, _⟩ := loop_inv lg__law_stream_1 lb__law_stream_1 (enumE D.int) (fun (b : List Int × J4) => [u, .ol (b.1.map D.int), b.2.a, b.2.b, b.2.c, b.2.d]) (fun i b => b.1.length ≤ 60 * i) ns.zipIdx 0 ([], ⟨.un, .un, .un, .un⟩) (fun b i x hx hb => by
    obtain ⟨ps, j⟩ := b
    obtain ⟨n, k⟩ := x
    simp only [Nat.zero_add] at hb ⊢
    have hi := (List.getElem?_eq_some_iff.mp hx).1
    simp at hi
    have rg : ∀ (s : List Cell), iRng1 (vQ (qC (.int 60))) s = .ok ((List.range 60).map natE) s := fun s => iRng1_ok (n := 60) (by simp) (by omega)
    by_cases h : (if n < 0 then -n else n) < 1000000000000000000
    · have h0 : 0 ≤ (if n < 0 then -n else n) := by split <;> omega
      generalize hr : (if n < 0 then -n else n) = r at *
      have m0 : oMul (.sh (.int 2)) (.sh (.int k)) = some (.int (2 * k)) := mul_ok 2 _ (by omega) (by omega)
      have m1 := mul_ok r (6364136223846793005 + 2 * (k : Int) + (if n < 0 then 1 else 0)) h0 (by omega)
      have m2 := mod_ok (r * (6364136223846793005 + 2 * (k : Int) + (if n < 0 then 1 else 0))) 1000000000000000003 (by omega)
      generalize hx1 : (r * (6364136223846793005 + 2 * (k : Int) + (if n < 0 then 1 else 0))) = x1 at *
      have b1 := Int.emod_nonneg x1 (b := 1000000000000000003) (by omega)
      have b2 := Int.emod_lt_of_pos x1 (b := 1000000000000000003) (by omega)
      generalize hx2 : x1 % 1000000000000000003 = x2 at *
      have m3 := mul_ok x2 (x2 + 1442695040888963407) b1 (by omega)
      have m4 := mod_ok (x2 * (x2 + 1442695040888963407)) 1000000000000000009 (by omega)
      obtain ⟨ps', r', w', e, hl⟩ := l_stream_2 u (.sh (.int k)) (.sh (.int n)) ps (x2 * (x2 + 1442695040888963407) % 1000000000000000009) j.d (by omega)
      refine ⟨(ps', ⟨.sh (.int k), .sh (.int n), .sh (.int r'), w'⟩), ?_, by simp only; omega⟩
      simp [turnL_eq, lg__law_stream_1, lb__law_stream_1, hr, h, m0, m1, m2, m3, m4, rg, e]
    · obtain ⟨ps', r', w', e, hl⟩ := l_stream_2 u (.sh (.int k)) (.sh (.int n)) ps (if n < 0 then -n else n) j.d (by omega)
      refine ⟨(ps', ⟨.sh (.int k), .sh (.int n), .sh (.int r'), w'⟩), ?_, by simp only; omega⟩
      simp [turnL_eq, lg__law_stream_1, lb__law_stream_1, h, rg, e]) (by simp)
  exact ⟨ps, j, by simpa using e⟩
theorem q_stream (ns : List Int) : ∃ ps : List Int, f__law_stream [.bl (ns.map D.int)] = .ok (.ol (ps.map D.int)) [.bl (ns.map D.int)] := by
  obtain ⟨ps, j, e⟩ := l_stream_1 (.bl (ns.map D.int)) (ns.take 63) (by simp; omega)
  have sl := a_cSlN 0 bNone (bSome (vQ (qC (.int 63)))) [.bl (ns.map D.int), .ol [], .un, .un, .un, .un] _ rfl (by simp) none (some 63) (by simp) (by simp)
  rw [sl_bl, cut_to _ _ (by omega), ← List.map_take] at sl
  refine ⟨ps.reverse, ?_⟩
  rw [u__law_stream]
  unfold d__law_stream
  simp only [show (63 : Int).toNat = 63 from rfl] at sl
  simp [sl, -List.map_take, e]
/-- a drawn number -/
theorem q_draw (ps : List Int) (m : Int) (hm : 0 < m) : ∃ (v : Int) (qs : List Int), f__law_draw [.ol (ps.map D.int), .sh (.int m)] = .ok (.sh (.int v)) [.ol (qs.map D.int), .sh (.int m)] ∧ 0 ≤ v ∧ v < m := by
  rw [u__law_draw]
  unfold d__law_draw
  cases hp : ps.reverse with
  | nil =>
    have : ps = [] := by simpa using hp
    subst this
    exact ⟨0, [], by simp, by omega, hm⟩
  | cons p qs =>
    have : ps = qs.reverse ++ [p] := by rw [← List.reverse_reverse ps, hp]; simp
    subst this
    have mo := mod_ok p m hm
    have ne : ¬ ((qs.length : Int) + 1 = 0) := by omega
    exact ⟨p % m, qs.reverse, by simp [mo, ne], Int.emod_nonneg _ (by omega), Int.emod_lt_of_pos _ hm⟩
@[simp] theorem q_is_int (i : Int) : f__law_is_integer [.sh (.int i)] = .ok (.sh (.bl true)) [.sh (.int i)] := (rfl)
@[simp] theorem q_says (a b : Bool) : f__law_says [.sh (.bl a), .sh (.bl b)] = .ok (.sh (.bl (decide (a = b)))) [.sh (.bl a), .sh (.bl b)] := by
  cases a <;> cases b <;> rfl
end VH
end
section
set_option maxHeartbeats 4000000
set_option maxRecDepth 100000
namespace VH
open PySem VL
theorem pat_cons {n : Int} {ns : List Int} (h : pat (n :: ns) = true) : (n = 0 ∨ n = 1) ∧ pat ns = true := by
  unfold pat at h ⊢
  simpa using h
theorem pat_sum_nonneg : ∀ {ns : List Int}, pat ns = true → 0 ≤ ns.sum ∧ ns.sum ≤ ns.length
  | [], _ => by simp
  | n :: ns, h => by
    obtain ⟨h1, h2⟩ := pat_cons h
    have z := pat_sum_nonneg h2
    simp only [List.sum_cons, List.length_cons]
    omega
theorem pat_sub {ns ms : List Int} (h : pat ns = true) (hs : ∀ x ∈ ms, x ∈ ns) : pat ms = true := by
  unfold pat at h ⊢
  rw [List.all_eq_true] at h ⊢
  exact fun x hx => h x (hs x hx)
theorem seg_bd {ns : List Int} (h : pat ns = true) {a b : Int} (h0 : 0 ≤ a) (h1 : a ≤ b) : 0 ≤ seg ns a b ∧ seg ns a b ≤ b - a := by
  have e := seg_slice ns a b h1 h0
  have p : pat ((ns.take b.toNat).drop a.toNat) = true := pat_sub h fun x hx => List.mem_of_mem_take (List.mem_of_mem_drop hx)
  have z := pat_sum_nonneg p
  rw [e] at z
  simp at z
  omega
theorem q_claim (ps : List Int) (n : Nat) (ns : List Int) (st : Int) (hn : 0 < n) (hp : pat ns = true) (hst : 0 < st) : ∃ (c : Cl) (qs : List Int), f__law_claim [.ol (ps.map D.int), .sh (.int n), .sh (.lst (ns.map D.int)), .sh (.int st)] = .ok (.sh c.d) [.ol (qs.map D.int), .sh (.int n), .sh (.lst (ns.map D.int)), .sh (.int st)] ∧ c.ok n = true ∧ (st ≤ 7 → c.fits ns = true) := by
  obtain ⟨lo, p1, e1, l0, l1⟩ := q_draw ps n (by omega)
  obtain ⟨d1, p2, e2, d10, d11⟩ := q_draw p1 (n - lo) (by omega)
  obtain ⟨cL, yL, o1, o3, o2⟩ := sum_slice (s := [.ol (p2.map D.int), .sh (.int n), .sh (.lst (ns.map D.int)), .sh (.int st), .sh (.int lo), .sh (.int (lo + 1 + d1)), .un, .un, .un]) (i := 2) (ns := ns) (a := lo) (b := lo + 1 + d1) (u := vVar 4) (v := vVar 5) rfl rfl (by simp) (by simp) l0 (by omega)
  have sb := seg_bd hp (a := lo) (b := lo + 1 + d1) l0 (by omega)
  obtain ⟨sy, p3, e3, s0, s1⟩ := q_draw p2 st hst
  have hok : ∀ a b, a ≤ b → Cl.ok n ⟨lo, lo + 1 + d1, a, b⟩ = true := fun a b h => by
    unfold Cl.ok
    simp only [Bool.and_eq_true]
    exact ⟨decide_eq_true (by omega), decide_eq_true (by omega), decide_eq_true (by omega), decide_eq_true h⟩
  have hfit : ∀ a b, a ≤ seg ns lo (lo + 1 + d1) → seg ns lo (lo + 1 + d1) ≤ b → Cl.fits ns ⟨lo, lo + 1 + d1, a, b⟩ = true := fun a b h1 h2 => (fits_iff _ _).mpr ⟨h1, h2⟩
  rw [u__law_claim]
  unfold d__law_claim
  generalize hO : seg ns lo (lo + 1 + d1) = O at *
  by_cases c1 : sy < 4
  · refine ⟨⟨lo, lo + 1 + d1, O, O⟩, p3, ?_, hok _ _ (by omega), fun _ => hfit _ _ (by omega) (by omega)⟩
    simp [e1, e2, o1, o3, o2, e3, c1, Cl.d]
  · by_cases c2 : sy = 4
    · obtain ⟨x, p4, e4, x0, x1⟩ := q_draw p3 3 (by omega)
      obtain ⟨y, p5, e5, y0, y1⟩ := q_draw p4 2 (by omega)
      refine ⟨⟨lo, lo + 1 + d1, O - x, O + y⟩, p5, ?_, hok _ _ (by omega), fun _ => hfit _ _ (by omega) (by omega)⟩
      simp [e1, e2, o1, o3, o2, e3, c2, Cl.d, e4, e5]
    · by_cases c3 : sy = 5
      · obtain ⟨x, p4, e4, x0, x1⟩ := q_draw p3 2 (by omega)
        refine ⟨⟨lo, lo + 1 + d1, O, lo + 1 + d1 - lo + x⟩, p4, ?_, hok _ _ (by omega), fun _ => hfit _ _ (by omega) (by omega)⟩
        simp [e1, e2, o1, o3, o2, e3, c3, Cl.d, e4]
      · by_cases c4 : sy = 6
        · obtain ⟨x, p4, e4, x0, x1⟩ := q_draw p3 3 (by omega)
          refine ⟨⟨lo, lo + 1 + d1, -x, O⟩, p4, ?_, hok _ _ (by omega), fun _ => hfit _ _ (by omega) (by omega)⟩
          simp [e1, e2, o1, o3, o2, e3, c4, Cl.d, e4]
        · obtain ⟨x, p4, e4, x0, x1⟩ := q_draw p3 (lo + 1 + d1 - lo + 2) (by omega)
          obtain ⟨y, p5, e5, y0, y1⟩ := q_draw p4 2 (by omega)
          obtain ⟨z, p6, e6, z0, z1⟩ := q_draw p5 3 (by omega)
          refine ⟨⟨lo, lo + 1 + d1, x - y, x - y + z⟩, p6, ?_, hok _ _ (by omega), fun _ => by omega⟩
          simp [e1, e2, o1, o3, o2, e3, c1, c2, c3, c4, Cl.d, e4, e5, e6]
/-- a comprehension that draws: the stream in slot i, its own name in slot j -/
theorem draws_gen {s : List Cell} {i j : Nat} {it : DI} {ps : List Int} {α γ : Type} (enc : α → D) (enc' : γ → D) (xs : List α) (de : DV) (P : α → γ → Prop) (hs : s[i]? = some (.ol (ps.map D.int))) (hj : s[j]? = some .un ∨ ∃ d, s[j]? = some (.sh d)) (hij : i ≠ j) (hi : it s = .ok (xs.map enc) s) (hl : xs.length ≤ 16777216)
    (hd : ∀ (q : List Int) (x : α), x ∈ xs → ∃ (y : γ) (q' : List Int), de ((s.set i (.ol (q.map D.int))).set j (.sh (enc x))) = .ok (enc' y) ((s.set i (.ol (q'.map D.int))).set j (.sh (enc x))) ∧ P x y) :
    ∃ (vs : List γ) (qs : List Int), cLc [j] it (gName j) tYesD de s = .ok (.ol (vs.map enc')) (s.set i (.ol (qs.map D.int))) ∧ vs.length = xs.length ∧ ∀ v ∈ vs, ∃ x ∈ xs, P x v := by
  have li := (List.getElem?_eq_some_iff.mp hs).1
  have lj : j < s.length := by rcases hj with hj | ⟨d, hj⟩ <;> exact (List.getElem?_eq_some_iff.mp hj).1
  have si : s.set i (.ol (ps.map D.int)) = s := by
    apply List.ext_getElem?
    intro k
    by_cases h : i = k
    · subst h; rw [List.getElem?_set_self li, hs]
    · rw [List.getElem?_set_ne h]
  obtain ⟨ys, b', s', e1, e2, e3, e4⟩ := comp_inv (s := s) (s1 := s) (di := it) (dg := gName j) (vs := [j]) (de := de) enc enc' (fun (q : List Int) => (s.set i (.ol (q.map D.int))).set j .un) (fun (ys : List γ) _ => ∀ v ∈ ys, ∃ x ∈ xs, P x v) xs ps hi hl (by
    show s.set j .un = (s.set i _).set j .un
    rw [si]) (fun q ys x hx hy => by
    obtain ⟨y, q', e, v0⟩ := hd q x hx
    refine ⟨(s.set i (.ol (q.map D.int))).set j (.sh (enc x)), y, (s.set i (.ol (q'.map D.int))).set j (.sh (enc x)), q', ?_, e, ?_, fun w hw => ?_⟩
    · show some (((s.set i _).set j .un).set j _) = _
      rw [List.set_set]
    · show (((s.set i _).set j _).set j .un) = _
      rw [List.set_set]
    · rcases List.mem_append.mp hw with hw | hw
      · exact hy w hw
      · rw [List.mem_singleton] at hw
        subst hw
        exact ⟨x, hx, v0⟩) (by simp)
  refine ⟨ys, b', ?_, e4, e3⟩
  rw [e1]
  congr 1
  show s'.set j (match s[j]? with
      | some (.sh d) => .sh d
      | _ => .un) = _
  have e2 : s'.set j .un = (s.set i (.ol (b'.map D.int))).set j .un := e2
  have e5 : ∀ c : Cell, s'.set j c = (s.set i (.ol (b'.map D.int))).set j c := fun c => by
    have z : (s'.set j .un).set j c = ((s.set i (.ol (b'.map D.int))).set j .un).set j c := by rw [e2]
    rwa [List.set_set, List.set_set] at z
  rw [e5]
  apply List.ext_getElem?
  intro k
  by_cases h : j = k
  · subst h
    rw [List.getElem?_set_self (by simpa using lj), List.getElem?_set_ne hij]
    rcases hj with hj | ⟨d, hj⟩ <;> rw [hj]
  · rw [List.getElem?_set_ne h]
/-- [_law_draw(stream, m) for k in range(n)]: the stream in slot i -/
theorem draws {s : List Cell} {i j : Nat} {it : DI} {ps : List Int} {m : Int} {α : Type} (enc : α → D) (xs : List α) (hm : 0 < m) (hs : s[i]? = some (.ol (ps.map D.int))) (hj : s[j]? = some .un) (hi : it s = .ok (xs.map enc) s) (hl : xs.length ≤ 16777216) :
    ∃ (vs qs : List Int), cLc [j] it (gName j) tYesD (vC (cCall [some i, none] (asSlot i (asVal (vQ (qC (.int m))) asNil)) f__law_draw)) s = .ok (.ol (vs.map D.int)) (s.set i (.ol (qs.map D.int))) ∧ vs.length = xs.length ∧ ∀ v ∈ vs, 0 ≤ v ∧ v < m := by
  have hij : i ≠ j := fun z => by rw [z, hj] at hs; cases hs
  have li := (List.getElem?_eq_some_iff.mp hs).1
  obtain ⟨vs, qs, e, e2, e3⟩ := draws_gen enc D.int xs (vC (cCall [some i, none] (asSlot i (asVal (vQ (qC (.int m))) asNil)) f__law_draw)) (fun _ v => 0 ≤ v ∧ v < m) hs (.inl hj) hij hi hl (fun q x hx => by
    obtain ⟨v, q', e, v0, v1⟩ := q_draw q m hm
    refine ⟨v, q', ?_, v0, v1⟩
    have g1 : ((s.set i (.ol (q.map D.int))).set j (.sh (enc x)))[i]? = some (.ol (q.map D.int)) := by
      rw [List.getElem?_set_ne (fun z => hij z.symm), List.getElem?_set_self li]
    simp [g1, e]
    rw [List.set_comm _ _ (fun z => hij z.symm), List.set_set])
  exact ⟨vs, qs, e, e2, fun v hv => (e3 v hv).choose_spec.2⟩
/-- [_law_draw(stream, m) - k for ..] -/
theorem draws_sub {s : List Cell} {i j : Nat} {it : DI} {ps : List Int} {m k : Int} {α : Type} (enc : α → D) (xs : List α) (hm : 0 < m) (hs : s[i]? = some (.ol (ps.map D.int))) (hj : s[j]? = some .un) (hi : it s = .ok (xs.map enc) s) (hl : xs.length ≤ 16777216) :
    ∃ (vs qs : List Int), cLc [j] it (gName j) tYesD (vOp oSub (vC (cCall [some i, none] (asSlot i (asVal (vQ (qC (.int m))) asNil)) f__law_draw)) (vQ (qC (.int k)))) s = .ok (.ol (vs.map D.int)) (s.set i (.ol (qs.map D.int))) ∧ vs.length = xs.length ∧ ∀ v ∈ vs, -k ≤ v ∧ v < m - k := by
  have hij : i ≠ j := fun z => by rw [z, hj] at hs; cases hs
  have li := (List.getElem?_eq_some_iff.mp hs).1
  obtain ⟨vs, qs, e, e2, e3⟩ := draws_gen enc D.int xs (vOp oSub (vC (cCall [some i, none] (asSlot i (asVal (vQ (qC (.int m))) asNil)) f__law_draw)) (vQ (qC (.int k)))) (fun _ v => -k ≤ v ∧ v < m - k) hs (.inl hj) hij hi hl (fun q x hx => by
    obtain ⟨v, q', e, v0, v1⟩ := q_draw q m hm
    refine ⟨v - k, q', ?_, by omega, by omega⟩
    have g1 : ((s.set i (.ol (q.map D.int))).set j (.sh (enc x)))[i]? = some (.ol (q.map D.int)) := by
      rw [List.getElem?_set_ne (fun z => hij z.symm), List.getElem?_set_self li]
    simp [g1, e]
    rw [List.set_comm _ _ (fun z => hij z.symm), List.set_set])
  exact ⟨vs, qs, e, e2, fun v hv => (e3 v hv).choose_spec.2⟩
theorem pat_of {vs : List Int} (h : ∀ v ∈ vs, 0 ≤ v ∧ v < 2) : pat vs = true := by
  unfold pat
  rw [List.all_eq_true]
  intro v hv
  have := h v hv
  have : v = 0 ∨ v = 1 := by omega
  simpa using this
theorem q_case (ps : List Int) (st : Int) (hst : 0 < st) : ∃ (n : Nat) (ns : List Int) (cs : List Cl) (qs : List Int), f__law_case [.ol (ps.map D.int), .sh (.int st)] = .ok (.sh (.tup [.int n, .lst (ns.map D.int), .lst (cs.map Cl.d)])) [.ol (qs.map D.int), .sh (.int st)] ∧ n ≤ 7 ∧ ns.length = n ∧ pat ns = true ∧ cs.length ≤ 6 ∧
    (∀ c ∈ cs, c.ok n = true) ∧ (st ≤ 7 → ∀ c ∈ cs, c.fits ns = true) ∧ (0 < n → cs ≠ []) := by
  obtain ⟨a, p1, e1, a0, a1⟩ := q_draw ps 8 (by omega)
  have mo := mod_ok (a + 3) 8 (by omega)
  have n0 := Int.emod_nonneg (a + 3) (b := 8) (by omega)
  have n1 := Int.emod_lt_of_pos (a + 3) (b := 8) (by omega)
  generalize hn : (a + 3) % 8 = n' at *
  obtain ⟨n, rfl⟩ := Int.eq_ofNat_of_zero_le n0
  obtain ⟨ns, p2, e2, ln, hv⟩ := draws (s := [.ol (p1.map D.int), .sh (.int st), .sh (.int n), .un, .un, .un]) (i := 0) (j := 5) (it := iRng1 (vVar 2)) (m := 2) natE (List.range n) (by omega) rfl rfl (iRng1_ok (by simp) (by omega)) (by simp; omega)
  have hp := pat_of hv
  rw [List.length_range] at ln
  by_cases hz : n = 0
  · subst hz
    refine ⟨0, ns, [], p2, ?_, by omega, ln, hp, by simp, by simp, by simp, by omega⟩
    rw [u__law_case]
    unfold d__law_case
    simp at e2
    simp [e1, mo, cd__law_case_1, e2]
  · obtain ⟨b, p3, e3, b0, b1⟩ := q_draw p2 6 (by omega)
    obtain ⟨k, rfl⟩ := Int.eq_ofNat_of_zero_le b0
    obtain ⟨⟨cs, q, c3, c5⟩, el, h0, h1, h2, h3⟩ := loop_inv lg__law_case_2 lb__law_case_2 natE (fun (b : List Cl × List Int × Cell × Cell) => [.ol (b.2.1.map D.int), .sh (.int st), .sh (.int n), b.2.2.1, .ol (b.1.map Cl.d), b.2.2.2]) (fun i b => (b.2.2.1 = .ol (ns.map D.int) ∨ b.2.2.1 = .sh (.lst (ns.map D.int))) ∧ b.1.length = i ∧ (∀ c ∈ b.1, c.ok n = true) ∧ (st ≤ 7 → ∀ c ∈ b.1, c.fits ns = true)) (List.range (1 + k)) 0 ([], p3, .ol (ns.map D.int), .un) (fun b i x hx hb => by
      obtain ⟨cs, q, c3, c5⟩ := b
      obtain ⟨h0, h1, h2, h3⟩ := hb
      simp only [Nat.zero_add] at h0 h1 h2 h3 ⊢
      have hi := (List.getElem?_eq_some_iff.mp hx).1
      simp at hi
      obtain ⟨c, q', e, h4, h5⟩ := q_claim q n ns st (by omega) hp hst
      have len : cs.length < 16777216 := by omega
      refine ⟨(cs ++ [c], q', .sh (.lst (ns.map D.int)), .sh (.int x)), ?_, .inr rfl, by simp [h1], fun d hd => ?_, fun hs d hd => ?_⟩
      · rcases h0 with h0 | h0 <;> subst h0 <;> simp [turnL_eq, lg__law_case_2, lb__law_case_2, e, len]
      · rcases List.mem_append.mp hd with hd | hd
        · exact h2 d hd
        · rw [List.mem_singleton] at hd; subst hd; exact h4
      · rcases List.mem_append.mp hd with hd | hd
        · exact h3 hs d hd
        · rw [List.mem_singleton] at hd; subst hd; exact h5 hs) ⟨.inl rfl, rfl, by simp, by simp⟩
    simp only [Nat.zero_add, List.length_range] at h0 h1 h2 h3
    refine ⟨n, ns, cs, q, ?_, by omega, ln, hp, by omega, h2, h3, fun _ z => by rw [z] at h1; simp at h1; omega⟩
    have rg := iRng1_ok2 (n := 1 + k) (v := vOp oAdd (vQ (qC (.int 1))) (vC (cCall [some 0, none] (asSlot 0 (asVal (vQ (qC (.int 6))) (asNil))) f__law_draw))) (s := [.ol (p2.map D.int), .sh (.int st), .sh (.int n), .ol (ns.map D.int), .ol [], .un]) (s1 := [.ol (p3.map D.int), .sh (.int st), .sh (.int n), .ol (ns.map D.int), .ol [], .un]) (by simp [e3]) (by omega)
    rw [u__law_case]
    unfold d__law_case
    simp at e2
    have nz : 0 < n := by omega
    simp only [List.map_nil] at el
    rcases h0 with h0 | h0 <;> subst h0 <;> simp [e1, mo, cd__law_case_1, e2, nz, rg, el]
end VH
end
section
set_option maxHeartbeats 4000000
set_option maxRecDepth 100000
namespace VH
open PySem VL
/-! worth, loose places -/
def sm (ps : List Int) : Prop := ∀ p ∈ ps, -1000 ≤ p ∧ p ≤ 1000
theorem sm_gI {ps : List Int} (h : sm ps) (i : Int) : -1000 ≤ gI ps i ∧ gI ps i ≤ 1000 := by
  unfold gI
  by_cases hi : i.toNat < ps.length
  · have e : ps.getD i.toNat 0 = ps[i.toNat] := by simp [List.getD, hi]
    rw [e]
    exact h _ (List.getElem_mem hi)
  · simp [List.getD, hi]
def cw (c : Cl) (p : Int) : Int := if 0 < p then p * c.mn else p * c.mx
@[simp] theorem ix_cl0 (c : Cl) : oIx (.sh c.d) (.sh (.int 0)) = some (.int c.lo) := (rfl)
@[simp] theorem ix_cl1 (c : Cl) : oIx (.sh c.d) (.sh (.int 1)) = some (.int c.hi) := (rfl)
@[simp] theorem ix_cl2 (c : Cl) : oIx (.sh c.d) (.sh (.int 2)) = some (.int c.mn) := (rfl)
@[simp] theorem ix_cl3 (c : Cl) : oIx (.sh c.d) (.sh (.int 3)) = some (.int c.mx) := (rfl)
theorem q_claim_worth (c : Cl) (p : Int) (hp : -1000 ≤ p ∧ p ≤ 1000) : f_claim_worth [.sh c.d, .sh (.int p)] = .ok (.sh (.int (cw c p))) [.sh c.d, .sh (.int p)] := by
  have m1 := mul_sm p c.mn (.inl hp)
  have m2 := mul_sm p c.mx (.inl hp)
  rw [u_claim_worth]
  unfold d_claim_worth
  by_cases h : 0 < p
  · simp [h, m1, cw]
  · simp [h, m2, cw]
def gained (ps : List Int) (cs : List Cl) : Int := (cs.zipIdx.map fun q => cw q.1 (gI ps q.2)).sum
def lost (n : Nat) (ws ps : List Int) (cs : List Cl) : Int := ((List.range n).map fun (i : Nat) => max 0 (rs ps cs i - gI ws i)).sum
def wth (n : Nat) (ws ps : List Int) (cs : List Cl) : Int := gained ps cs - lost n ws ps cs
theorem hts_len (n : Nat) (ps : List Int) (cs : List Cl) : (hts n ps cs).length = n := by simp [hts]
theorem hts_gI (n : Nat) (ps : List Int) (cs : List Cl) (i : Nat) (h : i < n) : gI (hts n ps cs) i = rs ps cs i := by
  rw [gI_nat _ _ (by rw [hts_len]; exact h)]
  simp [hts]
theorem q_heights_bad (n : Nat) (x z : D) (cs : List Cl) (zs : List D) (hx : itsD x = some (cs.map Cl.d)) (hz : itsD z = some zs) (hl : zs.length ≤ 1000) (hn : zs.all noIns = true) (hb : numOk zs cs.length = false) (hc : ∀ c ∈ cs, c.ok n = true) :
    f_heights [.sh (.int n), .sh x, .sh z] = .ex ⟨7, [], []⟩ [.sh (.int n), .sh x, .sh z] := by
  have e1 := q_check_claims n x cs hx hc
  have hle := oLen_its hx
  rw [List.length_map] at hle
  have e2 := q_check_numbers z zs cs.length hz (by omega) hn
  rw [hb] at e2
  rw [u_heights]
  unfold d_heights
  simp [e1, hle, e2]
structure WOk (n : Nat) (x y z : D) (cs : List Cl) (ws ps : List Int) : Prop where
  hx : itsD x = some (cs.map Cl.d)
  hy : itsD y = some (ws.map D.int)
  hz : itsD z = some (ps.map D.int)
  hn : n ≤ 100
  hw : ws.length = n
  hl : ps.length = cs.length
  hl2 : cs.length ≤ 100
  hp : sm ps
  hc : ∀ c ∈ cs, c.ok n = true
theorem q_worth {n : Nat} {x y z : D} {cs : List Cl} {ws ps : List Int} (h : WOk n x y z cs ws ps) :
    f_worth [.sh (.int n), .sh x, .sh y, .sh z] = .ok (.sh (.int (wth n ws ps cs))) [.sh (.int n), .sh x, .sh y, .sh z] := by
  have e1 := q_heights n x z cs ps h.hx h.hz h.hn h.hl (by have := h.hl2; omega) h.hc
  have e2 := q_check_numbers_int y ws n h.hy (by have := h.hn; have := h.hw; omega)
  rw [h.hw, if_pos rfl] at e2
  have lc1 : cd_worth_1 [.sh (.int n), .sh x, .sh y, .sh z, .sh (.lst ((hts n ps cs).map D.int)), .un, .un, .un, .un, .un] = .ok (.ol ((cs.zipIdx.map fun q => cw q.1 (gI ps q.2)).map D.int)) [.sh (.int n), .sh x, .sh y, .sh z, .sh (.lst ((hts n ps cs).map D.int)), .un, .un, .un, .un, .un] := by
    refine comp_map (enumE Cl.d) D.int cs.zipIdx _ (by simp [h.hx, enumD_enc]) (by simp; have := h.hl2; omega) (by simp) (fun q hq => ?_)
    obtain ⟨h1, h2, h3, _, h4⟩ := mem_zipIdx_ok h.hc hq
    obtain ⟨c, k⟩ := q
    refine ⟨[.sh (.int n), .sh x, .sh y, .sh z, .sh (.lst ((hts n ps cs).map D.int)), .un, .un, .sh (.int k), .sh c.d, .un], [.sh (.int n), .sh x, .sh y, .sh z, .sh (.lst ((hts n ps cs).map D.int)), .un, .un, .sh (.int k), .sh c.d, .un], rfl, ?_, rfl⟩
    have ip := ixs z ps h.hz k (by omega) (by simp only at h4; have := h.hl; omega)
    have e := q_claim_worth c (gI ps k) (sm_gI h.hp k)
    simp [ip, e]
  have lc2 : ∀ g, cd_worth_2 [.sh (.int n), .sh x, .sh y, .sh z, .sh (.lst ((hts n ps cs).map D.int)), .sh (.int g), .un, .un, .un, .un] = .ok (.ol (((List.range n).map fun (i : Nat) => max 0 (rs ps cs i - gI ws i)).map D.int)) [.sh (.int n), .sh x, .sh y, .sh z, .sh (.lst ((hts n ps cs).map D.int)), .sh (.int g), .un, .un, .un, .un] := by
    intro g
    refine comp_range n (by have := h.hn; omega) D.int _ (by simp) (by simp) (fun i hi => ?_)
    refine ⟨[.sh (.int n), .sh x, .sh y, .sh z, .sh (.lst ((hts n ps cs).map D.int)), .sh (.int g), .un, .un, .un, .sh (.int i)], [.sh (.int n), .sh x, .sh y, .sh z, .sh (.lst ((hts n ps cs).map D.int)), .sh (.int g), .un, .un, .un, .sh (.int i)], rfl, ?_, rfl⟩
    have i1 := ix_sh (hts n ps cs) i (by omega) (by rw [hts_len]; omega)
    rw [hts_gI n ps cs i hi] at i1
    have i2 := ixs y ws h.hy i (by omega) (by have := h.hw; omega)
    simp [i1, i2]
  have s1 := o_sumI (cs.zipIdx.map fun q => cw q.1 (gI ps q.2))
  have s2 := o_sumI ((List.range n).map fun (i : Nat) => max 0 (rs ps cs i - gI ws i))
  rw [u_worth]
  unfold d_worth
  simp [e1, e2, lc1, lc2, -List.map_map, s1, s2, wth, gained, lost]
theorem q_worth_badp (n : Nat) (x y z : D) (cs : List Cl) (zs : List D) (hx : itsD x = some (cs.map Cl.d)) (hz : itsD z = some zs) (hl : zs.length ≤ 1000) (hn : zs.all noIns = true) (hb : numOk zs cs.length = false) (hc : ∀ c ∈ cs, c.ok n = true) :
    f_worth [.sh (.int n), .sh x, .sh y, .sh z] = .ex ⟨7, [], []⟩ [.sh (.int n), .sh x, .sh y, .sh z] := by
  have e1 := q_heights_bad n x z cs zs hx hz hl hn hb hc
  rw [u_worth]
  unfold d_worth
  simp [e1]
theorem q_worth_badw (n : Nat) (x y z : D) (cs : List Cl) (ws : List D) (ps : List Int) (hx : itsD x = some (cs.map Cl.d)) (hy : itsD y = some ws) (hz : itsD z = some (ps.map D.int)) (hn : n ≤ 100) (hl : ps.length = cs.length) (hl2 : cs.length ≤ 100) (hc : ∀ c ∈ cs, c.ok n = true)
    (hws : ws.length ≤ 1000) (hni : ws.all noIns = true) (hb : numOk ws n = false) :
    f_worth [.sh (.int n), .sh x, .sh y, .sh z] = .ex ⟨7, [], []⟩ [.sh (.int n), .sh x, .sh y, .sh z] := by
  have e1 := q_heights n x z cs ps hx hz hn hl (by omega) hc
  have e2 := q_check_numbers y ws n hy (by omega) hni
  rw [hb] at e2
  rw [u_worth]
  unfold d_worth
  simp [e1, e2]
theorem q_is_pattern_int (n : Int) (x : D) (ns : List Int) (hx : itsD x = some (ns.map D.int)) (hl : ns.length ≤ 1000) : f_is_pattern [.sh (.int n), .sh x] = .ok (.sh (.bl (decide ((ns.length : Int) = n) && pat ns))) [.sh (.int n), .sh x] := by
  have e := q_is_pattern n x _ hx (by simp; omega) (by simp)
  rw [pat_is01, List.length_map] at e
  exact e
theorem q_shows_lightest {n : Nat} {x y z u : D} {cs : List Cl} {ws ps ns : List Int} (h : WOk n x y z cs ws ps) (hu : itsD u = some (ns.map D.int)) (hl : ns.length = n) (hp : pat ns = true) :
    f_shows_lightest [.sh (.int n), .sh x, .sh y, .sh u, .sh z] = .ok (.sh (.bl (cs.all (Cl.fits ns) && decide (wth n ws ps cs = dot ws ns n)))) [.sh (.int n), .sh x, .sh y, .sh u, .sh z] := by
  have hn := h.hn
  have e1 := q_check_claims n x cs h.hx h.hc
  have e2 := q_check_numbers_int y ws n h.hy (by have := h.hw; omega)
  rw [h.hw, if_pos rfl] at e2
  have e3 := q_is_pattern_int n u ns hu (by omega)
  have e4 := q_meets x u cs ns h.hx hu (by omega) hp (by rw [hl]; exact h.hc)
  have e5 := q_worth h
  have e6 := q_pattern_weight y u ws ns h.hy hu (by rw [h.hw, hl]) (by omega) hp
  rw [hl] at e6
  have e7 : decide ((ns.length : Int) = n) = true := decide_eq_true (by omega)
  rw [hp, e7] at e3
  rw [u_shows_lightest]
  unfold d_shows_lightest
  cases hf : cs.all (Cl.fits ns) with
  | false =>
    rw [hf] at e4
    simp [e1, e2, e3, e4]
  | true =>
    rw [hf] at e4
    simp [e1, e2, e3, e4, e5, e6]
theorem q_shows_lightest_badlen (n : Nat) (x y z u : D) (cs : List Cl) (ws : List Int) (us : List D) (hx : itsD x = some (cs.map Cl.d)) (hy : itsD y = some (ws.map D.int)) (hu : itsD u = some us) (hus : us.length ≤ 1000) (hni : us.all noIns = true) (hn : n ≤ 100) (hw : ws.length = n) (hc : ∀ c ∈ cs, c.ok n = true)
    (hb : (decide ((us.length : Int) = n) && us.all is01) = false) : f_shows_lightest [.sh (.int n), .sh x, .sh y, .sh u, .sh z] = .ok (.sh (.bl false)) [.sh (.int n), .sh x, .sh y, .sh u, .sh z] := by
  have e1 := q_check_claims n x cs hx hc
  have e2 := q_check_numbers_int y ws n hy (by omega)
  rw [hw, if_pos rfl] at e2
  have e3 := q_is_pattern n u us hu (by omega) hni
  rw [hb] at e3
  rw [u_shows_lightest]
  unfold d_shows_lightest
  simp [e1, e2, e3]
theorem q_shows_lightest_badp (n : Nat) (x y z u : D) (cs : List Cl) (ws ns : List Int) (zs : List D) (hx : itsD x = some (cs.map Cl.d)) (hy : itsD y = some (ws.map D.int)) (hu : itsD u = some (ns.map D.int)) (hl : ns.length = n) (hp : pat ns = true) (hn : n ≤ 100) (hw : ws.length = n) (hc : ∀ c ∈ cs, c.ok n = true)
    (hz : itsD z = some zs) (hzl : zs.length ≤ 1000) (hzn : zs.all noIns = true) (hb : numOk zs cs.length = false) : f_shows_lightest [.sh (.int n), .sh x, .sh y, .sh u, .sh z] = .ok (.sh (.bl false)) [.sh (.int n), .sh x, .sh y, .sh u, .sh z] := by
  have e1 := q_check_claims n x cs hx hc
  have e2 := q_check_numbers_int y ws n hy (by omega)
  rw [hw, if_pos rfl] at e2
  have e3 := q_is_pattern_int n u ns hu (by omega)
  have e4 := q_meets x u cs ns hx hu (by omega) hp (by rw [hl]; exact hc)
  have e5 := q_worth_badp n x y z cs zs hx hz hzl hzn hb hc
  have e7 : decide ((ns.length : Int) = n) = true := decide_eq_true (by omega)
  rw [hp, e7] at e3
  rw [u_shows_lightest]
  unfold d_shows_lightest
  have ct : ct_BadNumbers 7 = some true := rfl
  cases hf : cs.all (Cl.fits ns) with
  | false =>
    rw [hf] at e4
    simp [e1, e2, e3, e4]
  | true =>
    rw [hf] at e4
    simp [e1, e2, e3, e4, e5, ct]
theorem q_shows_lightest_badw (n : Nat) (x y z u : D) (cs : List Cl) (ws : List D) (hx : itsD x = some (cs.map Cl.d)) (hy : itsD y = some ws) (hws : ws.length ≤ 1000) (hni : ws.all noIns = true) (hc : ∀ c ∈ cs, c.ok n = true) (hb : numOk ws n = false) :
    f_shows_lightest [.sh (.int n), .sh x, .sh y, .sh u, .sh z] = .ex ⟨7, [], []⟩ [.sh (.int n), .sh x, .sh y, .sh u, .sh z] := by
  have e1 := q_check_claims n x cs hx hc
  have e2 := q_check_numbers y ws n hy (by omega) hni
  rw [hb] at e2
  rw [u_shows_lightest]
  unfold d_shows_lightest
  simp [e1, e2]
/-! loose places -/
def offB (ps ns : List Int) (q : Cl × Nat) : Bool := (decide (0 < gI ps q.2) && !decide (seg ns q.1.lo q.1.hi = q.1.mn)) || (decide (gI ps q.2 < 0) && !decide (seg ns q.1.lo q.1.hi = q.1.mx))
def offL (ps ns : List Int) (cs : List Cl) : List Nat := (cs.zipIdx.filter (offB ps ns)).map (·.2)
def numB (ws ps ns : List Int) (cs : List Cl) (i : Nat) : Bool := (decide (gI ws i < rs ps cs i) && decide (gI ns i = 0)) || (decide (rs ps cs i < gI ws i) && decide (gI ns i = 1))
def numL (n : Nat) (ws ps ns : List Int) (cs : List Cl) : List Nat := (List.range n).filter (numB ws ps ns cs)
theorem seg_range (ns : List Int) (a b : Int) (h0 : 0 ≤ a) (h1 : a ≤ b) (h2 : b ≤ ns.length) : ((rngI a b).map (gI ns)).sum = seg ns a b := by
  rw [← seg_slice ns a b h1 h0]
  congr 1
  apply List.ext_getElem?
  intro i
  simp only [rngI, List.map_map, List.getElem?_map, List.getElem?_drop, List.getElem?_take]
  by_cases hi : i < (b - a).toNat
  · rw [List.getElem?_range hi, if_pos (by omega), List.getElem?_eq_getElem (show a.toNat + i < ns.length by omega)]
    simp only [Option.map_some, Function.comp]
    have e : a + (i : Int) = ((a.toNat + i : Nat) : Int) := by omega
    rw [e, gI_nat _ _ (by omega)]
  · rw [List.getElem?_eq_none (by simp; omega), if_neg (by omega)]
    rfl
theorem filter_take {α : Type} (p : α → Bool) (xs : List α) (i : Nat) (x : α) (h : xs[i]? = some x) : (xs.take (i + 1)).filter p = (xs.take i).filter p ++ if p x = true then [x] else [] := by
  rw [List.take_add_one, h, List.filter_append]
  by_cases hx : p x = true
  · simp [hx]
  · simp [hx]
theorem q_loose_places {n : Nat} {x y z u : D} {cs : List Cl} {ws ps ns : List Int} (h : WOk n x y z cs ws ps) (hu : itsD u = some (ns.map D.int)) (hl : ns.length = n) (hp : pat ns = true) :
    f_loose_places [.sh (.int n), .sh x, .sh y, .sh u, .sh z] = .ok (.sh (.tup [.lst ((offL ps ns cs).map natE), .lst ((numL n ws ps ns cs).map natE)])) [.sh (.int n), .sh x, .sh y, .sh u, .sh z] := by
  have hn := h.hn
  have hw := h.hw
  have hl1 := h.hl
  have hl2 := h.hl2
  have e1 := q_heights n x z cs ps h.hx h.hz h.hn h.hl (by have := h.hl2; omega) h.hc
  have e2 := q_check_numbers_int y ws n h.hy (by have := h.hw; omega)
  rw [h.hw, if_pos rfl] at e2
  have e3 := q_check_pattern n u _ hu (by simp; omega) (by simp)
  have e7 : decide (((ns.map D.int).length : Int) = n) = true := decide_eq_true (by simp; omega)
  rw [pat_is01, hp, e7] at e3
  obtain ⟨⟨off, j⟩, el, hi⟩ := loop_inv lg_loose_places_1 lb_loose_places_1 (enumE Cl.d) (fun (b : List Nat × J8) => [.sh (.int n), .sh x, .sh y, .sh u, .sh z, .sh (.lst ((hts n ps cs).map D.int)), .ol (b.1.map natE), b.2.a, b.2.b, b.2.c, b.2.d, b.2.e, b.2.f, b.2.g, b.2.h]) (fun i b => b.1 = (((cs.zipIdx).take i).filter (offB ps ns)).map (·.2) ∧ b.2.g = .un ∧ b.2.h = .un) cs.zipIdx 0 ([], ⟨.un, .un, .un, .un, .un, .un, .un, .un⟩) (fun b i q hq hb => by
    obtain ⟨off, j⟩ := b
    obtain ⟨hb, hg, hh⟩ := hb
    simp only [Nat.zero_add] at hb hg hh ⊢
    have hi := (List.getElem?_eq_some_iff.mp hq).1
    obtain ⟨h1, h2, h3, _, h4⟩ := mem_zipIdx_ok h.hc (List.mem_of_getElem? hq)
    have len : off.length < 16777216 := by
      rw [hb, List.length_map]
      have := List.length_filter_le (offB ps ns) ((cs.zipIdx).take i)
      simp at this hi
      omega
    rw [filter_take _ _ _ _ hq]
    obtain ⟨c, k⟩ := q
    simp only at h1 h2 h3 h4
    have ip := ixs z ps h.hz k (by omega) (by omega)
    have lc : cd_loose_places_2 [.sh (.int n), .sh x, .sh y, .sh u, .sh z, .sh (.lst ((hts n ps cs).map D.int)), .ol (off.map natE), .sh (.int k), .sh (.int c.lo), .sh (.int c.hi), .sh (.int c.mn), .sh (.int c.mx), j.f, .un, .un] = .ok (.ol (((rngI c.lo c.hi).map (gI ns)).map D.int)) [.sh (.int n), .sh x, .sh y, .sh u, .sh z, .sh (.lst ((hts n ps cs).map D.int)), .ol (off.map natE), .sh (.int k), .sh (.int c.lo), .sh (.int c.hi), .sh (.int c.mn), .sh (.int c.mx), j.f, .un, .un] := by
      refine comp_map D.int D.int (rngI c.lo c.hi) (gI ns) (iRng2_ok (by simp) (by simp) (by omega) (by omega) (by omega) (by omega)) (by rw [rngI_length]; omega) (by simp) (fun i hi => ?_)
      have hi := mem_rngI.mp hi
      refine ⟨[.sh (.int n), .sh x, .sh y, .sh u, .sh z, .sh (.lst ((hts n ps cs).map D.int)), .ol (off.map natE), .sh (.int k), .sh (.int c.lo), .sh (.int c.hi), .sh (.int c.mn), .sh (.int c.mx), j.f, .un, .sh (.int i)], [.sh (.int n), .sh x, .sh y, .sh u, .sh z, .sh (.lst ((hts n ps cs).map D.int)), .ol (off.map natE), .sh (.int k), .sh (.int c.lo), .sh (.int c.hi), .sh (.int c.mn), .sh (.int c.mx), j.f, .un, .sh (.int i)], rfl, ?_, rfl⟩
      have i1 := ixs u ns hu i (by omega) (by omega)
      simp [i1]
    have su := o_sumI ((rngI c.lo c.hi).map (gI ns))
    rw [seg_range ns c.lo c.hi (by omega) (by omega) (by omega)] at su
    refine ⟨(off ++ (if offB ps ns (c, k) = true then [k] else []), ⟨.sh (.int k), .sh (.int c.lo), .sh (.int c.hi), .sh (.int c.mn), .sh (.int c.mx), .sh (.int (seg ns c.lo c.hi)), .un, .un⟩), ?_, ?_, rfl, rfl⟩
    · simp only [offB, hg, hh]
      by_cases a1 : 0 < gI ps k
      · have a2 : ¬ gI ps k < 0 := by omega
        by_cases a3 : seg ns c.lo c.hi = c.mn
        · simp [turnL_eq, lg_loose_places_1, lb_loose_places_1, Cl.d, lc, -List.map_map, su, ip, a1, a2, a3]
        · simp [turnL_eq, lg_loose_places_1, lb_loose_places_1, Cl.d, lc, -List.map_map, su, ip, a1, a2, a3, len]
      · by_cases a2 : gI ps k < 0
        · by_cases a3 : seg ns c.lo c.hi = c.mx
          · simp [turnL_eq, lg_loose_places_1, lb_loose_places_1, Cl.d, lc, -List.map_map, su, ip, a1, a2, a3]
          · simp [turnL_eq, lg_loose_places_1, lb_loose_places_1, Cl.d, lc, -List.map_map, su, ip, a1, a2, a3, len]
        · simp [turnL_eq, lg_loose_places_1, lb_loose_places_1, Cl.d, lc, -List.map_map, su, ip, a1, a2]
    · rw [List.map_append, ← hb]
      simp only
      split <;> simp) ⟨rfl, rfl, rfl⟩
  obtain ⟨hi, hg, hh⟩ := hi
  simp only [Nat.zero_add, List.take_length] at hi hg hh
  have hi : off = offL ps ns cs := hi
  subst hi
  simp only [hg, hh, List.map_nil] at el
  obtain ⟨⟨num, c14⟩, el2, hi2⟩ := loop_inv lg_loose_places_3 lb_loose_places_3 natE (fun (b : List Nat × Cell) => [.sh (.int n), .sh x, .sh y, .sh u, .sh z, .sh (.lst ((hts n ps cs).map D.int)), .ol ((offL ps ns cs).map natE), j.a, j.b, j.c, j.d, j.e, j.f, .ol (b.1.map natE), b.2]) (fun i b => b.1 = ((List.range n).take i).filter (numB ws ps ns cs)) (List.range n) 0 ([], .un) (fun b i k hk hb => by
    obtain ⟨num, c14⟩ := b
    simp only [Nat.zero_add] at hb ⊢
    have hi := (List.getElem?_eq_some_iff.mp hk).1
    have len : num.length < 16777216 := by
      rw [hb]
      have := List.length_filter_le (numB ws ps ns cs) ((List.range n).take i)
      rw [List.length_take, List.length_range] at this
      omega
    rw [filter_take _ _ _ _ hk]
    have hkn : k < n := List.mem_range.mp (List.mem_of_getElem? hk)
    have i1 := ix_sh (hts n ps cs) k (by omega) (by rw [hts_len]; omega)
    rw [hts_gI n ps cs k hkn] at i1
    have i2 := ixs y ws h.hy k (by omega) (by omega)
    have i3 := ixs u ns hu k (by omega) (by omega)
    have p01 := pat_gI hp k
    refine ⟨(num ++ (if numB ws ps ns cs k = true then [k] else []), .sh (.int k)), ?_, by rw [← hb]⟩
    simp only [numB]
    by_cases a1 : gI ws k < rs ps cs k
    · have a2 : ¬ rs ps cs k < gI ws k := by omega
      by_cases a3 : gI ns k = 0
      · simp [turnL_eq, lg_loose_places_3, lb_loose_places_3, i1, i2, i3, a1, a2, a3, len]
      · simp [turnL_eq, lg_loose_places_3, lb_loose_places_3, i1, i2, i3, a1, a2, a3]
    · by_cases a2 : rs ps cs k < gI ws k
      · by_cases a3 : gI ns k = 1
        · simp [turnL_eq, lg_loose_places_3, lb_loose_places_3, i1, i2, i3, a1, a2, a3, len]
        · simp [turnL_eq, lg_loose_places_3, lb_loose_places_3, i1, i2, i3, a1, a2, a3]
      · simp [turnL_eq, lg_loose_places_3, lb_loose_places_3, i1, i2, i3, a1, a2]) rfl
  have hr : (List.range n).take (List.range n).length = List.range n := List.take_length
  simp only [Nat.zero_add, hr] at hi2
  have hi2 : num = numL n ws ps ns cs := hi2
  subst hi2
  simp only [List.map_nil] at el2
  have rg := iRng1_ok (n := n) (v := vVar 0) (s := [.sh (.int n), .sh x, .sh y, .sh u, .sh z, .sh (.lst ((hts n ps cs).map D.int)), .ol ((offL ps ns cs).map natE), j.a, j.b, j.c, j.d, j.e, j.f, .ol [], .un]) (by simp) (by omega)
  have en := enumD_enc Cl.d cs
  rw [u_loose_places]
  unfold d_loose_places
  simp [e1, e2, e3, h.hx, en, el, rg, el2]
end VH
end
section
set_option maxHeartbeats 4000000
set_option maxRecDepth 100000
namespace VH
open PySem VL
/-! == of data -/
mutual
theorem eqv_refl : ∀ d : D, PyData.eqv (py d) (py d) = true
  | .non => rfl
  | .bl b => by show (b == b) = true; simp
  | .int i => by show (i == i) = true; simp
  | .str s => by show (s == s) = true; simp
  | .tup ds => eqvAll_refl ds
  | .lst ds => eqvAll_refl ds
  | .ins _ _ _ => rfl
theorem eqvAll_refl : ∀ ds : List D, PyData.eqvAll (pyL ds) (pyL ds) = true
  | [] => rfl
  | d :: ds => by
    show (PyData.eqv (py d) (py d) && PyData.eqvAll (pyL ds) (pyL ds)) = true
    rw [eqv_refl d, eqvAll_refl ds]
    rfl
end
theorem okDL_map {α : Type} (enc : α → D) (n : Nat) (h : ∀ x, okD (enc x) n = true) : ∀ xs : List α, okDL (xs.map enc) n = true
  | [] => rfl
  | x :: xs => by
    show (okD (enc x) n && okDL (xs.map enc) n) = true
    rw [h x, okDL_map enc n h xs]
    rfl
theorem eqC_deep (d e : D) (h : sEq d e = none) (h1 : okD d 8 = true) (h2 : okD e 8 = true) : eqC (.sh d) (.sh e) = some (eqD d e) := by
  show (match sEq d e with
    | some r => some r
    | none => if (okD d 8 && okD e 8) = true then some (eqD d e) else none) = _
  rw [h, h1, h2]
  rfl
theorem eq_deep (d e : D) (h : sEq d e = none) (h1 : okD d 8 = true) (h2 : okD e 8 = true) : oEq (.sh d) (.sh e) = some (.bl (eqD d e)) := by
  show (eqC (.sh d) (.sh e)).map D.bl = _
  rw [eqC_deep d e h h1 h2]
  rfl
theorem ne_deep (d e : D) (h : sEq d e = none) (h1 : okD d 8 = true) (h2 : okD e 8 = true) : oNe (.sh d) (.sh e) = some (.bl (!eqD d e)) := by
  show (eqC (.sh d) (.sh e)).map (fun r => D.bl (!r)) = _
  rw [eqC_deep d e h h1 h2]
  rfl
theorem ne_refl (d : D) (h : sEq d d = none) (h1 : okD d 8 = true) : oNe (.sh d) (.sh d) = some (.bl false) := by
  rw [ne_deep d d h h1 h1]
  unfold eqD
  rw [eqv_refl]
  rfl
theorem ne_ints (l : List Int) : oNe (.sh (.lst (l.map D.int))) (.sh (.lst (l.map D.int))) = some (.bl false) := ne_refl _ rfl (okDL_map D.int 7 (fun _ => rfl) l)
theorem eqvAll_nil (ds : List D) : PyData.eqvAll (pyL ds) (pyL []) = ds.isEmpty := by
  cases ds <;> rfl
theorem okD_two {α : Type} (enc : α → D) (h : ∀ x n, okD (enc x) n = true) (a b : List α) : okD (.tup [.lst (a.map enc), .lst (b.map enc)]) 8 = true := by
  show (okDL (a.map enc) 6 && (okDL (b.map enc) 6 && true)) = true
  rw [okDL_map enc 6 (fun x => h x 6), okDL_map enc 6 (fun x => h x 6)]
  rfl
theorem eq_none2 (a b : List Nat) : oEq (.sh (.tup [.lst (a.map natE), .lst (b.map natE)])) (.sh (.tup [.lst [], .lst []])) = some (.bl (a.isEmpty && b.isEmpty)) := by
  rw [eq_deep _ _ rfl (okD_two natE (fun _ _ => rfl) a b) rfl]
  congr 2
  show (PyData.eqvAll (pyL (a.map natE)) (pyL []) && (PyData.eqvAll (pyL (b.map natE)) (pyL []) && true)) = _
  rw [eqvAll_nil, eqvAll_nil]
  simp
theorem ne_two (a b : List Nat) : oNe (.sh (.tup [.lst (a.map natE), .lst (b.map natE)])) (.sh (.tup [.lst (a.map natE), .lst (b.map natE)])) = some (.bl false) := ne_refl _ rfl (okD_two natE (fun _ _ => rfl) a b)
/-! the law's own part -/
theorem q_ones_fit' (c : Cl) (x : D) (ns : List Int) (hx : itsD x = some (ns.map D.int)) (h0 : 0 ≤ c.lo) (h1 : c.lo ≤ c.hi) : f__law_ones_fit [.sh c.d, .sh x] = .ok (.sh (.bl (c.fits ns))) [.sh c.d, .sh x] := by
  obtain ⟨cL, yL, o1, o3, o2⟩ := sum_slice (s := [.sh c.d, .sh x, .un]) (i := 1) (ns := ns) (a := c.lo) (b := c.hi) (u := vQ (qOp oIx (qVar 0) (qC (.int 0)))) (v := vQ (qOp oIx (qVar 0) (qC (.int 1)))) rfl hx (by simp) (by simp) h0 h1
  rw [u__law_ones_fit]
  unfold d__law_ones_fit
  unfold Cl.fits
  by_cases a1 : c.mn ≤ seg ns c.lo c.hi <;> simp [o1, o3, o2, a1]
theorem q_ones_fit (c : Cl) (ns : List Int) (h0 : 0 ≤ c.lo) (h1 : c.lo ≤ c.hi) : f__law_ones_fit [.sh c.d, .sh (.lst (ns.map D.int))] = .ok (.sh (.bl (c.fits ns))) [.sh c.d, .sh (.lst (ns.map D.int))] := q_ones_fit' c _ ns rfl h0 h1
theorem setIx {s : List Cell} {i : Nat} {dv di : DV} {st : List Int} {j v : Int} (hs : s[i]? = some (.ol (st.map D.int))) (hv : dv s = .ok (.int v) s) (hd : di s = .ok (.int j) s) (h0 : 0 ≤ j) (h1 : j < st.length) :
    sSetIx i dv di s = .nx (s.set i (.ol ((st.set j.toNat v).map D.int))) := by
  unfold sSetIx
  rw [hv]
  simp only [a_oS_ok, hs]
  rw [hd]
  simp only [a_oS_ok, hs, List.length_map, ixN_in _ _ h0 h1]
  rw [List.map_set]
theorem addAt_map (n : Nat) (f : Nat → Int) (j : Nat) (p : Int) (hj : j < n) : addAt ((List.range n).map f) j p = (List.range n).map fun i => f i + if i = j then p else 0 := by
  unfold addAt
  rw [gI_nat _ _ (by simpa using hj)]
  apply List.ext_getElem
  · simp
  · intro i h1 h2
    simp at h1
    rw [List.getElem_set]
    by_cases h : j = i
    · subst h; simp
    · have h' : ¬ i = j := fun z => h z.symm
      simp [h, h']
theorem l_law_heights_2 (n : Nat) (x : Cell) (ps : List Int) (k : Nat) (hk : k < ps.length) (cd : Cell) (lo hi : Nat) (h1 : lo ≤ hi) (h2 : hi ≤ n) (f : Nat → Int) (w : Cell) :
    ∃ w', loopD lg__law_heights_2 lb__law_heights_2 ((rngI lo hi).map D.int) [.sh (.int n), x, .sh (.lst (ps.map D.int)), .ol (((List.range n).map f).map D.int), .sh (.int k), cd, w] =
      .nx [.sh (.int n), x, .sh (.lst (ps.map D.int)), .ol (((List.range n).map fun (i : Nat) => f i + if (lo : Int) ≤ i ∧ (i : Int) < hi then gI ps k else 0).map D.int), .sh (.int k), cd, w'] := by
  obtain ⟨⟨t, w'⟩, e, ht⟩ := loop_inv lg__law_heights_2 lb__law_heights_2 D.int (fun (b : Nat × Cell) => [.sh (.int n), x, .sh (.lst (ps.map D.int)), .ol (((List.range n).map fun (i : Nat) => f i + if lo ≤ i ∧ i < lo + b.1 then gI ps k else 0).map D.int), .sh (.int k), cd, b.2]) (fun i b => b.1 = i) (rngI lo hi) 0 (0, w) (fun b i y hy hb => by
    obtain ⟨t, w'⟩ := b
    simp only [Nat.zero_add] at hb ⊢
    subst hb
    have hy2 := hy
    unfold rngI at hy
    rw [List.getElem?_map] at hy
    have ht : t < ((hi : Int) - lo).toNat := by
      have := (List.getElem?_eq_some_iff.mp hy2).1
      rwa [rngI_length] at this
    rw [List.getElem?_range ht] at hy
    simp at hy
    subst hy
    refine ⟨(t + 1, .sh (.int ((lo : Int) + t))), ?_, rfl⟩
    generalize hF : (fun (i : Nat) => f i + if lo ≤ i ∧ i < lo + t then gI ps k else 0) = F
    have ej : ((lo : Int) + t) = ((lo + t : Nat) : Int) := by omega
    have i1 := ix_ol ((List.range n).map F) ((lo : Int) + t) (by omega) (by simp; omega)
    have i2 := ix_sh ps k (by omega) (by omega)
    have st := setIx (s := [.sh (.int n), x, .sh (.lst (ps.map D.int)), .ol (((List.range n).map F).map D.int), .sh (.int k), cd, .sh (.int ((lo : Int) + t))]) (i := 3) (dv := vQ (qOp oAdd (qOp oIx (qVar 3) (qVar 6)) (qOp oIx (qVar 2) (qVar 4)))) (di := vVar 6) (st := (List.range n).map F) (j := (lo : Int) + t) (v := gI ((List.range n).map F) ((lo : Int) + t) + gI ps k) rfl (by simp [-List.map_map, i1, i2]) (by simp) (by omega) (by simp; omega)
    have am := addAt_map n F (lo + t) (gI ps k) (by omega)
    unfold addAt at am
    rw [ej] at st
    rw [am] at st
    have ef : (fun (i : Nat) => F i + if i = lo + t then gI ps k else 0) = fun (i : Nat) => f i + if lo ≤ i ∧ i < lo + (t + 1) then gI ps k else 0 := by
      subst hF
      funext i
      show f i + (if lo ≤ i ∧ i < lo + t then gI ps k else 0) + (if i = lo + t then gI ps k else 0) = _
      by_cases a1 : i = lo + t
      · rw [if_pos a1, if_neg (by omega), if_pos (by omega)]; omega
      · by_cases a2 : lo ≤ i ∧ i < lo + t
        · rw [if_neg a1, if_pos a2, if_pos (by omega)]; omega
        · rw [if_neg a1, if_neg a2, if_neg (by omega)]; omega
    rw [ef] at st
    rw [← ej] at st
    simp [-List.map_map, turnL_eq, lg__law_heights_2, lb__law_heights_2, st]) rfl
  simp only [Nat.zero_add, rngI_length] at ht
  subst ht
  refine ⟨w', ?_⟩
  have e0 : (fun (i : Nat) => f i + if lo ≤ i ∧ i < lo + 0 then gI ps k else 0) = f := by
    funext i
    rw [if_neg (by omega)]
    omega
  have e1 : (fun (i : Nat) => f i + if lo ≤ i ∧ i < lo + ((hi : Int) - lo).toNat then gI ps k else 0) = fun (i : Nat) => f i + if (lo : Int) ≤ i ∧ (i : Int) < hi then gI ps k else 0 := by
    funext i
    by_cases a : lo ≤ i ∧ i < lo + ((hi : Int) - lo).toNat
    · rw [if_pos a, if_pos (by omega)]
    · rw [if_neg a, if_neg (by omega)]
  simp only [e0, e1] at e
  exact e
theorem rsL_append (ps : List Int) (l m : List (Cl × Nat)) (i : Int) : rsL ps (l ++ m) i = rsL ps l i + rsL ps m i := by
  unfold rsL
  rw [List.map_append, List.sum_append]
theorem q_law_heights (n : Nat) (cs : List Cl) (ps : List Int) (hn : n ≤ 100) (hl : ps.length = cs.length) (hc : ∀ c ∈ cs, c.ok n = true) :
    f__law_heights [.sh (.int n), .sh (.lst (cs.map Cl.d)), .sh (.lst (ps.map D.int))] = .ok (.ol ((hts n ps cs).map D.int)) [.sh (.int n), .sh (.lst (cs.map Cl.d)), .sh (.lst (ps.map D.int))] := by
  obtain ⟨⟨t, j⟩, e, ht⟩ := loop_inv lg__law_heights_1 lb__law_heights_1 (enumE Cl.d) (fun (b : Nat × J3) => [.sh (.int n), .sh (.lst (cs.map Cl.d)), .sh (.lst (ps.map D.int)), .ol (((List.range n).map fun (i : Nat) => rsL ps (cs.zipIdx.take b.1) i).map D.int), b.2.a, b.2.b, b.2.c]) (fun i b => b.1 = i) cs.zipIdx 0 (0, ⟨.un, .un, .un⟩) (fun b i q hq hb => by
    obtain ⟨t, j⟩ := b
    simp only [Nat.zero_add] at hb ⊢
    subst hb
    obtain ⟨h1, h2, h3, _, h4⟩ := mem_zipIdx_ok hc (List.mem_of_getElem? hq)
    have tk : cs.zipIdx.take (t + 1) = cs.zipIdx.take t ++ [q] := by rw [List.take_add_one, hq]; rfl
    obtain ⟨c, k⟩ := q
    simp only at h1 h2 h3 h4
    obtain ⟨lo, hlo⟩ := Int.eq_ofNat_of_zero_le h1
    obtain ⟨hi, hhi⟩ := Int.eq_ofNat_of_zero_le (show 0 ≤ c.hi by omega)
    have rg := fun (s : List Cell) (u v : DV) (hu : u s = .ok (.int lo) s) (hv : v s = .ok (.int hi) s) => iRng2_ok hu hv (by omega) (by omega) (by omega) (by omega)
    obtain ⟨w', el⟩ := l_law_heights_2 n (.sh (.lst (cs.map Cl.d))) ps k (by omega) (.sh c.d) lo hi (by omega) (by omega) (fun i => rsL ps (cs.zipIdx.take t) i) j.c
    refine ⟨(t + 1, ⟨.sh (.int k), .sh c.d, w'⟩), ?_, rfl⟩
    have ef : (fun (i : Nat) => rsL ps (cs.zipIdx.take (t + 1)) i) = fun (i : Nat) => rsL ps (cs.zipIdx.take t) i + if (lo : Int) ≤ i ∧ (i : Int) < hi then gI ps k else 0 := by
      funext i
      rw [tk, rsL_append]
      simp [rsL, hlo, hhi]
    simp only [ef]
    have rg1 := rg [.sh (.int n), .sh (.lst (cs.map Cl.d)), .sh (.lst (ps.map D.int)), .ol (((List.range n).map fun (i : Nat) => rsL ps (cs.zipIdx.take t) i).map D.int), .sh (.int k), .sh c.d, j.c] (vQ (qOp oIx (qVar 5) (qC (.int 0)))) (vQ (qOp oIx (qVar 5) (qC (.int 1)))) (by simp [hlo]) (by simp [hhi])
    simp [-List.map_map, turnL_eq, lg__law_heights_1, lb__law_heights_1, rg1, el]) rfl
  simp only [Nat.zero_add] at ht
  subst ht
  simp only [List.take_length, List.take_zero] at e
  have e0 : ((List.range n).map fun (i : Nat) => rsL ps [] i) = List.replicate n 0 := by
    apply List.ext_getElem
    · simp
    · intro i h1 h2; simp [rsL]
  rw [e0] at e
  have en := enumD_enc Cl.d cs
  have rp := rep0 n (by omega)
  rw [u__law_heights]
  unfold d__law_heights
  simp [-List.map_map, -List.map_replicate, rp, en, e, hts, rs]
theorem q_law_worth (n : Nat) (cs : List Cl) (ws ps : List Int) (hn : n ≤ 100) (hw : ws.length = n) (hl : ps.length = cs.length) (hp : sm ps) (hc : ∀ c ∈ cs, c.ok n = true) :
    f__law_worth_k53 [.sh (.int n), .sh (.lst (cs.map Cl.d)), .sh (.lst (ws.map D.int)), .sh (.lst (ps.map D.int))] = .ok (.sh (.int (wth n ws ps cs))) [.sh (.int n), .sh (.lst (cs.map Cl.d)), .sh (.lst (ws.map D.int)), .sh (.lst (ps.map D.int))] := by
  have e1 := q_law_heights n cs ps hn hl hc
  obtain ⟨⟨g, j⟩, el, hg, hj⟩ := loop_inv lg__law_worth_k53_1 lb__law_worth_k53_1 (enumE Cl.d) (fun (b : Int × J2) => [.sh (.int n), .sh (.lst (cs.map Cl.d)), .sh (.lst (ws.map D.int)), .sh (.lst (ps.map D.int)), .sh (.int b.1), b.2.a, b.2.b, .un]) (fun i b => b.1 = ((cs.zipIdx.take i).map fun q => cw q.1 (gI ps q.2)).sum ∧ (b.2.a = .un ∨ ∃ d, b.2.a = .sh d)) cs.zipIdx 0 (0, ⟨.un, .un⟩) (fun b i q hq hb => by
    obtain ⟨g, j⟩ := b
    obtain ⟨hg, hj⟩ := hb
    simp only [Nat.zero_add] at hg hj ⊢
    obtain ⟨h1, h2, h3, _, h4⟩ := mem_zipIdx_ok hc (List.mem_of_getElem? hq)
    have tk : cs.zipIdx.take (i + 1) = cs.zipIdx.take i ++ [q] := by rw [List.take_add_one, hq]; rfl
    obtain ⟨c, k⟩ := q
    simp only at h1 h2 h3 h4
    have ip := ix_sh ps k (by omega) (by omega)
    have m1 := mul_sm (gI ps k) c.mn (.inl (sm_gI hp k))
    have m2 := mul_sm (gI ps k) c.mx (.inl (sm_gI hp k))
    refine ⟨(g + cw c (gI ps k), ⟨.sh (.int k), .sh c.d⟩), ?_, ?_, .inr ⟨_, rfl⟩⟩
    · by_cases a1 : 0 < gI ps k
      · have a2 : ¬ gI ps k < 0 := by omega
        simp [turnL_eq, lg__law_worth_k53_1, lb__law_worth_k53_1, ip, m1, m2, a1, a2, cw]
      · by_cases a2 : gI ps k < 0
        · simp [turnL_eq, lg__law_worth_k53_1, lb__law_worth_k53_1, ip, m1, m2, a1, a2, cw]
        · have a3 : gI ps k = 0 := by omega
          simp [turnL_eq, lg__law_worth_k53_1, lb__law_worth_k53_1, ip, a3, cw]
    · rw [tk, hg]
      simp) ⟨by simp, .inl rfl⟩
  simp only [Nat.zero_add, List.take_length] at hg hj
  have hg : g = gained ps cs := hg
  subst hg
  simp only at el
  have lc2 : cd__law_worth_k53_2 [.sh (.int n), .sh (.lst (cs.map Cl.d)), .sh (.lst (ws.map D.int)), .sh (.lst (ps.map D.int)), .sh (.int (gained ps cs)), j.a, j.b, .sh (.lst ((hts n ps cs).map D.int))] = .ok (.ol (((List.range n).map fun (i : Nat) => max 0 (rs ps cs i - gI ws i)).map D.int)) [.sh (.int n), .sh (.lst (cs.map Cl.d)), .sh (.lst (ws.map D.int)), .sh (.lst (ps.map D.int)), .sh (.int (gained ps cs)), j.a, j.b, .sh (.lst ((hts n ps cs).map D.int))] := by
    refine comp_range n (by omega) D.int _ (by simp) (by simpa using hj) (fun i hi => ?_)
    refine ⟨[.sh (.int n), .sh (.lst (cs.map Cl.d)), .sh (.lst (ws.map D.int)), .sh (.lst (ps.map D.int)), .sh (.int (gained ps cs)), .sh (.int i), j.b, .sh (.lst ((hts n ps cs).map D.int))], [.sh (.int n), .sh (.lst (cs.map Cl.d)), .sh (.lst (ws.map D.int)), .sh (.lst (ps.map D.int)), .sh (.int (gained ps cs)), .sh (.int i), j.b, .sh (.lst ((hts n ps cs).map D.int))], rfl, ?_, rfl⟩
    have i1 := ix_sh (hts n ps cs) i (by omega) (by rw [hts_len]; omega)
    rw [hts_gI n ps cs i hi] at i1
    have i2 := ix_sh ws i (by omega) (by omega)
    simp [i1, i2]
  have s2 := o_sumI ((List.range n).map fun (i : Nat) => max 0 (rs ps cs i - gI ws i))
  have en := enumD_enc Cl.d cs
  rw [u__law_worth_k53]
  unfold d__law_worth_k53
  simp [e1, en, el, lc2, -List.map_map, s2, wth, lost]
theorem q_law_loose (n : Nat) (cs : List Cl) (ws ps ns : List Int) (hn : n ≤ 100) (hw : ws.length = n) (hl : ps.length = cs.length) (hl2 : cs.length ≤ 100) (hns : ns.length = n) (hp : pat ns = true) (hc : ∀ c ∈ cs, c.ok n = true) :
    f__law_loose [.sh (.int n), .sh (.lst (cs.map Cl.d)), .sh (.lst (ws.map D.int)), .sh (.lst (ps.map D.int)), .sh (.lst (ns.map D.int))] = .ok (.sh (.tup [.lst ((offL ps ns cs).map natE), .lst ((numL n ws ps ns cs).map natE)])) [.sh (.int n), .sh (.lst (cs.map Cl.d)), .sh (.lst (ws.map D.int)), .sh (.lst (ps.map D.int)), .sh (.lst (ns.map D.int))] := by
  have e1 := q_law_heights n cs ps hn hl hc
  obtain ⟨⟨off, j⟩, el, hi⟩ := loop_inv lg__law_loose_1 lb__law_loose_1 (enumE Cl.d) (fun (b : List Nat × J3) => [.sh (.int n), .sh (.lst (cs.map Cl.d)), .sh (.lst (ws.map D.int)), .sh (.lst (ps.map D.int)), .sh (.lst (ns.map D.int)), .ol (b.1.map natE), b.2.a, b.2.b, b.2.c, .un, .un]) (fun i b => b.1 = (((cs.zipIdx).take i).filter (offB ps ns)).map (·.2)) cs.zipIdx 0 ([], ⟨.un, .un, .un⟩) (fun b i q hq hb => by
    obtain ⟨off, j⟩ := b
    simp only [Nat.zero_add] at hb ⊢
    have hi := (List.getElem?_eq_some_iff.mp hq).1
    obtain ⟨h1, h2, h3, _, h4⟩ := mem_zipIdx_ok hc (List.mem_of_getElem? hq)
    have len : off.length < 16777216 := by
      rw [hb, List.length_map]
      have := List.length_filter_le (offB ps ns) ((cs.zipIdx).take i)
      simp at this hi
      omega
    rw [filter_take _ _ _ _ hq]
    obtain ⟨c, k⟩ := q
    simp only at h1 h2 h3 h4
    have ip := ix_sh ps k (by omega) (by omega)
    obtain ⟨cL, yL, o1, o3, o2⟩ := sum_slice (s := [.sh (.int n), .sh (.lst (cs.map Cl.d)), .sh (.lst (ws.map D.int)), .sh (.lst (ps.map D.int)), .sh (.lst (ns.map D.int)), .ol (off.map natE), .sh (.int k), .sh c.d, j.c, .un, .un]) (i := 4) (ns := ns) (a := c.lo) (b := c.hi) (u := vQ (qOp oIx (qVar 7) (qC (.int 0)))) (v := vQ (qOp oIx (qVar 7) (qC (.int 1)))) rfl rfl (by simp) (by simp) h1 (by omega)
    refine ⟨(off ++ (if offB ps ns (c, k) = true then [k] else []), ⟨.sh (.int k), .sh c.d, .sh (.int (seg ns c.lo c.hi))⟩), ?_, ?_⟩
    · simp only [offB]
      by_cases a1 : 0 < gI ps k
      · have a2 : ¬ gI ps k < 0 := by omega
        by_cases a3 : seg ns c.lo c.hi = c.mn
        · simp [turnL_eq, lg__law_loose_1, lb__law_loose_1, o1, o3, o2, ip, a1, a2, a3]
        · simp [turnL_eq, lg__law_loose_1, lb__law_loose_1, o1, o3, o2, ip, a1, a2, a3, len]
      · by_cases a2 : gI ps k < 0
        · by_cases a3 : seg ns c.lo c.hi = c.mx
          · simp [turnL_eq, lg__law_loose_1, lb__law_loose_1, o1, o3, o2, ip, a1, a2, a3]
          · simp [turnL_eq, lg__law_loose_1, lb__law_loose_1, o1, o3, o2, ip, a1, a2, a3, len]
        · simp [turnL_eq, lg__law_loose_1, lb__law_loose_1, o1, o3, o2, ip, a1, a2]
    · rw [List.map_append, ← hb]
      simp only
      split <;> simp) rfl
  simp only [Nat.zero_add, List.take_length] at hi
  have hi : off = offL ps ns cs := hi
  subst hi
  simp only [List.map_nil] at el
  obtain ⟨⟨num, c6⟩, el2, hi2⟩ := loop_inv lg__law_loose_2 lb__law_loose_2 natE (fun (b : List Nat × Cell) => [.sh (.int n), .sh (.lst (cs.map Cl.d)), .sh (.lst (ws.map D.int)), .sh (.lst (ps.map D.int)), .sh (.lst (ns.map D.int)), .ol ((offL ps ns cs).map natE), b.2, j.b, j.c, .sh (.lst ((hts n ps cs).map D.int)), .ol (b.1.map natE)]) (fun i b => b.1 = ((List.range n).take i).filter (numB ws ps ns cs)) (List.range n) 0 ([], j.a) (fun b i k hk hb => by
    obtain ⟨num, c6⟩ := b
    simp only [Nat.zero_add] at hb ⊢
    have hi := (List.getElem?_eq_some_iff.mp hk).1
    have len : num.length < 16777216 := by
      rw [hb]
      have := List.length_filter_le (numB ws ps ns cs) ((List.range n).take i)
      rw [List.length_take, List.length_range] at this
      omega
    rw [filter_take _ _ _ _ hk]
    have hkn : k < n := List.mem_range.mp (List.mem_of_getElem? hk)
    have i1 := ix_sh (hts n ps cs) k (by omega) (by rw [hts_len]; omega)
    rw [hts_gI n ps cs k hkn] at i1
    have i2 := ix_sh ws k (by omega) (by omega)
    have i3 := ix_sh ns k (by omega) (by omega)
    have p01 := pat_gI hp k
    refine ⟨(num ++ (if numB ws ps ns cs k = true then [k] else []), .sh (.int k)), ?_, by rw [← hb]⟩
    simp only [numB]
    by_cases a1 : gI ws k < rs ps cs k
    · have a2 : ¬ rs ps cs k < gI ws k := by omega
      by_cases a3 : gI ns k = 0
      · simp [turnL_eq, lg__law_loose_2, lb__law_loose_2, i1, i2, i3, a1, a2, a3, len]
      · simp [turnL_eq, lg__law_loose_2, lb__law_loose_2, i1, i2, i3, a1, a2, a3]
    · by_cases a2 : rs ps cs k < gI ws k
      · by_cases a3 : gI ns k = 1
        · simp [turnL_eq, lg__law_loose_2, lb__law_loose_2, i1, i2, i3, a1, a2, a3, len]
        · simp [turnL_eq, lg__law_loose_2, lb__law_loose_2, i1, i2, i3, a1, a2, a3]
      · simp [turnL_eq, lg__law_loose_2, lb__law_loose_2, i1, i2, i3, a1, a2]) rfl
  have hr : (List.range n).take (List.range n).length = List.range n := List.take_length
  simp only [Nat.zero_add, hr] at hi2
  have hi2 : num = numL n ws ps ns cs := hi2
  subst hi2
  simp only [List.map_nil] at el2
  have rg := iRng1_ok (n := n) (v := vVar 0) (s := [.sh (.int n), .sh (.lst (cs.map Cl.d)), .sh (.lst (ws.map D.int)), .sh (.lst (ps.map D.int)), .sh (.lst (ns.map D.int)), .ol ((offL ps ns cs).map natE), j.a, j.b, j.c, .sh (.lst ((hts n ps cs).map D.int)), .ol []]) (by simp) (by omega)
  have en := enumD_enc Cl.d cs
  rw [u__law_loose]
  unfold d__law_loose
  simp [e1, en, el, rg, el2]
end VH
end
section
set_option maxHeartbeats 4000000
set_option maxRecDepth 100000
namespace VH
open PySem VL
/-! weak duality -/
theorem sum_map_add {α : Type} (f g : α → Int) : ∀ l : List α, (l.map fun x => f x + g x).sum = (l.map f).sum + (l.map g).sum
  | [] => rfl
  | x :: l => by
    simp only [List.map_cons, List.sum_cons, sum_map_add f g l]
    omega
theorem sum_map_sub {α : Type} (f g : α → Int) : ∀ l : List α, (l.map fun x => f x - g x).sum = (l.map f).sum - (l.map g).sum
  | [] => rfl
  | x :: l => by
    simp only [List.map_cons, List.sum_cons, sum_map_sub f g l]
    omega
theorem sum_map_mul {α : Type} (f : α → Int) (c : Int) : ∀ l : List α, (l.map fun x => c * f x).sum = c * (l.map f).sum
  | [] => by simp
  | x :: l => by
    simp only [List.map_cons, List.sum_cons, sum_map_mul f c l, Int.mul_add]
theorem sum_map_congr {α : Type} (f g : α → Int) (l : List α) (h : ∀ x ∈ l, f x = g x) : (l.map f).sum = (l.map g).sum := by
  rw [List.map_congr_left h]
theorem sum_nonneg {α : Type} (f : α → Int) : ∀ l : List α, (∀ x ∈ l, 0 ≤ f x) → 0 ≤ (l.map f).sum
  | [], _ => by simp
  | x :: l, h => by
    have h1 := h x (List.mem_cons_self ..)
    have h2 := sum_nonneg f l fun y hy => h y (List.mem_cons_of_mem _ hy)
    simp only [List.map_cons, List.sum_cons]
    omega
theorem sum_zero {α : Type} (f : α → Int) : ∀ l : List α, (∀ x ∈ l, 0 ≤ f x) → ((l.map f).sum = 0 ↔ ∀ x ∈ l, f x = 0)
  | [], _ => by simp
  | x :: l, h => by
    have h1 := h x (List.mem_cons_self ..)
    have h2 := sum_nonneg f l fun y hy => h y (List.mem_cons_of_mem _ hy)
    have ih := sum_zero f l fun y hy => h y (List.mem_cons_of_mem _ hy)
    simp only [List.map_cons, List.sum_cons, List.mem_cons, forall_eq_or_imp]
    constructor
    · intro z
      exact ⟨by omega, ih.mp (by omega)⟩
    · intro ⟨z1, z2⟩
      have := ih.mpr z2
      omega
theorem seg_sum_aux (ns : List Int) (p lo hi : Int) (h0 : 0 ≤ lo) (h1 : lo ≤ hi) : ∀ m : Nat, m ≤ ns.length → ((List.range m).map fun (i : Nat) => (if lo ≤ (i : Int) ∧ (i : Int) < hi then p else 0) * gI ns i).sum = p * ((ns.take (min m hi.toNat)).sum - (ns.take (min m lo.toNat)).sum)
  | 0, _ => by simp
  | m + 1, h => by
    have ih := seg_sum_aux ns p lo hi h0 h1 m (by omega)
    rw [List.range_succ, List.map_append, List.sum_append, ih]
    simp only [List.map_cons, List.map_nil, List.sum_cons, List.sum_nil, Int.add_zero]
    have tk := take_sum_succ ns m (by omega)
    by_cases a : lo ≤ (m : Int)
    · by_cases b : (m : Int) < hi
      · rw [if_pos ⟨a, b⟩, show min (m + 1) hi.toNat = m + 1 by omega, show min m hi.toNat = m by omega, show min (m + 1) lo.toNat = lo.toNat by omega, show min m lo.toNat = lo.toNat by omega, tk]
        rw [← Int.mul_add]
        congr 1
        omega
      · rw [if_neg (fun z => b z.2), show min (m + 1) hi.toNat = hi.toNat by omega, show min m hi.toNat = hi.toNat by omega, show min (m + 1) lo.toNat = lo.toNat by omega, show min m lo.toNat = lo.toNat by omega]
        simp
    · rw [if_neg (fun z => a z.1), show min (m + 1) hi.toNat = m + 1 by omega, show min m hi.toNat = m by omega, show min (m + 1) lo.toNat = m + 1 by omega, show min m lo.toNat = m by omega]
      simp
theorem seg_sum (ns : List Int) (p lo hi : Int) (h0 : 0 ≤ lo) (h1 : lo ≤ hi) (h2 : hi ≤ ns.length) : ((List.range ns.length).map fun (i : Nat) => (if lo ≤ (i : Int) ∧ (i : Int) < hi then p else 0) * gI ns i).sum = p * seg ns lo hi := by
  rw [seg_sum_aux ns p lo hi h0 h1 ns.length (Nat.le_refl _), show min ns.length hi.toNat = hi.toNat by omega, show min ns.length lo.toNat = lo.toNat by omega]
  rfl
theorem swap_sum (ns ps : List Int) : ∀ l : List (Cl × Nat), (∀ q ∈ l, 0 ≤ q.1.lo ∧ q.1.lo < q.1.hi ∧ q.1.hi ≤ ns.length) → ((List.range ns.length).map fun (i : Nat) => rsL ps l i * gI ns i).sum = (l.map fun q => gI ps q.2 * seg ns q.1.lo q.1.hi).sum
  | [], _ => by
    have : ∀ m : Nat, ((List.range m).map fun (i : Nat) => rsL ps [] i * gI ns i).sum = 0 := by
      intro m
      induction m with
      | zero => rfl
      | succ m ih => rw [List.range_succ, List.map_append, List.sum_append, ih]; simp [rsL]
    simpa using this ns.length
  | q :: l, h => by
    obtain ⟨h1, h2, h3⟩ := h q (List.mem_cons_self ..)
    have ih := swap_sum ns ps l fun q hq => h q (List.mem_cons_of_mem _ hq)
    rw [List.map_cons, List.sum_cons, ← ih, ← seg_sum ns (gI ps q.2) q.1.lo q.1.hi h1 (by omega) h3, ← sum_map_add]
    apply sum_map_congr
    intro i _
    rw [← Int.add_mul]
    rfl
def tI (ws ps ns : List Int) (cs : List Cl) (i : Nat) : Int := gI ws i * gI ns i + max 0 (rs ps cs i - gI ws i) - rs ps cs i * gI ns i
def uQ (ps ns : List Int) (q : Cl × Nat) : Int := gI ps q.2 * seg ns q.1.lo q.1.hi - cw q.1 (gI ps q.2)
theorem gap (n : Nat) (ws ps ns : List Int) (cs : List Cl) (hn : ns.length = n) (hc : ∀ c ∈ cs, c.ok n = true) : dot ws ns n - wth n ws ps cs = ((List.range n).map (tI ws ps ns cs)).sum + (cs.zipIdx.map (uQ ps ns)).sum := by
  subst hn
  have sw := swap_sum ns ps cs.zipIdx fun q hq => by
    have z := mem_zipIdx_ok hc hq
    exact ⟨z.1, z.2.1, z.2.2.1⟩
  unfold tI uQ wth dot gained lost
  rw [sum_map_sub, sum_map_add, sum_map_sub, ← sw]
  unfold rs
  omega
theorem tI_ok (ws ps ns : List Int) (cs : List Cl) (i : Nat) (hp : pat ns = true) : 0 ≤ tI ws ps ns cs i ∧ (tI ws ps ns cs i = 0 ↔ numB ws ps ns cs i = false) := by
  unfold tI numB
  rcases pat_gI hp i with h | h <;> rw [h]
  · have e : ¬ ((0 : Int) = 1) := by omega
    simp only [Int.mul_zero, e, decide_true, Bool.and_true, decide_false, Bool.and_false, Bool.or_false, decide_eq_false_iff_not]
    omega
  · have e : ¬ ((1 : Int) = 0) := by omega
    simp only [Int.mul_one, e, decide_true, Bool.and_true, decide_false, Bool.and_false, Bool.false_or, decide_eq_false_iff_not]
    omega
theorem mul_zero_pos {p x : Int} (hp : 0 < p) (h : p * x = 0) : x = 0 := by
  rcases Int.mul_eq_zero.mp h with h | h
  · omega
  · exact h
theorem uQ_ok (ps ns : List Int) (q : Cl × Nat) (hf : q.1.fits ns = true) : 0 ≤ uQ ps ns q ∧ (uQ ps ns q = 0 ↔ offB ps ns q = false) := by
  obtain ⟨h1, h2⟩ := (fits_iff _ _).mp hf
  unfold uQ offB cw
  generalize gI ps q.2 = p
  generalize seg ns q.1.lo q.1.hi = s at *
  by_cases a : 0 < p
  · have a2 : ¬ p < 0 := by omega
    rw [if_pos a, ← Int.mul_sub]
    simp only [a, a2, decide_true, decide_false, Bool.true_and, Bool.false_and, Bool.or_false, Bool.not_eq_false', decide_eq_true_iff]
    refine ⟨Int.mul_nonneg (by omega) (by omega), fun z => ?_, fun z => ?_⟩
    · have := mul_zero_pos a z
      omega
    · rw [z, Int.sub_self, Int.mul_zero]
  · rw [if_neg a, ← Int.mul_sub]
    by_cases a2 : p < 0
    · have e : p * (s - q.1.mx) = (-p) * (q.1.mx - s) := by
        rw [Int.neg_mul, ← Int.mul_neg]
        congr 1
        omega
      rw [e]
      simp only [a, a2, decide_true, decide_false, Bool.true_and, Bool.false_and, Bool.false_or, Bool.not_eq_false', decide_eq_true_iff]
      refine ⟨Int.mul_nonneg (by omega) (by omega), fun z => ?_, fun z => ?_⟩
      · have := mul_zero_pos (p := -p) (by omega) z
        omega
      · rw [z, Int.sub_self, Int.mul_zero]
    · have e : p = 0 := by omega
      subst e
      simp
theorem duality (n : Nat) (ws ps ns : List Int) (cs : List Cl) (hn : ns.length = n) (hc : ∀ c ∈ cs, c.ok n = true) (hp : pat ns = true) (hf : cs.all (Cl.fits ns) = true) :
    wth n ws ps cs ≤ dot ws ns n ∧ (wth n ws ps cs = dot ws ns n ↔ offL ps ns cs = [] ∧ numL n ws ps ns cs = []) := by
  have g := gap n ws ps ns cs hn hc
  have hq : ∀ q ∈ cs.zipIdx, q.1.fits ns = true := fun q hq => List.all_eq_true.mp hf _ (by
    obtain ⟨c, k⟩ := q
    have z := List.mem_zipIdx hq
    simp only
    rw [z.2.2]
    exact List.getElem_mem _)
  have t0 := sum_nonneg (tI ws ps ns cs) (List.range n) fun i _ => (tI_ok ws ps ns cs i hp).1
  have u0 := sum_nonneg (uQ ps ns) cs.zipIdx fun q h => (uQ_ok ps ns q (hq q h)).1
  have t1 := sum_zero (tI ws ps ns cs) (List.range n) fun i _ => (tI_ok ws ps ns cs i hp).1
  have u1 := sum_zero (uQ ps ns) cs.zipIdx fun q h => (uQ_ok ps ns q (hq q h)).1
  have e1 : offL ps ns cs = [] ↔ ∀ q ∈ cs.zipIdx, uQ ps ns q = 0 := by
    unfold offL
    rw [List.map_eq_nil_iff, List.filter_eq_nil_iff]
    constructor
    · intro h q hq'
      exact (uQ_ok ps ns q (hq q hq')).2.mpr (by simpa using h q hq')
    · intro h q hq'
      have := (uQ_ok ps ns q (hq q hq')).2.mp (h q hq')
      simp [this]
  have e2 : numL n ws ps ns cs = [] ↔ ∀ i ∈ List.range n, tI ws ps ns cs i = 0 := by
    unfold numL
    rw [List.filter_eq_nil_iff]
    constructor
    · intro h i hi
      exact (tI_ok ws ps ns cs i hp).2.mpr (by simpa using h i hi)
    · intro h i hi
      have := (tI_ok ws ps ns cs i hp).2.mp (h i hi)
      simp [this]
  rw [e1, e2, ← t1, ← u1]
  omega
end VH
end
section
set_option maxHeartbeats 4000000
set_option maxRecDepth 100000
namespace VH
open PySem VL
theorem q_told_right (n : Nat) (cs : List Cl) (ws ps ns : List Int) (hn : n ≤ 100) (hw : ws.length = n) (hl : ps.length = cs.length) (hl2 : cs.length ≤ 100) (hps : sm ps) (hns : ns.length = n) (hp : pat ns = true) (hc : ∀ c ∈ cs, c.ok n = true) :
    f__law_told_right [.sh (.int n), .sh (.lst (cs.map Cl.d)), .sh (.lst (ws.map D.int)), .sh (.lst (ps.map D.int)), .sh (.lst (ns.map D.int))] = .ok (.sh (.bl true)) [.sh (.int n), .sh (.lst (cs.map Cl.d)), .sh (.lst (ws.map D.int)), .sh (.lst (ps.map D.int)), .sh (.lst (ns.map D.int))] := by
  have e1 := q_law_worth n cs ws ps hn hw hl hps hc
  have W : WOk n (.lst (cs.map Cl.d)) (.lst (ws.map D.int)) (.lst (ps.map D.int)) cs ws ps := ⟨rfl, rfl, rfl, hn, hw, hl, hl2, hps, hc⟩
  have e2 := q_pattern_weight (.lst (ws.map D.int)) (.lst (ns.map D.int)) ws ns rfl rfl (by omega) (by omega) hp
  rw [hns] at e2
  have e3 := q_worth W
  have e4 := q_heights n (.lst (cs.map Cl.d)) (.tup (ps.map D.int)) cs ps rfl rfl hn hl (by omega) hc
  have e5 := q_law_heights n cs ps hn hl hc
  have e6 := q_loose_places (u := .lst (ns.map D.int)) W rfl hns hp
  have e7 := q_law_loose n cs ws ps ns hn hw hl hl2 hns hp hc
  have e8 := q_shows_lightest (u := .tup (ns.map D.int)) W rfl hns hp
  have lc1 : ∀ due, cd__law_told_right_1 [.sh (.int n), .sh (.lst (cs.map Cl.d)), .sh (.lst (ws.map D.int)), .sh (.lst (ps.map D.int)), .sh (.lst (ns.map D.int)), .sh (.int due), .un, .un, .un, .un, .un, .un, .un, .un] = .ok (.ol (((List.range n).map fun (i : Nat) => gI ws i * gI ns i).map D.int)) [.sh (.int n), .sh (.lst (cs.map Cl.d)), .sh (.lst (ws.map D.int)), .sh (.lst (ps.map D.int)), .sh (.lst (ns.map D.int)), .sh (.int due), .un, .un, .un, .un, .un, .un, .un, .un] := by
    intro due
    refine comp_range n (by omega) D.int _ (by simp) (by simp) (fun i hi => ?_)
    refine ⟨[.sh (.int n), .sh (.lst (cs.map Cl.d)), .sh (.lst (ws.map D.int)), .sh (.lst (ps.map D.int)), .sh (.lst (ns.map D.int)), .sh (.int due), .un, .un, .un, .un, .un, .un, .sh (.int i), .un], [.sh (.int n), .sh (.lst (cs.map Cl.d)), .sh (.lst (ws.map D.int)), .sh (.lst (ps.map D.int)), .sh (.lst (ns.map D.int)), .sh (.int due), .un, .un, .un, .un, .un, .un, .sh (.int i), .un], rfl, ?_, rfl⟩
    have i1 := ix_sh ws i (by omega) (by omega)
    have i2 := ix_sh ns i (by omega) (by omega)
    have m := mul01 (gI ws i) (gI ns i) (pat_gI hp i)
    simp [i1, i2, m]
  have s1 := o_sumI ((List.range n).map fun (i : Nat) => gI ws i * gI ns i)
  have lc2 : ∀ c5 c6 c7 c8 c9, cd__law_told_right_2 [.sh (.int n), .sh (.lst (cs.map Cl.d)), .sh (.lst (ws.map D.int)), .sh (.lst (ps.map D.int)), .sh (.lst (ns.map D.int)), c5, c6, c7, c8, c9, .un, .un, .un, .un] = .ok (.ol ((cs.map (Cl.fits ns)).map D.bl)) [.sh (.int n), .sh (.lst (cs.map Cl.d)), .sh (.lst (ws.map D.int)), .sh (.lst (ps.map D.int)), .sh (.lst (ns.map D.int)), c5, c6, c7, c8, c9, .un, .un, .un, .un] := by
    intro c5 c6 c7 c8 c9
    refine comp_map Cl.d D.bl cs _ (by simp) (by omega) (by simp) (fun c hcm => ?_)
    refine ⟨[.sh (.int n), .sh (.lst (cs.map Cl.d)), .sh (.lst (ws.map D.int)), .sh (.lst (ps.map D.int)), .sh (.lst (ns.map D.int)), c5, c6, c7, c8, c9, .un, .un, .un, .sh c.d], [.sh (.int n), .sh (.lst (cs.map Cl.d)), .sh (.lst (ws.map D.int)), .sh (.lst (ps.map D.int)), .sh (.lst (ns.map D.int)), c5, c6, c7, c8, c9, .un, .un, .un, .sh c.d], rfl, ?_, rfl⟩
    obtain ⟨h1, h2, h3, h4⟩ := okC (hc c hcm)
    simp [q_ones_fit c ns h1 (by omega)]
  have s2 : oAll (.sh (.lst ((cs.map (Cl.fits ns)).map D.bl))) = some (.bl (cs.all (Cl.fits ns))) := by
    have := o_all (Cl.fits ns) cs
    rw [List.map_map]
    exact this
  have n1 := ne_ints (hts n ps cs)
  have n2 := ne_two (offL ps ns cs) (numL n ws ps ns cs)
  have n3 := eq_none2 (offL ps ns cs) (numL n ws ps ns cs)
  have es : ((List.range n).map fun (i : Nat) => gI ws i * gI ns i).sum = dot ws ns n := rfl
  rw [es] at s1
  have isl : ∀ l : List D, oIsi .list (.sh (.lst l)) = some (.bl true) := fun _ => rfl
  have ist : ∀ l : List D, oIsi .tuple (.sh (.tup l)) = some (.bl true) := fun _ => rfl
  rw [u__law_told_right]
  unfold d__law_told_right
  cases hf : cs.all (Cl.fits ns) with
  | false =>
    rw [hf] at s2 e8
    simp [-List.map_map, e1, lc1, s1, e2, e3, e4, e5, e6, e7, e8, lc2, s2, n1, n2, isl, ist]
  | true =>
    rw [hf] at s2 e8
    obtain ⟨du1, du2⟩ := duality n ws ps ns cs hns hc hp hf
    have n4 : ((offL ps ns cs).isEmpty && (numL n ws ps ns cs).isEmpty) = decide (wth n ws ps cs = dot ws ns n) := by
      rw [Bool.eq_iff_iff, decide_eq_true_iff, du2]
      simp
    rw [n4] at n3
    simp [-List.map_map, e1, lc1, s1, e2, e3, e4, e5, e6, e7, e8, lc2, s2, n1, n2, n3, isl, ist, du1]
theorem cat_lst (a b : List D) : oCatL (.sh (.lst a)) (.sh (.lst b)) = if a.length + b.length ≤ 16777216 then some (.ol (a ++ b)) else none := rfl
theorem cat_ok (a : List D) (d : D) (h : a.length ≤ 1000) : oCatL (.sh (.lst a)) (.sh (.lst [d])) = some (.ol (a ++ [d])) := by
  rw [cat_lst, if_pos]
  rw [List.length_singleton]
  omega
theorem q_weights_refused (n : Nat) (cs : List Cl) (ws ps : List Int) (hn : n ≤ 100) (hw : ws.length ≤ 100) (hwn : ws.length ≠ n) (hl : ps.length = cs.length) (hl2 : cs.length ≤ 100) (hc : ∀ c ∈ cs, c.ok n = true) :
    f__law_weights_refused [.sh (.int n), .sh (.lst (cs.map Cl.d)), .sh (.lst (ws.map D.int)), .sh (.lst (ps.map D.int))] = .ok (.sh (.bl true)) [.sh (.int n), .sh (.lst (cs.map Cl.d)), .sh (.lst (ws.map D.int)), .sh (.lst (ps.map D.int))] := by
  have nk : numOk (ws.map D.int) n = false := by
    unfold numOk
    have : decide (((ws.map D.int).length : Int) = n) = false := decide_eq_false (by simp; omega)
    rw [this]
    rfl
  have e1 := q_worth_badw n (.lst (cs.map Cl.d)) (.lst (ws.map D.int)) (.lst (ps.map D.int)) cs _ ps rfl rfl rfl hn hl hl2 hc (by simp; omega) (by simp) nk
  have e2 := q_heights n (.lst (cs.map Cl.d)) (.lst (ps.map D.int)) cs ps rfl rfl hn hl (by omega) hc
  have e3 := q_check_numbers (.lst (ws.map D.int)) _ n rfl (by simp; omega) (by simp)
  rw [nk] at e3
  have rp := rep0 n (by omega)
  have e4 : f_loose_places [.sh (.int n), .sh (.lst (cs.map Cl.d)), .sh (.lst (ws.map D.int)), .sh (.lst ((List.replicate n (0 : Int)).map D.int)), .sh (.lst (ps.map D.int))] = .ex ⟨7, [], []⟩ [.sh (.int n), .sh (.lst (cs.map Cl.d)), .sh (.lst (ws.map D.int)), .sh (.lst ((List.replicate n (0 : Int)).map D.int)), .sh (.lst (ps.map D.int))] := by
    rw [u_loose_places]
    unfold d_loose_places
    simp [e2, e3]
  have ct : ct_BadNumbers 7 = some true := rfl
  rw [u__law_weights_refused]
  unfold d__law_weights_refused
  simp [-List.map_replicate, e1, e4, rp, ct]
theorem q_pattern_weight_bad (x y : D) (ds : List D) (hy : itsD y = some ds) (hl : ds.length ≤ 1000) (hn : ds.all noIns = true) (hb : ds.all is01 = false) : f_pattern_weight [.sh x, .sh y] = .ex ⟨5, [], []⟩ [.sh x, .sh y] := by
  have e1 := q_check_entries y ds hy (by omega) hn
  rw [hb] at e1
  rw [u_pattern_weight]
  unfold d_pattern_weight
  simp [e1]
theorem q_pattern_weight_badn (x y : D) (ws ds : List D) (hx : itsD x = some ws) (hy : itsD y = some ds) (hw : ws.length ≤ 1000) (hwn : ws.all noIns = true) (hl : ds.length ≤ 1000) (hn : ds.all noIns = true) (hg : ds.all is01 = true) (hb : numOk ws ds.length = false) :
    f_pattern_weight [.sh x, .sh y] = .ex ⟨7, [], []⟩ [.sh x, .sh y] := by
  have e1 := q_check_entries y ds hy (by omega) hn
  rw [hg] at e1
  have e2 := q_check_numbers x ws ds.length hx (by omega) hwn
  rw [hb] at e2
  have hle := oLen_its hy
  rw [u_pattern_weight]
  unfold d_pattern_weight
  simp [e1, e2, hle]
theorem numOk_len {ds : List D} {n : Int} (h : (ds.length : Int) ≠ n) : numOk ds n = false := by
  unfold numOk
  rw [decide_eq_false h]
  rfl
theorem q_other_refused (n : Nat) (cs : List Cl) (ws ps : List Int) (hn : n ≤ 100) (hw : ws.length = n) (hl : ps.length = cs.length) (hl2 : cs.length ≤ 100) (hc : ∀ c ∈ cs, c.ok n = true) :
    f__law_other_refused [.sh (.int n), .sh (.lst (cs.map Cl.d)), .sh (.lst (ws.map D.int)), .sh (.lst (ps.map D.int))] = .ok (.sh (.bl true)) [.sh (.int n), .sh (.lst (cs.map Cl.d)), .sh (.lst (ws.map D.int)), .sh (.lst (ps.map D.int))] := by
  have k1 := cat_ok (ps.map D.int) (.int 0) (by simp; omega)
  have k2 := cat_ok (ws.map D.int) (.int 1) (by simp; omega)
  have k3 := cat_ok ((List.replicate n (0 : Int)).map D.int) (.int 2) (by simp; omega)
  have k4 := cat_ok (ws.map D.int) (.bl true) (by simp; omega)
  have k5 := cat_ok ((List.replicate n (0 : Int)).map D.int) (.int 1) (by simp; omega)
  have rp := rep0 n (by omega)
  have e1 := q_heights_bad n (.lst (cs.map Cl.d)) (.lst (ps.map D.int ++ [.int 0])) cs _ rfl rfl (by simp; omega) (by simp) (numOk_len (by simp; omega)) hc
  have e2 := q_shows_lightest_badw n (.lst (cs.map Cl.d)) (.lst (ws.map D.int ++ [.int 1])) (.lst (ps.map D.int)) (.lst ((List.replicate n (0 : Int)).map D.int)) cs _ rfl rfl (by simp; omega) (by simp) hc (numOk_len (by simp; omega))
  have e3 := q_pattern_weight_bad (.lst (ws.map D.int)) (.lst ((List.replicate n (0 : Int)).map D.int ++ [.int 2])) _ rfl (by simp; omega) (by simp) (by simp [is01])
  have g5 : ((List.replicate n (0 : Int)).map D.int ++ [D.int 1]).all is01 = true := by
    rw [List.all_append]
    simp [is01]
  have e4 := q_pattern_weight_badn (.lst (ws.map D.int ++ [.bl true])) (.lst ((List.replicate n (0 : Int)).map D.int ++ [.int 1])) _ _ rfl rfl (by simp; omega) (by simp) (by simp; omega) (by simp) g5 (by
    unfold numOk
    rw [List.all_append]
    simp)
  have ct : ct_BadNumbers 7 = some true := rfl
  have ct5 : ct_BadPattern 5 = some true := rfl
  generalize hR : (List.replicate n (0 : Int)).map D.int = R at *
  rw [u__law_other_refused]
  unfold d__law_other_refused
  simp [e1, e2, e3, e4, rp, k1, k2, k3, k4, k5, ct, ct5]
end VH
end
section
set_option maxHeartbeats 4000000
set_option maxRecDepth 100000
namespace VH
open PySem VL
/-! arcs, ways -/
inductive Aw where
  | up | flat | most | least | down
  deriving DecidableEq
def Aw.s : Aw → Str
  | .up => "up"
  | .flat => "flat"
  | .most => "most"
  | .least => "least"
  | .down => "down"
structure Ar where
  w : Aw
  p : Int
  deriving DecidableEq
def Ar.d (a : Ar) : D := .tup [.str a.w.s, .int a.p]
def arOk (n m : Nat) (a : Ar) : Bool := decide (0 ≤ a.p) && (match a.w with
  | .up => decide (a.p < n)
  | .flat => decide (a.p < n)
  | .most => decide (a.p < m)
  | .least => decide (a.p < m)
  | .down => false)
/-- start, end, cost -/
structure Ln where
  s : Int
  e : Int
  c : Int
def clAt (cs : List Cl) (i : Int) : Cl := cs.getD i.toNat ⟨0, 0, 0, 0⟩
def arL (cs : List Cl) (a : Ar) : Ln := match a.w with
  | .up => ⟨a.p, a.p + 1, 1⟩
  | .flat => ⟨a.p + 1, a.p, 0⟩
  | .most => ⟨(clAt cs a.p).lo, (clAt cs a.p).hi, (clAt cs a.p).mx⟩
  | .least => ⟨(clAt cs a.p).hi, (clAt cs a.p).lo, -(clAt cs a.p).mn⟩
  | .down => ⟨0, 0, 0⟩
abbrev Wst := Option (Int × Int) × Int
def stepW (n : Nat) (cs : List Cl) (b : Wst) (a : Ar) : Option Wst := if arOk n cs.length a = true then (match b.1 with
    | none => some (some ((arL cs a).s, (arL cs a).e), b.2 + (arL cs a).c)
    | some (s, e) => if (arL cs a).s = e then some (some (s, (arL cs a).e), b.2 + (arL cs a).c) else none)
  else none
/-- a way's line -/
def wayL (n : Nat) (cs : List Cl) : List Ar → Wst → Option Wst
  | [], b => some b
  | a :: as, b => match stepW n cs b a with
    | some b' => wayL n cs as b'
    | none => none
def isBad (n : Nat) (cs : List Cl) (as : List Ar) : Bool := match wayL n cs as (none, 0) with
  | some (some (s, e), t) => decide (s = e) && decide (t < 0)
  | _ => false
/-- a path by its arcs -/
inductive Pth (n : Nat) (cs : List Cl) : Int → Int → List Ar → Int → Prop where
  | nil (u : Int) : Pth n cs u u [] 0
  | cons {u v : Int} {a : Ar} {as : List Ar} {t : Int} (h : arOk n cs.length a = true) (hu : (arL cs a).s = u) (r : Pth n cs (arL cs a).e v as t) : Pth n cs u v (a :: as) ((arL cs a).c + t)
theorem Pth.append {n : Nat} {cs : List Cl} {u v w : Int} {as bs : List Ar} {t r : Int} (h : Pth n cs u v as t) (k : Pth n cs v w bs r) : Pth n cs u w (as ++ bs) (t + r) := by
  induction h with
  | nil u => simpa using k
  | cons h hu _ ih =>
    have z := Pth.cons h hu (ih k)
    rw [← Int.add_assoc] at z
    exact z
theorem Pth.one {n : Nat} {cs : List Cl} {a : Ar} (h : arOk n cs.length a = true) : Pth n cs (arL cs a).s (arL cs a).e [a] (arL cs a).c := by
  have z := Pth.cons (u := (arL cs a).s) h rfl (Pth.nil _)
  simpa using z
theorem Pth.split {n : Nat} {cs : List Cl} : ∀ {as bs : List Ar} {u w t : Int}, Pth n cs u w (as ++ bs) t → ∃ v r q, Pth n cs u v as r ∧ Pth n cs v w bs q ∧ t = r + q
  | [], bs, u, w, t, h => ⟨u, 0, t, .nil u, h, by omega⟩
  | a :: as, bs, u, w, t, h => by
    cases h with
    | cons h hu r =>
      obtain ⟨v, r', q, h1, h2, rfl⟩ := Pth.split r
      exact ⟨v, _, q, .cons h hu h1, h2, by omega⟩
theorem wayL_some {n : Nat} {cs : List Cl} : ∀ (as : List Ar) (s e t : Int) (b : Wst), wayL n cs as (some (s, e), t) = some b ↔ ∃ v r, Pth n cs e v as r ∧ b = (some (s, v), t + r)
  | [], s, e, t, b => by
    constructor
    · intro h
      cases h
      exact ⟨e, 0, .nil e, by rw [Int.add_zero]⟩
    · rintro ⟨v, r, h, rfl⟩
      cases h
      rw [Int.add_zero]
      rfl
  | a :: as, s, e, t, b => by
    unfold wayL stepW
    by_cases ha : arOk n cs.length a = true
    · simp only [ha, if_true]
      by_cases hs : (arL cs a).s = e
      · simp only [hs, if_true]
        rw [wayL_some as]
        constructor
        · rintro ⟨v, r, h, rfl⟩
          exact ⟨v, _, .cons ha hs h, by rw [Int.add_assoc]⟩
        · rintro ⟨v, r, h, rfl⟩
          cases h with
          | cons h hu k => exact ⟨v, _, k, by rw [Int.add_assoc]⟩
      · simp only [hs, if_false]
        constructor
        · intro h; cases h
        · rintro ⟨v, r, h, rfl⟩
          cases h with
          | cons h hu k => exact absurd hu hs
    · simp only [ha]
      constructor
      · intro h; simp at h
      · rintro ⟨v, r, h, rfl⟩
        cases h with
        | cons h hu k => exact absurd h ha
theorem wayL_none {n : Nat} {cs : List Cl} (as : List Ar) (ha : as ≠ []) (b : Wst) : wayL n cs as (none, 0) = some b ↔ ∃ u v r, Pth n cs u v as r ∧ b = (some (u, v), r) := by
  cases as with
  | nil => exact absurd rfl ha
  | cons a as =>
    unfold wayL stepW
    by_cases h : arOk n cs.length a = true
    · simp only [h, if_true]
      rw [wayL_some as]
      constructor
      · rintro ⟨v, r, k, rfl⟩
        exact ⟨_, v, _, .cons h rfl k, by rw [Int.zero_add]⟩
      · rintro ⟨u, v, r, k, rfl⟩
        cases k with
        | cons h hu k => exact ⟨v, _, k, by rw [Int.zero_add, hu]⟩
    · simp only [h]
      constructor
      · intro z; simp at z
      · rintro ⟨u, v, r, k, rfl⟩
        cases k with
        | cons h' hu k => exact absurd h' h
theorem isBad_iff {n : Nat} {cs : List Cl} (as : List Ar) : isBad n cs as = true ↔ as ≠ [] ∧ ∃ u t, Pth n cs u u as t ∧ t < 0 := by
  unfold isBad
  by_cases h : as = []
  · subst h
    simp [wayL]
  · cases e : wayL n cs as (none, 0) with
    | none =>
      constructor
      · intro z; cases z
      · rintro ⟨_, u, t, k, _⟩
        have := (wayL_none as h (some (u, u), t)).mpr ⟨u, u, t, k, rfl⟩
        rw [e] at this
        cases this
    | some b =>
      obtain ⟨u, v, r, k, rfl⟩ := (wayL_none as h b).mp e
      simp only [Bool.and_eq_true, decide_eq_true_iff]
      constructor
      · rintro ⟨rfl, z⟩
        exact ⟨h, u, r, k, z⟩
      · rintro ⟨_, u', t, k', ht⟩
        have z := (wayL_none as h (some (u', u'), t)).mpr ⟨u', u', t, k', rfl⟩
        rw [e] at z
        simp only [Option.some.injEq, Prod.mk.injEq] at z
        obtain ⟨⟨z1, z2⟩, z3⟩ := z
        omega
/-! potentials -/
/-- a potential keeps an arc -/
def keeps (cs : List Cl) (P : Int → Int) (a : Ar) : Prop := P (arL cs a).e ≤ P (arL cs a).s + (arL cs a).c
theorem Pth.pot {n : Nat} {cs : List Cl} {P : Int → Int} (hP : ∀ a, arOk n cs.length a = true → keeps cs P a) {u v : Int} {as : List Ar} {t : Int} (h : Pth n cs u v as t) : P v ≤ P u + t := by
  induction h with
  | nil u => omega
  | cons h hu _ ih =>
    have z := hP _ h
    unfold keeps at z
    rw [hu] at z
    omega
/-- the sums of a pattern -/
def pS (ns : List Int) (i : Int) : Int := (ns.take i.toNat).sum
theorem seg_pS (ns : List Int) (a b : Int) : seg ns a b = pS ns b - pS ns a := rfl
theorem clAt_mem {cs : List Cl} {i : Int} (h0 : 0 ≤ i) (h1 : i < cs.length) : clAt cs i ∈ cs := by
  unfold clAt
  have : i.toNat < cs.length := by omega
  rw [List.getD_eq_getElem?_getD, List.getElem?_eq_getElem this]
  exact List.getElem_mem this
theorem pS_succ (ns : List Int) (i : Int) (h0 : 0 ≤ i) (h1 : i < ns.length) : pS ns (i + 1) = pS ns i + gI ns i := by
  unfold pS
  have e : (i + 1).toNat = i.toNat + 1 := by omega
  rw [e, take_sum_succ ns i.toNat (by omega)]
  have : ((i.toNat : Nat) : Int) = i := by omega
  rw [this]
theorem arOk_iff (n m : Nat) (a : Ar) : arOk n m a = true ↔ 0 ≤ a.p ∧ a.w ≠ .down ∧ ((a.w = .up ∨ a.w = .flat) → a.p < n) ∧ ((a.w = .most ∨ a.w = .least) → a.p < m) := by
  unfold arOk
  cases a with
  | mk w p => cases w <;> simp
theorem fits_keeps {n : Nat} {cs : List Cl} {ns : List Int} (hl : ns.length = n) (hp : pat ns = true) (hf : ∀ c ∈ cs, c.fits ns = true) (a : Ar) (ha : arOk n cs.length a = true) : keeps cs (pS ns) a := by
  obtain ⟨h0, hd, h1, h2⟩ := (arOk_iff _ _ _).mp ha
  unfold keeps arL
  cases hw : a.w with
  | up =>
    have h1 := h1 (.inl hw)
    have z := pS_succ ns a.p h0 (by omega)
    have y := pat_gI hp a.p
    simp only
    omega
  | flat =>
    have h1 := h1 (.inr hw)
    have z := pS_succ ns a.p h0 (by omega)
    have y := pat_gI hp a.p
    simp only
    omega
  | most =>
    have h2 := h2 (.inl hw)
    have z := (fits_iff _ _).mp (hf _ (clAt_mem h0 h2))
    rw [seg_pS] at z
    simp only
    omega
  | least =>
    have h2 := h2 (.inr hw)
    have z := (fits_iff _ _).mp (hf _ (clAt_mem h0 h2))
    rw [seg_pS] at z
    simp only
    omega
  | down => exact absurd hw hd
/-- the pattern of a potential -/
def ptn (n : Nat) (P : Int → Int) : List Int := (List.range n).map fun (i : Nat) => P (i + 1) - P i
theorem ptn_len (n : Nat) (P : Int → Int) : (ptn n P).length = n := by simp [ptn]
theorem ptn_sum (n : Nat) (P : Int → Int) : ∀ m : Nat, m ≤ n → ((ptn n P).take m).sum = P m - P 0
  | 0, _ => by simp
  | m + 1, h => by
    have ih := ptn_sum n P m (by omega)
    rw [take_sum_succ _ m (by rw [ptn_len]; omega), ih, gI_nat _ _ (by rw [ptn_len]; omega)]
    simp only [ptn, List.getElem_map, List.getElem_range]
    have e : (((m + 1 : Nat) : Int)) = (m : Int) + 1 := by omega
    rw [e]
    omega
theorem ptn_pS (n : Nat) (P : Int → Int) (i : Int) (h0 : 0 ≤ i) (h1 : i ≤ n) : pS (ptn n P) i = P i - P 0 := by
  unfold pS
  rw [ptn_sum n P i.toNat (by omega)]
  have : ((i.toNat : Nat) : Int) = i := by omega
  rw [this]
theorem ptn_pat {n : Nat} {cs : List Cl} {P : Int → Int} (hP : ∀ a, arOk n cs.length a = true → keeps cs P a) : pat (ptn n P) = true := by
  unfold pat
  rw [List.all_eq_true]
  intro x hx
  obtain ⟨i, hi, rfl⟩ := List.mem_map.mp hx
  have hi := List.mem_range.mp hi
  have z1 := hP ⟨.up, i⟩ ((arOk_iff _ _ _).mpr ⟨by simp, by simp, by simp [hi], by simp⟩)
  have z2 := hP ⟨.flat, i⟩ ((arOk_iff _ _ _).mpr ⟨by simp, by simp, by simp [hi], by simp⟩)
  unfold keeps arL at z1 z2
  simp only at z1 z2
  have : P (↑i + 1) - P ↑i = 0 ∨ P (↑i + 1) - P ↑i = 1 := by omega
  simpa using this
theorem clAt_get {cs : List Cl} {c : Cl} (h : c ∈ cs) : ∃ i : Nat, i < cs.length ∧ clAt cs i = c := by
  obtain ⟨i, hi, rfl⟩ := List.getElem_of_mem h
  exact ⟨i, hi, by unfold clAt; simp [List.getD, hi]⟩
theorem ptn_fits {n : Nat} {cs : List Cl} {P : Int → Int} (hc : ∀ c ∈ cs, c.ok n = true) (hP : ∀ a, arOk n cs.length a = true → keeps cs P a) (c : Cl) (hm : c ∈ cs) : c.fits (ptn n P) = true := by
  obtain ⟨i, hi, e⟩ := clAt_get hm
  obtain ⟨h1, h2, h3, h4⟩ := okC (hc c hm)
  have z1 := hP ⟨.most, i⟩ ((arOk_iff _ _ _).mpr ⟨by simp, by simp, by simp, by simp [hi]⟩)
  have z2 := hP ⟨.least, i⟩ ((arOk_iff _ _ _).mpr ⟨by simp, by simp, by simp, by simp [hi]⟩)
  unfold keeps arL at z1 z2
  simp only [e] at z1 z2
  rw [fits_iff, seg_pS, ptn_pS n P c.hi (by omega) (by omega), ptn_pS n P c.lo (by omega) (by omega)]
  omega
def fitAll (n : Nat) (cs : List Cl) (ns : List Int) : Prop := ns.length = n ∧ pat ns = true ∧ ∀ c ∈ cs, c.fits ns = true
theorem bad_unmet {n : Nat} {cs : List Cl} {as : List Ar} (h : isBad n cs as = true) {ns : List Int} (hf : fitAll n cs ns) : False := by
  obtain ⟨_, u, t, k, ht⟩ := (isBad_iff as).mp h
  have := k.pot (P := pS ns) (fun a ha => fits_keeps hf.1 hf.2.1 hf.2.2 a ha)
  omega
theorem isBad_rot {n : Nat} {cs : List Cl} (as bs : List Ar) (h : isBad n cs (as ++ bs) = true) : isBad n cs (bs ++ as) = true := by
  obtain ⟨h1, u, t, k, ht⟩ := (isBad_iff _).mp h
  obtain ⟨v, r, q, k1, k2, rfl⟩ := Pth.split k
  refine (isBad_iff _).mpr ⟨?_, v, q + r, k2.append k1, by omega⟩
  intro z
  apply h1
  simp at z ⊢
  exact ⟨z.2, z.1⟩
end VH
end
section
set_option maxHeartbeats 4000000
set_option maxRecDepth 100000
namespace VH
open PySem VL
/-! relaxing, with ghosts: the round and the time at which a place was lowered last -/
def oAt {α : Type} (S : List (Option α)) (i : Int) : Option α := S.getD i.toNat none
theorem oAt_set {α : Type} (S : List (Option α)) (i j : Int) (x : Option α) (h0 : 0 ≤ i) (h1 : i < S.length) (hj : 0 ≤ j) : oAt (S.set i.toNat x) j = if j = i then x else oAt S j := by
  unfold oAt
  simp only [List.getD_eq_getElem?_getD]
  by_cases h : j = i
  · subst h
    rw [if_pos rfl, List.getElem?_set_self (by omega)]
    rfl
  · rw [if_neg h, List.getElem?_set_ne (by omega)]
structure BF where
  S : List (Option Int)
  L : List (Option (Int × Ar))
  low : Option Int
  R : Int → Nat
  T : Int → Nat
  k : Nat
def BF.up (b : BF) (r : Nat) (s e t : Int) (a : Ar) : BF := ⟨b.S.set e.toNat (some t), b.L.set e.toNat (some (s, a)), some e, fun v => if v = e then r else b.R v, fun v => if v = e then b.k + 1 else b.T v, b.k + 1⟩
def lowers (S : List (Option Int)) (l : Ln) : Option Int := match oAt S l.s with
  | none => none
  | some x => match oAt S l.e with
    | none => some (x + l.c)
    | some y => if x + l.c < y then some (x + l.c) else none
def relax (cs : List Cl) (r : Nat) (b : BF) (a : Ar) : BF := match lowers b.S (arL cs a) with
  | none => b
  | some t => b.up r (arL cs a).s (arL cs a).e t a
theorem arL_range {n : Nat} {cs : List Cl} (hc : ∀ c ∈ cs, c.ok n = true) {a : Ar} (ha : arOk n cs.length a = true) : 0 ≤ (arL cs a).s ∧ (arL cs a).s ≤ n ∧ 0 ≤ (arL cs a).e ∧ (arL cs a).e ≤ n ∧ (arL cs a).s ≠ (arL cs a).e := by
  obtain ⟨h0, hd, h1, h2⟩ := (arOk_iff _ _ _).mp ha
  unfold arL
  cases hw : a.w with
  | up => have := h1 (.inl hw); simp only; omega
  | flat => have := h1 (.inr hw); simp only; omega
  | most =>
    obtain ⟨z1, z2, z3, z4⟩ := okC (hc _ (clAt_mem h0 (h2 (.inl hw))))
    simp only; omega
  | least =>
    obtain ⟨z1, z2, z3, z4⟩ := okC (hc _ (clAt_mem h0 (h2 (.inr hw))))
    simp only; omega
  | down => exact absurd hw hd
/-- nothing to be lowered by an arc -/
def okA (cs : List Cl) (S : List (Option Int)) (a : Ar) : Prop := ∀ x, oAt S (arL cs a).s = some x → ∃ y, oAt S (arL cs a).e = some y ∧ y ≤ x + (arL cs a).c
theorem lowers_none {S : List (Option Int)} {cs : List Cl} {a : Ar} (h : lowers S (arL cs a) = none) : okA cs S a := by
  intro x hx
  unfold lowers at h
  rw [hx] at h
  simp only at h
  cases e : oAt S (arL cs a).e with
  | none => rw [e] at h; cases h
  | some y =>
    rw [e] at h
    simp only at h
    by_cases hy : x + (arL cs a).c < y
    · rw [if_pos hy] at h; cases h
    · exact ⟨y, rfl, by omega⟩
theorem lowers_some {S : List (Option Int)} {l : Ln} {t : Int} (h : lowers S l = some t) : ∃ x, oAt S l.s = some x ∧ t = x + l.c ∧ ∀ y, oAt S l.e = some y → t < y := by
  unfold lowers at h
  cases hx : oAt S l.s with
  | none => rw [hx] at h; cases h
  | some x =>
    rw [hx] at h
    simp only at h
    cases e : oAt S l.e with
    | none =>
      rw [e] at h
      cases h
      exact ⟨x, rfl, rfl, fun y z => by cases z⟩
    | some y =>
      rw [e] at h
      simp only at h
      by_cases hy : x + l.c < y
      · rw [if_pos hy] at h
        cases h
        exact ⟨x, rfl, rfl, fun y' z => by cases z; exact hy⟩
      · rw [if_neg hy] at h; cases h
structure BInv (n : Nat) (cs : List Cl) (b : BF) : Prop where
  lS : b.S.length = n + 1
  lL : b.L.length = n + 1
  clk : ∀ v, b.T v ≤ b.k
  prd : ∀ (v u : Int) (a : Ar), 0 ≤ v → v ≤ n → oAt b.L v = some (u, a) → arOk n cs.length a = true ∧ (arL cs a).s = u ∧ (arL cs a).e = v ∧ ∃ x y, oAt b.S u = some x ∧ oAt b.S v = some y ∧ x + (arL cs a).c ≤ y ∧ (x + (arL cs a).c < y ∨ b.T u < b.T v)
  rnd : ∀ v : Int, 0 ≤ v → v ≤ n → 1 ≤ b.R v → ∃ u a, oAt b.L v = some (u, a) ∧ b.R v ≤ b.R u + 1
/-- within round r, the arcs of pre done -/
structure BRd (n : Nat) (cs : List Cl) (r : Nat) (pre : List Ar) (b : BF) : Prop where
  I : BInv n cs b
  A : ∀ a, arOk n cs.length a = true → b.R (arL cs a).s + 1 < r → okA cs b.S a
  B : ∀ a ∈ pre, arOk n cs.length a = true → b.R (arL cs a).s < r → okA cs b.S a
  le : ∀ v, b.R v ≤ r
  lo : ∀ v : Int, b.low = some v → 0 ≤ v ∧ v ≤ n ∧ b.R v = r
  no : b.low = none → ∀ v, b.R v < r
theorem BRd.step {n : Nat} {cs : List Cl} (hc : ∀ c ∈ cs, c.ok n = true) {r : Nat} (hr : 1 ≤ r) {pre : List Ar} {b : BF} (h : BRd n cs r pre b) {a : Ar} (ha : arOk n cs.length a = true) : BRd n cs r (pre ++ [a]) (relax cs r b a) := by
  obtain ⟨g1, g2, g3, g4, g5⟩ := arL_range hc ha
  unfold relax
  cases hl : lowers b.S (arL cs a) with
  | none =>
    refine ⟨h.I, h.A, fun a' ha' hk hR => ?_, h.le, h.lo, h.no⟩
    rcases List.mem_append.mp ha' with ha' | ha'
    · exact h.B a' ha' hk hR
    · rw [List.mem_singleton] at ha'
      subst ha'
      exact lowers_none hl
  | some t =>
    obtain ⟨x, hx, rfl, hy⟩ := lowers_some hl
    simp only
    have sS : ∀ v, 0 ≤ v → oAt (b.S.set (arL cs a).e.toNat (some (x + (arL cs a).c))) v = if v = (arL cs a).e then some (x + (arL cs a).c) else oAt b.S v := fun v hv => oAt_set _ _ _ _ g3 (by rw [h.I.lS]; omega) hv
    have sL : ∀ v, 0 ≤ v → oAt (b.L.set (arL cs a).e.toNat (some ((arL cs a).s, a))) v = if v = (arL cs a).e then some ((arL cs a).s, a) else oAt b.L v := fun v hv => oAt_set _ _ _ _ g3 (by rw [h.I.lL]; omega) hv
    -- an arc that was kept, and does not start at the lowered place, is kept
    have kp : ∀ a', arOk n cs.length a' = true → (arL cs a').s ≠ (arL cs a).e → okA cs b.S a' → okA cs (b.S.set (arL cs a).e.toNat (some (x + (arL cs a).c))) a' := fun a' ha' hne ho x' hx' => by
      obtain ⟨k1, k2, k3, k4, k5⟩ := arL_range hc ha'
      rw [sS _ k1, if_neg hne] at hx'
      obtain ⟨y, hy', hle⟩ := ho x' hx'
      rw [sS _ k3]
      by_cases he : (arL cs a').e = (arL cs a).e
      · rw [if_pos he]
        rw [he] at hy'
        have := hy y hy'
        exact ⟨_, rfl, by omega⟩
      · rw [if_neg he]
        exact ⟨y, hy', hle⟩
    refine ⟨⟨?_, ?_, ?_, ?_, ?_⟩, ?_, ?_, ?_, ?_, ?_⟩
    · simp [BF.up, h.I.lS]
    · simp [BF.up, h.I.lL]
    · intro v
      have := h.I.clk v
      simp only [BF.up]
      split <;> omega
    · intro v u a' hv0 hv1 hL
      simp only [BF.up] at hL ⊢
      rw [sL v hv0] at hL
      by_cases hv : v = (arL cs a).e
      · rw [if_pos hv] at hL
        cases hL
        refine ⟨ha, rfl, hv.symm, x, x + (arL cs a).c, ?_, ?_, Int.le_refl _, .inr ?_⟩
        · rw [sS _ g1, if_neg g5]; exact hx
        · rw [sS _ hv0, if_pos hv]
        · rw [if_neg g5, if_pos hv]
          have := h.I.clk (arL cs a).s
          omega
      · rw [if_neg hv] at hL
        obtain ⟨q1, q2, q3, x', y', hx', hy', q4, q5⟩ := h.I.prd v u a' hv0 hv1 hL
        obtain ⟨k1, k2, k3, k4, k5⟩ := arL_range hc q1
        rw [q2] at k1
        refine ⟨q1, q2, q3, ?_⟩
        by_cases hu : u = (arL cs a).e
        · subst hu
          have := hy x' hx'
          exact ⟨x + (arL cs a).c, y', by rw [sS _ k1, if_pos rfl], by rw [sS _ hv0, if_neg hv]; exact hy', by omega, .inl (by omega)⟩
        · refine ⟨x', y', by rw [sS _ k1, if_neg hu]; exact hx', by rw [sS _ hv0, if_neg hv]; exact hy', q4, ?_⟩
          rw [if_neg hu, if_neg hv]
          exact q5
    · intro v hv0 hv1 hR
      simp only [BF.up] at hR ⊢
      rw [sL v hv0]
      by_cases hv : v = (arL cs a).e
      · rw [if_pos hv, if_pos hv]
        refine ⟨_, _, rfl, ?_⟩
        rw [if_neg g5]
        by_cases hlt : b.R (arL cs a).s + 1 < r
        · obtain ⟨y, hy', hle⟩ := h.A a ha hlt x hx
          have := hy y hy'
          omega
        · omega
      · rw [if_neg hv] at hR
        rw [if_neg hv, if_neg hv]
        obtain ⟨u, a', e1, e2⟩ := h.I.rnd v hv0 hv1 hR
        refine ⟨u, a', e1, ?_⟩
        have hle := h.le v
        split <;> omega
    · intro a' ha' hR
      simp only [BF.up] at hR ⊢
      by_cases hs : (arL cs a').s = (arL cs a).e
      · rw [if_pos hs] at hR; omega
      · rw [if_neg hs] at hR
        exact kp a' ha' hs (h.A a' ha' hR)
    · intro a' ha' hk hR
      simp only [BF.up] at hR ⊢
      by_cases hs : (arL cs a').s = (arL cs a).e
      · rw [if_pos hs] at hR; omega
      · rw [if_neg hs] at hR
        rcases List.mem_append.mp ha' with ha' | ha'
        · exact kp a' hk hs (h.B a' ha' hk hR)
        · rw [List.mem_singleton] at ha'
          subst ha'
          intro x' hx'
          rw [sS _ g1, if_neg g5, hx] at hx'
          cases hx'
          exact ⟨_, by rw [sS _ g3, if_pos rfl], Int.le_refl _⟩
    · intro v
      have := h.le v
      simp only [BF.up]
      split <;> omega
    · intro v hv
      simp only [BF.up] at hv ⊢
      cases hv
      exact ⟨g3, g4, by rw [if_pos rfl]⟩
    · intro hv
      cases hv
end VH
end
section
set_option maxHeartbeats 4000000
set_option maxRecDepth 100000
namespace VH
open PySem VL
/-! rounds, rings -/
theorem BRd.all {n : Nat} {cs : List Cl} (hc : ∀ c ∈ cs, c.ok n = true) {r : Nat} (hr : 1 ≤ r) : ∀ (as : List Ar) (pre : List Ar) (b : BF), (∀ a ∈ as, arOk n cs.length a = true) → BRd n cs r pre b → BRd n cs r (pre ++ as) (as.foldl (relax cs r) b)
  | [], pre, b, _, h => by simpa using h
  | a :: as, pre, b, ha, h => by
    have z := BRd.all hc hr as (pre ++ [a]) _ (fun x hx => ha x (List.mem_cons_of_mem _ hx)) (h.step hc hr (ha a (List.mem_cons_self ..)))
    simpa using z
def BF.clr (b : BF) : BF := { b with low := none }
/-- as holds all arcs, and arcs alone -/
structure Full (n : Nat) (cs : List Cl) (as : List Ar) : Prop where
  ok : ∀ a ∈ as, arOk n cs.length a = true
  all : ∀ a, arOk n cs.length a = true → a ∈ as
theorem BRd.next {n : Nat} {cs : List Cl} {r : Nat} {as : List Ar} {b : BF} (hf : Full n cs as) (h : BRd n cs r as b) : BRd n cs (r + 1) [] b.clr where
  I := ⟨h.I.lS, h.I.lL, h.I.clk, h.I.prd, h.I.rnd⟩
  A := fun a ha hR => h.B a (hf.all a ha) ha (by simp only [BF.clr] at hR; omega)
  B := fun a ha => by cases ha
  le := fun v => by have := h.le v; simp only [BF.clr]; omega
  lo := fun v hv => by cases hv
  no := fun _ v => by have := h.le v; simp only [BF.clr]; omega
theorem BRd.done {n : Nat} {cs : List Cl} {r : Nat} {as : List Ar} {b : BF} (hf : Full n cs as) (h : BRd n cs r as b) (hl : b.low = none) : ∀ a, arOk n cs.length a = true → okA cs b.S a := fun a ha => h.B a (hf.all a ha) ha (h.no hl _)
def b0 (n : Nat) : BF := ⟨List.replicate (n + 1) (some 0), List.replicate (n + 1) none, none, fun _ => 0, fun _ => 0, 0⟩
theorem oAt_rep {α : Type} (m : Nat) (i : Int) : oAt (List.replicate m (none : Option α)) i = none := by
  unfold oAt
  rw [List.getD_eq_getElem?_getD, List.getElem?_replicate]
  split <;> rfl
theorem b0_ok (n : Nat) (cs : List Cl) : BRd n cs 1 [] (b0 n) where
  I := ⟨by simp [b0], by simp [b0], fun v => Nat.le_refl _, fun v u a _ _ h => (by simp only [b0, oAt_rep] at h; cases h), fun v _ _ h => (by simp [b0] at h)⟩
  A := fun a _ h => by simp only [b0] at h; omega
  B := fun a ha => by cases ha
  le := fun v => by simp [b0]
  lo := fun v hv => by cases hv
  no := fun _ v => by simp [b0]
/-- a place's forerunner, and the arc from it -/
def prV (L : List (Option (Int × Ar))) (v : Int) : Int := match oAt L v with
  | some (u, _) => u
  | none => v
def prA (L : List (Option (Int × Ar))) (v : Int) : Ar := match oAt L v with
  | some (_, a) => a
  | none => ⟨.up, 0⟩
def itV (L : List (Option (Int × Ar))) (v : Int) : Nat → Int
  | 0 => v
  | k + 1 => prV L (itV L v k)
theorem itV_add (L : List (Option (Int × Ar))) (v : Int) (i : Nat) : ∀ j, itV L v (i + j) = itV L (itV L v i) j
  | 0 => rfl
  | j + 1 => by
    show prV L (itV L v (i + j)) = prV L (itV L (itV L v i) j)
    rw [itV_add L v i j]
theorem php : ∀ (m : Nat) (f : Nat → Nat), (∀ k, k ≤ m → f k < m) → ∃ i j, i < j ∧ j ≤ m ∧ f i = f j
  | 0, f, h => by
    have := h 0 (Nat.le_refl _)
    omega
  | m + 1, f, h => by
    by_cases he : ∃ i, i ≤ m ∧ f i = f (m + 1)
    · obtain ⟨i, hi, e⟩ := he
      exact ⟨i, m + 1, by omega, Nat.le_refl _, e⟩
    · have hne : ∀ i, i ≤ m → f i ≠ f (m + 1) := fun i hi e => he ⟨i, hi, e⟩
      have hm := h (m + 1) (Nat.le_refl _)
      obtain ⟨i, j, hij, hj, e⟩ := php m (fun k => if f (m + 1) < f k then f k - 1 else f k) (fun k hk => by
        have h1 := h k (by omega)
        have h2 := hne k hk
        split <;> omega)
      refine ⟨i, j, hij, by omega, ?_⟩
      have h1 := hne i (by omega)
      have h2 := hne j hj
      split at e <;> split at e <;> omega
theorem chain {n : Nat} {cs : List Cl} (hc : ∀ c ∈ cs, c.ok n = true) {r : Nat} {as : List Ar} {b : BF} (h : BRd n cs r as b) {v : Int} (hv0 : 0 ≤ v) (hv1 : v ≤ n) (hr : b.R v = r) : ∀ k, k ≤ r → 0 ≤ itV b.L v k ∧ itV b.L v k ≤ n ∧ r ≤ b.R (itV b.L v k) + k
  | 0, _ => ⟨hv0, hv1, by show r ≤ b.R v + 0; omega⟩
  | k + 1, hk => by
    obtain ⟨h1, h2, h3⟩ := chain hc h hv0 hv1 hr k (by omega)
    obtain ⟨u, a, e1, e2⟩ := h.I.rnd _ h1 h2 (by omega)
    obtain ⟨q1, q2, q3, _⟩ := h.I.prd _ u a h1 h2 e1
    obtain ⟨k1, k2, k3, k4, k5⟩ := arL_range hc q1
    have e3 : itV b.L v (k + 1) = u := by
      show prV b.L (itV b.L v k) = u
      unfold prV
      rw [e1]
    rw [e3]
    rw [q2] at k1 k2
    exact ⟨k1, k2, by omega⟩
/-- from a place lowered in round n + 1 or later all forerunners are told; the places repeat -/
structure Cyc (n : Nat) (L : List (Option (Int × Ar))) (v : Int) : Prop where
  def_ : ∀ k, 0 ≤ itV L v k ∧ itV L v k ≤ n ∧ oAt L (itV L v k) ≠ none
  per : ∃ i p, 1 ≤ p ∧ i + p ≤ n + 1 ∧ itV L v (i + p) = itV L v i
theorem cyc {n : Nat} {cs : List Cl} (hc : ∀ c ∈ cs, c.ok n = true) {r : Nat} {as : List Ar} {b : BF} (h : BRd n cs r as b) {v : Int} (hv0 : 0 ≤ v) (hv1 : v ≤ n) (hr : b.R v = r) (hn : n + 1 ≤ r) : Cyc n b.L v := by
  have ch := chain hc h hv0 hv1 hr
  obtain ⟨i, j, hij, hj, e⟩ := php (n + 1) (fun k => (itV b.L v k).toNat) (fun k hk => by
    obtain ⟨h1, h2, _⟩ := ch k (by omega)
    omega)
  have e : itV b.L v i = itV b.L v j := by
    obtain ⟨h1, h2, _⟩ := ch i (by omega)
    obtain ⟨h3, h4, _⟩ := ch j (by omega)
    omega
  have per : ∀ k, j ≤ k → itV b.L v k = itV b.L v (k - (j - i)) := fun k hk => by
    have e1 := itV_add b.L v j (k - j)
    have e2 := itV_add b.L v i (k - j)
    rw [show j + (k - j) = k by omega] at e1
    rw [e1, ← e, ← e2]
    congr 1
    omega
  have red : ∀ m k, k ≤ m → ∃ k', k' < j ∧ itV b.L v k = itV b.L v k' := by
    intro m
    induction m with
    | zero => intro k hk; exact ⟨k, by omega, rfl⟩
    | succ m ih =>
      intro k hk
      by_cases hkj : k < j
      · exact ⟨k, hkj, rfl⟩
      · obtain ⟨k', h1, h2⟩ := ih (k - (j - i)) (by omega)
        exact ⟨k', h1, by rw [per k (by omega), h2]⟩
  refine ⟨fun k => ?_, i, j - i, by omega, by omega, ?_⟩
  · obtain ⟨k', h1, h2⟩ := red k k (Nat.le_refl _)
    rw [h2]
    obtain ⟨g1, g2, g3⟩ := ch k' (by omega)
    refine ⟨g1, g2, ?_⟩
    obtain ⟨u, a, e1, _⟩ := h.I.rnd _ g1 g2 (by omega)
    rw [e1]
    intro z
    cases z
  · rw [show i + (j - i) = j by omega]
    exact e.symm
theorem Cyc.pred {n : Nat} {L : List (Option (Int × Ar))} {v : Int} (h : Cyc n L v) (k : Nat) : oAt L (itV L v k) = some (itV L v (k + 1), prA L (itV L v k)) := by
  have z := (h.def_ k).2.2
  show _ = some (prV L (itV L v k), prA L (itV L v k))
  unfold prV prA
  cases e : oAt L (itV L v k) with
  | none => exact absurd e z
  | some p => rfl
/-- the path back from a place that lies on a round -/
theorem back {n : Nat} {cs : List Cl} {b : BF} (I : BInv n cs b) {v : Int} (h : Cyc n b.L v) (f : Nat) : ∀ m, ∃ t, Pth n cs (itV b.L v (f + m)) (itV b.L v f) (((List.range m).map fun k => prA b.L (itV b.L v (f + k))).reverse) t ∧
    ∃ x y, oAt b.S (itV b.L v (f + m)) = some x ∧ oAt b.S (itV b.L v f) = some y ∧ x + t ≤ y ∧ (1 ≤ m → x + t < y ∨ b.T (itV b.L v (f + m)) < b.T (itV b.L v f))
  | 0 => by
    obtain ⟨h1, h2, _⟩ := h.def_ f
    obtain ⟨q1, q2, q3, x, y, hx, hy, _⟩ := I.prd _ _ _ h1 h2 (h.pred f)
    exact ⟨0, .nil _, y, y, hy, hy, by omega, fun z => by omega⟩
  | m + 1 => by
    obtain ⟨t, hp, x, y, hx, hy, hle, hlt⟩ := back I h f m
    obtain ⟨h1, h2, _⟩ := h.def_ (f + m)
    obtain ⟨q1, q2, q3, x', y', hx', hy', q4, q5⟩ := I.prd _ _ _ h1 h2 (h.pred (f + m))
    rw [hx] at hy'
    cases hy'
    refine ⟨(arL cs (prA b.L (itV b.L v (f + m)))).c + t, ?_, x', y, hx', hy, by omega, fun _ => ?_⟩
    · rw [List.range_succ, List.map_append, List.reverse_append]
      simp only [List.map_cons, List.map_nil, List.reverse_cons, List.reverse_nil, List.nil_append, List.cons_append]
      refine .cons q1 q2 ?_
      rw [q3]
      exact hp
    · cases m with
      | zero => exact q5.imp (fun z => by omega) id
      | succ m =>
        rcases hlt (by omega) with g | g
        · exact .inl (by omega)
        · rcases q5 with q5 | q5
          · exact .inl (by omega)
          · exact .inr (Nat.lt_trans q5 g)
theorem ring_bad {n : Nat} {cs : List Cl} {b : BF} (I : BInv n cs b) {v : Int} (h : Cyc n b.L v) (f m : Nat) (hm : 1 ≤ m) (e : itV b.L v (f + m) = itV b.L v f) : isBad n cs (((List.range m).map fun k => prA b.L (itV b.L v (f + k))).reverse) = true := by
  obtain ⟨t, hp, x, y, hx, hy, hle, hlt⟩ := back I h f m
  rw [e] at hp hx hlt
  rw [hx] at hy
  cases hy
  refine (isBad_iff _).mpr ⟨?_, _, t, hp, ?_⟩
  · intro z
    have := congrArg List.length z
    simp at this
    omega
  · rcases hlt hm with z | z <;> omega
/-- from place f on the round comes back -/
theorem Cyc.ret {n : Nat} {L : List (Option (Int × Ar))} {v : Int} (h : Cyc n L v) : ∃ p, 1 ≤ p ∧ p ≤ n + 1 ∧ itV L v (n + 1 + p) = itV L v (n + 1) := by
  obtain ⟨i, p, h1, h2, e⟩ := h.per
  refine ⟨p, h1, by omega, ?_⟩
  have e1 := itV_add L v (i + p) (n + 1 - i)
  have e2 := itV_add L v i (n + 1 - i)
  rw [show i + p + (n + 1 - i) = n + 1 + p by omega] at e1
  rw [show i + (n + 1 - i) = n + 1 by omega] at e2
  rw [e1, e2, e]
/-! what is at rest is a potential -/
theorem rest_keeps {n : Nat} {cs : List Cl} (hc : ∀ c ∈ cs, c.ok n = true) {S : List (Option Int)} (hs : ∀ v : Int, 0 ≤ v → v ≤ n → ∃ x, oAt S v = some x) (ho : ∀ a, arOk n cs.length a = true → okA cs S a) (a : Ar) (ha : arOk n cs.length a = true) : keeps cs (fun v => (oAt S v).getD 0) a := by
  obtain ⟨k1, k2, k3, k4, k5⟩ := arL_range hc ha
  obtain ⟨x, hx⟩ := hs _ k1 k2
  obtain ⟨y, hy, hle⟩ := ho a ha x hx
  unfold keeps
  simp only [hx, hy, Option.getD_some]
  exact hle
theorem rest_fits {n : Nat} {cs : List Cl} (hc : ∀ c ∈ cs, c.ok n = true) {S : List (Option Int)} (hs : ∀ v : Int, 0 ≤ v → v ≤ n → ∃ x, oAt S v = some x) (ho : ∀ a, arOk n cs.length a = true → okA cs S a) : fitAll n cs (ptn n (fun v => (oAt S v).getD 0)) :=
  ⟨ptn_len _ _, ptn_pat (rest_keeps hc hs ho), fun c hm => ptn_fits hc (rest_keeps hc hs ho) c hm⟩
/-- what is set stays set -/
theorem relax_set {n : Nat} {cs : List Cl} (hc : ∀ c ∈ cs, c.ok n = true) {r : Nat} {b : BF} (hl : b.S.length = n + 1) {a : Ar} (ha : arOk n cs.length a = true) {v : Int} (hv : 0 ≤ v) (h : ∃ x, oAt b.S v = some x) : ∃ x, oAt (relax cs r b a).S v = some x := by
  obtain ⟨k1, k2, k3, k4, k5⟩ := arL_range hc ha
  unfold relax
  cases lowers b.S (arL cs a) with
  | none => exact h
  | some t =>
    simp only [BF.up]
    rw [oAt_set _ _ _ _ k3 (by omega) hv]
    split
    · exact ⟨_, rfl⟩
    · exact h
theorem relax_len (cs : List Cl) (r : Nat) (b : BF) (a : Ar) : (relax cs r b a).S.length = b.S.length := by
  unfold relax
  cases lowers b.S (arL cs a) <;> simp [BF.up]
theorem relaxAll_set {n : Nat} {cs : List Cl} (hc : ∀ c ∈ cs, c.ok n = true) {r : Nat} : ∀ (as : List Ar) (b : BF), (∀ a ∈ as, arOk n cs.length a = true) → b.S.length = n + 1 → ∀ v : Int, 0 ≤ v → (∃ x, oAt b.S v = some x) → ∃ x, oAt (as.foldl (relax cs r) b).S v = some x
  | [], b, _, _, v, _, h => h
  | a :: as, b, ha, hl, v, hv, h => relaxAll_set hc as _ (fun x hx => ha x (List.mem_cons_of_mem _ hx)) (by rw [relax_len]; exact hl) v hv (relax_set hc hl (ha a (List.mem_cons_self ..)) hv h)
end VH
end
section
set_option maxHeartbeats 4000000
set_option maxRecDepth 100000
namespace VH
open PySem VL
/-! the walk: arcs -/
@[simp] theorem eq_up (w : Aw) : oEq (.sh (.str w.s)) (.sh (.str ("up" : Str))) = some (.bl (decide (w = .up))) := by cases w <;> rfl
@[simp] theorem eq_flat (w : Aw) : oEq (.sh (.str w.s)) (.sh (.str ("flat" : Str))) = some (.bl (decide (w = .flat))) := by cases w <;> rfl
@[simp] theorem eq_most (w : Aw) : oEq (.sh (.str w.s)) (.sh (.str ("most" : Str))) = some (.bl (decide (w = .most))) := by cases w <;> rfl
@[simp] theorem eq_least (w : Aw) : oEq (.sh (.str w.s)) (.sh (.str ("least" : Str))) = some (.bl (decide (w = .least))) := by cases w <;> rfl
@[simp] theorem in_arcs (w : Aw) : oNotIn (.sh (.str w.s)) (.sh (.tup [.str ("up" : Str), .str ("flat" : Str), .str ("most" : Str), .str ("least" : Str)])) = some (.bl (decide (w = .down))) := by cases w <;> rfl
@[simp] theorem in_two (w : Aw) : oIn (.sh (.str w.s)) (.sh (.tup [.str ("up" : Str), .str ("flat" : Str)])) = some (.bl (decide (w = .up ∨ w = .flat))) := by cases w <;> rfl
@[simp] theorem ar_ix0 (a : Ar) : oIx (.sh a.d) (.sh (.int 0)) = some (.str a.w.s) := (rfl)
@[simp] theorem ar_ix1 (a : Ar) : oIx (.sh a.d) (.sh (.int 1)) = some (.int a.p) := (rfl)
@[simp] theorem ar_tup (a : Ar) : oIsi .tuple (.sh a.d) = some (.bl true) := (rfl)
@[simp] theorem ar_len (a : Ar) : oLen (.sh a.d) = some (.int 2) := (rfl)
@[simp] theorem str_isi (z : Str) : oIsi .str (.sh (.str z)) = some (.bl true) := (rfl)
theorem ixC (x : D) (cs : List Cl) (hx : itsD x = some (cs.map Cl.d)) (i : Int) (h0 : 0 ≤ i) (h1 : i < cs.length) : oIx (.sh x) (.sh (.int i)) = some (clAt cs i).d := by
  have e : L2.atI (cs.map Cl.d) i = some (clAt cs i).d := by
    have hn : i.toNat < cs.length := by omega
    unfold L2.atI
    rw [List.length_map, ixN_in _ _ h0 h1]
    simp [clAt, List.getD, hn]
  cases x with
  | tup l => cases hx; exact e
  | lst l => cases hx; exact e
  | _ => cases hx
theorem q_is_arc (n : Nat) (x : D) (cs : List Cl) (hx : itsD x = some (cs.map Cl.d)) (a : Ar) : f_is_arc [.sh (.int n), .sh x, .sh a.d] = .ok (.sh (.bl (arOk n cs.length a))) [.sh (.int n), .sh x, .sh a.d] := by
  have hle := oLen_its hx
  rw [List.length_map] at hle
  rw [u_is_arc]
  unfold d_is_arc
  unfold arOk
  obtain ⟨w, p⟩ := a
  by_cases h0 : 0 ≤ p
  · cases w <;> simp [hle, h0]
  · cases w <;> simp [hle, h0]
def Ln.d (l : Ln) : D := .tup [.int l.s, .int l.e, .int l.c]
theorem q_arc_line (n : Nat) (x : D) (cs : List Cl) (hx : itsD x = some (cs.map Cl.d)) (a : Ar) (ha : arOk n cs.length a = true) : f_arc_line [.sh x, .sh a.d] = .ok (.sh (arL cs a).d) [.sh x, .sh a.d] := by
  obtain ⟨h0, hd, h1, h2⟩ := (arOk_iff _ _ _).mp ha
  rw [u_arc_line]
  unfold d_arc_line
  unfold arL Ln.d
  obtain ⟨w, p⟩ := a
  have et : ∀ s : List Cell, gTup 2 (gsCons (gName 2) (gsCons (gName 3) gsNil)) (Ar.d ⟨w, p⟩) s = some ((s.set 2 (.sh (.str w.s))).set 3 (.sh (.int p))) := fun _ => rfl
  have ec : ∀ (c : Cl) (s : List Cell), gTup 4 (gsCons (gName 4) (gsCons (gName 5) (gsCons (gName 6) (gsCons (gName 7) gsNil)))) c.d s = some ((((s.set 4 (.sh (.int c.lo))).set 5 (.sh (.int c.hi))).set 6 (.sh (.int c.mn))).set 7 (.sh (.int c.mx))) := fun _ _ => rfl
  cases w with
  | up => simp [et]
  | flat => simp [et]
  | most =>
    have ic := ixC x cs hx p h0 (h2 (.inl rfl))
    simp [et, ic, ec]
  | least =>
    have ic := ixC x cs hx p h0 (h2 (.inr rfl))
    simp [et, ic, ec]
  | down => exact absurd rfl hd
def stepK (n : Nat) (cs : List Cl) (b : Wst) (q : Ar × Nat) : Tn Wst Nat := match stepW n cs b q.1 with
  | some b' => .go b'
  | none => .out q.2
theorem runK_ok (n : Nat) (cs : List Cl) : ∀ (as : List Ar) (k : Nat) (b b' : Wst), runT (stepK n cs) (as.zipIdx k) b = .inl b' ↔ wayL n cs as b = some b'
  | [], k, b, b' => by
    constructor
    · intro h; cases h; rfl
    · intro h; cases h; rfl
  | a :: as, k, b, b' => by
    rw [List.zipIdx_cons]
    unfold runT wayL stepK
    cases e : stepW n cs b a with
    | none =>
      constructor
      · intro h; cases h
      · intro h; cases h
    | some b2 => exact runK_ok n cs as (k + 1) b2 b'
def wS : Wst → D × D
  | (none, _) => (.non, .non)
  | (some (s, e), _) => (.int s, .int e)
theorem l_way_line (n : Nat) (x y : D) (cs : List Cl) (hx : itsD x = some (cs.map Cl.d)) (as : List Ar) (b : Wst) (j : J5) :
    (∀ b', wayL n cs as b = some b' → ∃ j' : J5, loopD lg_way_line_1 lb_way_line_1 (enumD 0 (as.map Ar.d)) [.sh (.int n), .sh x, .sh y, .sh (wS b).1, .sh (wS b).2, .sh (.int b.2), j.a, j.b, j.c, j.d, j.e] = .nx [.sh (.int n), .sh x, .sh y, .sh (wS b').1, .sh (wS b').2, .sh (.int b'.2), j'.a, j'.b, j'.c, j'.d, j'.e]) ∧
    (∀ k, runT (stepK n cs) as.zipIdx b = .inr k → ∃ (d1 d2 d3 : D) (j' : J5), loopD lg_way_line_1 lb_way_line_1 (enumD 0 (as.map Ar.d)) [.sh (.int n), .sh x, .sh y, .sh (wS b).1, .sh (wS b).2, .sh (.int b.2), j.a, j.b, j.c, j.d, j.e] = .ex ⟨6, ["place"], [.int k]⟩ [.sh (.int n), .sh x, .sh y, .sh d1, .sh d2, .sh d3, j'.a, j'.b, j'.c, j'.d, j'.e]) := by
  rw [enumD_enc]
  have z := loop_run (J := J5 × D × D × D) lg_way_line_1 lb_way_line_1 (enumE Ar.d) (fun (b : Wst) (j : J5 × D × D × D) => [.sh (.int n), .sh x, .sh y, .sh (wS b).1, .sh (wS b).2, .sh (.int b.2), j.1.a, j.1.b, j.1.c, j.1.d, j.1.e]) (stepK n cs) (fun (k : Nat) => .ex ⟨6, ["place"], [.int k]⟩) (fun _ (j : J5 × D × D × D) => [.sh (.int n), .sh x, .sh y, .sh j.2.1, .sh j.2.2.1, .sh j.2.2.2, j.1.a, j.1.b, j.1.c, j.1.d, j.1.e]) (fun _ => True) as.zipIdx b (j, .non, .non, .non) (fun b j q hq _ => by
    obtain ⟨a, k⟩ := q
    have e1 := q_is_arc n x cs hx a
    unfold stepK stepW
    by_cases ha : arOk n cs.length a = true
    · have e2 := q_arc_line n x cs hx a ha
      have et : ∀ s : List Cell, gTup 3 (gsCons (gName 8) (gsCons (gName 9) (gsCons (gName 10) gsNil))) (arL cs a).d s = some (((s.set 8 (.sh (.int (arL cs a).s))).set 9 (.sh (.int (arL cs a).e))).set 10 (.sh (.int (arL cs a).c))) := fun _ => rfl
      rw [ha] at e1
      obtain ⟨o, t⟩ := b
      cases o with
      | none =>
        simp only [ha, if_true]
        refine ⟨?_, trivial⟩
        simp [turnL_eq, lg_way_line_1, lb_way_line_1, e1, e2, et, wS]
        exact ⟨_, .non, .non, .non, rfl⟩
      | some o =>
        obtain ⟨s, e⟩ := o
        by_cases hs : (arL cs a).s = e
        · simp only [ha, hs, if_true]
          refine ⟨?_, trivial⟩
          simp [turnL_eq, lg_way_line_1, lb_way_line_1, e1, e2, et, wS, hs]
          exact ⟨_, .non, .non, .non, rfl⟩
        · simp only [ha, hs, if_true, if_false]
          simp [turnL_eq, lg_way_line_1, lb_way_line_1, e1, e2, et, wS, hs]
    · have ha' : arOk n cs.length a = false := by simpa using ha
      rw [ha'] at e1
      simp only [ha]
      simp [turnL_eq, lg_way_line_1, lb_way_line_1, e1]) trivial
  refine ⟨fun b' hb => ?_, fun k hk => ?_⟩
  · obtain ⟨⟨j', e⟩, _⟩ := z.1 b' ((runK_ok n cs as 0 b b').mpr hb)
    exact ⟨j'.1, e⟩
  · obtain ⟨j', e⟩ := z.2 k hk
    exact ⟨j'.2.1, j'.2.2.1, j'.2.2.2, j'.1, e⟩
theorem wayL_pair {n : Nat} {cs : List Cl} {as : List Ar} (ha : as ≠ []) {b : Wst} (h : wayL n cs as (none, 0) = some b) : ∃ s e t, b = (some (s, e), t) := by
  obtain ⟨u, v, r, _, e⟩ := (wayL_none as ha b).mp h
  exact ⟨u, v, r, e⟩
theorem q_way_line_ok (n : Nat) (x y : D) (cs : List Cl) (hx : itsD x = some (cs.map Cl.d)) (hc : ∀ c ∈ cs, c.ok n = true) (as : List Ar) (hy : itsD y = some (as.map Ar.d)) (ha : as ≠ []) (s e t : Int) (h : wayL n cs as (none, 0) = some (some (s, e), t)) :
    f_way_line [.sh (.int n), .sh x, .sh y] = .ok (.sh (.tup [.int s, .int e, .int t])) [.sh (.int n), .sh x, .sh y] := by
  have e1 := q_check_claims n x cs hx hc
  have hle := oLen_its hy
  have hty : oIsi2 .list .tuple (.sh y) = some (.bl true) := by cases y <;> first | rfl | cases hy
  obtain ⟨j, el⟩ := (l_way_line n x y cs hx as (none, 0) ⟨.un, .un, .un, .un, .un⟩).1 _ h
  simp only [wS] at el
  have ne : ¬ ((as.length : Int) = 0) := by
    cases as with
    | nil => exact absurd rfl ha
    | cons a as => rw [List.length_cons]; omega
  rw [List.length_map] at hle
  rw [u_way_line]
  unfold d_way_line
  simp [e1, hle, hty, ne, ha, hy, el]
theorem q_way_line_bad (n : Nat) (x y : D) (cs : List Cl) (hx : itsD x = some (cs.map Cl.d)) (hc : ∀ c ∈ cs, c.ok n = true) (as : List Ar) (hy : itsD y = some (as.map Ar.d)) (ha : as ≠ []) (k : Nat) (h : runT (stepK n cs) as.zipIdx (none, 0) = .inr k) :
    f_way_line [.sh (.int n), .sh x, .sh y] = .ex ⟨6, ["place"], [.int k]⟩ [.sh (.int n), .sh x, .sh y] := by
  have e1 := q_check_claims n x cs hx hc
  have hle := oLen_its hy
  have hty : oIsi2 .list .tuple (.sh y) = some (.bl true) := by cases y <;> first | rfl | cases hy
  obtain ⟨d1, d2, d3, j, el⟩ := (l_way_line n x y cs hx as (none, 0) ⟨.un, .un, .un, .un, .un⟩).2 _ h
  simp only [wS] at el
  have ne : ¬ ((as.length : Int) = 0) := by
    cases as with
    | nil => exact absurd rfl ha
    | cons a as => rw [List.length_cons]; omega
  rw [List.length_map] at hle
  rw [u_way_line]
  unfold d_way_line
  simp [e1, hle, hty, ne, ha, hy, el]
theorem q_way_line_nil (n : Nat) (x y : D) (cs : List Cl) (hx : itsD x = some (cs.map Cl.d)) (hc : ∀ c ∈ cs, c.ok n = true) (hy : itsD y = some []) :
    f_way_line [.sh (.int n), .sh x, .sh y] = .ex ⟨6, ["place"], [.int 0]⟩ [.sh (.int n), .sh x, .sh y] := by
  have e1 := q_check_claims n x cs hx hc
  have hle := oLen_its hy
  have hty : oIsi2 .list .tuple (.sh y) = some (.bl true) := by cases y <;> first | rfl | cases hy
  rw [u_way_line]
  unfold d_way_line
  simp [e1, hle, hty]
theorem runK_bad {n : Nat} {cs : List Cl} {as : List Ar} {b : Wst} (h : wayL n cs as b = none) : ∃ k, runT (stepK n cs) as.zipIdx b = .inr k := by
  cases e : runT (stepK n cs) as.zipIdx b with
  | inl b' =>
    have := (runK_ok n cs as 0 b b').mp e
    rw [h] at this
    cases this
  | inr k => exact ⟨k, rfl⟩
theorem q_shows_contrary (n : Nat) (x y : D) (cs : List Cl) (hx : itsD x = some (cs.map Cl.d)) (hc : ∀ c ∈ cs, c.ok n = true) (as : List Ar) (hy : itsD y = some (as.map Ar.d)) :
    f_shows_contrary [.sh (.int n), .sh x, .sh y] = .ok (.sh (.bl (isBad n cs as))) [.sh (.int n), .sh x, .sh y] := by
  have e1 := q_check_claims n x cs hx hc
  have ct : ct_BadArc 6 = some true := rfl
  rw [u_shows_contrary]
  unfold d_shows_contrary isBad
  by_cases ha : as = []
  · subst ha
    have e2 := q_way_line_nil n x y cs hx hc hy
    simp [e1, e2, ct, wayL]
  · cases e : wayL n cs as (none, 0) with
    | none =>
      obtain ⟨k, hk⟩ := runK_bad e
      have e2 := q_way_line_bad n x y cs hx hc as hy ha k hk
      simp [e1, e2, ct]
    | some b =>
      obtain ⟨s, en, t, rfl⟩ := wayL_pair ha e
      have e2 := q_way_line_ok n x y cs hx hc as hy ha s en t e
      by_cases hs : s = en <;> simp [e1, e2, hs]
/-! all arcs in their order -/
def arcsOf (n m : Nat) : List Ar := ((List.range n).map fun (i : Nat) => (⟨.up, i⟩ : Ar)) ++ ((List.range n).map fun (i : Nat) => (⟨.flat, i⟩ : Ar)) ++ (List.range m).flatMap fun (i : Nat) => [(⟨.most, i⟩ : Ar), ⟨.least, i⟩]
theorem flat_len {α β : Type} (f g : α → β) (l : List α) : (l.flatMap fun i => [f i, g i]).length = 2 * l.length := by
  induction l with
  | nil => rfl
  | cons x l ih => rw [List.flatMap_cons, List.length_append, ih]; simp; omega
theorem arcsOf_len (n m : Nat) : (arcsOf n m).length = 2 * n + 2 * m := by
  unfold arcsOf
  rw [List.length_append, List.length_append, flat_len]
  simp
  omega
theorem augL {s : List Cell} {i : Nat} {dv : DV} {ds es : List D} (hs : s[i]? = some (.ol ds)) (hv : dv s = .ok (.lst es) s) (h : ds.length + es.length ≤ 16777216) : sAugL i dv s = .nx (s.set i (.ol (ds ++ es))) := by
  unfold sAugL
  rw [hs]
  simp only
  rw [hv]
  simp only [a_oS_ok, hs]
  rw [if_pos h]
theorem q_arcs_of (n : Nat) (x : D) (cs : List Cl) (hx : itsD x = some (cs.map Cl.d)) (hc : ∀ c ∈ cs, c.ok n = true) (hn : n ≤ 100) (hm : cs.length ≤ 100) :
    f_arcs_of [.sh (.int n), .sh x] = .ok (.ol ((arcsOf n cs.length).map Ar.d)) [.sh (.int n), .sh x] := by
  have e1 := q_check_claims n x cs hx hc
  have hle := oLen_its hx
  rw [List.length_map] at hle
  have lc1 : cd_arcs_of_1 [.sh (.int n), .sh x, .un, .un, .un] = .ok (.ol (((List.range n).map fun (i : Nat) => (⟨.up, i⟩ : Ar)).map Ar.d)) [.sh (.int n), .sh x, .un, .un, .un] := by
    refine comp_range n (by omega) Ar.d _ (by simp) (by simp) (fun i hi => ?_)
    refine ⟨[.sh (.int n), .sh x, .un, .un, .sh (.int i)], [.sh (.int n), .sh x, .un, .un, .sh (.int i)], rfl, ?_, rfl⟩
    simp [Ar.d, Aw.s]
  have lc2 : ∀ l, cd_arcs_of_2 [.sh (.int n), .sh x, .ol l, .un, .un] = .ok (.ol (((List.range n).map fun (i : Nat) => (⟨.flat, i⟩ : Ar)).map Ar.d)) [.sh (.int n), .sh x, .ol l, .un, .un] := by
    intro l
    refine comp_range n (by omega) Ar.d _ (by simp) (by simp) (fun i hi => ?_)
    refine ⟨[.sh (.int n), .sh x, .ol l, .un, .sh (.int i)], [.sh (.int n), .sh x, .ol l, .un, .sh (.int i)], rfl, ?_, rfl⟩
    simp [Ar.d, Aw.s]
  obtain ⟨⟨k, c3⟩, el, hk⟩ := loop_inv lg_arcs_of_3 lb_arcs_of_3 natE (fun (b : Nat × Cell) => [.sh (.int n), .sh x, .ol ((arcsOf n b.1).map Ar.d), b.2, .un]) (fun i b => b.1 = i) (List.range cs.length) 0 (0, .un) (fun b i y hy hb => by
    obtain ⟨k, c3⟩ := b
    simp only [Nat.zero_add] at hb ⊢
    have hi := (List.getElem?_eq_some_iff.mp hy).1
    rw [List.getElem?_range (by simpa using hi)] at hy
    cases hy
    simp at hi
    subst hb
    refine ⟨(k + 1, .sh (.int k)), ?_, rfl⟩
    have ea : arcsOf n (k + 1) = arcsOf n k ++ [⟨.most, k⟩, ⟨.least, k⟩] := by
      unfold arcsOf
      rw [List.range_succ, List.flatMap_append]
      simp
    have ag := augL (s := [.sh (.int n), .sh x, .ol ((arcsOf n k).map Ar.d), .sh (.int k), .un]) (i := 2) (dv := vC (cLst (vsCons (vTup (vsCons (vQ (qC (.str ("most" : PySem.Str)))) (vsCons (vVar 3) (vsNil)))) (vsCons (vTup (vsCons (vQ (qC (.str ("least" : PySem.Str)))) (vsCons (vVar 3) (vsNil)))) (vsNil))))) (es := [Ar.d ⟨.most, k⟩, Ar.d ⟨.least, k⟩]) rfl (by simp [Ar.d, Aw.s]) (by rw [List.length_map, arcsOf_len]; simp; omega)
    simp [turnL_eq, lg_arcs_of_3, lb_arcs_of_3, ag, ea]) rfl
  simp only [Nat.zero_add, List.length_range] at hk
  subst hk
  have rg := iRng1_ok (n := cs.length) (v := vQ (qUn oLen (qVar 1))) (s := [.sh (.int n), .sh x, .ol ((arcsOf n 0).map Ar.d), .un, .un]) (by simp [hle]) (by omega)
  have e0 : (arcsOf n 0) = ((List.range n).map fun (i : Nat) => (⟨.up, i⟩ : Ar)) ++ ((List.range n).map fun (i : Nat) => (⟨.flat, i⟩ : Ar)) := by
    unfold arcsOf
    simp
  have ag := augL (s := [.sh (.int n), .sh x, .ol (((List.range n).map fun (i : Nat) => (⟨.up, i⟩ : Ar)).map Ar.d), .un, .un]) (i := 2) (dv := vC cd_arcs_of_2) (es := ((List.range n).map fun (i : Nat) => (⟨.flat, i⟩ : Ar)).map Ar.d) rfl (by simp [lc2, -List.map_map]) (by simp; omega)
  rw [← List.map_append, ← e0] at ag
  rw [u_arcs_of]
  unfold d_arcs_of
  simp only at el
  simp [e1, lc1, -List.map_map, ag, rg, el]
theorem arcsOf_mem (n m : Nat) (a : Ar) : a ∈ arcsOf n m ↔ arOk n m a = true := by
  rw [arOk_iff]
  unfold arcsOf
  simp only [List.mem_append, List.mem_map, List.mem_range, List.mem_flatMap, List.mem_cons, List.not_mem_nil, or_false]
  obtain ⟨w, p⟩ := a
  constructor
  · rintro ((⟨i, hi, e⟩ | ⟨i, hi, e⟩) | ⟨i, hi, e | e⟩) <;> cases e <;> simp [hi]
  · rintro ⟨h0, hd, h1, h2⟩
    simp only at h0 hd h1 h2
    cases w with
    | up =>
      have := h1 (.inl rfl)
      exact .inl (.inl ⟨p.toNat, by omega, by rw [show ((p.toNat : Nat) : Int) = p by omega]⟩)
    | flat =>
      have := h1 (.inr rfl)
      exact .inl (.inr ⟨p.toNat, by omega, by rw [show ((p.toNat : Nat) : Int) = p by omega]⟩)
    | most =>
      have := h2 (.inl rfl)
      exact .inr ⟨p.toNat, by omega, .inl (by rw [show ((p.toNat : Nat) : Int) = p by omega])⟩
    | least =>
      have := h2 (.inr rfl)
      exact .inr ⟨p.toNat, by omega, .inr (by rw [show ((p.toNat : Nat) : Int) = p by omega])⟩
    | down => exact absurd rfl hd
end VH
end
section
set_option maxHeartbeats 4000000
set_option maxRecDepth 100000
namespace VH
open PySem VL
/-! the walk: relaxing, rings -/
def lineQ (cs : List Cl) (a : Ar) : D := .tup [.int (arL cs a).s, .int (arL cs a).e, .int (arL cs a).c, a.d]
def allA (n m : Nat) : List Ar := (arcsOf n m).filter (fun a => !decide (a.w = .flat)) ++ ((arcsOf n m).filter (fun a => decide (a.w = .flat))).reverse
theorem allA_full (n : Nat) (cs : List Cl) : Full n cs (allA n cs.length) where
  ok := fun a ha => by
    unfold allA at ha
    rw [List.mem_append, List.mem_reverse, List.mem_filter, List.mem_filter] at ha
    rcases ha with ha | ha <;> exact (arcsOf_mem _ _ a).mp ha.1
  all := fun a ha => by
    unfold allA
    rw [List.mem_append, List.mem_reverse, List.mem_filter, List.mem_filter]
    have := (arcsOf_mem n cs.length a).mpr ha
    by_cases h : a.w = .flat
    · exact .inr ⟨this, by simp [h]⟩
    · exact .inl ⟨this, by simp [h]⟩
theorem filter_split_len {α : Type} (p : α → Bool) (l : List α) : (l.filter fun a => !p a).length + (l.filter p).length = l.length := by
  induction l with
  | nil => rfl
  | cons x l ih =>
    by_cases h : p x = true
    · simp only [List.filter_cons, h, Bool.not_true, if_true, List.length_cons]
      simp
      omega
    · have h : p x = false := by simpa using h
      simp only [List.filter_cons, h, Bool.not_false, if_true, List.length_cons]
      simp
      omega
theorem allA_len (n m : Nat) : (allA n m).length = 2 * n + 2 * m := by
  unfold allA
  rw [List.length_append, List.length_reverse]
  have := filter_split_len (fun a : Ar => decide (a.w = .flat)) (arcsOf n m)
  rw [arcsOf_len] at this
  exact this
theorem cat_lo (a b : List D) (h : a.length + b.length ≤ 16777216) : oCatL (.sh (.lst a)) (.sh (.lst b)) = some (.ol (a ++ b)) := by
  rw [cat_lst, if_pos h]
theorem q_arc_lines (n : Nat) (x : D) (cs : List Cl) (hx : itsD x = some (cs.map Cl.d)) (hc : ∀ c ∈ cs, c.ok n = true) (hn : n ≤ 100) (hm : cs.length ≤ 100) :
    f_arc_lines [.sh (.int n), .sh x] = .ok (.ol ((allA n cs.length).map (lineQ cs))) [.sh (.int n), .sh x] := by
  have e1 := q_arcs_of n x cs hx hc hn hm
  obtain ⟨⟨ls, fs, j⟩, el, h1, h2⟩ := loop_inv lg_arc_lines_1 lb_arc_lines_1 Ar.d (fun (b : List Ar × List Ar × J4) => [.sh (.int n), .sh x, .ol (b.1.map (lineQ cs)), .ol (b.2.1.map (lineQ cs)), b.2.2.a, b.2.2.b, b.2.2.c, b.2.2.d]) (fun i b => b.1 = ((arcsOf n cs.length).take i).filter (fun a => !decide (a.w = .flat)) ∧ b.2.1 = ((arcsOf n cs.length).take i).filter (fun a => decide (a.w = .flat))) (arcsOf n cs.length) 0 ([], [], ⟨.un, .un, .un, .un⟩) (fun b i a ha hb => by
    obtain ⟨ls, fs, j⟩ := b
    obtain ⟨h1, h2⟩ := hb
    simp only [Nat.zero_add] at h1 h2 ⊢
    have hi := (List.getElem?_eq_some_iff.mp ha).1
    rw [arcsOf_len] at hi
    have hok := (arcsOf_mem _ _ a).mp (List.mem_of_getElem? ha)
    have e2 := q_arc_line n x cs hx a hok
    have et : ∀ s : List Cell, gTup 3 (gsCons (gName 5) (gsCons (gName 6) (gsCons (gName 7) gsNil))) (arL cs a).d s = some (((s.set 5 (.sh (.int (arL cs a).s))).set 6 (.sh (.int (arL cs a).e))).set 7 (.sh (.int (arL cs a).c))) := fun _ => rfl
    rw [filter_take _ _ _ _ ha, filter_take _ _ _ _ ha]
    have l1 : ls.length < 16777216 := by
      rw [h1]
      have := List.length_filter_le (fun a : Ar => !decide (a.w = .flat)) ((arcsOf n cs.length).take i)
      rw [List.length_take] at this
      omega
    have l2 : fs.length < 16777216 := by
      rw [h2]
      have := List.length_filter_le (fun a : Ar => decide (a.w = .flat)) ((arcsOf n cs.length).take i)
      rw [List.length_take] at this
      omega
    by_cases hw : a.w = .flat
    · refine ⟨(ls, fs ++ [a], ⟨.sh a.d, .sh (.int (arL cs a).s), .sh (.int (arL cs a).e), .sh (.int (arL cs a).c)⟩), ?_, by simp [hw, ← h1], by simp [hw, ← h2]⟩
      simp [turnL_eq, lg_arc_lines_1, lb_arc_lines_1, e2, et, hw, l2, lineQ]
    · refine ⟨(ls ++ [a], fs, ⟨.sh a.d, .sh (.int (arL cs a).s), .sh (.int (arL cs a).e), .sh (.int (arL cs a).c)⟩), ?_, by simp [hw, ← h1], by simp [hw, ← h2]⟩
      simp [turnL_eq, lg_arc_lines_1, lb_arc_lines_1, e2, et, hw, l1, lineQ]) ⟨by simp, by simp⟩
  simp only [Nat.zero_add, List.take_length] at h1 h2
  subst h1 h2
  have ct := cat_lo (((arcsOf n cs.length).filter fun a => !decide (a.w = .flat)).map (lineQ cs)) (((arcsOf n cs.length).filter fun a => decide (a.w = .flat)).map (lineQ cs)).reverse (by
    have := filter_split_len (fun a : Ar => decide (a.w = .flat)) (arcsOf n cs.length)
    rw [arcsOf_len] at this
    rw [List.length_reverse, List.length_map, List.length_map]
    omega)
  simp only [List.map_nil] at el
  have er : ((arcsOf n cs.length).filter fun a => !decide (a.w = .flat)).map (lineQ cs) ++ (((arcsOf n cs.length).filter fun a => decide (a.w = .flat)).map (lineQ cs)).reverse = (allA n cs.length).map (lineQ cs) := by
    unfold allA
    rw [List.map_append, List.map_reverse]
  rw [er] at ct
  rw [u_arc_lines]
  unfold d_arc_lines
  generalize ((arcsOf n cs.length).filter fun a => !decide (a.w = .flat)).map (lineQ cs) = X at *
  generalize ((arcsOf n cs.length).filter fun a => decide (a.w = .flat)).map (lineQ cs) = Y at *
  simp [e1, el, ct]
def optI : Option Int → D
  | none => .non
  | some i => .int i
def lastD : Option (Int × Ar) → D
  | none => .non
  | some (u, a) => .tup [.int u, a.d]
@[simp] theorem optI_none : optI none = .non := (rfl)
@[simp] theorem optI_some (i : Int) : optI (some i) = .int i := (rfl)
@[simp] theorem lastD_none : lastD none = .non := (rfl)
@[simp] theorem lastD_some (u : Int) (a : Ar) : lastD (some (u, a)) = .tup [.int u, a.d] := (rfl)
@[simp] theorem isN_optI (o : Option Int) : oIsN (.sh (optI o)) (.sh .non) = some (.bl o.isNone) := by cases o <;> rfl
@[simp] theorem notN_optI (o : Option Int) : oNotN (.sh (optI o)) (.sh .non) = some (.bl o.isSome) := by cases o <;> rfl
theorem ixO {α : Type} (enc : Option α → D) (S : List (Option α)) (i : Int) (h0 : 0 ≤ i) (h1 : i < S.length) : oIx (.ol (S.map enc)) (.sh (.int i)) = some (enc (oAt S i)) := by
  have hn : i.toNat < S.length := by omega
  show L2.atI (S.map enc) i = _
  unfold L2.atI
  rw [List.length_map, ixN_in _ _ h0 h1]
  simp [oAt, List.getD, hn]
theorem ixOs {α : Type} (enc : Option α → D) (S : List (Option α)) (i : Int) (h0 : 0 ≤ i) (h1 : i < S.length) : oIx (.sh (.lst (S.map enc))) (.sh (.int i)) = some (enc (oAt S i)) := ixO enc S i h0 h1
theorem setIxE {α : Type} {enc : α → D} {s : List Cell} {i : Nat} {dv di : DV} {st : List α} {j : Int} {v : α} {s1 : List Cell} (hs : s[i]? = some (.ol (st.map enc))) (hv : dv s = .ok (enc v) s) (hd : di s = .ok (.int j) s) (h0 : 0 ≤ j) (h1 : j < st.length) :
    sSetIx i dv di s = .nx (s.set i (.ol ((st.set j.toNat v).map enc))) := by
  unfold sSetIx
  rw [hv]
  simp only [a_oS_ok, hs]
  rw [hd]
  simp only [a_oS_ok, hs, List.length_map, ixN_in _ _ h0 h1]
  rw [List.map_set]
theorem relax_low (cs : List Cl) (r : Nat) (b : BF) (a : Ar) : (relax cs r b a).L.length = b.L.length := by
  unfold relax
  cases lowers b.S (arL cs a) <;> simp [BF.up]
theorem q_relaxed (n : Nat) (cs : List Cl) (hc : ∀ c ∈ cs, c.ok n = true) (hn : n ≤ 100) (as : List Ar) (ha : ∀ a ∈ as, arOk n cs.length a = true) (r : Nat) (b : BF) (h1 : b.S.length = n + 1) (h2 : b.L.length = n + 1) :
    f_relaxed [.sh (.lst (as.map (lineQ cs))), .ol (b.S.map optI), .ol (b.L.map lastD)] = .ok (.sh (optI (as.foldl (relax cs r) b.clr).low)) [.sh (.lst (as.map (lineQ cs))), .ol ((as.foldl (relax cs r) b.clr).S.map optI), .ol ((as.foldl (relax cs r) b.clr).L.map lastD)] := by
  obtain ⟨⟨j, el⟩, _⟩ := loop_fold (J := J5) lg_relaxed_1 lb_relaxed_1 (lineQ cs) (fun (b : BF) (j : J5) => [.sh (.lst (as.map (lineQ cs))), .ol (b.S.map optI), .ol (b.L.map lastD), .sh (optI b.low), j.a, j.b, j.c, j.d, j.e]) (relax cs r) (fun b => b.S.length = n + 1 ∧ b.L.length = n + 1) as b.clr ⟨.un, .un, .un, .un, .un⟩ (fun b j a hm hb => by
    obtain ⟨h1, h2⟩ := hb
    refine ⟨?_, by rw [relax_len]; exact h1, by rw [relax_low]; exact h2⟩
    obtain ⟨g1, g2, g3, g4, g5⟩ := arL_range hc (ha a hm)
    have eg : ∀ s : List Cell, lg_relaxed_1 (lineQ cs a) s = some ((((s.set 4 (.sh (.int (arL cs a).s))).set 5 (.sh (.int (arL cs a).e))).set 6 (.sh (.int (arL cs a).c))).set 7 (.sh a.d)) := fun _ => rfl
    have i1 := ixO optI b.S (arL cs a).s g1 (by omega)
    have i2 := ixO optI b.S (arL cs a).e g3 (by omega)
    unfold relax lowers
    cases hx : oAt b.S (arL cs a).s with
    | none =>
      rw [hx] at i1
      simp [turnL_eq, eg, lb_relaxed_1, i1]
    | some x =>
      rw [hx] at i1
      simp only [optI_some] at i1
      have st1 : ∀ c8, sSetIx 1 (vVar 8) (vVar 5) [.sh (.lst (as.map (lineQ cs))), .ol (b.S.map optI), .ol (b.L.map lastD), .sh (optI b.low), .sh (.int (arL cs a).s), .sh (.int (arL cs a).e), .sh (.int (arL cs a).c), c8, .sh (.int (x + (arL cs a).c))] = .nx [.sh (.lst (as.map (lineQ cs))), .ol ((b.S.set (arL cs a).e.toNat (some (x + (arL cs a).c))).map optI), .ol (b.L.map lastD), .sh (optI b.low), .sh (.int (arL cs a).s), .sh (.int (arL cs a).e), .sh (.int (arL cs a).c), c8, .sh (.int (x + (arL cs a).c))] := fun c8 =>
        setIxE (enc := optI) (st := b.S) (v := some (x + (arL cs a).c)) (s1 := []) rfl (by simp) (by simp) g3 (by omega)
      have st2 : ∀ S' c8, sSetIx 2 (vTup (vsCons (vVar 4) (vsCons (vVar 7) (vsNil)))) (vVar 5) [.sh (.lst (as.map (lineQ cs))), .ol S', .ol (b.L.map lastD), .sh (optI b.low), .sh (.int (arL cs a).s), .sh (.int (arL cs a).e), .sh (.int (arL cs a).c), .sh a.d, c8] = .nx [.sh (.lst (as.map (lineQ cs))), .ol S', .ol ((b.L.set (arL cs a).e.toNat (some ((arL cs a).s, a))).map lastD), .sh (optI b.low), .sh (.int (arL cs a).s), .sh (.int (arL cs a).e), .sh (.int (arL cs a).c), .sh a.d, c8] := fun S' c8 =>
        setIxE (enc := lastD) (st := b.L) (v := some ((arL cs a).s, a)) (s1 := []) rfl (by simp) (by simp) g3 (by omega)
      cases hy : oAt b.S (arL cs a).e with
      | none =>
        rw [hy] at i2
        simp [turnL_eq, eg, lb_relaxed_1, i1, i2, st1, st2, BF.up]
      | some y =>
        rw [hy] at i2
        simp only [optI_some] at i2
        by_cases hlt : x + (arL cs a).c < y
        · simp [turnL_eq, eg, lb_relaxed_1, i1, i2, hlt, st1, st2, BF.up]
        · simp [turnL_eq, eg, lb_relaxed_1, i1, i2, hlt]) ⟨h1, h2⟩
  have e0 : [Cell.sh (.lst (as.map (lineQ cs))), .ol (b.clr.S.map optI), .ol (b.clr.L.map lastD), .sh (optI b.clr.low), .un, .un, .un, .un, .un] = [.sh (.lst (as.map (lineQ cs))), .ol (b.S.map optI), .ol (b.L.map lastD), .sh .non, .un, .un, .un, .un, .un] := rfl
  simp only [e0] at el
  rw [u_relaxed]
  unfold d_relaxed
  simp [el]
end VH
end
section
set_option maxHeartbeats 4000000
set_option maxRecDepth 100000
namespace VH
open PySem VL
/-! the walk: bad_ring, nearest -/
theorem cs_go : True := trivial
theorem q_ring_through (n : Nat) (hn : n ≤ 100) (L : List (Option (Int × Ar))) (hL : L.length = n + 1) (v : Int) (h : Cyc n L v) :
    ∃ m, 1 ≤ m ∧ m ≤ n + 1 ∧ itV L v (n + 1 + m) = itV L v (n + 1) ∧ f_ring_through [.sh (.lst (L.map lastD)), .sh (.int v)] = .ok (.ol ((((List.range m).map fun k => prA L (itV L v (n + 1 + k))).reverse).map Ar.d)) [.sh (.lst (L.map lastD)), .sh (.int v)] := by
  have ixk : ∀ k, oIx (.sh (.lst (L.map lastD))) (.sh (.int (itV L v k))) = some (.tup [.int (itV L v (k + 1)), (prA L (itV L v k)).d]) := fun k => by
    obtain ⟨h1, h2, _⟩ := h.def_ k
    rw [ixOs lastD L _ h1 (by omega), h.pred k]
    rfl
  have ix0 : ∀ (a b : D), oIx (.sh (.tup [a, b])) (.sh (.int 0)) = some a := fun _ _ => rfl
  obtain ⟨⟨k, c3⟩, el, hk⟩ := loop_inv lg_ring_through_1 lb_ring_through_1 natE (fun (b : Nat × Cell) => [.sh (.lst (L.map lastD)), .sh (.int v), .sh (.int (itV L v b.1)), b.2, .un, .un, .un, .un]) (fun i b => b.1 = i) (List.range (n + 1)) 0 (0, .un) (fun b i y hy hb => by
    obtain ⟨k, c3⟩ := b
    simp only [Nat.zero_add] at hb ⊢
    subst hb
    refine ⟨(k + 1, .sh (.int y)), ?_, rfl⟩
    simp [turnL_eq, lg_ring_through_1, lb_ring_through_1, ixk, ix0]) rfl
  simp only [Nat.zero_add, List.length_range] at hk
  subst hk
  have el2 := loop_all lg_ring_through_2 lb_ring_through_2 natE (fun (b : Nat × J3) => [.sh (.lst (L.map lastD)), .sh (.int v), .sh (.int (itV L v (n + 1 + b.1))), b.2.a, .sh (.int (itV L v (n + 1))), .ol (((List.range b.1).map fun k => prA L (itV L v (n + 1 + k))).map Ar.d), b.2.b, b.2.c]) (fun i b => b.1 = i ∧ ∀ k, 1 ≤ k → k ≤ i → itV L v (n + 1 + k) ≠ itV L v (n + 1)) (fun b => 1 ≤ b.1 ∧ b.1 ≤ n + 1 ∧ itV L v (n + 1 + b.1) = itV L v (n + 1)) (fun _ _ => False) (List.range (n + 1)) 0 (0, ⟨c3, .un, .un⟩) (fun b i y hy hb => by
    obtain ⟨k, j⟩ := b
    obtain ⟨hb, hne⟩ := hb
    simp only [Nat.zero_add] at hb hne ⊢
    have hi := (List.getElem?_eq_some_iff.mp hy).1
    simp at hi
    subst hb
    have pl : k < 16777216 := by omega
    have eg : ∀ (u : Int) (a : Ar) (s : List Cell), gTup 2 (gsCons (gName 6) (gsCons (gName 7) gsNil)) (.tup [.int u, a.d]) s = some ((s.set 6 (.sh (.int u))).set 7 (.sh a.d)) := fun _ _ _ => rfl
    by_cases hr : itV L v (n + 1 + (k + 1)) = itV L v (n + 1)
    · right; left
      refine ⟨(k + 1, ⟨.sh (.int y), .sh (.int (itV L v (n + 1 + (k + 1)))), .sh (prA L (itV L v (n + 1 + k))).d⟩), ?_, by omega, by simp only; omega, hr⟩
      have hr' : itV L v (n + 1 + k + 1) = itV L v (n + 1) := hr
      simp [turnL_eq, lg_ring_through_2, lb_ring_through_2, ixk, eg, pl, List.range_succ, ← Nat.add_assoc, hr']
    · left
      refine ⟨(k + 1, ⟨.sh (.int y), .sh (.int (itV L v (n + 1 + (k + 1)))), .sh (prA L (itV L v (n + 1 + k))).d⟩), ?_, rfl, fun q h1 h2 => ?_⟩
      · have hr' : ¬ itV L v (n + 1 + k + 1) = itV L v (n + 1) := hr
        simp [turnL_eq, lg_ring_through_2, lb_ring_through_2, ixk, eg, pl, List.range_succ, ← Nat.add_assoc, hr']
      · by_cases hq : q = k + 1
        · subst hq; exact hr
        · exact hne q h1 (by omega)) ⟨rfl, fun k h1 h2 => by omega⟩
  rcases el2 with ⟨⟨m, j⟩, el2, hs⟩ | ⟨_, _, _, hf⟩
  · have hs : 1 ≤ m ∧ m ≤ n + 1 ∧ itV L v (n + 1 + m) = itV L v (n + 1) := by
      rcases hs with ⟨_, hne⟩ | hs
      · obtain ⟨p, p1, p2, e⟩ := h.ret
        simp only [Nat.zero_add, List.length_range] at hne
        exact absurd e (hne p p1 p2)
      · exact hs
    refine ⟨m, hs.1, hs.2.1, hs.2.2, ?_⟩
    have hle : oLen (.sh (.lst (L.map lastD))) = some (.int ((n + 1 : Nat) : Int)) := by
      rw [← hL]
      simp
    have rg := fun s (hv : vQ (qUn oLen (qVar 0)) s = .ok (.int ((n + 1 : Nat) : Int)) s) => iRng1_ok (n := n + 1) (v := vQ (qUn oLen (qVar 0))) (s := s) hv (by omega)
    have rg1 := rg [.sh (.lst (L.map lastD)), .sh (.int v), .sh (.int v), .un, .un, .un, .un, .un] (by simp only [a_vQ, a_qUn, a_qVar, gt0, unO_sh, op1O_ok, hle, Option.map_some, qvO_ok])
    have rg2 := rg [.sh (.lst (L.map lastD)), .sh (.int v), .sh (.int (itV L v (n + 1))), c3, .sh (.int (itV L v (n + 1))), .ol [], .un, .un] (by simp only [a_vQ, a_qUn, a_qVar, gt0, unO_sh, op1O_ok, hle, Option.map_some, qvO_ok])
    simp only [Nat.add_zero, List.range_zero, List.map_nil] at el2
    have el1 : loopD lg_ring_through_1 lb_ring_through_1 ((List.range (n + 1)).map natE) [.sh (.lst (L.map lastD)), .sh (.int v), .sh (.int v), .un, .un, .un, .un, .un] = _ := el
    rw [u_ring_through]
    unfold d_ring_through
    simp [rg1, el1, rg2, el2]
  · exact hf.elim
/-- all places have a sum -/
def allSet (n : Nat) (S : List (Option Int)) : Prop := ∀ v : Int, 0 ≤ v → v ≤ n → ∃ x, oAt S v = some x
theorem rep_non (n : Nat) (hn : n ≤ 1000) : oRepL (.sh (.lst [.non])) (.sh (.int (n : Int))) = some (.ol ((List.replicate n (none : Option Int)).map optI)) := by
  rw [rep_one _ n hn, List.map_replicate]
  rfl
theorem rep_nonL (n : Nat) (hn : n ≤ 1000) : oRepL (.sh (.lst [.non])) (.sh (.int (n : Int))) = some (.ol ((List.replicate n (none : Option (Int × Ar))).map lastD)) := by
  rw [rep_one _ n hn, List.map_replicate]
  rfl
theorem rep_0 (n : Nat) (hn : n ≤ 1000) : oRepL (.sh (.lst [.int 0])) (.sh (.int (n : Int))) = some (.ol ((List.replicate n (some (0 : Int))).map optI)) := by
  rw [rep_one _ n hn, List.map_replicate]
  rfl
theorem q_bad_ring (n : Nat) (x : D) (cs : List Cl) (hx : itsD x = some (cs.map Cl.d)) (hc : ∀ c ∈ cs, c.ok n = true) (hn : n ≤ 100) (hm : cs.length ≤ 100) :
    (f_bad_ring [.sh (.int n), .sh x] = .ok (.sh .non) [.sh (.int n), .sh x] ∧ ∃ ns, fitAll n cs ns) ∨
    ∃ as, f_bad_ring [.sh (.int n), .sh x] = .ok (.ol (as.map Ar.d)) [.sh (.int n), .sh x] ∧ isBad n cs as = true ∧ as.length ≤ n + 1 := by
  have e1 := q_arc_lines n x cs hx hc hn hm
  have hF := allA_full n cs
  have rp0 := rep_0 (n + 1) (by omega)
  have rpn := rep_nonL (n + 1) (by omega)
  have en : ((n + 1 : Nat) : Int) = (n : Int) + 1 := by omega
  have el := loop_all lg_bad_ring_1 lb_bad_ring_1 natE (fun (b : BF × Cell) => [.sh (.int n), .sh x, .sh (.lst ((allA n cs.length).map (lineQ cs))), .ol (b.1.S.map optI), .ol (b.1.L.map lastD), b.2, .un]) (fun i b => BRd n cs (i + 1) [] b.1.clr ∧ allSet n b.1.S) (fun _ => False) (fun f s => f = .rt (.sh .non) ∧ (∃ j : J5, s = [.sh (.int n), .sh x, j.a, j.b, j.c, j.d, j.e]) ∧ ∃ ns, fitAll n cs ns) (List.range (n + 1)) 0 (b0 n, .un) (fun b i y hy hb => by
    obtain ⟨b, c5⟩ := b
    obtain ⟨hb, hs⟩ := hb
    simp only [Nat.zero_add] at hb hs ⊢
    have q := q_relaxed n cs hc hn _ hF.ok (i + 1) b hb.I.lS hb.I.lL
    have ha := BRd.all hc (by omega) _ _ _ hF.ok hb
    have hset : allSet n ((allA n cs.length).foldl (relax cs (i + 1)) b.clr).S := fun v h0 h1 => relaxAll_set hc _ _ hF.ok hb.I.lS v h0 (hs v h0 h1)
    generalize hB : (allA n cs.length).foldl (relax cs (i + 1)) b.clr = B at *
    rw [List.nil_append] at ha
    cases hl : B.low with
    | none =>
      right; right
      refine ⟨.rt (.sh .non), [.sh (.int n), .sh x, .sh (.lst ((allA n cs.length).map (lineQ cs))), .ol (B.S.map optI), .ol (B.L.map lastD), .sh (.int y), .un], ?_, rfl, ⟨⟨_, _, _, _, _⟩, rfl⟩, _, rest_fits hc hset (ha.done hF hl)⟩
      rw [hl] at q
      simp [turnL_eq, lg_bad_ring_1, lb_bad_ring_1, q]
    | some u =>
      left
      refine ⟨(B, .sh (.int y)), ?_, ha.next hF, hset⟩
      rw [hl] at q
      simp [turnL_eq, lg_bad_ring_1, lb_bad_ring_1, q]) ⟨b0_ok n cs, fun v h0 h1 => ⟨0, by
        show (List.replicate (n + 1) (some (0 : Int))).getD v.toNat none = some 0
        rw [List.getD_eq_getElem?_getD, List.getElem?_replicate, if_pos (by omega)]
        rfl⟩⟩
  have rg := iRng1_ok (n := n + 1) (v := vQ (qOp oAdd (qVar 0) (qC (.int 1)))) (s := [.sh (.int n), .sh x, .sh (.lst ((allA n cs.length).map (lineQ cs))), .ol ((List.replicate (n + 1) (some (0 : Int))).map optI), .ol ((List.replicate (n + 1) (none : Option (Int × Ar))).map lastD), .un, .un]) (by simp [-List.map_replicate]) (by omega)
  rw [en] at rp0 rpn
  have eb : ∀ c5, [Cell.sh (.int n), .sh x, .sh (.lst ((allA n cs.length).map (lineQ cs))), .ol ((b0 n).S.map optI), .ol ((b0 n).L.map lastD), c5, .un] = [.sh (.int n), .sh x, .sh (.lst ((allA n cs.length).map (lineQ cs))), .ol ((List.replicate (n + 1) (some (0 : Int))).map optI), .ol ((List.replicate (n + 1) (none : Option (Int × Ar))).map lastD), c5, .un] := fun _ => rfl
  simp only [eb] at el
  generalize (List.replicate (n + 1) (some (0 : Int))).map optI = X0 at *
  generalize (List.replicate (n + 1) (none : Option (Int × Ar))).map lastD = Y0 at *
  rcases el with ⟨⟨b, c5⟩, el, hs⟩ | ⟨f, s, el, rfl, ⟨j, rfl⟩, hfit⟩
  · rcases hs with ⟨hb, hset⟩ | hs
    · simp only [Nat.zero_add, List.length_range] at hb hset
      have q := q_relaxed n cs hc hn _ hF.ok (n + 1 + 1) b hb.I.lS hb.I.lL
      have ha := BRd.all hc (by omega) _ _ _ hF.ok hb
      have hset2 : allSet n ((allA n cs.length).foldl (relax cs (n + 1 + 1)) b.clr).S := fun v h0 h1 => relaxAll_set hc _ _ hF.ok hb.I.lS v h0 (hset v h0 h1)
      generalize hB : (allA n cs.length).foldl (relax cs (n + 1 + 1)) b.clr = B at *
      rw [List.nil_append] at ha
      cases hl : B.low with
      | none =>
        left
        refine ⟨?_, _, rest_fits hc hset2 (ha.done hF hl)⟩
        rw [hl] at q
        rw [u_bad_ring]
        unfold d_bad_ring
        simp [e1, rp0, rpn, rg, el, q]
      | some u =>
        right
        obtain ⟨u0, u1, hR⟩ := ha.lo u hl
        have cy := cyc hc ha u0 u1 hR (by omega)
        obtain ⟨m, m1, m3, m2, eq⟩ := q_ring_through n hn B.L ha.I.lL u cy
        refine ⟨_, ?_, ring_bad ha.I cy (n + 1) m m1 m2, by simp; exact m3⟩
        rw [hl] at q
        rw [u_bad_ring]
        unfold d_bad_ring
        generalize (((List.range m).map fun k => prA B.L (itV B.L u (n + 1 + k))).reverse).map Ar.d = Z at *
        simp [e1, rp0, rpn, rg, el, q, eq]
    · exact hs.elim
  · left
    refine ⟨?_, hfit⟩
    rw [u_bad_ring]
    unfold d_bad_ring
    simp only [fi_rt] at el
    simp [e1, rp0, rpn, rg, el]
end VH
end
section
set_option maxHeartbeats 4000000
set_option maxRecDepth 100000
namespace VH
open PySem VL
/-! nearest -/
structure NInv (n : Nat) (cs : List Cl) (p : Int) (b : BF) : Prop where
  pth : ∀ v y, 0 ≤ v → oAt b.S v = some y → ∃ as, Pth n cs p v as y
  pl : oAt b.S p = some 0
  plL : oAt b.L p = none
  def_ : ∀ v, 0 ≤ v → v ≠ p → oAt b.S v ≠ none → oAt b.L v ≠ none
/-- no way back is short of 0 -/
def noNeg (n : Nat) (cs : List Cl) : Prop := ∀ u as t, Pth n cs u u as t → 0 ≤ t
theorem fit_noNeg {n : Nat} {cs : List Cl} {ns : List Int} (hf : fitAll n cs ns) : noNeg n cs := fun u as t h => by
  have := h.pot (P := pS ns) (fun a ha => fits_keeps hf.1 hf.2.1 hf.2.2 a ha)
  omega
theorem NInv.step {n : Nat} {cs : List Cl} (hc : ∀ c ∈ cs, c.ok n = true) (hg : noNeg n cs) {p : Int} (hp0 : 0 ≤ p) {r : Nat} {b : BF} (hS : b.S.length = n + 1) (hL : b.L.length = n + 1) (h : NInv n cs p b) {a : Ar} (ha : arOk n cs.length a = true) : NInv n cs p (relax cs r b a) := by
  obtain ⟨g1, g2, g3, g4, g5⟩ := arL_range hc ha
  unfold relax
  cases hl : lowers b.S (arL cs a) with
  | none => exact h
  | some t =>
    obtain ⟨x, hx, rfl, hy⟩ := lowers_some hl
    simp only
    have sS : ∀ v, 0 ≤ v → oAt (b.S.set (arL cs a).e.toNat (some (x + (arL cs a).c))) v = if v = (arL cs a).e then some (x + (arL cs a).c) else oAt b.S v := fun v hv => oAt_set _ _ _ _ g3 (by omega) hv
    have sL : ∀ v, 0 ≤ v → oAt (b.L.set (arL cs a).e.toNat (some ((arL cs a).s, a))) v = if v = (arL cs a).e then some ((arL cs a).s, a) else oAt b.L v := fun v hv => oAt_set _ _ _ _ g3 (by omega) hv
    obtain ⟨as, k⟩ := h.pth _ x g1 hx
    have k2 := k.append (Pth.one ha)
    have hep : (arL cs a).e ≠ p := fun z => by
      have e1 := h.pl
      rw [← z] at e1
      have e2 := hy 0 e1
      rw [z] at k2
      have e3 := hg _ _ _ k2
      omega
    refine ⟨fun v y hv0 hv => ?_, ?_, ?_, fun v hv0 hvp hv => ?_⟩
    · simp only [BF.up] at hv
      rw [sS v hv0] at hv
      by_cases he : v = (arL cs a).e
      · rw [if_pos he] at hv
        cases hv
        subst he
        exact ⟨_, k2⟩
      · rw [if_neg he] at hv
        exact h.pth v y hv0 hv
    · simp only [BF.up]
      rw [sS p hp0, if_neg (fun z => hep z.symm)]
      exact h.pl
    · simp only [BF.up]
      rw [sL p hp0, if_neg (fun z => hep z.symm)]
      exact h.plL
    · simp only [BF.up] at hv ⊢
      rw [sL v hv0]
      rw [sS v hv0] at hv
      by_cases he : v = (arL cs a).e
      · rw [if_pos he]
        intro z
        cases z
      · rw [if_neg he]
        rw [if_neg he] at hv
        exact h.def_ v hv0 hvp hv
theorem NInv.all {n : Nat} {cs : List Cl} (hc : ∀ c ∈ cs, c.ok n = true) (hg : noNeg n cs) {p : Int} (hp0 : 0 ≤ p) {r : Nat} : ∀ (as : List Ar) (b : BF), (∀ a ∈ as, arOk n cs.length a = true) → b.S.length = n + 1 → b.L.length = n + 1 → NInv n cs p b → NInv n cs p (as.foldl (relax cs r) b)
  | [], b, _, _, _, h => h
  | a :: as, b, ha, hS, hL, h => NInv.all hc hg hp0 as _ (fun x hx => ha x (List.mem_cons_of_mem _ hx)) (by rw [relax_len]; exact hS) (by rw [relax_low]; exact hL) (h.step hc hg hp0 hS hL (ha a (List.mem_cons_self ..)))
/-- what nearest answers -/
structure Near (n : Nat) (cs : List Cl) (p : Int) (S : List (Option Int)) (L : List (Option (Int × Ar))) : Prop where
  lS : S.length = n + 1
  lL : L.length = n + 1
  set : allSet n S
  rest : ∀ a, arOk n cs.length a = true → okA cs S a
  pth : ∀ v y, 0 ≤ v → oAt S v = some y → ∃ as, Pth n cs p v as y
  pl : oAt S p = some 0
  way : ∀ v : Int, 0 ≤ v → v ≤ n → ∃ k, k ≤ n ∧ itV L v k = p ∧ (∀ i, i < k → itV L v i ≠ p ∧ 0 ≤ itV L v i ∧ itV L v i ≤ n ∧ oAt L (itV L v i) = some (itV L v (i + 1), prA L (itV L v i))) ∧ ∀ y, oAt S v = some y → Pth n cs p v (((List.range k).map fun i => prA L (itV L v i)).reverse) y
theorem set_all {n : Nat} {cs : List Cl} {S : List (Option Int)} {p : Int} (hp0 : 0 ≤ p) (hp1 : p ≤ n) (hp : oAt S p = some 0) (ho : ∀ a, arOk n cs.length a = true → okA cs S a) : allSet n S := by
  have up : ∀ v : Int, 0 ≤ v → v < n → (∃ x, oAt S v = some x) → ∃ x, oAt S (v + 1) = some x := fun v h0 h1 ⟨x, hx⟩ => by
    have z := ho ⟨.up, v⟩ ((arOk_iff _ _ _).mpr ⟨h0, by simp, by simp; exact h1, by simp⟩)
    obtain ⟨y, hy, _⟩ := z x hx
    exact ⟨y, hy⟩
  have dn : ∀ v : Int, 0 ≤ v → v < n → (∃ x, oAt S (v + 1) = some x) → ∃ x, oAt S v = some x := fun v h0 h1 ⟨x, hx⟩ => by
    have z := ho ⟨.flat, v⟩ ((arOk_iff _ _ _).mpr ⟨h0, by simp, by simp; exact h1, by simp⟩)
    obtain ⟨y, hy, _⟩ := z x hx
    exact ⟨y, hy⟩
  have ups : ∀ k : Nat, p + k ≤ n → ∃ x, oAt S (p + k) = some x := by
    intro k
    induction k with
    | zero => intro _; exact ⟨0, by simpa using hp⟩
    | succ k ih =>
      intro h
      have := up (p + k) (by omega) (by omega) (ih (by omega))
      rw [show p + ((k + 1 : Nat) : Int) = p + k + 1 by omega]
      exact this
  have dns : ∀ k : Nat, 0 ≤ p - k → ∃ x, oAt S (p - k) = some x := by
    intro k
    induction k with
    | zero => intro _; exact ⟨0, by simpa using hp⟩
    | succ k ih =>
      intro h
      refine dn (p - ((k + 1 : Nat) : Int)) (by omega) (by omega) ?_
      rw [show p - ((k + 1 : Nat) : Int) + 1 = p - k by omega]
      exact ih (by omega)
  intro v h0 h1
  by_cases h : p ≤ v
  · have := ups (v - p).toNat (by omega)
    rwa [show p + (((v - p).toNat : Nat) : Int) = v by omega] at this
  · have := dns (p - v).toNat (by omega)
    rwa [show p - (((p - v).toNat : Nat) : Int) = v by omega] at this
theorem least_ex {p : Nat → Prop} : ∀ m, p m → ∃ k, k ≤ m ∧ p k ∧ ∀ i, i < k → ¬ p i
  | 0, h => ⟨0, Nat.le_refl _, h, fun i hi => by omega⟩
  | m + 1, h => by
    by_cases he : ∃ i, i ≤ m ∧ p i
    · obtain ⟨i, hi, hp⟩ := he
      obtain ⟨k, h1, h2, h3⟩ := least_ex' i hp
      exact ⟨k, by omega, h2, h3⟩
    · exact ⟨m + 1, Nat.le_refl _, h, fun i hi hp => he ⟨i, by omega, hp⟩⟩
where
  least_ex' : ∀ i, p i → ∃ k, k ≤ i ∧ p k ∧ ∀ j, j < k → ¬ p j := by
    intro i
    induction i using Nat.strongRecOn with
    | ind i ih =>
      intro hi
      by_cases he : ∃ j, j < i ∧ p j
      · obtain ⟨j, hj, hp⟩ := he
        obtain ⟨k, h1, h2, h3⟩ := ih j hj hp
        exact ⟨k, by omega, h2, h3⟩
      · exact ⟨i, Nat.le_refl _, hi, fun j hj hp => he ⟨j, hj, hp⟩⟩
theorem near_of {n : Nat} {cs : List Cl} (hc : ∀ c ∈ cs, c.ok n = true) {p : Int} (hp0 : 0 ≤ p) (hp1 : p ≤ n) {b : BF} (I : BInv n cs b) (N : NInv n cs p b) (ho : ∀ a, arOk n cs.length a = true → okA cs b.S a) : Near n cs p b.S b.L where
  lS := I.lS
  lL := I.lL
  set := set_all hp0 hp1 N.pl ho
  rest := ho
  pth := N.pth
  pl := N.pl
  way := fun v hv0 hv1 => by
    have hs := set_all hp0 hp1 N.pl ho
    -- a step back from a place that is not p
    have stp : ∀ w : Int, 0 ≤ w → w ≤ n → w ≠ p → oAt b.L w = some (prV b.L w, prA b.L w) ∧ 0 ≤ prV b.L w ∧ prV b.L w ≤ n ∧ b.T (prV b.L w) < b.T w ∧ arOk n cs.length (prA b.L w) = true ∧ (arL cs (prA b.L w)).s = prV b.L w ∧ (arL cs (prA b.L w)).e = w ∧ ∀ x y, oAt b.S (prV b.L w) = some x → oAt b.S w = some y → y = x + (arL cs (prA b.L w)).c := fun w h0 h1 hwp => by
      obtain ⟨z, hz⟩ := hs w h0 h1
      have hd := N.def_ w h0 hwp (by rw [hz]; intro q; cases q)
      have e : oAt b.L w = some (prV b.L w, prA b.L w) := by
        unfold prV prA
        cases e : oAt b.L w with
        | none => exact absurd e hd
        | some q => rfl
      obtain ⟨q1, q2, q3, x, y, hx, hy, q4, q5⟩ := I.prd w _ _ h0 h1 e
      obtain ⟨k1, k2, k3, k4, k5⟩ := arL_range hc q1
      obtain ⟨y', hy', hle⟩ := ho _ q1 x (by rw [q2]; exact hx)
      rw [q3, hy] at hy'
      cases hy'
      rw [q2] at k1 k2
      refine ⟨e, k1, k2, ?_, q1, q2, q3, fun x' y' hx' hy' => ?_⟩
      · rcases q5 with q5 | q5
        · omega
        · exact q5
      · rw [hx] at hx'
        rw [hy] at hy'
        cases hx'
        cases hy'
        omega
    have ex : ∃ i, i ≤ n ∧ itV b.L v i = p := by
      by_cases he : ∃ i, i ≤ n ∧ itV b.L v i = p
      · exact he
      · exfalso
        have hne : ∀ i, i ≤ n → itV b.L v i ≠ p := fun i hi e => he ⟨i, hi, e⟩
        have inr : ∀ i, i ≤ n + 1 → 0 ≤ itV b.L v i ∧ itV b.L v i ≤ n := by
          intro i
          induction i with
          | zero => intro _; exact ⟨hv0, hv1⟩
          | succ i ih =>
            intro hi
            obtain ⟨h0, h1⟩ := ih (by omega)
            obtain ⟨_, k1, k2, _⟩ := stp _ h0 h1 (hne i (by omega))
            exact ⟨k1, k2⟩
        have dec : ∀ d i, i + d + 1 ≤ n + 1 → b.T (itV b.L v (i + d + 1)) < b.T (itV b.L v i) := by
          intro d
          induction d with
          | zero =>
            intro i hi
            obtain ⟨h0, h1⟩ := inr i (by omega)
            exact (stp _ h0 h1 (hne i (by omega))).2.2.2.1
          | succ d ih =>
            intro i hi
            have z := ih i (by omega)
            obtain ⟨h0, h1⟩ := inr (i + d + 1) (by omega)
            have y := (stp _ h0 h1 (hne (i + d + 1) (by omega))).2.2.2.1
            exact Nat.lt_trans y z
        obtain ⟨i, j, hij, hj, e⟩ := php (n + 1) (fun k => (itV b.L v k).toNat) (fun k hk => by
          obtain ⟨h1, h2⟩ := inr k (by omega)
          omega)
        have e : itV b.L v i = itV b.L v j := by
          obtain ⟨h1, h2⟩ := inr i (by omega)
          obtain ⟨h3, h4⟩ := inr j (by omega)
          omega
        have z := dec (j - i - 1) i (by omega)
        rw [show i + (j - i - 1) + 1 = j by omega, e] at z
        exact Nat.lt_irrefl _ z
    obtain ⟨i, hi, e⟩ := ex
    obtain ⟨k, hk, ek, hlt⟩ := least_ex (p := fun i => itV b.L v i = p) i e
    have inr : ∀ i, i ≤ k → 0 ≤ itV b.L v i ∧ itV b.L v i ≤ n := by
      intro i
      induction i with
      | zero => intro _; exact ⟨hv0, hv1⟩
      | succ i ih =>
        intro hi
        obtain ⟨h0, h1⟩ := ih (by omega)
        obtain ⟨_, k1, k2, _⟩ := stp _ h0 h1 (hlt i (by omega))
        exact ⟨k1, k2⟩
    refine ⟨k, by omega, ek, fun i hi => ⟨hlt i hi, (inr i (by omega)).1, (inr i (by omega)).2, (stp _ (inr i (by omega)).1 (inr i (by omega)).2 (hlt i hi)).1⟩, fun y hy => ?_⟩
    have bk : ∀ m, m ≤ k → ∃ x t, oAt b.S (itV b.L v m) = some x ∧ y = x + t ∧ Pth n cs (itV b.L v m) v (((List.range m).map fun i => prA b.L (itV b.L v i)).reverse) t := by
      intro m
      induction m with
      | zero => intro _; exact ⟨y, 0, hy, by omega, .nil _⟩
      | succ m ih =>
        intro hm
        obtain ⟨x, t, hx, e1, hp⟩ := ih (by omega)
        obtain ⟨h0, h1⟩ := inr m (by omega)
        obtain ⟨z1, z2, z3, _, z5, z6, z7, z8⟩ := stp _ h0 h1 (hlt m (by omega))
        obtain ⟨x', hx'⟩ := hs _ z2 z3
        have e2 := z8 x' x hx' hx
        refine ⟨x', (arL cs (prA b.L (itV b.L v m))).c + t, hx', by omega, ?_⟩
        rw [List.range_succ, List.map_append, List.reverse_append]
        simp only [List.map_cons, List.map_nil, List.reverse_cons, List.reverse_nil, List.nil_append, List.cons_append]
        refine .cons z5 z6 ?_
        rw [z7]
        exact hp
    obtain ⟨x, t, hx, e1, hp⟩ := bk k (Nat.le_refl _)
    rw [ek] at hp hx
    rw [N.pl] at hx
    cases hx
    rw [show y = t by omega]
    exact hp
def nb0 (n : Nat) (p : Int) : BF := ⟨(List.replicate (n + 1) none).set p.toNat (some 0), List.replicate (n + 1) none, none, fun _ => 0, fun _ => 0, 0⟩
theorem nb0_ok (n : Nat) (cs : List Cl) (p : Int) : BRd n cs 1 [] (nb0 n p) where
  I := ⟨by simp [nb0], by simp [nb0], fun v => Nat.le_refl _, fun v u a _ _ h => (by simp only [nb0, oAt_rep] at h; cases h), fun v _ _ h => (by simp [nb0] at h)⟩
  A := fun a _ h => by simp only [nb0] at h; omega
  B := fun a ha => by cases ha
  le := fun v => by simp [nb0]
  lo := fun v hv => by cases hv
  no := fun _ v => by simp [nb0]
theorem nb0_n (n : Nat) (cs : List Cl) (p : Int) (h0 : 0 ≤ p) (h1 : p ≤ n) : NInv n cs p (nb0 n p) where
  pth := fun v y hv h => by
    simp only [nb0] at h
    rw [oAt_set _ _ _ _ h0 (by simp; omega) hv] at h
    split at h
    · rename_i e
      cases h
      subst e
      exact ⟨[], .nil _⟩
    · rw [oAt_rep] at h
      cases h
  pl := by
    simp only [nb0]
    rw [oAt_set _ _ _ _ h0 (by simp; omega) h0, if_pos rfl]
  plL := by simp only [nb0, oAt_rep]
  def_ := fun v hv hvp h => by
    simp only [nb0] at h
    rw [oAt_set _ _ _ _ h0 (by simp; omega) hv, if_neg hvp, oAt_rep] at h
    exact absurd rfl h
theorem q_nearest (n : Nat) (x : D) (cs : List Cl) (hx : itsD x = some (cs.map Cl.d)) (hc : ∀ c ∈ cs, c.ok n = true) (hn : n ≤ 100) (hm : cs.length ≤ 100) (hg : noNeg n cs) (p : Int) (hp0 : 0 ≤ p) (hp1 : p ≤ n) :
    ∃ S L, f_nearest [.sh (.int n), .sh x, .sh (.int p)] = .ok (.sh (.tup [.lst (S.map optI), .lst (L.map lastD)])) [.sh (.int n), .sh x, .sh (.int p)] ∧ Near n cs p S L := by
  have e1 := q_arc_lines n x cs hx hc hn hm
  have hF := allA_full n cs
  have rp0 := rep_non (n + 1) (by omega)
  have en : ((n + 1 : Nat) : Int) = (n : Int) + 1 := by omega
  have el := loop_all lg_nearest_1 lb_nearest_1 natE (fun (b : BF × Cell) => [.sh (.int n), .sh x, .sh (.int p), .sh (.lst ((allA n cs.length).map (lineQ cs))), .ol (b.1.S.map optI), .ol (b.1.L.map lastD), b.2]) (fun i b => BRd n cs (i + 1) [] b.1.clr ∧ NInv n cs p b.1 ∧ (1 ≤ i → ∃ v : Int, 0 ≤ v ∧ v ≤ n ∧ b.1.R v = i ∧ BRd n cs i (allA n cs.length) b.1)) (fun b => Near n cs p b.1.S b.1.L) (fun _ _ => False) (List.range (n + 1)) 0 (nb0 n p, .un) (fun b i y hy hb => by
    obtain ⟨b, c5⟩ := b
    obtain ⟨hb, hN, _⟩ := hb
    simp only [Nat.zero_add] at hb hN ⊢
    have q := q_relaxed n cs hc hn _ hF.ok (i + 1) b hb.I.lS hb.I.lL
    have ha := BRd.all hc (by omega) _ _ _ hF.ok hb
    have hN2 : NInv n cs p ((allA n cs.length).foldl (relax cs (i + 1)) b.clr) := NInv.all hc hg hp0 _ _ hF.ok hb.I.lS hb.I.lL ⟨hN.pth, hN.pl, hN.plL, hN.def_⟩
    generalize hB : (allA n cs.length).foldl (relax cs (i + 1)) b.clr = B at *
    rw [List.nil_append] at ha
    cases hl : B.low with
    | none =>
      right; left
      refine ⟨(B, .sh (.int y)), ?_, near_of hc hp0 hp1 ha.I hN2 (ha.done hF hl)⟩
      rw [hl] at q
      simp [turnL_eq, lg_nearest_1, lb_nearest_1, q]
    | some u =>
      left
      obtain ⟨u0, u1, hR⟩ := ha.lo u hl
      refine ⟨(B, .sh (.int y)), ?_, ha.next hF, hN2, fun _ => ⟨u, u0, u1, hR, ha⟩⟩
      rw [hl] at q
      simp [turnL_eq, lg_nearest_1, lb_nearest_1, q]) ⟨nb0_ok n cs p, nb0_n n cs p hp0 hp1, fun h => by omega⟩
  have rg := iRng1_ok (n := n + 1) (v := vQ (qOp oAdd (qVar 0) (qC (.int 1)))) (s := [.sh (.int n), .sh x, .sh (.int p), .sh (.lst ((allA n cs.length).map (lineQ cs))), .ol ((nb0 n p).S.map optI), .ol ((nb0 n p).L.map lastD), .un]) (by simp [-List.map_replicate]) (by omega)
  have st := setIxE (enc := optI) (s := [.sh (.int n), .sh x, .sh (.int p), .sh (.lst ((allA n cs.length).map (lineQ cs))), .ol ((List.replicate (n + 1) (none : Option Int)).map optI), .ol ((List.replicate (n + 1) (none : Option (Int × Ar))).map lastD), .un]) (i := 4) (dv := vQ (qC (.int 0))) (di := vVar 2) (st := List.replicate (n + 1) none) (j := p) (v := some 0) (s1 := []) rfl (by simp) (by simp) hp0 (by simp; omega)
  rw [en] at rp0
  have es : ((List.replicate (n + 1) (none : Option Int)).set p.toNat (some 0)).map optI = (nb0 n p).S.map optI := rfl
  have es2 : (List.replicate (n + 1) (none : Option (Int × Ar))).map lastD = (nb0 n p).L.map lastD := rfl
  have hXY : (nb0 n p).L.map lastD = (List.replicate (n + 1) (none : Option Int)).map optI := by simp [nb0]
  rw [es, es2] at st
  simp only [List.set_cons_succ, List.set_cons_zero] at st
  simp only at el
  rw [hXY] at st rg el
  generalize (List.replicate (n + 1) (none : Option Int)).map optI = X0 at *
  generalize (nb0 n p).S.map optI = X1 at *
  rcases el with ⟨⟨b, c5⟩, el, hs⟩ | ⟨f, s, el, hf⟩
  · have hN : Near n cs p b.S b.L := by
      rcases hs with ⟨hb, hN, hlast⟩ | hs
      · simp only [Nat.zero_add, List.length_range] at hb hlast
        obtain ⟨v, v0, v1, hR, ha⟩ := hlast (by omega)
        have cy := cyc hc ha v0 v1 hR (by omega)
        obtain ⟨q, q1, _, q3⟩ := cy.ret
        have hbad := ring_bad ha.I cy (n + 1) q q1 q3
        obtain ⟨_, u, t, k, ht⟩ := (isBad_iff _).mp hbad
        have := hg _ _ _ k
        omega
      · exact hs
    refine ⟨b.S, b.L, ?_, hN⟩
    rw [u_nearest]
    unfold d_nearest
    simp [e1, rp0, st, rg, el]
  · exact hf.elim
theorem q_check_met (n : Nat) (x : D) (cs : List Cl) (hx : itsD x = some (cs.map Cl.d)) (hc : ∀ c ∈ cs, c.ok n = true) (hn : n ≤ 100) (hm : cs.length ≤ 100) :
    (f_check_met [.sh (.int n), .sh x] = .ok (.sh .non) [.sh (.int n), .sh x] ∧ ∃ ns, fitAll n cs ns) ∨
    ∃ as, f_check_met [.sh (.int n), .sh x] = .ex ⟨8, ["ring"], [.lst (as.map Ar.d)]⟩ [.sh (.int n), .sh x] ∧ isBad n cs as = true ∧ as.length ≤ n + 1 := by
  rcases q_bad_ring n x cs hx hc hn hm with ⟨e, h⟩ | ⟨as, e, h⟩
  · left
    refine ⟨?_, h⟩
    rw [u_check_met]
    unfold d_check_met
    simp [e]
  · right
    refine ⟨as, ?_, h⟩
    rw [u_check_met]
    unfold d_check_met
    simp [e]
/-- the table: a row a place -/
def isTab (n : Nat) (cs : List Cl) (R : List (List (Option Int))) : Prop := R.length = n + 1 ∧ ∀ (i : Nat) (S : List (Option Int)), R[i]? = some S → ∃ L, Near n cs i S L
def rowD (S : List (Option Int)) : D := .lst (S.map optI)
theorem q_reach_table (n : Nat) (x : D) (cs : List Cl) (hx : itsD x = some (cs.map Cl.d)) (hc : ∀ c ∈ cs, c.ok n = true) (hn : n ≤ 100) (hm : cs.length ≤ 100) :
    ((∃ ns, fitAll n cs ns) ∧ ∃ R, f_reach_table [.sh (.int n), .sh x] = .ok (.ol (R.map rowD)) [.sh (.int n), .sh x] ∧ isTab n cs R) ∨
    ∃ as, f_reach_table [.sh (.int n), .sh x] = .ex ⟨8, ["ring"], [.lst (as.map Ar.d)]⟩ [.sh (.int n), .sh x] ∧ isBad n cs as = true ∧ as.length ≤ n + 1 := by
  rcases q_check_met n x cs hx hc hn hm with ⟨e, ns, h⟩ | ⟨as, e, h⟩
  · left
    refine ⟨⟨ns, h⟩, ?_⟩
    have hg := fit_noNeg h
    have hch : ∀ i : Nat, ∃ S, i < n + 1 → ∃ L, f_nearest [.sh (.int n), .sh x, .sh (.int i)] = .ok (.sh (.tup [.lst (S.map optI), .lst (L.map lastD)])) [.sh (.int n), .sh x, .sh (.int i)] ∧ Near n cs i S L := fun i => by
      by_cases hi : i < n + 1
      · obtain ⟨S, L, h1, h2⟩ := q_nearest n x cs hx hc hn hm hg i (by omega) (by omega)
        exact ⟨S, fun _ => ⟨L, h1, h2⟩⟩
      · exact ⟨[], fun z => absurd z hi⟩
    let F : Nat → List (Option Int) := fun i => (hch i).choose
    have hF : ∀ i, i < n + 1 → ∃ L, f_nearest [.sh (.int n), .sh x, .sh (.int i)] = .ok (.sh (.tup [.lst ((F i).map optI), .lst (L.map lastD)])) [.sh (.int n), .sh x, .sh (.int i)] ∧ Near n cs i (F i) L := fun i hi => (hch i).choose_spec hi
    have en : ((n + 1 : Nat) : Int) = (n : Int) + 1 := by omega
    have lc : cd_reach_table_1 [.sh (.int n), .sh x, .un] = .ok (.ol (((List.range (n + 1)).map F).map rowD)) [.sh (.int n), .sh x, .un] := by
      refine comp_range (n + 1) (by omega) rowD F (by simp) (by simp) (fun i hi => ?_)
      obtain ⟨L, e1, _⟩ := hF i hi
      refine ⟨[.sh (.int n), .sh x, .sh (.int i)], [.sh (.int n), .sh x, .sh (.int i)], rfl, ?_, rfl⟩
      have ix0 : ∀ (a b : D), oIx (.sh (.tup [a, b])) (.sh (.int 0)) = some a := fun _ _ => rfl
      simp [e1, ix0, rowD]
    refine ⟨(List.range (n + 1)).map F, ?_, by simp, fun i S hS => ?_⟩
    · rw [u_reach_table]
      unfold d_reach_table
      generalize ((List.range (n + 1)).map F).map rowD = Z at *
      simp [e, lc]
    · rw [List.getElem?_map] at hS
      by_cases hi : i < n + 1
      · rw [List.getElem?_range hi] at hS
        cases hS
        obtain ⟨L, _, h2⟩ := hF i hi
        exact ⟨L, h2⟩
      · rw [List.getElem?_eq_none (by simp; omega)] at hS
        cases hS
  · right
    refine ⟨as, ?_, h⟩
    rw [u_reach_table]
    unfold d_reach_table
    simp [e]
end VH
end
section
set_option maxHeartbeats 4000000
set_option maxRecDepth 100000
namespace VH
open PySem VL
/-! the law's own part: all patterns, lines -/
def tupI (r : List Int) : D := .tup (r.map D.int)
def allP : Nat → List (List Int)
  | 0 => [[]]
  | n + 1 => (allP n).flatMap fun r => [r ++ [0], r ++ [1]]
theorem allP_mem (n : Nat) : ∀ r : List Int, r ∈ allP n ↔ r.length = n ∧ pat r = true := by
  induction n with
  | zero =>
    intro r
    show r ∈ [[]] ↔ _
    rw [List.mem_singleton, List.length_eq_zero_iff]
    constructor
    · rintro rfl; exact ⟨rfl, rfl⟩
    · exact fun h => h.1
  | succ n ih =>
    intro r
    show r ∈ (allP n).flatMap _ ↔ _
    simp only [List.mem_flatMap, List.mem_cons, List.not_mem_nil, or_false]
    constructor
    · rintro ⟨q, hq, e | e⟩ <;> subst e <;> obtain ⟨h1, h2⟩ := (ih q).mp hq <;> refine ⟨by simp [h1], ?_⟩ <;> unfold pat at h2 ⊢ <;> rw [List.all_append, h2] <;> rfl
    · rintro ⟨h1, h2⟩
      have hne : r ≠ [] := by
        intro z
        subst z
        simp at h1
      have e := List.dropLast_concat_getLast hne
      refine ⟨r.dropLast, (ih _).mpr ⟨by simp [h1], pat_sub h2 fun x hx => List.dropLast_subset _ hx⟩, ?_⟩
      have hl : r.getLast hne = 0 ∨ r.getLast hne = 1 := by
        have := List.all_eq_true.mp h2 _ (List.getLast_mem hne)
        simpa using this
      rcases hl with hl | hl <;> rw [hl] at e
      · exact .inl e.symm
      · exact .inr e.symm
theorem allP_len (n : Nat) : (allP n).length = 2 ^ n := by
  induction n with
  | zero => rfl
  | succ n ih =>
    show ((allP n).flatMap _).length = _
    rw [flat_len, ih]
    omega
theorem allP_lenR {n : Nat} {r : List Int} (h : r ∈ allP n) : r.length = n := ((allP_mem n r).mp h).1
theorem cat_tup (a b : List D) (h : a.length + b.length ≤ 16777216) : oCatT (.sh (.tup a)) (.sh (.tup b)) = some (.sh (.tup (a ++ b))) := by
  show (if a.length + b.length ≤ 16777216 then some (Cell.sh (.tup (a ++ b))) else none) = _
  rw [if_pos h]
theorem pow_small {n : Nat} (h : n ≤ 14) : 2 ^ n ≤ 16384 := Nat.pow_le_pow_right (by omega) h
theorem l_all_2 (n : Nat) (k : Nat) (hk : k ≤ 14) (c0 c1 c2 c4 : Cell) (rs : List (List Int)) (hr : rs.length = 2 ^ k) (hl : ∀ r ∈ rs, r.length = k) : ∃ c4', loopD lg__law_all_2 lb__law_all_2 (rs.map tupI) [c0, c1, c2, .ol [], c4] = .nx [c0, c1, c2, .ol ((rs.flatMap fun r => [r ++ [0], r ++ [1]]).map tupI), c4'] := by
  have hp := pow_small hk
  obtain ⟨⟨ls, c4'⟩, el, h1⟩ := loop_inv lg__law_all_2 lb__law_all_2 tupI (fun (b : List (List Int) × Cell) => [c0, c1, c2, .ol (b.1.map tupI), b.2]) (fun i b => b.1 = (rs.take i).flatMap fun r => [r ++ [0], r ++ [1]]) rs 0 ([], c4) (fun b i r hm hb => by
    obtain ⟨ls, c4'⟩ := b
    simp only [Nat.zero_add] at hb ⊢
    have hi := (List.getElem?_eq_some_iff.mp hm).1
    have hlr := hl r (List.mem_of_getElem? hm)
    have len : ls.length = 2 * i := by
      rw [hb, flat_len, List.length_take]
      omega
    have l1 : ls.length < 16777216 := by omega
    have l2 : ls.length + 1 < 16777216 := by omega
    have t1 := cat_tup (r.map D.int) [.int 0] (by simp; omega)
    have t2 := cat_tup (r.map D.int) [.int 1] (by simp; omega)
    refine ⟨(ls ++ [r ++ [0], r ++ [1]], .sh (tupI r)), ?_, ?_⟩
    · simp [turnL_eq, lg__law_all_2, lb__law_all_2, tupI, t1, t2, l1, l2]
    · rw [List.take_add_one, hm, hb]
      simp) rfl
  simp only [Nat.zero_add, List.take_length] at h1
  subst h1
  exact ⟨c4', el⟩
theorem q_law_all (n : Nat) (hn : n ≤ 14) : f__law_all [.sh (.int n)] = .ok (.sh (.lst ((allP n).map tupI))) [.sh (.int n)] := by
  obtain ⟨⟨k, j⟩, el, h1⟩ := loop_inv lg__law_all_1 lb__law_all_1 natE (fun (b : Nat × J3) => [.sh (.int n), .sh (.lst ((allP b.1).map tupI)), b.2.a, b.2.b, b.2.c]) (fun i b => b.1 = i) (List.range n) 0 (0, ⟨.un, .un, .un⟩) (fun b i y hy hb => by
    obtain ⟨k, j⟩ := b
    simp only [Nat.zero_add] at hb ⊢
    subst hb
    have hi := (List.getElem?_eq_some_iff.mp hy).1
    simp at hi
    obtain ⟨c4', e⟩ := l_all_2 n k (by omega) (.sh (.int n)) (.sh (.lst ((allP k).map tupI))) (.sh (natE y)) j.c (allP k) (allP_len k) (fun r hr => allP_lenR hr)
    refine ⟨(k + 1, ⟨.sh (natE y), .ol ((allP (k + 1)).map tupI), c4'⟩), ?_, rfl⟩
    have e2 : (allP k).flatMap (fun r => [r ++ [0], r ++ [1]]) = allP (k + 1) := rfl
    rw [e2] at e
    simp only [natE_eq] at e ⊢
    generalize (allP (k + 1)).map tupI = X at *
    simp [turnL_eq, lg__law_all_1, lb__law_all_1, e]) rfl
  simp only [Nat.zero_add, List.length_range] at h1
  subst h1
  have e0 : [Cell.sh (.int k), .sh (.lst ((allP 0).map tupI)), .un, .un, .un] = [.sh (.int k), .sh (.lst [.tup []]), .un, .un, .un] := rfl
  simp only [e0] at el
  have rg := iRng1_ok (n := k) (v := vVar 0) (s := [.sh (.int k), .sh (.lst [.tup []]), .un, .un, .un]) (by simp) (by omega)
  rw [u__law_all]
  unfold d__law_all
  simp [rg, el]
def fitP (n : Nat) (cs : List Cl) : List (List Int) := (allP n).filter fun r => cs.all (Cl.fits r)
theorem fitP_mem (n : Nat) (cs : List Cl) (r : List Int) : r ∈ fitP n cs ↔ fitAll n cs r := by
  unfold fitP fitAll
  rw [List.mem_filter, allP_mem, List.all_eq_true]
  constructor
  · rintro ⟨⟨h1, h2⟩, h3⟩; exact ⟨h1, h2, h3⟩
  · rintro ⟨h1, h2, h3⟩; exact ⟨⟨h1, h2⟩, h3⟩
theorem allBools {s : List Cell} (cs : List Cl) (r : List Int) : oAll (.sh (.lst ((cs.map (Cl.fits r)).map D.bl))) = some (.bl (cs.all (Cl.fits r))) := by
  have := o_all (Cl.fits r) cs
  rw [List.map_map]
  exact this
theorem q_law_fitting (n : Nat) (hn : n ≤ 14) (cs : List Cl) (hc : ∀ c ∈ cs, c.ok n = true) (hm : cs.length ≤ 100) : f__law_fitting [.sh (.int n), .sh (.lst (cs.map Cl.d))] = .ok (.ol ((fitP n cs).map tupI)) [.sh (.int n), .sh (.lst (cs.map Cl.d))] := by
  have e1 := q_law_all n hn
  have hp := pow_small hn
  have lc : cd__law_fitting_1 [.sh (.int n), .sh (.lst (cs.map Cl.d)), .un, .un] = .ok (.ol (((((allP n).filter fun r => cs.all (Cl.fits r)).map fun r => r)).map tupI)) [.sh (.int n), .sh (.lst (cs.map Cl.d)), .un, .un] := by
    refine comp_pure tupI tupI (allP n) (fun r => cs.all (Cl.fits r)) (fun r => r) (by simp [e1]) (by rw [allP_len]; omega) (by simp) (fun r hr => ?_)
    have lc2 : cd__law_fitting_2 [.sh (.int n), .sh (.lst (cs.map Cl.d)), .sh (tupI r), .un] = .ok (.ol ((cs.map (Cl.fits r)).map D.bl)) [.sh (.int n), .sh (.lst (cs.map Cl.d)), .sh (tupI r), .un] := by
      refine comp_map Cl.d D.bl cs _ (by simp) (by omega) (by simp) (fun c hcm => ?_)
      refine ⟨[.sh (.int n), .sh (.lst (cs.map Cl.d)), .sh (tupI r), .sh c.d], [.sh (.int n), .sh (.lst (cs.map Cl.d)), .sh (tupI r), .sh c.d], rfl, ?_, rfl⟩
      obtain ⟨h1, h2, h3, h4⟩ := okC (hc c hcm)
      have := q_ones_fit' c (tupI r) r rfl h1 (by omega)
      simp [this]
    have al := allBools (s := []) cs r
    refine ⟨[.sh (.int n), .sh (.lst (cs.map Cl.d)), .sh (tupI r), .un], [.sh (.int n), .sh (.lst (cs.map Cl.d)), .sh (tupI r), .un], rfl, ?_, fun _ => rfl, fun _ => ⟨[.sh (.int n), .sh (.lst (cs.map Cl.d)), .sh (tupI r), .un], ?_, rfl⟩⟩
    · simp [lc2, -List.map_map, al]
    · simp
  rw [List.map_id'] at lc
  rw [u__law_fitting]
  unfold d__law_fitting
  simp [lc, fitP]
def lineL (cs : List Cl) (a : Ar) : D := .tup [a.d, .int (arL cs a).s, .int (arL cs a).e, .int (arL cs a).c]
theorem clAt_idx {cs : List Cl} {c : Cl} {k : Nat} (h : cs[k]? = some c) : clAt cs k = c := by
  unfold clAt
  simp [List.getD_eq_getElem?_getD, h]
theorem q_law_lines (n : Nat) (cs : List Cl) (hn : n ≤ 100) (hm : cs.length ≤ 100) : f__law_lines [.sh (.int n), .sh (.lst (cs.map Cl.d))] = .ok (.ol ((arcsOf n cs.length).map (lineL cs))) [.sh (.int n), .sh (.lst (cs.map Cl.d))] := by
  have lc1 : cd__law_lines_1 [.sh (.int n), .sh (.lst (cs.map Cl.d)), .un, .un, .un] = .ok (.ol (((List.range n).map fun (i : Nat) => (⟨.up, i⟩ : Ar)).map (lineL cs))) [.sh (.int n), .sh (.lst (cs.map Cl.d)), .un, .un, .un] := by
    refine comp_range n (by omega) (lineL cs) _ (by simp) (by simp) (fun i hi => ?_)
    refine ⟨[.sh (.int n), .sh (.lst (cs.map Cl.d)), .un, .sh (.int i), .un], [.sh (.int n), .sh (.lst (cs.map Cl.d)), .un, .sh (.int i), .un], rfl, ?_, rfl⟩
    simp [lineL, Ar.d, Aw.s, arL]
  obtain ⟨⟨k, c3⟩, el, hk⟩ := loop_inv lg__law_lines_2 lb__law_lines_2 natE (fun (b : Nat × Cell) => [.sh (.int n), .sh (.lst (cs.map Cl.d)), .ol ((((List.range n).map fun (i : Nat) => (⟨.up, i⟩ : Ar)) ++ ((List.range b.1).map fun (i : Nat) => (⟨.flat, i⟩ : Ar))).map (lineL cs)), b.2, .un]) (fun i b => b.1 = i) (List.range n) 0 (0, .un) (fun b i y hy hb => by
    obtain ⟨k, c3⟩ := b
    simp only [Nat.zero_add] at hb ⊢
    have hi := (List.getElem?_eq_some_iff.mp hy).1
    rw [List.getElem?_range (by simpa using hi)] at hy
    cases hy
    simp at hi
    subst hb
    refine ⟨(k + 1, .sh (.int k)), ?_, rfl⟩
    have pl : n + k < 16777216 := by omega
    simp [turnL_eq, lg__law_lines_2, lb__law_lines_2, pl, List.range_succ, lineL, Ar.d, Aw.s, arL]) rfl
  simp only [Nat.zero_add, List.length_range] at hk
  subst hk
  have e0 : ((List.range k).map fun (i : Nat) => (⟨.up, i⟩ : Ar)) ++ ((List.range k).map fun (i : Nat) => (⟨.flat, i⟩ : Ar)) = arcsOf k 0 := by
    unfold arcsOf
    simp
  rw [e0] at el
  obtain ⟨⟨m, j⟩, el2, hm2⟩ := loop_inv lg__law_lines_3 lb__law_lines_3 (enumE Cl.d) (fun (b : Nat × J2) => [.sh (.int k), .sh (.lst (cs.map Cl.d)), .ol ((arcsOf k b.1).map (lineL cs)), b.2.a, b.2.b]) (fun i b => b.1 = i) cs.zipIdx 0 (0, ⟨c3, .un⟩) (fun b i q hq hb => by
    obtain ⟨m, j⟩ := b
    simp only [Nat.zero_add] at hb ⊢
    have hi := (List.getElem?_eq_some_iff.mp hq).1
    rw [List.length_zipIdx] at hi
    subst hb
    obtain ⟨c, i⟩ := q
    rw [List.getElem?_zipIdx] at hq
    have hq' : cs[m]? = some c ∧ i = m := by
      cases e : cs[m]? with
      | none => rw [e] at hq; cases hq
      | some c' => rw [e] at hq; simp at hq; exact ⟨by rw [hq.1], hq.2.symm⟩
    obtain ⟨hq1, rfl⟩ := hq'
    have hcl := clAt_idx hq1
    refine ⟨(i + 1, ⟨.sh (.int i), .sh c.d⟩), ?_, rfl⟩
    have ea : arcsOf k (i + 1) = arcsOf k i ++ [⟨.most, i⟩, ⟨.least, i⟩] := by
      unfold arcsOf
      rw [List.range_succ, List.flatMap_append]
      simp
    have len := arcsOf_len k i
    have l1 : (arcsOf k i).length < 16777216 := by omega
    have l2 : (arcsOf k i).length + 1 < 16777216 := by omega
    simp [turnL_eq, lg__law_lines_3, lb__law_lines_3, ea, l1, l2, lineL, Ar.d, Aw.s, arL, hcl]) rfl
  simp only [Nat.zero_add, List.length_zipIdx] at hm2
  subst hm2
  have rg := fun l => iRng1_ok (n := k) (v := vVar 0) (s := [.sh (.int k), .sh (.lst (cs.map Cl.d)), .ol l, .un, .un]) (by simp) (by omega)
  have en := enumD_enc Cl.d cs
  simp only [List.range_zero, List.map_nil, List.append_nil] at el
  simp only at el2
  rw [u__law_lines]
  unfold d__law_lines
  generalize ((List.range k).map fun (i : Nat) => (⟨.up, i⟩ : Ar)).map (lineL cs) = X at *
  simp [lc1, rg, el, en, el2]
end VH
end
section
set_option maxHeartbeats 4000000
set_option maxRecDepth 100000
namespace VH
open PySem VL
/-! prices of a bad ring -/
def cnt (as : List Ar) (b : Ar) : Int := ((as.filter fun a => decide (a = b)).length : Int)
theorem cnt_nil (b : Ar) : cnt [] b = 0 := rfl
theorem cnt_cons (a : Ar) (as : List Ar) (b : Ar) : cnt (a :: as) b = (if a = b then 1 else 0) + cnt as b := by
  unfold cnt
  by_cases h : a = b
  · simp [h]; omega
  · simp [h]
theorem cnt_snoc (a : Ar) (as : List Ar) (b : Ar) : cnt (as ++ [a]) b = cnt as b + (if a = b then 1 else 0) := by
  unfold cnt
  rw [List.filter_append, List.length_append]
  by_cases h : a = b
  · simp [h]
  · simp [h]
theorem cnt_nonneg (as : List Ar) (b : Ar) : 0 ≤ cnt as b := by unfold cnt; omega
/-- the price of claim k -/
def prk (as : List Ar) (k : Nat) : Int := cnt as ⟨.least, k⟩ - cnt as ⟨.most, k⟩
def prc (m : Nat) (as : List Ar) : List Int := (List.range m).map (prk as)
theorem prc_len (m : Nat) (as : List Ar) : (prc m as).length = m := by simp [prc]
theorem prc_gI (m : Nat) (as : List Ar) (k : Nat) (h : k < m) : gI (prc m as) k = prk as k := by
  rw [gI_nat _ _ (by rw [prc_len]; exact h)]
  simp [prc]
theorem sum_zero' {α : Type} (l : List α) : (l.map fun _ => (0 : Int)).sum = 0 := by
  induction l with
  | nil => rfl
  | cons x l ih => simp [ih]
theorem sum_ind (n : Nat) (j : Int) (x : Int) : ((List.range n).map fun (i : Nat) => if j = (i : Int) then x else 0).sum = if 0 ≤ j ∧ j < n then x else 0 := by
  induction n with
  | zero => simp; omega
  | succ n ih =>
    rw [List.range_succ, List.map_append, List.sum_append, ih]
    simp only [List.map_cons, List.map_nil, List.sum_cons, List.sum_nil, Int.add_zero]
    by_cases h : j = (n : Int)
    · rw [if_pos h, if_neg (by omega), if_pos (by omega)]; omega
    · by_cases h2 : 0 ≤ j ∧ j < n
      · rw [if_neg h, if_pos h2, if_pos (by omega)]; omega
      · rw [if_neg h, if_neg h2, if_neg (by omega)]; omega
theorem sum_zip_ind (f : Cl → Int) (j : Int) : ∀ (cs : List Cl) (s : Nat), ((cs.zipIdx s).map fun q => if j = (q.2 : Int) then f q.1 else 0).sum = if (s : Int) ≤ j ∧ j < s + cs.length then f (clAt cs (j - s)) else 0
  | [], s => by simp; omega
  | c :: cs, s => by
    rw [List.zipIdx_cons, List.map_cons, List.sum_cons, sum_zip_ind f j cs (s + 1)]
    simp only [List.length_cons]
    by_cases h : j = (s : Int)
    · rw [if_pos h, if_neg (by omega), if_pos (by omega)]
      have : clAt (c :: cs) (j - s) = c := by
        unfold clAt
        rw [show (j - (s : Int)).toNat = 0 by omega]
        rfl
      rw [this]
      omega
    · by_cases h2 : ((s + 1 : Nat) : Int) ≤ j ∧ j < ((s + 1 : Nat) : Int) + cs.length
      · rw [if_neg h, if_pos h2, if_pos (by omega)]
        have : clAt (c :: cs) (j - s) = clAt cs (j - ((s + 1 : Nat) : Int)) := by
          unfold clAt
          rw [show (j - (s : Int)).toNat = (j - ((s + 1 : Nat) : Int)).toNat + 1 by omega]
          rfl
        rw [this]
        omega
      · rw [if_neg h, if_neg h2, if_neg (by omega)]
        omega
def upS (n : Nat) (as : List Ar) : Int := ((List.range n).map fun (i : Nat) => cnt as ⟨.up, i⟩).sum
def clS (cs : List Cl) (as : List Ar) : Int := (cs.zipIdx.map fun q => cnt as ⟨.most, q.2⟩ * q.1.mx - cnt as ⟨.least, q.2⟩ * q.1.mn).sum
theorem ar_ext (a : Ar) (w : Aw) (p : Int) : a = ⟨w, p⟩ ↔ a.w = w ∧ a.p = p := by
  cases a
  simp
theorem upS_cons (n : Nat) (a : Ar) (as : List Ar) : upS n (a :: as) = (if a.w = .up ∧ 0 ≤ a.p ∧ a.p < n then 1 else 0) + upS n as := by
  unfold upS
  have e : ((List.range n).map fun (i : Nat) => cnt (a :: as) ⟨.up, i⟩).sum = ((List.range n).map fun (i : Nat) => (if a.p = (i : Int) then (if a.w = .up then (1 : Int) else 0) else 0) + cnt as ⟨.up, i⟩).sum := sum_map_congr _ _ _ fun i _ => by
    rw [cnt_cons]
    congr 1
    simp only [ar_ext]
    by_cases h1 : a.w = .up <;> by_cases h2 : a.p = (i : Int) <;> simp [h1, h2]
  rw [e, sum_map_add, sum_ind]
  congr 1
  by_cases h1 : a.w = .up <;> by_cases h2 : 0 ≤ a.p ∧ a.p < n <;> simp [h1, h2]
theorem clS_cons (cs : List Cl) (a : Ar) (as : List Ar) : clS cs (a :: as) = (if a.w = .most ∧ 0 ≤ a.p ∧ a.p < cs.length then (clAt cs a.p).mx else 0) + (if a.w = .least ∧ 0 ≤ a.p ∧ a.p < cs.length then -(clAt cs a.p).mn else 0) + clS cs as := by
  unfold clS
  have e : (cs.zipIdx.map fun q => cnt (a :: as) ⟨.most, q.2⟩ * q.1.mx - cnt (a :: as) ⟨.least, q.2⟩ * q.1.mn).sum = (cs.zipIdx.map fun q => ((if a.p = (q.2 : Int) then (if a.w = .most then q.1.mx else 0) else 0) + (if a.p = (q.2 : Int) then (if a.w = .least then -q.1.mn else 0) else 0)) + (cnt as ⟨.most, q.2⟩ * q.1.mx - cnt as ⟨.least, q.2⟩ * q.1.mn)).sum := sum_map_congr _ _ _ fun q _ => by
    rw [cnt_cons, cnt_cons, Int.add_mul, Int.add_mul]
    simp only [ar_ext]
    by_cases h1 : a.w = .most
    · have h3 : ¬ (Aw.most = .least) := by decide
      by_cases h2 : a.p = (q.2 : Int) <;> simp [h1, h2, h3] <;> omega
    · by_cases h3 : a.w = .least
      · have h4 : ¬ (Aw.least = .most) := by decide
        by_cases h2 : a.p = (q.2 : Int) <;> simp [h3, h2, h4] <;> omega
      · simp [h1, h3]
  rw [e, sum_map_add, sum_map_add, sum_zip_ind (fun c => if a.w = .most then c.mx else 0) a.p cs 0, sum_zip_ind (fun c => if a.w = .least then -c.mn else 0) a.p cs 0]
  have z : ((0 : Nat) : Int) = 0 := rfl
  simp only [z, Int.zero_add, Int.sub_zero]
  congr 2
  · by_cases h1 : a.w = .most <;> by_cases h2 : 0 ≤ a.p ∧ a.p < cs.length <;> simp [h1, h2]
  · by_cases h1 : a.w = .least <;> by_cases h2 : 0 ≤ a.p ∧ a.p < cs.length <;> simp [h1, h2]
theorem pth_cost {n : Nat} {cs : List Cl} {u v : Int} {as : List Ar} {t : Int} (h : Pth n cs u v as t) : t = upS n as + clS cs as := by
  induction h with
  | nil u =>
    unfold upS clS
    rw [sum_map_congr _ (fun _ => 0) _ (fun i _ => cnt_nil _), sum_zero', sum_map_congr _ (fun _ => 0) _ (fun q _ => by rw [cnt_nil, cnt_nil]; simp), sum_zero']
    rfl
  | @cons u v a as t h hu _ ih =>
    obtain ⟨h0, hd, h1, h2⟩ := (arOk_iff _ _ _).mp h
    rw [upS_cons, clS_cons, ih]
    unfold arL
    cases hw : a.w with
    | up =>
      have := h1 (.inl hw)
      rw [if_pos ⟨rfl, h0, this⟩]
      simp
      omega
    | flat => simp
    | most =>
      have := h2 (.inl hw)
      simp [h0, this]
      omega
    | least =>
      have := h2 (.inr hw)
      simp [h0, this]
      omega
    | down => exact absurd hw hd
/-- right of a cut -/
def rt (i v : Int) : Int := if i < v then 1 else 0
theorem pth_cut {n : Nat} {cs : List Cl} (hc : ∀ c ∈ cs, c.ok n = true) (i : Nat) (hi : i < n) {u v : Int} {as : List Ar} {t : Int} (h : Pth n cs u v as t) : rt i v - rt i u = cnt as ⟨.up, i⟩ - cnt as ⟨.flat, i⟩ - (cs.zipIdx.map fun q => if q.1.lo ≤ (i : Int) ∧ (i : Int) < q.1.hi then prk as q.2 else 0).sum := by
  induction h with
  | nil u =>
    rw [sum_map_congr _ (fun _ => 0) _ (fun q _ => by unfold prk; rw [cnt_nil, cnt_nil]; simp), sum_zero', cnt_nil, cnt_nil]
    omega
  | @cons u v a as t h hu _ ih =>
    obtain ⟨h0, hd, h1, h2⟩ := (arOk_iff _ _ _).mp h
    have e : (cs.zipIdx.map fun q => if q.1.lo ≤ (i : Int) ∧ (i : Int) < q.1.hi then prk (a :: as) q.2 else 0).sum = (if 0 ≤ a.p ∧ a.p < cs.length then (if (clAt cs a.p).lo ≤ (i : Int) ∧ (i : Int) < (clAt cs a.p).hi then (if a.w = .least then 1 else if a.w = .most then -1 else 0) else 0) else (0 : Int)) + (cs.zipIdx.map fun q => if q.1.lo ≤ (i : Int) ∧ (i : Int) < q.1.hi then prk as q.2 else 0).sum := by
      have z := sum_zip_ind (fun c => if c.lo ≤ (i : Int) ∧ (i : Int) < c.hi then (if a.w = .least then 1 else if a.w = .most then -1 else 0) else (0 : Int)) a.p cs 0
      have z0 : ((0 : Nat) : Int) = 0 := rfl
      simp only [z0, Int.zero_add, Int.sub_zero] at z
      rw [← z, ← sum_map_add]
      apply sum_map_congr
      intro q _
      unfold prk
      rw [cnt_cons, cnt_cons]
      simp only [ar_ext]
      by_cases g : q.1.lo ≤ (i : Int) ∧ (i : Int) < q.1.hi
      · simp only [g, and_self, if_true]
        by_cases k1 : a.w = .least
        · have k3 : ¬ (Aw.least = .most) := by decide
          by_cases k2 : a.p = (q.2 : Int) <;> simp [k1, k2, k3] <;> omega
        · by_cases k4 : a.w = .most
          · have k3 : ¬ (Aw.most = .least) := by decide
            by_cases k2 : a.p = (q.2 : Int) <;> simp [k4, k2, k3] <;> omega
          · simp [k1, k4]
      · rw [if_neg g, if_neg g, if_neg g]
        simp
    rw [e, cnt_cons, cnt_cons]
    simp only [ar_ext]
    generalize (cs.zipIdx.map fun q => if q.1.lo ≤ (i : Int) ∧ (i : Int) < q.1.hi then prk as q.2 else 0).sum = Z at *
    subst hu
    unfold arL at ih ⊢
    unfold rt at *
    cases hw : a.w with
    | up =>
      rw [hw] at ih
      simp only at ih ⊢
      by_cases k : a.p = (i : Int) <;> simp [k] at ih ⊢ <;> (try split at ih) <;> (try split) <;> omega
    | flat =>
      rw [hw] at ih
      simp only at ih ⊢
      by_cases k : a.p = (i : Int) <;> simp [k] at ih ⊢ <;> (try split at ih) <;> (try split) <;> omega
    | most =>
      have hp := h2 (.inl hw)
      obtain ⟨z1, z2, z3, z4⟩ := okC (hc _ (clAt_mem h0 hp))
      rw [hw] at ih
      simp only at ih ⊢
      simp [h0, hp] at ih ⊢
      by_cases k1 : (clAt cs a.p).lo ≤ (i : Int) <;> by_cases k2 : (i : Int) < (clAt cs a.p).hi <;> simp [k1, k2] at ih ⊢ <;> (try split at ih) <;> (try split) <;> omega
    | least =>
      have hp := h2 (.inr hw)
      obtain ⟨z1, z2, z3, z4⟩ := okC (hc _ (clAt_mem h0 hp))
      rw [hw] at ih
      simp only at ih ⊢
      simp [h0, hp] at ih ⊢
      by_cases k1 : (clAt cs a.p).lo ≤ (i : Int) <;> by_cases k2 : (i : Int) < (clAt cs a.p).hi <;> simp [k1, k2] at ih ⊢ <;> (try split at ih) <;> (try split) <;> omega
    | down => exact absurd hw hd
def zrs (n : Nat) : List Int := List.replicate n 0
theorem zrs_gI (n : Nat) (i : Int) : gI (zrs n) i = 0 := by
  unfold gI zrs
  rw [List.getD_eq_getElem?_getD, List.getElem?_replicate]
  split <;> rfl
theorem sum_le {α : Type} (f g : α → Int) : ∀ l : List α, (∀ x ∈ l, f x ≤ g x) → (l.map f).sum ≤ (l.map g).sum
  | [], _ => by simp
  | x :: l, h => by
    have h1 := h x (List.mem_cons_self ..)
    have h2 := sum_le f g l fun y hy => h y (List.mem_cons_of_mem _ hy)
    simp only [List.map_cons, List.sum_cons]
    omega
theorem mem_zip_idx {cs : List Cl} {q : Cl × Nat} (h : q ∈ cs.zipIdx) : q.2 < cs.length ∧ q.1 ∈ cs := by
  obtain ⟨c, k⟩ := q
  have z := List.mem_zipIdx h
  refine ⟨by simpa using z.2.1, ?_⟩
  simp only
  rw [z.2.2]
  exact List.getElem_mem _
theorem bad_worth {n : Nat} {cs : List Cl} (hc : ∀ c ∈ cs, c.ok n = true) {as : List Ar} (h : isBad n cs as = true) : 0 < wth n (zrs n) (prc cs.length as) cs := by
  obtain ⟨_, u, t, k, ht⟩ := (isBad_iff as).mp h
  have hcost := pth_cost k
  have hlost : lost n (zrs n) (prc cs.length as) cs ≤ upS n as := by
    unfold lost upS
    apply sum_le
    intro i hi
    have hi := List.mem_range.mp hi
    have z := pth_cut hc i hi k
    rw [zrs_gI]
    have e : rs (prc cs.length as) cs i = (cs.zipIdx.map fun q => if q.1.lo ≤ (i : Int) ∧ (i : Int) < q.1.hi then prk as q.2 else 0).sum := by
      unfold rs rsL
      apply sum_map_congr
      intro q hq
      rw [prc_gI _ _ _ (mem_zip_idx hq).1]
    rw [e]
    have n1 := cnt_nonneg as ⟨.up, i⟩
    have n2 := cnt_nonneg as ⟨.flat, i⟩
    omega
  have hgain : -(clS cs as) ≤ gained (prc cs.length as) cs := by
    unfold clS gained
    have e : -(cs.zipIdx.map fun q => cnt as ⟨.most, q.2⟩ * q.1.mx - cnt as ⟨.least, q.2⟩ * q.1.mn).sum = (cs.zipIdx.map fun q => (-1) * (cnt as ⟨.most, q.2⟩ * q.1.mx - cnt as ⟨.least, q.2⟩ * q.1.mn)).sum := by
      rw [sum_map_mul]
      omega
    rw [e]
    apply sum_le
    intro q hq
    obtain ⟨hq1, hq2⟩ := mem_zip_idx hq
    rw [prc_gI _ _ _ hq1]
    obtain ⟨z1, z2, z3, z4⟩ := okC (hc _ hq2)
    have n1 := cnt_nonneg as ⟨.most, q.2⟩
    have n2 := cnt_nonneg as ⟨.least, q.2⟩
    unfold cw prk
    generalize cnt as ⟨.most, q.2⟩ = M at *
    generalize cnt as ⟨.least, q.2⟩ = L at *
    have m1 : M * q.1.mn ≤ M * q.1.mx := Int.mul_le_mul_of_nonneg_left z4 n1
    have m2 : L * q.1.mn ≤ L * q.1.mx := Int.mul_le_mul_of_nonneg_left z4 n2
    split
    · rw [Int.sub_mul]; omega
    · rw [Int.sub_mul]; omega
  unfold wth
  omega
theorem met_worth {n : Nat} {cs : List Cl} (hc : ∀ c ∈ cs, c.ok n = true) {ns : List Int} (hf : fitAll n cs ns) (ps : List Int) : wth n (zrs n) ps cs ≤ 0 := by
  have d := (duality n (zrs n) ps ns cs hf.1 hc hf.2.1 (List.all_eq_true.mpr hf.2.2)).1
  have e : dot (zrs n) ns n = 0 := by
    unfold dot
    rw [sum_map_congr _ (fun _ => 0) _ (fun i _ => by rw [zrs_gI]; simp), sum_zero']
  omega
end VH
end
section
set_option maxHeartbeats 4000000
set_option maxRecDepth 100000
namespace VH
open PySem VL
/-! the law's own part: lines of ways, prices of rings -/
theorem ar_okD (a : Ar) (n : Nat) : okD a.d (n + 1) = true := by
  obtain ⟨w, p⟩ := a
  have h : PyData.strOk w.s = true := by cases w <;> decide +kernel
  show (okD (.str w.s) n && (okD (.int p) n && okDL [] n)) = true
  show (PyData.strOk w.s && (true && true)) = true
  rw [h]
  rfl
theorem ar_eqv (a b : Ar) : eqD a.d b.d = decide (a = b) := by
  obtain ⟨w, p⟩ := a
  obtain ⟨v, q⟩ := b
  have e : eqD (Ar.d ⟨w, p⟩) (Ar.d ⟨v, q⟩) = ((w.s == v.s) && ((p == q) && true)) := rfl
  rw [e]
  have hw : (w.s == v.s) = decide (w = v) := by cases w <;> cases v <;> rfl
  rw [hw, Bool.and_true, Bool.eq_iff_iff]
  simp
theorem ar_eq (a b : Ar) : oEq (.sh a.d) (.sh b.d) = some (.bl (decide (a = b))) := by
  rw [eq_deep _ _ rfl (ar_okD a 7) (ar_okD b 7), ar_eqv]
theorem filter_up (w0 : Aw) (a : Ar) (n : Nat) : ((List.range n).map fun (i : Nat) => (⟨w0, i⟩ : Ar)).filter (fun b => decide (b = a)) = if a.w = w0 ∧ 0 ≤ a.p ∧ a.p < n then [a] else [] := by
  induction n with
  | zero => rw [if_neg (by omega)]; rfl
  | succ n ih =>
    rw [List.range_succ, List.map_append, List.filter_append, ih]
    obtain ⟨w, p⟩ := a
    simp only
    by_cases h : p = (n : Int)
    · subst h
      rw [if_neg (by omega)]
      by_cases hw : w = w0
      · subst hw
        rw [if_pos ⟨rfl, by omega, by omega⟩]
        simp
      · rw [if_neg (fun z => hw z.1)]
        have : ¬ w0 = w := fun z => hw z.symm
        simp [this]
    · have e : (List.map (fun (i : Nat) => (⟨w0, i⟩ : Ar)) [n]).filter (fun b => decide (b = ⟨w, p⟩)) = [] := by
        have : ¬ (n : Int) = p := fun z => h z.symm
        simp [this]
      rw [e, List.append_nil]
      by_cases g : w = w0 ∧ 0 ≤ p ∧ p < n
      · rw [if_pos g, if_pos ⟨g.1, g.2.1, by omega⟩]
      · rw [if_neg g, if_neg (fun z => g ⟨z.1, z.2.1, by omega⟩)]
theorem filter_cl (a : Ar) (m : Nat) : ((List.range m).flatMap fun (i : Nat) => [(⟨.most, i⟩ : Ar), ⟨.least, i⟩]).filter (fun b => decide (b = a)) = if (a.w = .most ∨ a.w = .least) ∧ 0 ≤ a.p ∧ a.p < m then [a] else [] := by
  induction m with
  | zero => rw [if_neg (by omega)]; rfl
  | succ n ih =>
    rw [List.range_succ, List.flatMap_append, List.filter_append, ih]
    obtain ⟨w, p⟩ := a
    simp only
    by_cases h : p = (n : Int)
    · subst h
      rw [if_neg (by omega)]
      cases w <;> simp <;> omega
    · have e : (List.flatMap (fun (i : Nat) => [(⟨.most, i⟩ : Ar), ⟨.least, i⟩]) [n]).filter (fun b => decide (b = ⟨w, p⟩)) = [] := by
        have : ¬ (n : Int) = p := fun z => h z.symm
        simp [this]
      rw [e, List.append_nil]
      by_cases g : (w = .most ∨ w = .least) ∧ 0 ≤ p ∧ p < n
      · rw [if_pos g, if_pos ⟨g.1, g.2.1, by omega⟩]
      · rw [if_neg g, if_neg (fun z => g ⟨z.1, z.2.1, by omega⟩)]
theorem filter_arcs (n m : Nat) (a : Ar) : (arcsOf n m).filter (fun b => decide (b = a)) = if arOk n m a = true then [a] else [] := by
  unfold arcsOf
  rw [List.filter_append, List.filter_append, filter_up, filter_up, filter_cl]
  obtain ⟨w, p⟩ := a
  unfold arOk
  cases w <;> by_cases h0 : 0 ≤ p <;> simp [h0] <;> split <;> simp_all
theorem q_law_is_arc (a : Ar) : f__law_is_arc [.sh a.d] = .ok (.sh (.bl true)) [.sh a.d] := by
  rw [u__law_is_arc]
  unfold d__law_is_arc
  simp
/-- a way's line as the law tells it -/
def wayD (n : Nat) (cs : List Cl) (as : List Ar) : D := match wayL n cs as (none, 0) with
  | some (some (s, e), t) => .tup [.int s, .int e, .int t]
  | _ => .non
@[simp] theorem line_ix0 (cs : List Cl) (a : Ar) : oIx (.sh (lineL cs a)) (.sh (.int 0)) = some a.d := (rfl)
@[simp] theorem line_ix1 (cs : List Cl) (a : Ar) : oIx (.sh (lineL cs a)) (.sh (.int 1)) = some (.int (arL cs a).s) := (rfl)
@[simp] theorem line_ix2 (cs : List Cl) (a : Ar) : oIx (.sh (lineL cs a)) (.sh (.int 2)) = some (.int (arL cs a).e) := (rfl)
@[simp] theorem line_ix3 (cs : List Cl) (a : Ar) : oIx (.sh (lineL cs a)) (.sh (.int 3)) = some (.int (arL cs a).c) := (rfl)
theorem wLaw (n : Nat) (cs : List Cl) : ∀ (as : List Ar) (b : Wst), runT (γ := Unit) (fun b a => match stepW n cs b a with
      | some b' => .go b'
      | none => .out ()) as b = match wayL n cs as b with
      | some b' => .inl b'
      | none => .inr ()
  | [], b => rfl
  | a :: as, b => by
    unfold runT wayL
    cases stepW n cs b a with
    | none => rfl
    | some b' => exact wLaw n cs as b'
theorem q_law_line (n : Nat) (y : D) (cs : List Cl) (hn : n ≤ 100) (hm : cs.length ≤ 100) (as : List Ar) (hy : itsD y = some (as.map Ar.d)) :
    f__law_line [.sh (.int n), .sh (.lst (cs.map Cl.d)), .sh y] = .ok (.sh (wayD n cs as)) [.sh (.int n), .sh (.lst (cs.map Cl.d)), .sh y] := by
  have e1 := q_law_lines n cs hn hm
  have z := loop_run (J := J7) lg__law_line_1 lb__law_line_1 Ar.d (fun (b : Wst) (j : J7) => [.sh (.int n), .sh (.lst (cs.map Cl.d)), .sh y, .sh (.lst ((arcsOf n cs.length).map (lineL cs))), .sh (wS b).1, .sh (wS b).2, .sh (.int b.2), j.a, j.b, .un]) (fun b a => match stepW n cs b a with
      | some b' => .go b'
      | none => .out ()) (fun (_ : Unit) => .rt (.sh .non)) (fun _ (j : J7) => [.sh (.int n), .sh (.lst (cs.map Cl.d)), .sh y, j.a, j.b, j.c, j.d, j.e, j.f, j.g]) (fun _ => True) as (none, 0) ⟨.un, .un, .un, .un, .un, .un, .un⟩ (fun b j a ha _ => by
    have q1 := q_law_is_arc a
    have lc : ∀ c4 c5 c6 c8, cd__law_line_2 [.sh (.int n), .sh (.lst (cs.map Cl.d)), .sh y, .sh (.lst ((arcsOf n cs.length).map (lineL cs))), c4, c5, c6, .sh a.d, c8, .un] = .ok (.ol ((((arcsOf n cs.length).filter fun b => decide (b = a)).map fun b => b).map (lineL cs))) [.sh (.int n), .sh (.lst (cs.map Cl.d)), .sh y, .sh (.lst ((arcsOf n cs.length).map (lineL cs))), c4, c5, c6, .sh a.d, c8, .un] := by
      intro c4 c5 c6 c8
      refine comp_pure (lineL cs) (lineL cs) (arcsOf n cs.length) (fun b => decide (b = a)) (fun b => b) (by simp) (by rw [arcsOf_len]; omega) (by simp) (fun b hb => ?_)
      refine ⟨[.sh (.int n), .sh (.lst (cs.map Cl.d)), .sh y, .sh (.lst ((arcsOf n cs.length).map (lineL cs))), c4, c5, c6, .sh a.d, c8, .sh (lineL cs b)], [.sh (.int n), .sh (.lst (cs.map Cl.d)), .sh y, .sh (.lst ((arcsOf n cs.length).map (lineL cs))), c4, c5, c6, .sh a.d, c8, .sh (lineL cs b)], rfl, ?_, fun _ => rfl, fun _ => ⟨[.sh (.int n), .sh (.lst (cs.map Cl.d)), .sh y, .sh (.lst ((arcsOf n cs.length).map (lineL cs))), c4, c5, c6, .sh a.d, c8, .sh (lineL cs b)], ?_, rfl⟩⟩
      · simp [ar_eq]
      · simp
    rw [List.map_id', filter_arcs] at lc
    unfold stepW
    obtain ⟨o, t⟩ := b
    by_cases hk : arOk n cs.length a = true
    · rw [if_pos hk] at lc
      have ix : oIx (.ol [lineL cs a]) (.sh (.int 0)) = some (lineL cs a) := rfl
      simp only [List.map_cons, List.map_nil] at lc
      cases o with
      | none =>
        simp only [hk, if_true]
        refine ⟨?_, trivial⟩
        simp [turnL_eq, lg__law_line_1, lb__law_line_1, q1, lc, ix, wS]
        exact ⟨_, .un, .un, .un, .un, .un, rfl⟩
      | some o =>
        obtain ⟨s, e⟩ := o
        by_cases hs : (arL cs a).s = e
        · simp only [hk, hs, if_true]
          refine ⟨?_, trivial⟩
          simp [turnL_eq, lg__law_line_1, lb__law_line_1, q1, lc, ix, wS, hs]
          exact ⟨_, .un, .un, .un, .un, .un, rfl⟩
        · simp only [hk, hs, if_true, if_false]
          simp [turnL_eq, lg__law_line_1, lb__law_line_1, q1, lc, ix, wS, hs]
    · rw [if_neg hk] at lc
      simp only [hk]
      simp [turnL_eq, lg__law_line_1, lb__law_line_1, q1, lc]) trivial
  rw [wLaw] at z
  have hty : (oIsi .list (.sh y) = some (.bl true)) ∨ (oIsi .list (.sh y) = some (.bl false) ∧ oIsi .tuple (.sh y) = some (.bl true)) := by
    cases y <;> first | (cases hy; done) | exact .inl rfl | exact .inr ⟨rfl, rfl⟩
  have hit := itD_its hy
  rw [u__law_line]
  unfold d__law_line wayD
  cases e : wayL n cs as (none, 0) with
  | none =>
    rw [e] at z
    obtain ⟨j, el⟩ := z.2 () rfl
    simp only [fi_rt, wS] at el
    rcases hty with h | ⟨h, h'⟩
    · simp [h, e1, hit, el]
    · simp [h, h', e1, hit, el]
  | some b =>
    rw [e] at z
    obtain ⟨⟨j, el⟩, _⟩ := z.1 b rfl
    obtain ⟨o, t⟩ := b
    simp only [wS] at el
    cases o with
    | none =>
      simp only at el
      rcases hty with h | ⟨h, h'⟩
      · simp [h, e1, hit, el]
      · simp [h, h', e1, hit, el]
    | some o =>
      obtain ⟨s, en⟩ := o
      simp only at el
      rcases hty with h | ⟨h, h'⟩
      · simp [h, e1, hit, el]
      · simp [h, h', e1, hit, el]
theorem q_law_is_bad (n : Nat) (y : D) (cs : List Cl) (hn : n ≤ 100) (hm : cs.length ≤ 100) (as : List Ar) (hy : itsD y = some (as.map Ar.d)) :
    f__law_is_bad [.sh (.int n), .sh (.lst (cs.map Cl.d)), .sh y] = .ok (.sh (.bl (isBad n cs as))) [.sh (.int n), .sh (.lst (cs.map Cl.d)), .sh y] := by
  have e1 := q_law_line n y cs hn hm as hy
  have i0 : ∀ a b c : D, oIx (.sh (.tup [a, b, c])) (.sh (.int 0)) = some a := fun _ _ _ => rfl
  have i1 : ∀ a b c : D, oIx (.sh (.tup [a, b, c])) (.sh (.int 1)) = some b := fun _ _ _ => rfl
  have i2 : ∀ a b c : D, oIx (.sh (.tup [a, b, c])) (.sh (.int 2)) = some c := fun _ _ _ => rfl
  rw [u__law_is_bad]
  unfold d__law_is_bad isBad
  unfold wayD at e1
  cases e : wayL n cs as (none, 0) with
  | none =>
    rw [e] at e1
    simp [e1]
  | some b =>
    rw [e] at e1
    obtain ⟨o, t⟩ := b
    cases o with
    | none => simp [e1]
    | some o =>
      obtain ⟨s, en⟩ := o
      by_cases hs : s = en <;> simp [e1, i0, i1, i2, hs]
theorem q_shows_unmet (n : Nat) (x z : D) (cs : List Cl) (ps : List Int) (hx : itsD x = some (cs.map Cl.d)) (hz : itsD z = some (ps.map D.int)) (hn : n ≤ 100) (hl : ps.length = cs.length) (hl2 : cs.length ≤ 100) (hp : sm ps) (hc : ∀ c ∈ cs, c.ok n = true) :
    f_shows_unmet [.sh (.int n), .sh x, .sh z] = .ok (.sh (.bl (decide (0 < wth n (zrs n) ps cs)))) [.sh (.int n), .sh x, .sh z] := by
  have e1 := q_check_claims n x cs hx hc
  have rp := rep0 n (by omega)
  have W : WOk n x (.lst ((zrs n).map D.int)) z cs (zrs n) ps := ⟨hx, rfl, hz, hn, by simp [zrs], hl, hl2, hp, hc⟩
  have e2 := q_worth W
  rw [u_shows_unmet]
  unfold d_shows_unmet
  unfold zrs at *
  generalize (List.replicate n (0 : Int)).map D.int = X at *
  simp [e1, rp, e2]
theorem q_shows_unmet_bad (n : Nat) (x z : D) (cs : List Cl) (zs : List D) (hx : itsD x = some (cs.map Cl.d)) (hz : itsD z = some zs) (hn : n ≤ 100) (hl : zs.length ≤ 1000) (hni : zs.all noIns = true) (hb : numOk zs cs.length = false) (hc : ∀ c ∈ cs, c.ok n = true) :
    f_shows_unmet [.sh (.int n), .sh x, .sh z] = .ok (.sh (.bl false)) [.sh (.int n), .sh x, .sh z] := by
  have e1 := q_check_claims n x cs hx hc
  have rp := rep0 n (by omega)
  have e2 := q_worth_badp n x (.lst ((List.replicate n (0 : Int)).map D.int)) z cs zs hx hz hl hni hb hc
  have ct : ct_BadNumbers 7 = some true := rfl
  rw [u_shows_unmet]
  unfold d_shows_unmet
  generalize (List.replicate n (0 : Int)).map D.int = X at *
  simp [e1, rp, e2, ct]
end VH
end
section
set_option maxHeartbeats 4000000
set_option maxRecDepth 100000
namespace VH
open PySem VL
/-! the law's worth, the ring's prices -/
theorem l_worth30_2 (n : Nat) (x : Cell) (ps : List Int) (k : Nat) (hk : k < ps.length) (g cd c8 : Cell) (lo hi : Nat) (h1 : lo ≤ hi) (h2 : hi ≤ n) (f : Nat → Int) (w : Cell) :
    ∃ w', loopD lg__law_worth_k30_2 lb__law_worth_k30_2 ((rngI lo hi).map D.int) [.sh (.int n), x, .sh (.lst (ps.map D.int)), g, .ol (((List.range n).map f).map D.int), .sh (.int k), cd, w, c8] =
      .nx [.sh (.int n), x, .sh (.lst (ps.map D.int)), g, .ol (((List.range n).map fun (i : Nat) => f i + if (lo : Int) ≤ i ∧ (i : Int) < hi then gI ps k else 0).map D.int), .sh (.int k), cd, w', c8] := by
  obtain ⟨⟨t, w'⟩, e, ht⟩ := loop_inv lg__law_worth_k30_2 lb__law_worth_k30_2 D.int (fun (b : Nat × Cell) => [.sh (.int n), x, .sh (.lst (ps.map D.int)), g, .ol (((List.range n).map fun (i : Nat) => f i + if lo ≤ i ∧ i < lo + b.1 then gI ps k else 0).map D.int), .sh (.int k), cd, b.2, c8]) (fun i b => b.1 = i) (rngI lo hi) 0 (0, w) (fun b i y hy hb => by
    obtain ⟨t, w'⟩ := b
    simp only [Nat.zero_add] at hb ⊢
    subst hb
    have hy2 := hy
    unfold rngI at hy
    rw [List.getElem?_map] at hy
    have ht : t < ((hi : Int) - lo).toNat := by
      have := (List.getElem?_eq_some_iff.mp hy2).1
      rwa [rngI_length] at this
    rw [List.getElem?_range ht] at hy
    simp at hy
    subst hy
    refine ⟨(t + 1, .sh (.int ((lo : Int) + t))), ?_, rfl⟩
    generalize hF : (fun (i : Nat) => f i + if lo ≤ i ∧ i < lo + t then gI ps k else 0) = F
    have ej : ((lo : Int) + t) = ((lo + t : Nat) : Int) := by omega
    have i1 := ix_ol ((List.range n).map F) ((lo : Int) + t) (by omega) (by simp; omega)
    have i2 := ix_sh ps k (by omega) (by omega)
    have st := setIx (s := [.sh (.int n), x, .sh (.lst (ps.map D.int)), g, .ol (((List.range n).map F).map D.int), .sh (.int k), cd, .sh (.int ((lo : Int) + t)), c8]) (i := 4) (dv := vQ (qOp oAdd (qOp oIx (qVar 4) (qVar 7)) (qOp oIx (qVar 2) (qVar 5)))) (di := vVar 7) (st := (List.range n).map F) (j := (lo : Int) + t) (v := gI ((List.range n).map F) ((lo : Int) + t) + gI ps k) rfl (by simp [-List.map_map, i1, i2]) (by simp) (by omega) (by simp; omega)
    have am := addAt_map n F (lo + t) (gI ps k) (by omega)
    unfold addAt at am
    rw [ej] at st
    rw [am] at st
    have ef : (fun (i : Nat) => F i + if i = lo + t then gI ps k else 0) = fun (i : Nat) => f i + if lo ≤ i ∧ i < lo + (t + 1) then gI ps k else 0 := by
      subst hF
      funext i
      show f i + (if lo ≤ i ∧ i < lo + t then gI ps k else 0) + (if i = lo + t then gI ps k else 0) = _
      by_cases a1 : i = lo + t
      · rw [if_pos a1, if_neg (by omega), if_pos (by omega)]; omega
      · by_cases a2 : lo ≤ i ∧ i < lo + t
        · rw [if_neg a1, if_pos a2, if_pos (by omega)]; omega
        · rw [if_neg a1, if_neg a2, if_neg (by omega)]; omega
    rw [ef] at st
    rw [← ej] at st
    simp [-List.map_map, turnL_eq, lg__law_worth_k30_2, lb__law_worth_k30_2, st]) rfl
  simp only [Nat.zero_add, rngI_length] at ht
  subst ht
  refine ⟨w', ?_⟩
  have e0 : (fun (i : Nat) => f i + if lo ≤ i ∧ i < lo + 0 then gI ps k else 0) = f := by
    funext i
    rw [if_neg (by omega)]
    omega
  have e1 : (fun (i : Nat) => f i + if lo ≤ i ∧ i < lo + ((hi : Int) - lo).toNat then gI ps k else 0) = fun (i : Nat) => f i + if (lo : Int) ≤ i ∧ (i : Int) < hi then gI ps k else 0 := by
    funext i
    by_cases a : lo ≤ i ∧ i < lo + ((hi : Int) - lo).toNat
    · rw [if_pos a, if_pos (by omega)]
    · rw [if_neg a, if_neg (by omega)]
  simp only [e0, e1] at e
  exact e
theorem q_law_worth30 (n : Nat) (cs : List Cl) (ps : List Int) (hn : n ≤ 100) (hl : ps.length = cs.length) (hp : sm ps) (hc : ∀ c ∈ cs, c.ok n = true) :
    f__law_worth_k30 [.sh (.int n), .sh (.lst (cs.map Cl.d)), .sh (.lst (ps.map D.int))] = .ok (.sh (.int (wth n (zrs n) ps cs))) [.sh (.int n), .sh (.lst (cs.map Cl.d)), .sh (.lst (ps.map D.int))] := by
  obtain ⟨⟨t, j⟩, el, ht⟩ := loop_inv lg__law_worth_k30_1 lb__law_worth_k30_1 (enumE Cl.d) (fun (b : Nat × J3) => [.sh (.int n), .sh (.lst (cs.map Cl.d)), .sh (.lst (ps.map D.int)), .sh (.int ((cs.zipIdx.take b.1).map fun q => cw q.1 (gI ps q.2)).sum), .ol (((List.range n).map fun (i : Nat) => rsL ps (cs.zipIdx.take b.1) i).map D.int), b.2.a, b.2.b, b.2.c, .un]) (fun i b => b.1 = i) cs.zipIdx 0 (0, ⟨.un, .un, .un⟩) (fun b i q hq hb => by
    obtain ⟨t, j⟩ := b
    simp only [Nat.zero_add] at hb ⊢
    subst hb
    obtain ⟨h1, h2, h3, _, h4⟩ := mem_zipIdx_ok hc (List.mem_of_getElem? hq)
    have tk : cs.zipIdx.take (t + 1) = cs.zipIdx.take t ++ [q] := by rw [List.take_add_one, hq]; rfl
    obtain ⟨c, k⟩ := q
    simp only at h1 h2 h3 h4
    obtain ⟨lo, hlo⟩ := Int.eq_ofNat_of_zero_le h1
    obtain ⟨hi, hhi⟩ := Int.eq_ofNat_of_zero_le (show 0 ≤ c.hi by omega)
    have ip := ix_sh ps k (by omega) (by omega)
    have m1 := mul_sm (gI ps k) c.mn (.inl (sm_gI hp k))
    have m2 := mul_sm (gI ps k) c.mx (.inl (sm_gI hp k))
    have ef : (fun (i : Nat) => rsL ps (cs.zipIdx.take (t + 1)) i) = fun (i : Nat) => rsL ps (cs.zipIdx.take t) i + if (lo : Int) ≤ i ∧ (i : Int) < hi then gI ps k else 0 := by
      funext i
      rw [tk, rsL_append]
      simp [rsL, hlo, hhi]
    have eg : ((cs.zipIdx.take (t + 1)).map fun q => cw q.1 (gI ps q.2)).sum = ((cs.zipIdx.take t).map fun q => cw q.1 (gI ps q.2)).sum + cw c (gI ps k) := by
      rw [tk]
      simp
    generalize hG : ((cs.zipIdx.take t).map fun q => cw q.1 (gI ps q.2)).sum = G at *
    have l2 := fun g => l_worth30_2 n (.sh (.lst (cs.map Cl.d))) ps k (by omega) g (.sh c.d) .un lo hi (by omega) (by omega) (fun i => rsL ps (cs.zipIdx.take t) i) j.c
    obtain ⟨w', l2⟩ := l2 (.sh (.int (G + cw c (gI ps k))))
    refine ⟨(t + 1, ⟨.sh (.int k), .sh c.d, w'⟩), ?_, rfl⟩
    simp only [ef, eg]
    have rg1 := fun g => iRng2_ok (s := [.sh (.int n), .sh (.lst (cs.map Cl.d)), .sh (.lst (ps.map D.int)), g, .ol (((List.range n).map fun (i : Nat) => rsL ps (cs.zipIdx.take t) i).map D.int), .sh (.int k), .sh c.d, j.c, .un]) (u := vQ (qOp oIx (qVar 6) (qC (.int 0)))) (v := vQ (qOp oIx (qVar 6) (qC (.int 1)))) (a := lo) (b := hi) (by simp [hlo]) (by simp [hhi]) (by omega) (by omega) (by omega) (by omega)
    by_cases a1 : 0 < gI ps k
    · have a2 : ¬ gI ps k < 0 := by omega
      have ew : cw c (gI ps k) = gI ps k * c.mn := by unfold cw; rw [if_pos a1]
      rw [ew] at l2 ⊢
      simp [-List.map_map, turnL_eq, lg__law_worth_k30_1, lb__law_worth_k30_1, ip, m1, a1, a2, rg1, l2]
    · by_cases a2 : gI ps k < 0
      · have ew : cw c (gI ps k) = gI ps k * c.mx := by unfold cw; rw [if_neg a1]
        rw [ew] at l2 ⊢
        simp [-List.map_map, turnL_eq, lg__law_worth_k30_1, lb__law_worth_k30_1, ip, m2, a1, a2, rg1, l2]
      · have a3 : gI ps k = 0 := by omega
        have ew : G + cw c (gI ps k) = G := by unfold cw; rw [if_neg a1, a3]; simp
        rw [ew] at l2 ⊢
        simp [-List.map_map, turnL_eq, lg__law_worth_k30_1, lb__law_worth_k30_1, ip, a1, a2, rg1, l2]) rfl
  simp only [Nat.zero_add] at ht
  subst ht
  simp only [List.take_length, List.take_zero, List.map_nil, List.sum_nil] at el
  have e0 : ((List.range n).map fun (i : Nat) => rsL ps [] i) = List.replicate n 0 := by
    apply List.ext_getElem
    · simp
    · intro i h1 h2; simp [rsL]
  rw [e0] at el
  have en := enumD_enc Cl.d cs
  have rp := rep0 n (by omega)
  have eg : (cs.zipIdx.map fun q => cw q.1 (gI ps q.2)).sum = gained ps cs := rfl
  have eh : ((List.range n).map fun (i : Nat) => rsL ps cs.zipIdx i) = hts n ps cs := rfl
  rw [eg, eh] at el
  have lc : cd__law_worth_k30_3 [.sh (.int n), .sh (.lst (cs.map Cl.d)), .sh (.lst (ps.map D.int)), .sh (.int (gained ps cs)), .ol ((hts n ps cs).map D.int), j.a, j.b, j.c, .un] = .ok (.ol (((hts n ps cs).map fun h => max 0 h).map D.int)) [.sh (.int n), .sh (.lst (cs.map Cl.d)), .sh (.lst (ps.map D.int)), .sh (.int (gained ps cs)), .sh (.lst ((hts n ps cs).map D.int)), j.a, j.b, j.c, .un] := by
    refine comp_map D.int D.int (hts n ps cs) _ (by simp) (by rw [hts_len]; omega) (by simp) (fun h hh => ?_)
    refine ⟨[.sh (.int n), .sh (.lst (cs.map Cl.d)), .sh (.lst (ps.map D.int)), .sh (.int (gained ps cs)), .sh (.lst ((hts n ps cs).map D.int)), j.a, j.b, j.c, .sh (.int h)], [.sh (.int n), .sh (.lst (cs.map Cl.d)), .sh (.lst (ps.map D.int)), .sh (.int (gained ps cs)), .sh (.lst ((hts n ps cs).map D.int)), j.a, j.b, j.c, .sh (.int h)], rfl, ?_, rfl⟩
    simp
  have su := o_sumI ((hts n ps cs).map fun h => max 0 h)
  have es : ((hts n ps cs).map fun h => max 0 h).sum = lost n (zrs n) ps cs := by
    unfold hts lost
    rw [List.map_map]
    apply sum_map_congr
    intro i _
    show max 0 (rs ps cs i) = _
    rw [zrs_gI]
    simp
  rw [es] at su
  rw [u__law_worth_k30]
  unfold d__law_worth_k30
  generalize (List.replicate n (0 : Int)).map D.int = X at *
  generalize ((hts n ps cs).map fun h => max 0 h).map D.int = Y at *
  simp [rp, en, el, lc, su, wth]
theorem prk_snoc (as : List Ar) (a : Ar) (k : Nat) : prk (as ++ [a]) k = prk as k + (if a = ⟨.least, k⟩ then 1 else 0) - (if a = ⟨.most, k⟩ then 1 else 0) := by
  unfold prk
  rw [cnt_snoc, cnt_snoc]
  omega
theorem prc_snoc (m : Nat) (as : List Ar) (a : Ar) (ha : a.w = .least ∨ a.w = .most → 0 ≤ a.p ∧ a.p < m) : prc m (as ++ [a]) = if a.w = .least then addAt (prc m as) a.p 1 else if a.w = .most then addAt (prc m as) a.p (-1) else prc m as := by
  obtain ⟨w, p⟩ := a
  simp only at ha ⊢
  by_cases h1 : w = .least
  · subst h1
    obtain ⟨p0, p1⟩ := ha (.inl rfl)
    obtain ⟨k, rfl⟩ := Int.eq_ofNat_of_zero_le p0
    rw [if_pos rfl]
    unfold prc
    rw [addAt_map m (prk as) k 1 (by omega)]
    apply List.map_congr_left
    intro i _
    rw [prk_snoc]
    by_cases h : i = k
    · subst h; simp
    · have h2 : ¬ ((k : Int) = i) := by omega
      simp [h, h2] <;> omega
  · rw [if_neg h1]
    by_cases h2 : w = .most
    · subst h2
      obtain ⟨p0, p1⟩ := ha (.inr rfl)
      obtain ⟨k, rfl⟩ := Int.eq_ofNat_of_zero_le p0
      rw [if_pos rfl]
      unfold prc
      rw [addAt_map m (prk as) k (-1) (by omega)]
      apply List.map_congr_left
      intro i _
      rw [prk_snoc]
      by_cases h : i = k
      · subst h; simp; omega
      · have h2 : ¬ ((k : Int) = i) := by omega
        simp [h, h2]
    · rw [if_neg h2]
      unfold prc
      apply List.map_congr_left
      intro i _
      rw [prk_snoc]
      simp [h1, h2]
theorem q_ring_prices (n : Nat) (x y : D) (cs : List Cl) (hx : itsD x = some (cs.map Cl.d)) (hc : ∀ c ∈ cs, c.ok n = true) (hm : cs.length ≤ 100) (as : List Ar) (hy : itsD y = some (as.map Ar.d)) (ha : ∀ a ∈ as, arOk n cs.length a = true) :
    f_ring_prices [.sh (.int n), .sh x, .sh y] = .ok (.ol ((prc cs.length as).map D.int)) [.sh (.int n), .sh x, .sh y] := by
  have e1 := q_check_claims n x cs hx hc
  have hle := oLen_its hx
  rw [List.length_map] at hle
  have rp := rep0 cs.length (by omega)
  obtain ⟨⟨as', j⟩, el, h1⟩ := loop_inv lg_ring_prices_1 lb_ring_prices_1 (enumE Ar.d) (fun (b : List Ar × J2) => [.sh (.int n), .sh x, .sh y, .ol ((prc cs.length b.1).map D.int), b.2.a, b.2.b]) (fun i b => b.1 = as.take i) as.zipIdx 0 ([], ⟨.un, .un⟩) (fun b i q hq hb => by
    obtain ⟨as', j⟩ := b
    simp only [Nat.zero_add] at hb ⊢
    obtain ⟨a, k⟩ := q
    have hi := (List.getElem?_eq_some_iff.mp hq).1
    rw [List.length_zipIdx] at hi
    have hq1 : as[i]? = some a := by
      rw [List.getElem?_zipIdx] at hq
      cases e : as[i]? with
      | none => rw [e] at hq; cases hq
      | some c' => rw [e] at hq; simp at hq; rw [hq.1]
    have hok := ha a (List.mem_of_getElem? hq1)
    have e2 := q_is_arc n x cs hx a
    rw [hok] at e2
    obtain ⟨g0, gd, g1, g2⟩ := (arOk_iff _ _ _).mp hok
    have ps := prc_snoc cs.length as' a (fun h => ⟨g0, g2 (h.elim .inr .inl)⟩)
    refine ⟨(as' ++ [a], ⟨.sh (.int k), .sh a.d⟩), ?_, by rw [List.take_add_one, hq1, hb]; rfl⟩
    simp only [ps]
    have a1 := fun (hp : a.p < cs.length) => augIxAdd 3 (vQ (qOp oIx (qVar 5) (qC (.int 1)))) (vQ (qC (.int 1))) [.sh (.int n), .sh x, .sh y, .ol ((prc cs.length as').map D.int), .sh (.int k), .sh a.d] (prc cs.length as') a.p 1 rfl (by simp) (by simp) g0 (by rw [prc_len]; omega)
    have a2 := fun (hp : a.p < cs.length) => augIxSub 3 (vQ (qOp oIx (qVar 5) (qC (.int 1)))) (vQ (qC (.int 1))) [.sh (.int n), .sh x, .sh y, .ol ((prc cs.length as').map D.int), .sh (.int k), .sh a.d] (prc cs.length as') a.p 1 rfl (by simp) (by simp) g0 (by rw [prc_len]; omega)
    by_cases h1 : a.w = .least
    · have a1 := a1 (g2 (.inr h1))
      have h3 : ¬ (Aw.least = .most) := by decide
      simp [turnL_eq, lg_ring_prices_1, lb_ring_prices_1, e2, h1, a1, h3]
    · by_cases h2 : a.w = .most
      · have a2 := a2 (g2 (.inl h2))
        have h3 : ¬ (Aw.most = .least) := by decide
        simp [turnL_eq, lg_ring_prices_1, lb_ring_prices_1, e2, h2, a2, h3]
      · simp [turnL_eq, lg_ring_prices_1, lb_ring_prices_1, e2, h1, h2]) (by simp)
  simp only [Nat.zero_add, List.length_zipIdx, List.take_length] at h1
  subst h1
  have e0 : prc cs.length [] = List.replicate cs.length 0 := by
    unfold prc prk
    apply List.ext_getElem
    · simp
    · intro i h1 h2; simp [cnt]
  simp only [e0] at el
  have en := enumD_enc Ar.d as'
  rw [u_ring_prices]
  unfold d_ring_prices
  generalize (List.replicate cs.length (0 : Int)).map D.int = X at *
  simp [e1, hle, rp, hy, en, el]
theorem q_law_no_arc (n : Nat) (cs : List Cl) (hc : ∀ c ∈ cs, c.ok n = true) (hm : cs.length ≤ 100) : f__law_no_arc [.sh (.int n), .sh (.lst (cs.map Cl.d))] = .ok (.sh (.bl true)) [.sh (.int n), .sh (.lst (cs.map Cl.d))] := by
  have e1 := q_check_claims n (.lst (cs.map Cl.d)) cs rfl hc
  have rp := rep0 cs.length (by omega)
  have e2 := q_is_arc n (.lst (cs.map Cl.d)) cs rfl ⟨.least, cs.length⟩
  have hk : arOk n cs.length ⟨.least, cs.length⟩ = false := by
    unfold arOk
    simp
  rw [hk] at e2
  have e3 : f_ring_prices [.sh (.int n), .sh (.lst (cs.map Cl.d)), .sh (.lst [Ar.d ⟨.least, cs.length⟩])] = .ex ⟨6, ["place"], [.int 0]⟩ [.sh (.int n), .sh (.lst (cs.map Cl.d)), .sh (.lst [Ar.d ⟨.least, cs.length⟩])] := by
    have ee : enumD 0 [Ar.d ⟨.least, cs.length⟩] = [.tup [.int 0, Ar.d ⟨.least, cs.length⟩]] := rfl
    rw [u_ring_prices]
    unfold d_ring_prices
    generalize (List.replicate cs.length (0 : Int)).map D.int = X at *
    simp [e1, rp, ee, loopD, lg_ring_prices_1, lb_ring_prices_1, e2]
  have ct : ct_BadArc 6 = some true := rfl
  have ea : (D.tup [.str ("least" : Str), .int cs.length]) = Ar.d ⟨.least, cs.length⟩ := rfl
  rw [u__law_no_arc]
  unfold d__law_no_arc
  simp [ea, e3, ct]
end VH
end
section
set_option maxHeartbeats 8000000
set_option maxRecDepth 100000
namespace VH
open PySem VL
/-! law k30 -/
theorem ne_ol (c : Cell) (d : List D) : oNe c (.ol d) = oNe c (.sh (.lst d)) := rfl
theorem q_raised_ring (n : Nat) (cs : List Cl) (hc : ∀ c ∈ cs, c.ok n = true) (hn : n ≤ 100) (hm : cs.length ≤ 100) :
    (f__law_raised_ring [.sh (.int n), .sh (.lst (cs.map Cl.d))] = .ok (.sh .non) [.sh (.int n), .sh (.lst (cs.map Cl.d))] ∧ ∃ ns, fitAll n cs ns) ∨
    ∃ as, f__law_raised_ring [.sh (.int n), .sh (.lst (cs.map Cl.d))] = .ok (.sh (.lst (as.map Ar.d))) [.sh (.int n), .sh (.lst (cs.map Cl.d))] ∧ isBad n cs as = true ∧ as.length ≤ n + 1 := by
  have ct : ct_Contrary 8 = some true := rfl
  rcases q_reach_table n (.lst (cs.map Cl.d)) cs rfl hc hn hm with ⟨h, R, e, _⟩ | ⟨as, e, h⟩
  · left
    refine ⟨?_, h⟩
    rw [u__law_raised_ring]
    unfold d__law_raised_ring
    generalize R.map rowD = Z at *
    simp [e]
  · right
    refine ⟨as, ?_, h⟩
    rw [u__law_raised_ring]
    unfold d__law_raised_ring
    generalize as.map Ar.d = Z at *
    simp [e, ct]
theorem pth_ok {n : Nat} {cs : List Cl} {u v : Int} {as : List Ar} {t : Int} (h : Pth n cs u v as t) : ∀ a ∈ as, arOk n cs.length a = true := by
  induction h with
  | nil u => intro a ha; cases ha
  | cons h hu _ ih =>
    intro a ha
    rcases List.mem_cons.mp ha with ha | ha
    · rw [ha]; exact h
    · exact ih a ha
theorem bad_ok {n : Nat} {cs : List Cl} {as : List Ar} (h : isBad n cs as = true) : ∀ a ∈ as, arOk n cs.length a = true := by
  obtain ⟨_, u, t, k, _⟩ := (isBad_iff as).mp h
  exact pth_ok k
theorem prc_sm (m : Nat) (as : List Ar) (h : as.length ≤ 1000) : sm (prc m as) := by
  intro p hp
  obtain ⟨k, _, rfl⟩ := List.mem_map.mp hp
  unfold prk cnt
  have h1 := List.length_filter_le (fun a => decide (a = (⟨.least, k⟩ : Ar))) as
  have h2 := List.length_filter_le (fun a => decide (a = (⟨.most, k⟩ : Ar))) as
  omega
theorem l_ring_due (n : Nat) (cs : List Cl) (as : List Ar) (hm : cs.length ≤ 100) (hl : as.length ≤ 200) (qs : List Int) (t : Nat) (W : List D) :
    ∃ j : J2, loopD lg__law_ring_holds_k30_1 lb__law_ring_holds_k30_1 ((List.range cs.length).map natE) [.ol (qs.map D.int), .sh (.int n), .sh (.lst (cs.map Cl.d)), .sh (.lst (as.map Ar.d)), .sh (.int t), .sh (.lst W), .ol [], .un, .un, .un, .un, .un] =
      .nx [.ol (qs.map D.int), .sh (.int n), .sh (.lst (cs.map Cl.d)), .sh (.lst (as.map Ar.d)), .sh (.int t), .sh (.lst W), .ol ((prc cs.length as).map D.int), j.a, j.b, .un, .un, .un] := by
  obtain ⟨⟨k, j⟩, el, hk⟩ := loop_inv lg__law_ring_holds_k30_1 lb__law_ring_holds_k30_1 natE (fun (b : Nat × J2) => [.ol (qs.map D.int), .sh (.int n), .sh (.lst (cs.map Cl.d)), .sh (.lst (as.map Ar.d)), .sh (.int t), .sh (.lst W), .ol (((List.range b.1).map (prk as)).map D.int), b.2.a, b.2.b, .un, .un, .un]) (fun i b => b.1 = i) (List.range cs.length) 0 (0, ⟨.un, .un⟩) (fun b i y hy hb => by
    obtain ⟨k, j⟩ := b
    simp only [Nat.zero_add] at hb ⊢
    have hi := (List.getElem?_eq_some_iff.mp hy).1
    rw [List.getElem?_range (by simpa using hi)] at hy
    cases hy
    simp at hi
    subst hb
    have lc2 : ∀ c6 c8, cd__law_ring_holds_k30_2 [.ol (qs.map D.int), .sh (.int n), .sh (.lst (cs.map Cl.d)), .sh (.lst (as.map Ar.d)), .sh (.int t), .sh (.lst W), c6, .sh (.int k), c8, .un, .un, .un] = .ok (.ol (((as.filter fun a => decide (a = ⟨.least, k⟩)).map fun a => a).map Ar.d)) [.ol (qs.map D.int), .sh (.int n), .sh (.lst (cs.map Cl.d)), .sh (.lst (as.map Ar.d)), .sh (.int t), .sh (.lst W), c6, .sh (.int k), c8, .un, .un, .un] := by
      intro c6 c8
      refine comp_pure Ar.d Ar.d as (fun a => decide (a = ⟨.least, k⟩)) (fun a => a) (by simp) (by omega) (by simp) (fun a ha => ?_)
      have ea : (D.tup [.str ("least" : Str), .int k]) = Ar.d ⟨.least, k⟩ := rfl
      refine ⟨[.ol (qs.map D.int), .sh (.int n), .sh (.lst (cs.map Cl.d)), .sh (.lst (as.map Ar.d)), .sh (.int t), .sh (.lst W), c6, .sh (.int k), c8, .un, .sh a.d, .un], [.ol (qs.map D.int), .sh (.int n), .sh (.lst (cs.map Cl.d)), .sh (.lst (as.map Ar.d)), .sh (.int t), .sh (.lst W), c6, .sh (.int k), c8, .un, .sh a.d, .un], rfl, ?_, fun _ => rfl, fun _ => ⟨[.ol (qs.map D.int), .sh (.int n), .sh (.lst (cs.map Cl.d)), .sh (.lst (as.map Ar.d)), .sh (.int t), .sh (.lst W), c6, .sh (.int k), c8, .un, .sh a.d, .un], ?_, rfl⟩⟩
      · simp [ea, ar_eq]
      · simp
    have lc3 : ∀ c6 c8, cd__law_ring_holds_k30_3 [.ol (qs.map D.int), .sh (.int n), .sh (.lst (cs.map Cl.d)), .sh (.lst (as.map Ar.d)), .sh (.int t), .sh (.lst W), c6, .sh (.int k), c8, .un, .un, .un] = .ok (.ol (((as.filter fun a => decide (a = ⟨.most, k⟩)).map fun a => a).map Ar.d)) [.ol (qs.map D.int), .sh (.int n), .sh (.lst (cs.map Cl.d)), .sh (.lst (as.map Ar.d)), .sh (.int t), .sh (.lst W), c6, .sh (.int k), c8, .un, .un, .un] := by
      intro c6 c8
      refine comp_pure Ar.d Ar.d as (fun a => decide (a = ⟨.most, k⟩)) (fun a => a) (by simp) (by omega) (by simp) (fun a ha => ?_)
      have ea : (D.tup [.str ("most" : Str), .int k]) = Ar.d ⟨.most, k⟩ := rfl
      refine ⟨[.ol (qs.map D.int), .sh (.int n), .sh (.lst (cs.map Cl.d)), .sh (.lst (as.map Ar.d)), .sh (.int t), .sh (.lst W), c6, .sh (.int k), c8, .un, .sh a.d, .un], [.ol (qs.map D.int), .sh (.int n), .sh (.lst (cs.map Cl.d)), .sh (.lst (as.map Ar.d)), .sh (.int t), .sh (.lst W), c6, .sh (.int k), c8, .un, .sh a.d, .un], rfl, ?_, fun _ => rfl, fun _ => ⟨[.ol (qs.map D.int), .sh (.int n), .sh (.lst (cs.map Cl.d)), .sh (.lst (as.map Ar.d)), .sh (.int t), .sh (.lst W), c6, .sh (.int k), c8, .un, .sh a.d, .un], ?_, rfl⟩⟩
      · simp [ea, ar_eq]
      · simp
    rw [List.map_id'] at lc2 lc3
    have pl : k < 16777216 := by omega
    refine ⟨(k + 1, ⟨.sh (.int k), .sh (.int (cnt as ⟨.least, k⟩))⟩), ?_, rfl⟩
    have hcl : cnt as ⟨.least, k⟩ = ((as.filter fun a => decide (a = (⟨.least, k⟩ : Ar))).length : Int) := rfl
    have hcm : cnt as ⟨.most, k⟩ = ((as.filter fun a => decide (a = (⟨.most, k⟩ : Ar))).length : Int) := rfl
    generalize as.filter (fun a => decide (a = (⟨.least, k⟩ : Ar))) = X at *
    generalize as.filter (fun a => decide (a = (⟨.most, k⟩ : Ar))) = Y at *
    simp [turnL_eq, lg__law_ring_holds_k30_1, lb__law_ring_holds_k30_1, lc2, lc3, pl, List.range_succ, prk, hcl, hcm]) rfl
  simp only [Nat.zero_add, List.length_range] at hk
  subst hk
  have hpr : (List.range cs.length).map (prk as) = prc cs.length as := rfl
  simp only [hpr, List.range_zero, List.map_nil] at el
  exact ⟨j, el⟩
theorem q_ring_holds30 (ps : List Int) (n : Nat) (cs : List Cl) (as : List Ar) (hc : ∀ c ∈ cs, c.ok n = true) (hn : n ≤ 100) (hm : cs.length ≤ 100) (hb : isBad n cs as = true) (hl : as.length ≤ 200) :
    ∃ qs : List Int, f__law_ring_holds_k30 [.ol (ps.map D.int), .sh (.int n), .sh (.lst (cs.map Cl.d)), .sh (.lst (as.map Ar.d))] = .ok (.sh (.bl true)) [.ol (qs.map D.int), .sh (.int n), .sh (.lst (cs.map Cl.d)), .sh (.lst (as.map Ar.d))] := by
  have hne := ((isBad_iff as).mp hb).1
  have hlen : 0 < as.length := List.length_pos_iff.mpr hne
  have e1 := q_law_is_bad n (.lst (as.map Ar.d)) cs hn hm as rfl
  have e2 := q_shows_contrary n (.lst (cs.map Cl.d)) (.lst (as.map Ar.d)) cs rfl hc as rfl
  rw [hb] at e1 e2
  obtain ⟨t, qs, e3, t0, t1⟩ := q_draw ps as.length (by omega)
  obtain ⟨t, rfl⟩ := Int.eq_ofNat_of_zero_le t0
  have hrot : isBad n cs (as.drop t ++ as.take t) = true := isBad_rot _ _ (by rw [List.take_append_drop]; exact hb)
  have e4 := q_shows_contrary n (.lst (cs.map Cl.d)) (.tup ((as.drop t ++ as.take t).map Ar.d)) cs rfl hc _ rfl
  rw [hrot] at e4
  have e5 := q_shows_contrary n (.lst (cs.map Cl.d)) (.lst ((as.take t ++ as.drop (t + 1)).map Ar.d)) cs rfl hc _ rfl
  have e6 := q_law_is_bad n (.lst ((as.take t ++ as.drop (t + 1)).map Ar.d)) cs hn hm _ rfl
  have hgo := bad_ok hb
  have e7 := q_ring_prices n (.lst (cs.map Cl.d)) (.lst (as.map Ar.d)) cs rfl hc hm as rfl hgo
  have hsm := prc_sm cs.length as (by omega)
  have e8 := q_law_worth30 n cs (prc cs.length as) hn (prc_len _ _) hsm hc
  have e9 := q_shows_unmet n (.lst (cs.map Cl.d)) (.lst ((prc cs.length as).map D.int)) cs (prc cs.length as) rfl rfl hn (prc_len _ _) hm hsm hc
  have hw := bad_worth hc hb
  -- slices
  have c1 : ∀ (s : List Cell) (v : DV), s[3]? = some (.sh (.lst (as.map Ar.d))) → v s = .ok (.int t) s → cSlN 3 (bSome v) bNone s = .ok (.ol ((as.drop t).map Ar.d)) s := fun s v hs hv => by
    rw [a_cSlN 3 (bSome v) bNone s _ hs (by simp) (some t) none (by simp [hv]) (by simp), sl_lst, cut_from _ _ (by omega)]
    simp
  have c2 : ∀ (s : List Cell) (v : DV), s[3]? = some (.sh (.lst (as.map Ar.d))) → v s = .ok (.int t) s → cSlN 3 bNone (bSome v) s = .ok (.ol ((as.take t).map Ar.d)) s := fun s v hs hv => by
    rw [a_cSlN 3 bNone (bSome v) s _ hs (by simp) none (some t) (by simp) (by simp [hv]), sl_lst, cut_to _ _ (by omega)]
    simp
  have c3 : ∀ (s : List Cell) (v : DV), s[3]? = some (.sh (.lst (as.map Ar.d))) → v s = .ok (.int ((t : Int) + 1)) s → cSlN 3 (bSome v) bNone s = .ok (.ol ((as.drop (t + 1)).map Ar.d)) s := fun s v hs hv => by
    rw [a_cSlN 3 (bSome v) bNone s _ hs (by simp) (some ((t : Int) + 1)) none (by simp [hv]) (by simp), sl_lst, cut_from _ _ (by omega)]
    rw [show ((t : Int) + 1).toNat = t + 1 by omega]
    simp
  have d1 := c1 [.ol (qs.map D.int), .sh (.int n), .sh (.lst (cs.map Cl.d)), .sh (.lst (as.map Ar.d)), .sh (.int t), .un, .un, .un, .un, .un, .un, .un] (vVar 4) rfl (by simp)
  have d2 := c2 [.ol (qs.map D.int), .sh (.int n), .sh (.lst (cs.map Cl.d)), .sh (.lst (as.map Ar.d)), .sh (.int t), .un, .un, .un, .un, .un, .un, .un] (vVar 4) rfl (by simp)
  have d3 := c3 [.ol (qs.map D.int), .sh (.int n), .sh (.lst (cs.map Cl.d)), .sh (.lst (as.map Ar.d)), .sh (.int t), .un, .un, .un, .un, .un, .un, .un] (vQ (qOp oAdd (qVar 4) (qC (.int 1)))) rfl (by simp)
  have k1 := cat_lo ((as.drop t).map Ar.d) ((as.take t).map Ar.d) (by simp; omega)
  have k2 := cat_lo ((as.take t).map Ar.d) ((as.drop (t + 1)).map Ar.d) (by simp; omega)
  rw [← List.map_append] at k1 k2
  obtain ⟨j, el⟩ := l_ring_due n cs as hm hl qs t ((as.take t ++ as.drop (t + 1)).map Ar.d)
  have n1 : oNe (.sh (.lst ((prc cs.length as).map D.int))) (.ol ((prc cs.length as).map D.int)) = some (.bl false) := by
    rw [ne_ol]
    exact ne_ints (prc cs.length as)
  have rg := iRng1_ok (n := cs.length) (v := vQ (qUn oLen (qVar 2))) (s := [.ol (qs.map D.int), .sh (.int n), .sh (.lst (cs.map Cl.d)), .sh (.lst (as.map Ar.d)), .sh (.int t), .sh (.lst ((as.take t ++ as.drop (t + 1)).map Ar.d)), .ol [], .un, .un, .un, .un, .un]) (by simp) (by omega)
  have lc4 : ∀ W c6 j1 j2, cd__law_ring_holds_k30_4 [.ol (qs.map D.int), .sh (.int n), .sh (.lst (cs.map Cl.d)), .sh (.lst (as.map Ar.d)), .sh (.int t), .sh (.lst W), c6, j1, j2, .sh (.lst ((prc cs.length as).map D.int)), .un, .un] = .ok (.ol (((prc cs.length as).map fun _ => true).map D.bl)) [.ol (qs.map D.int), .sh (.int n), .sh (.lst (cs.map Cl.d)), .sh (.lst (as.map Ar.d)), .sh (.int t), .sh (.lst W), c6, j1, j2, .sh (.lst ((prc cs.length as).map D.int)), .un, .un] := by
    intro W c6 j1 j2
    refine comp_map D.int D.bl (prc cs.length as) (fun _ => true) (by simp) (by rw [prc_len]; omega) (by simp) (fun p hp => ?_)
    refine ⟨[.ol (qs.map D.int), .sh (.int n), .sh (.lst (cs.map Cl.d)), .sh (.lst (as.map Ar.d)), .sh (.int t), .sh (.lst W), c6, j1, j2, .sh (.lst ((prc cs.length as).map D.int)), .un, .sh (.int p)], [.ol (qs.map D.int), .sh (.int n), .sh (.lst (cs.map Cl.d)), .sh (.lst (as.map Ar.d)), .sh (.int t), .sh (.lst W), c6, j1, j2, .sh (.lst ((prc cs.length as).map D.int)), .un, .sh (.int p)], rfl, ?_, rfl⟩
    simp
  have al : oAll (.sh (.lst (((prc cs.length as).map fun _ => true).map D.bl))) = some (.bl true) := by
    have := o_all (fun _ : Int => true) (prc cs.length as)
    rw [List.map_map]
    rw [show (D.bl ∘ fun (_ : Int) => true) = fun _ => D.bl true from rfl, this]
    simp
  have isl : ∀ l : List D, oIsi .list (.sh (.lst l)) = some (.bl true) := fun _ => rfl
  refine ⟨qs, ?_⟩
  rw [u__law_ring_holds_k30]
  unfold d__law_ring_holds_k30
  generalize (as.drop (t + 1)).map Ar.d = A3 at *
  generalize (as.drop t).map Ar.d = A1 at *
  generalize (as.take t).map Ar.d = A2 at *
  generalize (as.take t ++ as.drop (t + 1)) = W at *
  generalize (as.drop t ++ as.take t) = V at *
  generalize hP : (prc cs.length as) = P at *
  generalize (P.map fun _ => true).map D.bl = Q at *
  simp [isl, e1, e2, e3, d1, d2, d3, k1, k2, e4, e5, e6, rg, el, e7, n1, lc4, al, e8, e9, hw]
theorem plain_not_bad (n : Nat) (cs : List Cl) (hn : 0 < n) : isBad n cs [⟨.up, 0⟩, ⟨.flat, 0⟩] = false := by
  have h1 : arOk n cs.length ⟨.up, 0⟩ = true := by unfold arOk; simp [hn]
  have h2 : arOk n cs.length ⟨.flat, 0⟩ = true := by unfold arOk; simp [hn]
  unfold isBad wayL stepW
  simp only [h1, if_true]
  unfold wayL stepW
  simp only [h2, if_true]
  simp [arL, wayL]
theorem full_unmet {n : Nat} {cs : List Cl} {ns : List Int} (h : fitAll n (cs ++ [⟨0, 1, 1, 1⟩, ⟨0, 1, 0, 0⟩]) ns) : False := by
  have z1 := (fits_iff _ _).mp (h.2.2 ⟨0, 1, 1, 1⟩ (by simp))
  have z2 := (fits_iff _ _).mp (h.2.2 ⟨0, 1, 0, 0⟩ (by simp))
  simp only at z1 z2
  omega
end VH
end
section
set_option maxHeartbeats 8000000
set_option maxRecDepth 100000
namespace VH
open PySem VL
theorem nd_empty (cs : List Cl) (h : ∀ c ∈ cs, c.ok (0 : Nat) = true) : cs = [] := by
  cases cs with
  | nil => rfl
  | cons c cs =>
    obtain ⟨h1, h2, h3, h4⟩ := okC (h c (List.mem_cons_self ..))
    simp at h3
    omega
theorem main_k30 (zs : List Int) : ∃ fin, f_law_k30 [.bl (zs.map D.int)] = .ok (.sh (.bl true)) fin := by
  obtain ⟨p0, e0⟩ := q_stream zs
  obtain ⟨v, p1, e1, v0, v1⟩ := q_draw p0 2 (by omega)
  have m9 := mul_sm 9 v (.inl (by omega))
  obtain ⟨n, ns, cs, p2, e2, h1, h2, h3, h4, h5, _, _⟩ := q_case p1 (7 + 9 * v) (by omega)
  have ef := q_law_fitting n (by omega) cs h5 (by omega)
  have eb := q_bad_ring n (.lst (cs.map Cl.d)) cs rfl h5 (by omega) (by omega)
  have er := q_raised_ring n cs h5 (by omega) (by omega)
  have no := q_law_no_arc n cs h5 (by omega)
  have nilb : f_shows_contrary [.sh (.int n), .sh (.lst (cs.map Cl.d)), .sh (.lst [])] = .ok (.sh (.bl false)) [.sh (.int n), .sh (.lst (cs.map Cl.d)), .sh (.lst [])] := q_shows_contrary n (.lst (cs.map Cl.d)) (.lst []) cs rfl h5 [] rfl
  -- prices, and what is asked behind them
  have tail : ∀ (met : Bool) (r7 : D) (c6 : D) (p3 : List Int), ((met = true → ∃ ns, fitAll n cs ns)) → ∃ (ps p4 : List Int), (cd_law_k30_1 [.bl (zs.map D.int), .ol (p3.map D.int), .sh (.int n), .sh (.lst (ns.map D.int)), .sh (.lst (cs.map Cl.d)), .sh (.bl met), .sh c6, .sh r7, .un, .un, .un, .un, .un] = .ok (.ol (ps.map D.int)) [.bl (zs.map D.int), .ol (p4.map D.int), .sh (.int n), .sh (.lst (ns.map D.int)), .sh (.lst (cs.map Cl.d)), .sh (.bl met), .sh c6, .sh r7, .un, .un, .un, .un, .un]) ∧ ps.length = cs.length ∧ sm ps := by
    intro met r7 c6 p3 _
    obtain ⟨ps, p4, e3, x1, x2⟩ := draws_sub (s := [.bl (zs.map D.int), .ol (p3.map D.int), .sh (.int n), .sh (.lst (ns.map D.int)), .sh (.lst (cs.map Cl.d)), .sh (.bl met), .sh c6, .sh r7, .un, .un, .un, .un, .un]) (i := 1) (j := 12) (it := iVal (vVar 4)) (m := 9) (k := 4) Cl.d cs (by omega) rfl rfl (by simp) (by omega)
    exact ⟨ps, p4, e3, x1, fun p hp => by have := x2 p hp; omega⟩
  have lenf : oLen (.sh (.lst ((fitP n cs).map tupI))) = some (.int ((fitP n cs).length : Int)) := by simp
  have full : (cs ++ [(⟨0, 1, 1, 1⟩ : Cl), ⟨0, 1, 0, 0⟩]).map Cl.d = cs.map Cl.d ++ [.tup [.int 0, .int 1, .int 1, .int 1], .tup [.int 0, .int 1, .int 0, .int 0]] := by simp [Cl.d]
  have kf := cat_lo (cs.map Cl.d) [.tup [.int 0, .int 1, .int 1, .int 1], .tup [.int 0, .int 1, .int 0, .int 0]] (by simp; omega)
  -- the end, the same in both cases
  have fin : n = 0 ∧ f_bad_ring [.sh (.int 0), .sh (.lst [])] = .ok (.sh .non) [.sh (.int 0), .sh (.lst [])] ∨ 0 < n ∧ f_shows_contrary [.sh (.int n), .sh (.lst (cs.map Cl.d)), .sh (.lst [.tup [.str ("up" : Str), .int 0], .tup [.str ("flat" : Str), .int 0]])] = .ok (.sh (.bl false)) [.sh (.int n), .sh (.lst (cs.map Cl.d)), .sh (.lst [.tup [.str ("up" : Str), .int 0], .tup [.str ("flat" : Str), .int 0]])] ∧
      ∃ as : List Ar, f_bad_ring [.sh (.int n), .sh (.lst (cs.map Cl.d ++ [.tup [.int 0, .int 1, .int 1, .int 1], .tup [.int 0, .int 1, .int 0, .int 0]]))] = .ok (.ol (as.map Ar.d)) [.sh (.int n), .sh (.lst (cs.map Cl.d ++ [.tup [.int 0, .int 1, .int 1, .int 1], .tup [.int 0, .int 1, .int 0, .int 0]]))] ∧
        f__law_is_bad [.sh (.int n), .sh (.lst (cs.map Cl.d ++ [.tup [.int 0, .int 1, .int 1, .int 1], .tup [.int 0, .int 1, .int 0, .int 0]])), .sh (.lst (as.map Ar.d))] = .ok (.sh (.bl true)) [.sh (.int n), .sh (.lst (cs.map Cl.d ++ [.tup [.int 0, .int 1, .int 1, .int 1], .tup [.int 0, .int 1, .int 0, .int 0]])), .sh (.lst (as.map Ar.d))] := by
    by_cases hz : n = 0
    · left
      refine ⟨hz, ?_⟩
      rcases q_bad_ring 0 (.lst []) [] rfl (by simp) (by omega) (by simp) with ⟨e, _⟩ | ⟨as, _, hb, _⟩
      · exact e
      · exact (bad_unmet hb (ns := []) ⟨rfl, rfl, by simp⟩).elim
    · right
      refine ⟨by omega, ?_, ?_⟩
      · have := q_shows_contrary n (.lst (cs.map Cl.d)) (.lst [.tup [.str ("up" : Str), .int 0], .tup [.str ("flat" : Str), .int 0]]) cs rfl h5 [⟨.up, 0⟩, ⟨.flat, 0⟩] rfl
        rw [plain_not_bad n cs (by omega)] at this
        exact this
      · have hcf : ∀ c ∈ cs ++ [(⟨0, 1, 1, 1⟩ : Cl), ⟨0, 1, 0, 0⟩], c.ok n = true := fun c hc => by
          rcases List.mem_append.mp hc with hc | hc
          · exact h5 c hc
          · have : c = ⟨0, 1, 1, 1⟩ ∨ c = ⟨0, 1, 0, 0⟩ := by simpa using hc
            rcases this with rfl | rfl <;> unfold Cl.ok <;> simp <;> omega
        have hlf : (cs ++ [(⟨0, 1, 1, 1⟩ : Cl), ⟨0, 1, 0, 0⟩]).length ≤ 100 := by simp; omega
        rcases q_bad_ring n (.lst ((cs ++ [(⟨0, 1, 1, 1⟩ : Cl), ⟨0, 1, 0, 0⟩]).map Cl.d)) _ rfl hcf (by omega) hlf with ⟨_, ns', hf⟩ | ⟨as, e, hb, _⟩
        · exact (full_unmet hf).elim
        · have e2 := q_law_is_bad n (.lst (as.map Ar.d)) _ (by omega) hlf as rfl
          rw [hb] at e2
          rw [full] at e e2
          exact ⟨as, e, e2⟩
  have isn : ∀ l : List D, oIsN (.sh (.lst l)) (.sh .non) = some (.bl false) := fun l => by simp
  have rest : ∀ (ps : List Int), ps.length = cs.length → sm ps →
      f_shows_unmet [.sh (.int n), .sh (.lst (cs.map Cl.d)), .sh (.lst (ps.map D.int))] = .ok (.sh (.bl (decide (0 < wth n (zrs n) ps cs)))) [.sh (.int n), .sh (.lst (cs.map Cl.d)), .sh (.lst (ps.map D.int))] ∧
      f__law_worth_k30 [.sh (.int n), .sh (.lst (cs.map Cl.d)), .sh (.lst (ps.map D.int))] = .ok (.sh (.int (wth n (zrs n) ps cs))) [.sh (.int n), .sh (.lst (cs.map Cl.d)), .sh (.lst (ps.map D.int))] ∧
      oCatL (.sh (.lst (ps.map D.int))) (.sh (.lst [.int 1])) = some (.ol (ps.map D.int ++ [.int 1])) ∧
      f_shows_unmet [.sh (.int n), .sh (.lst (cs.map Cl.d)), .sh (.lst (ps.map D.int ++ [.int 1]))] = .ok (.sh (.bl false)) [.sh (.int n), .sh (.lst (cs.map Cl.d)), .sh (.lst (ps.map D.int ++ [.int 1]))] := fun ps x1 hs =>
    ⟨q_shows_unmet n _ _ cs ps rfl rfl (by omega) x1 (by omega) hs h5, q_law_worth30 n cs ps (by omega) x1 hs h5, cat_ok _ _ (by simp; omega), q_shows_unmet_bad n _ _ cs _ rfl rfl (by omega) (by simp; omega) (by simp) (numOk_len (by simp; omega)) h5⟩
  rcases eb with ⟨eb, nf, hf⟩ | ⟨as, eb, hb, hbl⟩
  · -- met
    have er : f__law_raised_ring [.sh (.int n), .sh (.lst (cs.map Cl.d))] = .ok (.sh .non) [.sh (.int n), .sh (.lst (cs.map Cl.d))] := by
      rcases er with ⟨er, _⟩ | ⟨as, _, hb, _⟩
      · exact er
      · exact (bad_unmet hb hf).elim
    have pos : 0 < (fitP n cs).length := List.length_pos_of_mem ((fitP_mem n cs nf).mpr hf)
    obtain ⟨ps, p4, e3, x1, hs⟩ := tail true .non .non p2 (fun _ => ⟨nf, hf⟩)
    obtain ⟨r1, r2, r3, r4⟩ := rest ps x1 hs
    have wz := met_worth h5 hf ps
    have wz' : ¬ (0 < wth n (zrs n) ps cs) := by omega
    generalize (fitP n cs).map tupI = F at *
    generalize (fitP n cs).length = FL at *
    rw [u_law_k30]
    unfold d_law_k30
    rcases fin with ⟨hz, g1⟩ | ⟨hz, g1, as, g2, g3⟩
    · have z0 : oEq (.sh (.int n)) (.sh (.int 0)) = some (.bl true) := by simp [hz]
      simp [-o_eq, z0, e0, e1, m9, e2, ef, lenf, pos, eb, er, e3, r1, r2, r3, r4, wz', no, nilb, kf, g1]
    · have z0 : oEq (.sh (.int n)) (.sh (.int 0)) = some (.bl false) := by
        have : ¬ n = 0 := by omega
        simp [this]
      generalize as.map Ar.d = A at *
      simp [-o_eq, z0, e0, e1, m9, e2, ef, lenf, pos, eb, er, e3, r1, r2, r3, r4, wz', no, nilb, kf, g1, g2, g3]
  · -- not met
    have nof : fitP n cs = [] := by
      cases h : fitP n cs with
      | nil => rfl
      | cons r l =>
        have hm : r ∈ fitP n cs := by rw [h]; exact List.mem_cons_self ..
        exact (bad_unmet hb ((fitP_mem n cs r).mp hm)).elim
    obtain ⟨bs, er, hb2, hbl2⟩ : ∃ as, f__law_raised_ring [.sh (.int n), .sh (.lst (cs.map Cl.d))] = .ok (.sh (.lst (as.map Ar.d))) [.sh (.int n), .sh (.lst (cs.map Cl.d))] ∧ isBad n cs as = true ∧ as.length ≤ n + 1 := by
      rcases er with ⟨_, nf, hf⟩ | h
      · exact (bad_unmet hb hf).elim
      · exact h
    have eb2 := q_law_is_bad n (.lst (bs.map Ar.d)) cs (by omega) (by omega) bs rfl
    rw [hb2] at eb2
    obtain ⟨p3, rh⟩ := q_ring_holds30 p2 n cs as h5 (by omega) (by omega) hb (by omega)
    obtain ⟨ps, p4, e3, x1, hs⟩ := tail false (.lst (bs.map Ar.d)) (.lst (as.map Ar.d)) p3 (fun z => by cases z)
    obtain ⟨r1, r2, r3, r4⟩ := rest ps x1 hs
    rw [nof] at ef lenf
    generalize as.map Ar.d = A at *
    generalize bs.map Ar.d = B at *
    rw [u_law_k30]
    unfold d_law_k30
    rcases fin with ⟨hz, g1⟩ | ⟨hz, g1, as', g2, g3⟩
    · have z0 : oEq (.sh (.int n)) (.sh (.int 0)) = some (.bl true) := by simp [hz]
      simp [-o_eq, z0, e0, e1, m9, e2, ef, lenf, eb, er, eb2, rh, e3, r1, r2, r3, r4, no, nilb, kf, g1]
    · have z0 : oEq (.sh (.int n)) (.sh (.int 0)) = some (.bl false) := by
        have : ¬ n = 0 := by omega
        simp [this]
      generalize as'.map Ar.d = A' at *
      simp [-o_eq, z0, e0, e1, m9, e2, ef, lenf, eb, er, eb2, rh, e3, r1, r2, r3, r4, no, nilb, kf, g1, g2, g3]
end VH
end
section
set_option maxRecDepth 100000
set_option maxHeartbeats 8000000
namespace VH
open PySem PySem.Spec PyProof.Rows L2 VL
def top (i : Nat) : Stmt := PySem.Challenge.pw_statesmoved_k30_whole_bad_ring_exactly.main.body.getD i (.Pass ⟨0, 0, 0, 0⟩)
abbrev st__law_stream : Stmt := top 36
abbrev st__law_draw : Stmt := top 37
abbrev st__law_claim : Stmt := top 41
abbrev st__law_case : Stmt := top 42
abbrev st_is_whole : Stmt := top 9
abbrev st_check_span : Stmt := top 10
abbrev st_is_claim : Stmt := top 11
abbrev st_check_claims : Stmt := top 12
abbrev st_arcs_of : Stmt := top 15
abbrev st_arc_line : Stmt := top 17
abbrev st_arc_lines : Stmt := top 21
abbrev st_relaxed : Stmt := top 22
abbrev st_ring_through : Stmt := top 23
abbrev st_bad_ring : Stmt := top 24
abbrev st_check_met : Stmt := top 25
abbrev st_nearest : Stmt := top 26
abbrev st_reach_table : Stmt := top 27
abbrev st__law_raised_ring : Stmt := top 51
abbrev st__law_says : Stmt := top 39
abbrev st_is_arc : Stmt := top 16
abbrev st_way_line : Stmt := top 18
abbrev st_shows_contrary : Stmt := top 19
abbrev st__law_lines : Stmt := top 46
abbrev st__law_is_integer : Stmt := top 38
abbrev st__law_is_arc : Stmt := top 47
abbrev st__law_line : Stmt := top 48
abbrev st__law_is_bad : Stmt := top 49
abbrev st__law_all : Stmt := top 44
abbrev st__law_ones_fit : Stmt := top 43
abbrev st__law_fitting : Stmt := top 45
abbrev st_ring_prices : Stmt := top 34
abbrev st__law_worth : Stmt := top 50
abbrev st_check_numbers : Stmt := top 29
abbrev st_heights : Stmt := top 30
abbrev st_claim_worth : Stmt := top 31
abbrev st_worth : Stmt := top 32
abbrev st_shows_unmet : Stmt := top 33
abbrev st__law_ring_holds : Stmt := top 52
abbrev st__law_no_arc : Stmt := top 53
abbrev st_law : Stmt := top 54
def clK (K : PySem.W.Frag) : Nat → Addr := fun i => match i with
  | 0 => He.ga K ("MovedError" : PySem.Str)
  | 3 => He.ga K ("BadSpan" : PySem.Str)
  | 4 => He.ga K ("BadClaim" : PySem.Str)
  | 6 => He.ga K ("BadArc" : PySem.Str)
  | 7 => He.ga K ("BadNumbers" : PySem.Str)
  | 8 => He.ga K ("Contrary" : PySem.Str)
  | _ => He.ga K ("MovedError" : PySem.Str)
theorem bd_place : PySem.SupX.BdOk ("place" : PySem.Str) := by
  intro _ _ _ _ _ _ _ _ _ _ _ _ _
  rfl
theorem bd_ring : PySem.SupX.BdOk ("ring" : PySem.Str) := by
  intro _ _ _ _ _ _ _ _ _ _ _ _ _
  rfl
theorem bd_span : PySem.SupX.BdOk ("span" : PySem.Str) := by
  intro _ _ _ _ _ _ _ _ _ _ _ _ _
  rfl
/-! ### the facts -/
structure Tx (P : Program) (K : PySem.W.Frag) (mg : Str → Option Value) : Prop where
  file : ((P.main.file : Str) == ("/claim/cut.py" : PySem.Str)) = true
  top : (P.main.scope.names.lookup ("super" : Str)).isSome = false
  b_abs : mg ("abs" : PySem.Str) = none
  b_all : mg ("all" : PySem.Str) = none
  b_bool : mg ("bool" : PySem.Str) = none
  b_enumerate : mg ("enumerate" : PySem.Str) = none
  b_int : mg ("int" : PySem.Str) = none
  b_isinstance : mg ("isinstance" : PySem.Str) = none
  b_len : mg ("len" : PySem.Str) = none
  b_list : mg ("list" : PySem.Str) = none
  b_max : mg ("max" : PySem.Str) = none
  b_range : mg ("range" : PySem.Str) = none
  b_str : mg ("str" : PySem.Str) = none
  b_sum : mg ("sum" : PySem.Str) = none
  b_tuple : mg ("tuple" : PySem.Str) = none
  g__law_stream : mg ("_law_stream" : PySem.Str) = some (.ref (He.ga K ("_law_stream" : PySem.Str)))
  g__law_draw : mg ("_law_draw" : PySem.Str) = some (.ref (He.ga K ("_law_draw" : PySem.Str)))
  g__law_claim : mg ("_law_claim" : PySem.Str) = some (.ref (He.ga K ("_law_claim" : PySem.Str)))
  g__law_case : mg ("_law_case" : PySem.Str) = some (.ref (He.ga K ("_law_case" : PySem.Str)))
  g_is_whole : mg ("is_whole" : PySem.Str) = some (.ref (He.ga K ("is_whole" : PySem.Str)))
  g_check_span : mg ("check_span" : PySem.Str) = some (.ref (He.ga K ("check_span" : PySem.Str)))
  g_is_claim : mg ("is_claim" : PySem.Str) = some (.ref (He.ga K ("is_claim" : PySem.Str)))
  g_check_claims : mg ("check_claims" : PySem.Str) = some (.ref (He.ga K ("check_claims" : PySem.Str)))
  g_arcs_of : mg ("arcs_of" : PySem.Str) = some (.ref (He.ga K ("arcs_of" : PySem.Str)))
  g_arc_line : mg ("arc_line" : PySem.Str) = some (.ref (He.ga K ("arc_line" : PySem.Str)))
  g_arc_lines : mg ("arc_lines" : PySem.Str) = some (.ref (He.ga K ("arc_lines" : PySem.Str)))
  g_relaxed : mg ("relaxed" : PySem.Str) = some (.ref (He.ga K ("relaxed" : PySem.Str)))
  g_ring_through : mg ("ring_through" : PySem.Str) = some (.ref (He.ga K ("ring_through" : PySem.Str)))
  g_bad_ring : mg ("bad_ring" : PySem.Str) = some (.ref (He.ga K ("bad_ring" : PySem.Str)))
  g_check_met : mg ("check_met" : PySem.Str) = some (.ref (He.ga K ("check_met" : PySem.Str)))
  g_nearest : mg ("nearest" : PySem.Str) = some (.ref (He.ga K ("nearest" : PySem.Str)))
  g_reach_table : mg ("reach_table" : PySem.Str) = some (.ref (He.ga K ("reach_table" : PySem.Str)))
  g__law_raised_ring : mg ("_law_raised_ring" : PySem.Str) = some (.ref (He.ga K ("_law_raised_ring" : PySem.Str)))
  g__law_says : mg ("_law_says" : PySem.Str) = some (.ref (He.ga K ("_law_says" : PySem.Str)))
  g_is_arc : mg ("is_arc" : PySem.Str) = some (.ref (He.ga K ("is_arc" : PySem.Str)))
  g_way_line : mg ("way_line" : PySem.Str) = some (.ref (He.ga K ("way_line" : PySem.Str)))
  g_shows_contrary : mg ("shows_contrary" : PySem.Str) = some (.ref (He.ga K ("shows_contrary" : PySem.Str)))
  g__law_lines : mg ("_law_lines" : PySem.Str) = some (.ref (He.ga K ("_law_lines" : PySem.Str)))
  g__law_is_integer : mg ("_law_is_integer" : PySem.Str) = some (.ref (He.ga K ("_law_is_integer" : PySem.Str)))
  g__law_is_arc : mg ("_law_is_arc" : PySem.Str) = some (.ref (He.ga K ("_law_is_arc" : PySem.Str)))
  g__law_line : mg ("_law_line" : PySem.Str) = some (.ref (He.ga K ("_law_line" : PySem.Str)))
  g__law_is_bad : mg ("_law_is_bad" : PySem.Str) = some (.ref (He.ga K ("_law_is_bad" : PySem.Str)))
  g__law_all : mg ("_law_all" : PySem.Str) = some (.ref (He.ga K ("_law_all" : PySem.Str)))
  g__law_ones_fit : mg ("_law_ones_fit" : PySem.Str) = some (.ref (He.ga K ("_law_ones_fit" : PySem.Str)))
  g__law_fitting : mg ("_law_fitting" : PySem.Str) = some (.ref (He.ga K ("_law_fitting" : PySem.Str)))
  g_ring_prices : mg ("ring_prices" : PySem.Str) = some (.ref (He.ga K ("ring_prices" : PySem.Str)))
  g__law_worth : mg ("_law_worth" : PySem.Str) = some (.ref (He.ga K ("_law_worth" : PySem.Str)))
  g_check_numbers : mg ("check_numbers" : PySem.Str) = some (.ref (He.ga K ("check_numbers" : PySem.Str)))
  g_heights : mg ("heights" : PySem.Str) = some (.ref (He.ga K ("heights" : PySem.Str)))
  g_claim_worth : mg ("claim_worth" : PySem.Str) = some (.ref (He.ga K ("claim_worth" : PySem.Str)))
  g_worth : mg ("worth" : PySem.Str) = some (.ref (He.ga K ("worth" : PySem.Str)))
  g_shows_unmet : mg ("shows_unmet" : PySem.Str) = some (.ref (He.ga K ("shows_unmet" : PySem.Str)))
  g__law_ring_holds : mg ("_law_ring_holds" : PySem.Str) = some (.ref (He.ga K ("_law_ring_holds" : PySem.Str)))
  g__law_no_arc : mg ("_law_no_arc" : PySem.Str) = some (.ref (He.ga K ("_law_no_arc" : PySem.Str)))
  g_law : mg ("law" : PySem.Str) = some (.ref (He.ga K ("law" : PySem.Str)))
  g_BadArc : mg ("BadArc" : PySem.Str) = some (.ref (He.ga K ("BadArc" : PySem.Str)))
  g_BadClaim : mg ("BadClaim" : PySem.Str) = some (.ref (He.ga K ("BadClaim" : PySem.Str)))
  g_BadNumbers : mg ("BadNumbers" : PySem.Str) = some (.ref (He.ga K ("BadNumbers" : PySem.Str)))
  g_BadSpan : mg ("BadSpan" : PySem.Str) = some (.ref (He.ga K ("BadSpan" : PySem.Str)))
  g_Contrary : mg ("Contrary" : PySem.Str) = some (.ref (He.ga K ("Contrary" : PySem.Str)))
  s_BadArc : PySem.SupX.SupTxt K (He.ga K ("BadArc" : PySem.Str)) (He.ma K (He.ga K ("BadArc" : PySem.Str)) "__init__") ("place" : PySem.Str) ("/claim/cut.py" : PySem.Str)
  s_BadClaim : PySem.SupX.SupTxt K (He.ga K ("BadClaim" : PySem.Str)) (He.ma K (He.ga K ("BadClaim" : PySem.Str)) "__init__") ("place" : PySem.Str) ("/claim/cut.py" : PySem.Str)
  x_BadNumbers : PySem.W.excIn K (He.ga K ("BadNumbers" : PySem.Str)) He.veBase "ValueError.__new__" = true ∧ PySem.W.keepIn K (.ref (He.ga K ("BadNumbers" : PySem.Str))) = true ∧ PySem.W.subIn K (.ref (He.ga K ("BadNumbers" : PySem.Str))) (.type "BaseException") = some true ∧ PySem.W.typeIn K (.ref (He.ga K ("BadNumbers" : PySem.Str))) = some (.type "type")
  s_BadSpan : PySem.SupX.SupTxt K (He.ga K ("BadSpan" : PySem.Str)) (He.ma K (He.ga K ("BadSpan" : PySem.Str)) "__init__") ("span" : PySem.Str) ("/claim/cut.py" : PySem.Str)
  s_Contrary : PySem.SupX.SupTxt K (He.ga K ("Contrary" : PySem.Str)) (He.ma K (He.ga K ("Contrary" : PySem.Str)) "__init__") ("ring" : PySem.Str) ("/claim/cut.py" : PySem.Str)
  t_BadArc : ∀ j b, ct_BadArc j = some b → PySem.W.exmOne K (.ref (clK K j)) (.ref (He.ga K ("BadArc" : PySem.Str))) = some b
  t_BadNumbers : ∀ j b, ct_BadNumbers j = some b → PySem.W.exmOne K (.ref (clK K j)) (.ref (He.ga K ("BadNumbers" : PySem.Str))) = some b
  t_Contrary : ∀ j b, ct_Contrary j = some b → PySem.W.exmOne K (.ref (clK K j)) (.ref (He.ga K ("Contrary" : PySem.Str))) = some b
  c_ARC_WORDS : mg ("ARC_WORDS" : PySem.Str) = some (.ref (He.ga K ("ARC_WORDS" : PySem.Str)))
  d_ARC_WORDS : ∀ (k : Kc) (G : Hp), Rp K k G (.tup [.str ("up" : PySem.Str), .str ("flat" : PySem.Str), .str ("most" : PySem.Str), .str ("least" : PySem.Str)]) (.ref (He.ga K ("ARC_WORDS" : PySem.Str)))
  F__law_stream : ∃ fd, FunD K ("_law_stream" : PySem.Str) ("_law_stream" : PySem.Str) (defArgs st__law_stream) (defBody st__law_stream) (defScope st__law_stream) [] [] (He.ga K ("_law_stream" : PySem.Str)) fd
  F__law_draw : ∃ fd, FunD K ("_law_draw" : PySem.Str) ("_law_draw" : PySem.Str) (defArgs st__law_draw) (defBody st__law_draw) (defScope st__law_draw) [] [] (He.ga K ("_law_draw" : PySem.Str)) fd
  F__law_claim : ∃ fd, FunD K ("_law_claim" : PySem.Str) ("_law_claim" : PySem.Str) (defArgs st__law_claim) (defBody st__law_claim) (defScope st__law_claim) [] [] (He.ga K ("_law_claim" : PySem.Str)) fd
  F__law_case : ∃ fd, FunD K ("_law_case" : PySem.Str) ("_law_case" : PySem.Str) (defArgs st__law_case) (defBody st__law_case) (defScope st__law_case) [] [] (He.ga K ("_law_case" : PySem.Str)) fd
  F_is_whole : ∃ fd, FunD K ("is_whole" : PySem.Str) ("is_whole" : PySem.Str) (defArgs st_is_whole) (defBody st_is_whole) (defScope st_is_whole) [] [] (He.ga K ("is_whole" : PySem.Str)) fd
  F_check_span : ∃ fd, FunD K ("check_span" : PySem.Str) ("check_span" : PySem.Str) (defArgs st_check_span) (defBody st_check_span) (defScope st_check_span) [] [] (He.ga K ("check_span" : PySem.Str)) fd
  F_is_claim : ∃ fd, FunD K ("is_claim" : PySem.Str) ("is_claim" : PySem.Str) (defArgs st_is_claim) (defBody st_is_claim) (defScope st_is_claim) [] [] (He.ga K ("is_claim" : PySem.Str)) fd
  F_check_claims : ∃ fd, FunD K ("check_claims" : PySem.Str) ("check_claims" : PySem.Str) (defArgs st_check_claims) (defBody st_check_claims) (defScope st_check_claims) [] [] (He.ga K ("check_claims" : PySem.Str)) fd
  F_arcs_of : ∃ fd, FunD K ("arcs_of" : PySem.Str) ("arcs_of" : PySem.Str) (defArgs st_arcs_of) (defBody st_arcs_of) (defScope st_arcs_of) [] [] (He.ga K ("arcs_of" : PySem.Str)) fd
  F_arc_line : ∃ fd, FunD K ("arc_line" : PySem.Str) ("arc_line" : PySem.Str) (defArgs st_arc_line) (defBody st_arc_line) (defScope st_arc_line) [] [] (He.ga K ("arc_line" : PySem.Str)) fd
  F_arc_lines : ∃ fd, FunD K ("arc_lines" : PySem.Str) ("arc_lines" : PySem.Str) (defArgs st_arc_lines) (defBody st_arc_lines) (defScope st_arc_lines) [] [] (He.ga K ("arc_lines" : PySem.Str)) fd
  F_relaxed : ∃ fd, FunD K ("relaxed" : PySem.Str) ("relaxed" : PySem.Str) (defArgs st_relaxed) (defBody st_relaxed) (defScope st_relaxed) [] [] (He.ga K ("relaxed" : PySem.Str)) fd
  F_ring_through : ∃ fd, FunD K ("ring_through" : PySem.Str) ("ring_through" : PySem.Str) (defArgs st_ring_through) (defBody st_ring_through) (defScope st_ring_through) [] [] (He.ga K ("ring_through" : PySem.Str)) fd
  F_bad_ring : ∃ fd, FunD K ("bad_ring" : PySem.Str) ("bad_ring" : PySem.Str) (defArgs st_bad_ring) (defBody st_bad_ring) (defScope st_bad_ring) [] [] (He.ga K ("bad_ring" : PySem.Str)) fd
  F_check_met : ∃ fd, FunD K ("check_met" : PySem.Str) ("check_met" : PySem.Str) (defArgs st_check_met) (defBody st_check_met) (defScope st_check_met) [] [] (He.ga K ("check_met" : PySem.Str)) fd
  F_nearest : ∃ fd, FunD K ("nearest" : PySem.Str) ("nearest" : PySem.Str) (defArgs st_nearest) (defBody st_nearest) (defScope st_nearest) [] [] (He.ga K ("nearest" : PySem.Str)) fd
  F_reach_table : ∃ fd, FunD K ("reach_table" : PySem.Str) ("reach_table" : PySem.Str) (defArgs st_reach_table) (defBody st_reach_table) (defScope st_reach_table) [] [] (He.ga K ("reach_table" : PySem.Str)) fd
  F__law_raised_ring : ∃ fd, FunD K ("_law_raised_ring" : PySem.Str) ("_law_raised_ring" : PySem.Str) (defArgs st__law_raised_ring) (defBody st__law_raised_ring) (defScope st__law_raised_ring) [] [] (He.ga K ("_law_raised_ring" : PySem.Str)) fd
  F__law_says : ∃ fd, FunD K ("_law_says" : PySem.Str) ("_law_says" : PySem.Str) (defArgs st__law_says) (defBody st__law_says) (defScope st__law_says) [] [] (He.ga K ("_law_says" : PySem.Str)) fd
  F_is_arc : ∃ fd, FunD K ("is_arc" : PySem.Str) ("is_arc" : PySem.Str) (defArgs st_is_arc) (defBody st_is_arc) (defScope st_is_arc) [] [] (He.ga K ("is_arc" : PySem.Str)) fd
  F_way_line : ∃ fd, FunD K ("way_line" : PySem.Str) ("way_line" : PySem.Str) (defArgs st_way_line) (defBody st_way_line) (defScope st_way_line) [] [] (He.ga K ("way_line" : PySem.Str)) fd
  F_shows_contrary : ∃ fd, FunD K ("shows_contrary" : PySem.Str) ("shows_contrary" : PySem.Str) (defArgs st_shows_contrary) (defBody st_shows_contrary) (defScope st_shows_contrary) [] [] (He.ga K ("shows_contrary" : PySem.Str)) fd
  F__law_lines : ∃ fd, FunD K ("_law_lines" : PySem.Str) ("_law_lines" : PySem.Str) (defArgs st__law_lines) (defBody st__law_lines) (defScope st__law_lines) [] [] (He.ga K ("_law_lines" : PySem.Str)) fd
  F__law_is_integer : ∃ fd, FunD K ("_law_is_integer" : PySem.Str) ("_law_is_integer" : PySem.Str) (defArgs st__law_is_integer) (defBody st__law_is_integer) (defScope st__law_is_integer) [] [] (He.ga K ("_law_is_integer" : PySem.Str)) fd
  F__law_is_arc : ∃ fd, FunD K ("_law_is_arc" : PySem.Str) ("_law_is_arc" : PySem.Str) (defArgs st__law_is_arc) (defBody st__law_is_arc) (defScope st__law_is_arc) [] [] (He.ga K ("_law_is_arc" : PySem.Str)) fd
  F__law_line : ∃ fd, FunD K ("_law_line" : PySem.Str) ("_law_line" : PySem.Str) (defArgs st__law_line) (defBody st__law_line) (defScope st__law_line) [] [] (He.ga K ("_law_line" : PySem.Str)) fd
  F__law_is_bad : ∃ fd, FunD K ("_law_is_bad" : PySem.Str) ("_law_is_bad" : PySem.Str) (defArgs st__law_is_bad) (defBody st__law_is_bad) (defScope st__law_is_bad) [] [] (He.ga K ("_law_is_bad" : PySem.Str)) fd
  F__law_all : ∃ fd, FunD K ("_law_all" : PySem.Str) ("_law_all" : PySem.Str) (defArgs st__law_all) (defBody st__law_all) (defScope st__law_all) [] [] (He.ga K ("_law_all" : PySem.Str)) fd
  F__law_ones_fit : ∃ fd, FunD K ("_law_ones_fit" : PySem.Str) ("_law_ones_fit" : PySem.Str) (defArgs st__law_ones_fit) (defBody st__law_ones_fit) (defScope st__law_ones_fit) [] [] (He.ga K ("_law_ones_fit" : PySem.Str)) fd
  F__law_fitting : ∃ fd, FunD K ("_law_fitting" : PySem.Str) ("_law_fitting" : PySem.Str) (defArgs st__law_fitting) (defBody st__law_fitting) (defScope st__law_fitting) [] [] (He.ga K ("_law_fitting" : PySem.Str)) fd
  F_ring_prices : ∃ fd, FunD K ("ring_prices" : PySem.Str) ("ring_prices" : PySem.Str) (defArgs st_ring_prices) (defBody st_ring_prices) (defScope st_ring_prices) [] [] (He.ga K ("ring_prices" : PySem.Str)) fd
  F__law_worth : ∃ fd, FunD K ("_law_worth" : PySem.Str) ("_law_worth" : PySem.Str) (defArgs st__law_worth) (defBody st__law_worth) (defScope st__law_worth) [] [] (He.ga K ("_law_worth" : PySem.Str)) fd
  F_check_numbers : ∃ fd, FunD K ("check_numbers" : PySem.Str) ("check_numbers" : PySem.Str) (defArgs st_check_numbers) (defBody st_check_numbers) (defScope st_check_numbers) [] [] (He.ga K ("check_numbers" : PySem.Str)) fd
  F_heights : ∃ fd, FunD K ("heights" : PySem.Str) ("heights" : PySem.Str) (defArgs st_heights) (defBody st_heights) (defScope st_heights) [] [] (He.ga K ("heights" : PySem.Str)) fd
  F_claim_worth : ∃ fd, FunD K ("claim_worth" : PySem.Str) ("claim_worth" : PySem.Str) (defArgs st_claim_worth) (defBody st_claim_worth) (defScope st_claim_worth) [] [] (He.ga K ("claim_worth" : PySem.Str)) fd
  F_worth : ∃ fd, FunD K ("worth" : PySem.Str) ("worth" : PySem.Str) (defArgs st_worth) (defBody st_worth) (defScope st_worth) [] [] (He.ga K ("worth" : PySem.Str)) fd
  F_shows_unmet : ∃ fd, FunD K ("shows_unmet" : PySem.Str) ("shows_unmet" : PySem.Str) (defArgs st_shows_unmet) (defBody st_shows_unmet) (defScope st_shows_unmet) [] [] (He.ga K ("shows_unmet" : PySem.Str)) fd
  F__law_ring_holds : ∃ fd, FunD K ("_law_ring_holds" : PySem.Str) ("_law_ring_holds" : PySem.Str) (defArgs st__law_ring_holds) (defBody st__law_ring_holds) (defScope st__law_ring_holds) [] [] (He.ga K ("_law_ring_holds" : PySem.Str)) fd
  F__law_no_arc : ∃ fd, FunD K ("_law_no_arc" : PySem.Str) ("_law_no_arc" : PySem.Str) (defArgs st__law_no_arc) (defBody st__law_no_arc) (defScope st__law_no_arc) [] [] (He.ga K ("_law_no_arc" : PySem.Str)) fd
  F_law : ∃ fd, FunD K ("law" : PySem.Str) ("law" : PySem.Str) (defArgs st_law) (defBody st_law) (defScope st_law) [] [] (He.ga K ("law" : PySem.Str)) fd
section
variable {P : Program} {w : World} {K : PySem.W.Frag} {mg : Str → Option Value} {base : Heap}
abbrev FO__law_stream (P : Program) (w : World) (K : PySem.W.Frag) (mg : Str → Option Value) (base : Heap) : Prop := ∀ fd, FunD K ("_law_stream" : PySem.Str) ("_law_stream" : PySem.Str) (defArgs st__law_stream) (defBody st__law_stream) (defScope st__law_stream) [] [] (He.ga K ("_law_stream" : PySem.Str)) fd → FnOk P w K mg base (L2.CX P w) 3 (He.ga K ("_law_stream" : PySem.Str)) fd [("script" : PySem.Str)] (spD K ⟨clK K, none, [0]⟩ 1 f__law_stream) ∧ Binds K fd [("script" : PySem.Str)] [] ∧ PySem.W.keepIn K (.ref (He.ga K ("_law_stream" : PySem.Str))) = true
abbrev FO__law_draw (P : Program) (w : World) (K : PySem.W.Frag) (mg : Str → Option Value) (base : Heap) : Prop := ∀ fd, FunD K ("_law_draw" : PySem.Str) ("_law_draw" : PySem.Str) (defArgs st__law_draw) (defBody st__law_draw) (defScope st__law_draw) [] [] (He.ga K ("_law_draw" : PySem.Str)) fd → FnOk P w K mg base (L2.CX P w) 3 (He.ga K ("_law_draw" : PySem.Str)) fd [("stream" : PySem.Str), ("many" : PySem.Str)] (spD K ⟨clK K, none, [0]⟩ 2 f__law_draw) ∧ Binds K fd [("stream" : PySem.Str), ("many" : PySem.Str)] [] ∧ PySem.W.keepIn K (.ref (He.ga K ("_law_draw" : PySem.Str))) = true
abbrev FO__law_claim (P : Program) (w : World) (K : PySem.W.Frag) (mg : Str → Option Value) (base : Heap) : Prop := ∀ fd, FunD K ("_law_claim" : PySem.Str) ("_law_claim" : PySem.Str) (defArgs st__law_claim) (defBody st__law_claim) (defScope st__law_claim) [] [] (He.ga K ("_law_claim" : PySem.Str)) fd → FnOk P w K mg base (L2.CX P w) 4 (He.ga K ("_law_claim" : PySem.Str)) fd [("stream" : PySem.Str), ("span" : PySem.Str), ("hidden" : PySem.Str), ("styles" : PySem.Str)] (spD K ⟨clK K, none, [0]⟩ 4 f__law_claim) ∧ Binds K fd [("stream" : PySem.Str), ("span" : PySem.Str), ("hidden" : PySem.Str), ("styles" : PySem.Str)] [] ∧ PySem.W.keepIn K (.ref (He.ga K ("_law_claim" : PySem.Str))) = true
abbrev FO__law_case (P : Program) (w : World) (K : PySem.W.Frag) (mg : Str → Option Value) (base : Heap) : Prop := ∀ fd, FunD K ("_law_case" : PySem.Str) ("_law_case" : PySem.Str) (defArgs st__law_case) (defBody st__law_case) (defScope st__law_case) [] [] (He.ga K ("_law_case" : PySem.Str)) fd → FnOk P w K mg base (L2.CX P w) 5 (He.ga K ("_law_case" : PySem.Str)) fd [("stream" : PySem.Str), ("styles" : PySem.Str)] (spD K ⟨clK K, none, [0]⟩ 2 f__law_case) ∧ Binds K fd [("stream" : PySem.Str), ("styles" : PySem.Str)] [] ∧ PySem.W.keepIn K (.ref (He.ga K ("_law_case" : PySem.Str))) = true
abbrev FO_is_whole (P : Program) (w : World) (K : PySem.W.Frag) (mg : Str → Option Value) (base : Heap) : Prop := ∀ fd, FunD K ("is_whole" : PySem.Str) ("is_whole" : PySem.Str) (defArgs st_is_whole) (defBody st_is_whole) (defScope st_is_whole) [] [] (He.ga K ("is_whole" : PySem.Str)) fd → FnOk P w K mg base (L2.CX P w) 3 (He.ga K ("is_whole" : PySem.Str)) fd [("thing" : PySem.Str)] (spD K ⟨clK K, none, []⟩ 1 f_is_whole) ∧ Binds K fd [("thing" : PySem.Str)] [] ∧ PySem.W.keepIn K (.ref (He.ga K ("is_whole" : PySem.Str))) = true
abbrev FO_check_span (P : Program) (w : World) (K : PySem.W.Frag) (mg : Str → Option Value) (base : Heap) : Prop := ∀ fd, FunD K ("check_span" : PySem.Str) ("check_span" : PySem.Str) (defArgs st_check_span) (defBody st_check_span) (defScope st_check_span) [] [] (He.ga K ("check_span" : PySem.Str)) fd → FnOk P w K mg base (L2.CX P w) 4 (He.ga K ("check_span" : PySem.Str)) fd [("span" : PySem.Str)] (spD K ⟨clK K, none, []⟩ 1 f_check_span) ∧ Binds K fd [("span" : PySem.Str)] [] ∧ PySem.W.keepIn K (.ref (He.ga K ("check_span" : PySem.Str))) = true
abbrev FO_is_claim (P : Program) (w : World) (K : PySem.W.Frag) (mg : Str → Option Value) (base : Heap) : Prop := ∀ fd, FunD K ("is_claim" : PySem.Str) ("is_claim" : PySem.Str) (defArgs st_is_claim) (defBody st_is_claim) (defScope st_is_claim) [] [] (He.ga K ("is_claim" : PySem.Str)) fd → FnOk P w K mg base (L2.CX P w) 4 (He.ga K ("is_claim" : PySem.Str)) fd [("span" : PySem.Str), ("claim" : PySem.Str)] (spD K ⟨clK K, none, []⟩ 2 f_is_claim) ∧ Binds K fd [("span" : PySem.Str), ("claim" : PySem.Str)] [] ∧ PySem.W.keepIn K (.ref (He.ga K ("is_claim" : PySem.Str))) = true
abbrev FO_check_claims (P : Program) (w : World) (K : PySem.W.Frag) (mg : Str → Option Value) (base : Heap) : Prop := ∀ fd, FunD K ("check_claims" : PySem.Str) ("check_claims" : PySem.Str) (defArgs st_check_claims) (defBody st_check_claims) (defScope st_check_claims) [] [] (He.ga K ("check_claims" : PySem.Str)) fd → FnOk P w K mg base (L2.CX P w) 5 (He.ga K ("check_claims" : PySem.Str)) fd [("span" : PySem.Str), ("claims" : PySem.Str)] (spD K ⟨clK K, none, []⟩ 2 f_check_claims) ∧ Binds K fd [("span" : PySem.Str), ("claims" : PySem.Str)] [] ∧ PySem.W.keepIn K (.ref (He.ga K ("check_claims" : PySem.Str))) = true
abbrev FO_arcs_of (P : Program) (w : World) (K : PySem.W.Frag) (mg : Str → Option Value) (base : Heap) : Prop := ∀ fd, FunD K ("arcs_of" : PySem.Str) ("arcs_of" : PySem.Str) (defArgs st_arcs_of) (defBody st_arcs_of) (defScope st_arcs_of) [] [] (He.ga K ("arcs_of" : PySem.Str)) fd → FnOk P w K mg base (L2.CX P w) 6 (He.ga K ("arcs_of" : PySem.Str)) fd [("span" : PySem.Str), ("claims" : PySem.Str)] (spD K ⟨clK K, none, []⟩ 2 f_arcs_of) ∧ Binds K fd [("span" : PySem.Str), ("claims" : PySem.Str)] [] ∧ PySem.W.keepIn K (.ref (He.ga K ("arcs_of" : PySem.Str))) = true
abbrev FO_arc_line (P : Program) (w : World) (K : PySem.W.Frag) (mg : Str → Option Value) (base : Heap) : Prop := ∀ fd, FunD K ("arc_line" : PySem.Str) ("arc_line" : PySem.Str) (defArgs st_arc_line) (defBody st_arc_line) (defScope st_arc_line) [] [] (He.ga K ("arc_line" : PySem.Str)) fd → FnOk P w K mg base (L2.CX P w) 3 (He.ga K ("arc_line" : PySem.Str)) fd [("claims" : PySem.Str), ("arc" : PySem.Str)] (spD K ⟨clK K, none, []⟩ 2 f_arc_line) ∧ Binds K fd [("claims" : PySem.Str), ("arc" : PySem.Str)] [] ∧ PySem.W.keepIn K (.ref (He.ga K ("arc_line" : PySem.Str))) = true
abbrev FO_arc_lines (P : Program) (w : World) (K : PySem.W.Frag) (mg : Str → Option Value) (base : Heap) : Prop := ∀ fd, FunD K ("arc_lines" : PySem.Str) ("arc_lines" : PySem.Str) (defArgs st_arc_lines) (defBody st_arc_lines) (defScope st_arc_lines) [] [] (He.ga K ("arc_lines" : PySem.Str)) fd → FnOk P w K mg base (L2.CX P w) 7 (He.ga K ("arc_lines" : PySem.Str)) fd [("span" : PySem.Str), ("claims" : PySem.Str)] (spD K ⟨clK K, none, []⟩ 2 f_arc_lines) ∧ Binds K fd [("span" : PySem.Str), ("claims" : PySem.Str)] [] ∧ PySem.W.keepIn K (.ref (He.ga K ("arc_lines" : PySem.Str))) = true
abbrev FO_relaxed (P : Program) (w : World) (K : PySem.W.Frag) (mg : Str → Option Value) (base : Heap) : Prop := ∀ fd, FunD K ("relaxed" : PySem.Str) ("relaxed" : PySem.Str) (defArgs st_relaxed) (defBody st_relaxed) (defScope st_relaxed) [] [] (He.ga K ("relaxed" : PySem.Str)) fd → FnOk P w K mg base (L2.CX P w) 3 (He.ga K ("relaxed" : PySem.Str)) fd [("lines" : PySem.Str), ("sums" : PySem.Str), ("lasts" : PySem.Str)] (spD K ⟨clK K, none, [1, 2]⟩ 3 f_relaxed) ∧ Binds K fd [("lines" : PySem.Str), ("sums" : PySem.Str), ("lasts" : PySem.Str)] [] ∧ PySem.W.keepIn K (.ref (He.ga K ("relaxed" : PySem.Str))) = true
abbrev FO_ring_through (P : Program) (w : World) (K : PySem.W.Frag) (mg : Str → Option Value) (base : Heap) : Prop := ∀ fd, FunD K ("ring_through" : PySem.Str) ("ring_through" : PySem.Str) (defArgs st_ring_through) (defBody st_ring_through) (defScope st_ring_through) [] [] (He.ga K ("ring_through" : PySem.Str)) fd → FnOk P w K mg base (L2.CX P w) 3 (He.ga K ("ring_through" : PySem.Str)) fd [("lasts" : PySem.Str), ("place" : PySem.Str)] (spD K ⟨clK K, none, []⟩ 2 f_ring_through) ∧ Binds K fd [("lasts" : PySem.Str), ("place" : PySem.Str)] [] ∧ PySem.W.keepIn K (.ref (He.ga K ("ring_through" : PySem.Str))) = true
abbrev FO_bad_ring (P : Program) (w : World) (K : PySem.W.Frag) (mg : Str → Option Value) (base : Heap) : Prop := ∀ fd, FunD K ("bad_ring" : PySem.Str) ("bad_ring" : PySem.Str) (defArgs st_bad_ring) (defBody st_bad_ring) (defScope st_bad_ring) [] [] (He.ga K ("bad_ring" : PySem.Str)) fd → FnOk P w K mg base (L2.CX P w) 8 (He.ga K ("bad_ring" : PySem.Str)) fd [("span" : PySem.Str), ("claims" : PySem.Str)] (spD K ⟨clK K, none, []⟩ 2 f_bad_ring) ∧ Binds K fd [("span" : PySem.Str), ("claims" : PySem.Str)] [] ∧ PySem.W.keepIn K (.ref (He.ga K ("bad_ring" : PySem.Str))) = true
abbrev FO_check_met (P : Program) (w : World) (K : PySem.W.Frag) (mg : Str → Option Value) (base : Heap) : Prop := ∀ fd, FunD K ("check_met" : PySem.Str) ("check_met" : PySem.Str) (defArgs st_check_met) (defBody st_check_met) (defScope st_check_met) [] [] (He.ga K ("check_met" : PySem.Str)) fd → FnOk P w K mg base (L2.CX P w) 9 (He.ga K ("check_met" : PySem.Str)) fd [("span" : PySem.Str), ("claims" : PySem.Str)] (spD K ⟨clK K, none, []⟩ 2 f_check_met) ∧ Binds K fd [("span" : PySem.Str), ("claims" : PySem.Str)] [] ∧ PySem.W.keepIn K (.ref (He.ga K ("check_met" : PySem.Str))) = true
abbrev FO_nearest (P : Program) (w : World) (K : PySem.W.Frag) (mg : Str → Option Value) (base : Heap) : Prop := ∀ fd, FunD K ("nearest" : PySem.Str) ("nearest" : PySem.Str) (defArgs st_nearest) (defBody st_nearest) (defScope st_nearest) [] [] (He.ga K ("nearest" : PySem.Str)) fd → FnOk P w K mg base (L2.CX P w) 8 (He.ga K ("nearest" : PySem.Str)) fd [("span" : PySem.Str), ("claims" : PySem.Str), ("place" : PySem.Str)] (spD K ⟨clK K, none, []⟩ 3 f_nearest) ∧ Binds K fd [("span" : PySem.Str), ("claims" : PySem.Str), ("place" : PySem.Str)] [] ∧ PySem.W.keepIn K (.ref (He.ga K ("nearest" : PySem.Str))) = true
abbrev FO_reach_table (P : Program) (w : World) (K : PySem.W.Frag) (mg : Str → Option Value) (base : Heap) : Prop := ∀ fd, FunD K ("reach_table" : PySem.Str) ("reach_table" : PySem.Str) (defArgs st_reach_table) (defBody st_reach_table) (defScope st_reach_table) [] [] (He.ga K ("reach_table" : PySem.Str)) fd → FnOk P w K mg base (L2.CX P w) 10 (He.ga K ("reach_table" : PySem.Str)) fd [("span" : PySem.Str), ("claims" : PySem.Str)] (spD K ⟨clK K, none, []⟩ 2 f_reach_table) ∧ Binds K fd [("span" : PySem.Str), ("claims" : PySem.Str)] [] ∧ PySem.W.keepIn K (.ref (He.ga K ("reach_table" : PySem.Str))) = true
abbrev FO__law_raised_ring (P : Program) (w : World) (K : PySem.W.Frag) (mg : Str → Option Value) (base : Heap) : Prop := ∀ fd, FunD K ("_law_raised_ring" : PySem.Str) ("_law_raised_ring" : PySem.Str) (defArgs st__law_raised_ring) (defBody st__law_raised_ring) (defScope st__law_raised_ring) [] [] (He.ga K ("_law_raised_ring" : PySem.Str)) fd → FnOk P w K mg base (L2.CX P w) 11 (He.ga K ("_law_raised_ring" : PySem.Str)) fd [("span" : PySem.Str), ("claims" : PySem.Str)] (spD K ⟨clK K, none, []⟩ 2 f__law_raised_ring) ∧ Binds K fd [("span" : PySem.Str), ("claims" : PySem.Str)] [] ∧ PySem.W.keepIn K (.ref (He.ga K ("_law_raised_ring" : PySem.Str))) = true
abbrev FO__law_says (P : Program) (w : World) (K : PySem.W.Frag) (mg : Str → Option Value) (base : Heap) : Prop := ∀ fd, FunD K ("_law_says" : PySem.Str) ("_law_says" : PySem.Str) (defArgs st__law_says) (defBody st__law_says) (defScope st__law_says) [] [] (He.ga K ("_law_says" : PySem.Str)) fd → FnOk P w K mg base (L2.CX P w) 3 (He.ga K ("_law_says" : PySem.Str)) fd [("actual" : PySem.Str), ("due" : PySem.Str)] (spD K ⟨clK K, none, []⟩ 2 f__law_says) ∧ Binds K fd [("actual" : PySem.Str), ("due" : PySem.Str)] [] ∧ PySem.W.keepIn K (.ref (He.ga K ("_law_says" : PySem.Str))) = true
abbrev FO_is_arc (P : Program) (w : World) (K : PySem.W.Frag) (mg : Str → Option Value) (base : Heap) : Prop := ∀ fd, FunD K ("is_arc" : PySem.Str) ("is_arc" : PySem.Str) (defArgs st_is_arc) (defBody st_is_arc) (defScope st_is_arc) [] [] (He.ga K ("is_arc" : PySem.Str)) fd → FnOk P w K mg base (L2.CX P w) 4 (He.ga K ("is_arc" : PySem.Str)) fd [("span" : PySem.Str), ("claims" : PySem.Str), ("arc" : PySem.Str)] (spD K ⟨clK K, none, []⟩ 3 f_is_arc) ∧ Binds K fd [("span" : PySem.Str), ("claims" : PySem.Str), ("arc" : PySem.Str)] [] ∧ PySem.W.keepIn K (.ref (He.ga K ("is_arc" : PySem.Str))) = true
abbrev FO_way_line (P : Program) (w : World) (K : PySem.W.Frag) (mg : Str → Option Value) (base : Heap) : Prop := ∀ fd, FunD K ("way_line" : PySem.Str) ("way_line" : PySem.Str) (defArgs st_way_line) (defBody st_way_line) (defScope st_way_line) [] [] (He.ga K ("way_line" : PySem.Str)) fd → FnOk P w K mg base (L2.CX P w) 6 (He.ga K ("way_line" : PySem.Str)) fd [("span" : PySem.Str), ("claims" : PySem.Str), ("way" : PySem.Str)] (spD K ⟨clK K, none, []⟩ 3 f_way_line) ∧ Binds K fd [("span" : PySem.Str), ("claims" : PySem.Str), ("way" : PySem.Str)] [] ∧ PySem.W.keepIn K (.ref (He.ga K ("way_line" : PySem.Str))) = true
abbrev FO_shows_contrary (P : Program) (w : World) (K : PySem.W.Frag) (mg : Str → Option Value) (base : Heap) : Prop := ∀ fd, FunD K ("shows_contrary" : PySem.Str) ("shows_contrary" : PySem.Str) (defArgs st_shows_contrary) (defBody st_shows_contrary) (defScope st_shows_contrary) [] [] (He.ga K ("shows_contrary" : PySem.Str)) fd → FnOk P w K mg base (L2.CX P w) 7 (He.ga K ("shows_contrary" : PySem.Str)) fd [("span" : PySem.Str), ("claims" : PySem.Str), ("ring" : PySem.Str)] (spD K ⟨clK K, none, []⟩ 3 f_shows_contrary) ∧ Binds K fd [("span" : PySem.Str), ("claims" : PySem.Str), ("ring" : PySem.Str)] [] ∧ PySem.W.keepIn K (.ref (He.ga K ("shows_contrary" : PySem.Str))) = true
abbrev FO__law_lines (P : Program) (w : World) (K : PySem.W.Frag) (mg : Str → Option Value) (base : Heap) : Prop := ∀ fd, FunD K ("_law_lines" : PySem.Str) ("_law_lines" : PySem.Str) (defArgs st__law_lines) (defBody st__law_lines) (defScope st__law_lines) [] [] (He.ga K ("_law_lines" : PySem.Str)) fd → FnOk P w K mg base (L2.CX P w) 3 (He.ga K ("_law_lines" : PySem.Str)) fd [("span" : PySem.Str), ("claims" : PySem.Str)] (spD K ⟨clK K, none, []⟩ 2 f__law_lines) ∧ Binds K fd [("span" : PySem.Str), ("claims" : PySem.Str)] [] ∧ PySem.W.keepIn K (.ref (He.ga K ("_law_lines" : PySem.Str))) = true
abbrev FO__law_is_integer (P : Program) (w : World) (K : PySem.W.Frag) (mg : Str → Option Value) (base : Heap) : Prop := ∀ fd, FunD K ("_law_is_integer" : PySem.Str) ("_law_is_integer" : PySem.Str) (defArgs st__law_is_integer) (defBody st__law_is_integer) (defScope st__law_is_integer) [] [] (He.ga K ("_law_is_integer" : PySem.Str)) fd → FnOk P w K mg base (L2.CX P w) 3 (He.ga K ("_law_is_integer" : PySem.Str)) fd [("actual" : PySem.Str)] (spD K ⟨clK K, none, []⟩ 1 f__law_is_integer) ∧ Binds K fd [("actual" : PySem.Str)] [] ∧ PySem.W.keepIn K (.ref (He.ga K ("_law_is_integer" : PySem.Str))) = true
abbrev FO__law_is_arc (P : Program) (w : World) (K : PySem.W.Frag) (mg : Str → Option Value) (base : Heap) : Prop := ∀ fd, FunD K ("_law_is_arc" : PySem.Str) ("_law_is_arc" : PySem.Str) (defArgs st__law_is_arc) (defBody st__law_is_arc) (defScope st__law_is_arc) [] [] (He.ga K ("_law_is_arc" : PySem.Str)) fd → FnOk P w K mg base (L2.CX P w) 4 (He.ga K ("_law_is_arc" : PySem.Str)) fd [("arc" : PySem.Str)] (spD K ⟨clK K, none, []⟩ 1 f__law_is_arc) ∧ Binds K fd [("arc" : PySem.Str)] [] ∧ PySem.W.keepIn K (.ref (He.ga K ("_law_is_arc" : PySem.Str))) = true
abbrev FO__law_line (P : Program) (w : World) (K : PySem.W.Frag) (mg : Str → Option Value) (base : Heap) : Prop := ∀ fd, FunD K ("_law_line" : PySem.Str) ("_law_line" : PySem.Str) (defArgs st__law_line) (defBody st__law_line) (defScope st__law_line) [] [] (He.ga K ("_law_line" : PySem.Str)) fd → FnOk P w K mg base (L2.CX P w) 5 (He.ga K ("_law_line" : PySem.Str)) fd [("span" : PySem.Str), ("claims" : PySem.Str), ("way" : PySem.Str)] (spD K ⟨clK K, none, []⟩ 3 f__law_line) ∧ Binds K fd [("span" : PySem.Str), ("claims" : PySem.Str), ("way" : PySem.Str)] [] ∧ PySem.W.keepIn K (.ref (He.ga K ("_law_line" : PySem.Str))) = true
abbrev FO__law_is_bad (P : Program) (w : World) (K : PySem.W.Frag) (mg : Str → Option Value) (base : Heap) : Prop := ∀ fd, FunD K ("_law_is_bad" : PySem.Str) ("_law_is_bad" : PySem.Str) (defArgs st__law_is_bad) (defBody st__law_is_bad) (defScope st__law_is_bad) [] [] (He.ga K ("_law_is_bad" : PySem.Str)) fd → FnOk P w K mg base (L2.CX P w) 6 (He.ga K ("_law_is_bad" : PySem.Str)) fd [("span" : PySem.Str), ("claims" : PySem.Str), ("ring" : PySem.Str)] (spD K ⟨clK K, none, []⟩ 3 f__law_is_bad) ∧ Binds K fd [("span" : PySem.Str), ("claims" : PySem.Str), ("ring" : PySem.Str)] [] ∧ PySem.W.keepIn K (.ref (He.ga K ("_law_is_bad" : PySem.Str))) = true
abbrev FO__law_all (P : Program) (w : World) (K : PySem.W.Frag) (mg : Str → Option Value) (base : Heap) : Prop := ∀ fd, FunD K ("_law_all" : PySem.Str) ("_law_all" : PySem.Str) (defArgs st__law_all) (defBody st__law_all) (defScope st__law_all) [] [] (He.ga K ("_law_all" : PySem.Str)) fd → FnOk P w K mg base (L2.CX P w) 3 (He.ga K ("_law_all" : PySem.Str)) fd [("span" : PySem.Str)] (spD K ⟨clK K, none, []⟩ 1 f__law_all) ∧ Binds K fd [("span" : PySem.Str)] [] ∧ PySem.W.keepIn K (.ref (He.ga K ("_law_all" : PySem.Str))) = true
abbrev FO__law_ones_fit (P : Program) (w : World) (K : PySem.W.Frag) (mg : Str → Option Value) (base : Heap) : Prop := ∀ fd, FunD K ("_law_ones_fit" : PySem.Str) ("_law_ones_fit" : PySem.Str) (defArgs st__law_ones_fit) (defBody st__law_ones_fit) (defScope st__law_ones_fit) [] [] (He.ga K ("_law_ones_fit" : PySem.Str)) fd → FnOk P w K mg base (L2.CX P w) 3 (He.ga K ("_law_ones_fit" : PySem.Str)) fd [("claim" : PySem.Str), ("pattern" : PySem.Str)] (spD K ⟨clK K, none, []⟩ 2 f__law_ones_fit) ∧ Binds K fd [("claim" : PySem.Str), ("pattern" : PySem.Str)] [] ∧ PySem.W.keepIn K (.ref (He.ga K ("_law_ones_fit" : PySem.Str))) = true
abbrev FO__law_fitting (P : Program) (w : World) (K : PySem.W.Frag) (mg : Str → Option Value) (base : Heap) : Prop := ∀ fd, FunD K ("_law_fitting" : PySem.Str) ("_law_fitting" : PySem.Str) (defArgs st__law_fitting) (defBody st__law_fitting) (defScope st__law_fitting) [] [] (He.ga K ("_law_fitting" : PySem.Str)) fd → FnOk P w K mg base (L2.CX P w) 4 (He.ga K ("_law_fitting" : PySem.Str)) fd [("span" : PySem.Str), ("claims" : PySem.Str)] (spD K ⟨clK K, none, []⟩ 2 f__law_fitting) ∧ Binds K fd [("span" : PySem.Str), ("claims" : PySem.Str)] [] ∧ PySem.W.keepIn K (.ref (He.ga K ("_law_fitting" : PySem.Str))) = true
abbrev FO_ring_prices (P : Program) (w : World) (K : PySem.W.Frag) (mg : Str → Option Value) (base : Heap) : Prop := ∀ fd, FunD K ("ring_prices" : PySem.Str) ("ring_prices" : PySem.Str) (defArgs st_ring_prices) (defBody st_ring_prices) (defScope st_ring_prices) [] [] (He.ga K ("ring_prices" : PySem.Str)) fd → FnOk P w K mg base (L2.CX P w) 6 (He.ga K ("ring_prices" : PySem.Str)) fd [("span" : PySem.Str), ("claims" : PySem.Str), ("ring" : PySem.Str)] (spD K ⟨clK K, none, []⟩ 3 f_ring_prices) ∧ Binds K fd [("span" : PySem.Str), ("claims" : PySem.Str), ("ring" : PySem.Str)] [] ∧ PySem.W.keepIn K (.ref (He.ga K ("ring_prices" : PySem.Str))) = true
abbrev FO__law_worth (P : Program) (w : World) (K : PySem.W.Frag) (mg : Str → Option Value) (base : Heap) : Prop := ∀ fd, FunD K ("_law_worth" : PySem.Str) ("_law_worth" : PySem.Str) (defArgs st__law_worth) (defBody st__law_worth) (defScope st__law_worth) [] [] (He.ga K ("_law_worth" : PySem.Str)) fd → FnOk P w K mg base (L2.CX P w) 3 (He.ga K ("_law_worth" : PySem.Str)) fd [("span" : PySem.Str), ("claims" : PySem.Str), ("prices" : PySem.Str)] (spD K ⟨clK K, none, []⟩ 3 f__law_worth_k30) ∧ Binds K fd [("span" : PySem.Str), ("claims" : PySem.Str), ("prices" : PySem.Str)] [] ∧ PySem.W.keepIn K (.ref (He.ga K ("_law_worth" : PySem.Str))) = true
abbrev FO_check_numbers (P : Program) (w : World) (K : PySem.W.Frag) (mg : Str → Option Value) (base : Heap) : Prop := ∀ fd, FunD K ("check_numbers" : PySem.Str) ("check_numbers" : PySem.Str) (defArgs st_check_numbers) (defBody st_check_numbers) (defScope st_check_numbers) [] [] (He.ga K ("check_numbers" : PySem.Str)) fd → FnOk P w K mg base (L2.CX P w) 4 (He.ga K ("check_numbers" : PySem.Str)) fd [("numbers" : PySem.Str), ("count" : PySem.Str)] (spD K ⟨clK K, none, []⟩ 2 f_check_numbers) ∧ Binds K fd [("numbers" : PySem.Str), ("count" : PySem.Str)] [] ∧ PySem.W.keepIn K (.ref (He.ga K ("check_numbers" : PySem.Str))) = true
abbrev FO_heights (P : Program) (w : World) (K : PySem.W.Frag) (mg : Str → Option Value) (base : Heap) : Prop := ∀ fd, FunD K ("heights" : PySem.Str) ("heights" : PySem.Str) (defArgs st_heights) (defBody st_heights) (defScope st_heights) [] [] (He.ga K ("heights" : PySem.Str)) fd → FnOk P w K mg base (L2.CX P w) 6 (He.ga K ("heights" : PySem.Str)) fd [("span" : PySem.Str), ("claims" : PySem.Str), ("prices" : PySem.Str)] (spD K ⟨clK K, none, []⟩ 3 f_heights) ∧ Binds K fd [("span" : PySem.Str), ("claims" : PySem.Str), ("prices" : PySem.Str)] [] ∧ PySem.W.keepIn K (.ref (He.ga K ("heights" : PySem.Str))) = true
abbrev FO_claim_worth (P : Program) (w : World) (K : PySem.W.Frag) (mg : Str → Option Value) (base : Heap) : Prop := ∀ fd, FunD K ("claim_worth" : PySem.Str) ("claim_worth" : PySem.Str) (defArgs st_claim_worth) (defBody st_claim_worth) (defScope st_claim_worth) [] [] (He.ga K ("claim_worth" : PySem.Str)) fd → FnOk P w K mg base (L2.CX P w) 3 (He.ga K ("claim_worth" : PySem.Str)) fd [("claim" : PySem.Str), ("price" : PySem.Str)] (spD K ⟨clK K, none, []⟩ 2 f_claim_worth) ∧ Binds K fd [("claim" : PySem.Str), ("price" : PySem.Str)] [] ∧ PySem.W.keepIn K (.ref (He.ga K ("claim_worth" : PySem.Str))) = true
abbrev FO_worth (P : Program) (w : World) (K : PySem.W.Frag) (mg : Str → Option Value) (base : Heap) : Prop := ∀ fd, FunD K ("worth" : PySem.Str) ("worth" : PySem.Str) (defArgs st_worth) (defBody st_worth) (defScope st_worth) [] [] (He.ga K ("worth" : PySem.Str)) fd → FnOk P w K mg base (L2.CX P w) 7 (He.ga K ("worth" : PySem.Str)) fd [("span" : PySem.Str), ("claims" : PySem.Str), ("weights" : PySem.Str), ("prices" : PySem.Str)] (spD K ⟨clK K, none, []⟩ 4 f_worth) ∧ Binds K fd [("span" : PySem.Str), ("claims" : PySem.Str), ("weights" : PySem.Str), ("prices" : PySem.Str)] [] ∧ PySem.W.keepIn K (.ref (He.ga K ("worth" : PySem.Str))) = true
abbrev FO_shows_unmet (P : Program) (w : World) (K : PySem.W.Frag) (mg : Str → Option Value) (base : Heap) : Prop := ∀ fd, FunD K ("shows_unmet" : PySem.Str) ("shows_unmet" : PySem.Str) (defArgs st_shows_unmet) (defBody st_shows_unmet) (defScope st_shows_unmet) [] [] (He.ga K ("shows_unmet" : PySem.Str)) fd → FnOk P w K mg base (L2.CX P w) 8 (He.ga K ("shows_unmet" : PySem.Str)) fd [("span" : PySem.Str), ("claims" : PySem.Str), ("prices" : PySem.Str)] (spD K ⟨clK K, none, []⟩ 3 f_shows_unmet) ∧ Binds K fd [("span" : PySem.Str), ("claims" : PySem.Str), ("prices" : PySem.Str)] [] ∧ PySem.W.keepIn K (.ref (He.ga K ("shows_unmet" : PySem.Str))) = true
abbrev FO__law_ring_holds (P : Program) (w : World) (K : PySem.W.Frag) (mg : Str → Option Value) (base : Heap) : Prop := ∀ fd, FunD K ("_law_ring_holds" : PySem.Str) ("_law_ring_holds" : PySem.Str) (defArgs st__law_ring_holds) (defBody st__law_ring_holds) (defScope st__law_ring_holds) [] [] (He.ga K ("_law_ring_holds" : PySem.Str)) fd → FnOk P w K mg base (L2.CX P w) 9 (He.ga K ("_law_ring_holds" : PySem.Str)) fd [("stream" : PySem.Str), ("span" : PySem.Str), ("claims" : PySem.Str), ("ring" : PySem.Str)] (spD K ⟨clK K, none, [0]⟩ 4 f__law_ring_holds_k30) ∧ Binds K fd [("stream" : PySem.Str), ("span" : PySem.Str), ("claims" : PySem.Str), ("ring" : PySem.Str)] [] ∧ PySem.W.keepIn K (.ref (He.ga K ("_law_ring_holds" : PySem.Str))) = true
abbrev FO__law_no_arc (P : Program) (w : World) (K : PySem.W.Frag) (mg : Str → Option Value) (base : Heap) : Prop := ∀ fd, FunD K ("_law_no_arc" : PySem.Str) ("_law_no_arc" : PySem.Str) (defArgs st__law_no_arc) (defBody st__law_no_arc) (defScope st__law_no_arc) [] [] (He.ga K ("_law_no_arc" : PySem.Str)) fd → FnOk P w K mg base (L2.CX P w) 7 (He.ga K ("_law_no_arc" : PySem.Str)) fd [("span" : PySem.Str), ("claims" : PySem.Str)] (spD K ⟨clK K, none, []⟩ 2 f__law_no_arc) ∧ Binds K fd [("span" : PySem.Str), ("claims" : PySem.Str)] [] ∧ PySem.W.keepIn K (.ref (He.ga K ("_law_no_arc" : PySem.Str))) = true
abbrev FO_law (P : Program) (w : World) (K : PySem.W.Frag) (mg : Str → Option Value) (base : Heap) : Prop := ∀ fd, FunD K ("law" : PySem.Str) ("law" : PySem.Str) (defArgs st_law) (defBody st_law) (defScope st_law) [] [] (He.ga K ("law" : PySem.Str)) fd → FnOk P w K mg base (L2.CX P w) 12 (He.ga K ("law" : PySem.Str)) fd [("script" : PySem.Str)] (spD K ⟨clK K, none, [0]⟩ 1 f_law_k30) ∧ Binds K fd [("script" : PySem.Str)] [] ∧ PySem.W.keepIn K (.ref (He.ga K ("law" : PySem.Str))) = true
def sl__law_stream : Scope := { kind := .function, names := [(("script" : PySem.Str), .local), (("pairs" : PySem.Str), .local), (("at" : PySem.Str), .local), (("cell" : PySem.Str), .local), (("rest" : PySem.Str), .local), (("k" : PySem.Str), .local), (("enumerate" : PySem.Str), .globalImplicit), (("abs" : PySem.Str), .globalImplicit), (("int" : PySem.Str), .globalImplicit), (("range" : PySem.Str), .globalImplicit)], isGenerator := false, isCoroutine := false, more := [] }
def al__law_stream : Arguments := ⟨[], [⟨("script" : PySem.Str), none, ⟨208, 16, 208, 22⟩⟩], none, [], [], none, []⟩
theorem ea__law_stream : defArgs st__law_stream = al__law_stream := by kernel_rfl
theorem se__law_stream : defScope st__law_stream = sl__law_stream := by kernel_rfl
theorem sc__law_stream : FnScope [("script" : PySem.Str), ("pairs" : PySem.Str), ("at" : PySem.Str), ("cell" : PySem.Str), ("rest" : PySem.Str), ("k" : PySem.Str)] [("script" : PySem.Str)] sl__law_stream := ⟨rfl, rfl, rfl, by decide +kernel, rfl, by decide +kernel, by decide +kernel⟩
theorem ok__law_stream (T : Tx P K mg)  : FO__law_stream P w K mg base := by
  intro fd F
  rw [se__law_stream, ea__law_stream] at F
  generalize hB : defBody st__law_stream = B at F
  refine ⟨?_, F.bindsN fun _ _ _ _ _ _ us hl => match us, hl with | [_], _ => rfl, F.kp⟩
  refine fn_okD (lvl := 2) (n := 1) (N := [("script" : PySem.Str), ("pairs" : PySem.Str), ("at" : PySem.Str), ("cell" : PySem.Str), ("rest" : PySem.Str), ("k" : PySem.Str)]) (k := ⟨clK K, none, [0]⟩) (b := d__law_stream) F sc__law_stream rfl fun cdv A outer s H E hr => ?_
  have hN := sc__law_stream.nd
  subst hB
  exact (ss_cons (s_set (i := 1) (c_lst vs_nil) (nio rfl) hN) (ss_cons (s_for (si_enum (SV.of_c (c_slN (i := 0) b_none (b_some (SV.of_q (r := 0) q_int)))) T.b_enumerate) (g_tup rfl (gs_cons (g_name (i := 2) (nio rfl) hN) (gs_cons (g_name (i := 3) (nio rfl) hN) gs_nil))) (ss_cons (s_set (i := 4) (SC.of_v (SV.of_q (r := 0) (q_call1 (ra := 3) call_abs c1_abs T.b_abs boot_abs (q_name (i := 3))))) (nio rfl) hN) (ss_cons (s_if (t_cmpQ (ra := 4) (rb := 0) op_lt (r2_bool _) (q_name (i := 4)) q_int) (ss_cons (s_set (i := 4) (SC.of_v (SV.of_q (r := 0) (q_bin (ra := 0) (rb := 0) op_mod (r2_intc bMod_ok _) (q_callT1 (ra := 0) call_int1 c1_int T.b_int PyProof.Rows.boot_int (q_bin (ra := 4) (rb := 0) op_mul (r2_intc bMul_ok _) (q_name (i := 4)) (q_bin (ra := 0) (rb := 0) op_add (r2_int _) (q_bin (ra := 0) (rb := 0) op_add (r2_int _) q_int (q_bin (ra := 0) (rb := 2) op_mul (r2_intc bMul_ok _) q_int (q_name (i := 2)))) (q_callT1 (ra := 0) call_int1 c1_int T.b_int PyProof.Rows.boot_int (q_cmp (ra := 3) (rb := 0) op_lt (r2_bool _) (q_name (i := 3)) q_int))))) q_int))) (nio rfl) hN) (ss_cons (s_set (i := 4) (SC.of_v (SV.of_q (r := 0) (q_bin (ra := 0) (rb := 0) op_mod (r2_intc bMod_ok _) (q_callT1 (ra := 0) call_int1 c1_int T.b_int PyProof.Rows.boot_int (q_bin (ra := 4) (rb := 0) op_mul (r2_intc bMul_ok _) (q_name (i := 4)) (q_bin (ra := 4) (rb := 0) op_add (r2_int _) (q_name (i := 4)) q_int))) q_int))) (nio rfl) hN) ss_nil)) ss_nil) (ss_cons (s_for (si_range1 (SV.of_q (r := 0) q_int) T.b_range) (g_name (i := 5) (nio rfl) hN) (ss_cons (s_expr (v_append (i := 1) (SV.of_q (r := 0) (q_bin (ra := 0) (rb := 0) op_mod (r2_intc bMod_ok _) (q_callT1 (ra := 4) call_int1 c1_int T.b_int PyProof.Rows.boot_int (q_name (i := 4))) q_int)))) (ss_cons (s_set (i := 4) (SC.of_v (SV.of_q (r := 0) (q_bin (ra := 4) (rb := 0) op_fdiv (r2_intc bDiv_ok _) (q_name (i := 4)) q_int))) (nio rfl) hN) (ss_cons (s_if (t_cmpQ (ra := 4) (rb := 0) (op_eqF hr.units) r2_eq (q_name (i := 4)) q_int) (ss_cons s_break ss_nil) ss_nil) ss_nil))) rfl) ss_nil))) rfl) (ss_cons (s_expr (v_reverse (i := 1))) (ss_cons (s_ret (c_name (i := 1))) ss_nil))))
def sl__law_draw : Scope := { kind := .function, names := [(("stream" : PySem.Str), .local), (("many" : PySem.Str), .local), (("len" : PySem.Str), .globalImplicit), (("int" : PySem.Str), .globalImplicit)], isGenerator := false, isCoroutine := false, more := [] }
def al__law_draw : Arguments := ⟨[], [⟨("stream" : PySem.Str), none, ⟨222, 14, 222, 20⟩⟩, ⟨("many" : PySem.Str), none, ⟨222, 22, 222, 26⟩⟩], none, [], [], none, []⟩
theorem ea__law_draw : defArgs st__law_draw = al__law_draw := by kernel_rfl
theorem se__law_draw : defScope st__law_draw = sl__law_draw := by kernel_rfl
theorem sc__law_draw : FnScope [("stream" : PySem.Str), ("many" : PySem.Str)] [("stream" : PySem.Str), ("many" : PySem.Str)] sl__law_draw := ⟨rfl, rfl, rfl, by decide +kernel, rfl, by decide +kernel, by decide +kernel⟩
theorem ok__law_draw (T : Tx P K mg)  : FO__law_draw P w K mg base := by
  intro fd F
  rw [se__law_draw, ea__law_draw] at F
  generalize hB : defBody st__law_draw = B at F
  refine ⟨?_, F.bindsN fun _ _ _ _ _ _ us hl => match us, hl with | [_, _], _ => rfl, F.kp⟩
  refine fn_okD (lvl := 2) (n := 2) (N := [("stream" : PySem.Str), ("many" : PySem.Str)]) (k := ⟨clK K, none, [0]⟩) (b := d__law_draw) F sc__law_draw rfl fun cdv A outer s H E hr => ?_
  have hN := sc__law_draw.nd
  subst hB
  exact (ss_cons (s_if (t_cmpQ (ra := 0) (rb := 0) (op_eqF hr.units) r2_eq (q_call1 (ra := 0) call_len c1_len T.b_len PySem.boot_len (q_name (i := 0))) q_int) (ss_cons (s_ret (SC.of_v (SV.of_q (r := 0) q_int))) ss_nil) ss_nil) (ss_cons (s_ret (SC.of_v (v_bin op_mod (r2_intc bMod_ok _) (v_callT1 call_int1 c1_int T.b_int PyProof.Rows.boot_int (v_pop (i := 0))) (v_name (i := 1))))) ss_nil))
def sl__law_claim : Scope := { kind := .function, names := [(("stream" : PySem.Str), .local), (("span" : PySem.Str), .local), (("hidden" : PySem.Str), .local), (("styles" : PySem.Str), .local), (("low" : PySem.Str), .local), (("high" : PySem.Str), .local), (("ones" : PySem.Str), .local), (("style" : PySem.Str), .local), (("least" : PySem.Str), .local), (("_law_draw" : PySem.Str), .globalImplicit), (("sum" : PySem.Str), .globalImplicit)], isGenerator := false, isCoroutine := false, more := [] }
def al__law_claim : Arguments := ⟨[], [⟨("stream" : PySem.Str), none, ⟨234, 15, 234, 21⟩⟩, ⟨("span" : PySem.Str), none, ⟨234, 23, 234, 27⟩⟩, ⟨("hidden" : PySem.Str), none, ⟨234, 29, 234, 35⟩⟩, ⟨("styles" : PySem.Str), none, ⟨234, 37, 234, 43⟩⟩], none, [], [], none, []⟩
theorem ea__law_claim : defArgs st__law_claim = al__law_claim := by kernel_rfl
theorem se__law_claim : defScope st__law_claim = sl__law_claim := by kernel_rfl
theorem sc__law_claim : FnScope [("stream" : PySem.Str), ("span" : PySem.Str), ("hidden" : PySem.Str), ("styles" : PySem.Str), ("low" : PySem.Str), ("high" : PySem.Str), ("ones" : PySem.Str), ("style" : PySem.Str), ("least" : PySem.Str)] [("stream" : PySem.Str), ("span" : PySem.Str), ("hidden" : PySem.Str), ("styles" : PySem.Str)] sl__law_claim := ⟨rfl, rfl, rfl, by decide +kernel, rfl, by decide +kernel, by decide +kernel⟩
theorem ok__law_claim (T : Tx P K mg) (O__law_draw : FO__law_draw P w K mg base) : FO__law_claim P w K mg base := by
  intro fd F
  rw [se__law_claim, ea__law_claim] at F
  obtain ⟨fd__law_draw, D__law_draw⟩ := T.F__law_draw
  obtain ⟨F__law_draw, b__law_draw, k__law_draw⟩ := O__law_draw fd__law_draw D__law_draw
  generalize hB : defBody st__law_claim = B at F
  refine ⟨?_, F.bindsN fun _ _ _ _ _ _ us hl => match us, hl with | [_, _, _, _], _ => rfl, F.kp⟩
  refine fn_okD (lvl := 3) (n := 4) (N := [("stream" : PySem.Str), ("span" : PySem.Str), ("hidden" : PySem.Str), ("styles" : PySem.Str), ("low" : PySem.Str), ("high" : PySem.Str), ("ones" : PySem.Str), ("style" : PySem.Str), ("least" : PySem.Str)]) (k := ⟨clK K, none, [0]⟩) (b := d__law_claim) F sc__law_claim rfl fun cdv A outer s H E hr => ?_
  have hN := sc__law_claim.nd
  subst hB
  exact (ss_cons (s_set (i := 4) (SC.of_v (SV.of_c (c_call (m := [some 0, none]) F__law_draw (hr.mono (by decide)) T.g__law_draw k__law_draw b__law_draw (as_slot (j := 0) (as_val (v_name (i := 1)) as_nil)) rfl))) (nio rfl) hN) (ss_cons (s_set (i := 5) (SC.of_v (v_bin op_add (r2_int _) (SV.of_q (r := 0) (q_bin (ra := 4) (rb := 0) op_add (r2_int _) (q_name (i := 4)) q_int)) (SV.of_c (c_call (m := [some 0, none]) F__law_draw (hr.mono (by decide)) T.g__law_draw k__law_draw b__law_draw (as_slot (j := 0) (as_val (SV.of_q (r := 0) (q_bin (ra := 1) (rb := 4) op_sub (r2_int _) (q_name (i := 1)) (q_name (i := 4)))) as_nil)) rfl)))) (nio rfl) hN) (ss_cons (s_set (i := 6) (SC.of_v (v_call1 (cr_sumA rfl) c1_sumA T.b_sum PyProof.Rows.boot_sum (SV.of_c (c_slN (i := 2) (b_some (v_name (i := 4))) (b_some (v_name (i := 5))))))) (nio rfl) hN) (ss_cons (s_set (i := 7) (SC.of_v (SV.of_c (c_call (m := [some 0, none]) F__law_draw (hr.mono (by decide)) T.g__law_draw k__law_draw b__law_draw (as_slot (j := 0) (as_val (v_name (i := 3)) as_nil)) rfl))) (nio rfl) hN) (ss_cons (s_if (t_cmpQ (ra := 7) (rb := 0) op_lt (r2_bool _) (q_name (i := 7)) q_int) (ss_cons (s_ret (SC.of_v (v_tup (vs_cons (v_name (i := 4)) (vs_cons (v_name (i := 5)) (vs_cons (v_name (i := 6)) (vs_cons (v_name (i := 6)) vs_nil))))))) ss_nil) ss_nil) (ss_cons (s_if (t_cmpQ (ra := 7) (rb := 0) (op_eqF hr.units) r2_eq (q_name (i := 7)) q_int) (ss_cons (s_ret (SC.of_v (v_tup (vs_cons (v_name (i := 4)) (vs_cons (v_name (i := 5)) (vs_cons (v_bin op_sub (r2_int _) (v_name (i := 6)) (SV.of_c (c_call (m := [some 0, none]) F__law_draw (hr.mono (by decide)) T.g__law_draw k__law_draw b__law_draw (as_slot (j := 0) (as_val (SV.of_q (r := 0) q_int) as_nil)) rfl))) (vs_cons (v_bin op_add (r2_int _) (v_name (i := 6)) (SV.of_c (c_call (m := [some 0, none]) F__law_draw (hr.mono (by decide)) T.g__law_draw k__law_draw b__law_draw (as_slot (j := 0) (as_val (SV.of_q (r := 0) q_int) as_nil)) rfl))) vs_nil))))))) ss_nil) ss_nil) (ss_cons (s_if (t_cmpQ (ra := 7) (rb := 0) (op_eqF hr.units) r2_eq (q_name (i := 7)) q_int) (ss_cons (s_ret (SC.of_v (v_tup (vs_cons (v_name (i := 4)) (vs_cons (v_name (i := 5)) (vs_cons (v_name (i := 6)) (vs_cons (v_bin op_add (r2_int _) (SV.of_q (r := 0) (q_bin (ra := 5) (rb := 4) op_sub (r2_int _) (q_name (i := 5)) (q_name (i := 4)))) (SV.of_c (c_call (m := [some 0, none]) F__law_draw (hr.mono (by decide)) T.g__law_draw k__law_draw b__law_draw (as_slot (j := 0) (as_val (SV.of_q (r := 0) q_int) as_nil)) rfl))) vs_nil))))))) ss_nil) ss_nil) (ss_cons (s_if (t_cmpQ (ra := 7) (rb := 0) (op_eqF hr.units) r2_eq (q_name (i := 7)) q_int) (ss_cons (s_ret (SC.of_v (v_tup (vs_cons (v_name (i := 4)) (vs_cons (v_name (i := 5)) (vs_cons (v_neg (SV.of_c (c_call (m := [some 0, none]) F__law_draw (hr.mono (by decide)) T.g__law_draw k__law_draw b__law_draw (as_slot (j := 0) (as_val (SV.of_q (r := 0) q_int) as_nil)) rfl))) (vs_cons (v_name (i := 6)) vs_nil))))))) ss_nil) ss_nil) (ss_cons (s_set (i := 8) (SC.of_v (v_bin op_sub (r2_int _) (SV.of_c (c_call (m := [some 0, none]) F__law_draw (hr.mono (by decide)) T.g__law_draw k__law_draw b__law_draw (as_slot (j := 0) (as_val (SV.of_q (r := 0) (q_bin (ra := 0) (rb := 0) op_add (r2_int _) (q_bin (ra := 5) (rb := 4) op_sub (r2_int _) (q_name (i := 5)) (q_name (i := 4))) q_int)) as_nil)) rfl)) (SV.of_c (c_call (m := [some 0, none]) F__law_draw (hr.mono (by decide)) T.g__law_draw k__law_draw b__law_draw (as_slot (j := 0) (as_val (SV.of_q (r := 0) q_int) as_nil)) rfl)))) (nio rfl) hN) (ss_cons (s_ret (SC.of_v (v_tup (vs_cons (v_name (i := 4)) (vs_cons (v_name (i := 5)) (vs_cons (v_name (i := 8)) (vs_cons (v_bin op_add (r2_int _) (v_name (i := 8)) (SV.of_c (c_call (m := [some 0, none]) F__law_draw (hr.mono (by decide)) T.g__law_draw k__law_draw b__law_draw (as_slot (j := 0) (as_val (SV.of_q (r := 0) q_int) as_nil)) rfl))) vs_nil))))))) ss_nil))))))))))
def sl__law_case : Scope := { kind := .function, names := [(("stream" : PySem.Str), .cell), (("styles" : PySem.Str), .local), (("span" : PySem.Str), .local), (("k" : PySem.Str), .local), (("hidden" : PySem.Str), .local), (("claims" : PySem.Str), .local), (("int" : PySem.Str), .globalImplicit), (("_law_draw" : PySem.Str), .globalImplicit), (("range" : PySem.Str), .globalImplicit), (("_law_claim" : PySem.Str), .globalImplicit)], isGenerator := false, isCoroutine := false, more := [(("fast" : PySem.Str), .str ("stream" : PySem.Str)), (("fast" : PySem.Str), .str ("styles" : PySem.Str)), (("fast" : PySem.Str), .str ("span" : PySem.Str)), (("fast" : PySem.Str), .str ("k" : PySem.Str)), (("fast" : PySem.Str), .str ("hidden" : PySem.Str)), (("fast" : PySem.Str), .str ("claims" : PySem.Str))] }
def al__law_case : Arguments := ⟨[], [⟨("stream" : PySem.Str), none, ⟨249, 14, 249, 20⟩⟩, ⟨("styles" : PySem.Str), none, ⟨249, 22, 249, 28⟩⟩], none, [], [], none, []⟩
theorem ea__law_case : defArgs st__law_case = al__law_case := by kernel_rfl
theorem se__law_case : defScope st__law_case = sl__law_case := by kernel_rfl
theorem sc__law_case : FnScope [("stream" : PySem.Str), ("styles" : PySem.Str), ("span" : PySem.Str), ("hidden" : PySem.Str), ("claims" : PySem.Str), ("k" : PySem.Str)] [("stream" : PySem.Str), ("styles" : PySem.Str)] sl__law_case := ⟨rfl, rfl, rfl, by decide +kernel, rfl, by decide +kernel, by decide +kernel⟩
theorem ok__law_case (T : Tx P K mg) (O__law_claim : FO__law_claim P w K mg base) (O__law_draw : FO__law_draw P w K mg base) : FO__law_case P w K mg base := by
  intro fd F
  rw [se__law_case, ea__law_case] at F
  obtain ⟨fd__law_claim, D__law_claim⟩ := T.F__law_claim
  obtain ⟨F__law_claim, b__law_claim, k__law_claim⟩ := O__law_claim fd__law_claim D__law_claim
  obtain ⟨fd__law_draw, D__law_draw⟩ := T.F__law_draw
  obtain ⟨F__law_draw, b__law_draw, k__law_draw⟩ := O__law_draw fd__law_draw D__law_draw
  generalize hB : defBody st__law_case = B at F
  refine ⟨?_, F.bindsN fun _ _ _ _ _ _ us hl => match us, hl with | [_, _], _ => rfl, F.kp⟩
  refine fn_okD (lvl := 4) (n := 2) (N := [("stream" : PySem.Str), ("styles" : PySem.Str), ("span" : PySem.Str), ("hidden" : PySem.Str), ("claims" : PySem.Str), ("k" : PySem.Str)]) (k := ⟨clK K, none, [0]⟩) (b := d__law_case) F sc__law_case rfl fun cdv A outer s H E hr => ?_
  have hN := sc__law_case.nd
  subst hB
  exact (ss_cons (s_set (i := 2) (SC.of_v (v_bin op_mod (r2_intc bMod_ok _) (v_callT1 call_int1 c1_int T.b_int PyProof.Rows.boot_int (v_bin op_add (r2_int _) (SV.of_c (c_call (m := [some 0, none]) F__law_draw (hr.mono (by decide)) T.g__law_draw k__law_draw b__law_draw (as_slot (j := 0) (as_val (SV.of_q (r := 0) q_int) as_nil)) rfl)) (SV.of_q (r := 0) q_int))) (SV.of_q (r := 0) q_int))) (nio rfl) hN) (ss_cons (s_setLc (i := 3) (own := [(("k" : PySem.Str), 5)]) rfl hN (si_range1 (v_name (i := 2)) T.b_range) (blkOk_by (N := [("stream" : PySem.Str), ("styles" : PySem.Str), ("span" : PySem.Str), ("hidden" : PySem.Str), ("claims" : PySem.Str), ("k" : PySem.Str)]) (sc := sl__law_case) (by decide +kernel)) (fun _ _ _ _ _ => (g_name (i := 5) (nio rfl) hN)) (fun _ _ _ _ _ => ts_nil) (fun _ _ _ _ _ => (SV.of_c (c_call (m := [some 0, none]) F__law_draw (hr.mono (by decide)) T.g__law_draw k__law_draw b__law_draw (as_slot (j := 0) (as_val (SV.of_q (r := 0) q_int) as_nil)) rfl))) (sw_true rfl rfl rfl (by decide +kernel))) (ss_cons (s_set (i := 4) (c_lst vs_nil) (nio rfl) hN) (ss_cons (s_if (t_cmpQ (ra := 2) (rb := 0) op_gt (r2_bool _) (q_name (i := 2)) q_int) (ss_cons (s_for (si_range1 (v_bin op_add (r2_int _) (SV.of_q (r := 0) q_int) (SV.of_c (c_call (m := [some 0, none]) F__law_draw (hr.mono (by decide)) T.g__law_draw k__law_draw b__law_draw (as_slot (j := 0) (as_val (SV.of_q (r := 0) q_int) as_nil)) rfl))) T.b_range) (g_name (i := 5) (nio rfl) hN) (ss_cons (s_expr (v_append (i := 4) (SV.of_c (c_call (m := [some 0, none, none, none]) F__law_claim (hr.mono (by decide)) T.g__law_claim k__law_claim b__law_claim (as_slot (j := 0) (as_val (v_name (i := 2)) (as_val (v_name (i := 3)) (as_val (v_name (i := 1)) as_nil)))) rfl)))) ss_nil) rfl) ss_nil) ss_nil) (ss_cons (s_ret (SC.of_v (v_tup (vs_cons (v_name (i := 2)) (vs_cons (v_name (i := 3)) (vs_cons (v_name (i := 4)) vs_nil)))))) ss_nil)))))
def sl_is_whole : Scope := { kind := .function, names := [(("thing" : PySem.Str), .local), (("isinstance" : PySem.Str), .globalImplicit), (("int" : PySem.Str), .globalImplicit), (("bool" : PySem.Str), .globalImplicit)], isGenerator := false, isCoroutine := false, more := [] }
def al_is_whole : Arguments := ⟨[], [⟨("thing" : PySem.Str), none, ⟨28, 13, 28, 18⟩⟩], none, [], [], none, []⟩
theorem ea_is_whole : defArgs st_is_whole = al_is_whole := by kernel_rfl
theorem se_is_whole : defScope st_is_whole = sl_is_whole := by kernel_rfl
theorem sc_is_whole : FnScope [("thing" : PySem.Str)] [("thing" : PySem.Str)] sl_is_whole := ⟨rfl, rfl, rfl, by decide +kernel, rfl, by decide +kernel, by decide +kernel⟩
theorem ok_is_whole (T : Tx P K mg)  : FO_is_whole P w K mg base := by
  intro fd F
  rw [se_is_whole, ea_is_whole] at F
  generalize hB : defBody st_is_whole = B at F
  refine ⟨?_, F.bindsN fun _ _ _ _ _ _ us hl => match us, hl with | [_], _ => rfl, F.kp⟩
  refine fn_okD (lvl := 2) (n := 1) (N := [("thing" : PySem.Str)]) (k := ⟨clK K, none, []⟩) (b := d_is_whole) F sc_is_whole rfl fun cdv A outer s H E hr => ?_
  have hN := sc_is_whole.nd
  subst hB
  exact (ss_cons (s_ret (SC.of_v (v_and (SV.of_q (r := 0) (q_isi (ra := 0) .int T.b_isinstance T.b_int (by decide +kernel) (q_name (i := 0)))) (v_one (v_not (SV.of_q (r := 0) (q_isi (ra := 0) .bool T.b_isinstance T.b_bool (by decide +kernel) (q_name (i := 0))))))))) ss_nil)
def sl_check_span : Scope := { kind := .function, names := [(("span" : PySem.Str), .local), (("is_whole" : PySem.Str), .globalImplicit), (("BadSpan" : PySem.Str), .globalImplicit)], isGenerator := false, isCoroutine := false, more := [] }
def al_check_span : Arguments := ⟨[], [⟨("span" : PySem.Str), none, ⟨30, 15, 30, 19⟩⟩], none, [], [], none, []⟩
theorem ea_check_span : defArgs st_check_span = al_check_span := by kernel_rfl
theorem se_check_span : defScope st_check_span = sl_check_span := by kernel_rfl
theorem sc_check_span : FnScope [("span" : PySem.Str)] [("span" : PySem.Str)] sl_check_span := ⟨rfl, rfl, rfl, by decide +kernel, rfl, by decide +kernel, by decide +kernel⟩
theorem ok_check_span (T : Tx P K mg) (O_is_whole : FO_is_whole P w K mg base) : FO_check_span P w K mg base := by
  intro fd F
  rw [se_check_span, ea_check_span] at F
  obtain ⟨fd_is_whole, D_is_whole⟩ := T.F_is_whole
  obtain ⟨F_is_whole, b_is_whole, k_is_whole⟩ := O_is_whole fd_is_whole D_is_whole
  generalize hB : defBody st_check_span = B at F
  refine ⟨?_, F.bindsN fun _ _ _ _ _ _ us hl => match us, hl with | [_], _ => rfl, F.kp⟩
  refine fn_okD (lvl := 3) (n := 1) (N := [("span" : PySem.Str)]) (k := ⟨clK K, none, []⟩) (b := d_check_span) F sc_check_span rfl fun cdv A outer s H E hr => ?_
  have hN := sc_check_span.nd
  subst hB
  exact (ss_cons (s_if (ST.of_w (w_or (t_not (ST.of_v (SV.of_c (c_call (m := [none]) F_is_whole (hr.mono (by decide)) T.g_is_whole k_is_whole b_is_whole (as_val (v_name (i := 0)) as_nil) rfl)))) (w_or1 (t_cmpQ (ra := 0) (rb := 0) op_lt (r2_bool _) (q_name (i := 0)) q_int)))) (ss_cons (s_raise1 (c := 3) rfl T.s_BadSpan bd_span T.file T.top T.g_BadSpan hr (v_name (i := 0))) ss_nil) ss_nil) ss_nil)
def sl_is_claim : Scope := { kind := .function, names := [(("span" : PySem.Str), .local), (("claim" : PySem.Str), .local), (("low" : PySem.Str), .local), (("high" : PySem.Str), .local), (("least" : PySem.Str), .local), (("most" : PySem.Str), .local), (("isinstance" : PySem.Str), .globalImplicit), (("tuple" : PySem.Str), .globalImplicit), (("len" : PySem.Str), .globalImplicit), (("all" : PySem.Str), .globalImplicit)], isGenerator := false, isCoroutine := false, more := [(("fast" : PySem.Str), .str ("span" : PySem.Str)), (("fast" : PySem.Str), .str ("claim" : PySem.Str)), (("fast" : PySem.Str), .str ("part" : PySem.Str)), (("fast" : PySem.Str), .str ("low" : PySem.Str)), (("fast" : PySem.Str), .str ("high" : PySem.Str)), (("fast" : PySem.Str), .str ("least" : PySem.Str)), (("fast" : PySem.Str), .str ("most" : PySem.Str))] }
def al_is_claim : Arguments := ⟨[], [⟨("span" : PySem.Str), none, ⟨33, 13, 33, 17⟩⟩, ⟨("claim" : PySem.Str), none, ⟨33, 19, 33, 24⟩⟩], none, [], [], none, []⟩
theorem ea_is_claim : defArgs st_is_claim = al_is_claim := by kernel_rfl
theorem se_is_claim : defScope st_is_claim = sl_is_claim := by kernel_rfl
theorem sc_is_claim : FnScope [("span" : PySem.Str), ("claim" : PySem.Str), ("low" : PySem.Str), ("high" : PySem.Str), ("least" : PySem.Str), ("most" : PySem.Str), ("part" : PySem.Str)] [("span" : PySem.Str), ("claim" : PySem.Str)] sl_is_claim := ⟨rfl, rfl, rfl, by decide +kernel, rfl, by decide +kernel, by decide +kernel⟩
theorem ok_is_claim (T : Tx P K mg) (O_is_whole : FO_is_whole P w K mg base) : FO_is_claim P w K mg base := by
  intro fd F
  rw [se_is_claim, ea_is_claim] at F
  obtain ⟨fd_is_whole, D_is_whole⟩ := T.F_is_whole
  obtain ⟨F_is_whole, b_is_whole, k_is_whole⟩ := O_is_whole fd_is_whole D_is_whole
  generalize hB : defBody st_is_claim = B at F
  refine ⟨?_, F.bindsN fun _ _ _ _ _ _ us hl => match us, hl with | [_, _], _ => rfl, F.kp⟩
  refine fn_okD (lvl := 3) (n := 2) (N := [("span" : PySem.Str), ("claim" : PySem.Str), ("low" : PySem.Str), ("high" : PySem.Str), ("least" : PySem.Str), ("most" : PySem.Str), ("part" : PySem.Str)]) (k := ⟨clK K, none, []⟩) (b := d_is_claim) F sc_is_claim rfl fun cdv A outer s H E hr => ?_
  have hN := sc_is_claim.nd
  subst hB
  exact (ss_cons (s_if (ST.of_w (w_or (t_not (ST.of_v (SV.of_q (r := 0) (q_isi (ra := 1) .tuple T.b_isinstance T.b_tuple (by decide +kernel) (q_name (i := 1)))))) (w_or1 (t_cmpQ (ra := 0) (rb := 0) (op_neF hr.units) r2_ne (q_call1 (ra := 1) call_len c1_len T.b_len PySem.boot_len (q_name (i := 1))) q_int)))) (ss_cons (s_ret (SC.of_v (SV.of_q (r := 0) q_bl))) ss_nil) ss_nil) (ss_cons (s_if (t_not (ST.of_v (v_call1 (cr_all rfl) c1_all T.b_all PyProof.Rows.boot_all (SV.of_c (c_lc (own := [(("part" : PySem.Str), 6)]) rfl hN (si_val (v_name (i := 1))) (blkOk_by (N := [("span" : PySem.Str), ("claim" : PySem.Str), ("low" : PySem.Str), ("high" : PySem.Str), ("least" : PySem.Str), ("most" : PySem.Str), ("part" : PySem.Str)]) (sc := sl_is_claim) (by decide +kernel)) (fun _ _ _ _ _ => (g_name (i := 6) (nio rfl) hN)) (fun _ _ _ _ _ => ts_nil) (fun _ _ _ _ _ => (SV.of_c (c_call (m := [none]) F_is_whole (hr.mono (by decide)) T.g_is_whole k_is_whole b_is_whole (as_val (v_name (i := 6)) as_nil) rfl)))))))) (ss_cons (s_ret (SC.of_v (SV.of_q (r := 0) q_bl))) ss_nil) ss_nil) (ss_cons (s_asg (v_name (i := 1)) (g_tup rfl (gs_cons (g_name (i := 2) (nio rfl) hN) (gs_cons (g_name (i := 3) (nio rfl) hN) (gs_cons (g_name (i := 4) (nio rfl) hN) (gs_cons (g_name (i := 5) (nio rfl) hN) gs_nil)))))) (ss_cons (s_ret (SC.of_v (v_and (SV.of_q (r := 0) (q_cmp (ra := 0) (rb := 2) op_le (r2_bool _) q_int (q_name (i := 2)))) (v_and (SV.of_q (r := 0) (q_cmp (ra := 2) (rb := 3) op_lt (r2_bool _) (q_name (i := 2)) (q_name (i := 3)))) (v_and (SV.of_q (r := 0) (q_cmp (ra := 3) (rb := 0) op_le (r2_bool _) (q_name (i := 3)) (q_name (i := 0)))) (v_one (SV.of_q (r := 0) (q_cmp (ra := 4) (rb := 5) op_le (r2_bool _) (q_name (i := 4)) (q_name (i := 5)))))))))) ss_nil))))
def sl_check_claims : Scope := { kind := .function, names := [(("span" : PySem.Str), .local), (("claims" : PySem.Str), .local), (("place" : PySem.Str), .local), (("claim" : PySem.Str), .local), (("check_span" : PySem.Str), .globalImplicit), (("enumerate" : PySem.Str), .globalImplicit), (("is_claim" : PySem.Str), .globalImplicit), (("BadClaim" : PySem.Str), .globalImplicit)], isGenerator := false, isCoroutine := false, more := [] }
def al_check_claims : Arguments := ⟨[], [⟨("span" : PySem.Str), none, ⟨40, 17, 40, 21⟩⟩, ⟨("claims" : PySem.Str), none, ⟨40, 23, 40, 29⟩⟩], none, [], [], none, []⟩
theorem ea_check_claims : defArgs st_check_claims = al_check_claims := by kernel_rfl
theorem se_check_claims : defScope st_check_claims = sl_check_claims := by kernel_rfl
theorem sc_check_claims : FnScope [("span" : PySem.Str), ("claims" : PySem.Str), ("place" : PySem.Str), ("claim" : PySem.Str)] [("span" : PySem.Str), ("claims" : PySem.Str)] sl_check_claims := ⟨rfl, rfl, rfl, by decide +kernel, rfl, by decide +kernel, by decide +kernel⟩
theorem ok_check_claims (T : Tx P K mg) (O_check_span : FO_check_span P w K mg base) (O_is_claim : FO_is_claim P w K mg base) : FO_check_claims P w K mg base := by
  intro fd F
  rw [se_check_claims, ea_check_claims] at F
  obtain ⟨fd_check_span, D_check_span⟩ := T.F_check_span
  obtain ⟨F_check_span, b_check_span, k_check_span⟩ := O_check_span fd_check_span D_check_span
  obtain ⟨fd_is_claim, D_is_claim⟩ := T.F_is_claim
  obtain ⟨F_is_claim, b_is_claim, k_is_claim⟩ := O_is_claim fd_is_claim D_is_claim
  generalize hB : defBody st_check_claims = B at F
  refine ⟨?_, F.bindsN fun _ _ _ _ _ _ us hl => match us, hl with | [_, _], _ => rfl, F.kp⟩
  refine fn_okD (lvl := 4) (n := 2) (N := [("span" : PySem.Str), ("claims" : PySem.Str), ("place" : PySem.Str), ("claim" : PySem.Str)]) (k := ⟨clK K, none, []⟩) (b := d_check_claims) F sc_check_claims rfl fun cdv A outer s H E hr => ?_
  have hN := sc_check_claims.nd
  subst hB
  exact (ss_cons (s_expr (SV.of_c (c_call (m := [none]) F_check_span (hr.mono (by decide)) T.g_check_span k_check_span b_check_span (as_val (v_name (i := 0)) as_nil) rfl))) (ss_cons (s_for (si_enum (v_name (i := 1)) T.b_enumerate) (g_tup rfl (gs_cons (g_name (i := 2) (nio rfl) hN) (gs_cons (g_name (i := 3) (nio rfl) hN) gs_nil))) (ss_cons (s_if (t_not (ST.of_v (SV.of_c (c_call (m := [none, none]) F_is_claim (hr.mono (by decide)) T.g_is_claim k_is_claim b_is_claim (as_val (v_name (i := 0)) (as_val (v_name (i := 3)) as_nil)) rfl)))) (ss_cons (s_raise1 (c := 4) rfl T.s_BadClaim bd_place T.file T.top T.g_BadClaim hr (v_name (i := 2))) ss_nil) ss_nil) ss_nil) rfl) ss_nil))
def sl_arcs_of : Scope := { kind := .function, names := [(("span" : PySem.Str), .local), (("claims" : PySem.Str), .local), (("found" : PySem.Str), .local), (("place" : PySem.Str), .local), (("check_claims" : PySem.Str), .globalImplicit), (("range" : PySem.Str), .globalImplicit), (("len" : PySem.Str), .globalImplicit)], isGenerator := false, isCoroutine := false, more := [(("fast" : PySem.Str), .str ("span" : PySem.Str)), (("fast" : PySem.Str), .str ("claims" : PySem.Str)), (("fast" : PySem.Str), .str ("number" : PySem.Str)), (("fast" : PySem.Str), .str ("found" : PySem.Str)), (("fast" : PySem.Str), .str ("place" : PySem.Str))] }
def al_arcs_of : Arguments := ⟨[], [⟨("span" : PySem.Str), none, ⟨47, 12, 47, 16⟩⟩, ⟨("claims" : PySem.Str), none, ⟨47, 18, 47, 24⟩⟩], none, [], [], none, []⟩
theorem ea_arcs_of : defArgs st_arcs_of = al_arcs_of := by kernel_rfl
theorem se_arcs_of : defScope st_arcs_of = sl_arcs_of := by kernel_rfl
theorem sc_arcs_of : FnScope [("span" : PySem.Str), ("claims" : PySem.Str), ("found" : PySem.Str), ("place" : PySem.Str), ("number" : PySem.Str)] [("span" : PySem.Str), ("claims" : PySem.Str)] sl_arcs_of := ⟨rfl, rfl, rfl, by decide +kernel, rfl, by decide +kernel, by decide +kernel⟩
theorem ok_arcs_of (T : Tx P K mg) (O_check_claims : FO_check_claims P w K mg base) : FO_arcs_of P w K mg base := by
  intro fd F
  rw [se_arcs_of, ea_arcs_of] at F
  obtain ⟨fd_check_claims, D_check_claims⟩ := T.F_check_claims
  obtain ⟨F_check_claims, b_check_claims, k_check_claims⟩ := O_check_claims fd_check_claims D_check_claims
  generalize hB : defBody st_arcs_of = B at F
  refine ⟨?_, F.bindsN fun _ _ _ _ _ _ us hl => match us, hl with | [_, _], _ => rfl, F.kp⟩
  refine fn_okD (lvl := 5) (n := 2) (N := [("span" : PySem.Str), ("claims" : PySem.Str), ("found" : PySem.Str), ("place" : PySem.Str), ("number" : PySem.Str)]) (k := ⟨clK K, none, []⟩) (b := d_arcs_of) F sc_arcs_of rfl fun cdv A outer s H E hr => ?_
  have hN := sc_arcs_of.nd
  subst hB
  exact (ss_cons (s_expr (SV.of_c (c_call (m := [none, none]) F_check_claims (hr.mono (by decide)) T.g_check_claims k_check_claims b_check_claims (as_val (v_name (i := 0)) (as_val (v_name (i := 1)) as_nil)) rfl))) (ss_cons (s_setLc (i := 2) (own := [(("number" : PySem.Str), 4)]) rfl hN (si_range1 (v_name (i := 0)) T.b_range) (blkOk_by (N := [("span" : PySem.Str), ("claims" : PySem.Str), ("found" : PySem.Str), ("place" : PySem.Str), ("number" : PySem.Str)]) (sc := sl_arcs_of) (by decide +kernel)) (fun _ _ _ _ _ => (g_name (i := 4) (nio rfl) hN)) (fun _ _ _ _ _ => ts_nil) (fun _ _ _ _ _ => (v_tup (vs_cons (SV.of_q (r := 0) q_str) (vs_cons (v_name (i := 4)) vs_nil)))) (sw_true rfl rfl rfl (by decide +kernel))) (ss_cons (s_augL (i := 2) (SV.of_c (c_lc (own := [(("number" : PySem.Str), 4)]) rfl hN (si_range1 (v_name (i := 0)) T.b_range) (blkOk_by (N := [("span" : PySem.Str), ("claims" : PySem.Str), ("found" : PySem.Str), ("place" : PySem.Str), ("number" : PySem.Str)]) (sc := sl_arcs_of) (by decide +kernel)) (fun _ _ _ _ _ => (g_name (i := 4) (nio rfl) hN)) (fun _ _ _ _ _ => ts_nil) (fun _ _ _ _ _ => (v_tup (vs_cons (SV.of_q (r := 0) q_str) (vs_cons (v_name (i := 4)) vs_nil)))))) hN) (ss_cons (s_for (si_range1 (SV.of_q (r := 0) (q_call1 (ra := 1) call_len c1_len T.b_len PySem.boot_len (q_name (i := 1)))) T.b_range) (g_name (i := 3) (nio rfl) hN) (ss_cons (s_augL (i := 2) (SV.of_c (c_lst (vs_cons (v_tup (vs_cons (SV.of_q (r := 0) q_str) (vs_cons (v_name (i := 3)) vs_nil))) (vs_cons (v_tup (vs_cons (SV.of_q (r := 0) q_str) (vs_cons (v_name (i := 3)) vs_nil))) vs_nil)))) hN) ss_nil) rfl) (ss_cons (s_ret (c_name (i := 2))) ss_nil)))))
def sl_arc_line : Scope := { kind := .function, names := [(("claims" : PySem.Str), .local), (("arc" : PySem.Str), .local), (("word" : PySem.Str), .local), (("place" : PySem.Str), .local), (("low" : PySem.Str), .local), (("high" : PySem.Str), .local), (("least" : PySem.Str), .local), (("most" : PySem.Str), .local)], isGenerator := false, isCoroutine := false, more := [] }
def al_arc_line : Arguments := ⟨[], [⟨("claims" : PySem.Str), none, ⟨62, 13, 62, 19⟩⟩, ⟨("arc" : PySem.Str), none, ⟨62, 21, 62, 24⟩⟩], none, [], [], none, []⟩
theorem ea_arc_line : defArgs st_arc_line = al_arc_line := by kernel_rfl
theorem se_arc_line : defScope st_arc_line = sl_arc_line := by kernel_rfl
theorem sc_arc_line : FnScope [("claims" : PySem.Str), ("arc" : PySem.Str), ("word" : PySem.Str), ("place" : PySem.Str), ("low" : PySem.Str), ("high" : PySem.Str), ("least" : PySem.Str), ("most" : PySem.Str)] [("claims" : PySem.Str), ("arc" : PySem.Str)] sl_arc_line := ⟨rfl, rfl, rfl, by decide +kernel, rfl, by decide +kernel, by decide +kernel⟩
theorem ok_arc_line (T : Tx P K mg)  : FO_arc_line P w K mg base := by
  intro fd F
  rw [se_arc_line, ea_arc_line] at F
  generalize hB : defBody st_arc_line = B at F
  refine ⟨?_, F.bindsN fun _ _ _ _ _ _ us hl => match us, hl with | [_, _], _ => rfl, F.kp⟩
  refine fn_okD (lvl := 2) (n := 2) (N := [("claims" : PySem.Str), ("arc" : PySem.Str), ("word" : PySem.Str), ("place" : PySem.Str), ("low" : PySem.Str), ("high" : PySem.Str), ("least" : PySem.Str), ("most" : PySem.Str)]) (k := ⟨clK K, none, []⟩) (b := d_arc_line) F sc_arc_line rfl fun cdv A outer s H E hr => ?_
  have hN := sc_arc_line.nd
  subst hB
  exact (ss_cons (s_asg (v_name (i := 1)) (g_tup rfl (gs_cons (g_name (i := 2) (nio rfl) hN) (gs_cons (g_name (i := 3) (nio rfl) hN) gs_nil)))) (ss_cons (s_if (t_cmpQ (ra := 2) (rb := 0) (op_eqF hr.units) r2_eq (q_name (i := 2)) q_str) (ss_cons (s_ret (SC.of_v (v_tup (vs_cons (v_name (i := 3)) (vs_cons (SV.of_q (r := 0) (q_bin (ra := 3) (rb := 0) op_add (r2_int _) (q_name (i := 3)) q_int)) (vs_cons (SV.of_q (r := 0) q_int) vs_nil)))))) ss_nil) ss_nil) (ss_cons (s_if (t_cmpQ (ra := 2) (rb := 0) (op_eqF hr.units) r2_eq (q_name (i := 2)) q_str) (ss_cons (s_ret (SC.of_v (v_tup (vs_cons (SV.of_q (r := 0) (q_bin (ra := 3) (rb := 0) op_add (r2_int _) (q_name (i := 3)) q_int)) (vs_cons (v_name (i := 3)) (vs_cons (SV.of_q (r := 0) q_int) vs_nil)))))) ss_nil) ss_nil) (ss_cons (s_asg (SV.of_q (r := 0) (q_ix (ra := 0) (rb := 3) (q_name (i := 0)) (q_name (i := 3)))) (g_tup rfl (gs_cons (g_name (i := 4) (nio rfl) hN) (gs_cons (g_name (i := 5) (nio rfl) hN) (gs_cons (g_name (i := 6) (nio rfl) hN) (gs_cons (g_name (i := 7) (nio rfl) hN) gs_nil)))))) (ss_cons (s_if (t_cmpQ (ra := 2) (rb := 0) (op_eqF hr.units) r2_eq (q_name (i := 2)) q_str) (ss_cons (s_ret (SC.of_v (v_tup (vs_cons (v_name (i := 4)) (vs_cons (v_name (i := 5)) (vs_cons (v_name (i := 7)) vs_nil)))))) ss_nil) ss_nil) (ss_cons (s_ret (SC.of_v (v_tup (vs_cons (v_name (i := 5)) (vs_cons (v_name (i := 4)) (vs_cons (SV.of_q (r := 0) (q_neg (ra := 6) (q_name (i := 6)))) vs_nil)))))) ss_nil))))))
def sl_arc_lines : Scope := { kind := .function, names := [(("span" : PySem.Str), .local), (("claims" : PySem.Str), .local), (("lines" : PySem.Str), .local), (("falling" : PySem.Str), .local), (("arc" : PySem.Str), .local), (("start" : PySem.Str), .local), (("end" : PySem.Str), .local), (("cost" : PySem.Str), .local), (("arcs_of" : PySem.Str), .globalImplicit), (("arc_line" : PySem.Str), .globalImplicit)], isGenerator := false, isCoroutine := false, more := [] }
def al_arc_lines : Arguments := ⟨[], [⟨("span" : PySem.Str), none, ⟨98, 14, 98, 18⟩⟩, ⟨("claims" : PySem.Str), none, ⟨98, 20, 98, 26⟩⟩], none, [], [], none, []⟩
theorem ea_arc_lines : defArgs st_arc_lines = al_arc_lines := by kernel_rfl
theorem se_arc_lines : defScope st_arc_lines = sl_arc_lines := by kernel_rfl
theorem sc_arc_lines : FnScope [("span" : PySem.Str), ("claims" : PySem.Str), ("lines" : PySem.Str), ("falling" : PySem.Str), ("arc" : PySem.Str), ("start" : PySem.Str), ("end" : PySem.Str), ("cost" : PySem.Str)] [("span" : PySem.Str), ("claims" : PySem.Str)] sl_arc_lines := ⟨rfl, rfl, rfl, by decide +kernel, rfl, by decide +kernel, by decide +kernel⟩
theorem ok_arc_lines (T : Tx P K mg) (O_arc_line : FO_arc_line P w K mg base) (O_arcs_of : FO_arcs_of P w K mg base) : FO_arc_lines P w K mg base := by
  intro fd F
  rw [se_arc_lines, ea_arc_lines] at F
  obtain ⟨fd_arc_line, D_arc_line⟩ := T.F_arc_line
  obtain ⟨F_arc_line, b_arc_line, k_arc_line⟩ := O_arc_line fd_arc_line D_arc_line
  obtain ⟨fd_arcs_of, D_arcs_of⟩ := T.F_arcs_of
  obtain ⟨F_arcs_of, b_arcs_of, k_arcs_of⟩ := O_arcs_of fd_arcs_of D_arcs_of
  generalize hB : defBody st_arc_lines = B at F
  refine ⟨?_, F.bindsN fun _ _ _ _ _ _ us hl => match us, hl with | [_, _], _ => rfl, F.kp⟩
  refine fn_okD (lvl := 6) (n := 2) (N := [("span" : PySem.Str), ("claims" : PySem.Str), ("lines" : PySem.Str), ("falling" : PySem.Str), ("arc" : PySem.Str), ("start" : PySem.Str), ("end" : PySem.Str), ("cost" : PySem.Str)]) (k := ⟨clK K, none, []⟩) (b := d_arc_lines) F sc_arc_lines rfl fun cdv A outer s H E hr => ?_
  have hN := sc_arc_lines.nd
  subst hB
  exact (ss_cons (s_set (i := 2) (c_lst vs_nil) (nio rfl) hN) (ss_cons (s_set (i := 3) (c_lst vs_nil) (nio rfl) hN) (ss_cons (s_for (si_val (SV.of_c (c_call (m := [none, none]) F_arcs_of (hr.mono (by decide)) T.g_arcs_of k_arcs_of b_arcs_of (as_val (v_name (i := 0)) (as_val (v_name (i := 1)) as_nil)) rfl))) (g_name (i := 4) (nio rfl) hN) (ss_cons (s_asg (SV.of_c (c_call (m := [none, none]) F_arc_line (hr.mono (by decide)) T.g_arc_line k_arc_line b_arc_line (as_val (v_name (i := 1)) (as_val (v_name (i := 4)) as_nil)) rfl)) (g_tup rfl (gs_cons (g_name (i := 5) (nio rfl) hN) (gs_cons (g_name (i := 6) (nio rfl) hN) (gs_cons (g_name (i := 7) (nio rfl) hN) gs_nil))))) (ss_cons (s_if (t_cmpQ (ra := 0) (rb := 0) (op_eqF hr.units) r2_eq (q_ix (ra := 4) (rb := 0) (q_name (i := 4)) q_int) q_str) (ss_cons (s_expr (v_append (i := 3) (v_tup (vs_cons (v_name (i := 5)) (vs_cons (v_name (i := 6)) (vs_cons (v_name (i := 7)) (vs_cons (v_name (i := 4)) vs_nil))))))) ss_nil) (ss_cons (s_expr (v_append (i := 2) (v_tup (vs_cons (v_name (i := 5)) (vs_cons (v_name (i := 6)) (vs_cons (v_name (i := 7)) (vs_cons (v_name (i := 4)) vs_nil))))))) ss_nil)) ss_nil)) rfl) (ss_cons (s_expr (v_reverse (i := 3))) (ss_cons (s_ret (c_binV op_cat r2_cat (v_name (i := 2)) (v_name (i := 3)))) ss_nil)))))
def sl_relaxed : Scope := { kind := .function, names := [(("lines" : PySem.Str), .local), (("sums" : PySem.Str), .local), (("lasts" : PySem.Str), .local), (("lowered" : PySem.Str), .local), (("start" : PySem.Str), .local), (("end" : PySem.Str), .local), (("cost" : PySem.Str), .local), (("arc" : PySem.Str), .local), (("through" : PySem.Str), .local)], isGenerator := false, isCoroutine := false, more := [] }
def al_relaxed : Arguments := ⟨[], [⟨("lines" : PySem.Str), none, ⟨109, 12, 109, 17⟩⟩, ⟨("sums" : PySem.Str), none, ⟨109, 19, 109, 23⟩⟩, ⟨("lasts" : PySem.Str), none, ⟨109, 25, 109, 30⟩⟩], none, [], [], none, []⟩
theorem ea_relaxed : defArgs st_relaxed = al_relaxed := by kernel_rfl
theorem se_relaxed : defScope st_relaxed = sl_relaxed := by kernel_rfl
theorem sc_relaxed : FnScope [("lines" : PySem.Str), ("sums" : PySem.Str), ("lasts" : PySem.Str), ("lowered" : PySem.Str), ("start" : PySem.Str), ("end" : PySem.Str), ("cost" : PySem.Str), ("arc" : PySem.Str), ("through" : PySem.Str)] [("lines" : PySem.Str), ("sums" : PySem.Str), ("lasts" : PySem.Str)] sl_relaxed := ⟨rfl, rfl, rfl, by decide +kernel, rfl, by decide +kernel, by decide +kernel⟩
theorem ok_relaxed (T : Tx P K mg)  : FO_relaxed P w K mg base := by
  intro fd F
  rw [se_relaxed, ea_relaxed] at F
  generalize hB : defBody st_relaxed = B at F
  refine ⟨?_, F.bindsN fun _ _ _ _ _ _ us hl => match us, hl with | [_, _, _], _ => rfl, F.kp⟩
  refine fn_okD (lvl := 2) (n := 3) (N := [("lines" : PySem.Str), ("sums" : PySem.Str), ("lasts" : PySem.Str), ("lowered" : PySem.Str), ("start" : PySem.Str), ("end" : PySem.Str), ("cost" : PySem.Str), ("arc" : PySem.Str), ("through" : PySem.Str)]) (k := ⟨clK K, none, [1, 2]⟩) (b := d_relaxed) F sc_relaxed rfl fun cdv A outer s H E hr => ?_
  have hN := sc_relaxed.nd
  subst hB
  exact (ss_cons (s_set (i := 3) (SC.of_v (SV.of_q (r := 0) q_non)) (nio rfl) hN) (ss_cons (s_for (si_val (v_name (i := 0))) (g_tup rfl (gs_cons (g_name (i := 4) (nio rfl) hN) (gs_cons (g_name (i := 5) (nio rfl) hN) (gs_cons (g_name (i := 6) (nio rfl) hN) (gs_cons (g_name (i := 7) (nio rfl) hN) gs_nil))))) (ss_cons (s_if (t_cmpQ (ra := 0) (rb := 0) op_notN r2_notN (q_ix (ra := 1) (rb := 4) (q_name (i := 1)) (q_name (i := 4))) q_non) (ss_cons (s_set (i := 8) (SC.of_v (SV.of_q (r := 0) (q_bin (ra := 0) (rb := 6) op_add (r2_int _) (q_ix (ra := 1) (rb := 4) (q_name (i := 1)) (q_name (i := 4))) (q_name (i := 6))))) (nio rfl) hN) (ss_cons (s_if (ST.of_w (w_or (t_cmpQ (ra := 0) (rb := 0) op_isN r2_isN (q_ix (ra := 1) (rb := 5) (q_name (i := 1)) (q_name (i := 5))) q_non) (w_or1 (t_cmpQ (ra := 8) (rb := 0) op_lt (r2_bool _) (q_name (i := 8)) (q_ix (ra := 1) (rb := 5) (q_name (i := 1)) (q_name (i := 5))))))) (ss_cons (s_setIx (i := 1) (v_name (i := 8)) (v_name (i := 5))) (ss_cons (s_setIx (i := 2) (v_tup (vs_cons (v_name (i := 4)) (vs_cons (v_name (i := 7)) vs_nil))) (v_name (i := 5))) (ss_cons (s_set (i := 3) (SC.of_v (v_name (i := 5))) (nio rfl) hN) ss_nil))) ss_nil) ss_nil)) ss_nil) ss_nil) rfl) (ss_cons (s_ret (SC.of_v (v_name (i := 3)))) ss_nil)))
def sl_ring_through : Scope := { kind := .function, names := [(("lasts" : PySem.Str), .local), (("place" : PySem.Str), .local), (("at" : PySem.Str), .local), (("_" : PySem.Str), .local), (("first" : PySem.Str), .local), (("ring" : PySem.Str), .local), (("before" : PySem.Str), .local), (("arc" : PySem.Str), .local), (("range" : PySem.Str), .globalImplicit), (("len" : PySem.Str), .globalImplicit)], isGenerator := false, isCoroutine := false, more := [] }
def al_ring_through : Arguments := ⟨[], [⟨("lasts" : PySem.Str), none, ⟨119, 17, 119, 22⟩⟩, ⟨("place" : PySem.Str), none, ⟨119, 24, 119, 29⟩⟩], none, [], [], none, []⟩
theorem ea_ring_through : defArgs st_ring_through = al_ring_through := by kernel_rfl
theorem se_ring_through : defScope st_ring_through = sl_ring_through := by kernel_rfl
theorem sc_ring_through : FnScope [("lasts" : PySem.Str), ("place" : PySem.Str), ("at" : PySem.Str), ("_" : PySem.Str), ("first" : PySem.Str), ("ring" : PySem.Str), ("before" : PySem.Str), ("arc" : PySem.Str)] [("lasts" : PySem.Str), ("place" : PySem.Str)] sl_ring_through := ⟨rfl, rfl, rfl, by decide +kernel, rfl, by decide +kernel, by decide +kernel⟩
theorem ok_ring_through (T : Tx P K mg)  : FO_ring_through P w K mg base := by
  intro fd F
  rw [se_ring_through, ea_ring_through] at F
  generalize hB : defBody st_ring_through = B at F
  refine ⟨?_, F.bindsN fun _ _ _ _ _ _ us hl => match us, hl with | [_, _], _ => rfl, F.kp⟩
  refine fn_okD (lvl := 2) (n := 2) (N := [("lasts" : PySem.Str), ("place" : PySem.Str), ("at" : PySem.Str), ("_" : PySem.Str), ("first" : PySem.Str), ("ring" : PySem.Str), ("before" : PySem.Str), ("arc" : PySem.Str)]) (k := ⟨clK K, none, []⟩) (b := d_ring_through) F sc_ring_through rfl fun cdv A outer s H E hr => ?_
  have hN := sc_ring_through.nd
  subst hB
  exact (ss_cons (s_set (i := 2) (SC.of_v (v_name (i := 1))) (nio rfl) hN) (ss_cons (s_for (si_range1 (SV.of_q (r := 0) (q_call1 (ra := 0) call_len c1_len T.b_len PySem.boot_len (q_name (i := 0)))) T.b_range) (g_name (i := 3) (nio rfl) hN) (ss_cons (s_set (i := 2) (SC.of_v (SV.of_q (r := 0) (q_ix (ra := 0) (rb := 0) (q_ix (ra := 0) (rb := 2) (q_name (i := 0)) (q_name (i := 2))) q_int))) (nio rfl) hN) ss_nil) rfl) (ss_cons (s_set (i := 4) (SC.of_v (v_name (i := 2))) (nio rfl) hN) (ss_cons (s_set (i := 5) (c_lst vs_nil) (nio rfl) hN) (ss_cons (s_for (si_range1 (SV.of_q (r := 0) (q_call1 (ra := 0) call_len c1_len T.b_len PySem.boot_len (q_name (i := 0)))) T.b_range) (g_name (i := 3) (nio rfl) hN) (ss_cons (s_asg (SV.of_q (r := 0) (q_ix (ra := 0) (rb := 2) (q_name (i := 0)) (q_name (i := 2)))) (g_tup rfl (gs_cons (g_name (i := 6) (nio rfl) hN) (gs_cons (g_name (i := 7) (nio rfl) hN) gs_nil)))) (ss_cons (s_expr (v_append (i := 5) (v_name (i := 7)))) (ss_cons (s_set (i := 2) (SC.of_v (v_name (i := 6))) (nio rfl) hN) (ss_cons (s_if (t_cmpQ (ra := 2) (rb := 4) (op_eqF hr.units) r2_eq (q_name (i := 2)) (q_name (i := 4))) (ss_cons s_break ss_nil) ss_nil) ss_nil)))) rfl) (ss_cons (s_expr (v_reverse (i := 5))) (ss_cons (s_ret (c_name (i := 5))) ss_nil)))))))
def sl_bad_ring : Scope := { kind := .function, names := [(("span" : PySem.Str), .local), (("claims" : PySem.Str), .local), (("lines" : PySem.Str), .local), (("sums" : PySem.Str), .local), (("lasts" : PySem.Str), .local), (("_" : PySem.Str), .local), (("lowered" : PySem.Str), .local), (("arc_lines" : PySem.Str), .globalImplicit), (("range" : PySem.Str), .globalImplicit), (("relaxed" : PySem.Str), .globalImplicit), (("ring_through" : PySem.Str), .globalImplicit)], isGenerator := false, isCoroutine := false, more := [] }
def al_bad_ring : Arguments := ⟨[], [⟨("span" : PySem.Str), none, ⟨133, 13, 133, 17⟩⟩, ⟨("claims" : PySem.Str), none, ⟨133, 19, 133, 25⟩⟩], none, [], [], none, []⟩
theorem ea_bad_ring : defArgs st_bad_ring = al_bad_ring := by kernel_rfl
theorem se_bad_ring : defScope st_bad_ring = sl_bad_ring := by kernel_rfl
theorem sc_bad_ring : FnScope [("span" : PySem.Str), ("claims" : PySem.Str), ("lines" : PySem.Str), ("sums" : PySem.Str), ("lasts" : PySem.Str), ("_" : PySem.Str), ("lowered" : PySem.Str)] [("span" : PySem.Str), ("claims" : PySem.Str)] sl_bad_ring := ⟨rfl, rfl, rfl, by decide +kernel, rfl, by decide +kernel, by decide +kernel⟩
theorem ok_bad_ring (T : Tx P K mg) (O_arc_lines : FO_arc_lines P w K mg base) (O_relaxed : FO_relaxed P w K mg base) (O_ring_through : FO_ring_through P w K mg base) : FO_bad_ring P w K mg base := by
  intro fd F
  rw [se_bad_ring, ea_bad_ring] at F
  obtain ⟨fd_arc_lines, D_arc_lines⟩ := T.F_arc_lines
  obtain ⟨F_arc_lines, b_arc_lines, k_arc_lines⟩ := O_arc_lines fd_arc_lines D_arc_lines
  obtain ⟨fd_relaxed, D_relaxed⟩ := T.F_relaxed
  obtain ⟨F_relaxed, b_relaxed, k_relaxed⟩ := O_relaxed fd_relaxed D_relaxed
  obtain ⟨fd_ring_through, D_ring_through⟩ := T.F_ring_through
  obtain ⟨F_ring_through, b_ring_through, k_ring_through⟩ := O_ring_through fd_ring_through D_ring_through
  generalize hB : defBody st_bad_ring = B at F
  refine ⟨?_, F.bindsN fun _ _ _ _ _ _ us hl => match us, hl with | [_, _], _ => rfl, F.kp⟩
  refine fn_okD (lvl := 7) (n := 2) (N := [("span" : PySem.Str), ("claims" : PySem.Str), ("lines" : PySem.Str), ("sums" : PySem.Str), ("lasts" : PySem.Str), ("_" : PySem.Str), ("lowered" : PySem.Str)]) (k := ⟨clK K, none, []⟩) (b := d_bad_ring) F sc_bad_ring rfl fun cdv A outer s H E hr => ?_
  have hN := sc_bad_ring.nd
  subst hB
  exact (ss_cons (s_set (i := 2) (SC.of_v (SV.of_c (c_call (m := [none, none]) F_arc_lines (hr.mono (by decide)) T.g_arc_lines k_arc_lines b_arc_lines (as_val (v_name (i := 0)) (as_val (v_name (i := 1)) as_nil)) rfl))) (nio rfl) hN) (ss_cons (s_set (i := 3) (c_binV op_rep r2_rep (SV.of_c (c_lst (vs_cons (SV.of_q (r := 0) q_int) vs_nil))) (SV.of_q (r := 0) (q_bin (ra := 0) (rb := 0) op_add (r2_int _) (q_name (i := 0)) q_int))) (nio rfl) hN) (ss_cons (s_set (i := 4) (c_binV op_rep r2_rep (SV.of_c (c_lst (vs_cons (SV.of_q (r := 0) q_non) vs_nil))) (SV.of_q (r := 0) (q_bin (ra := 0) (rb := 0) op_add (r2_int _) (q_name (i := 0)) q_int))) (nio rfl) hN) (ss_cons (s_for (si_range1 (SV.of_q (r := 0) (q_bin (ra := 0) (rb := 0) op_add (r2_int _) (q_name (i := 0)) q_int)) T.b_range) (g_name (i := 5) (nio rfl) hN) (ss_cons (s_if (t_cmpV op_isN r2_isN (SV.of_c (c_call (m := [none, some 3, some 4]) F_relaxed (hr.mono (by decide)) T.g_relaxed k_relaxed b_relaxed (as_val (v_name (i := 2)) (as_slot (j := 3) (as_slot (j := 4) as_nil))) rfl)) (SV.of_q (r := 0) q_non)) (ss_cons (s_ret (SC.of_v (SV.of_q (r := 0) q_non))) ss_nil) ss_nil) ss_nil) rfl) (ss_cons (s_set (i := 6) (SC.of_v (SV.of_c (c_call (m := [none, some 3, some 4]) F_relaxed (hr.mono (by decide)) T.g_relaxed k_relaxed b_relaxed (as_val (v_name (i := 2)) (as_slot (j := 3) (as_slot (j := 4) as_nil))) rfl))) (nio rfl) hN) (ss_cons (s_if (t_cmpQ (ra := 6) (rb := 0) op_isN r2_isN (q_name (i := 6)) q_non) (ss_cons (s_ret (SC.of_v (SV.of_q (r := 0) q_non))) ss_nil) ss_nil) (ss_cons (s_ret (c_call (m := [none, none]) F_ring_through (hr.mono (by decide)) T.g_ring_through k_ring_through b_ring_through (as_val (v_name (i := 4)) (as_val (v_name (i := 6)) as_nil)) rfl)) ss_nil)))))))
def sl_check_met : Scope := { kind := .function, names := [(("span" : PySem.Str), .local), (("claims" : PySem.Str), .local), (("ring" : PySem.Str), .local), (("bad_ring" : PySem.Str), .globalImplicit), (("Contrary" : PySem.Str), .globalImplicit)], isGenerator := false, isCoroutine := false, more := [] }
def al_check_met : Arguments := ⟨[], [⟨("span" : PySem.Str), none, ⟨144, 14, 144, 18⟩⟩, ⟨("claims" : PySem.Str), none, ⟨144, 20, 144, 26⟩⟩], none, [], [], none, []⟩
theorem ea_check_met : defArgs st_check_met = al_check_met := by kernel_rfl
theorem se_check_met : defScope st_check_met = sl_check_met := by kernel_rfl
theorem sc_check_met : FnScope [("span" : PySem.Str), ("claims" : PySem.Str), ("ring" : PySem.Str)] [("span" : PySem.Str), ("claims" : PySem.Str)] sl_check_met := ⟨rfl, rfl, rfl, by decide +kernel, rfl, by decide +kernel, by decide +kernel⟩
theorem ok_check_met (T : Tx P K mg) (O_bad_ring : FO_bad_ring P w K mg base) : FO_check_met P w K mg base := by
  intro fd F
  rw [se_check_met, ea_check_met] at F
  obtain ⟨fd_bad_ring, D_bad_ring⟩ := T.F_bad_ring
  obtain ⟨F_bad_ring, b_bad_ring, k_bad_ring⟩ := O_bad_ring fd_bad_ring D_bad_ring
  generalize hB : defBody st_check_met = B at F
  refine ⟨?_, F.bindsN fun _ _ _ _ _ _ us hl => match us, hl with | [_, _], _ => rfl, F.kp⟩
  refine fn_okD (lvl := 8) (n := 2) (N := [("span" : PySem.Str), ("claims" : PySem.Str), ("ring" : PySem.Str)]) (k := ⟨clK K, none, []⟩) (b := d_check_met) F sc_check_met rfl fun cdv A outer s H E hr => ?_
  have hN := sc_check_met.nd
  subst hB
  exact (ss_cons (s_set (i := 2) (SC.of_v (SV.of_c (c_call (m := [none, none]) F_bad_ring (hr.mono (by decide)) T.g_bad_ring k_bad_ring b_bad_ring (as_val (v_name (i := 0)) (as_val (v_name (i := 1)) as_nil)) rfl))) (nio rfl) hN) (ss_cons (s_if (t_cmpQ (ra := 2) (rb := 0) op_notN r2_notN (q_name (i := 2)) q_non) (ss_cons (s_raise1 (c := 8) rfl T.s_Contrary bd_ring T.file T.top T.g_Contrary hr (v_name (i := 2))) ss_nil) ss_nil) ss_nil))
def sl_nearest : Scope := { kind := .function, names := [(("span" : PySem.Str), .local), (("claims" : PySem.Str), .local), (("place" : PySem.Str), .local), (("lines" : PySem.Str), .local), (("sums" : PySem.Str), .local), (("lasts" : PySem.Str), .local), (("_" : PySem.Str), .local), (("arc_lines" : PySem.Str), .globalImplicit), (("range" : PySem.Str), .globalImplicit), (("relaxed" : PySem.Str), .globalImplicit)], isGenerator := false, isCoroutine := false, more := [] }
def al_nearest : Arguments := ⟨[], [⟨("span" : PySem.Str), none, ⟨148, 12, 148, 16⟩⟩, ⟨("claims" : PySem.Str), none, ⟨148, 18, 148, 24⟩⟩, ⟨("place" : PySem.Str), none, ⟨148, 26, 148, 31⟩⟩], none, [], [], none, []⟩
theorem ea_nearest : defArgs st_nearest = al_nearest := by kernel_rfl
theorem se_nearest : defScope st_nearest = sl_nearest := by kernel_rfl
theorem sc_nearest : FnScope [("span" : PySem.Str), ("claims" : PySem.Str), ("place" : PySem.Str), ("lines" : PySem.Str), ("sums" : PySem.Str), ("lasts" : PySem.Str), ("_" : PySem.Str)] [("span" : PySem.Str), ("claims" : PySem.Str), ("place" : PySem.Str)] sl_nearest := ⟨rfl, rfl, rfl, by decide +kernel, rfl, by decide +kernel, by decide +kernel⟩
theorem ok_nearest (T : Tx P K mg) (O_arc_lines : FO_arc_lines P w K mg base) (O_relaxed : FO_relaxed P w K mg base) : FO_nearest P w K mg base := by
  intro fd F
  rw [se_nearest, ea_nearest] at F
  obtain ⟨fd_arc_lines, D_arc_lines⟩ := T.F_arc_lines
  obtain ⟨F_arc_lines, b_arc_lines, k_arc_lines⟩ := O_arc_lines fd_arc_lines D_arc_lines
  obtain ⟨fd_relaxed, D_relaxed⟩ := T.F_relaxed
  obtain ⟨F_relaxed, b_relaxed, k_relaxed⟩ := O_relaxed fd_relaxed D_relaxed
  generalize hB : defBody st_nearest = B at F
  refine ⟨?_, F.bindsN fun _ _ _ _ _ _ us hl => match us, hl with | [_, _, _], _ => rfl, F.kp⟩
  refine fn_okD (lvl := 7) (n := 3) (N := [("span" : PySem.Str), ("claims" : PySem.Str), ("place" : PySem.Str), ("lines" : PySem.Str), ("sums" : PySem.Str), ("lasts" : PySem.Str), ("_" : PySem.Str)]) (k := ⟨clK K, none, []⟩) (b := d_nearest) F sc_nearest rfl fun cdv A outer s H E hr => ?_
  have hN := sc_nearest.nd
  subst hB
  exact (ss_cons (s_set (i := 3) (SC.of_v (SV.of_c (c_call (m := [none, none]) F_arc_lines (hr.mono (by decide)) T.g_arc_lines k_arc_lines b_arc_lines (as_val (v_name (i := 0)) (as_val (v_name (i := 1)) as_nil)) rfl))) (nio rfl) hN) (ss_cons (s_set (i := 4) (c_binV op_rep r2_rep (SV.of_c (c_lst (vs_cons (SV.of_q (r := 0) q_non) vs_nil))) (SV.of_q (r := 0) (q_bin (ra := 0) (rb := 0) op_add (r2_int _) (q_name (i := 0)) q_int))) (nio rfl) hN) (ss_cons (s_set (i := 5) (c_binV op_rep r2_rep (SV.of_c (c_lst (vs_cons (SV.of_q (r := 0) q_non) vs_nil))) (SV.of_q (r := 0) (q_bin (ra := 0) (rb := 0) op_add (r2_int _) (q_name (i := 0)) q_int))) (nio rfl) hN) (ss_cons (s_setIx (i := 4) (SV.of_q (r := 0) q_int) (v_name (i := 2))) (ss_cons (s_for (si_range1 (SV.of_q (r := 0) (q_bin (ra := 0) (rb := 0) op_add (r2_int _) (q_name (i := 0)) q_int)) T.b_range) (g_name (i := 6) (nio rfl) hN) (ss_cons (s_if (t_cmpV op_isN r2_isN (SV.of_c (c_call (m := [none, some 4, some 5]) F_relaxed (hr.mono (by decide)) T.g_relaxed k_relaxed b_relaxed (as_val (v_name (i := 3)) (as_slot (j := 4) (as_slot (j := 5) as_nil))) rfl)) (SV.of_q (r := 0) q_non)) (ss_cons s_break ss_nil) ss_nil) ss_nil) rfl) (ss_cons (s_ret (SC.of_v (v_tup (vs_cons (v_name (i := 4)) (vs_cons (v_name (i := 5)) vs_nil))))) ss_nil))))))
def sl_reach_table : Scope := { kind := .function, names := [(("span" : PySem.Str), .cell), (("claims" : PySem.Str), .cell), (("check_met" : PySem.Str), .globalImplicit), (("range" : PySem.Str), .globalImplicit)], isGenerator := false, isCoroutine := false, more := [(("fast" : PySem.Str), .str ("span" : PySem.Str)), (("fast" : PySem.Str), .str ("claims" : PySem.Str)), (("fast" : PySem.Str), .str ("place" : PySem.Str))] }
def al_reach_table : Arguments := ⟨[], [⟨("span" : PySem.Str), none, ⟨157, 16, 157, 20⟩⟩, ⟨("claims" : PySem.Str), none, ⟨157, 22, 157, 28⟩⟩], none, [], [], none, []⟩
theorem ea_reach_table : defArgs st_reach_table = al_reach_table := by kernel_rfl
theorem se_reach_table : defScope st_reach_table = sl_reach_table := by kernel_rfl
theorem sc_reach_table : FnScope [("span" : PySem.Str), ("claims" : PySem.Str), ("place" : PySem.Str)] [("span" : PySem.Str), ("claims" : PySem.Str)] sl_reach_table := ⟨rfl, rfl, rfl, by decide +kernel, rfl, by decide +kernel, by decide +kernel⟩
theorem ok_reach_table (T : Tx P K mg) (O_check_met : FO_check_met P w K mg base) (O_nearest : FO_nearest P w K mg base) : FO_reach_table P w K mg base := by
  intro fd F
  rw [se_reach_table, ea_reach_table] at F
  obtain ⟨fd_check_met, D_check_met⟩ := T.F_check_met
  obtain ⟨F_check_met, b_check_met, k_check_met⟩ := O_check_met fd_check_met D_check_met
  obtain ⟨fd_nearest, D_nearest⟩ := T.F_nearest
  obtain ⟨F_nearest, b_nearest, k_nearest⟩ := O_nearest fd_nearest D_nearest
  generalize hB : defBody st_reach_table = B at F
  refine ⟨?_, F.bindsN fun _ _ _ _ _ _ us hl => match us, hl with | [_, _], _ => rfl, F.kp⟩
  refine fn_okD (lvl := 9) (n := 2) (N := [("span" : PySem.Str), ("claims" : PySem.Str), ("place" : PySem.Str)]) (k := ⟨clK K, none, []⟩) (b := d_reach_table) F sc_reach_table rfl fun cdv A outer s H E hr => ?_
  have hN := sc_reach_table.nd
  subst hB
  exact (ss_cons (s_expr (SV.of_c (c_call (m := [none, none]) F_check_met (hr.mono (by decide)) T.g_check_met k_check_met b_check_met (as_val (v_name (i := 0)) (as_val (v_name (i := 1)) as_nil)) rfl))) (ss_cons (s_ret (c_lc (own := [(("place" : PySem.Str), 2)]) rfl hN (si_range1 (SV.of_q (r := 0) (q_bin (ra := 0) (rb := 0) op_add (r2_int _) (q_name (i := 0)) q_int)) T.b_range) (blkOk_by (N := [("span" : PySem.Str), ("claims" : PySem.Str), ("place" : PySem.Str)]) (sc := sl_reach_table) (by decide +kernel)) (fun _ _ _ _ _ => (g_name (i := 2) (nio rfl) hN)) (fun _ _ _ _ _ => ts_nil) (fun _ _ _ _ _ => (v_ix (SV.of_c (c_call (m := [none, none, none]) F_nearest (hr.mono (by decide)) T.g_nearest k_nearest b_nearest (as_val (v_name (i := 0)) (as_val (v_name (i := 1)) (as_val (v_name (i := 2)) as_nil))) rfl)) (SV.of_q (r := 0) q_int))))) ss_nil))
def sl__law_raised_ring : Scope := { kind := .function, names := [(("span" : PySem.Str), .local), (("claims" : PySem.Str), .local), (("raised" : PySem.Str), .local), (("reach_table" : PySem.Str), .globalImplicit), (("Contrary" : PySem.Str), .globalImplicit)], isGenerator := false, isCoroutine := false, more := [] }
def al__law_raised_ring : Arguments := ⟨[], [⟨("span" : PySem.Str), none, ⟨317, 21, 317, 25⟩⟩, ⟨("claims" : PySem.Str), none, ⟨317, 27, 317, 33⟩⟩], none, [], [], none, []⟩
theorem ea__law_raised_ring : defArgs st__law_raised_ring = al__law_raised_ring := by kernel_rfl
theorem se__law_raised_ring : defScope st__law_raised_ring = sl__law_raised_ring := by kernel_rfl
theorem sc__law_raised_ring : FnScope [("span" : PySem.Str), ("claims" : PySem.Str), ("raised" : PySem.Str)] [("span" : PySem.Str), ("claims" : PySem.Str)] sl__law_raised_ring := ⟨rfl, rfl, rfl, by decide +kernel, rfl, by decide +kernel, by decide +kernel⟩
theorem ok__law_raised_ring (T : Tx P K mg) (O_reach_table : FO_reach_table P w K mg base) : FO__law_raised_ring P w K mg base := by
  intro fd F
  rw [se__law_raised_ring, ea__law_raised_ring] at F
  obtain ⟨fd_reach_table, D_reach_table⟩ := T.F_reach_table
  obtain ⟨F_reach_table, b_reach_table, k_reach_table⟩ := O_reach_table fd_reach_table D_reach_table
  generalize hB : defBody st__law_raised_ring = B at F
  refine ⟨?_, F.bindsN fun _ _ _ _ _ _ us hl => match us, hl with | [_, _], _ => rfl, F.kp⟩
  refine fn_okD (lvl := 10) (n := 2) (N := [("span" : PySem.Str), ("claims" : PySem.Str), ("raised" : PySem.Str)]) (k := ⟨clK K, none, []⟩) (b := d__law_raised_ring) F sc__law_raised_ring rfl fun cdv A outer s H E hr => ?_
  have hN := sc__law_raised_ring.nd
  subst hB
  exact (ss_cons (s_tryAs (i := 2) (h := nio rfl) rfl rfl hN rfl rfl ⟨rfl, by decide, .inl T.g_Contrary⟩ T.t_Contrary (fun pn xe => (ss_cons (s_expr (SV.of_c (c_call (m := [none, none]) F_reach_table (hr.mono (by decide)) T.g_reach_table k_reach_table b_reach_table (as_val (v_name (i := 0)) (as_val (v_name (i := 1)) as_nil)) rfl))) ss_nil)) (fun a oe cls d pn hz hd => (ss_cons (s_ret (SC.of_v (SV.of_q (r := 0) (q_exF (c := 8) (i := 2) T.s_Contrary hz hd rfl)))) ss_nil))) (ss_cons (s_ret (SC.of_v (SV.of_q (r := 0) q_non))) ss_nil))
def sl__law_says : Scope := { kind := .function, names := [(("actual" : PySem.Str), .local), (("due" : PySem.Str), .local), (("isinstance" : PySem.Str), .globalImplicit), (("bool" : PySem.Str), .globalImplicit)], isGenerator := false, isCoroutine := false, more := [] }
def al__law_says : Arguments := ⟨[], [⟨("actual" : PySem.Str), none, ⟨228, 14, 228, 20⟩⟩, ⟨("due" : PySem.Str), none, ⟨228, 22, 228, 25⟩⟩], none, [], [], none, []⟩
theorem ea__law_says : defArgs st__law_says = al__law_says := by kernel_rfl
theorem se__law_says : defScope st__law_says = sl__law_says := by kernel_rfl
theorem sc__law_says : FnScope [("actual" : PySem.Str), ("due" : PySem.Str)] [("actual" : PySem.Str), ("due" : PySem.Str)] sl__law_says := ⟨rfl, rfl, rfl, by decide +kernel, rfl, by decide +kernel, by decide +kernel⟩
theorem ok__law_says (T : Tx P K mg)  : FO__law_says P w K mg base := by
  intro fd F
  rw [se__law_says, ea__law_says] at F
  generalize hB : defBody st__law_says = B at F
  refine ⟨?_, F.bindsN fun _ _ _ _ _ _ us hl => match us, hl with | [_, _], _ => rfl, F.kp⟩
  refine fn_okD (lvl := 2) (n := 2) (N := [("actual" : PySem.Str), ("due" : PySem.Str)]) (k := ⟨clK K, none, []⟩) (b := d__law_says) F sc__law_says rfl fun cdv A outer s H E hr => ?_
  have hN := sc__law_says.nd
  subst hB
  exact (ss_cons (s_ret (SC.of_v (v_and (SV.of_q (r := 0) (q_isi (ra := 0) .bool T.b_isinstance T.b_bool (by decide +kernel) (q_name (i := 0)))) (v_one (SV.of_q (r := 0) (q_cmp (ra := 0) (rb := 1) (op_eqF hr.units) r2_eq (q_name (i := 0)) (q_name (i := 1)))))))) ss_nil)
def sl_is_arc : Scope := { kind := .function, names := [(("span" : PySem.Str), .local), (("claims" : PySem.Str), .local), (("arc" : PySem.Str), .local), (("isinstance" : PySem.Str), .globalImplicit), (("tuple" : PySem.Str), .globalImplicit), (("len" : PySem.Str), .globalImplicit), (("str" : PySem.Str), .globalImplicit), (("ARC_WORDS" : PySem.Str), .globalImplicit), (("is_whole" : PySem.Str), .globalImplicit)], isGenerator := false, isCoroutine := false, more := [] }
def al_is_arc : Arguments := ⟨[], [⟨("span" : PySem.Str), none, ⟨54, 11, 54, 15⟩⟩, ⟨("claims" : PySem.Str), none, ⟨54, 17, 54, 23⟩⟩, ⟨("arc" : PySem.Str), none, ⟨54, 25, 54, 28⟩⟩], none, [], [], none, []⟩
theorem ea_is_arc : defArgs st_is_arc = al_is_arc := by kernel_rfl
theorem se_is_arc : defScope st_is_arc = sl_is_arc := by kernel_rfl
theorem sc_is_arc : FnScope [("span" : PySem.Str), ("claims" : PySem.Str), ("arc" : PySem.Str)] [("span" : PySem.Str), ("claims" : PySem.Str), ("arc" : PySem.Str)] sl_is_arc := ⟨rfl, rfl, rfl, by decide +kernel, rfl, by decide +kernel, by decide +kernel⟩
theorem ok_is_arc (T : Tx P K mg) (O_is_whole : FO_is_whole P w K mg base) : FO_is_arc P w K mg base := by
  intro fd F
  rw [se_is_arc, ea_is_arc] at F
  obtain ⟨fd_is_whole, D_is_whole⟩ := T.F_is_whole
  obtain ⟨F_is_whole, b_is_whole, k_is_whole⟩ := O_is_whole fd_is_whole D_is_whole
  generalize hB : defBody st_is_arc = B at F
  refine ⟨?_, F.bindsN fun _ _ _ _ _ _ us hl => match us, hl with | [_, _, _], _ => rfl, F.kp⟩
  refine fn_okD (lvl := 3) (n := 3) (N := [("span" : PySem.Str), ("claims" : PySem.Str), ("arc" : PySem.Str)]) (k := ⟨clK K, none, []⟩) (b := d_is_arc) F sc_is_arc rfl fun cdv A outer s H E hr => ?_
  have hN := sc_is_arc.nd
  subst hB
  exact (ss_cons (s_if (ST.of_w (w_or (t_not (ST.of_v (SV.of_q (r := 0) (q_isi (ra := 2) .tuple T.b_isinstance T.b_tuple (by decide +kernel) (q_name (i := 2)))))) (w_or1 (t_cmpQ (ra := 0) (rb := 0) (op_neF hr.units) r2_ne (q_call1 (ra := 2) call_len c1_len T.b_len PySem.boot_len (q_name (i := 2))) q_int)))) (ss_cons (s_ret (SC.of_v (SV.of_q (r := 0) q_bl))) ss_nil) ss_nil) (ss_cons (s_if (ST.of_w (w_or (t_not (ST.of_v (SV.of_q (r := 0) (q_isi (ra := 0) .str T.b_isinstance T.b_str (by decide +kernel) (q_ix (ra := 2) (rb := 0) (q_name (i := 2)) q_int))))) (w_or (t_cmpQ (ra := 0) (rb := 0) op_notIn_seq r2_notIn (q_ix (ra := 2) (rb := 0) (q_name (i := 2)) q_int) (q_glob (v := .ref (He.ga K ("ARC_WORDS" : PySem.Str))) rfl T.c_ARC_WORDS rfl (T.d_ARC_WORDS _))) (w_or1 (t_not (ST.of_v (SV.of_c (c_call (m := [none]) F_is_whole (hr.mono (by decide)) T.g_is_whole k_is_whole b_is_whole (as_val (SV.of_q (r := 0) (q_ix (ra := 2) (rb := 0) (q_name (i := 2)) q_int)) as_nil) rfl)))))))) (ss_cons (s_ret (SC.of_v (SV.of_q (r := 0) q_bl))) ss_nil) ss_nil) (ss_cons (s_if (t_cmpV op_in_seq r2_in (SV.of_q (r := 0) (q_ix (ra := 2) (rb := 0) (q_name (i := 2)) q_int)) (v_tup (vs_cons (SV.of_q (r := 0) q_str) (vs_cons (SV.of_q (r := 0) q_str) vs_nil)))) (ss_cons (s_ret (SC.of_v (v_and (SV.of_q (r := 0) (q_cmp (ra := 0) (rb := 0) op_le (r2_bool _) q_int (q_ix (ra := 2) (rb := 0) (q_name (i := 2)) q_int))) (v_one (SV.of_q (r := 0) (q_cmp (ra := 0) (rb := 0) op_lt (r2_bool _) (q_ix (ra := 2) (rb := 0) (q_name (i := 2)) q_int) (q_name (i := 0)))))))) ss_nil) ss_nil) (ss_cons (s_ret (SC.of_v (v_and (SV.of_q (r := 0) (q_cmp (ra := 0) (rb := 0) op_le (r2_bool _) q_int (q_ix (ra := 2) (rb := 0) (q_name (i := 2)) q_int))) (v_one (SV.of_q (r := 0) (q_cmp (ra := 0) (rb := 0) op_lt (r2_bool _) (q_ix (ra := 2) (rb := 0) (q_name (i := 2)) q_int) (q_call1 (ra := 1) call_len c1_len T.b_len PySem.boot_len (q_name (i := 1))))))))) ss_nil))))
def sl_way_line : Scope := { kind := .function, names := [(("span" : PySem.Str), .local), (("claims" : PySem.Str), .local), (("way" : PySem.Str), .local), (("start" : PySem.Str), .local), (("end" : PySem.Str), .local), (("total" : PySem.Str), .local), (("at" : PySem.Str), .local), (("arc" : PySem.Str), .local), (("begins" : PySem.Str), .local), (("ends" : PySem.Str), .local), (("cost" : PySem.Str), .local), (("check_claims" : PySem.Str), .globalImplicit), (("isinstance" : PySem.Str), .globalImplicit), (("list" : PySem.Str), .globalImplicit), (("tuple" : PySem.Str), .globalImplicit), (("len" : PySem.Str), .globalImplicit), (("BadArc" : PySem.Str), .globalImplicit), (("enumerate" : PySem.Str), .globalImplicit), (("is_arc" : PySem.Str), .globalImplicit), (("arc_line" : PySem.Str), .globalImplicit)], isGenerator := false, isCoroutine := false, more := [] }
def al_way_line : Arguments := ⟨[], [⟨("span" : PySem.Str), none, ⟨72, 13, 72, 17⟩⟩, ⟨("claims" : PySem.Str), none, ⟨72, 19, 72, 25⟩⟩, ⟨("way" : PySem.Str), none, ⟨72, 27, 72, 30⟩⟩], none, [], [], none, []⟩
theorem ea_way_line : defArgs st_way_line = al_way_line := by kernel_rfl
theorem se_way_line : defScope st_way_line = sl_way_line := by kernel_rfl
theorem sc_way_line : FnScope [("span" : PySem.Str), ("claims" : PySem.Str), ("way" : PySem.Str), ("start" : PySem.Str), ("end" : PySem.Str), ("total" : PySem.Str), ("at" : PySem.Str), ("arc" : PySem.Str), ("begins" : PySem.Str), ("ends" : PySem.Str), ("cost" : PySem.Str)] [("span" : PySem.Str), ("claims" : PySem.Str), ("way" : PySem.Str)] sl_way_line := ⟨rfl, rfl, rfl, by decide +kernel, rfl, by decide +kernel, by decide +kernel⟩
theorem ok_way_line (T : Tx P K mg) (O_arc_line : FO_arc_line P w K mg base) (O_check_claims : FO_check_claims P w K mg base) (O_is_arc : FO_is_arc P w K mg base) : FO_way_line P w K mg base := by
  intro fd F
  rw [se_way_line, ea_way_line] at F
  obtain ⟨fd_arc_line, D_arc_line⟩ := T.F_arc_line
  obtain ⟨F_arc_line, b_arc_line, k_arc_line⟩ := O_arc_line fd_arc_line D_arc_line
  obtain ⟨fd_check_claims, D_check_claims⟩ := T.F_check_claims
  obtain ⟨F_check_claims, b_check_claims, k_check_claims⟩ := O_check_claims fd_check_claims D_check_claims
  obtain ⟨fd_is_arc, D_is_arc⟩ := T.F_is_arc
  obtain ⟨F_is_arc, b_is_arc, k_is_arc⟩ := O_is_arc fd_is_arc D_is_arc
  generalize hB : defBody st_way_line = B at F
  refine ⟨?_, F.bindsN fun _ _ _ _ _ _ us hl => match us, hl with | [_, _, _], _ => rfl, F.kp⟩
  refine fn_okD (lvl := 5) (n := 3) (N := [("span" : PySem.Str), ("claims" : PySem.Str), ("way" : PySem.Str), ("start" : PySem.Str), ("end" : PySem.Str), ("total" : PySem.Str), ("at" : PySem.Str), ("arc" : PySem.Str), ("begins" : PySem.Str), ("ends" : PySem.Str), ("cost" : PySem.Str)]) (k := ⟨clK K, none, []⟩) (b := d_way_line) F sc_way_line rfl fun cdv A outer s H E hr => ?_
  have hN := sc_way_line.nd
  subst hB
  exact (ss_cons (s_expr (SV.of_c (c_call (m := [none, none]) F_check_claims (hr.mono (by decide)) T.g_check_claims k_check_claims b_check_claims (as_val (v_name (i := 0)) (as_val (v_name (i := 1)) as_nil)) rfl))) (ss_cons (s_if (ST.of_w (w_or (t_not (ST.of_v (v_isi2 (ra := 2) .list .tuple T.b_isinstance T.b_list (by decide +kernel) T.b_tuple (by decide +kernel) (q_name (i := 2))))) (w_or1 (t_cmpQ (ra := 0) (rb := 0) (op_eqF hr.units) r2_eq (q_call1 (ra := 2) call_len c1_len T.b_len PySem.boot_len (q_name (i := 2))) q_int)))) (ss_cons (s_raise1 (c := 6) rfl T.s_BadArc bd_place T.file T.top T.g_BadArc hr (SV.of_q (r := 0) q_int)) ss_nil) ss_nil) (ss_cons (s_set (i := 3) (SC.of_v (SV.of_q (r := 0) q_non)) (nio rfl) hN) (ss_cons (s_set (i := 4) (SC.of_v (SV.of_q (r := 0) q_non)) (nio rfl) hN) (ss_cons (s_set (i := 5) (SC.of_v (SV.of_q (r := 0) q_int)) (nio rfl) hN) (ss_cons (s_for (si_enum (v_name (i := 2)) T.b_enumerate) (g_tup rfl (gs_cons (g_name (i := 6) (nio rfl) hN) (gs_cons (g_name (i := 7) (nio rfl) hN) gs_nil))) (ss_cons (s_if (t_not (ST.of_v (SV.of_c (c_call (m := [none, none, none]) F_is_arc (hr.mono (by decide)) T.g_is_arc k_is_arc b_is_arc (as_val (v_name (i := 0)) (as_val (v_name (i := 1)) (as_val (v_name (i := 7)) as_nil))) rfl)))) (ss_cons (s_raise1 (c := 6) rfl T.s_BadArc bd_place T.file T.top T.g_BadArc hr (v_name (i := 6))) ss_nil) ss_nil) (ss_cons (s_asg (SV.of_c (c_call (m := [none, none]) F_arc_line (hr.mono (by decide)) T.g_arc_line k_arc_line b_arc_line (as_val (v_name (i := 1)) (as_val (v_name (i := 7)) as_nil)) rfl)) (g_tup rfl (gs_cons (g_name (i := 8) (nio rfl) hN) (gs_cons (g_name (i := 9) (nio rfl) hN) (gs_cons (g_name (i := 10) (nio rfl) hN) gs_nil))))) (ss_cons (s_if (ST.of_w (w_and (t_cmpQ (ra := 4) (rb := 0) op_notN r2_notN (q_name (i := 4)) q_non) (w_and1 (t_cmpQ (ra := 8) (rb := 4) (op_neF hr.units) r2_ne (q_name (i := 8)) (q_name (i := 4)))))) (ss_cons (s_raise1 (c := 6) rfl T.s_BadArc bd_place T.file T.top T.g_BadArc hr (v_name (i := 6))) ss_nil) ss_nil) (ss_cons (s_if (t_cmpQ (ra := 3) (rb := 0) op_isN r2_isN (q_name (i := 3)) q_non) (ss_cons (s_set (i := 3) (SC.of_v (v_name (i := 8))) (nio rfl) hN) ss_nil) ss_nil) (ss_cons (s_set (i := 4) (SC.of_v (v_name (i := 9))) (nio rfl) hN) (ss_cons (s_aug (i := 5) iop_add (r2_int _) (v_name (i := 10)) (nio rfl) hN) ss_nil)))))) rfl) (ss_cons (s_ret (SC.of_v (v_tup (vs_cons (v_name (i := 3)) (vs_cons (v_name (i := 4)) (vs_cons (v_name (i := 5)) vs_nil)))))) ss_nil)))))))
def sl_shows_contrary : Scope := { kind := .function, names := [(("span" : PySem.Str), .local), (("claims" : PySem.Str), .local), (("ring" : PySem.Str), .local), (("start" : PySem.Str), .local), (("end" : PySem.Str), .local), (("total" : PySem.Str), .local), (("check_claims" : PySem.Str), .globalImplicit), (("way_line" : PySem.Str), .globalImplicit), (("BadArc" : PySem.Str), .globalImplicit)], isGenerator := false, isCoroutine := false, more := [] }
def al_shows_contrary : Arguments := ⟨[], [⟨("span" : PySem.Str), none, ⟨90, 19, 90, 23⟩⟩, ⟨("claims" : PySem.Str), none, ⟨90, 25, 90, 31⟩⟩, ⟨("ring" : PySem.Str), none, ⟨90, 33, 90, 37⟩⟩], none, [], [], none, []⟩
theorem ea_shows_contrary : defArgs st_shows_contrary = al_shows_contrary := by kernel_rfl
theorem se_shows_contrary : defScope st_shows_contrary = sl_shows_contrary := by kernel_rfl
theorem sc_shows_contrary : FnScope [("span" : PySem.Str), ("claims" : PySem.Str), ("ring" : PySem.Str), ("start" : PySem.Str), ("end" : PySem.Str), ("total" : PySem.Str)] [("span" : PySem.Str), ("claims" : PySem.Str), ("ring" : PySem.Str)] sl_shows_contrary := ⟨rfl, rfl, rfl, by decide +kernel, rfl, by decide +kernel, by decide +kernel⟩
theorem ok_shows_contrary (T : Tx P K mg) (O_check_claims : FO_check_claims P w K mg base) (O_way_line : FO_way_line P w K mg base) : FO_shows_contrary P w K mg base := by
  intro fd F
  rw [se_shows_contrary, ea_shows_contrary] at F
  obtain ⟨fd_check_claims, D_check_claims⟩ := T.F_check_claims
  obtain ⟨F_check_claims, b_check_claims, k_check_claims⟩ := O_check_claims fd_check_claims D_check_claims
  obtain ⟨fd_way_line, D_way_line⟩ := T.F_way_line
  obtain ⟨F_way_line, b_way_line, k_way_line⟩ := O_way_line fd_way_line D_way_line
  generalize hB : defBody st_shows_contrary = B at F
  refine ⟨?_, F.bindsN fun _ _ _ _ _ _ us hl => match us, hl with | [_, _, _], _ => rfl, F.kp⟩
  refine fn_okD (lvl := 6) (n := 3) (N := [("span" : PySem.Str), ("claims" : PySem.Str), ("ring" : PySem.Str), ("start" : PySem.Str), ("end" : PySem.Str), ("total" : PySem.Str)]) (k := ⟨clK K, none, []⟩) (b := d_shows_contrary) F sc_shows_contrary rfl fun cdv A outer s H E hr => ?_
  have hN := sc_shows_contrary.nd
  subst hB
  exact (ss_cons (s_expr (SV.of_c (c_call (m := [none, none]) F_check_claims (hr.mono (by decide)) T.g_check_claims k_check_claims b_check_claims (as_val (v_name (i := 0)) (as_val (v_name (i := 1)) as_nil)) rfl))) (ss_cons (s_try rfl rfl ⟨rfl, by decide, .inl T.g_BadArc⟩ T.t_BadArc (fun pn xe => (ss_cons (s_asg (SV.of_c (c_call (m := [none, none, none]) F_way_line (hr.mono (by decide)) T.g_way_line k_way_line b_way_line (as_val (v_name (i := 0)) (as_val (v_name (i := 1)) (as_val (v_name (i := 2)) as_nil))) rfl)) (g_tup rfl (gs_cons (g_name (i := 3) (nio rfl) hN) (gs_cons (g_name (i := 4) (nio rfl) hN) (gs_cons (g_name (i := 5) (nio rfl) hN) gs_nil))))) ss_nil)) (fun a oe pn => (ss_cons (s_ret (SC.of_v (SV.of_q (r := 0) q_bl))) ss_nil))) (ss_cons (s_ret (SC.of_v (v_and (SV.of_q (r := 0) (q_cmp (ra := 3) (rb := 4) (op_eqF hr.units) r2_eq (q_name (i := 3)) (q_name (i := 4)))) (v_one (SV.of_q (r := 0) (q_cmp (ra := 5) (rb := 0) op_lt (r2_bool _) (q_name (i := 5)) q_int)))))) ss_nil)))
def sl__law_lines : Scope := { kind := .function, names := [(("span" : PySem.Str), .local), (("claims" : PySem.Str), .local), (("k" : PySem.Str), .local), (("lines" : PySem.Str), .local), (("claim" : PySem.Str), .local), (("range" : PySem.Str), .globalImplicit), (("enumerate" : PySem.Str), .globalImplicit)], isGenerator := false, isCoroutine := false, more := [(("fast" : PySem.Str), .str ("span" : PySem.Str)), (("fast" : PySem.Str), .str ("claims" : PySem.Str)), (("fast" : PySem.Str), .str ("k" : PySem.Str)), (("fast" : PySem.Str), .str ("lines" : PySem.Str)), (("fast" : PySem.Str), .str ("claim" : PySem.Str))] }
def al__law_lines : Arguments := ⟨[], [⟨("span" : PySem.Str), none, ⟨271, 15, 271, 19⟩⟩, ⟨("claims" : PySem.Str), none, ⟨271, 21, 271, 27⟩⟩], none, [], [], none, []⟩
theorem ea__law_lines : defArgs st__law_lines = al__law_lines := by kernel_rfl
theorem se__law_lines : defScope st__law_lines = sl__law_lines := by kernel_rfl
theorem sc__law_lines : FnScope [("span" : PySem.Str), ("claims" : PySem.Str), ("lines" : PySem.Str), ("k" : PySem.Str), ("claim" : PySem.Str)] [("span" : PySem.Str), ("claims" : PySem.Str)] sl__law_lines := ⟨rfl, rfl, rfl, by decide +kernel, rfl, by decide +kernel, by decide +kernel⟩
theorem ok__law_lines (T : Tx P K mg)  : FO__law_lines P w K mg base := by
  intro fd F
  rw [se__law_lines, ea__law_lines] at F
  generalize hB : defBody st__law_lines = B at F
  refine ⟨?_, F.bindsN fun _ _ _ _ _ _ us hl => match us, hl with | [_, _], _ => rfl, F.kp⟩
  refine fn_okD (lvl := 2) (n := 2) (N := [("span" : PySem.Str), ("claims" : PySem.Str), ("lines" : PySem.Str), ("k" : PySem.Str), ("claim" : PySem.Str)]) (k := ⟨clK K, none, []⟩) (b := d__law_lines) F sc__law_lines rfl fun cdv A outer s H E hr => ?_
  have hN := sc__law_lines.nd
  subst hB
  exact (ss_cons (s_setLc (i := 2) (own := [(("k" : PySem.Str), 3)]) rfl hN (si_range1 (v_name (i := 0)) T.b_range) (blkOk_by (N := [("span" : PySem.Str), ("claims" : PySem.Str), ("lines" : PySem.Str), ("k" : PySem.Str), ("claim" : PySem.Str)]) (sc := sl__law_lines) (by decide +kernel)) (fun _ _ _ _ _ => (g_name (i := 3) (nio rfl) hN)) (fun _ _ _ _ _ => ts_nil) (fun _ _ _ _ _ => (v_tup (vs_cons (v_tup (vs_cons (SV.of_q (r := 0) q_str) (vs_cons (v_name (i := 3)) vs_nil))) (vs_cons (v_name (i := 3)) (vs_cons (SV.of_q (r := 0) (q_bin (ra := 3) (rb := 0) op_add (r2_int _) (q_name (i := 3)) q_int)) (vs_cons (SV.of_q (r := 0) q_int) vs_nil)))))) (sw_true rfl rfl rfl (by decide +kernel))) (ss_cons (s_for (si_range1 (v_name (i := 0)) T.b_range) (g_name (i := 3) (nio rfl) hN) (ss_cons (s_expr (v_append (i := 2) (v_tup (vs_cons (v_tup (vs_cons (SV.of_q (r := 0) q_str) (vs_cons (v_name (i := 3)) vs_nil))) (vs_cons (SV.of_q (r := 0) (q_bin (ra := 3) (rb := 0) op_add (r2_int _) (q_name (i := 3)) q_int)) (vs_cons (v_name (i := 3)) (vs_cons (SV.of_q (r := 0) q_int) vs_nil))))))) ss_nil) rfl) (ss_cons (s_for (si_enum (v_name (i := 1)) T.b_enumerate) (g_tup rfl (gs_cons (g_name (i := 3) (nio rfl) hN) (gs_cons (g_name (i := 4) (nio rfl) hN) gs_nil))) (ss_cons (s_expr (v_append (i := 2) (v_tup (vs_cons (v_tup (vs_cons (SV.of_q (r := 0) q_str) (vs_cons (v_name (i := 3)) vs_nil))) (vs_cons (SV.of_q (r := 0) (q_ix (ra := 4) (rb := 0) (q_name (i := 4)) q_int)) (vs_cons (SV.of_q (r := 0) (q_ix (ra := 4) (rb := 0) (q_name (i := 4)) q_int)) (vs_cons (SV.of_q (r := 0) (q_ix (ra := 4) (rb := 0) (q_name (i := 4)) q_int)) vs_nil))))))) (ss_cons (s_expr (v_append (i := 2) (v_tup (vs_cons (v_tup (vs_cons (SV.of_q (r := 0) q_str) (vs_cons (v_name (i := 3)) vs_nil))) (vs_cons (SV.of_q (r := 0) (q_ix (ra := 4) (rb := 0) (q_name (i := 4)) q_int)) (vs_cons (SV.of_q (r := 0) (q_ix (ra := 4) (rb := 0) (q_name (i := 4)) q_int)) (vs_cons (SV.of_q (r := 0) (q_neg (ra := 0) (q_ix (ra := 4) (rb := 0) (q_name (i := 4)) q_int))) vs_nil))))))) ss_nil)) rfl) (ss_cons (s_ret (c_name (i := 2))) ss_nil))))
def sl__law_is_integer : Scope := { kind := .function, names := [(("actual" : PySem.Str), .local), (("isinstance" : PySem.Str), .globalImplicit), (("int" : PySem.Str), .globalImplicit), (("bool" : PySem.Str), .globalImplicit)], isGenerator := false, isCoroutine := false, more := [] }
def al__law_is_integer : Arguments := ⟨[], [⟨("actual" : PySem.Str), none, ⟨226, 20, 226, 26⟩⟩], none, [], [], none, []⟩
theorem ea__law_is_integer : defArgs st__law_is_integer = al__law_is_integer := by kernel_rfl
theorem se__law_is_integer : defScope st__law_is_integer = sl__law_is_integer := by kernel_rfl
theorem sc__law_is_integer : FnScope [("actual" : PySem.Str)] [("actual" : PySem.Str)] sl__law_is_integer := ⟨rfl, rfl, rfl, by decide +kernel, rfl, by decide +kernel, by decide +kernel⟩
theorem ok__law_is_integer (T : Tx P K mg)  : FO__law_is_integer P w K mg base := by
  intro fd F
  rw [se__law_is_integer, ea__law_is_integer] at F
  generalize hB : defBody st__law_is_integer = B at F
  refine ⟨?_, F.bindsN fun _ _ _ _ _ _ us hl => match us, hl with | [_], _ => rfl, F.kp⟩
  refine fn_okD (lvl := 2) (n := 1) (N := [("actual" : PySem.Str)]) (k := ⟨clK K, none, []⟩) (b := d__law_is_integer) F sc__law_is_integer rfl fun cdv A outer s H E hr => ?_
  have hN := sc__law_is_integer.nd
  subst hB
  exact (ss_cons (s_ret (SC.of_v (v_and (SV.of_q (r := 0) (q_isi (ra := 0) .int T.b_isinstance T.b_int (by decide +kernel) (q_name (i := 0)))) (v_one (v_not (SV.of_q (r := 0) (q_isi (ra := 0) .bool T.b_isinstance T.b_bool (by decide +kernel) (q_name (i := 0))))))))) ss_nil)
def sl__law_is_arc : Scope := { kind := .function, names := [(("arc" : PySem.Str), .local), (("isinstance" : PySem.Str), .globalImplicit), (("tuple" : PySem.Str), .globalImplicit), (("len" : PySem.Str), .globalImplicit), (("str" : PySem.Str), .globalImplicit), (("_law_is_integer" : PySem.Str), .globalImplicit)], isGenerator := false, isCoroutine := false, more := [] }
def al__law_is_arc : Arguments := ⟨[], [⟨("arc" : PySem.Str), none, ⟨279, 16, 279, 19⟩⟩], none, [], [], none, []⟩
theorem ea__law_is_arc : defArgs st__law_is_arc = al__law_is_arc := by kernel_rfl
theorem se__law_is_arc : defScope st__law_is_arc = sl__law_is_arc := by kernel_rfl
theorem sc__law_is_arc : FnScope [("arc" : PySem.Str)] [("arc" : PySem.Str)] sl__law_is_arc := ⟨rfl, rfl, rfl, by decide +kernel, rfl, by decide +kernel, by decide +kernel⟩
theorem ok__law_is_arc (T : Tx P K mg) (O__law_is_integer : FO__law_is_integer P w K mg base) : FO__law_is_arc P w K mg base := by
  intro fd F
  rw [se__law_is_arc, ea__law_is_arc] at F
  obtain ⟨fd__law_is_integer, D__law_is_integer⟩ := T.F__law_is_integer
  obtain ⟨F__law_is_integer, b__law_is_integer, k__law_is_integer⟩ := O__law_is_integer fd__law_is_integer D__law_is_integer
  generalize hB : defBody st__law_is_arc = B at F
  refine ⟨?_, F.bindsN fun _ _ _ _ _ _ us hl => match us, hl with | [_], _ => rfl, F.kp⟩
  refine fn_okD (lvl := 3) (n := 1) (N := [("arc" : PySem.Str)]) (k := ⟨clK K, none, []⟩) (b := d__law_is_arc) F sc__law_is_arc rfl fun cdv A outer s H E hr => ?_
  have hN := sc__law_is_arc.nd
  subst hB
  exact (ss_cons (s_if (ST.of_w (w_or (t_not (ST.of_v (SV.of_q (r := 0) (q_isi (ra := 0) .tuple T.b_isinstance T.b_tuple (by decide +kernel) (q_name (i := 0)))))) (w_or1 (t_cmpQ (ra := 0) (rb := 0) (op_neF hr.units) r2_ne (q_call1 (ra := 0) call_len c1_len T.b_len PySem.boot_len (q_name (i := 0))) q_int)))) (ss_cons (s_ret (SC.of_v (SV.of_q (r := 0) q_bl))) ss_nil) ss_nil) (ss_cons (s_ret (SC.of_v (v_and (SV.of_q (r := 0) (q_isi (ra := 0) .str T.b_isinstance T.b_str (by decide +kernel) (q_ix (ra := 0) (rb := 0) (q_name (i := 0)) q_int))) (v_one (SV.of_c (c_call (m := [none]) F__law_is_integer (hr.mono (by decide)) T.g__law_is_integer k__law_is_integer b__law_is_integer (as_val (SV.of_q (r := 0) (q_ix (ra := 0) (rb := 0) (q_name (i := 0)) q_int)) as_nil) rfl)))))) ss_nil))
def sl__law_line : Scope := { kind := .function, names := [(("span" : PySem.Str), .local), (("claims" : PySem.Str), .local), (("way" : PySem.Str), .local), (("lines" : PySem.Str), .local), (("first" : PySem.Str), .local), (("place" : PySem.Str), .local), (("total" : PySem.Str), .local), (("arc" : PySem.Str), .cell), (("fits" : PySem.Str), .local), (("isinstance" : PySem.Str), .globalImplicit), (("list" : PySem.Str), .globalImplicit), (("tuple" : PySem.Str), .globalImplicit), (("_law_lines" : PySem.Str), .globalImplicit), (("_law_is_arc" : PySem.Str), .globalImplicit), (("len" : PySem.Str), .globalImplicit)], isGenerator := false, isCoroutine := false, more := [(("fast" : PySem.Str), .str ("span" : PySem.Str)), (("fast" : PySem.Str), .str ("claims" : PySem.Str)), (("fast" : PySem.Str), .str ("way" : PySem.Str)), (("fast" : PySem.Str), .str ("lines" : PySem.Str)), (("fast" : PySem.Str), .str ("first" : PySem.Str)), (("fast" : PySem.Str), .str ("place" : PySem.Str)), (("fast" : PySem.Str), .str ("total" : PySem.Str)), (("fast" : PySem.Str), .str ("arc" : PySem.Str)), (("fast" : PySem.Str), .str ("line" : PySem.Str)), (("fast" : PySem.Str), .str ("fits" : PySem.Str))] }
def al__law_line : Arguments := ⟨[], [⟨("span" : PySem.Str), none, ⟨283, 14, 283, 18⟩⟩, ⟨("claims" : PySem.Str), none, ⟨283, 20, 283, 26⟩⟩, ⟨("way" : PySem.Str), none, ⟨283, 28, 283, 31⟩⟩], none, [], [], none, []⟩
theorem ea__law_line : defArgs st__law_line = al__law_line := by kernel_rfl
theorem se__law_line : defScope st__law_line = sl__law_line := by kernel_rfl
theorem sc__law_line : FnScope [("span" : PySem.Str), ("claims" : PySem.Str), ("way" : PySem.Str), ("lines" : PySem.Str), ("first" : PySem.Str), ("place" : PySem.Str), ("total" : PySem.Str), ("arc" : PySem.Str), ("fits" : PySem.Str), ("line" : PySem.Str)] [("span" : PySem.Str), ("claims" : PySem.Str), ("way" : PySem.Str)] sl__law_line := ⟨rfl, rfl, rfl, by decide +kernel, rfl, by decide +kernel, by decide +kernel⟩
theorem ok__law_line (T : Tx P K mg) (O__law_is_arc : FO__law_is_arc P w K mg base) (O__law_lines : FO__law_lines P w K mg base) : FO__law_line P w K mg base := by
  intro fd F
  rw [se__law_line, ea__law_line] at F
  obtain ⟨fd__law_is_arc, D__law_is_arc⟩ := T.F__law_is_arc
  obtain ⟨F__law_is_arc, b__law_is_arc, k__law_is_arc⟩ := O__law_is_arc fd__law_is_arc D__law_is_arc
  obtain ⟨fd__law_lines, D__law_lines⟩ := T.F__law_lines
  obtain ⟨F__law_lines, b__law_lines, k__law_lines⟩ := O__law_lines fd__law_lines D__law_lines
  generalize hB : defBody st__law_line = B at F
  refine ⟨?_, F.bindsN fun _ _ _ _ _ _ us hl => match us, hl with | [_, _, _], _ => rfl, F.kp⟩
  refine fn_okD (lvl := 4) (n := 3) (N := [("span" : PySem.Str), ("claims" : PySem.Str), ("way" : PySem.Str), ("lines" : PySem.Str), ("first" : PySem.Str), ("place" : PySem.Str), ("total" : PySem.Str), ("arc" : PySem.Str), ("fits" : PySem.Str), ("line" : PySem.Str)]) (k := ⟨clK K, none, []⟩) (b := d__law_line) F sc__law_line rfl fun cdv A outer s H E hr => ?_
  have hN := sc__law_line.nd
  subst hB
  exact (ss_cons (s_if (ST.of_w (w_and (t_not (ST.of_v (SV.of_q (r := 0) (q_isi (ra := 2) .list T.b_isinstance T.b_list (by decide +kernel) (q_name (i := 2)))))) (w_and1 (t_not (ST.of_v (SV.of_q (r := 0) (q_isi (ra := 2) .tuple T.b_isinstance T.b_tuple (by decide +kernel) (q_name (i := 2))))))))) (ss_cons (s_ret (SC.of_v (SV.of_q (r := 0) q_non))) ss_nil) ss_nil) (ss_cons (s_set (i := 3) (SC.of_v (SV.of_c (c_call (m := [none, none]) F__law_lines (hr.mono (by decide)) T.g__law_lines k__law_lines b__law_lines (as_val (v_name (i := 0)) (as_val (v_name (i := 1)) as_nil)) rfl))) (nio rfl) hN) (ss_cons (s_set (i := 4) (SC.of_v (SV.of_q (r := 0) q_non)) (nio rfl) hN) (ss_cons (s_set (i := 5) (SC.of_v (SV.of_q (r := 0) q_non)) (nio rfl) hN) (ss_cons (s_set (i := 6) (SC.of_v (SV.of_q (r := 0) q_int)) (nio rfl) hN) (ss_cons (s_for (si_val (v_name (i := 2))) (g_name (i := 7) (nio rfl) hN) (ss_cons (s_if (t_not (ST.of_v (SV.of_c (c_call (m := [none]) F__law_is_arc (hr.mono (by decide)) T.g__law_is_arc k__law_is_arc b__law_is_arc (as_val (v_name (i := 7)) as_nil) rfl)))) (ss_cons (s_ret (SC.of_v (SV.of_q (r := 0) q_non))) ss_nil) ss_nil) (ss_cons (s_setLc (i := 8) (own := [(("line" : PySem.Str), 9)]) rfl hN (si_val (v_name (i := 3))) (blkOk_by (N := [("span" : PySem.Str), ("claims" : PySem.Str), ("way" : PySem.Str), ("lines" : PySem.Str), ("first" : PySem.Str), ("place" : PySem.Str), ("total" : PySem.Str), ("arc" : PySem.Str), ("fits" : PySem.Str), ("line" : PySem.Str)]) (sc := sl__law_line) (by decide +kernel)) (fun _ _ _ _ _ => (g_name (i := 9) (nio rfl) hN)) (fun _ _ _ _ _ => (ts_one (t_cmpQ (ra := 0) (rb := 7) (op_eqF hr.units) r2_eq (q_ix (ra := 9) (rb := 0) (q_name (i := 9)) q_int) (q_name (i := 7))))) (fun _ _ _ _ _ => (v_name (i := 9))) (sw_true rfl rfl rfl (by decide +kernel))) (ss_cons (s_if (ST.of_w (w_or (t_cmpQ (ra := 0) (rb := 0) (op_neF hr.units) r2_ne (q_call1 (ra := 8) call_len c1_len T.b_len PySem.boot_len (q_name (i := 8))) q_int) (w_or1 (ST.of_w (w_and (t_cmpQ (ra := 5) (rb := 0) op_notN r2_notN (q_name (i := 5)) q_non) (w_and1 (t_cmpQ (ra := 0) (rb := 5) (op_neF hr.units) r2_ne (q_ix (ra := 0) (rb := 0) (q_ix (ra := 8) (rb := 0) (q_name (i := 8)) q_int) q_int) (q_name (i := 5))))))))) (ss_cons (s_ret (SC.of_v (SV.of_q (r := 0) q_non))) ss_nil) ss_nil) (ss_cons (s_if (t_cmpQ (ra := 4) (rb := 0) op_isN r2_isN (q_name (i := 4)) q_non) (ss_cons (s_set (i := 4) (SC.of_v (SV.of_q (r := 0) (q_ix (ra := 0) (rb := 0) (q_ix (ra := 8) (rb := 0) (q_name (i := 8)) q_int) q_int))) (nio rfl) hN) ss_nil) ss_nil) (ss_cons (s_set (i := 5) (SC.of_v (SV.of_q (r := 0) (q_ix (ra := 0) (rb := 0) (q_ix (ra := 8) (rb := 0) (q_name (i := 8)) q_int) q_int))) (nio rfl) hN) (ss_cons (s_set (i := 6) (SC.of_v (SV.of_q (r := 0) (q_bin (ra := 6) (rb := 0) op_add (r2_int _) (q_name (i := 6)) (q_ix (ra := 0) (rb := 0) (q_ix (ra := 8) (rb := 0) (q_name (i := 8)) q_int) q_int)))) (nio rfl) hN) ss_nil)))))) rfl) (ss_cons (s_if (t_cmpQ (ra := 4) (rb := 0) op_isN r2_isN (q_name (i := 4)) q_non) (ss_cons (s_ret (SC.of_v (SV.of_q (r := 0) q_non))) ss_nil) ss_nil) (ss_cons (s_ret (SC.of_v (v_tup (vs_cons (v_name (i := 4)) (vs_cons (v_name (i := 5)) (vs_cons (v_name (i := 6)) vs_nil)))))) ss_nil))))))))
def sl__law_is_bad : Scope := { kind := .function, names := [(("span" : PySem.Str), .local), (("claims" : PySem.Str), .local), (("ring" : PySem.Str), .local), (("line" : PySem.Str), .local), (("_law_line" : PySem.Str), .globalImplicit)], isGenerator := false, isCoroutine := false, more := [] }
def al__law_is_bad : Arguments := ⟨[], [⟨("span" : PySem.Str), none, ⟨303, 16, 303, 20⟩⟩, ⟨("claims" : PySem.Str), none, ⟨303, 22, 303, 28⟩⟩, ⟨("ring" : PySem.Str), none, ⟨303, 30, 303, 34⟩⟩], none, [], [], none, []⟩
theorem ea__law_is_bad : defArgs st__law_is_bad = al__law_is_bad := by kernel_rfl
theorem se__law_is_bad : defScope st__law_is_bad = sl__law_is_bad := by kernel_rfl
theorem sc__law_is_bad : FnScope [("span" : PySem.Str), ("claims" : PySem.Str), ("ring" : PySem.Str), ("line" : PySem.Str)] [("span" : PySem.Str), ("claims" : PySem.Str), ("ring" : PySem.Str)] sl__law_is_bad := ⟨rfl, rfl, rfl, by decide +kernel, rfl, by decide +kernel, by decide +kernel⟩
theorem ok__law_is_bad (T : Tx P K mg) (O__law_line : FO__law_line P w K mg base) : FO__law_is_bad P w K mg base := by
  intro fd F
  rw [se__law_is_bad, ea__law_is_bad] at F
  obtain ⟨fd__law_line, D__law_line⟩ := T.F__law_line
  obtain ⟨F__law_line, b__law_line, k__law_line⟩ := O__law_line fd__law_line D__law_line
  generalize hB : defBody st__law_is_bad = B at F
  refine ⟨?_, F.bindsN fun _ _ _ _ _ _ us hl => match us, hl with | [_, _, _], _ => rfl, F.kp⟩
  refine fn_okD (lvl := 5) (n := 3) (N := [("span" : PySem.Str), ("claims" : PySem.Str), ("ring" : PySem.Str), ("line" : PySem.Str)]) (k := ⟨clK K, none, []⟩) (b := d__law_is_bad) F sc__law_is_bad rfl fun cdv A outer s H E hr => ?_
  have hN := sc__law_is_bad.nd
  subst hB
  exact (ss_cons (s_set (i := 3) (SC.of_v (SV.of_c (c_call (m := [none, none, none]) F__law_line (hr.mono (by decide)) T.g__law_line k__law_line b__law_line (as_val (v_name (i := 0)) (as_val (v_name (i := 1)) (as_val (v_name (i := 2)) as_nil))) rfl))) (nio rfl) hN) (ss_cons (s_ret (SC.of_v (v_and (SV.of_q (r := 0) (q_cmp (ra := 3) (rb := 0) op_notN r2_notN (q_name (i := 3)) q_non)) (v_and (SV.of_q (r := 0) (q_cmp (ra := 0) (rb := 0) (op_eqF hr.units) r2_eq (q_ix (ra := 3) (rb := 0) (q_name (i := 3)) q_int) (q_ix (ra := 3) (rb := 0) (q_name (i := 3)) q_int))) (v_one (SV.of_q (r := 0) (q_cmp (ra := 0) (rb := 0) op_lt (r2_bool _) (q_ix (ra := 3) (rb := 0) (q_name (i := 3)) q_int) q_int))))))) ss_nil))
def sl__law_all : Scope := { kind := .function, names := [(("span" : PySem.Str), .local), (("rows" : PySem.Str), .local), (("k" : PySem.Str), .local), (("longer" : PySem.Str), .local), (("row" : PySem.Str), .local), (("range" : PySem.Str), .globalImplicit), (("list" : PySem.Str), .globalImplicit)], isGenerator := false, isCoroutine := false, more := [] }
def al__law_all : Arguments := ⟨[], [⟨("span" : PySem.Str), none, ⟨260, 13, 260, 17⟩⟩], none, [], [], none, []⟩
theorem ea__law_all : defArgs st__law_all = al__law_all := by kernel_rfl
theorem se__law_all : defScope st__law_all = sl__law_all := by kernel_rfl
theorem sc__law_all : FnScope [("span" : PySem.Str), ("rows" : PySem.Str), ("k" : PySem.Str), ("longer" : PySem.Str), ("row" : PySem.Str)] [("span" : PySem.Str)] sl__law_all := ⟨rfl, rfl, rfl, by decide +kernel, rfl, by decide +kernel, by decide +kernel⟩
theorem ok__law_all (T : Tx P K mg)  : FO__law_all P w K mg base := by
  intro fd F
  rw [se__law_all, ea__law_all] at F
  generalize hB : defBody st__law_all = B at F
  refine ⟨?_, F.bindsN fun _ _ _ _ _ _ us hl => match us, hl with | [_], _ => rfl, F.kp⟩
  refine fn_okD (lvl := 2) (n := 1) (N := [("span" : PySem.Str), ("rows" : PySem.Str), ("k" : PySem.Str), ("longer" : PySem.Str), ("row" : PySem.Str)]) (k := ⟨clK K, none, []⟩) (b := d__law_all) F sc__law_all rfl fun cdv A outer s H E hr => ?_
  have hN := sc__law_all.nd
  subst hB
  exact (ss_cons (s_set (i := 1) (SC.of_v (SV.of_c (c_lst (vs_cons (v_tup vs_nil) vs_nil)))) (nio rfl) hN) (ss_cons (s_for (si_range1 (v_name (i := 0)) T.b_range) (g_name (i := 2) (nio rfl) hN) (ss_cons (s_set (i := 3) (c_lst vs_nil) (nio rfl) hN) (ss_cons (s_for (si_val (v_name (i := 1))) (g_name (i := 4) (nio rfl) hN) (ss_cons (s_expr (v_append (i := 3) (SV.of_c (c_binV op_catA r2_catT (v_name (i := 4)) (v_tup (vs_cons (SV.of_q (r := 0) q_int) vs_nil)))))) (ss_cons (s_expr (v_append (i := 3) (SV.of_c (c_binV op_catA r2_catT (v_name (i := 4)) (v_tup (vs_cons (SV.of_q (r := 0) q_int) vs_nil)))))) ss_nil)) rfl) (ss_cons (s_set (i := 1) (SC.of_v (SV.of_c (c_callTQ (ra := 3) call_list_of c1_list T.b_list PyProof.Rows.boot_list (q_name (i := 3))))) (nio rfl) hN) ss_nil))) rfl) (ss_cons (s_ret (SC.of_v (v_name (i := 1)))) ss_nil)))
def sl__law_ones_fit : Scope := { kind := .function, names := [(("claim" : PySem.Str), .local), (("pattern" : PySem.Str), .local), (("ones" : PySem.Str), .local), (("sum" : PySem.Str), .globalImplicit)], isGenerator := false, isCoroutine := false, more := [] }
def al__law_ones_fit : Arguments := ⟨[], [⟨("claim" : PySem.Str), none, ⟨257, 18, 257, 23⟩⟩, ⟨("pattern" : PySem.Str), none, ⟨257, 25, 257, 32⟩⟩], none, [], [], none, []⟩
theorem ea__law_ones_fit : defArgs st__law_ones_fit = al__law_ones_fit := by kernel_rfl
theorem se__law_ones_fit : defScope st__law_ones_fit = sl__law_ones_fit := by kernel_rfl
theorem sc__law_ones_fit : FnScope [("claim" : PySem.Str), ("pattern" : PySem.Str), ("ones" : PySem.Str)] [("claim" : PySem.Str), ("pattern" : PySem.Str)] sl__law_ones_fit := ⟨rfl, rfl, rfl, by decide +kernel, rfl, by decide +kernel, by decide +kernel⟩
theorem ok__law_ones_fit (T : Tx P K mg)  : FO__law_ones_fit P w K mg base := by
  intro fd F
  rw [se__law_ones_fit, ea__law_ones_fit] at F
  generalize hB : defBody st__law_ones_fit = B at F
  refine ⟨?_, F.bindsN fun _ _ _ _ _ _ us hl => match us, hl with | [_, _], _ => rfl, F.kp⟩
  refine fn_okD (lvl := 2) (n := 2) (N := [("claim" : PySem.Str), ("pattern" : PySem.Str), ("ones" : PySem.Str)]) (k := ⟨clK K, none, []⟩) (b := d__law_ones_fit) F sc__law_ones_fit rfl fun cdv A outer s H E hr => ?_
  have hN := sc__law_ones_fit.nd
  subst hB
  exact (ss_cons (s_set (i := 2) (SC.of_v (v_call1 (cr_sumA rfl) c1_sumA T.b_sum PyProof.Rows.boot_sum (SV.of_c (c_slN (i := 1) (b_some (SV.of_q (r := 0) (q_ix (ra := 0) (rb := 0) (q_name (i := 0)) q_int))) (b_some (SV.of_q (r := 0) (q_ix (ra := 0) (rb := 0) (q_name (i := 0)) q_int))))))) (nio rfl) hN) (ss_cons (s_ret (SC.of_v (v_and (SV.of_q (r := 0) (q_cmp (ra := 0) (rb := 2) op_le (r2_bool _) (q_ix (ra := 0) (rb := 0) (q_name (i := 0)) q_int) (q_name (i := 2)))) (v_one (SV.of_q (r := 0) (q_cmp (ra := 2) (rb := 0) op_le (r2_bool _) (q_name (i := 2)) (q_ix (ra := 0) (rb := 0) (q_name (i := 0)) q_int))))))) ss_nil))
def sl__law_fitting : Scope := { kind := .function, names := [(("span" : PySem.Str), .local), (("claims" : PySem.Str), .cell), (("_law_all" : PySem.Str), .globalImplicit)], isGenerator := false, isCoroutine := false, more := [(("fast" : PySem.Str), .str ("span" : PySem.Str)), (("fast" : PySem.Str), .str ("claims" : PySem.Str)), (("fast" : PySem.Str), .str ("row" : PySem.Str)), (("fast" : PySem.Str), .str ("claim" : PySem.Str))] }
def al__law_fitting : Arguments := ⟨[], [⟨("span" : PySem.Str), none, ⟨269, 17, 269, 21⟩⟩, ⟨("claims" : PySem.Str), none, ⟨269, 23, 269, 29⟩⟩], none, [], [], none, []⟩
theorem ea__law_fitting : defArgs st__law_fitting = al__law_fitting := by kernel_rfl
theorem se__law_fitting : defScope st__law_fitting = sl__law_fitting := by kernel_rfl
theorem sc__law_fitting : FnScope [("span" : PySem.Str), ("claims" : PySem.Str), ("row" : PySem.Str), ("claim" : PySem.Str)] [("span" : PySem.Str), ("claims" : PySem.Str)] sl__law_fitting := ⟨rfl, rfl, rfl, by decide +kernel, rfl, by decide +kernel, by decide +kernel⟩
theorem ok__law_fitting (T : Tx P K mg) (O__law_all : FO__law_all P w K mg base) (O__law_ones_fit : FO__law_ones_fit P w K mg base) : FO__law_fitting P w K mg base := by
  intro fd F
  rw [se__law_fitting, ea__law_fitting] at F
  obtain ⟨fd__law_all, D__law_all⟩ := T.F__law_all
  obtain ⟨F__law_all, b__law_all, k__law_all⟩ := O__law_all fd__law_all D__law_all
  obtain ⟨fd__law_ones_fit, D__law_ones_fit⟩ := T.F__law_ones_fit
  obtain ⟨F__law_ones_fit, b__law_ones_fit, k__law_ones_fit⟩ := O__law_ones_fit fd__law_ones_fit D__law_ones_fit
  generalize hB : defBody st__law_fitting = B at F
  refine ⟨?_, F.bindsN fun _ _ _ _ _ _ us hl => match us, hl with | [_, _], _ => rfl, F.kp⟩
  refine fn_okD (lvl := 3) (n := 2) (N := [("span" : PySem.Str), ("claims" : PySem.Str), ("row" : PySem.Str), ("claim" : PySem.Str)]) (k := ⟨clK K, none, []⟩) (b := d__law_fitting) F sc__law_fitting rfl fun cdv A outer s H E hr => ?_
  have hN := sc__law_fitting.nd
  subst hB
  exact (ss_cons (s_ret (c_lc (own := [(("row" : PySem.Str), 2)]) rfl hN (si_val (SV.of_c (c_call (m := [none]) F__law_all (hr.mono (by decide)) T.g__law_all k__law_all b__law_all (as_val (v_name (i := 0)) as_nil) rfl))) (blkOk_by (N := [("span" : PySem.Str), ("claims" : PySem.Str), ("row" : PySem.Str), ("claim" : PySem.Str)]) (sc := sl__law_fitting) (by decide +kernel)) (fun _ _ _ _ _ => (g_name (i := 2) (nio rfl) hN)) (fun _ _ _ _ _ => (ts_one (ST.of_v (v_call1 (cr_all rfl) c1_all T.b_all PyProof.Rows.boot_all (SV.of_c (c_lc (own := [(("claim" : PySem.Str), 3)]) rfl hN (si_val (v_name (i := 1))) (blkOk_by (by rfl)) (fun _ _ _ _ _ => (g_name (i := 3) (nio rfl) hN)) (fun _ _ _ _ _ => ts_nil) (fun _ _ _ _ _ => (SV.of_c (c_call (m := [none, none]) F__law_ones_fit (hr.mono (by decide)) T.g__law_ones_fit k__law_ones_fit b__law_ones_fit (as_val (v_name (i := 3)) (as_val (v_name (i := 2)) as_nil)) rfl))))))))) (fun _ _ _ _ _ => (v_name (i := 2))))) ss_nil)
def sl_ring_prices : Scope := { kind := .function, names := [(("span" : PySem.Str), .local), (("claims" : PySem.Str), .local), (("ring" : PySem.Str), .local), (("prices" : PySem.Str), .local), (("at" : PySem.Str), .local), (("arc" : PySem.Str), .local), (("check_claims" : PySem.Str), .globalImplicit), (("len" : PySem.Str), .globalImplicit), (("enumerate" : PySem.Str), .globalImplicit), (("is_arc" : PySem.Str), .globalImplicit), (("BadArc" : PySem.Str), .globalImplicit)], isGenerator := false, isCoroutine := false, more := [] }
def al_ring_prices : Arguments := ⟨[], [⟨("span" : PySem.Str), none, ⟨196, 16, 196, 20⟩⟩, ⟨("claims" : PySem.Str), none, ⟨196, 22, 196, 28⟩⟩, ⟨("ring" : PySem.Str), none, ⟨196, 30, 196, 34⟩⟩], none, [], [], none, []⟩
theorem ea_ring_prices : defArgs st_ring_prices = al_ring_prices := by kernel_rfl
theorem se_ring_prices : defScope st_ring_prices = sl_ring_prices := by kernel_rfl
theorem sc_ring_prices : FnScope [("span" : PySem.Str), ("claims" : PySem.Str), ("ring" : PySem.Str), ("prices" : PySem.Str), ("at" : PySem.Str), ("arc" : PySem.Str)] [("span" : PySem.Str), ("claims" : PySem.Str), ("ring" : PySem.Str)] sl_ring_prices := ⟨rfl, rfl, rfl, by decide +kernel, rfl, by decide +kernel, by decide +kernel⟩
theorem ok_ring_prices (T : Tx P K mg) (O_check_claims : FO_check_claims P w K mg base) (O_is_arc : FO_is_arc P w K mg base) : FO_ring_prices P w K mg base := by
  intro fd F
  rw [se_ring_prices, ea_ring_prices] at F
  obtain ⟨fd_check_claims, D_check_claims⟩ := T.F_check_claims
  obtain ⟨F_check_claims, b_check_claims, k_check_claims⟩ := O_check_claims fd_check_claims D_check_claims
  obtain ⟨fd_is_arc, D_is_arc⟩ := T.F_is_arc
  obtain ⟨F_is_arc, b_is_arc, k_is_arc⟩ := O_is_arc fd_is_arc D_is_arc
  generalize hB : defBody st_ring_prices = B at F
  refine ⟨?_, F.bindsN fun _ _ _ _ _ _ us hl => match us, hl with | [_, _, _], _ => rfl, F.kp⟩
  refine fn_okD (lvl := 5) (n := 3) (N := [("span" : PySem.Str), ("claims" : PySem.Str), ("ring" : PySem.Str), ("prices" : PySem.Str), ("at" : PySem.Str), ("arc" : PySem.Str)]) (k := ⟨clK K, none, []⟩) (b := d_ring_prices) F sc_ring_prices rfl fun cdv A outer s H E hr => ?_
  have hN := sc_ring_prices.nd
  subst hB
  exact (ss_cons (s_expr (SV.of_c (c_call (m := [none, none]) F_check_claims (hr.mono (by decide)) T.g_check_claims k_check_claims b_check_claims (as_val (v_name (i := 0)) (as_val (v_name (i := 1)) as_nil)) rfl))) (ss_cons (s_set (i := 3) (c_binV op_rep r2_rep (SV.of_c (c_lst (vs_cons (SV.of_q (r := 0) q_int) vs_nil))) (SV.of_q (r := 0) (q_call1 (ra := 1) call_len c1_len T.b_len PySem.boot_len (q_name (i := 1))))) (nio rfl) hN) (ss_cons (s_for (si_enum (v_name (i := 2)) T.b_enumerate) (g_tup rfl (gs_cons (g_name (i := 4) (nio rfl) hN) (gs_cons (g_name (i := 5) (nio rfl) hN) gs_nil))) (ss_cons (s_if (t_not (ST.of_v (SV.of_c (c_call (m := [none, none, none]) F_is_arc (hr.mono (by decide)) T.g_is_arc k_is_arc b_is_arc (as_val (v_name (i := 0)) (as_val (v_name (i := 1)) (as_val (v_name (i := 5)) as_nil))) rfl)))) (ss_cons (s_raise1 (c := 6) rfl T.s_BadArc bd_place T.file T.top T.g_BadArc hr (v_name (i := 4))) ss_nil) ss_nil) (ss_cons (s_if (t_cmpQ (ra := 0) (rb := 0) (op_eqF hr.units) r2_eq (q_ix (ra := 5) (rb := 0) (q_name (i := 5)) q_int) q_str) (ss_cons (s_augIx (i := 3) iop_add (r2_int _) (SV.of_q (r := 0) (q_ix (ra := 5) (rb := 0) (q_name (i := 5)) q_int)) (SV.of_q (r := 0) q_int)) ss_nil) ss_nil) (ss_cons (s_if (t_cmpQ (ra := 0) (rb := 0) (op_eqF hr.units) r2_eq (q_ix (ra := 5) (rb := 0) (q_name (i := 5)) q_int) q_str) (ss_cons (s_augIx (i := 3) iop_sub (r2_int _) (SV.of_q (r := 0) (q_ix (ra := 5) (rb := 0) (q_name (i := 5)) q_int)) (SV.of_q (r := 0) q_int)) ss_nil) ss_nil) ss_nil))) rfl) (ss_cons (s_ret (c_name (i := 3))) ss_nil))))
def sl__law_worth : Scope := { kind := .function, names := [(("span" : PySem.Str), .local), (("claims" : PySem.Str), .local), (("prices" : PySem.Str), .local), (("gained" : PySem.Str), .local), (("raised" : PySem.Str), .local), (("k" : PySem.Str), .local), (("claim" : PySem.Str), .local), (("number" : PySem.Str), .local), (("enumerate" : PySem.Str), .globalImplicit), (("range" : PySem.Str), .globalImplicit), (("sum" : PySem.Str), .globalImplicit)], isGenerator := false, isCoroutine := false, more := [(("fast" : PySem.Str), .str ("span" : PySem.Str)), (("fast" : PySem.Str), .str ("claims" : PySem.Str)), (("fast" : PySem.Str), .str ("prices" : PySem.Str)), (("fast" : PySem.Str), .str ("gained" : PySem.Str)), (("fast" : PySem.Str), .str ("raised" : PySem.Str)), (("fast" : PySem.Str), .str ("k" : PySem.Str)), (("fast" : PySem.Str), .str ("claim" : PySem.Str)), (("fast" : PySem.Str), .str ("number" : PySem.Str)), (("fast" : PySem.Str), .str ("height" : PySem.Str))] }
def al__law_worth : Arguments := ⟨[], [⟨("span" : PySem.Str), none, ⟨306, 15, 306, 19⟩⟩, ⟨("claims" : PySem.Str), none, ⟨306, 21, 306, 27⟩⟩, ⟨("prices" : PySem.Str), none, ⟨306, 29, 306, 35⟩⟩], none, [], [], none, []⟩
theorem ea__law_worth : defArgs st__law_worth = al__law_worth := by kernel_rfl
theorem se__law_worth : defScope st__law_worth = sl__law_worth := by kernel_rfl
theorem sc__law_worth : FnScope [("span" : PySem.Str), ("claims" : PySem.Str), ("prices" : PySem.Str), ("gained" : PySem.Str), ("raised" : PySem.Str), ("k" : PySem.Str), ("claim" : PySem.Str), ("number" : PySem.Str), ("height" : PySem.Str)] [("span" : PySem.Str), ("claims" : PySem.Str), ("prices" : PySem.Str)] sl__law_worth := ⟨rfl, rfl, rfl, by decide +kernel, rfl, by decide +kernel, by decide +kernel⟩
theorem ok__law_worth (T : Tx P K mg)  : FO__law_worth P w K mg base := by
  intro fd F
  rw [se__law_worth, ea__law_worth] at F
  generalize hB : defBody st__law_worth = B at F
  refine ⟨?_, F.bindsN fun _ _ _ _ _ _ us hl => match us, hl with | [_, _, _], _ => rfl, F.kp⟩
  refine fn_okD (lvl := 2) (n := 3) (N := [("span" : PySem.Str), ("claims" : PySem.Str), ("prices" : PySem.Str), ("gained" : PySem.Str), ("raised" : PySem.Str), ("k" : PySem.Str), ("claim" : PySem.Str), ("number" : PySem.Str), ("height" : PySem.Str)]) (k := ⟨clK K, none, []⟩) (b := d__law_worth_k30) F sc__law_worth rfl fun cdv A outer s H E hr => ?_
  have hN := sc__law_worth.nd
  subst hB
  exact (ss_cons (s_set (i := 3) (SC.of_v (SV.of_q (r := 0) q_int)) (nio rfl) hN) (ss_cons (s_set (i := 4) (c_binV op_rep r2_rep (SV.of_c (c_lst (vs_cons (SV.of_q (r := 0) q_int) vs_nil))) (v_name (i := 0))) (nio rfl) hN) (ss_cons (s_for (si_enum (v_name (i := 1)) T.b_enumerate) (g_tup rfl (gs_cons (g_name (i := 5) (nio rfl) hN) (gs_cons (g_name (i := 6) (nio rfl) hN) gs_nil))) (ss_cons (s_if (t_cmpQ (ra := 0) (rb := 0) op_gt (r2_bool _) (q_ix (ra := 2) (rb := 5) (q_name (i := 2)) (q_name (i := 5))) q_int) (ss_cons (s_set (i := 3) (SC.of_v (SV.of_q (r := 0) (q_bin (ra := 3) (rb := 0) op_add (r2_int _) (q_name (i := 3)) (q_bin (ra := 0) (rb := 0) op_mul (r2_intc bMul_ok _) (q_ix (ra := 2) (rb := 5) (q_name (i := 2)) (q_name (i := 5))) (q_ix (ra := 6) (rb := 0) (q_name (i := 6)) q_int))))) (nio rfl) hN) ss_nil) ss_nil) (ss_cons (s_if (t_cmpQ (ra := 0) (rb := 0) op_lt (r2_bool _) (q_ix (ra := 2) (rb := 5) (q_name (i := 2)) (q_name (i := 5))) q_int) (ss_cons (s_set (i := 3) (SC.of_v (SV.of_q (r := 0) (q_bin (ra := 3) (rb := 0) op_add (r2_int _) (q_name (i := 3)) (q_bin (ra := 0) (rb := 0) op_mul (r2_intc bMul_ok _) (q_ix (ra := 2) (rb := 5) (q_name (i := 2)) (q_name (i := 5))) (q_ix (ra := 6) (rb := 0) (q_name (i := 6)) q_int))))) (nio rfl) hN) ss_nil) ss_nil) (ss_cons (s_for (si_range2 (SV.of_q (r := 0) (q_ix (ra := 6) (rb := 0) (q_name (i := 6)) q_int)) (SV.of_q (r := 0) (q_ix (ra := 6) (rb := 0) (q_name (i := 6)) q_int)) T.b_range) (g_name (i := 7) (nio rfl) hN) (ss_cons (s_setIx (i := 4) (SV.of_q (r := 0) (q_bin (ra := 0) (rb := 0) op_add (r2_int _) (q_ix (ra := 4) (rb := 7) (q_name (i := 4)) (q_name (i := 7))) (q_ix (ra := 2) (rb := 5) (q_name (i := 2)) (q_name (i := 5))))) (v_name (i := 7))) ss_nil) rfl) ss_nil))) rfl) (ss_cons (s_ret (SC.of_v (v_bin op_sub (r2_int _) (v_name (i := 3)) (v_call1 (cr_sumA rfl) c1_sumA T.b_sum PyProof.Rows.boot_sum (SV.of_c (c_lc (own := [(("height" : PySem.Str), 8)]) rfl hN (si_val (v_name (i := 4))) (blkOk_by (N := [("span" : PySem.Str), ("claims" : PySem.Str), ("prices" : PySem.Str), ("gained" : PySem.Str), ("raised" : PySem.Str), ("k" : PySem.Str), ("claim" : PySem.Str), ("number" : PySem.Str), ("height" : PySem.Str)]) (sc := sl__law_worth) (by decide +kernel)) (fun _ _ _ _ _ => (g_name (i := 8) (nio rfl) hN)) (fun _ _ _ _ _ => ts_nil) (fun _ _ _ _ _ => (SV.of_q (r := 0) (q_call2 (ra := 0) (rb := 8) (call_max2 rfl) c2_max T.b_max PyProof.Rows.boot_max q_int (q_name (i := 8))))))))))) ss_nil))))
def sl_check_numbers : Scope := { kind := .function, names := [(("numbers" : PySem.Str), .local), (("count" : PySem.Str), .local), (("isinstance" : PySem.Str), .globalImplicit), (("list" : PySem.Str), .globalImplicit), (("tuple" : PySem.Str), .globalImplicit), (("len" : PySem.Str), .globalImplicit), (("BadNumbers" : PySem.Str), .globalImplicit), (("all" : PySem.Str), .globalImplicit)], isGenerator := false, isCoroutine := false, more := [(("fast" : PySem.Str), .str ("numbers" : PySem.Str)), (("fast" : PySem.Str), .str ("count" : PySem.Str)), (("fast" : PySem.Str), .str ("number" : PySem.Str))] }
def al_check_numbers : Arguments := ⟨[], [⟨("numbers" : PySem.Str), none, ⟨161, 18, 161, 25⟩⟩, ⟨("count" : PySem.Str), none, ⟨161, 27, 161, 32⟩⟩], none, [], [], none, []⟩
theorem ea_check_numbers : defArgs st_check_numbers = al_check_numbers := by kernel_rfl
theorem se_check_numbers : defScope st_check_numbers = sl_check_numbers := by kernel_rfl
theorem sc_check_numbers : FnScope [("numbers" : PySem.Str), ("count" : PySem.Str), ("number" : PySem.Str)] [("numbers" : PySem.Str), ("count" : PySem.Str)] sl_check_numbers := ⟨rfl, rfl, rfl, by decide +kernel, rfl, by decide +kernel, by decide +kernel⟩
theorem ok_check_numbers (T : Tx P K mg) (O_is_whole : FO_is_whole P w K mg base) : FO_check_numbers P w K mg base := by
  intro fd F
  rw [se_check_numbers, ea_check_numbers] at F
  obtain ⟨fd_is_whole, D_is_whole⟩ := T.F_is_whole
  obtain ⟨F_is_whole, b_is_whole, k_is_whole⟩ := O_is_whole fd_is_whole D_is_whole
  generalize hB : defBody st_check_numbers = B at F
  refine ⟨?_, F.bindsN fun _ _ _ _ _ _ us hl => match us, hl with | [_, _], _ => rfl, F.kp⟩
  refine fn_okD (lvl := 3) (n := 2) (N := [("numbers" : PySem.Str), ("count" : PySem.Str), ("number" : PySem.Str)]) (k := ⟨clK K, none, []⟩) (b := d_check_numbers) F sc_check_numbers rfl fun cdv A outer s H E hr => ?_
  have hN := sc_check_numbers.nd
  subst hB
  exact (ss_cons (s_if (ST.of_w (w_or (t_not (ST.of_v (v_isi2 (ra := 0) .list .tuple T.b_isinstance T.b_list (by decide +kernel) T.b_tuple (by decide +kernel) (q_name (i := 0))))) (w_or1 (t_cmpQ (ra := 0) (rb := 1) (op_neF hr.units) r2_ne (q_call1 (ra := 0) call_len c1_len T.b_len PySem.boot_len (q_name (i := 0))) (q_name (i := 1)))))) (ss_cons (s_raise0 (c := 7) rfl T.x_BadNumbers.1 T.g_BadNumbers T.x_BadNumbers.2.1 (raises_own T.x_BadNumbers.2.2.1 T.x_BadNumbers.2.2.2)) ss_nil) ss_nil) (ss_cons (s_if (t_not (ST.of_v (v_call1 (cr_all rfl) c1_all T.b_all PyProof.Rows.boot_all (SV.of_c (c_lc (own := [(("number" : PySem.Str), 2)]) rfl hN (si_val (v_name (i := 0))) (blkOk_by (N := [("numbers" : PySem.Str), ("count" : PySem.Str), ("number" : PySem.Str)]) (sc := sl_check_numbers) (by decide +kernel)) (fun _ _ _ _ _ => (g_name (i := 2) (nio rfl) hN)) (fun _ _ _ _ _ => ts_nil) (fun _ _ _ _ _ => (SV.of_c (c_call (m := [none]) F_is_whole (hr.mono (by decide)) T.g_is_whole k_is_whole b_is_whole (as_val (v_name (i := 2)) as_nil) rfl)))))))) (ss_cons (s_raise0 (c := 7) rfl T.x_BadNumbers.1 T.g_BadNumbers T.x_BadNumbers.2.1 (raises_own T.x_BadNumbers.2.2.1 T.x_BadNumbers.2.2.2)) ss_nil) ss_nil) ss_nil))
def sl_heights : Scope := { kind := .function, names := [(("span" : PySem.Str), .local), (("claims" : PySem.Str), .local), (("prices" : PySem.Str), .local), (("steps" : PySem.Str), .local), (("place" : PySem.Str), .local), (("low" : PySem.Str), .local), (("high" : PySem.Str), .local), (("least" : PySem.Str), .local), (("most" : PySem.Str), .local), (("found" : PySem.Str), .local), (("height" : PySem.Str), .local), (("number" : PySem.Str), .local), (("check_claims" : PySem.Str), .globalImplicit), (("check_numbers" : PySem.Str), .globalImplicit), (("len" : PySem.Str), .globalImplicit), (("enumerate" : PySem.Str), .globalImplicit), (("range" : PySem.Str), .globalImplicit)], isGenerator := false, isCoroutine := false, more := [] }
def al_heights : Arguments := ⟨[], [⟨("span" : PySem.Str), none, ⟨166, 12, 166, 16⟩⟩, ⟨("claims" : PySem.Str), none, ⟨166, 18, 166, 24⟩⟩, ⟨("prices" : PySem.Str), none, ⟨166, 26, 166, 32⟩⟩], none, [], [], none, []⟩
theorem ea_heights : defArgs st_heights = al_heights := by kernel_rfl
theorem se_heights : defScope st_heights = sl_heights := by kernel_rfl
theorem sc_heights : FnScope [("span" : PySem.Str), ("claims" : PySem.Str), ("prices" : PySem.Str), ("steps" : PySem.Str), ("place" : PySem.Str), ("low" : PySem.Str), ("high" : PySem.Str), ("least" : PySem.Str), ("most" : PySem.Str), ("found" : PySem.Str), ("height" : PySem.Str), ("number" : PySem.Str)] [("span" : PySem.Str), ("claims" : PySem.Str), ("prices" : PySem.Str)] sl_heights := ⟨rfl, rfl, rfl, by decide +kernel, rfl, by decide +kernel, by decide +kernel⟩
theorem ok_heights (T : Tx P K mg) (O_check_claims : FO_check_claims P w K mg base) (O_check_numbers : FO_check_numbers P w K mg base) : FO_heights P w K mg base := by
  intro fd F
  rw [se_heights, ea_heights] at F
  obtain ⟨fd_check_claims, D_check_claims⟩ := T.F_check_claims
  obtain ⟨F_check_claims, b_check_claims, k_check_claims⟩ := O_check_claims fd_check_claims D_check_claims
  obtain ⟨fd_check_numbers, D_check_numbers⟩ := T.F_check_numbers
  obtain ⟨F_check_numbers, b_check_numbers, k_check_numbers⟩ := O_check_numbers fd_check_numbers D_check_numbers
  generalize hB : defBody st_heights = B at F
  refine ⟨?_, F.bindsN fun _ _ _ _ _ _ us hl => match us, hl with | [_, _, _], _ => rfl, F.kp⟩
  refine fn_okD (lvl := 5) (n := 3) (N := [("span" : PySem.Str), ("claims" : PySem.Str), ("prices" : PySem.Str), ("steps" : PySem.Str), ("place" : PySem.Str), ("low" : PySem.Str), ("high" : PySem.Str), ("least" : PySem.Str), ("most" : PySem.Str), ("found" : PySem.Str), ("height" : PySem.Str), ("number" : PySem.Str)]) (k := ⟨clK K, none, []⟩) (b := d_heights) F sc_heights rfl fun cdv A outer s H E hr => ?_
  have hN := sc_heights.nd
  subst hB
  exact (ss_cons (s_expr (SV.of_c (c_call (m := [none, none]) F_check_claims (hr.mono (by decide)) T.g_check_claims k_check_claims b_check_claims (as_val (v_name (i := 0)) (as_val (v_name (i := 1)) as_nil)) rfl))) (ss_cons (s_expr (SV.of_c (c_call (m := [none, none]) F_check_numbers (hr.mono (by decide)) T.g_check_numbers k_check_numbers b_check_numbers (as_val (v_name (i := 2)) (as_val (SV.of_q (r := 0) (q_call1 (ra := 1) call_len c1_len T.b_len PySem.boot_len (q_name (i := 1)))) as_nil)) rfl))) (ss_cons (s_set (i := 3) (c_binV op_rep r2_rep (SV.of_c (c_lst (vs_cons (SV.of_q (r := 0) q_int) vs_nil))) (SV.of_q (r := 0) (q_bin (ra := 0) (rb := 0) op_add (r2_int _) (q_name (i := 0)) q_int))) (nio rfl) hN) (ss_cons (s_for (si_enum (v_name (i := 1)) T.b_enumerate) (g_tup rfl (gs_cons (g_name (i := 4) (nio rfl) hN) (gs_cons (g_tup rfl (gs_cons (g_name (i := 5) (nio rfl) hN) (gs_cons (g_name (i := 6) (nio rfl) hN) (gs_cons (g_name (i := 7) (nio rfl) hN) (gs_cons (g_name (i := 8) (nio rfl) hN) gs_nil))))) gs_nil))) (ss_cons (s_augIx (i := 3) iop_add (r2_int _) (v_name (i := 5)) (SV.of_q (r := 0) (q_ix (ra := 2) (rb := 4) (q_name (i := 2)) (q_name (i := 4))))) (ss_cons (s_augIx (i := 3) iop_sub (r2_int _) (v_name (i := 6)) (SV.of_q (r := 0) (q_ix (ra := 2) (rb := 4) (q_name (i := 2)) (q_name (i := 4))))) ss_nil)) rfl) (ss_cons (s_set (i := 9) (c_lst vs_nil) (nio rfl) hN) (ss_cons (s_set (i := 10) (SC.of_v (SV.of_q (r := 0) q_int)) (nio rfl) hN) (ss_cons (s_for (si_range1 (v_name (i := 0)) T.b_range) (g_name (i := 11) (nio rfl) hN) (ss_cons (s_aug (i := 10) iop_add (r2_int _) (SV.of_q (r := 0) (q_ix (ra := 3) (rb := 11) (q_name (i := 3)) (q_name (i := 11)))) (nio rfl) hN) (ss_cons (s_expr (v_append (i := 9) (v_name (i := 10)))) ss_nil)) rfl) (ss_cons (s_ret (c_name (i := 9))) ss_nil))))))))
def sl_claim_worth : Scope := { kind := .function, names := [(("claim" : PySem.Str), .local), (("price" : PySem.Str), .local)], isGenerator := false, isCoroutine := false, more := [] }
def al_claim_worth : Arguments := ⟨[], [⟨("claim" : PySem.Str), none, ⟨179, 16, 179, 21⟩⟩, ⟨("price" : PySem.Str), none, ⟨179, 23, 179, 28⟩⟩], none, [], [], none, []⟩
theorem ea_claim_worth : defArgs st_claim_worth = al_claim_worth := by kernel_rfl
theorem se_claim_worth : defScope st_claim_worth = sl_claim_worth := by kernel_rfl
theorem sc_claim_worth : FnScope [("claim" : PySem.Str), ("price" : PySem.Str)] [("claim" : PySem.Str), ("price" : PySem.Str)] sl_claim_worth := ⟨rfl, rfl, rfl, by decide +kernel, rfl, by decide +kernel, by decide +kernel⟩
theorem ok_claim_worth (T : Tx P K mg)  : FO_claim_worth P w K mg base := by
  intro fd F
  rw [se_claim_worth, ea_claim_worth] at F
  generalize hB : defBody st_claim_worth = B at F
  refine ⟨?_, F.bindsN fun _ _ _ _ _ _ us hl => match us, hl with | [_, _], _ => rfl, F.kp⟩
  refine fn_okD (lvl := 2) (n := 2) (N := [("claim" : PySem.Str), ("price" : PySem.Str)]) (k := ⟨clK K, none, []⟩) (b := d_claim_worth) F sc_claim_worth rfl fun cdv A outer s H E hr => ?_
  have hN := sc_claim_worth.nd
  subst hB
  exact (ss_cons (s_if (t_cmpQ (ra := 1) (rb := 0) op_gt (r2_bool _) (q_name (i := 1)) q_int) (ss_cons (s_ret (SC.of_v (SV.of_q (r := 0) (q_bin (ra := 1) (rb := 0) op_mul (r2_intc bMul_ok _) (q_name (i := 1)) (q_ix (ra := 0) (rb := 0) (q_name (i := 0)) q_int))))) ss_nil) ss_nil) (ss_cons (s_ret (SC.of_v (SV.of_q (r := 0) (q_bin (ra := 1) (rb := 0) op_mul (r2_intc bMul_ok _) (q_name (i := 1)) (q_ix (ra := 0) (rb := 0) (q_name (i := 0)) q_int))))) ss_nil))
def sl_worth : Scope := { kind := .function, names := [(("span" : PySem.Str), .local), (("claims" : PySem.Str), .local), (("weights" : PySem.Str), .cell), (("prices" : PySem.Str), .cell), (("raised" : PySem.Str), .cell), (("gained" : PySem.Str), .local), (("lost" : PySem.Str), .local), (("heights" : PySem.Str), .globalImplicit), (("check_numbers" : PySem.Str), .globalImplicit), (("sum" : PySem.Str), .globalImplicit), (("enumerate" : PySem.Str), .globalImplicit), (("range" : PySem.Str), .globalImplicit)], isGenerator := false, isCoroutine := false, more := [(("fast" : PySem.Str), .str ("span" : PySem.Str)), (("fast" : PySem.Str), .str ("claims" : PySem.Str)), (("fast" : PySem.Str), .str ("weights" : PySem.Str)), (("fast" : PySem.Str), .str ("prices" : PySem.Str)), (("fast" : PySem.Str), .str ("raised" : PySem.Str)), (("fast" : PySem.Str), .str ("place" : PySem.Str)), (("fast" : PySem.Str), .str ("claim" : PySem.Str)), (("fast" : PySem.Str), .str ("gained" : PySem.Str)), (("fast" : PySem.Str), .str ("number" : PySem.Str)), (("fast" : PySem.Str), .str ("lost" : PySem.Str))] }
def al_worth : Arguments := ⟨[], [⟨("span" : PySem.Str), none, ⟨183, 10, 183, 14⟩⟩, ⟨("claims" : PySem.Str), none, ⟨183, 16, 183, 22⟩⟩, ⟨("weights" : PySem.Str), none, ⟨183, 24, 183, 31⟩⟩, ⟨("prices" : PySem.Str), none, ⟨183, 33, 183, 39⟩⟩], none, [], [], none, []⟩
theorem ea_worth : defArgs st_worth = al_worth := by kernel_rfl
theorem se_worth : defScope st_worth = sl_worth := by kernel_rfl
theorem sc_worth : FnScope [("span" : PySem.Str), ("claims" : PySem.Str), ("weights" : PySem.Str), ("prices" : PySem.Str), ("raised" : PySem.Str), ("gained" : PySem.Str), ("lost" : PySem.Str), ("place" : PySem.Str), ("claim" : PySem.Str), ("number" : PySem.Str)] [("span" : PySem.Str), ("claims" : PySem.Str), ("weights" : PySem.Str), ("prices" : PySem.Str)] sl_worth := ⟨rfl, rfl, rfl, by decide +kernel, rfl, by decide +kernel, by decide +kernel⟩
theorem ok_worth (T : Tx P K mg) (O_check_numbers : FO_check_numbers P w K mg base) (O_claim_worth : FO_claim_worth P w K mg base) (O_heights : FO_heights P w K mg base) : FO_worth P w K mg base := by
  intro fd F
  rw [se_worth, ea_worth] at F
  obtain ⟨fd_check_numbers, D_check_numbers⟩ := T.F_check_numbers
  obtain ⟨F_check_numbers, b_check_numbers, k_check_numbers⟩ := O_check_numbers fd_check_numbers D_check_numbers
  obtain ⟨fd_claim_worth, D_claim_worth⟩ := T.F_claim_worth
  obtain ⟨F_claim_worth, b_claim_worth, k_claim_worth⟩ := O_claim_worth fd_claim_worth D_claim_worth
  obtain ⟨fd_heights, D_heights⟩ := T.F_heights
  obtain ⟨F_heights, b_heights, k_heights⟩ := O_heights fd_heights D_heights
  generalize hB : defBody st_worth = B at F
  refine ⟨?_, F.bindsN fun _ _ _ _ _ _ us hl => match us, hl with | [_, _, _, _], _ => rfl, F.kp⟩
  refine fn_okD (lvl := 6) (n := 4) (N := [("span" : PySem.Str), ("claims" : PySem.Str), ("weights" : PySem.Str), ("prices" : PySem.Str), ("raised" : PySem.Str), ("gained" : PySem.Str), ("lost" : PySem.Str), ("place" : PySem.Str), ("claim" : PySem.Str), ("number" : PySem.Str)]) (k := ⟨clK K, none, []⟩) (b := d_worth) F sc_worth rfl fun cdv A outer s H E hr => ?_
  have hN := sc_worth.nd
  subst hB
  exact (ss_cons (s_set (i := 4) (SC.of_v (SV.of_c (c_call (m := [none, none, none]) F_heights (hr.mono (by decide)) T.g_heights k_heights b_heights (as_val (v_name (i := 0)) (as_val (v_name (i := 1)) (as_val (v_name (i := 3)) as_nil))) rfl))) (nio rfl) hN) (ss_cons (s_expr (SV.of_c (c_call (m := [none, none]) F_check_numbers (hr.mono (by decide)) T.g_check_numbers k_check_numbers b_check_numbers (as_val (v_name (i := 2)) (as_val (v_name (i := 0)) as_nil)) rfl))) (ss_cons (s_set (i := 5) (SC.of_v (v_call1 (cr_sumA rfl) c1_sumA T.b_sum PyProof.Rows.boot_sum (SV.of_c (c_lc (own := [(("place" : PySem.Str), 7), (("claim" : PySem.Str), 8)]) rfl hN (si_enum (v_name (i := 1)) T.b_enumerate) (blkOk_by (N := [("span" : PySem.Str), ("claims" : PySem.Str), ("weights" : PySem.Str), ("prices" : PySem.Str), ("raised" : PySem.Str), ("gained" : PySem.Str), ("lost" : PySem.Str), ("place" : PySem.Str), ("claim" : PySem.Str), ("number" : PySem.Str)]) (sc := sl_worth) (by decide +kernel)) (fun _ _ _ _ _ => (g_tup rfl (gs_cons (g_name (i := 7) (nio rfl) hN) (gs_cons (g_name (i := 8) (nio rfl) hN) gs_nil)))) (fun _ _ _ _ _ => ts_nil) (fun _ _ _ _ _ => (SV.of_c (c_call (m := [none, none]) F_claim_worth (hr.mono (by decide)) T.g_claim_worth k_claim_worth b_claim_worth (as_val (v_name (i := 8)) (as_val (SV.of_q (r := 0) (q_ix (ra := 3) (rb := 7) (q_name (i := 3)) (q_name (i := 7)))) as_nil)) rfl))))))) (nio rfl) hN) (ss_cons (s_set (i := 6) (SC.of_v (v_call1 (cr_sumA rfl) c1_sumA T.b_sum PyProof.Rows.boot_sum (SV.of_c (c_lc (own := [(("number" : PySem.Str), 9)]) rfl hN (si_range1 (v_name (i := 0)) T.b_range) (blkOk_by (N := [("span" : PySem.Str), ("claims" : PySem.Str), ("weights" : PySem.Str), ("prices" : PySem.Str), ("raised" : PySem.Str), ("gained" : PySem.Str), ("lost" : PySem.Str), ("place" : PySem.Str), ("claim" : PySem.Str), ("number" : PySem.Str)]) (sc := sl_worth) (by decide +kernel)) (fun _ _ _ _ _ => (g_name (i := 9) (nio rfl) hN)) (fun _ _ _ _ _ => ts_nil) (fun _ _ _ _ _ => (SV.of_q (r := 0) (q_call2 (ra := 0) (rb := 0) (call_max2 rfl) c2_max T.b_max PyProof.Rows.boot_max q_int (q_bin (ra := 0) (rb := 0) op_sub (r2_int _) (q_ix (ra := 4) (rb := 9) (q_name (i := 4)) (q_name (i := 9))) (q_ix (ra := 2) (rb := 9) (q_name (i := 2)) (q_name (i := 9))))))))))) (nio rfl) hN) (ss_cons (s_ret (SC.of_v (SV.of_q (r := 0) (q_bin (ra := 5) (rb := 6) op_sub (r2_int _) (q_name (i := 5)) (q_name (i := 6)))))) ss_nil)))))
def sl_shows_unmet : Scope := { kind := .function, names := [(("span" : PySem.Str), .local), (("claims" : PySem.Str), .local), (("prices" : PySem.Str), .local), (("value" : PySem.Str), .local), (("check_claims" : PySem.Str), .globalImplicit), (("worth" : PySem.Str), .globalImplicit), (("BadNumbers" : PySem.Str), .globalImplicit)], isGenerator := false, isCoroutine := false, more := [] }
def al_shows_unmet : Arguments := ⟨[], [⟨("span" : PySem.Str), none, ⟨189, 16, 189, 20⟩⟩, ⟨("claims" : PySem.Str), none, ⟨189, 22, 189, 28⟩⟩, ⟨("prices" : PySem.Str), none, ⟨189, 30, 189, 36⟩⟩], none, [], [], none, []⟩
theorem ea_shows_unmet : defArgs st_shows_unmet = al_shows_unmet := by kernel_rfl
theorem se_shows_unmet : defScope st_shows_unmet = sl_shows_unmet := by kernel_rfl
theorem sc_shows_unmet : FnScope [("span" : PySem.Str), ("claims" : PySem.Str), ("prices" : PySem.Str), ("value" : PySem.Str)] [("span" : PySem.Str), ("claims" : PySem.Str), ("prices" : PySem.Str)] sl_shows_unmet := ⟨rfl, rfl, rfl, by decide +kernel, rfl, by decide +kernel, by decide +kernel⟩
theorem ok_shows_unmet (T : Tx P K mg) (O_check_claims : FO_check_claims P w K mg base) (O_worth : FO_worth P w K mg base) : FO_shows_unmet P w K mg base := by
  intro fd F
  rw [se_shows_unmet, ea_shows_unmet] at F
  obtain ⟨fd_check_claims, D_check_claims⟩ := T.F_check_claims
  obtain ⟨F_check_claims, b_check_claims, k_check_claims⟩ := O_check_claims fd_check_claims D_check_claims
  obtain ⟨fd_worth, D_worth⟩ := T.F_worth
  obtain ⟨F_worth, b_worth, k_worth⟩ := O_worth fd_worth D_worth
  generalize hB : defBody st_shows_unmet = B at F
  refine ⟨?_, F.bindsN fun _ _ _ _ _ _ us hl => match us, hl with | [_, _, _], _ => rfl, F.kp⟩
  refine fn_okD (lvl := 7) (n := 3) (N := [("span" : PySem.Str), ("claims" : PySem.Str), ("prices" : PySem.Str), ("value" : PySem.Str)]) (k := ⟨clK K, none, []⟩) (b := d_shows_unmet) F sc_shows_unmet rfl fun cdv A outer s H E hr => ?_
  have hN := sc_shows_unmet.nd
  subst hB
  exact (ss_cons (s_expr (SV.of_c (c_call (m := [none, none]) F_check_claims (hr.mono (by decide)) T.g_check_claims k_check_claims b_check_claims (as_val (v_name (i := 0)) (as_val (v_name (i := 1)) as_nil)) rfl))) (ss_cons (s_try rfl rfl ⟨rfl, by decide, .inl T.g_BadNumbers⟩ T.t_BadNumbers (fun pn xe => (ss_cons (s_set (i := 3) (SC.of_v (SV.of_c (c_call (m := [none, none, none, none]) F_worth (hr.mono (by decide)) T.g_worth k_worth b_worth (as_val (v_name (i := 0)) (as_val (v_name (i := 1)) (as_val (SV.of_c (c_binV op_rep r2_rep (SV.of_c (c_lst (vs_cons (SV.of_q (r := 0) q_int) vs_nil))) (v_name (i := 0)))) (as_val (v_name (i := 2)) as_nil)))) rfl))) (nio rfl) hN) ss_nil)) (fun a oe pn => (ss_cons (s_ret (SC.of_v (SV.of_q (r := 0) q_bl))) ss_nil))) (ss_cons (s_ret (SC.of_v (SV.of_q (r := 0) (q_cmp (ra := 3) (rb := 0) op_gt (r2_bool _) (q_name (i := 3)) q_int)))) ss_nil)))
def sl__law_ring_holds : Scope := { kind := .function, names := [(("stream" : PySem.Str), .local), (("span" : PySem.Str), .local), (("claims" : PySem.Str), .local), (("ring" : PySem.Str), .local), (("turn" : PySem.Str), .local), (("shorter" : PySem.Str), .local), (("due" : PySem.Str), .local), (("k" : PySem.Str), .cell), (("often" : PySem.Str), .local), (("prices" : PySem.Str), .local), (("isinstance" : PySem.Str), .globalImplicit), (("list" : PySem.Str), .globalImplicit), (("_law_is_bad" : PySem.Str), .globalImplicit), (("shows_contrary" : PySem.Str), .globalImplicit), (("_law_draw" : PySem.Str), .globalImplicit), (("len" : PySem.Str), .globalImplicit), (("tuple" : PySem.Str), .globalImplicit), (("_law_says" : PySem.Str), .globalImplicit), (("range" : PySem.Str), .globalImplicit), (("ring_prices" : PySem.Str), .globalImplicit), (("all" : PySem.Str), .globalImplicit), (("_law_worth" : PySem.Str), .globalImplicit), (("shows_unmet" : PySem.Str), .globalImplicit)], isGenerator := false, isCoroutine := false, more := [(("fast" : PySem.Str), .str ("stream" : PySem.Str)), (("fast" : PySem.Str), .str ("span" : PySem.Str)), (("fast" : PySem.Str), .str ("claims" : PySem.Str)), (("fast" : PySem.Str), .str ("ring" : PySem.Str)), (("fast" : PySem.Str), .str ("turn" : PySem.Str)), (("fast" : PySem.Str), .str ("shorter" : PySem.Str)), (("fast" : PySem.Str), .str ("due" : PySem.Str)), (("fast" : PySem.Str), .str ("k" : PySem.Str)), (("fast" : PySem.Str), .str ("arc" : PySem.Str)), (("fast" : PySem.Str), .str ("often" : PySem.Str)), (("fast" : PySem.Str), .str ("prices" : PySem.Str)), (("fast" : PySem.Str), .str ("price" : PySem.Str))] }
def al__law_ring_holds : Arguments := ⟨[], [⟨("stream" : PySem.Str), none, ⟨323, 20, 323, 26⟩⟩, ⟨("span" : PySem.Str), none, ⟨323, 28, 323, 32⟩⟩, ⟨("claims" : PySem.Str), none, ⟨323, 34, 323, 40⟩⟩, ⟨("ring" : PySem.Str), none, ⟨323, 42, 323, 46⟩⟩], none, [], [], none, []⟩
theorem ea__law_ring_holds : defArgs st__law_ring_holds = al__law_ring_holds := by kernel_rfl
theorem se__law_ring_holds : defScope st__law_ring_holds = sl__law_ring_holds := by kernel_rfl
theorem sc__law_ring_holds : FnScope [("stream" : PySem.Str), ("span" : PySem.Str), ("claims" : PySem.Str), ("ring" : PySem.Str), ("turn" : PySem.Str), ("shorter" : PySem.Str), ("due" : PySem.Str), ("k" : PySem.Str), ("often" : PySem.Str), ("prices" : PySem.Str), ("arc" : PySem.Str), ("price" : PySem.Str)] [("stream" : PySem.Str), ("span" : PySem.Str), ("claims" : PySem.Str), ("ring" : PySem.Str)] sl__law_ring_holds := ⟨rfl, rfl, rfl, by decide +kernel, rfl, by decide +kernel, by decide +kernel⟩
theorem ok__law_ring_holds (T : Tx P K mg) (O__law_draw : FO__law_draw P w K mg base) (O__law_is_bad : FO__law_is_bad P w K mg base) (O__law_is_integer : FO__law_is_integer P w K mg base) (O__law_says : FO__law_says P w K mg base) (O__law_worth : FO__law_worth P w K mg base) (O_ring_prices : FO_ring_prices P w K mg base) (O_shows_contrary : FO_shows_contrary P w K mg base) (O_shows_unmet : FO_shows_unmet P w K mg base) : FO__law_ring_holds P w K mg base := by
  intro fd F
  rw [se__law_ring_holds, ea__law_ring_holds] at F
  obtain ⟨fd__law_draw, D__law_draw⟩ := T.F__law_draw
  obtain ⟨F__law_draw, b__law_draw, k__law_draw⟩ := O__law_draw fd__law_draw D__law_draw
  obtain ⟨fd__law_is_bad, D__law_is_bad⟩ := T.F__law_is_bad
  obtain ⟨F__law_is_bad, b__law_is_bad, k__law_is_bad⟩ := O__law_is_bad fd__law_is_bad D__law_is_bad
  obtain ⟨fd__law_is_integer, D__law_is_integer⟩ := T.F__law_is_integer
  obtain ⟨F__law_is_integer, b__law_is_integer, k__law_is_integer⟩ := O__law_is_integer fd__law_is_integer D__law_is_integer
  obtain ⟨fd__law_says, D__law_says⟩ := T.F__law_says
  obtain ⟨F__law_says, b__law_says, k__law_says⟩ := O__law_says fd__law_says D__law_says
  obtain ⟨fd__law_worth, D__law_worth⟩ := T.F__law_worth
  obtain ⟨F__law_worth, b__law_worth, k__law_worth⟩ := O__law_worth fd__law_worth D__law_worth
  obtain ⟨fd_ring_prices, D_ring_prices⟩ := T.F_ring_prices
  obtain ⟨F_ring_prices, b_ring_prices, k_ring_prices⟩ := O_ring_prices fd_ring_prices D_ring_prices
  obtain ⟨fd_shows_contrary, D_shows_contrary⟩ := T.F_shows_contrary
  obtain ⟨F_shows_contrary, b_shows_contrary, k_shows_contrary⟩ := O_shows_contrary fd_shows_contrary D_shows_contrary
  obtain ⟨fd_shows_unmet, D_shows_unmet⟩ := T.F_shows_unmet
  obtain ⟨F_shows_unmet, b_shows_unmet, k_shows_unmet⟩ := O_shows_unmet fd_shows_unmet D_shows_unmet
  generalize hB : defBody st__law_ring_holds = B at F
  refine ⟨?_, F.bindsN fun _ _ _ _ _ _ us hl => match us, hl with | [_, _, _, _], _ => rfl, F.kp⟩
  refine fn_okD (lvl := 8) (n := 4) (N := [("stream" : PySem.Str), ("span" : PySem.Str), ("claims" : PySem.Str), ("ring" : PySem.Str), ("turn" : PySem.Str), ("shorter" : PySem.Str), ("due" : PySem.Str), ("k" : PySem.Str), ("often" : PySem.Str), ("prices" : PySem.Str), ("arc" : PySem.Str), ("price" : PySem.Str)]) (k := ⟨clK K, none, [0]⟩) (b := d__law_ring_holds_k30) F sc__law_ring_holds rfl fun cdv A outer s H E hr => ?_
  have hN := sc__law_ring_holds.nd
  subst hB
  exact (ss_cons (s_if (ST.of_w (w_or (t_not (ST.of_v (SV.of_q (r := 0) (q_isi (ra := 3) .list T.b_isinstance T.b_list (by decide +kernel) (q_name (i := 3)))))) (w_or1 (t_not (ST.of_v (SV.of_c (c_call (m := [none, none, none]) F__law_is_bad (hr.mono (by decide)) T.g__law_is_bad k__law_is_bad b__law_is_bad (as_val (v_name (i := 1)) (as_val (v_name (i := 2)) (as_val (v_name (i := 3)) as_nil))) rfl))))))) (ss_cons (s_ret (SC.of_v (SV.of_q (r := 0) q_bl))) ss_nil) ss_nil) (ss_cons (s_if (t_cmpV op_isnotB r2_notB (SV.of_c (c_call (m := [none, none, none]) F_shows_contrary (hr.mono (by decide)) T.g_shows_contrary k_shows_contrary b_shows_contrary (as_val (v_name (i := 1)) (as_val (SV.of_c (c_callTQ (ra := 2) call_list_of c1_list T.b_list PyProof.Rows.boot_list (q_name (i := 2)))) (as_val (SV.of_c (c_callTQ (ra := 3) call_list_of c1_list T.b_list PyProof.Rows.boot_list (q_name (i := 3)))) as_nil))) rfl)) (SV.of_q (r := 0) q_bl)) (ss_cons (s_ret (SC.of_v (SV.of_q (r := 0) q_bl))) ss_nil) ss_nil) (ss_cons (s_set (i := 4) (SC.of_v (SV.of_c (c_call (m := [some 0, none]) F__law_draw (hr.mono (by decide)) T.g__law_draw k__law_draw b__law_draw (as_slot (j := 0) (as_val (SV.of_q (r := 0) (q_call1 (ra := 3) call_len c1_len T.b_len PySem.boot_len (q_name (i := 3)))) as_nil)) rfl))) (nio rfl) hN) (ss_cons (s_if (t_cmpV op_isnotB r2_notB (SV.of_c (c_call (m := [none, none, none]) F_shows_contrary (hr.mono (by decide)) T.g_shows_contrary k_shows_contrary b_shows_contrary (as_val (v_name (i := 1)) (as_val (SV.of_c (c_callTQ (ra := 2) call_list_of c1_list T.b_list PyProof.Rows.boot_list (q_name (i := 2)))) (as_val (SV.of_c (c_callTV call_tuple_of c1_tuple T.b_tuple PyProof.Rows.boot_tuple (SV.of_c (c_binV op_cat r2_cat (SV.of_c (c_slN (i := 3) (b_some (v_name (i := 4))) b_none)) (SV.of_c (c_slN (i := 3) b_none (b_some (v_name (i := 4))))))))) as_nil))) rfl)) (SV.of_q (r := 0) q_bl)) (ss_cons (s_ret (SC.of_v (SV.of_q (r := 0) q_bl))) ss_nil) ss_nil) (ss_cons (s_set (i := 5) (SC.of_v (SV.of_c (c_binV op_cat r2_cat (SV.of_c (c_slN (i := 3) b_none (b_some (v_name (i := 4))))) (SV.of_c (c_slN (i := 3) (b_some (SV.of_q (r := 0) (q_bin (ra := 4) (rb := 0) op_add (r2_int _) (q_name (i := 4)) q_int))) b_none))))) (nio rfl) hN) (ss_cons (s_if (t_not (ST.of_v (SV.of_c (c_call (m := [none, none]) F__law_says (hr.mono (by decide)) T.g__law_says k__law_says b__law_says (as_val (SV.of_c (c_call (m := [none, none, none]) F_shows_contrary (hr.mono (by decide)) T.g_shows_contrary k_shows_contrary b_shows_contrary (as_val (v_name (i := 1)) (as_val (SV.of_c (c_callTQ (ra := 2) call_list_of c1_list T.b_list PyProof.Rows.boot_list (q_name (i := 2)))) (as_val (v_name (i := 5)) as_nil))) rfl)) (as_val (SV.of_c (c_call (m := [none, none, none]) F__law_is_bad (hr.mono (by decide)) T.g__law_is_bad k__law_is_bad b__law_is_bad (as_val (v_name (i := 1)) (as_val (v_name (i := 2)) (as_val (v_name (i := 5)) as_nil))) rfl)) as_nil)) rfl)))) (ss_cons (s_ret (SC.of_v (SV.of_q (r := 0) q_bl))) ss_nil) ss_nil) (ss_cons (s_set (i := 6) (c_lst vs_nil) (nio rfl) hN) (ss_cons (s_for (si_range1 (SV.of_q (r := 0) (q_call1 (ra := 2) call_len c1_len T.b_len PySem.boot_len (q_name (i := 2)))) T.b_range) (g_name (i := 7) (nio rfl) hN) (ss_cons (s_set (i := 8) (SC.of_v (v_call1 call_len c1_len T.b_len PySem.boot_len (SV.of_c (c_lc (own := [(("arc" : PySem.Str), 10)]) rfl hN (si_val (v_name (i := 3))) (blkOk_by (N := [("stream" : PySem.Str), ("span" : PySem.Str), ("claims" : PySem.Str), ("ring" : PySem.Str), ("turn" : PySem.Str), ("shorter" : PySem.Str), ("due" : PySem.Str), ("k" : PySem.Str), ("often" : PySem.Str), ("prices" : PySem.Str), ("arc" : PySem.Str), ("price" : PySem.Str)]) (sc := sl__law_ring_holds) (by decide +kernel)) (fun _ _ _ _ _ => (g_name (i := 10) (nio rfl) hN)) (fun _ _ _ _ _ => (ts_one (t_cmpV (op_eqF hr.units) r2_eq (v_name (i := 10)) (v_tup (vs_cons (SV.of_q (r := 0) q_str) (vs_cons (v_name (i := 7)) vs_nil)))))) (fun _ _ _ _ _ => (v_name (i := 10))))))) (nio rfl) hN) (ss_cons (s_expr (v_append (i := 6) (v_bin op_sub (r2_int _) (v_name (i := 8)) (v_call1 call_len c1_len T.b_len PySem.boot_len (SV.of_c (c_lc (own := [(("arc" : PySem.Str), 10)]) rfl hN (si_val (v_name (i := 3))) (blkOk_by (N := [("stream" : PySem.Str), ("span" : PySem.Str), ("claims" : PySem.Str), ("ring" : PySem.Str), ("turn" : PySem.Str), ("shorter" : PySem.Str), ("due" : PySem.Str), ("k" : PySem.Str), ("often" : PySem.Str), ("prices" : PySem.Str), ("arc" : PySem.Str), ("price" : PySem.Str)]) (sc := sl__law_ring_holds) (by decide +kernel)) (fun _ _ _ _ _ => (g_name (i := 10) (nio rfl) hN)) (fun _ _ _ _ _ => (ts_one (t_cmpV (op_eqF hr.units) r2_eq (v_name (i := 10)) (v_tup (vs_cons (SV.of_q (r := 0) q_str) (vs_cons (v_name (i := 7)) vs_nil)))))) (fun _ _ _ _ _ => (v_name (i := 10))))))))) ss_nil)) rfl) (ss_cons (s_set (i := 9) (SC.of_v (SV.of_c (c_call (m := [none, none, none]) F_ring_prices (hr.mono (by decide)) T.g_ring_prices k_ring_prices b_ring_prices (as_val (v_name (i := 1)) (as_val (SV.of_c (c_callTQ (ra := 2) call_list_of c1_list T.b_list PyProof.Rows.boot_list (q_name (i := 2)))) (as_val (SV.of_c (c_callTQ (ra := 3) call_list_of c1_list T.b_list PyProof.Rows.boot_list (q_name (i := 3)))) as_nil))) rfl))) (nio rfl) hN) (ss_cons (s_if (ST.of_w (w_or (t_not (ST.of_v (SV.of_q (r := 0) (q_isi (ra := 9) .list T.b_isinstance T.b_list (by decide +kernel) (q_name (i := 9)))))) (w_or (t_cmpQ (ra := 9) (rb := 6) (op_neF hr.units) r2_ne (q_name (i := 9)) (q_name (i := 6))) (w_or1 (t_not (ST.of_v (v_call1 (cr_all rfl) c1_all T.b_all PyProof.Rows.boot_all (SV.of_c (c_lc (own := [(("price" : PySem.Str), 11)]) rfl hN (si_val (v_name (i := 9))) (blkOk_by (N := [("stream" : PySem.Str), ("span" : PySem.Str), ("claims" : PySem.Str), ("ring" : PySem.Str), ("turn" : PySem.Str), ("shorter" : PySem.Str), ("due" : PySem.Str), ("k" : PySem.Str), ("often" : PySem.Str), ("prices" : PySem.Str), ("arc" : PySem.Str), ("price" : PySem.Str)]) (sc := sl__law_ring_holds) (by decide +kernel)) (fun _ _ _ _ _ => (g_name (i := 11) (nio rfl) hN)) (fun _ _ _ _ _ => ts_nil) (fun _ _ _ _ _ => (SV.of_c (c_call (m := [none]) F__law_is_integer (hr.mono (by decide)) T.g__law_is_integer k__law_is_integer b__law_is_integer (as_val (v_name (i := 11)) as_nil) rfl)))))))))))) (ss_cons (s_ret (SC.of_v (SV.of_q (r := 0) q_bl))) ss_nil) ss_nil) (ss_cons (s_ret (SC.of_v (v_and (v_cmp op_gt (r2_bool _) (SV.of_c (c_call (m := [none, none, none]) F__law_worth (hr.mono (by decide)) T.g__law_worth k__law_worth b__law_worth (as_val (v_name (i := 1)) (as_val (v_name (i := 2)) (as_val (v_name (i := 6)) as_nil))) rfl)) (SV.of_q (r := 0) q_int)) (v_one (v_cmp op_isB r2_isB (SV.of_c (c_call (m := [none, none, none]) F_shows_unmet (hr.mono (by decide)) T.g_shows_unmet k_shows_unmet b_shows_unmet (as_val (v_name (i := 1)) (as_val (SV.of_c (c_callTQ (ra := 2) call_list_of c1_list T.b_list PyProof.Rows.boot_list (q_name (i := 2)))) (as_val (SV.of_c (c_callTQ (ra := 6) call_list_of c1_list T.b_list PyProof.Rows.boot_list (q_name (i := 6)))) as_nil))) rfl)) (SV.of_q (r := 0) q_bl)))))) ss_nil)))))))))))
def sl__law_no_arc : Scope := { kind := .function, names := [(("span" : PySem.Str), .local), (("claims" : PySem.Str), .local), (("raised" : PySem.Str), .local), (("ring_prices" : PySem.Str), .globalImplicit), (("len" : PySem.Str), .globalImplicit), (("BadArc" : PySem.Str), .globalImplicit)], isGenerator := false, isCoroutine := false, more := [] }
def al__law_no_arc : Arguments := ⟨[], [⟨("span" : PySem.Str), none, ⟨342, 16, 342, 20⟩⟩, ⟨("claims" : PySem.Str), none, ⟨342, 22, 342, 28⟩⟩], none, [], [], none, []⟩
theorem ea__law_no_arc : defArgs st__law_no_arc = al__law_no_arc := by kernel_rfl
theorem se__law_no_arc : defScope st__law_no_arc = sl__law_no_arc := by kernel_rfl
theorem sc__law_no_arc : FnScope [("span" : PySem.Str), ("claims" : PySem.Str), ("raised" : PySem.Str)] [("span" : PySem.Str), ("claims" : PySem.Str)] sl__law_no_arc := ⟨rfl, rfl, rfl, by decide +kernel, rfl, by decide +kernel, by decide +kernel⟩
theorem ok__law_no_arc (T : Tx P K mg) (O_ring_prices : FO_ring_prices P w K mg base) : FO__law_no_arc P w K mg base := by
  intro fd F
  rw [se__law_no_arc, ea__law_no_arc] at F
  obtain ⟨fd_ring_prices, D_ring_prices⟩ := T.F_ring_prices
  obtain ⟨F_ring_prices, b_ring_prices, k_ring_prices⟩ := O_ring_prices fd_ring_prices D_ring_prices
  generalize hB : defBody st__law_no_arc = B at F
  refine ⟨?_, F.bindsN fun _ _ _ _ _ _ us hl => match us, hl with | [_, _], _ => rfl, F.kp⟩
  refine fn_okD (lvl := 6) (n := 2) (N := [("span" : PySem.Str), ("claims" : PySem.Str), ("raised" : PySem.Str)]) (k := ⟨clK K, none, []⟩) (b := d__law_no_arc) F sc__law_no_arc rfl fun cdv A outer s H E hr => ?_
  have hN := sc__law_no_arc.nd
  subst hB
  exact (ss_cons (s_tryAs (i := 2) (h := nio rfl) rfl rfl hN rfl rfl ⟨rfl, by decide, .inl T.g_BadArc⟩ T.t_BadArc (fun pn xe => (ss_cons (s_expr (SV.of_c (c_call (m := [none, none, none]) F_ring_prices (hr.mono (by decide)) T.g_ring_prices k_ring_prices b_ring_prices (as_val (v_name (i := 0)) (as_val (v_name (i := 1)) (as_val (SV.of_c (c_lst (vs_cons (v_tup (vs_cons (SV.of_q (r := 0) q_str) (vs_cons (SV.of_q (r := 0) (q_call1 (ra := 1) call_len c1_len T.b_len PySem.boot_len (q_name (i := 1)))) vs_nil))) vs_nil))) as_nil))) rfl))) ss_nil)) (fun a oe cls d pn hz hd => (ss_cons (s_ret (SC.of_v (SV.of_q (r := 0) (q_cmp (ra := 0) (rb := 0) (op_eqF hr.units) r2_eq (q_exF (c := 6) (i := 2) T.s_BadArc hz hd rfl) q_int)))) ss_nil))) (ss_cons (s_ret (SC.of_v (SV.of_q (r := 0) q_bl))) ss_nil))
def sl_law : Scope := { kind := .function, names := [(("script" : PySem.Str), .local), (("stream" : PySem.Str), .cell), (("span" : PySem.Str), .local), (("hidden" : PySem.Str), .local), (("claims" : PySem.Str), .local), (("met" : PySem.Str), .local), (("ring" : PySem.Str), .local), (("told" : PySem.Str), .local), (("prices" : PySem.Str), .local), (("full" : PySem.Str), .local), (("plain" : PySem.Str), .local), (("worst" : PySem.Str), .local), (("_law_stream" : PySem.Str), .globalImplicit), (("_law_case" : PySem.Str), .globalImplicit), (("_law_draw" : PySem.Str), .globalImplicit), (("len" : PySem.Str), .globalImplicit), (("_law_fitting" : PySem.Str), .globalImplicit), (("bad_ring" : PySem.Str), .globalImplicit), (("list" : PySem.Str), .globalImplicit), (("_law_raised_ring" : PySem.Str), .globalImplicit), (("_law_is_bad" : PySem.Str), .globalImplicit), (("_law_ring_holds" : PySem.Str), .globalImplicit), (("_law_says" : PySem.Str), .globalImplicit), (("shows_unmet" : PySem.Str), .globalImplicit), (("_law_worth" : PySem.Str), .globalImplicit), (("_law_no_arc" : PySem.Str), .globalImplicit), (("shows_contrary" : PySem.Str), .globalImplicit)], isGenerator := false, isCoroutine := false, more := [(("fast" : PySem.Str), .str ("script" : PySem.Str)), (("fast" : PySem.Str), .str ("stream" : PySem.Str)), (("fast" : PySem.Str), .str ("span" : PySem.Str)), (("fast" : PySem.Str), .str ("hidden" : PySem.Str)), (("fast" : PySem.Str), .str ("claims" : PySem.Str)), (("fast" : PySem.Str), .str ("met" : PySem.Str)), (("fast" : PySem.Str), .str ("ring" : PySem.Str)), (("fast" : PySem.Str), .str ("told" : PySem.Str)), (("fast" : PySem.Str), .str ("claim" : PySem.Str)), (("fast" : PySem.Str), .str ("prices" : PySem.Str)), (("fast" : PySem.Str), .str ("full" : PySem.Str)), (("fast" : PySem.Str), .str ("plain" : PySem.Str)), (("fast" : PySem.Str), .str ("worst" : PySem.Str))] }
def al_law : Arguments := ⟨[], [⟨("script" : PySem.Str), none, ⟨348, 8, 348, 14⟩⟩], none, [], [], none, []⟩
theorem ea_law : defArgs st_law = al_law := by kernel_rfl
theorem se_law : defScope st_law = sl_law := by kernel_rfl
theorem sc_law : FnScope [("script" : PySem.Str), ("stream" : PySem.Str), ("span" : PySem.Str), ("hidden" : PySem.Str), ("claims" : PySem.Str), ("met" : PySem.Str), ("ring" : PySem.Str), ("told" : PySem.Str), ("prices" : PySem.Str), ("full" : PySem.Str), ("plain" : PySem.Str), ("worst" : PySem.Str), ("claim" : PySem.Str)] [("script" : PySem.Str)] sl_law := ⟨rfl, rfl, rfl, by decide +kernel, rfl, by decide +kernel, by decide +kernel⟩
theorem ok_law (T : Tx P K mg) (O__law_case : FO__law_case P w K mg base) (O__law_draw : FO__law_draw P w K mg base) (O__law_fitting : FO__law_fitting P w K mg base) (O__law_is_bad : FO__law_is_bad P w K mg base) (O__law_no_arc : FO__law_no_arc P w K mg base) (O__law_raised_ring : FO__law_raised_ring P w K mg base) (O__law_ring_holds : FO__law_ring_holds P w K mg base) (O__law_says : FO__law_says P w K mg base) (O__law_stream : FO__law_stream P w K mg base) (O__law_worth : FO__law_worth P w K mg base) (O_bad_ring : FO_bad_ring P w K mg base) (O_shows_contrary : FO_shows_contrary P w K mg base) (O_shows_unmet : FO_shows_unmet P w K mg base) : FO_law P w K mg base := by
  intro fd F
  rw [se_law, ea_law] at F
  obtain ⟨fd__law_case, D__law_case⟩ := T.F__law_case
  obtain ⟨F__law_case, b__law_case, k__law_case⟩ := O__law_case fd__law_case D__law_case
  obtain ⟨fd__law_draw, D__law_draw⟩ := T.F__law_draw
  obtain ⟨F__law_draw, b__law_draw, k__law_draw⟩ := O__law_draw fd__law_draw D__law_draw
  obtain ⟨fd__law_fitting, D__law_fitting⟩ := T.F__law_fitting
  obtain ⟨F__law_fitting, b__law_fitting, k__law_fitting⟩ := O__law_fitting fd__law_fitting D__law_fitting
  obtain ⟨fd__law_is_bad, D__law_is_bad⟩ := T.F__law_is_bad
  obtain ⟨F__law_is_bad, b__law_is_bad, k__law_is_bad⟩ := O__law_is_bad fd__law_is_bad D__law_is_bad
  obtain ⟨fd__law_no_arc, D__law_no_arc⟩ := T.F__law_no_arc
  obtain ⟨F__law_no_arc, b__law_no_arc, k__law_no_arc⟩ := O__law_no_arc fd__law_no_arc D__law_no_arc
  obtain ⟨fd__law_raised_ring, D__law_raised_ring⟩ := T.F__law_raised_ring
  obtain ⟨F__law_raised_ring, b__law_raised_ring, k__law_raised_ring⟩ := O__law_raised_ring fd__law_raised_ring D__law_raised_ring
  obtain ⟨fd__law_ring_holds, D__law_ring_holds⟩ := T.F__law_ring_holds
  obtain ⟨F__law_ring_holds, b__law_ring_holds, k__law_ring_holds⟩ := O__law_ring_holds fd__law_ring_holds D__law_ring_holds
  obtain ⟨fd__law_says, D__law_says⟩ := T.F__law_says
  obtain ⟨F__law_says, b__law_says, k__law_says⟩ := O__law_says fd__law_says D__law_says
  obtain ⟨fd__law_stream, D__law_stream⟩ := T.F__law_stream
  obtain ⟨F__law_stream, b__law_stream, k__law_stream⟩ := O__law_stream fd__law_stream D__law_stream
  obtain ⟨fd__law_worth, D__law_worth⟩ := T.F__law_worth
  obtain ⟨F__law_worth, b__law_worth, k__law_worth⟩ := O__law_worth fd__law_worth D__law_worth
  obtain ⟨fd_bad_ring, D_bad_ring⟩ := T.F_bad_ring
  obtain ⟨F_bad_ring, b_bad_ring, k_bad_ring⟩ := O_bad_ring fd_bad_ring D_bad_ring
  obtain ⟨fd_shows_contrary, D_shows_contrary⟩ := T.F_shows_contrary
  obtain ⟨F_shows_contrary, b_shows_contrary, k_shows_contrary⟩ := O_shows_contrary fd_shows_contrary D_shows_contrary
  obtain ⟨fd_shows_unmet, D_shows_unmet⟩ := T.F_shows_unmet
  obtain ⟨F_shows_unmet, b_shows_unmet, k_shows_unmet⟩ := O_shows_unmet fd_shows_unmet D_shows_unmet
  generalize hB : defBody st_law = B at F
  refine ⟨?_, F.bindsN fun _ _ _ _ _ _ us hl => match us, hl with | [_], _ => rfl, F.kp⟩
  refine fn_okD (lvl := 11) (n := 1) (N := [("script" : PySem.Str), ("stream" : PySem.Str), ("span" : PySem.Str), ("hidden" : PySem.Str), ("claims" : PySem.Str), ("met" : PySem.Str), ("ring" : PySem.Str), ("told" : PySem.Str), ("prices" : PySem.Str), ("full" : PySem.Str), ("plain" : PySem.Str), ("worst" : PySem.Str), ("claim" : PySem.Str)]) (k := ⟨clK K, none, [0]⟩) (b := d_law_k30) F sc_law rfl fun cdv A outer s H E hr => ?_
  have hN := sc_law.nd
  subst hB
  exact (ss_cons (s_set (i := 1) (c_call (m := [some 0]) F__law_stream (hr.mono (by decide)) T.g__law_stream k__law_stream b__law_stream (as_slot (j := 0) as_nil) rfl) (nio rfl) hN) (ss_cons (s_asg (SV.of_c (c_call (m := [some 1, none]) F__law_case (hr.mono (by decide)) T.g__law_case k__law_case b__law_case (as_slot (j := 1) (as_val (v_bin op_add (r2_int _) (SV.of_q (r := 0) q_int) (v_bin op_mul (r2_intc bMul_ok _) (SV.of_q (r := 0) q_int) (SV.of_c (c_call (m := [some 1, none]) F__law_draw (hr.mono (by decide)) T.g__law_draw k__law_draw b__law_draw (as_slot (j := 1) (as_val (SV.of_q (r := 0) q_int) as_nil)) rfl)))) as_nil)) rfl)) (g_tup rfl (gs_cons (g_name (i := 2) (nio rfl) hN) (gs_cons (g_name (i := 3) (nio rfl) hN) (gs_cons (g_name (i := 4) (nio rfl) hN) gs_nil))))) (ss_cons (s_set (i := 5) (SC.of_v (v_cmp op_gt (r2_bool _) (v_call1 call_len c1_len T.b_len PySem.boot_len (SV.of_c (c_call (m := [none, none]) F__law_fitting (hr.mono (by decide)) T.g__law_fitting k__law_fitting b__law_fitting (as_val (v_name (i := 2)) (as_val (v_name (i := 4)) as_nil)) rfl))) (SV.of_q (r := 0) q_int))) (nio rfl) hN) (ss_cons (s_set (i := 6) (SC.of_v (SV.of_c (c_call (m := [none, none]) F_bad_ring (hr.mono (by decide)) T.g_bad_ring k_bad_ring b_bad_ring (as_val (v_name (i := 2)) (as_val (SV.of_c (c_callTQ (ra := 4) call_list_of c1_list T.b_list PyProof.Rows.boot_list (q_name (i := 4)))) as_nil)) rfl))) (nio rfl) hN) (ss_cons (s_set (i := 7) (SC.of_v (SV.of_c (c_call (m := [none, none]) F__law_raised_ring (hr.mono (by decide)) T.g__law_raised_ring k__law_raised_ring b__law_raised_ring (as_val (v_name (i := 2)) (as_val (SV.of_c (c_callTQ (ra := 4) call_list_of c1_list T.b_list PyProof.Rows.boot_list (q_name (i := 4)))) as_nil)) rfl))) (nio rfl) hN) (ss_cons (s_if (ST.of_w (w_and (ST.of_v (v_name (i := 5))) (w_and1 (ST.of_w (w_or (t_cmpQ (ra := 6) (rb := 0) op_notN r2_notN (q_name (i := 6)) q_non) (w_or1 (t_cmpQ (ra := 7) (rb := 0) op_notN r2_notN (q_name (i := 7)) q_non))))))) (ss_cons (s_ret (SC.of_v (SV.of_q (r := 0) q_bl))) ss_nil) ss_nil) (ss_cons (s_if (t_not (ST.of_v (v_name (i := 5)))) (ss_cons (s_if (ST.of_w (w_or (t_cmpQ (ra := 6) (rb := 0) op_isN r2_isN (q_name (i := 6)) q_non) (w_or (t_cmpQ (ra := 7) (rb := 0) op_isN r2_isN (q_name (i := 7)) q_non) (w_or1 (t_not (ST.of_v (SV.of_c (c_call (m := [none, none, none]) F__law_is_bad (hr.mono (by decide)) T.g__law_is_bad k__law_is_bad b__law_is_bad (as_val (v_name (i := 2)) (as_val (v_name (i := 4)) (as_val (v_name (i := 7)) as_nil))) rfl)))))))) (ss_cons (s_ret (SC.of_v (SV.of_q (r := 0) q_bl))) ss_nil) ss_nil) (ss_cons (s_if (t_not (ST.of_v (SV.of_c (c_call (m := [some 1, none, none, none]) F__law_ring_holds (hr.mono (by decide)) T.g__law_ring_holds k__law_ring_holds b__law_ring_holds (as_slot (j := 1) (as_val (v_name (i := 2)) (as_val (v_name (i := 4)) (as_val (v_name (i := 6)) as_nil)))) rfl)))) (ss_cons (s_ret (SC.of_v (SV.of_q (r := 0) q_bl))) ss_nil) ss_nil) ss_nil)) ss_nil) (ss_cons (s_setLc (i := 8) (own := [(("claim" : PySem.Str), 12)]) rfl hN (si_val (v_name (i := 4))) (blkOk_by (N := [("script" : PySem.Str), ("stream" : PySem.Str), ("span" : PySem.Str), ("hidden" : PySem.Str), ("claims" : PySem.Str), ("met" : PySem.Str), ("ring" : PySem.Str), ("told" : PySem.Str), ("prices" : PySem.Str), ("full" : PySem.Str), ("plain" : PySem.Str), ("worst" : PySem.Str), ("claim" : PySem.Str)]) (sc := sl_law) (by decide +kernel)) (fun _ _ _ _ _ => (g_name (i := 12) (nio rfl) hN)) (fun _ _ _ _ _ => ts_nil) (fun _ _ _ _ _ => (v_bin op_sub (r2_int _) (SV.of_c (c_call (m := [some 1, none]) F__law_draw (hr.mono (by decide)) T.g__law_draw k__law_draw b__law_draw (as_slot (j := 1) (as_val (SV.of_q (r := 0) q_int) as_nil)) rfl)) (SV.of_q (r := 0) q_int))) (sw_true rfl rfl rfl (by decide +kernel))) (ss_cons (s_if (t_not (ST.of_v (SV.of_c (c_call (m := [none, none]) F__law_says (hr.mono (by decide)) T.g__law_says k__law_says b__law_says (as_val (SV.of_c (c_call (m := [none, none, none]) F_shows_unmet (hr.mono (by decide)) T.g_shows_unmet k_shows_unmet b_shows_unmet (as_val (v_name (i := 2)) (as_val (SV.of_c (c_callTQ (ra := 4) call_list_of c1_list T.b_list PyProof.Rows.boot_list (q_name (i := 4)))) (as_val (SV.of_c (c_callTQ (ra := 8) call_list_of c1_list T.b_list PyProof.Rows.boot_list (q_name (i := 8)))) as_nil))) rfl)) (as_val (v_cmp op_gt (r2_bool _) (SV.of_c (c_call (m := [none, none, none]) F__law_worth (hr.mono (by decide)) T.g__law_worth k__law_worth b__law_worth (as_val (v_name (i := 2)) (as_val (v_name (i := 4)) (as_val (v_name (i := 8)) as_nil))) rfl)) (SV.of_q (r := 0) q_int)) as_nil)) rfl)))) (ss_cons (s_ret (SC.of_v (SV.of_q (r := 0) q_bl))) ss_nil) ss_nil) (ss_cons (s_if (ST.of_w (w_and (ST.of_v (v_name (i := 5))) (w_and1 (t_cmpV op_gt (r2_bool _) (SV.of_c (c_call (m := [none, none, none]) F__law_worth (hr.mono (by decide)) T.g__law_worth k__law_worth b__law_worth (as_val (v_name (i := 2)) (as_val (v_name (i := 4)) (as_val (v_name (i := 8)) as_nil))) rfl)) (SV.of_q (r := 0) q_int))))) (ss_cons (s_ret (SC.of_v (SV.of_q (r := 0) q_bl))) ss_nil) ss_nil) (ss_cons (s_if (ST.of_w (w_or (t_cmpV op_isnotB r2_notB (SV.of_c (c_call (m := [none, none, none]) F_shows_unmet (hr.mono (by decide)) T.g_shows_unmet k_shows_unmet b_shows_unmet (as_val (v_name (i := 2)) (as_val (SV.of_c (c_callTQ (ra := 4) call_list_of c1_list T.b_list PyProof.Rows.boot_list (q_name (i := 4)))) (as_val (SV.of_c (c_binV op_cat r2_cat (v_name (i := 8)) (SV.of_c (c_lst (vs_cons (SV.of_q (r := 0) q_int) vs_nil))))) as_nil))) rfl)) (SV.of_q (r := 0) q_bl)) (w_or1 (t_not (ST.of_v (SV.of_c (c_call (m := [none, none]) F__law_no_arc (hr.mono (by decide)) T.g__law_no_arc k__law_no_arc b__law_no_arc (as_val (v_name (i := 2)) (as_val (SV.of_c (c_callTQ (ra := 4) call_list_of c1_list T.b_list PyProof.Rows.boot_list (q_name (i := 4)))) as_nil)) rfl))))))) (ss_cons (s_ret (SC.of_v (SV.of_q (r := 0) q_bl))) ss_nil) ss_nil) (ss_cons (s_if (t_cmpV op_isnotB r2_notB (SV.of_c (c_call (m := [none, none, none]) F_shows_contrary (hr.mono (by decide)) T.g_shows_contrary k_shows_contrary b_shows_contrary (as_val (v_name (i := 2)) (as_val (SV.of_c (c_callTQ (ra := 4) call_list_of c1_list T.b_list PyProof.Rows.boot_list (q_name (i := 4)))) (as_val (SV.of_c (c_lst vs_nil)) as_nil))) rfl)) (SV.of_q (r := 0) q_bl)) (ss_cons (s_ret (SC.of_v (SV.of_q (r := 0) q_bl))) ss_nil) ss_nil) (ss_cons (s_set (i := 9) (SC.of_v (SV.of_c (c_binV op_cat r2_cat (v_name (i := 4)) (SV.of_c (c_lst (vs_cons (v_tup (vs_cons (SV.of_q (r := 0) q_int) (vs_cons (SV.of_q (r := 0) q_int) (vs_cons (SV.of_q (r := 0) q_int) (vs_cons (SV.of_q (r := 0) q_int) vs_nil))))) (vs_cons (v_tup (vs_cons (SV.of_q (r := 0) q_int) (vs_cons (SV.of_q (r := 0) q_int) (vs_cons (SV.of_q (r := 0) q_int) (vs_cons (SV.of_q (r := 0) q_int) vs_nil))))) vs_nil))))))) (nio rfl) hN) (ss_cons (s_if (t_cmpQ (ra := 2) (rb := 0) (op_eqF hr.units) r2_eq (q_name (i := 2)) q_int) (ss_cons (s_ret (SC.of_v (v_cmp op_isN r2_isN (SV.of_c (c_call (m := [none, none]) F_bad_ring (hr.mono (by decide)) T.g_bad_ring k_bad_ring b_bad_ring (as_val (SV.of_q (r := 0) q_int) (as_val (SV.of_c (c_lst vs_nil)) as_nil)) rfl)) (SV.of_q (r := 0) q_non)))) ss_nil) ss_nil) (ss_cons (s_set (i := 10) (SC.of_v (SV.of_c (c_lst (vs_cons (v_tup (vs_cons (SV.of_q (r := 0) q_str) (vs_cons (SV.of_q (r := 0) q_int) vs_nil))) (vs_cons (v_tup (vs_cons (SV.of_q (r := 0) q_str) (vs_cons (SV.of_q (r := 0) q_int) vs_nil))) vs_nil))))) (nio rfl) hN) (ss_cons (s_if (t_cmpV op_isnotB r2_notB (SV.of_c (c_call (m := [none, none, none]) F_shows_contrary (hr.mono (by decide)) T.g_shows_contrary k_shows_contrary b_shows_contrary (as_val (v_name (i := 2)) (as_val (SV.of_c (c_callTQ (ra := 4) call_list_of c1_list T.b_list PyProof.Rows.boot_list (q_name (i := 4)))) (as_val (v_name (i := 10)) as_nil))) rfl)) (SV.of_q (r := 0) q_bl)) (ss_cons (s_ret (SC.of_v (SV.of_q (r := 0) q_bl))) ss_nil) ss_nil) (ss_cons (s_set (i := 11) (SC.of_v (SV.of_c (c_call (m := [none, none]) F_bad_ring (hr.mono (by decide)) T.g_bad_ring k_bad_ring b_bad_ring (as_val (v_name (i := 2)) (as_val (SV.of_c (c_callTQ (ra := 9) call_list_of c1_list T.b_list PyProof.Rows.boot_list (q_name (i := 9)))) as_nil)) rfl))) (nio rfl) hN) (ss_cons (s_ret (SC.of_v (v_and (SV.of_q (r := 0) (q_cmp (ra := 11) (rb := 0) op_notN r2_notN (q_name (i := 11)) q_non)) (v_one (SV.of_c (c_call (m := [none, none, none]) F__law_is_bad (hr.mono (by decide)) T.g__law_is_bad k__law_is_bad b__law_is_bad (as_val (v_name (i := 2)) (as_val (v_name (i := 9)) (as_val (v_name (i := 11)) as_nil))) rfl)))))) ss_nil))))))))))))))))))
end
def dd__law_stream : He.DefD := ⟨(("_law_stream" : PySem.Str), none), ("_law_stream" : PySem.Str), ("_law_stream" : PySem.Str), defArgs st__law_stream, defBody st__law_stream, defScope st__law_stream, [], []⟩
def dd__law_draw : He.DefD := ⟨(("_law_draw" : PySem.Str), none), ("_law_draw" : PySem.Str), ("_law_draw" : PySem.Str), defArgs st__law_draw, defBody st__law_draw, defScope st__law_draw, [], []⟩
def dd__law_claim : He.DefD := ⟨(("_law_claim" : PySem.Str), none), ("_law_claim" : PySem.Str), ("_law_claim" : PySem.Str), defArgs st__law_claim, defBody st__law_claim, defScope st__law_claim, [], []⟩
def dd__law_case : He.DefD := ⟨(("_law_case" : PySem.Str), none), ("_law_case" : PySem.Str), ("_law_case" : PySem.Str), defArgs st__law_case, defBody st__law_case, defScope st__law_case, [], []⟩
def dd_is_whole : He.DefD := ⟨(("is_whole" : PySem.Str), none), ("is_whole" : PySem.Str), ("is_whole" : PySem.Str), defArgs st_is_whole, defBody st_is_whole, defScope st_is_whole, [], []⟩
def dd_check_span : He.DefD := ⟨(("check_span" : PySem.Str), none), ("check_span" : PySem.Str), ("check_span" : PySem.Str), defArgs st_check_span, defBody st_check_span, defScope st_check_span, [], []⟩
def dd_is_claim : He.DefD := ⟨(("is_claim" : PySem.Str), none), ("is_claim" : PySem.Str), ("is_claim" : PySem.Str), defArgs st_is_claim, defBody st_is_claim, defScope st_is_claim, [], []⟩
def dd_check_claims : He.DefD := ⟨(("check_claims" : PySem.Str), none), ("check_claims" : PySem.Str), ("check_claims" : PySem.Str), defArgs st_check_claims, defBody st_check_claims, defScope st_check_claims, [], []⟩
def dd_arcs_of : He.DefD := ⟨(("arcs_of" : PySem.Str), none), ("arcs_of" : PySem.Str), ("arcs_of" : PySem.Str), defArgs st_arcs_of, defBody st_arcs_of, defScope st_arcs_of, [], []⟩
def dd_arc_line : He.DefD := ⟨(("arc_line" : PySem.Str), none), ("arc_line" : PySem.Str), ("arc_line" : PySem.Str), defArgs st_arc_line, defBody st_arc_line, defScope st_arc_line, [], []⟩
def dd_arc_lines : He.DefD := ⟨(("arc_lines" : PySem.Str), none), ("arc_lines" : PySem.Str), ("arc_lines" : PySem.Str), defArgs st_arc_lines, defBody st_arc_lines, defScope st_arc_lines, [], []⟩
def dd_relaxed : He.DefD := ⟨(("relaxed" : PySem.Str), none), ("relaxed" : PySem.Str), ("relaxed" : PySem.Str), defArgs st_relaxed, defBody st_relaxed, defScope st_relaxed, [], []⟩
def dd_ring_through : He.DefD := ⟨(("ring_through" : PySem.Str), none), ("ring_through" : PySem.Str), ("ring_through" : PySem.Str), defArgs st_ring_through, defBody st_ring_through, defScope st_ring_through, [], []⟩
def dd_bad_ring : He.DefD := ⟨(("bad_ring" : PySem.Str), none), ("bad_ring" : PySem.Str), ("bad_ring" : PySem.Str), defArgs st_bad_ring, defBody st_bad_ring, defScope st_bad_ring, [], []⟩
def dd_check_met : He.DefD := ⟨(("check_met" : PySem.Str), none), ("check_met" : PySem.Str), ("check_met" : PySem.Str), defArgs st_check_met, defBody st_check_met, defScope st_check_met, [], []⟩
def dd_nearest : He.DefD := ⟨(("nearest" : PySem.Str), none), ("nearest" : PySem.Str), ("nearest" : PySem.Str), defArgs st_nearest, defBody st_nearest, defScope st_nearest, [], []⟩
def dd_reach_table : He.DefD := ⟨(("reach_table" : PySem.Str), none), ("reach_table" : PySem.Str), ("reach_table" : PySem.Str), defArgs st_reach_table, defBody st_reach_table, defScope st_reach_table, [], []⟩
def dd__law_raised_ring : He.DefD := ⟨(("_law_raised_ring" : PySem.Str), none), ("_law_raised_ring" : PySem.Str), ("_law_raised_ring" : PySem.Str), defArgs st__law_raised_ring, defBody st__law_raised_ring, defScope st__law_raised_ring, [], []⟩
def dd__law_says : He.DefD := ⟨(("_law_says" : PySem.Str), none), ("_law_says" : PySem.Str), ("_law_says" : PySem.Str), defArgs st__law_says, defBody st__law_says, defScope st__law_says, [], []⟩
def dd_is_arc : He.DefD := ⟨(("is_arc" : PySem.Str), none), ("is_arc" : PySem.Str), ("is_arc" : PySem.Str), defArgs st_is_arc, defBody st_is_arc, defScope st_is_arc, [], []⟩
def dd_way_line : He.DefD := ⟨(("way_line" : PySem.Str), none), ("way_line" : PySem.Str), ("way_line" : PySem.Str), defArgs st_way_line, defBody st_way_line, defScope st_way_line, [], []⟩
def dd_shows_contrary : He.DefD := ⟨(("shows_contrary" : PySem.Str), none), ("shows_contrary" : PySem.Str), ("shows_contrary" : PySem.Str), defArgs st_shows_contrary, defBody st_shows_contrary, defScope st_shows_contrary, [], []⟩
def dd__law_lines : He.DefD := ⟨(("_law_lines" : PySem.Str), none), ("_law_lines" : PySem.Str), ("_law_lines" : PySem.Str), defArgs st__law_lines, defBody st__law_lines, defScope st__law_lines, [], []⟩
def dd__law_is_integer : He.DefD := ⟨(("_law_is_integer" : PySem.Str), none), ("_law_is_integer" : PySem.Str), ("_law_is_integer" : PySem.Str), defArgs st__law_is_integer, defBody st__law_is_integer, defScope st__law_is_integer, [], []⟩
def dd__law_is_arc : He.DefD := ⟨(("_law_is_arc" : PySem.Str), none), ("_law_is_arc" : PySem.Str), ("_law_is_arc" : PySem.Str), defArgs st__law_is_arc, defBody st__law_is_arc, defScope st__law_is_arc, [], []⟩
def dd__law_line : He.DefD := ⟨(("_law_line" : PySem.Str), none), ("_law_line" : PySem.Str), ("_law_line" : PySem.Str), defArgs st__law_line, defBody st__law_line, defScope st__law_line, [], []⟩
def dd__law_is_bad : He.DefD := ⟨(("_law_is_bad" : PySem.Str), none), ("_law_is_bad" : PySem.Str), ("_law_is_bad" : PySem.Str), defArgs st__law_is_bad, defBody st__law_is_bad, defScope st__law_is_bad, [], []⟩
def dd__law_all : He.DefD := ⟨(("_law_all" : PySem.Str), none), ("_law_all" : PySem.Str), ("_law_all" : PySem.Str), defArgs st__law_all, defBody st__law_all, defScope st__law_all, [], []⟩
def dd__law_ones_fit : He.DefD := ⟨(("_law_ones_fit" : PySem.Str), none), ("_law_ones_fit" : PySem.Str), ("_law_ones_fit" : PySem.Str), defArgs st__law_ones_fit, defBody st__law_ones_fit, defScope st__law_ones_fit, [], []⟩
def dd__law_fitting : He.DefD := ⟨(("_law_fitting" : PySem.Str), none), ("_law_fitting" : PySem.Str), ("_law_fitting" : PySem.Str), defArgs st__law_fitting, defBody st__law_fitting, defScope st__law_fitting, [], []⟩
def dd_ring_prices : He.DefD := ⟨(("ring_prices" : PySem.Str), none), ("ring_prices" : PySem.Str), ("ring_prices" : PySem.Str), defArgs st_ring_prices, defBody st_ring_prices, defScope st_ring_prices, [], []⟩
def dd__law_worth : He.DefD := ⟨(("_law_worth" : PySem.Str), none), ("_law_worth" : PySem.Str), ("_law_worth" : PySem.Str), defArgs st__law_worth, defBody st__law_worth, defScope st__law_worth, [], []⟩
def dd_check_numbers : He.DefD := ⟨(("check_numbers" : PySem.Str), none), ("check_numbers" : PySem.Str), ("check_numbers" : PySem.Str), defArgs st_check_numbers, defBody st_check_numbers, defScope st_check_numbers, [], []⟩
def dd_heights : He.DefD := ⟨(("heights" : PySem.Str), none), ("heights" : PySem.Str), ("heights" : PySem.Str), defArgs st_heights, defBody st_heights, defScope st_heights, [], []⟩
def dd_claim_worth : He.DefD := ⟨(("claim_worth" : PySem.Str), none), ("claim_worth" : PySem.Str), ("claim_worth" : PySem.Str), defArgs st_claim_worth, defBody st_claim_worth, defScope st_claim_worth, [], []⟩
def dd_worth : He.DefD := ⟨(("worth" : PySem.Str), none), ("worth" : PySem.Str), ("worth" : PySem.Str), defArgs st_worth, defBody st_worth, defScope st_worth, [], []⟩
def dd_shows_unmet : He.DefD := ⟨(("shows_unmet" : PySem.Str), none), ("shows_unmet" : PySem.Str), ("shows_unmet" : PySem.Str), defArgs st_shows_unmet, defBody st_shows_unmet, defScope st_shows_unmet, [], []⟩
def dd__law_ring_holds : He.DefD := ⟨(("_law_ring_holds" : PySem.Str), none), ("_law_ring_holds" : PySem.Str), ("_law_ring_holds" : PySem.Str), defArgs st__law_ring_holds, defBody st__law_ring_holds, defScope st__law_ring_holds, [], []⟩
def dd__law_no_arc : He.DefD := ⟨(("_law_no_arc" : PySem.Str), none), ("_law_no_arc" : PySem.Str), ("_law_no_arc" : PySem.Str), defArgs st__law_no_arc, defBody st__law_no_arc, defScope st__law_no_arc, [], []⟩
def dd_law : He.DefD := ⟨(("law" : PySem.Str), none), ("law" : PySem.Str), ("law" : PySem.Str), defArgs st_law, defBody st_law, defScope st_law, [], []⟩
def fn : List He.DefD := [dd__law_stream, dd__law_draw, dd__law_claim, dd__law_case, dd_is_whole, dd_check_span, dd_is_claim, dd_check_claims, dd_arcs_of, dd_arc_line, dd_arc_lines, dd_relaxed, dd_ring_through, dd_bad_ring, dd_check_met, dd_nearest, dd_reach_table, dd__law_raised_ring, dd__law_says, dd_is_arc, dd_way_line, dd_shows_contrary, dd__law_lines, dd__law_is_integer, dd__law_is_arc, dd__law_line, dd__law_is_bad, dd__law_all, dd__law_ones_fit, dd__law_fitting, dd_ring_prices, dd__law_worth, dd_check_numbers, dd_heights, dd_claim_worth, dd_worth, dd_shows_unmet, dd__law_ring_holds, dd__law_no_arc, dd_law]
def fa : List He.Fa := [.glo ("_law_stream" : PySem.Str), .glo ("_law_draw" : PySem.Str), .glo ("_law_claim" : PySem.Str), .glo ("_law_case" : PySem.Str), .glo ("is_whole" : PySem.Str), .glo ("check_span" : PySem.Str), .glo ("is_claim" : PySem.Str), .glo ("check_claims" : PySem.Str), .glo ("arcs_of" : PySem.Str), .glo ("arc_line" : PySem.Str), .glo ("arc_lines" : PySem.Str), .glo ("relaxed" : PySem.Str), .glo ("ring_through" : PySem.Str), .glo ("bad_ring" : PySem.Str), .glo ("check_met" : PySem.Str), .glo ("nearest" : PySem.Str), .glo ("reach_table" : PySem.Str), .glo ("_law_raised_ring" : PySem.Str), .glo ("_law_says" : PySem.Str), .glo ("is_arc" : PySem.Str), .glo ("way_line" : PySem.Str), .glo ("shows_contrary" : PySem.Str), .glo ("_law_lines" : PySem.Str), .glo ("_law_is_integer" : PySem.Str), .glo ("_law_is_arc" : PySem.Str), .glo ("_law_line" : PySem.Str), .glo ("_law_is_bad" : PySem.Str), .glo ("_law_all" : PySem.Str), .glo ("_law_ones_fit" : PySem.Str), .glo ("_law_fitting" : PySem.Str), .glo ("ring_prices" : PySem.Str), .glo ("_law_worth" : PySem.Str), .glo ("check_numbers" : PySem.Str), .glo ("heights" : PySem.Str), .glo ("claim_worth" : PySem.Str), .glo ("worth" : PySem.Str), .glo ("shows_unmet" : PySem.Str), .glo ("_law_ring_holds" : PySem.Str), .glo ("_law_no_arc" : PySem.Str), .glo ("law" : PySem.Str), .glo ("BadArc" : PySem.Str), .glo ("BadClaim" : PySem.Str), .glo ("BadNumbers" : PySem.Str), .glo ("BadSpan" : PySem.Str), .glo ("Contrary" : PySem.Str), .glo ("MovedError" : PySem.Str), .free ("abs" : PySem.Str), .free ("all" : PySem.Str), .free ("bool" : PySem.Str), .free ("enumerate" : PySem.Str), .free ("int" : PySem.Str), .free ("isinstance" : PySem.Str), .free ("len" : PySem.Str), .free ("list" : PySem.Str), .free ("max" : PySem.Str), .free ("range" : PySem.Str), .free ("str" : PySem.Str), .free ("sum" : PySem.Str), .free ("tuple" : PySem.Str), .exc ("BadNumbers" : PySem.Str), .glo ("ARC_WORDS" : PySem.Str)]
def exL (K : PySem.W.Frag) : List Bool := [supB K ("BadArc" : PySem.Str) ("place" : PySem.Str) ("/claim/cut.py" : PySem.Str), supB K ("BadClaim" : PySem.Str) ("place" : PySem.Str) ("/claim/cut.py" : PySem.Str), supB K ("BadSpan" : PySem.Str) ("span" : PySem.Str) ("/claim/cut.py" : PySem.Str), supB K ("Contrary" : PySem.Str) ("ring" : PySem.Str) ("/claim/cut.py" : PySem.Str), catB K (clK K) ("BadArc" : PySem.Str) cb_BadArc, catB K (clK K) ("BadNumbers" : PySem.Str) cb_BadNumbers, catB K (clK K) ("Contrary" : PySem.Str) cb_Contrary, He.tupB K ("ARC_WORDS" : PySem.Str) [.str ("up" : PySem.Str), .str ("flat" : PySem.Str), .str ("most" : PySem.Str), .str ("least" : PySem.Str)]]
def ex (K : PySem.W.Frag) : Bool := (exL K).all fun b => b
theorem tx {K : PySem.W.Frag} {h : Heap} {mg : Str → Option Value} (X : K.In h) (G : h.Ns mainGlobals mg) (c : SaysY fa fn ex K) : Tx PySem.Challenge.rw_statesmoved_k30_whole_bad_ring_exactly.prog K mg := by
  have m : ∀ (i : Nat) (b : Bool), (exL K)[i]? = some b → b = true := fun i b e => List.all_eq_true.mp c.more b (List.mem_of_getElem? e)
  have f : ∀ (i : Nat) (z : He.Fa), fa[i]? = some z → z.ok K = true := fun i z e => c.d.fact i e
  exact {
    file := by kernel_rfl
    top := by kernel_rfl
    b_abs := He.free_ok X G (f 46 (.free ("abs" : PySem.Str)) rfl)
    b_all := He.free_ok X G (f 47 (.free ("all" : PySem.Str)) rfl)
    b_bool := He.free_ok X G (f 48 (.free ("bool" : PySem.Str)) rfl)
    b_enumerate := He.free_ok X G (f 49 (.free ("enumerate" : PySem.Str)) rfl)
    b_int := He.free_ok X G (f 50 (.free ("int" : PySem.Str)) rfl)
    b_isinstance := He.free_ok X G (f 51 (.free ("isinstance" : PySem.Str)) rfl)
    b_len := He.free_ok X G (f 52 (.free ("len" : PySem.Str)) rfl)
    b_list := He.free_ok X G (f 53 (.free ("list" : PySem.Str)) rfl)
    b_max := He.free_ok X G (f 54 (.free ("max" : PySem.Str)) rfl)
    b_range := He.free_ok X G (f 55 (.free ("range" : PySem.Str)) rfl)
    b_str := He.free_ok X G (f 56 (.free ("str" : PySem.Str)) rfl)
    b_sum := He.free_ok X G (f 57 (.free ("sum" : PySem.Str)) rfl)
    b_tuple := He.free_ok X G (f 58 (.free ("tuple" : PySem.Str)) rfl)
    g__law_stream := He.glo_ok X G (f 0 (.glo ("_law_stream" : PySem.Str)) rfl)
    g__law_draw := He.glo_ok X G (f 1 (.glo ("_law_draw" : PySem.Str)) rfl)
    g__law_claim := He.glo_ok X G (f 2 (.glo ("_law_claim" : PySem.Str)) rfl)
    g__law_case := He.glo_ok X G (f 3 (.glo ("_law_case" : PySem.Str)) rfl)
    g_is_whole := He.glo_ok X G (f 4 (.glo ("is_whole" : PySem.Str)) rfl)
    g_check_span := He.glo_ok X G (f 5 (.glo ("check_span" : PySem.Str)) rfl)
    g_is_claim := He.glo_ok X G (f 6 (.glo ("is_claim" : PySem.Str)) rfl)
    g_check_claims := He.glo_ok X G (f 7 (.glo ("check_claims" : PySem.Str)) rfl)
    g_arcs_of := He.glo_ok X G (f 8 (.glo ("arcs_of" : PySem.Str)) rfl)
    g_arc_line := He.glo_ok X G (f 9 (.glo ("arc_line" : PySem.Str)) rfl)
    g_arc_lines := He.glo_ok X G (f 10 (.glo ("arc_lines" : PySem.Str)) rfl)
    g_relaxed := He.glo_ok X G (f 11 (.glo ("relaxed" : PySem.Str)) rfl)
    g_ring_through := He.glo_ok X G (f 12 (.glo ("ring_through" : PySem.Str)) rfl)
    g_bad_ring := He.glo_ok X G (f 13 (.glo ("bad_ring" : PySem.Str)) rfl)
    g_check_met := He.glo_ok X G (f 14 (.glo ("check_met" : PySem.Str)) rfl)
    g_nearest := He.glo_ok X G (f 15 (.glo ("nearest" : PySem.Str)) rfl)
    g_reach_table := He.glo_ok X G (f 16 (.glo ("reach_table" : PySem.Str)) rfl)
    g__law_raised_ring := He.glo_ok X G (f 17 (.glo ("_law_raised_ring" : PySem.Str)) rfl)
    g__law_says := He.glo_ok X G (f 18 (.glo ("_law_says" : PySem.Str)) rfl)
    g_is_arc := He.glo_ok X G (f 19 (.glo ("is_arc" : PySem.Str)) rfl)
    g_way_line := He.glo_ok X G (f 20 (.glo ("way_line" : PySem.Str)) rfl)
    g_shows_contrary := He.glo_ok X G (f 21 (.glo ("shows_contrary" : PySem.Str)) rfl)
    g__law_lines := He.glo_ok X G (f 22 (.glo ("_law_lines" : PySem.Str)) rfl)
    g__law_is_integer := He.glo_ok X G (f 23 (.glo ("_law_is_integer" : PySem.Str)) rfl)
    g__law_is_arc := He.glo_ok X G (f 24 (.glo ("_law_is_arc" : PySem.Str)) rfl)
    g__law_line := He.glo_ok X G (f 25 (.glo ("_law_line" : PySem.Str)) rfl)
    g__law_is_bad := He.glo_ok X G (f 26 (.glo ("_law_is_bad" : PySem.Str)) rfl)
    g__law_all := He.glo_ok X G (f 27 (.glo ("_law_all" : PySem.Str)) rfl)
    g__law_ones_fit := He.glo_ok X G (f 28 (.glo ("_law_ones_fit" : PySem.Str)) rfl)
    g__law_fitting := He.glo_ok X G (f 29 (.glo ("_law_fitting" : PySem.Str)) rfl)
    g_ring_prices := He.glo_ok X G (f 30 (.glo ("ring_prices" : PySem.Str)) rfl)
    g__law_worth := He.glo_ok X G (f 31 (.glo ("_law_worth" : PySem.Str)) rfl)
    g_check_numbers := He.glo_ok X G (f 32 (.glo ("check_numbers" : PySem.Str)) rfl)
    g_heights := He.glo_ok X G (f 33 (.glo ("heights" : PySem.Str)) rfl)
    g_claim_worth := He.glo_ok X G (f 34 (.glo ("claim_worth" : PySem.Str)) rfl)
    g_worth := He.glo_ok X G (f 35 (.glo ("worth" : PySem.Str)) rfl)
    g_shows_unmet := He.glo_ok X G (f 36 (.glo ("shows_unmet" : PySem.Str)) rfl)
    g__law_ring_holds := He.glo_ok X G (f 37 (.glo ("_law_ring_holds" : PySem.Str)) rfl)
    g__law_no_arc := He.glo_ok X G (f 38 (.glo ("_law_no_arc" : PySem.Str)) rfl)
    g_law := He.glo_ok X G (f 39 (.glo ("law" : PySem.Str)) rfl)
    g_BadArc := He.glo_ok X G (f 40 (.glo ("BadArc" : PySem.Str)) rfl)
    g_BadClaim := He.glo_ok X G (f 41 (.glo ("BadClaim" : PySem.Str)) rfl)
    g_BadNumbers := He.glo_ok X G (f 42 (.glo ("BadNumbers" : PySem.Str)) rfl)
    g_BadSpan := He.glo_ok X G (f 43 (.glo ("BadSpan" : PySem.Str)) rfl)
    g_Contrary := He.glo_ok X G (f 44 (.glo ("Contrary" : PySem.Str)) rfl)
    x_BadNumbers := He.exc_ok (f 59 (.exc ("BadNumbers" : PySem.Str)) rfl)
    c_ARC_WORDS := He.glo_ok X G (f 60 (.glo ("ARC_WORDS" : PySem.Str)) rfl)
    s_BadArc := supB_ok (m 0 _ rfl)
    s_BadClaim := supB_ok (m 1 _ rfl)
    s_BadSpan := supB_ok (m 2 _ rfl)
    s_Contrary := supB_ok (m 3 _ rfl)
    t_BadArc := catB_ok (m 4 _ rfl)
    t_BadNumbers := catB_ok (m 5 _ rfl)
    t_Contrary := catB_ok (m 6 _ rfl)
    d_ARC_WORDS := fun k G => ⟨_, _, rfl, He.tupB_ok (m 7 _ rfl) G, RpL.strs [("up" : PySem.Str), ("flat" : PySem.Str), ("most" : PySem.Str), ("least" : PySem.Str)]⟩
    F__law_stream := c.d.def_ 0 (d := dd__law_stream) rfl
    F__law_draw := c.d.def_ 1 (d := dd__law_draw) rfl
    F__law_claim := c.d.def_ 2 (d := dd__law_claim) rfl
    F__law_case := c.d.def_ 3 (d := dd__law_case) rfl
    F_is_whole := c.d.def_ 4 (d := dd_is_whole) rfl
    F_check_span := c.d.def_ 5 (d := dd_check_span) rfl
    F_is_claim := c.d.def_ 6 (d := dd_is_claim) rfl
    F_check_claims := c.d.def_ 7 (d := dd_check_claims) rfl
    F_arcs_of := c.d.def_ 8 (d := dd_arcs_of) rfl
    F_arc_line := c.d.def_ 9 (d := dd_arc_line) rfl
    F_arc_lines := c.d.def_ 10 (d := dd_arc_lines) rfl
    F_relaxed := c.d.def_ 11 (d := dd_relaxed) rfl
    F_ring_through := c.d.def_ 12 (d := dd_ring_through) rfl
    F_bad_ring := c.d.def_ 13 (d := dd_bad_ring) rfl
    F_check_met := c.d.def_ 14 (d := dd_check_met) rfl
    F_nearest := c.d.def_ 15 (d := dd_nearest) rfl
    F_reach_table := c.d.def_ 16 (d := dd_reach_table) rfl
    F__law_raised_ring := c.d.def_ 17 (d := dd__law_raised_ring) rfl
    F__law_says := c.d.def_ 18 (d := dd__law_says) rfl
    F_is_arc := c.d.def_ 19 (d := dd_is_arc) rfl
    F_way_line := c.d.def_ 20 (d := dd_way_line) rfl
    F_shows_contrary := c.d.def_ 21 (d := dd_shows_contrary) rfl
    F__law_lines := c.d.def_ 22 (d := dd__law_lines) rfl
    F__law_is_integer := c.d.def_ 23 (d := dd__law_is_integer) rfl
    F__law_is_arc := c.d.def_ 24 (d := dd__law_is_arc) rfl
    F__law_line := c.d.def_ 25 (d := dd__law_line) rfl
    F__law_is_bad := c.d.def_ 26 (d := dd__law_is_bad) rfl
    F__law_all := c.d.def_ 27 (d := dd__law_all) rfl
    F__law_ones_fit := c.d.def_ 28 (d := dd__law_ones_fit) rfl
    F__law_fitting := c.d.def_ 29 (d := dd__law_fitting) rfl
    F_ring_prices := c.d.def_ 30 (d := dd_ring_prices) rfl
    F__law_worth := c.d.def_ 31 (d := dd__law_worth) rfl
    F_check_numbers := c.d.def_ 32 (d := dd_check_numbers) rfl
    F_heights := c.d.def_ 33 (d := dd_heights) rfl
    F_claim_worth := c.d.def_ 34 (d := dd_claim_worth) rfl
    F_worth := c.d.def_ 35 (d := dd_worth) rfl
    F_shows_unmet := c.d.def_ 36 (d := dd_shows_unmet) rfl
    F__law_ring_holds := c.d.def_ 37 (d := dd__law_ring_holds) rfl
    F__law_no_arc := c.d.def_ 38 (d := dd__law_no_arc) rfl
    F_law := c.d.def_ 39 (d := dd_law) rfl
  }
abbrev R : PySem.W.OpenRow := PySem.W.OpenLaw.row PySem.Challenge.rw_statesmoved_k30_whole_bad_ring_exactly
abbrev hk : PySem.W.Hook := hookY 5 fa fn ex
def ob (s : PySem.W.SharedT) : AlY := obsY 5 fa fn ex (HandSHeadRun.getT s)
theorem ob_eq (s : PySem.W.SharedT) : ob s = hk.obs s.abs := obsY_eq (HandSHeadRun.getT_eq s)
def ln0 : List PySem.Str := [("is_whole" : PySem.Str), ("check_span" : PySem.Str), ("is_claim" : PySem.Str), ("check_claims" : PySem.Str), ("arcs_of" : PySem.Str), ("is_arc" : PySem.Str), ("arc_line" : PySem.Str), ("way_line" : PySem.Str), ("shows_contrary" : PySem.Str), ("arc_lines" : PySem.Str), ("relaxed" : PySem.Str), ("ring_through" : PySem.Str), ("bad_ring" : PySem.Str), ("check_met" : PySem.Str), ("nearest" : PySem.Str), ("reach_table" : PySem.Str), ("check_numbers" : PySem.Str), ("heights" : PySem.Str), ("claim_worth" : PySem.Str), ("worth" : PySem.Str), ("shows_unmet" : PySem.Str), ("ring_prices" : PySem.Str), ("_law_stream" : PySem.Str), ("_law_draw" : PySem.Str), ("_law_is_integer" : PySem.Str), ("_law_says" : PySem.Str), ("_law_is_pattern" : PySem.Str), ("_law_claim" : PySem.Str), ("_law_case" : PySem.Str), ("_law_ones_fit" : PySem.Str), ("_law_all" : PySem.Str), ("_law_fitting" : PySem.Str), ("_law_lines" : PySem.Str), ("_law_is_arc" : PySem.Str), ("_law_line" : PySem.Str), ("_law_is_bad" : PySem.Str), ("_law_worth" : PySem.Str), ("_law_raised_ring" : PySem.Str)]
def ln1 : List PySem.Str := [("_law_ring_holds" : PySem.Str), ("_law_no_arc" : PySem.Str), ("MovedError" : PySem.Str), ("BadSpan" : PySem.Str), ("BadClaim" : PySem.Str), ("BadArc" : PySem.Str), ("BadNumbers" : PySem.Str), ("Contrary" : PySem.Str), ("ARC_WORDS" : PySem.Str)]
def loose : List PySem.Str := ln0 ++ ln1
theorem run (w : World) : HandSHeadRun.RunEq R (PySem.W.view R.prog [54]) hk ob 4000 loose w := by
  intro os
  kernel_rfl
/-- every def keeps its promise -/
theorem all_ok {P : Program} {w : World} {K : PySem.W.Frag} {mg : Str → Option Value} (T : Tx P K mg) (base : Heap) : FO_law P w K mg base := by
  have O__law_stream : FO__law_stream P w K mg base := ok__law_stream T 
  have O__law_draw : FO__law_draw P w K mg base := ok__law_draw T 
  have O__law_claim : FO__law_claim P w K mg base := ok__law_claim T O__law_draw
  have O__law_case : FO__law_case P w K mg base := ok__law_case T O__law_claim O__law_draw
  have O_is_whole : FO_is_whole P w K mg base := ok_is_whole T 
  have O_check_span : FO_check_span P w K mg base := ok_check_span T O_is_whole
  have O_is_claim : FO_is_claim P w K mg base := ok_is_claim T O_is_whole
  have O_check_claims : FO_check_claims P w K mg base := ok_check_claims T O_check_span O_is_claim
  have O_arcs_of : FO_arcs_of P w K mg base := ok_arcs_of T O_check_claims
  have O_arc_line : FO_arc_line P w K mg base := ok_arc_line T 
  have O_arc_lines : FO_arc_lines P w K mg base := ok_arc_lines T O_arc_line O_arcs_of
  have O_relaxed : FO_relaxed P w K mg base := ok_relaxed T 
  have O_ring_through : FO_ring_through P w K mg base := ok_ring_through T 
  have O_bad_ring : FO_bad_ring P w K mg base := ok_bad_ring T O_arc_lines O_relaxed O_ring_through
  have O_check_met : FO_check_met P w K mg base := ok_check_met T O_bad_ring
  have O_nearest : FO_nearest P w K mg base := ok_nearest T O_arc_lines O_relaxed
  have O_reach_table : FO_reach_table P w K mg base := ok_reach_table T O_check_met O_nearest
  have O__law_raised_ring : FO__law_raised_ring P w K mg base := ok__law_raised_ring T O_reach_table
  have O__law_says : FO__law_says P w K mg base := ok__law_says T 
  have O_is_arc : FO_is_arc P w K mg base := ok_is_arc T O_is_whole
  have O_way_line : FO_way_line P w K mg base := ok_way_line T O_arc_line O_check_claims O_is_arc
  have O_shows_contrary : FO_shows_contrary P w K mg base := ok_shows_contrary T O_check_claims O_way_line
  have O__law_lines : FO__law_lines P w K mg base := ok__law_lines T 
  have O__law_is_integer : FO__law_is_integer P w K mg base := ok__law_is_integer T 
  have O__law_is_arc : FO__law_is_arc P w K mg base := ok__law_is_arc T O__law_is_integer
  have O__law_line : FO__law_line P w K mg base := ok__law_line T O__law_is_arc O__law_lines
  have O__law_is_bad : FO__law_is_bad P w K mg base := ok__law_is_bad T O__law_line
  have O__law_all : FO__law_all P w K mg base := ok__law_all T 
  have O__law_ones_fit : FO__law_ones_fit P w K mg base := ok__law_ones_fit T 
  have O__law_fitting : FO__law_fitting P w K mg base := ok__law_fitting T O__law_all O__law_ones_fit
  have O_ring_prices : FO_ring_prices P w K mg base := ok_ring_prices T O_check_claims O_is_arc
  have O__law_worth : FO__law_worth P w K mg base := ok__law_worth T 
  have O_check_numbers : FO_check_numbers P w K mg base := ok_check_numbers T O_is_whole
  have O_heights : FO_heights P w K mg base := ok_heights T O_check_claims O_check_numbers
  have O_claim_worth : FO_claim_worth P w K mg base := ok_claim_worth T 
  have O_worth : FO_worth P w K mg base := ok_worth T O_check_numbers O_claim_worth O_heights
  have O_shows_unmet : FO_shows_unmet P w K mg base := ok_shows_unmet T O_check_claims O_worth
  have O__law_ring_holds : FO__law_ring_holds P w K mg base := ok__law_ring_holds T O__law_draw O__law_is_bad O__law_is_integer O__law_says O__law_worth O_ring_prices O_shows_contrary O_shows_unmet
  have O__law_no_arc : FO__law_no_arc P w K mg base := ok__law_no_arc T O_ring_prices
  have O_law : FO_law P w K mg base := ok_law T O__law_case O__law_draw O__law_fitting O__law_is_bad O__law_no_arc O__law_raised_ring O__law_ring_holds O__law_says O__law_stream O__law_worth O_bad_ring O_shows_contrary O_shows_unmet
  exact O_law
end VH
open PySem PySem.W PySem.Calls PyProof.Rows in
theorem VH.done (hmain : ∀ ns : List Int, ns.length ≤ 63 → ∃ fin, VH.f_law_k30 [.bl (ns.map VL.D.int)] = .ok (.sh (.bl true)) fin) : PySem.Challenge.rw_statesmoved_k30_whole_bad_ring_exactly.Holds := by
  w_on; o_law
  refine HandSHeadRun.head_any (kwd := []) (r := OpenLaw.row PySem.Challenge.rw_statesmoved_k30_whole_bad_ring_exactly) (q := view (OpenLaw.row PySem.Challenge.rw_statesmoved_k30_whole_bad_ring_exactly).prog [54]) (H := VH.hk) (ob := VH.ob) (M := 4000) (loose := VH.loose) (d := HandSHeadRun.topDef (OpenLaw.row PySem.Challenge.rw_statesmoved_k30_whole_bad_ring_exactly).prog 54) VH.ob_eq
    (by kernel_rfl) (fun s => by kernel_rfl) VH.run (by kernel_rfl) (by kernel_rfl) (by kernel_rfl) (by rfl) (by first | assumption | decide +kernel) (by decide +kernel) ⟨rfl, rfl, rfl, rfl, rfl, by decide +kernel⟩ ?hw ?hc
  case hw => w_witness2
  case hc =>
    refine L2.walk_ofE (l := PySem.Challenge.rw_statesmoved_k30_whole_bad_ring_exactly) (n := 63) (k := 12) (x := "script") rfl (by decide) (by kernel_rfl) ⟨rfl, by decide, by decide⟩ ?F (VL.cxe_none (P := PySem.Challenge.rw_statesmoved_k30_whole_bad_ring_exactly.prog))
    intro w mg fa h Y G hmg0
    obtain ⟨K, KX, c⟩ := Y
    have T := VH.tx KX G c
    have hmg : mg ("law" : PySem.Str) = some (.ref fa) := by
      have e : (HandSHeadRun.topDef (OpenLaw.row PySem.Challenge.rw_statesmoved_k30_whole_bad_ring_exactly).prog 54).name = ("law" : PySem.Str) := by kernel_rfl
      rw [← e]
      exact hmg0
    have e := T.g_law.symm.trans hmg
    have ea : He.ga K ("law" : PySem.Str) = fa := by
      cases e
      rfl
    obtain ⟨fd, F⟩ := T.F_law
    rw [ea] at F
    have b := L2.FunD.bindsA (ps := [("script" : PySem.Str)]) F fun _ _ _ _ _ _ us hl => match us, hl with | [_], _ => rfl
    refine ⟨K, fd, VL.spD K ⟨VH.clK K, none, [0]⟩ 1 VH.f_law_k30, KX, fun s v => b s [v] rfl, fun H a ns hl _ hS => ?_, fun base _ _ => ?_⟩
    · obtain ⟨fin, hf⟩ := hmain ns hl
      exact VL.law_sp hS hf
    · have O := (VH.all_ok (w := w) T base fd (by rw [ea]; exact F)).1
      rw [ea] at O
      exact VL.fn_cxe O
end
theorem PySem.Challenge.cw_statesmoved_k30_whole_bad_ring_exactly_holds : PySem.Challenge.rw_statesmoved_k30_whole_bad_ring_exactly.Holds := by
  exact VH.done fun ns _ => VH.main_k30 ns
