import PyProof.Rows.All
import Wide.All
import OpenK.AllK
import Wide.FinOn
import HandS.ForMost
import HandS.Property
import HandS.ClsMeth
import HandS.Star
import HandS.Style
import HandS.Walk
import HandS.TupAny
import HandS.IsInst
import HandS.SortInts
import HandS.Defaults
import KE.GoesMore
import HandS.TryOnly
import HandS.MakeKwOnly
import HandS.Words
import PySem.Challenge.RW_drawnrings_k31_whole_order_and_nearness
set_option Elab.async false
set_option linter.all false
set_option maxRecDepth 100000
set_option maxRecDepth 100000
set_option maxHeartbeats 2000000
/-! EV 1: deep values, what denotes them, owned slots, steps. -/
namespace EV
open PySem L2

/-- what is fixed: the written part, where the own classes stand -/
structure Wd where
  K : PySem.W.Frag
  cls : Str → Option Addr

/-- a deep value -/
inductive DV where
  | non
  | bl (b : Bool)
  | int (i : Int)
  | str (x : Str)
  | tup (ds : List DV)
  | lst (ds : List DV)
  /-- a list that is read alone (the script) -/
  | scr (ds : List DV)
  | obj (c : Str) (ns : List Str) (ds : List DV)

mutual
inductive Den (W : Wd) (H : Hp) : V → DV → Prop
  | non : Den W H .non .non
  | bl (b : Bool) : Den W H (.bl b) (.bl b)
  | int (i : Int) : Den W H (.int i) (.int i)
  | str (x : Str) : Den W H (.str x) (.str x)
  | tup {a : Addr} {xs : List V} {ds : List DV} : SqT W.K H a xs → Dens W H xs ds → Den W H (.ref a) (.tup ds)
  | lst {a : Addr} {xs : List V} {ds : List DV} : H a = some (.lst xs) → Dens W H xs ds → Den W H (.ref a) (.lst ds)
  | scr {a : Addr} {xs : List V} {ds : List DV} : SqL W.K H a xs → Dens W H xs ds → Den W H (.ref a) (.scr ds)
  | obj {a C dx : Addr} {c : Str} {ns : List Str} {vs : List V} {ds : List DV} : W.cls c = some C → H a = some (.ins C dx (ns.zip vs)) → ns.length = vs.length → Dens W H vs ds → Den W H (.ref a) (.obj c ns ds)
inductive Dens (W : Wd) (H : Hp) : List V → List DV → Prop
  | nil : Dens W H [] []
  | cons {v : V} {vs : List V} {d : DV} {ds : List DV} : Den W H v d → Dens W H vs ds → Dens W H (v :: vs) (d :: ds)
end

theorem same_t {K : PySem.W.Frag} {H H' : Hp} {a : Addr} {xs : List V} (e : Same H H') (h : SqT K H a xs) : SqT K H' a xs := by
  rcases h with (h | ⟨o, h⟩) | h
  · exact .inl (.inl (e _ _ h))
  · exact .inl (.inr ⟨o, e _ _ h⟩)
  · exact .inr h

mutual
theorem Den.mono {W : Wd} {H H' : Hp} (e : Same H H') : ∀ (d : DV) (v : V), Den W H v d → Den W H' v d
  | .non, _, h => by cases h; exact .non
  | .bl _, _, h => by cases h; exact .bl _
  | .int _, _, h => by cases h; exact .int _
  | .str _, _, h => by cases h; exact .str _
  | .tup ds, _, h => by
    cases h with
    | tup hs ha => exact .tup (same_t e hs) (Dens.mono e ds _ ha)
  | .lst ds, _, h => by
    cases h with
    | lst hs ha => exact .lst (e _ _ hs) (Dens.mono e ds _ ha)
  | .scr ds, _, h => by
    cases h with
    | scr hs ha => exact .scr (e.seq hs) (Dens.mono e ds _ ha)
  | .obj c ns ds, _, h => by
    cases h with
    | obj hc hh hl ha => exact .obj hc (e _ _ hh) hl (Dens.mono e ds _ ha)
theorem Dens.mono {W : Wd} {H H' : Hp} (e : Same H H') : ∀ (ds : List DV) (vs : List V), Dens W H vs ds → Dens W H' vs ds
  | [], _, h => by cases h; exact .nil
  | d :: ds, _, h => by
    cases h with
    | cons h1 h2 => exact .cons (Den.mono e d _ h1) (Dens.mono e ds _ h2)
end
theorem Den.up {W : Wd} {H H' : Hp} {v : V} {d : DV} (h : Den W H v d) (e : Same H H') : Den W H' v d := Den.mono e d v h
theorem Dens.up {W : Wd} {H H' : Hp} {vs : List V} {ds : List DV} (h : Dens W H vs ds) (e : Same H H') : Dens W H' vs ds := Dens.mono e ds vs h

theorem Dens.length {W : Wd} {H : Hp} : ∀ {vs : List V} {ds : List DV}, Dens W H vs ds → vs.length = ds.length
  | _, _, .nil => rfl
  | _, _, .cons _ t => congrArg (· + 1) t.length
theorem Dens.get {W : Wd} {H : Hp} : ∀ {vs : List V} {ds : List DV} {i : Nat} {d : DV}, Dens W H vs ds → ds[i]? = some d → ∃ v, vs[i]? = some v ∧ Den W H v d
  | _, _, _, _, .nil, e => by simp at e
  | _, _, 0, _, .cons h _, e => by simp at e; subst e; exact ⟨_, rfl, h⟩
  | _, _, i + 1, _, .cons _ t, e => by
    obtain ⟨v, h1, h2⟩ := Dens.get (i := i) t (by simpa using e)
    exact ⟨v, by simpa using h1, h2⟩
theorem Dens.getV {W : Wd} {H : Hp} : ∀ {vs : List V} {ds : List DV} {i : Nat} {v : V}, Dens W H vs ds → vs[i]? = some v → ∃ d, ds[i]? = some d ∧ Den W H v d
  | _, _, _, _, .nil, e => by simp at e
  | _, _, 0, _, .cons h _, e => by simp at e; subst e; exact ⟨_, rfl, h⟩
  | _, _, i + 1, _, .cons _ t, e => by
    obtain ⟨v, h1, h2⟩ := Dens.getV (i := i) t (by simpa using e)
    exact ⟨v, by simpa using h1, h2⟩
theorem Dens.append {W : Wd} {H : Hp} : ∀ {vs ws : List V} {ds es : List DV}, Dens W H vs ds → Dens W H ws es → Dens W H (vs ++ ws) (ds ++ es)
  | _, _, _, _, .nil, s => s
  | _, _, _, _, .cons r t, s => .cons r (t.append s)
theorem Dens.take {W : Wd} {H : Hp} : ∀ {vs : List V} {ds : List DV} (n : Nat), Dens W H vs ds → Dens W H (vs.take n) (ds.take n)
  | _, _, 0, _ => .nil
  | _, _, _ + 1, .nil => .nil
  | _, _, n + 1, .cons r t => .cons r (t.take n)
theorem Dens.drop {W : Wd} {H : Hp} : ∀ {vs : List V} {ds : List DV} (n : Nat), Dens W H vs ds → Dens W H (vs.drop n) (ds.drop n)
  | _, _, 0, r => r
  | _, _, _ + 1, .nil => .nil
  | _, _, n + 1, .cons _ t => t.drop n
theorem Dens.set {W : Wd} {H : Hp} {v : V} {d : DV} (r : Den W H v d) : ∀ {vs : List V} {ds : List DV} (i : Nat), Dens W H vs ds → Dens W H (vs.set i v) (ds.set i d)
  | _, _, _, .nil => .nil
  | _, _, 0, .cons _ t => .cons r t
  | _, _, i + 1, .cons q t => .cons q (Dens.set r i t)
theorem Dens.one {W : Wd} {H : Hp} {v : V} {d : DV} (r : Den W H v d) : Dens W H [v] [d] := .cons r .nil

/-- the toplevel of an object at a, its parts frozen in Hs: what may be written -/
def Own (W : Wd) (Hs H : Hp) (a : Addr) : DV → Prop
  | .lst ds => ∃ xs, H a = some (.lst xs) ∧ Dens W Hs xs ds
  | .obj c ns ds => ∃ C dx vs, W.cls c = some C ∧ H a = some (.ins C dx (ns.zip vs)) ∧ ns.length = vs.length ∧ Dens W Hs vs ds
  | _ => False
/-- the toplevel of a value that may be read, its parts frozen in Hs -/
def Sh (W : Wd) (Hs H : Hp) (v : V) : DV → Prop
  | .non => v = .non
  | .bl b => v = .bl b
  | .int i => v = .int i
  | .str x => v = .str x
  | .tup ds => ∃ a xs, v = .ref a ∧ SqT W.K Hs a xs ∧ Dens W Hs xs ds
  | .lst ds => ∃ a xs, v = .ref a ∧ H a = some (.lst xs) ∧ Dens W Hs xs ds
  | .scr ds => ∃ a xs, v = .ref a ∧ SqL W.K Hs a xs ∧ Dens W Hs xs ds
  | .obj c ns ds => ∃ a C dx vs, v = .ref a ∧ W.cls c = some C ∧ H a = some (.ins C dx (ns.zip vs)) ∧ ns.length = vs.length ∧ Dens W Hs vs ds
theorem Den.sh {W : Wd} {Hs H : Hp} {v : V} {d : DV} (h : Den W Hs v d) (e : Same Hs H) : Sh W Hs H v d := by
  cases h with
  | non => rfl
  | bl b => rfl
  | int i => rfl
  | str x => rfl
  | tup hs ha => exact ⟨_, _, rfl, hs, ha⟩
  | lst hs ha => exact ⟨_, _, rfl, e _ _ hs, ha⟩
  | scr hs ha => exact ⟨_, _, rfl, hs, ha⟩
  | obj hc hh hl ha => exact ⟨_, _, _, _, rfl, hc, e _ _ hh, hl, ha⟩
theorem Own.sh {W : Wd} {Hs H : Hp} {a : Addr} {d : DV} (h : Own W Hs H a d) : Sh W Hs H (.ref a) d := by
  cases d with
  | lst ds => obtain ⟨xs, h1, h2⟩ := h; exact ⟨_, xs, rfl, h1, h2⟩
  | obj c ns ds => obtain ⟨C, dx, vs, h1, h2, h3, h4⟩ := h; exact ⟨_, C, dx, vs, rfl, h1, h2, h3, h4⟩
  | _ => exact h.elim
theorem Own.there {W : Wd} {Hs H : Hp} {a : Addr} {d : DV} (h : Own W Hs H a d) : ∃ o, H a = some o := by
  cases d with
  | lst ds => obtain ⟨xs, h1, h2⟩ := h; exact ⟨_, h1⟩
  | obj c ns ds => obtain ⟨C, dx, vs, h1, h2, h3, h4⟩ := h; exact ⟨_, h2⟩
  | _ => exact h.elim
theorem Own.up {W : Wd} {Hs Hs' H H' : Hp} {a : Addr} {d : DV} (h : Own W Hs H a d) (e : Same Hs Hs') (k : ∀ o, H a = some o → H' a = some o) : Own W Hs' H' a d := by
  cases d with
  | lst ds => obtain ⟨xs, h1, h2⟩ := h; exact ⟨xs, k _ h1, h2.up e⟩
  | obj c ns ds => obtain ⟨C, dx, vs, h1, h2, h3, h4⟩ := h; exact ⟨C, dx, vs, h1, k _ h2, h3, h4.up e⟩
  | _ => exact h.elim

/-- Hs with what stands at a in H -/
def frz (Hs H : Hp) (a : Addr) : Hp := fun b => if b = a then H a else Hs b
theorem frz_at {Hs H : Hp} {a : Addr} : frz Hs H a a = H a := by unfold frz; rw [if_pos rfl]
theorem frz_ne {Hs H : Hp} {a b : Addr} (h : b ≠ a) : frz Hs H a b = Hs b := by unfold frz; rw [if_neg h]
theorem frz_same {Hs H : Hp} {a : Addr} (n : Hs a = none) : Same Hs (frz Hs H a) := fun b o e => by
  have hb : b ≠ a := fun z => by subst z; rw [n] at e; cases e
  rw [frz_ne hb]; exact e
theorem frz_sub {Hs H : Hp} {a : Addr} (e : Same Hs H) : Same (frz Hs H a) H := fun b o q => by
  by_cases hb : b = a
  · subst hb; rw [frz_at] at q; exact q
  · rw [frz_ne hb] at q; exact e b o q
theorem Own.den {W : Wd} {Hs H : Hp} {a : Addr} {d : DV} (h : Own W Hs H a d) (n : Hs a = none) : Den W (frz Hs H a) (.ref a) d := by
  cases d with
  | lst ds =>
    obtain ⟨xs, h1, h2⟩ := h
    exact .lst (by rw [frz_at]; exact h1) (h2.up (frz_same n))
  | obj c ns ds =>
    obtain ⟨C, dx, vs, h1, h2, h3, h4⟩ := h
    exact .obj h1 (by rw [frz_at]; exact h2) h3 (h4.up (frz_same n))
  | _ => exact h.elim

/-- what a local name holds -/
inductive Slot where
  | no
  | val (d : DV)
  | own (t : Option Nat) (d : DV)
abbrev Rho := List Slot

def IsOwn (ρ : Rho) (σ : L2.St) (b : Addr) : Prop := ∃ (i : Nat) (t : Option Nat) (d : DV), ρ[i]? = some (.own t d) ∧ σ[i]? = some (some (.ref b))

/-- the names' deep values; refs: where the by-reference parameters stand -/
structure Rel (W : Wd) (refs : List Addr) (ρ : Rho) (σ : L2.St) (Hs H : Hp) : Prop where
  sub : Same Hs H
  len : ρ.length = σ.length
  val : ∀ (i : Nat) (d : DV), ρ[i]? = some (.val d) → ∃ v, σ[i]? = some (some v) ∧ Den W Hs v d
  own : ∀ (i : Nat) (t : Option Nat) (d : DV), ρ[i]? = some (.own t d) → ∃ a, σ[i]? = some (some (.ref a)) ∧ Hs a = none ∧ Own W Hs H a d ∧ ∀ k, t = some k → refs[k]? = some a
  dis : ∀ (i j : Nat) (t u : Option Nat) (d e : DV) (a : Addr), ρ[i]? = some (.own t d) → ρ[j]? = some (.own u e) → σ[i]? = some (some (.ref a)) → σ[j]? = some (some (.ref a)) → i = j

/-- from a state to a later one -/
structure Step (W : Wd) (refs : List Addr) (ρ : Rho) (σ : L2.St) (Hs H : Hp) (ρ' : Rho) (σ' : L2.St) (Hs' H' : Hp) : Prop where
  rel : Rel W refs ρ' σ' Hs' H'
  ex : Same Hs Hs'
  frame : ∀ b o, H b = some o → ¬ IsOwn ρ σ b → H' b = some o
  live : ∀ b, H' b = none → H b = none
  grow : ∀ b, Hs b = none → Hs' b ≠ none → H b = none ∨ IsOwn ρ σ b
  owns : ∀ b, IsOwn ρ' σ' b → IsOwn ρ σ b ∨ H b = none

section
variable {W : Wd} {refs : List Addr} {ρ ρ' ρ'' : Rho} {σ σ' σ'' : L2.St} {Hs Hs' Hs'' H H' H'' : Hp}
theorem Step.refl (r : Rel W refs ρ σ Hs H) : Step W refs ρ σ Hs H ρ σ Hs H :=
  ⟨r, Same.refl _, fun _ _ h _ => h, fun _ h => h, fun b h h' => absurd h h', fun _ h => .inl h⟩
theorem Step.trans (a : Step W refs ρ σ Hs H ρ' σ' Hs' H') (b : Step W refs ρ' σ' Hs' H' ρ'' σ'' Hs'' H'') : Step W refs ρ σ Hs H ρ'' σ'' Hs'' H'' where
  rel := b.rel
  ex := a.ex.trans b.ex
  frame := fun c o e n => b.frame c o (a.frame c o e n) fun z => by
    rcases a.owns c z with q | q
    · exact n q
    · rw [e] at q; cases q
  live := fun c e => a.live c (b.live c e)
  grow := fun c e n => by
    by_cases q : Hs' c = none
    · rcases b.grow c q n with z | z
      · exact .inl (a.live c z)
      · exact (a.owns c z).symm
    · exact a.grow c e q
  owns := fun c z => by
    rcases b.owns c z with q | q
    · exact a.owns c q
    · exact .inr (a.live c q)
end

/-- what an expression is worth: a frozen value, a new object that nothing else holds, what a name holds -/
inductive Res where
  | val (d : DV)
  | tmp (d : DV)
  | loc (i : Nat)
def slotD : Option Slot → Option DV
  | some (.val d) => some d
  | some (.own _ d) => some d
  | _ => none
def cont (ρ : Rho) : Res → Option DV
  | .val d => some d
  | .tmp d => some d
  | .loc i => slotD ρ[i]?
def ResOk (W : Wd) (ρ : Rho) (σ : L2.St) (Hs H : Hp) : Res → V → Prop
  | .val d, v => Den W Hs v d
  | .tmp d, v => ∃ a, v = .ref a ∧ Hs a = none ∧ ¬ IsOwn ρ σ a ∧ Own W Hs H a d
  | .loc i, v => σ[i]? = some (some v)

section
variable {W : Wd} {refs : List Addr} {ρ ρ' : Rho} {σ σ' : L2.St} {Hs Hs' H H' : Hp} {r : Res} {v : V} {d : DV}
theorem ResOk.sh (R : Rel W refs ρ σ Hs H) (h : ResOk W ρ σ Hs H r v) (c : cont ρ r = some d) : Sh W Hs H v d := by
  cases r with
  | val e => cases c; exact Den.sh h R.sub
  | tmp e =>
    cases c
    obtain ⟨a, rfl, _, _, o⟩ := h
    exact o.sh
  | loc i =>
    have h1 : σ[i]? = some (some v) := h
    have c : slotD ρ[i]? = some d := c
    cases q : ρ[i]? with
    | none => rw [q] at c; cases c
    | some s =>
      rw [q] at c
      cases s with
      | no => cases c
      | val e =>
        cases c
        obtain ⟨w, e1, e2⟩ := R.val i _ q
        rw [h1] at e1; cases e1
        exact e2.sh R.sub
      | own t e =>
        cases c
        obtain ⟨a, e1, _, e2, _⟩ := R.own i _ _ q
        rw [h1] at e1; cases e1
        exact e2.sh
/-- what an earlier part was worth stays -/
theorem ResOk.step (S : Step W refs ρ σ Hs H ρ' σ Hs' H') (h : ResOk W ρ σ Hs H r v) : ResOk W ρ' σ Hs' H' r v := by
  cases r with
  | val e => exact Den.up h S.ex
  | tmp e =>
    obtain ⟨a, rfl, n, no, o⟩ := h
    obtain ⟨x, hx⟩ := o.there
    refine ⟨a, rfl, ?_, fun z => ?_, o.up S.ex fun u hu => S.frame a u hu no⟩
    · cases q : Hs' a with
      | none => rfl
      | some u =>
        rcases S.grow a n (by rw [q]; intro z; cases z) with z | z
        · rw [hx] at z; cases z
        · exact absurd z no
    · rcases S.owns a z with q | q
      · exact no q
      · rw [hx] at q; cases q
  | loc i => exact h
end

inductive ResOks (W : Wd) (ρ : Rho) (σ : L2.St) (Hs H : Hp) : List Res → List V → Prop
  | nil : ResOks W ρ σ Hs H [] []
  | cons {r : Res} {v : V} {rs : List Res} {vs : List V} : ResOk W ρ σ Hs H r v → ResOks W ρ σ Hs H rs vs → ResOks W ρ σ Hs H (r :: rs) (v :: vs)
/-- a new object: it was not there -/
def NewT (H : Hp) : Res → V → Prop
  | .tmp _, v => ∀ a, v = .ref a → H a = none
  | _, _ => True
/-- .. and another one than these -/
def ApartT (v : V) : List Res → List V → Prop
  | .tmp _ :: rs, w :: ws => v ≠ w ∧ ApartT v rs ws
  | _ :: rs, _ :: ws => ApartT v rs ws
  | _, _ => True
def Apart (r : Res) (v : V) (rs : List Res) (vs : List V) : Prop := match r with
  | .tmp _ => ApartT v rs vs
  | _ => True
inductive NewTs (H : Hp) : List Res → List V → Prop
  | nil : NewTs H [] []
  | cons {r : Res} {v : V} {rs : List Res} {vs : List V} : NewT H r v → Apart r v rs vs → NewTs H rs vs → NewTs H (r :: rs) (v :: vs)
section
variable {W : Wd} {refs : List Addr} {ρ ρ' : Rho} {σ σ' : L2.St} {Hs Hs' H H' H0 : Hp} {r : Res} {v : V} {rs : List Res} {vs : List V}
theorem ResOks.step (S : Step W refs ρ σ Hs H ρ' σ Hs' H') : ∀ {rs : List Res} {vs : List V}, ResOks W ρ σ Hs H rs vs → ResOks W ρ' σ Hs' H' rs vs
  | _, _, .nil => .nil
  | _, _, .cons h t => .cons (h.step S) (ResOks.step S t)
theorem ResOks.length : ∀ {rs : List Res} {vs : List V}, ResOks W ρ σ Hs H rs vs → rs.length = vs.length
  | _, _, .nil => rfl
  | _, _, .cons h t => congrArg (· + 1) t.length
theorem NewT.back (k : ∀ b, H' b = none → H b = none) (h : NewT H' r v) : NewT H r v := by
  cases r with
  | tmp d => exact fun a e => k a (h a e)
  | _ => trivial
theorem NewTs.back (k : ∀ b, H' b = none → H b = none) : ∀ {rs : List Res} {vs : List V}, NewTs H' rs vs → NewTs H rs vs
  | _, _, .nil => .nil
  | _, _, .cons h a t => .cons (h.back k) a (NewTs.back k t)
/-- an object that stands is apart from those made later -/
theorem apart_of (O : ResOk W ρ σ Hs H r v) : ∀ {rs : List Res} {vs : List V}, NewTs H rs vs → Apart r v rs vs := by
  intro rs vs h
  cases r with
  | tmp d =>
    obtain ⟨a, rfl, _, _, o⟩ := O
    obtain ⟨x, hx⟩ := o.there
    have all : ∀ {rs : List Res} {vs : List V}, NewTs H rs vs → ApartT (.ref a) rs vs := by
      intro rs vs h
      induction h with
      | nil => trivial
      | @cons r w rs ws h1 _ _ ih =>
        cases r with
        | tmp e =>
          refine ⟨fun z => ?_, ih⟩
          have := h1 a z.symm
          rw [hx] at this; cases this
        | val _ => exact ih
        | loc _ => exact ih
    exact all h
  | _ => trivial
end
end EV

set_option maxRecDepth 100000
set_option maxHeartbeats 2000000
/-! EV 2: the small language of bodies, what it is worth (wp). -/
namespace EV
open PySem L2

/-- primitives: operators, built-in functions and methods, by deep values -/
inductive Prim where
  | add | sub | mul | fdiv | mod | pow | neg
  | eq | ne | lt | le | gt | ge | isN | notN | isin | notin
  | len | abs | max2 | min2 | int1 | str1 | tuple1 | list1 | sum | all | any | maxL | minL | sorted | repr | divmod
  | ix | rev
  | split | join
  | isInt | isBool | isTup | isStr
  deriving DecidableEq

mutual
inductive IE where
  | var (i : Nat)
  | cst (d : DV)
  | glb (x : Str)
  | prim (p : Prim) (as : IEs)
  | tup (as : IEs)
  | lst (as : IEs)
  | ife (c : IC) (a b : IE)
  | and2 (a b : IE)
  | or2 (a b : IE)
  | not1 (a : IE)
  | chain (p q : Prim) (a b c : IE)
  | chain3 (p q r : Prim) (a b c d : IE)
  | call (f : Str) (as : IEs)
  | callK (f : Str) (ks : List Str) (bs : IEs)
  | methK (c : Str) (e : IE) (m : Str) (ks : List Str) (bs : IEs)
  | makeK (c : Str) (ks : List Str) (bs : IEs)
  | fld (e : IE) (f : Str)
  | meth (c : Str) (e : IE) (m : Str) (as : IEs)
  | make (c : Str) (as : IEs)
  | slc (e : IE) (lo hi : IO)
  | lc (it : IT) (tg : ITg) (c : IC) (e : IE) (own : List Nat)
  | tm (p : Prim) (o e : IE)
  | isC (c : Str) (e : IE)
  | makeS (c : Str) (e : IE)
  | makeV (c : Str) (as : IEs)
  | cmeth (c m : Str) (as : IEs)
/-- a slice's part -/
inductive IO where
  | no
  | so (e : IE)
/-- tests -/
inductive IC where
  | tt
  | val (e : IE)
  | and2 (a b : IC)
  | or2 (a b : IC)
  | not1 (a : IC)
inductive IEs where
  | nil
  | cons (e : IE) (es : IEs)
  | star (e : IE) (es : IEs)
inductive ITg where
  | nm (i : Nat)
  | sub (o i : IE)
  | fld (o : IE) (f : Str)
  | tp (ts : ITgs)
inductive ITgs where
  | nil
  | cons (t : ITg) (ts : ITgs)
inductive IT where
  | seq (e : IE)
  | range1 (a : IE)
  | range2 (a b : IE)
  | range3 (a b c : IE)
  | enum (e : IE)
  | zip (a b : IE)
  | str (e : IE)
end
mutual
inductive IS where
  | asg (t : ITg) (e : IE)
  | setF (o : IE) (f : Str) (e : IE)
  | par2 (i j : Nat) (a b : IE)
  | par3 (i j l : Nat) (a b c : IE)
  | aug (i : Nat) (neg : Bool) (e : IE)
  | app (o v : IE)
  | ext (o v : IE)
  | ins (o i v : IE)
  | pop (o : IE)
  | expr (e : IE)
  | ife (c : IC) (a b : ISs)
  | for (it : IT) (t : ITg) (b : ISs)
  | while (c : IC) (b : ISs)
  | ret (e : IE)
  | retN
  | brk
  | cnt
  | pass
  | never
inductive ISs where
  | nil
  | cons (s : IS) (ss : ISs)
end

/-- what a primitive gives: a value that stands or is flat or a new tuple; a new object alone -/
inductive PR where
  | it (d : DV)
  | nw (d : DV)

def branch (b : Bool) (P Q : Prop) : Prop := (b = true → P) ∧ (b = false → Q)
theorem branch_of {b : Bool} {P Q : Prop} (h1 : b = true → P) (h2 : b = false → Q) : branch b P Q := ⟨h1, h2⟩
theorem branch_t {P Q : Prop} : branch true P Q = P := by simp [branch]
theorem branch_f {P Q : Prop} : branch false P Q = Q := by simp [branch]

/-! ### data -/
mutual
def toD : DV → PyData
  | .non => .none
  | .bl b => .bool b
  | .int i => .int i
  | .str x => .str x
  | .tup ds => .tuple (toDs ds)
  | .lst ds => .list (toDs ds)
  | .scr ds => .list (toDs ds)
  | .obj _ _ _ => .none
def toDs : List DV → List PyData
  | [] => []
  | d :: ds => toD d :: toDs ds
end
mutual
/-- no instance of an own class in it -/
def bare : DV → Bool
  | .tup ds => bares ds
  | .lst ds => bares ds
  | .scr _ => false
  | .obj _ _ _ => false
  | _ => true
def bares : List DV → Bool
  | [] => true
  | d :: ds => bare d && bares ds
end
/-- may be compared as data -/
def cmpb (d : DV) : Bool := bare d && SeqAt.shaped (toD d)
def deq (a b : DV) : Bool := PyData.eqv (toD a) (toD b)
def flat : DV → Bool
  | .non => true
  | .bl _ => true
  | .int _ => true
  | .str _ => true
  | _ => false
def plainTop : DV → Bool
  | .scr _ => false
  | .obj _ _ _ => false
  | _ => true
def truth : DV → Option Bool
  | .non => some false
  | .bl b => some b
  | .int i => some (i != 0)
  | .str x => if x.length ≤ sizeLine then some ((x.length : Int) != 0) else none
  | .tup ds => some (!ds.isEmpty)
  | .lst ds => some (!ds.isEmpty)
  | .scr _ => none
  | .obj _ _ _ => none
def sliceN (n : Nat) (d : Nat) : Option Int → Nat := HT.sIx n d
def cutD (ds : List DV) (lo hi : Option Int) : List DV := (ds.drop (HT.sIx ds.length 0 lo)).take (HT.sIx ds.length ds.length hi - HT.sIx ds.length 0 lo)
def intsD : List DV → Option (List Int)
  | [] => some []
  | .int i :: ds => (intsD ds).map (i :: ·)
  | _ => none
def boolsD : List DV → Option (List Bool)
  | [] => some []
  | .bl i :: ds => (boolsD ds).map (i :: ·)
  | _ => none
def strsD : List DV → Option (List Str)
  | [] => some []
  | .str i :: ds => (strsD ds).map (i :: ·)
  | _ => none
/-- a slice -/
def evalSl (d : DV) (l h : Option Int) (k : PR → Prop) : Prop := match d with
  | .lst ds => k (.nw (.lst (cutD ds l h)))
  | .scr ds => k (.nw (.lst (cutD ds l h)))
  | .tup ds => k (.it (.tup (cutD ds l h)))
  | .str z => z.length ≤ sizeLine ∧ k (.it (.str (cutS z l h)))
  | _ => False

def isNon : DV → Bool
  | .non => true
  | _ => false
def isIntD : DV → Bool
  | .int _ => true
  | .bl _ => true
  | _ => false
def isBlD : DV → Bool
  | .bl _ => true
  | _ => false
def isTupD : DV → Bool
  | .tup _ => true
  | _ => false
def isStrD : DV → Bool
  | .str _ => true
  | _ => false
/-- what a primitive is worth -/
def evalP (p : Prim) (as : List DV) (k : PR → Prop) : Prop :=
  match p, as with
  | .add, [.int i, .int j] => k (.it (.int (i + j)))
  | .add, [.str a, .str b] => a.length + b.length ≤ sizeLine ∧ k (.it (.str (a ++ b)))
  | .add, [.lst a, .lst b] => a.length + b.length ≤ sizeLine ∧ k (.nw (.lst (a ++ b)))
  | .add, [.tup a, .tup b] => a.length + b.length ≤ sizeLine ∧ k (.it (.tup (a ++ b)))
  | .sub, [.int i, .int j] => k (.it (.int (i - j)))
  | .mul, [.int i, .int j] => CMul i j ∧ k (.it (.int (i * j)))
  | .mul, [.lst a, .int n] => (-(2 ^ 63) ≤ n ∧ n < 2 ^ 63 ∧ a.length * n.toNat ≤ sizeLine) ∧ k (.nw (.lst (List.flatten (List.replicate n.toNat a))))
  | .fdiv, [.int i, .int j] => CDiv i j ∧ k (.it (.int (i / j)))
  | .mod, [.int i, .int j] => 0 < j ∧ k (.it (.int (i % j)))
  | .pow, [.int i, .int j] => CPow i j ∧ k (.it (.int (i ^ j.toNat)))
  | .neg, [.int i] => k (.it (.int (-i)))
  | .eq, [a, b] => cmpb a = true ∧ cmpb b = true ∧ k (.it (.bl (deq a b)))
  | .ne, [a, b] => cmpb a = true ∧ cmpb b = true ∧ k (.it (.bl (!deq a b)))
  | .lt, [.int i, .int j] => k (.it (.bl (decide (i < j))))
  | .le, [.int i, .int j] => k (.it (.bl (decide (i ≤ j))))
  | .gt, [.int i, .int j] => k (.it (.bl (decide (j < i))))
  | .ge, [.int i, .int j] => k (.it (.bl (decide (j ≤ i))))
  | .isN, [a] => k (.it (.bl (isNon a)))
  | .notN, [a] => k (.it (.bl (!isNon a)))
  | .isin, [a, .lst ds] => flat a = true ∧ ds.all flat = true ∧ k (.it (.bl (ds.any fun y => deq y a)))
  | .isin, [a, .tup ds] => flat a = true ∧ ds.all flat = true ∧ k (.it (.bl (ds.any fun y => deq y a)))
  | .isin, [.str a, .str b] => k (.it (.bl (!(Builtin.Str.occurrences b a 0 b.length 1).isEmpty)))
  | .notin, [a, .lst ds] => flat a = true ∧ ds.all flat = true ∧ k (.it (.bl (!ds.any fun y => deq y a)))
  | .notin, [a, .tup ds] => flat a = true ∧ ds.all flat = true ∧ k (.it (.bl (!ds.any fun y => deq y a)))
  | .len, [.lst ds] => k (.it (.int ds.length))
  | .len, [.tup ds] => k (.it (.int ds.length))
  | .len, [.scr ds] => k (.it (.int ds.length))
  | .len, [.str x] => x.length ≤ sizeLine ∧ k (.it (.int x.length))
  | .abs, [.int i] => k (.it (.int (if i < 0 then -i else i)))
  | .max2, [.int i, .int j] => k (.it (.int (if j > i then j else i)))
  | .min2, [.int i, .int j] => k (.it (.int (if j < i then j else i)))
  | .int1, [.int i] => k (.it (.int i))
  | .int1, [.str a] => a.length ≤ 640 ∧ ∃ n, PySem.intText? a = some n ∧ k (.it (.int n))
  | .str1, [.int i] => i.natAbs.log2 < 1920 ∧ k (.it (.str (toString i)))
  | .tuple1, [.lst ds] => k (.it (.tup ds))
  | .tuple1, [.tup ds] => k (.it (.tup ds))
  | .list1, [.lst ds] => k (.nw (.lst ds))
  | .list1, [.tup ds] => k (.nw (.lst ds))
  | .sorted, [.lst ds] => ∃ ns, intsD ds = some ns ∧ ∀ ms : List Int, ms.Perm ns → ms.Pairwise (· ≤ ·) → k (.nw (.lst (ms.map .int)))
  | .sum, [.lst ds] => ∃ ns, intsD ds = some ns ∧ k (.it (.int ns.sum))
  | .all, [.lst ds] => ∃ bs, boolsD ds = some bs ∧ k (.it (.bl (bs.all id)))
  | .any, [.lst ds] => ∃ bs, boolsD ds = some bs ∧ k (.it (.bl (bs.any id)))
  | .maxL, [.lst ds] => ∃ ns, intsD ds = some ns ∧ 0 < ns.length ∧ ∀ m, m ∈ ns → (∀ x ∈ ns, x ≤ m) → k (.it (.int m))
  | .minL, [.lst ds] => ∃ ns, intsD ds = some ns ∧ 0 < ns.length ∧ ∀ m, m ∈ ns → (∀ x ∈ ns, m ≤ x) → k (.it (.int m))
  | .divmod, [.int i, .int j] => CDiv i j ∧ k (.it (.tup [.int (i / j), .int (i % j)]))
  | .ix, [.lst ds, .int i] => ∃ d, atI ds i = some d ∧ k (.it d)
  | .ix, [.scr ds, .int i] => ∃ d, atI ds i = some d ∧ k (.it d)
  | .ix, [.tup ds, .int i] => ∃ d, atI ds i = some d ∧ k (.it d)
  | .ix, [.str z, .int i] => ∃ c, z.length ≤ sizeLine ∧ atI z.cps.toList i = some c ∧ k (.it (.str ⟨#[c]⟩))
  | .rev, [.lst ds] => k (.nw (.lst ds.reverse))
  | .split, [.str a, .str b] => (b.length == 0) = false ∧ a.length + 2 ≤ sizeLine ∧ k (.nw (.lst ((Txt.split a b).map DV.str)))
  | .join, [.str a, .lst ds] => ∃ ys, strsD ds = some ys ∧ (ys.map (·.length)).sum + ys.length * a.length ≤ 16777216 ∧ k (.it (.str (Txt.join a ys)))
  | .join, [.str a, .tup ds] => ∃ ys, strsD ds = some ys ∧ (ys.map (·.length)).sum + ys.length * a.length ≤ 16777216 ∧ k (.it (.str (Txt.join a ys)))
  | .isInt, [a] => plainTop a = true ∧ k (.it (.bl (isIntD a)))
  | .isBool, [a] => plainTop a = true ∧ k (.it (.bl (isBlD a)))
  | .isTup, [a] => plainTop a = true ∧ k (.it (.bl (isTupD a)))
  | .isStr, [a] => plainTop a = true ∧ k (.it (.bl (isStrD a)))
  | _, _ => False

/-- what a def is worth: its arguments; fresh (the answer is a new object alone), the answer, what the by-reference arguments hold -/
abbrev FSpec := List DV → (Bool → DV → List DV → Prop) → Prop
structure FI where
  modes : List Bool
  spec : FSpec
structure Genv where
  fns : Str → Option FI
  con : Str → Option DV
  /-- an attribute that its instances hold -/
  isFld : Str → Str → Bool
  /-- properties by class and name -/
  prop : Str → Str → Option FI
  /-- methods by class and name: self first -/
  meth : Str → Str → Option FI
  /-- classes that are made: what __init__ is worth -/
  mak : Str → Option FI
  /-- the parameters' order, by the keywords of a call -/
  kwo : Str → List Str → Option (List Nat)
  /-- classes that isinstance asks for -/
  isc : Str → Bool
  /-- classes whose __init__ takes all that is given as one tuple -/
  vmak : Str → Option FI
  /-- classmethods by class and name: what is behind the class -/
  cmet : Str → Str → Option FI

inductive Flow where
  | nx
  | rt (r : Res)
  | bk
  | ct

/-- a value taken: what a name holds is frozen -/
def cap (r : Res) (ρ : Rho) (k : DV → Rho → Prop) : Prop :=
  match r with
  | .val d => k d ρ
  | .tmp d => k d ρ
  | .loc i => match ρ[i]? with
    | some (.val d) => k d ρ
    | some (.own none d) => k d (ρ.set i (.val d))
    | _ => False
def capL : List Res → Rho → (List DV → Rho → Prop) → Prop
  | [], ρ, k => k [] ρ
  | r :: rs, ρ, k => cap r ρ fun d ρ1 => capL rs ρ1 fun ds ρ2 => k (d :: ds) ρ2
def conts (ρ : Rho) : List Res → Option (List DV)
  | [] => some []
  | r :: rs => match cont ρ r, conts ρ rs with
    | some d, some ds => some (d :: ds)
    | _, _ => none
def ofPR : PR → Res
  | .it d => .val d
  | .nw d => .tmp d
/-- the arguments of a call: by value (frozen), by reference (an own name, or a new object) -/
def passL : List Bool → List Res → Rho → (List DV → Rho → Prop) → Prop
  | [], [], ρ, k => k [] ρ
  | false :: ms, r :: rs, ρ, k => cap r ρ fun d ρ1 => passL ms rs ρ1 fun ds ρ2 => k (d :: ds) ρ2
  | true :: ms, r :: rs, ρ, k => passL ms rs ρ fun ds ρ2 => ∃ d, cont ρ2 r = some d ∧ k (d :: ds) ρ2
  | _, _, _, _ => False
/-- the by-reference arguments: names that own, each once, or new objects -/
def refsOk : List Bool → List Res → Rho → List Nat → Prop
  | [], [], _, _ => True
  | false :: ms, _ :: rs, ρ, seen => refsOk ms rs ρ seen
  | true :: ms, .tmp _ :: rs, ρ, seen => refsOk ms rs ρ seen
  | true :: ms, .loc i :: rs, ρ, seen => (∃ t d, ρ[i]? = some (.own t d)) ∧ i ∉ seen ∧ refsOk ms rs ρ (i :: seen)
  | _, _, _, _ => False
/-- behind the call: what they hold now -/
def putOuts : List Bool → List Res → List DV → Rho → Option Rho
  | [], [], [], ρ => some ρ
  | false :: ms, _ :: rs, outs, ρ => putOuts ms rs outs ρ
  | true :: ms, .tmp _ :: rs, _ :: outs, ρ => putOuts ms rs outs ρ
  | true :: ms, .loc i :: rs, d :: outs, ρ => match ρ[i]? with
    | some (.own t _) => putOuts ms rs outs (ρ.set i (.own t d))
    | _ => none
  | _, _, _, _ => none
def resOf (fr : Bool) (d : DV) : Res := if fr then .tmp d else .val d
def callX (fi : FI) (rs : List Res) (ρ : Rho) (k : Bool → DV → List DV → Rho → Prop) : Prop :=
  passL fi.modes rs ρ fun ds ρ1 => refsOk fi.modes rs ρ1 [] ∧ fi.spec ds fun fr d outs => ∃ ρ2, putOuts fi.modes rs outs ρ1 = some ρ2 ∧ k fr d outs ρ2
def callW (fi : FI) (rs : List Res) (ρ : Rho) (k : Res → Rho → Prop) : Prop := callX fi rs ρ fun fr d _ ρ2 => k (resOf fr d) ρ2

/-- isinstance of an own class -/
def isaOk : DV → Bool
  | .scr _ => false
  | _ => true
def isaD (c : Str) : DV → Bool
  | .obj c' _ _ => decide (c' = c)
  | _ => false
/-- in another order -/
def permW {α : Type} (ord : List Nat) (xs : List α) : List α := ord.filterMap fun i => xs[i]?
def allVal : List Res → List Bool
  | [] => []
  | _ :: rs => false :: allVal rs
/-- the items of what is walked -/
def pairsE (ds : List DV) : List DV := ds.zipIdx.map fun p => .tup [.int (p.2 : Nat), p.1]
def pairsZ (as bs : List DV) : List DV := (as.zip bs).map fun p => .tup [p.1, p.2]
def rangeD (lo : Int) (n : Nat) : List DV := (List.range n).map fun i => .int (lo + (i : Nat))
def rangeC (lo c : Int) (n : Nat) : List DV := (List.range n).map fun i => .int (lo + (i : Nat) * c)
/-- a sequence's items -/
def itemsOf : DV → Option (List DV)
  | .lst ds => some ds
  | .tup ds => some ds
  | _ => none
def seqOf (r : Res) (ρ : Rho) : Option (List DV) := (cont ρ r).bind itemsOf
def lstOf : DV → Option (List DV)
  | .lst ds => some ds
  | _ => none
def tupOf : DV → Option (List DV)
  | .tup ds => some ds
  | _ => none
def enumL (d : DV) : Option (List DV) := (lstOf d).map pairsE
def enumT (d : DV) : Option (List DV) := (tupOf d).map pairsE
/-- by what is walked: a list, a tuple -/
def byKind (d : Option DV) (P Q : Prop) : Prop := match d with
  | some (.lst _) => P
  | some (.tup _) => Q
  | _ => False
/-- by what is walked, plainly -/
def seqK (d : Option DV) (P Q R : Prop) (S : Str → Prop) : Prop := match d with
  | some (.lst _) => P
  | some (.tup _) => Q
  | some (.scr _) => R
  | some (.str z) => S z
  | _ => False
def scrOf : DV → Option (List DV)
  | .scr ds => some ds
  | _ => none
def charsD (z : Str) : List DV := z.cps.toList.map fun c => .str ⟨#[c]⟩
/-- what must stay while it is walked -/
def stays (r : Res) (ρ0 ρ : Rho) : Prop := match r with
  | .loc i => slotD ρ[i]? = slotD ρ0[i]?
  | _ => True

def lcW (f : DV → Rho → (Option DV → Rho → Prop) → Prop) : List DV → Rho → List DV → (List DV → Rho → Prop) → Prop
  | [], ρ, acc, k => k acc ρ
  | d :: ds, ρ, acc, k => f d ρ fun o ρ1 => lcW f ds ρ1 (acc ++ o.toList) k
/-- a while, so many turns at most -/
def whileW (t : Rho → (Bool → Rho → Prop) → Prop) (f : Rho → (Flow → Rho → Prop) → Prop) : Nat → Rho → (Flow → Rho → Prop) → Prop
  | 0, _, _ => False
  | m + 1, ρ, k => t ρ fun b ρ1 => branch b (f ρ1 fun fl ρ2 => match fl with
    | .nx => whileW t f m ρ2 k
    | .ct => whileW t f m ρ2 k
    | .bk => k .nx ρ2
    | .rt r => k (.rt r) ρ2) (k .nx ρ1)
def forW (f : DV → Rho → (Flow → Rho → Prop) → Prop) : List DV → Rho → (Flow → Rho → Prop) → Prop
  | [], ρ, k => k .nx ρ
  | d :: ds, ρ, k => f d ρ fun fl ρ1 => match fl with
    | .nx => forW f ds ρ1 k
    | .ct => forW f ds ρ1 k
    | .bk => k .nx ρ1
    | .rt r => k (.rt r) ρ1
/-- the slots of a comprehension's own names, emptied; given back -/
def wipeR (ρ : Rho) : List Nat → Rho
  | [] => ρ
  | v :: vs => (wipeR ρ vs).set v .no
def backR (ρ0 ρ : Rho) : List Nat → Rho
  | [] => ρ
  | v :: vs => (backR ρ0 ρ vs).set v (ρ0[v]?.getD .no)
def plainSlots (ρ : Rho) (vs : List Nat) : Prop := ∀ v ∈ vs, ∀ t d, ρ[v]? ≠ some (.own t d)

mutual
/-- the names that a target binds -/
def tgs : ITg → List Nat
  | .nm i => [i]
  | .sub _ _ => []
  | .fld _ _ => []
  | .tp ts => tgss ts
def tgss : ITgs → List Nat
  | .nil => []
  | .cons t ts => tgs t ++ tgss ts
end
/-- how many targets -/
def tgN : ITgs → Nat
  | .nil => 0
  | .cons _ ts => tgN ts + 1
/-- a name is bound -/
def bindR (i : Nat) (r : Res) (ρ : Rho) (k : Rho → Prop) : Prop :=
  match r with
  | .tmp d => k (ρ.set i (.own none d))
  | r => cap r ρ fun d ρ1 => k (ρ1.set i (.val d))

/-- what a name holds, taken; new objects stay new -/
def res1 (r : Res) (ρ : Rho) (k : Res → Rho → Prop) : Prop := match r with
  | .loc i => cap (.loc i) ρ fun d ρ1 => k (.val d) ρ1
  | r => k r ρ
def bind1 (i : Nat) (r : Res) (ρ : Rho) : Rho := match r with
  | .tmp d => ρ.set i (.own none d)
  | .val d => ρ.set i (.val d)
  | .loc _ => ρ
/-- a field is set -/
def putN (f : Str) : List Str → List Str
  | [] => [f]
  | g :: r => if g = f then g :: r else g :: putN f r
def putD (f : Str) (d : DV) : List Str → List DV → List DV
  | [], _ => [d]
  | g :: r, e :: ds => if g = f then d :: ds else e :: putD f d r ds
  | _ :: _, [] => []
mutual
def wpE (G : Genv) : IE → Rho → (Res → Rho → Prop) → Prop
  | .var i, ρ, k => (∃ d, slotD ρ[i]? = some d) ∧ k (.loc i) ρ
  | .cst d, ρ, k => flat d = true ∧ k (.val d) ρ
  | .glb x, ρ, k => ∃ d, G.con x = some d ∧ k (.val d) ρ
  | .prim p as, ρ, k => wpA G as ρ fun rs ρ1 => ∃ ds, conts ρ1 rs = some ds ∧ evalP p ds fun pr => k (ofPR pr) ρ1
  | .tup as, ρ, k => wpA G as ρ fun rs ρ1 => capL rs ρ1 fun ds ρ2 => ds.length ≤ sizeLine ∧ k (.val (.tup ds)) ρ2
  | .lst as, ρ, k => wpA G as ρ fun rs ρ1 => capL rs ρ1 fun ds ρ2 => ds.length ≤ sizeLine ∧ k (.tmp (.lst ds)) ρ2
  | .ife c a b, ρ, k => wpT G c ρ fun t ρ1 => branch t (wpE G a ρ1 k) (wpE G b ρ1 k)
  | .and2 a b, ρ, k => wpE G a ρ fun r ρ1 => ∃ c, cont ρ1 r = some (.bl c) ∧ branch c (wpE G b ρ1 k) (k (.val (.bl false)) ρ1)
  | .or2 a b, ρ, k => wpE G a ρ fun r ρ1 => ∃ c, cont ρ1 r = some (.bl c) ∧ branch c (k (.val (.bl true)) ρ1) (wpE G b ρ1 k)
  | .not1 a, ρ, k => wpE G a ρ fun r ρ1 => ∃ c, cont ρ1 r = some (.bl c) ∧ k (.val (.bl (!c))) ρ1
  | .chain p q a b c, ρ, k => wpE G a ρ fun r1 ρ1 => wpE G b ρ1 fun r2 ρ2 => ∃ d e, cont ρ2 r1 = some d ∧ cont ρ2 r2 = some e ∧ evalP p [d, e] fun pr =>
      ∃ t, pr = .it (.bl t) ∧ branch t (wpE G c ρ2 fun r3 ρ3 => ∃ d' f, cont ρ3 r2 = some d' ∧ cont ρ3 r3 = some f ∧ evalP q [d', f] fun pr' => k (ofPR pr') ρ3) (k (.val (.bl false)) ρ2)
  | .chain3 p q s a b c e, ρ, k => wpE G a ρ fun r1 ρ1 => wpE G b ρ1 fun r2 ρ2 => ∃ d1 d2, cont ρ2 r1 = some d1 ∧ cont ρ2 r2 = some d2 ∧ evalP p [d1, d2] fun pr =>
      ∃ t, pr = .it (.bl t) ∧ branch t (wpE G c ρ2 fun r3 ρ3 => ∃ d2' d3, cont ρ3 r2 = some d2' ∧ cont ρ3 r3 = some d3 ∧ evalP q [d2', d3] fun pr' =>
        ∃ t', pr' = .it (.bl t') ∧ branch t' (wpE G e ρ3 fun r4 ρ4 => ∃ d3' d4, cont ρ4 r3 = some d3' ∧ cont ρ4 r4 = some d4 ∧ evalP s [d3', d4] fun pr'' => k (ofPR pr'') ρ4) (k (.val (.bl false)) ρ3)) (k (.val (.bl false)) ρ2)
  | .call f as, ρ, k => ∃ fi, G.fns f = some fi ∧ wpA G as ρ fun rs ρ1 => callW fi rs ρ1 k
  | .callK f ks bs, ρ, k => ∃ fi ord, G.fns f = some fi ∧ G.kwo f ks = some ord ∧ wpA G bs ρ fun rs ρ1 => rs.length = ks.length ∧ passL (allVal rs) rs ρ1 fun ds ρ2 => callW fi ((permW ord ds).map .val) ρ2 k
  | .methK c e m ks bs, ρ, k => ∃ fi ord, G.meth c m = some fi ∧ G.kwo m ks = some ord ∧ wpE G e ρ fun r ρ1 => ∃ ns ds, cont ρ1 r = some (.obj c ns ds) ∧ (∀ x, x ∈ ns → ¬ m = x) ∧ wpA G bs ρ1 fun rs ρ2 => rs.length = ks.length ∧ passL (allVal rs) rs ρ2 fun ds ρ3 => callW fi (r :: (permW ord ds).map .val) ρ3 k
  | .makeK c ks bs, ρ, k => ∃ fi ord, G.mak c = some fi ∧ G.kwo c ks = some ord ∧ wpA G bs ρ fun rs ρ1 => rs.length = ks.length ∧ passL (allVal rs) rs ρ1 fun ds ρ2 => callX fi (.tmp (.obj c [] []) :: (permW ord ds).map .val) ρ2 fun _ d outs ρ3 => d = .non ∧ ∃ d0 os, outs = d0 :: os ∧ k (.tmp d0) ρ3
  | .fld e f, ρ, k => wpE G e ρ fun r ρ1 => ∃ c ns ds, cont ρ1 r = some (.obj c ns ds) ∧
      ((G.isFld c f = true ∧ ∃ d, (ns.zip ds).lookup f = some d ∧ k (.val d) ρ1) ∨ ∃ fi, G.prop c f = some fi ∧ callW fi [r] ρ1 k)
  | .meth c e m as, ρ, k => ∃ fi, G.meth c m = some fi ∧ wpE G e ρ fun r ρ1 => ∃ ns ds, cont ρ1 r = some (.obj c ns ds) ∧ (∀ x, x ∈ ns → ¬ m = x) ∧ wpA G as ρ1 fun rs ρ2 => callW fi (r :: rs) ρ2 k
  | .make c as, ρ, k => ∃ fi, G.mak c = some fi ∧ wpA G as ρ fun rs ρ1 => callX fi (.tmp (.obj c [] []) :: rs) ρ1 fun _ d outs ρ2 => d = .non ∧ ∃ d0 os, outs = d0 :: os ∧ k (.tmp d0) ρ2
  | .slc e lo hi, ρ, k => wpE G e ρ fun r ρ1 => wpO G lo ρ1 fun l ρ2 => wpO G hi ρ2 fun h ρ3 => ∃ d, cont ρ3 r = some d ∧ evalSl d l h fun pr => k (ofPR pr) ρ3
  | .lc it tg c e own, ρ, k => wpI G it ρ fun r f ρ1 => ∃ d0 ds, cont ρ1 r = some d0 ∧ f d0 = some ds ∧ ds.length ≤ sizeLine ∧ plainSlots ρ1 own ∧ lcW (fun d ρ2 k' => wpG G tg (.val d) ρ2 fun ρ3 => wpT G c ρ3 fun t ρ4 =>
        branch t (wpE G e ρ4 fun r' ρ5 => cap r' ρ5 fun d' ρ6 => stays r ρ1 (backR ρ1 ρ6 own) ∧ k' (some d') (wipeR ρ6 own)) (stays r ρ1 (backR ρ1 ρ4 own) ∧ k' none (wipeR ρ4 own))) ds (wipeR ρ1 own) []
      fun ds' ρ2 => k (.tmp (.lst ds')) (backR ρ1 ρ2 own)
  | .tm p o e, ρ, k => wpE G o ρ fun r ρ1 => (∃ z, cont ρ1 r = some (.str z)) ∧ wpE G e ρ1 fun r' ρ2 => ∃ ds, conts ρ2 [r, r'] = some ds ∧ evalP p ds fun pr => k (ofPR pr) ρ2
  | .isC c e, ρ, k => G.isc c = true ∧ wpE G e ρ fun r ρ1 => ∃ d, cont ρ1 r = some d ∧ isaOk d = true ∧ k (.val (.bl (isaD c d))) ρ1
  | .makeS c e, ρ, k => ∃ fi, G.vmak c = some fi ∧ wpE G e ρ fun r ρ1 => ∃ ds, seqOf r ρ1 = some ds ∧ ds.length ≤ sizeLine ∧ callX fi [.tmp (.obj c [] []), .val (.tup ds)] ρ1 fun _ d outs ρ2 => d = .non ∧ ∃ d0 os, outs = d0 :: os ∧ k (.tmp d0) ρ2
  | .makeV c as, ρ, k => ∃ fi, G.vmak c = some fi ∧ wpA G as ρ fun rs ρ1 => capL rs ρ1 fun ds ρ2 => ds.length ≤ sizeLine ∧ callX fi [.tmp (.obj c [] []), .val (.tup ds)] ρ2 fun _ d outs ρ3 => d = .non ∧ ∃ d0 os, outs = d0 :: os ∧ k (.tmp d0) ρ3
  | .cmeth c m as, ρ, k => ∃ fi, G.cmet c m = some fi ∧ wpA G as ρ fun rs ρ1 => callW fi rs ρ1 k
def wpA (G : Genv) : IEs → Rho → (List Res → Rho → Prop) → Prop
  | .nil, ρ, k => k [] ρ
  | .cons e es, ρ, k => wpE G e ρ fun r ρ1 => wpA G es ρ1 fun rs ρ2 => k (r :: rs) ρ2
  | .star e es, ρ, k => wpE G e ρ fun r ρ1 => ∃ ds, seqOf r ρ1 = some ds ∧ wpA G es ρ1 fun rs ρ2 => k (ds.map .val ++ rs) ρ2
def wpO (G : Genv) : IO → Rho → (Option Int → Rho → Prop) → Prop
  | .no, ρ, k => k none ρ
  | .so e, ρ, k => wpE G e ρ fun r ρ1 => ∃ i, cont ρ1 r = some (.int i) ∧ k (some i) ρ1
def wpT (G : Genv) : IC → Rho → (Bool → Rho → Prop) → Prop
  | .tt, ρ, k => k true ρ
  | .and2 a b, ρ, k => wpT G a ρ fun c ρ1 => branch c (wpT G b ρ1 k) (k false ρ1)
  | .or2 a b, ρ, k => wpT G a ρ fun c ρ1 => branch c (k true ρ1) (wpT G b ρ1 k)
  | .not1 a, ρ, k => wpT G a ρ fun c ρ1 => k (!c) ρ1
  | .val e, ρ, k => wpE G e ρ fun r ρ1 => ∃ d b, cont ρ1 r = some d ∧ truth d = some b ∧ k b ρ1
def wpG (G : Genv) : ITg → Res → Rho → (Rho → Prop) → Prop
  | .nm i, r, ρ, k => bindR i r ρ k
  | .sub o i, r, ρ, k => wpE G o ρ fun ro ρ1 => wpE G i ρ1 fun ri ρ2 => cap r ρ2 fun d ρ3 => ∃ l t ds z j, ro = .loc l ∧ ρ3[l]? = some (.own t (.lst ds)) ∧ cont ρ3 ri = some (.int z) ∧ ixN ds.length z = some j ∧
      k (ρ3.set l (.own t (.lst (ds.set j d))))
  | .fld o f, r, ρ, k => False
  | .tp ts, r, ρ, k => ∃ ds, seqOf r ρ = some ds ∧ ds.length = tgN ts ∧ wpGs G ts ds ρ k
def wpGs (G : Genv) : ITgs → List DV → Rho → (Rho → Prop) → Prop
  | .nil, [], ρ, k => k ρ
  | .cons t ts, d :: ds, ρ, k => wpG G t (.val d) ρ fun ρ1 => wpGs G ts ds ρ1 k
  | _, _, _, _ => False
def wpI (G : Genv) : IT → Rho → (Res → (DV → Option (List DV)) → Rho → Prop) → Prop
  | .seq e, ρ, k => wpE G e ρ fun r ρ1 => seqK (cont ρ1 r) (k r lstOf ρ1) (k r tupOf ρ1) (k r scrOf ρ1) fun z => k (.val .non) (fun _ => some (charsD z)) ρ1
  | .range1 a, ρ, k => wpE G a ρ fun r ρ1 => ∃ j, cont ρ1 r = some (.int j) ∧ -(2 ^ 62) ≤ j ∧ j < 2 ^ 62 ∧ k (.val .non) (fun _ => some (rangeD 0 j.toNat)) ρ1
  | .range2 a b, ρ, k => wpE G a ρ fun r ρ1 => wpE G b ρ1 fun s ρ2 => ∃ i j, cont ρ2 r = some (.int i) ∧ cont ρ2 s = some (.int j) ∧ (-(2 ^ 62) ≤ i ∧ i < 2 ^ 62 ∧ -(2 ^ 62) ≤ j ∧ j < 2 ^ 62) ∧
      k (.val .non) (fun _ => some (rangeD i (j - i).toNat)) ρ2
  | .range3 a b c, ρ, k => wpE G a ρ fun r ρ1 => wpE G b ρ1 fun s ρ2 => wpE G c ρ2 fun t ρ3 => ∃ i j, cont ρ3 r = some (.int i) ∧ cont ρ3 s = some (.int j) ∧ cont ρ3 t = some (.int (-1)) ∧ (-(2 ^ 62) ≤ i ∧ i < 2 ^ 62 ∧ -(2 ^ 62) ≤ j ∧ j < 2 ^ 62) ∧
      k (.val .non) (fun _ => some (rangeC i (-1) (i - j).toNat)) ρ3
  | .enum e, ρ, k => wpE G e ρ fun r ρ1 => byKind (cont ρ1 r) (k r enumL ρ1) (k r enumT ρ1)
  | .zip a b, ρ, k => False
  | .str e, ρ, k => wpE G e ρ fun r ρ1 => ∃ z, cont ρ1 r = some (.str z) ∧ k (.val .non) (fun _ => some (z.cps.toList.map fun c => .str ⟨#[c]⟩)) ρ1
end
mutual
def wpS (G : Genv) : IS → Rho → (Flow → Rho → Prop) → Prop
  | .asg t e, ρ, k => wpE G e ρ fun r ρ1 => wpG G t r ρ1 fun ρ2 => k .nx ρ2
  | .setF o f e, ρ, k => wpE G e ρ fun r ρ1 => wpE G o ρ1 fun ro ρ2 => cap r ρ2 fun d ρ3 => ∃ l t c ns ds, ro = .loc l ∧ ρ3[l]? = some (.own t (.obj c ns ds)) ∧ G.isFld c f = true ∧ ns.length < 1000 ∧ k .nx (ρ3.set l (.own t (.obj c (putN f ns) (putD f d ns ds))))
  | .par2 i j a b, ρ, k => wpE G a ρ fun r1 ρ1 => wpE G b ρ1 fun r2 ρ2 => res1 r1 ρ2 fun s1 ρ3 => res1 r2 ρ3 fun s2 ρ4 => k .nx (bind1 j s2 (bind1 i s1 ρ4))
  | .par3 i j l a b c, ρ, k => wpE G a ρ fun r1 ρ1 => wpE G b ρ1 fun r2 ρ2 => wpE G c ρ2 fun r3 ρ3 => res1 r1 ρ3 fun s1 ρ4 => res1 r2 ρ4 fun s2 ρ5 => res1 r3 ρ5 fun s3 ρ6 => k .nx (bind1 l s3 (bind1 j s2 (bind1 i s1 ρ6)))
  | .aug i neg e, ρ, k => (∃ d0, slotD ρ[i]? = some d0) ∧ wpE G e ρ fun r ρ1 => ∃ a b, slotD ρ1[i]? = some (.int a) ∧ cont ρ1 r = some (.int b) ∧ k .nx (ρ1.set i (.val (.int (if neg then a - b else a + b))))
  | .app o v, ρ, k => wpE G o ρ fun ro ρ1 => (∃ ds, cont ρ1 ro = some (.lst ds)) ∧ wpE G v ρ1 fun rv ρ2 => cap rv ρ2 fun d ρ3 => ∃ l t ds, ro = .loc l ∧ ρ3[l]? = some (.own t (.lst ds)) ∧ ds.length < sizeLine ∧ k .nx (ρ3.set l (.own t (.lst (ds ++ [d]))))
  | .ext o v, ρ, k => wpE G o ρ fun ro ρ1 => (∃ ds, cont ρ1 ro = some (.lst ds)) ∧ wpE G v ρ1 fun rv ρ2 => ∃ l t ds es, ro = .loc l ∧ ρ2[l]? = some (.own t (.lst ds)) ∧ cont ρ2 rv = some (.lst es) ∧ ds.length + es.length ≤ sizeLine ∧ k .nx (ρ2.set l (.own t (.lst (ds ++ es))))
  | .ins o i v, ρ, k => wpE G o ρ fun ro ρ1 => (∃ ds, cont ρ1 ro = some (.lst ds)) ∧ wpE G i ρ1 fun ri ρ2 => wpE G v ρ2 fun rv ρ3 => ∃ z, cont ρ3 ri = some (.int z) ∧ 0 ≤ z ∧ z < 2 ^ 63 ∧ cap rv ρ3 fun d ρ4 => ∃ l t ds, ro = .loc l ∧ ρ4[l]? = some (.own t (.lst ds)) ∧ ds.length < sizeLine ∧ k .nx (ρ4.set l (.own t (.lst (ds.take z.toNat ++ [d] ++ ds.drop z.toNat))))
  | .pop o, ρ, k => False
  | .expr e, ρ, k => wpE G e ρ fun _ ρ1 => k .nx ρ1
  | .ife c a b, ρ, k => wpT G c ρ fun t ρ1 => branch t (wpSs G a ρ1 k) (wpSs G b ρ1 k)
  | .for it t b, ρ, k => wpI G it ρ fun r f ρ1 => cap r ρ1 fun d0 ρ2 => ∃ ds, f d0 = some ds ∧ forW (fun d ρ3 k' => wpG G t (.val d) ρ3 fun ρ4 => wpSs G b ρ4 k') ds ρ2 k
  | .while c b, ρ, k => ∃ m, whileW (fun ρ1 k1 => wpT G c ρ1 k1) (fun ρ1 k1 => wpSs G b ρ1 k1) m ρ k
  | .ret e, ρ, k => wpE G e ρ fun r ρ1 => k (.rt r) ρ1
  | .retN, ρ, k => k (.rt (.val .non)) ρ
  | .brk, ρ, k => k .bk ρ
  | .cnt, ρ, k => k .ct ρ
  | .pass, ρ, k => k .nx ρ
  | .never, _, _ => False
def wpSs (G : Genv) : ISs → Rho → (Flow → Rho → Prop) → Prop
  | .nil, ρ, k => k .nx ρ
  | .cons s ss, ρ, k => wpS G s ρ fun fl ρ1 => match fl with
    | .nx => wpSs G ss ρ1 k
    | fl => k fl ρ1
end
end EV

set_option maxRecDepth 100000
set_option maxHeartbeats 4000000
/-! EV 3: the primitives keep what evalP says. -/
namespace EV
open PySem L2

structure PStep (Hs H Hs' H' : Hp) : Prop where
  ex : Same Hs Hs'
  up : Same H H'
  sub : Same Hs' H'
  grow : ∀ b, Hs b = none → Hs' b ≠ none → H b = none
theorem same_new {H : Hp} {p : Addr} {o : HO} (hp : H p = none) : Same H (upd H p o) := fun b u e => by
  rw [upd_ne (ne_of_none e hp)]; exact e
theorem none_sub {Hs H : Hp} (s : Same Hs H) {p : Addr} (hp : H p = none) : Hs p = none := s.free hp
theorem PStep.refl {Hs H : Hp} (s : Same Hs H) : PStep Hs H Hs H := ⟨Same.refl _, Same.refl _, s, fun b h h' => absurd h h'⟩
theorem PStep.newH {Hs H : Hp} (s : Same Hs H) {p : Addr} (hp : H p = none) (o : HO) : PStep Hs H Hs (upd H p o) :=
  ⟨Same.refl _, same_new hp, s.trans (same_new hp), fun b h h' => absurd h h'⟩
theorem PStep.newB {Hs H : Hp} (s : Same Hs H) {p : Addr} (hp : H p = none) (o : HO) : PStep Hs H (upd Hs p o) (upd H p o) where
  ex := same_new (none_sub s hp)
  up := same_new hp
  sub := fun b u e => by
    by_cases hb : b = p
    · subst hb; rw [upd_same] at e ⊢; exact e
    · rw [upd_ne hb] at e ⊢; exact s b u e
  grow := fun b h h' => by
    by_cases hb : b = p
    · subst hb; exact hp
    · rw [upd_ne hb] at h'; exact absurd h h'
def PROk (W : Wd) (Hs' H H' : Hp) : PR → V → Prop
  | .it d, v => Den W Hs' v d
  | .nw d, v => ∃ a, v = .ref a ∧ H a = none ∧ Hs' a = none ∧ Own W Hs' H' a d
def PPost (W : Wd) (Hs H : Hp) (k : PR → Prop) (Q : VK) : Prop := ∀ pr v Hs' H', PStep Hs H Hs' H' → PROk W Hs' H H' pr v → k pr → Q v H'

section
variable {W : Wd} {Hs H : Hp} {k : PR → Prop} {Q : VK}
theorem PPost.flat (q : PPost W Hs H k Q) (s : Same Hs H) {v : V} {d : DV} (h : Den W Hs v d) (kk : k (.it d)) : Q v H := q (.it d) v Hs H (PStep.refl s) h kk
theorem PPost.lst (q : PPost W Hs H k Q) (s : Same Hs H) {xs : List V} {ds : List DV} (h : Dens W Hs xs ds) (kk : k (.nw (.lst ds))) : ∀ p, H p = none → Q (.ref p) (upd H p (.lst xs)) := fun p hp =>
  q (.nw (.lst ds)) (.ref p) Hs _ (PStep.newH s hp _) ⟨p, rfl, hp, none_sub s hp, xs, upd_same, h⟩ kk
theorem PPost.tup (q : PPost W Hs H k Q) (s : Same Hs H) {xs : List V} {ds : List DV} (h : Dens W Hs xs ds) (kk : k (.it (.tup ds))) : ∀ p, H p = none → Q (.ref p) (upd H p (.tup xs)) := fun p hp =>
  q (.it (.tup ds)) (.ref p) (upd Hs p (.tup xs)) _ (PStep.newB s hp _) (.tup (SqT.of upd_same) (h.up (same_new (none_sub s hp)))) kk
theorem PPost.old (q : PPost W Hs H k Q) (s : Same Hs H) {a : Addr} {xs : List V} {ds : List DV} (h : Dens W Hs xs ds) (hx : SqT W.K Hs a xs) (kk : k (.it (.tup ds))) : Q (.ref a) H := q.flat s (.tup hx h) kk
end

/-! ### data -/
theorem vint {W : Wd} {Hs H : Hp} {v : V} {i : Int} (h : Sh W Hs H v (.int i)) : v = .int i := h
theorem densInts {W : Wd} {H : Hp} : ∀ {ds : List DV} {vs : List V} {ns : List Int}, Dens W H vs ds → intsD ds = some ns → vs = ns.map V.int
  | [], _, _, h, e => by cases h; cases e; rfl
  | .int i :: ds, _, ns, h, e => by
    cases h with
    | cons h1 h2 =>
      cases h1
      unfold intsD at e
      cases q : intsD ds with
      | none => rw [q] at e; cases e
      | some ms =>
        rw [q] at e; cases e
        rw [densInts h2 q]; rfl
  | .non :: _, _, _, _, e => by cases e
  | .bl _ :: _, _, _, _, e => by cases e
  | .str _ :: _, _, _, _, e => by cases e
  | .tup _ :: _, _, _, _, e => by cases e
  | .lst _ :: _, _, _, _, e => by cases e
  | .scr _ :: _, _, _, _, e => by cases e
  | .obj _ _ _ :: _, _, _, _, e => by cases e
theorem densBools {W : Wd} {H : Hp} : ∀ {ds : List DV} {vs : List V} {ns : List Bool}, Dens W H vs ds → boolsD ds = some ns → vs = ns.map V.bl
  | [], _, _, h, e => by cases h; cases e; rfl
  | .bl i :: ds, _, ns, h, e => by
    cases h with
    | cons h1 h2 =>
      cases h1
      unfold boolsD at e
      cases q : boolsD ds with
      | none => rw [q] at e; cases e
      | some ms =>
        rw [q] at e; cases e
        rw [densBools h2 q]; rfl
  | .non :: _, _, _, _, e => by cases e
  | .int _ :: _, _, _, _, e => by cases e
  | .str _ :: _, _, _, _, e => by cases e
  | .tup _ :: _, _, _, _, e => by cases e
  | .lst _ :: _, _, _, _, e => by cases e
  | .scr _ :: _, _, _, _, e => by cases e
  | .obj _ _ _ :: _, _, _, _, e => by cases e
theorem densStrs {W : Wd} {H : Hp} : ∀ {ds : List DV} {vs : List V} {ns : List Str}, Dens W H vs ds → strsD ds = some ns → vs = ns.map V.str
  | [], _, _, h, e => by cases h; cases e; rfl
  | .str i :: ds, _, ns, h, e => by
    cases h with
    | cons h1 h2 =>
      cases h1
      unfold strsD at e
      cases q : strsD ds with
      | none => rw [q] at e; cases e
      | some ms =>
        rw [q] at e; cases e
        rw [densStrs h2 q]; rfl
  | .non :: _, _, _, _, e => by cases e
  | .bl _ :: _, _, _, _, e => by cases e
  | .int _ :: _, _, _, _, e => by cases e
  | .tup _ :: _, _, _, _, e => by cases e
  | .lst _ :: _, _, _, _, e => by cases e
  | .scr _ :: _, _, _, _, e => by cases e
  | .obj _ _ _ :: _, _, _, _, e => by cases e
theorem denStrs {W : Wd} {H : Hp} : ∀ ys : List Str, Dens W H (ys.map V.str) (ys.map DV.str)
  | [] => .nil
  | y :: ys => .cons (.str y) (denStrs ys)

mutual
theorem den_dp {W : Wd} {H : Hp} : ∀ (d : DV) (v : V), Den W H v d → bare d = true → Dp W.K H v (toD d)
  | .non, _, h, _ => by cases h; exact .non
  | .bl _, _, h, _ => by cases h; exact .bl _
  | .int _, _, h, _ => by cases h; exact .int _
  | .str _, _, h, _ => by cases h; exact .str _
  | .tup ds, _, h, b => by
    cases h with
    | tup hs ha => exact .tup hs (dens_dp ds _ ha b)
  | .lst ds, _, h, b => by
    cases h with
    | lst hs ha => exact .lst (SqL.of hs) (dens_dp ds _ ha b)
  | .scr ds, _, _, b => by cases b
  | .obj _ _ _, _, _, b => by cases b
theorem dens_dp {W : Wd} {H : Hp} : ∀ (ds : List DV) (vs : List V), Dens W H vs ds → bares ds = true → DpAll W.K H vs (toDs ds)
  | [], _, h, _ => by cases h; exact .nil
  | d :: ds, _, h, b => by
    cases h with
    | cons h1 h2 =>
      have b' := Bool.and_eq_true_iff.mp (show (bare d && bares ds) = true from b)
      exact .cons (den_dp d _ h1 b'.1) (dens_dp ds _ h2 b'.2)
end
theorem sh_dp {W : Wd} {Hs H : Hp} {v : V} {d : DV} (s : Same Hs H) (h : Sh W Hs H v d) (b : bare d = true) : Dp W.K H v (toD d) := by
  cases d with
  | non => cases (show v = _ from h); exact .non
  | bl _ => cases (show v = _ from h); exact .bl _
  | int _ => cases (show v = _ from h); exact .int _
  | str _ => cases (show v = _ from h); exact .str _
  | tup ds =>
    obtain ⟨a, xs, rfl, hx, hd⟩ := h
    exact .tup (same_t s hx) (dens_dp ds _ (hd.up s) b)
  | lst ds =>
    obtain ⟨a, xs, rfl, hx, hd⟩ := h
    exact .lst (SqL.of hx) (dens_dp ds _ (hd.up s) b)
  | scr ds => cases b
  | obj _ _ _ => cases b

/-! ### two-place operators -/
/-- a rule for two values keeps what the primitive says -/
def PI2 (W : Wd) (p : Prim) (r : R2) : Prop := ∀ (Hs H : Hp) (x y : V) (d e : DV) (k : PR → Prop) (Q : VK), Same Hs H → Sh W Hs H x d → Sh W Hs H y e → evalP p [d, e] k → PPost W Hs H k Q → r x y H Q
def rOr (r r' : R2) : R2 := fun x y H Q => r x y H Q ∨ r' x y H Q
def rCatS : R2 := fun x y H Q => ∃ i j, x = .str i ∧ y = .str j ∧ i.length + j.length ≤ sizeLine ∧ Q (.str (i ++ j)) H
def rAddAll (K : PySem.W.Frag) : R2 := rOr (rI0 fun i j => .int (i + j)) (rOr rCatS (rOr rCat (rCatA K)))
theorem op_addAll {X : Cx} : OpR X (binaryOp .Add) (rAddAll X.K) := op_add.or (op_add_str.or (op_cat.or op_catA))
theorem pi_add {W : Wd} : PI2 W .add (rAddAll W.K) := by
  intro Hs H x y d e k Q s hx hy h q
  cases d <;> cases e <;> first | exact False.elim h | skip
  case int.int i j =>
    cases (show x = _ from hx); cases (show y = _ from hy)
    exact .inl ⟨i, j, rfl, rfl, q.flat s (.int _) h⟩
  case str.str i j =>
    cases (show x = _ from hx); cases (show y = _ from hy)
    exact .inr (.inl ⟨i, j, rfl, rfl, h.1, q.flat s (.str _) h.2⟩)
  case lst.lst as bs =>
    obtain ⟨a, xs, rfl, h1, h2⟩ := hx
    obtain ⟨b, ys, rfl, h3, h4⟩ := hy
    exact .inr (.inr (.inl ⟨a, b, xs, ys, rfl, rfl, h1, h3, by rw [h2.length, h4.length]; exact h.1, q.lst s (h2.append h4) h.2⟩))
  case tup.tup as bs =>
    obtain ⟨a, xs, rfl, h1, h2⟩ := hx
    obtain ⟨b, ys, rfl, h3, h4⟩ := hy
    refine .inr (.inr (.inr ⟨a, b, xs, ys, rfl, rfl, same_t s h1, same_t s h3, by rw [h2.length, h4.length]; exact h.1, fun e => ?_, fun _ e => ?_, fun _ _ => q.tup s (h2.append h4) h.2⟩))
    · subst e
      cases h2
      exact q.old s h4 h3 h.2
    · subst e
      cases h4
      exact q.old s h2 h1 (by have := h.2; rw [List.append_nil] at this; exact this)
theorem pi_sub {W : Wd} : PI2 W .sub (rI0 fun i j => .int (i - j)) := by
  intro Hs H x y d e k Q s hx hy h q
  cases d <;> cases e <;> first | exact False.elim h | skip
  cases (show x = _ from hx); cases (show y = _ from hy)
  exact ⟨_, _, rfl, rfl, q.flat s (.int _) h⟩
def rMulAll : R2 := rOr (rI CMul fun i j => .int (i * j)) rRep
theorem op_mulAll {X : Cx} : OpR X (binaryOp .Mult) rMulAll := op_mul.or op_rep
theorem Dens.flatRep {W : Wd} {H : Hp} {xs : List V} {ds : List DV} (h : Dens W H xs ds) : ∀ n : Nat, Dens W H (List.replicate n xs).flatten (List.replicate n ds).flatten
  | 0 => .nil
  | n + 1 => by
    rw [List.replicate_succ, List.replicate_succ, List.flatten_cons, List.flatten_cons]
    exact h.append (h.flatRep n)
theorem pi_mul {W : Wd} : PI2 W .mul rMulAll := by
  intro Hs H x y d e k Q s hx hy h q
  cases d <;> cases e <;> first | exact False.elim h | skip
  case int.int i j =>
    cases (show x = _ from hx); cases (show y = _ from hy)
    exact .inl ⟨_, _, rfl, rfl, h.1, q.flat s (.int _) h.2⟩
  case lst.int as n =>
    obtain ⟨a, xs, rfl, h1, h2⟩ := hx
    cases (show y = _ from hy)
    exact .inr ⟨a, n, xs, rfl, rfl, h1, h.1.1, h.1.2.1, by rw [h2.length]; exact h.1.2.2, q.lst s (h2.flatRep _) h.2⟩
theorem pi_fdiv {W : Wd} : PI2 W .fdiv (rI CDiv fun i j => .int (i / j)) := by
  intro Hs H x y d e k Q s hx hy h q
  cases d <;> cases e <;> first | exact False.elim h | skip
  cases (show x = _ from hx); cases (show y = _ from hy)
  exact ⟨_, _, rfl, rfl, h.1, q.flat s (.int _) h.2⟩
theorem pi_mod {W : Wd} : PI2 W .mod (rI (fun _ j => 0 < j) fun i j => .int (i % j)) := by
  intro Hs H x y d e k Q s hx hy h q
  cases d <;> cases e <;> first | exact False.elim h | skip
  cases (show x = _ from hx); cases (show y = _ from hy)
  exact ⟨_, _, rfl, rfl, h.1, q.flat s (.int _) h.2⟩
theorem pi_pow {W : Wd} : PI2 W .pow (rI CPow fun i j => .int (i ^ j.toNat)) := by
  intro Hs H x y d e k Q s hx hy h q
  cases d <;> cases e <;> first | exact False.elim h | skip
  cases (show x = _ from hx); cases (show y = _ from hy)
  exact ⟨_, _, rfl, rfl, h.1, q.flat s (.int _) h.2⟩
theorem pi_lt {W : Wd} : PI2 W .lt (rI0 fun i j => .bl (decide (i < j))) := by
  intro Hs H x y d e k Q s hx hy h q
  cases d <;> cases e <;> first | exact False.elim h | skip
  cases (show x = _ from hx); cases (show y = _ from hy)
  exact ⟨_, _, rfl, rfl, q.flat s (.bl _) h⟩
theorem pi_le {W : Wd} : PI2 W .le (rI0 fun i j => .bl (decide (i ≤ j))) := by
  intro Hs H x y d e k Q s hx hy h q
  cases d <;> cases e <;> first | exact False.elim h | skip
  cases (show x = _ from hx); cases (show y = _ from hy)
  exact ⟨_, _, rfl, rfl, q.flat s (.bl _) h⟩
theorem pi_gt {W : Wd} : PI2 W .gt (rI0 fun i j => .bl (decide (j < i))) := by
  intro Hs H x y d e k Q s hx hy h q
  cases d <;> cases e <;> first | exact False.elim h | skip
  cases (show x = _ from hx); cases (show y = _ from hy)
  exact ⟨_, _, rfl, rfl, q.flat s (.bl _) h⟩
theorem pi_ge {W : Wd} : PI2 W .ge (rI0 fun i j => .bl (decide (j ≤ i))) := by
  intro Hs H x y d e k Q s hx hy h q
  cases d <;> cases e <;> first | exact False.elim h | skip
  cases (show x = _ from hx); cases (show y = _ from hy)
  exact ⟨_, _, rfl, rfl, q.flat s (.bl _) h⟩
theorem pi_eq {W : Wd} : PI2 W .eq (rEqD W.K) := by
  intro Hs H x y d e k Q s hx hy h q
  obtain ⟨c1, c2, kk⟩ := (show cmpb d = true ∧ cmpb e = true ∧ k (.it (.bl (deq d e))) from h)
  obtain ⟨b1, s1⟩ := Bool.and_eq_true_iff.mp c1
  obtain ⟨b2, s2⟩ := Bool.and_eq_true_iff.mp c2
  exact ⟨_, _, sh_dp s hx b1, sh_dp s hy b2, s1, s2, q.flat s (.bl _) kk⟩
theorem pi_ne {W : Wd} : PI2 W .ne (rNeD W.K) := by
  intro Hs H x y d e k Q s hx hy h q
  obtain ⟨c1, c2, kk⟩ := (show cmpb d = true ∧ cmpb e = true ∧ k (.it (.bl (!deq d e))) from h)
  obtain ⟨b1, s1⟩ := Bool.and_eq_true_iff.mp c1
  obtain ⟨b2, s2⟩ := Bool.and_eq_true_iff.mp c2
  exact ⟨_, _, sh_dp s hx b1, sh_dp s hy b2, s1, s2, q.flat s (.bl _) kk⟩
end EV

set_option maxRecDepth 100000
set_option maxHeartbeats 4000000
/-! EV 4: the other primitives. -/
namespace EV
open PySem L2

theorem sh_flat {W : Wd} {Hs H : Hp} {v : V} {d : DV} (h : Sh W Hs H v d) (f : flat d = true) : flatV v = true := by
  cases d <;> first | cases f | skip
  all_goals (cases (show v = _ from h); rfl)
theorem den_flat {W : Wd} {H : Hp} {v : V} {d : DV} (h : Den W H v d) (f : flat d = true) : flatV v = true := by
  cases h <;> first | rfl | cases f
theorem flat_of_sh {W : Wd} {Hs H H' : Hp} {v : V} {d : DV} (h : Sh W Hs H v d) (f : flat d = true) : Den W H' v d := by
  cases d <;> first | cases f | skip
  · cases (show v = _ from h); exact .non
  · cases (show v = _ from h); exact .bl _
  · cases (show v = _ from h); exact .int _
  · cases (show v = _ from h); exact .str _
theorem eqV_deq {W : Wd} {H H' : Hp} {v w : V} {d e : DV} (h : Den W H v d) (h' : Den W H' w e) (f : flat d = true) (f' : flat e = true) : eqV v w = deq d e := by
  cases h <;> cases h' <;> first | rfl | (cases f; done) | (cases f'; done)
theorem dens_flat {W : Wd} {H : Hp} : ∀ {vs : List V} {ds : List DV}, Dens W H vs ds → ds.all flat = true → vs.all flatV = true
  | _, _, .nil, _ => rfl
  | v :: vs, d :: ds, .cons h t, f => by
    rw [List.all_cons, Bool.and_eq_true] at f
    rw [List.all_cons, den_flat h f.1, dens_flat t f.2]; rfl
theorem inV_deq {W : Wd} {H H' : Hp} {x : V} {d : DV} (hx : Den W H' x d) (fx : flat d = true) : ∀ {vs : List V} {ds : List DV}, Dens W H vs ds → ds.all flat = true → inV x vs = ds.any fun y => deq y d
  | _, _, .nil, _ => rfl
  | v :: vs, e :: ds, .cons h t, f => by
    rw [List.all_cons, Bool.and_eq_true] at f
    show (eqV v x || inV x vs) = (deq e d || ds.any fun y => deq y d)
    rw [eqV_deq h hx f.1 fx, inV_deq hx fx t f.2]

def rInS : R2 := fun x y H Q => ∃ i j, x = .str i ∧ y = .str j ∧ Q (.bl (!(Builtin.Str.occurrences j i 0 j.length 1).isEmpty)) H
theorem op_inAll {X : Cx} : OpR X (compareOp .In) (rOr (rIn X.K false) rInS) := op_in_seq.or op_in_str
theorem op_notinAll {X : Cx} : OpR X (compareOp .NotIn) (rIn X.K true) := op_notIn_seq
theorem pi_isin {W : Wd} : PI2 W .isin (rOr (rIn W.K false) rInS) := by
  intro Hs H x y d e k Q s hx hy h q
  cases e with
  | lst ds =>
    have h : flat d = true ∧ ds.all flat = true ∧ k (.it (.bl (ds.any fun y => deq y d))) := by cases d <;> exact h
    obtain ⟨b, ys, rfl, h3, h4⟩ := hy
    refine .inl ⟨b, ys, rfl, .inl (SqL.of h3), sh_flat hx h.1, dens_flat h4 h.2.1, ?_⟩
    show Q (.bl (inV x ys)) H
    rw [inV_deq (flat_of_sh (H' := H) hx h.1) h.1 h4 h.2.1]
    exact q.flat s (.bl _) h.2.2
  | tup ds =>
    have h : flat d = true ∧ ds.all flat = true ∧ k (.it (.bl (ds.any fun y => deq y d))) := by cases d <;> exact h
    obtain ⟨b, ys, rfl, h3, h4⟩ := hy
    refine .inl ⟨b, ys, rfl, .inr (same_t s h3), sh_flat hx h.1, dens_flat h4 h.2.1, ?_⟩
    show Q (.bl (inV x ys)) H
    rw [inV_deq (flat_of_sh (H' := H) hx h.1) h.1 h4 h.2.1]
    exact q.flat s (.bl _) h.2.2
  | str b =>
    cases d <;> first | exact False.elim h | skip
    cases (show x = _ from hx); cases (show y = _ from hy)
    exact .inr ⟨_, _, rfl, rfl, q.flat s (.bl _) h⟩
  | _ => cases d <;> exact False.elim h
theorem pi_notin {W : Wd} : PI2 W .notin (rIn W.K true) := by
  intro Hs H x y d e k Q s hx hy h q
  cases e with
  | lst ds =>
    have h : flat d = true ∧ ds.all flat = true ∧ k (.it (.bl (!ds.any fun y => deq y d))) := by cases d <;> exact h
    obtain ⟨b, ys, rfl, h3, h4⟩ := hy
    refine ⟨b, ys, rfl, .inl (SqL.of h3), sh_flat hx h.1, dens_flat h4 h.2.1, ?_⟩
    show Q (.bl (!inV x ys)) H
    rw [inV_deq (flat_of_sh (H' := H) hx h.1) h.1 h4 h.2.1]
    exact q.flat s (.bl _) h.2.2
  | tup ds =>
    have h : flat d = true ∧ ds.all flat = true ∧ k (.it (.bl (!ds.any fun y => deq y d))) := by cases d <;> exact h
    obtain ⟨b, ys, rfl, h3, h4⟩ := hy
    refine ⟨b, ys, rfl, .inr (same_t s h3), sh_flat hx h.1, dens_flat h4 h.2.1, ?_⟩
    show Q (.bl (!inV x ys)) H
    rw [inV_deq (flat_of_sh (H' := H) hx h.1) h.1 h4 h.2.1]
    exact q.flat s (.bl _) h.2.2
  | _ => cases d <;> exact False.elim h

/-! ### a subscript -/
theorem dens_at {W : Wd} {H : Hp} {vs : List V} {ds : List DV} (h : Dens W H vs ds) {i : Int} {d : DV} (e : atI ds i = some d) : ∃ v, atI vs i = some v ∧ Den W H v d := by
  unfold atI at e ⊢
  rw [h.length]
  cases q : ixN ds.length i with
  | none => rw [q] at e; cases e
  | some j =>
    rw [q] at e
    exact h.get e
theorem pi_ix {W : Wd} : PI2 W .ix (rIx W.K) := by
  intro Hs H x y d e k Q s hx hy h q
  cases d <;> cases e <;> first | exact False.elim h | skip
  case lst.int as i =>
    obtain ⟨d, e, kk⟩ := (show ∃ d, atI as i = some d ∧ k (.it d) from h)
    obtain ⟨a, xs, rfl, h1, h2⟩ := hx
    cases (show y = _ from hy)
    obtain ⟨v, e1, e2⟩ := dens_at h2 e
    exact .inl ⟨a, xs, i, v, rfl, rfl, SqL.of h1, e1, q.flat s e2 kk⟩
  case scr.int as i =>
    obtain ⟨d, e, kk⟩ := (show ∃ d, atI as i = some d ∧ k (.it d) from h)
    obtain ⟨a, xs, rfl, h1, h2⟩ := hx
    cases (show y = _ from hy)
    obtain ⟨v, e1, e2⟩ := dens_at h2 e
    exact .inl ⟨a, xs, i, v, rfl, rfl, s.seq h1, e1, q.flat s e2 kk⟩
  case tup.int as i =>
    obtain ⟨d, e, kk⟩ := (show ∃ d, atI as i = some d ∧ k (.it d) from h)
    obtain ⟨a, xs, rfl, h1, h2⟩ := hx
    cases (show y = _ from hy)
    obtain ⟨v, e1, e2⟩ := dens_at h2 e
    exact .inr (.inl ⟨a, xs, i, v, rfl, rfl, same_t s h1, e1, q.flat s e2 kk⟩)
  case str.int z i =>
    obtain ⟨c, hz, e, kk⟩ := (show ∃ c, z.length ≤ sizeLine ∧ atI z.cps.toList i = some c ∧ k (.it (.str ⟨#[c]⟩)) from h)
    cases (show x = _ from hx); cases (show y = _ from hy)
    exact .inr (.inr ⟨z, i, c, rfl, rfl, hz, e, q.flat s (.str _) kk⟩)

/-! ### slices -/
def rSlAll (K : PySem.W.Frag) : V → Option Int → Option Int → Hp → VK → Prop := fun x lo hi H Q => rSlL K x lo hi H Q ∨ (rSlA K x lo hi H Q ∨ rSlS x lo hi H Q)
theorem sl_all {X : Cx} : SlR X (rSlAll X.K) := sl_list.or (sl_tupA.or sl_str)
theorem dens_cut {W : Wd} {H : Hp} {vs : List V} {ds : List DV} (h : Dens W H vs ds) (lo hi : Option Int) : Dens W H (cutV vs lo hi) (cutD ds lo hi) := by
  unfold cutV cutD
  rw [h.length]
  exact (h.drop _).take _
theorem cutD_all {ds : List DV} {lo hi : Option Int} (h : HT.sIx ds.length 0 lo = 0 ∧ HT.sIx ds.length ds.length hi = ds.length) : cutD ds lo hi = ds := by
  unfold cutD
  rw [h.1, h.2, List.drop_zero, Nat.sub_zero, List.take_length]
/-- a slice's value, by the parts -/
theorem pi_sl {W : Wd} {Hs H : Hp} {x : V} {d : DV} {lo hi : Option Int} {k : PR → Prop} {Q : VK} (s : Same Hs H) (hx : Sh W Hs H x d) (h : evalSl d lo hi k) (q : PPost W Hs H k Q) : rSlAll W.K x lo hi H Q := by
  cases d with
  | lst as =>
    obtain ⟨a, xs, rfl, h1, h2⟩ := hx
    exact .inl ⟨a, xs, rfl, SqL.of h1, q.lst s (dens_cut h2 _ _) h⟩
  | scr as =>
    obtain ⟨a, xs, rfl, h1, h2⟩ := hx
    exact .inl ⟨a, xs, rfl, s.seq h1, q.lst s (dens_cut h2 _ _) h⟩
  | tup as =>
    obtain ⟨a, xs, rfl, h1, h2⟩ := hx
    have kk : k (.it (.tup (cutD as lo hi))) := h
    refine .inr (.inl ⟨a, xs, rfl, same_t s h1, fun z => ?_, fun _ => q.tup s (dens_cut h2 _ _) kk⟩)
    rw [h2.length] at z
    rw [cutD_all z] at kk
    exact q.old s h2 h1 kk
  | str z =>
    cases (show x = _ from hx)
    exact .inr (.inr ⟨z, rfl, h.1, q.flat s (.str _) h.2⟩)
  | _ => exact False.elim h

/-! ### calls of built-ins -/
inductive Shs (W : Wd) (Hs H : Hp) : List V → List DV → Prop
  | nil : Shs W Hs H [] []
  | cons {v : V} {vs : List V} {d : DV} {ds : List DV} : Sh W Hs H v d → Shs W Hs H vs ds → Shs W Hs H (v :: vs) (d :: ds)
def PIC (W : Wd) (p : Prim) (r : List V → Hp → VK → Prop) : Prop := ∀ (Hs H : Hp) (xs : List V) (ds : List DV) (k : PR → Prop) (Q : VK), Same Hs H → Shs W Hs H xs ds → evalP p ds k → PPost W Hs H k Q → r xs H Q
/-- a call by one argument, by two -/
def PIC1 (W : Wd) (p : Prim) (r : List V → Hp → VK → Prop) : Prop := ∀ (Hs H : Hp) (x : V) (d : DV) (k : PR → Prop) (Q : VK), Same Hs H → Sh W Hs H x d → evalP p [d] k → PPost W Hs H k Q → r [x] H Q
def PIC2 (W : Wd) (p : Prim) (r : List V → Hp → VK → Prop) : Prop := ∀ (Hs H : Hp) (x y : V) (d e : DV) (k : PR → Prop) (Q : VK), Same Hs H → Sh W Hs H x d → Sh W Hs H y e → evalP p [d, e] k → PPost W Hs H k Q → r [x, y] H Q

theorem pc_len {W : Wd} : PIC1 W .len (fun xs H Q => ∃ x n, xs = [x] ∧ LenV W.K x H n ∧ Q (.int n) H) := by
  intro Hs H x d k Q s hx h q
  cases d <;> first | exact False.elim h | skip
  case str z => cases (show x = _ from hx); exact ⟨_, _, rfl, ⟨h.1, rfl⟩, q.flat s (.int _) h.2⟩
  case tup ds =>
    obtain ⟨a, xs, rfl, h1, h2⟩ := hx
    exact ⟨_, ds.length, rfl, .inr ⟨xs, same_t s h1, h2.length.symm⟩, q.flat s (.int _) h⟩
  case lst ds =>
    obtain ⟨a, xs, rfl, h1, h2⟩ := hx
    exact ⟨_, ds.length, rfl, .inl ⟨xs, SqL.of h1, h2.length.symm⟩, q.flat s (.int _) h⟩
  case scr ds =>
    obtain ⟨a, xs, rfl, h1, h2⟩ := hx
    exact ⟨_, ds.length, rfl, .inl ⟨xs, s.seq h1, h2.length.symm⟩, q.flat s (.int _) h⟩
theorem pc_abs {W : Wd} : PIC1 W .abs (fun xs H Q => ∃ i, xs = [.int i] ∧ Q (.int (if i < 0 then -i else i)) H) := by
  intro Hs H x d k Q s hx h q
  cases d <;> first | exact False.elim h | skip
  cases (show x = _ from hx); exact ⟨_, rfl, q.flat s (.int _) h⟩
theorem pc_max2 {W : Wd} : PIC2 W .max2 (fun xs H Q => ∃ i j, xs = [.int i, .int j] ∧ Q (.int (if j > i then j else i)) H) := by
  intro Hs H x y d e k Q s hx hy h q
  cases d <;> cases e <;> first | exact False.elim h | skip
  cases (show x = _ from hx); cases (show y = _ from hy); exact ⟨_, _, rfl, q.flat s (.int _) h⟩
theorem pc_min2 {W : Wd} : PIC2 W .min2 (fun xs H Q => ∃ i j, xs = [.int i, .int j] ∧ Q (.int (if j < i then j else i)) H) := by
  intro Hs H x y d e k Q s hx hy h q
  cases d <;> cases e <;> first | exact False.elim h | skip
  cases (show x = _ from hx); cases (show y = _ from hy); exact ⟨_, _, rfl, q.flat s (.int _) h⟩
def rIntAll : List V → Hp → VK → Prop := fun xs H Q => ((∃ i, xs = [.int i] ∧ Q (.int i) H) ∨ ∃ k, xs = [.bl k] ∧ Q (.int (if k then 1 else 0)) H) ∨ ∃ a n, xs = [.str a] ∧ PySem.intText? a = some n ∧ a.length ≤ 640 ∧ Q (.int n) H
theorem call_intAll {X : Cx} : CallR X (.type "int") rIntAll := call_int1.or call_int_str
theorem pc_int1 {W : Wd} : PIC1 W .int1 rIntAll := by
  intro Hs H x d k Q s hx h q
  cases d <;> first | exact False.elim h | skip
  case int i => cases (show x = _ from hx); exact .inl (.inl ⟨_, rfl, q.flat s (.int _) h⟩)
  case str a =>
    obtain ⟨hl, n, hn, kk⟩ := (show a.length ≤ 640 ∧ ∃ n, PySem.intText? a = some n ∧ k (.it (.int n)) from h)
    cases (show x = _ from hx); exact .inr ⟨a, n, rfl, hn, hl, q.flat s (.int _) kk⟩
theorem pc_str1 {W : Wd} : PIC1 W .str1 (fun xs H Q => ∃ i, xs = [.int i] ∧ i.natAbs.log2 < 1920 ∧ Q (.str (toString i)) H) := by
  intro Hs H x d k Q s hx h q
  cases d <;> first | exact False.elim h | skip
  cases (show x = _ from hx); exact ⟨_, rfl, h.1, q.flat s (.str _) h.2⟩
theorem pc_tuple1 {W : Wd} : PIC1 W .tuple1 (fun xs H Q => ∃ p ys, xs = [.ref p] ∧ ((SqL W.K H p ys ∧ ∀ l, H l = none → Q (.ref l) (upd H l (.tup ys))) ∨ (SqT W.K H p ys ∧ Q (.ref p) H))) := by
  intro Hs H x d k Q s hx h q
  cases d <;> first | exact False.elim h | skip
  case tup ds =>
    obtain ⟨a, xs, rfl, h1, h2⟩ := hx
    exact ⟨a, xs, rfl, .inr ⟨same_t s h1, q.old s h2 h1 h⟩⟩
  case lst ds =>
    obtain ⟨a, xs, rfl, h1, h2⟩ := hx
    exact ⟨a, xs, rfl, .inl ⟨SqL.of h1, q.tup s h2 h⟩⟩
theorem pc_list1 {W : Wd} : PIC1 W .list1 (fun xs H Q => ∃ p ys, xs = [.ref p] ∧ (SqL W.K H p ys ∨ SqT W.K H p ys) ∧ ∀ l, H l = none → Q (.ref l) (upd H l (.lst ys))) := by
  intro Hs H x d k Q s hx h q
  cases d <;> first | exact False.elim h | skip
  case tup ds =>
    obtain ⟨a, xs, rfl, h1, h2⟩ := hx
    exact ⟨a, xs, rfl, .inr (same_t s h1), q.lst s h2 h⟩
  case lst ds =>
    obtain ⟨a, xs, rfl, h1, h2⟩ := hx
    exact ⟨a, xs, rfl, .inl (SqL.of h1), q.lst s h2 h⟩
theorem dens_int : ∀ {W : Wd} {Hs : Hp} (ns : List Int), Dens W Hs (ns.map V.int) (ns.map DV.int)
  | _, _, [] => .nil
  | _, _, n :: ns => .cons (.int n) (dens_int ns)
theorem pc_sorted {W : Wd} : PIC1 W .sorted (rSortedI W.K) := by
  intro Hs H x d k Q s hx h q
  cases d <;> first | exact False.elim h | skip
  rename_i ds
  obtain ⟨ns, e, kk⟩ := (show ∃ ns, intsD ds = some ns ∧ ∀ ms : List Int, ms.Perm ns → ms.Pairwise (· ≤ ·) → k (.nw (.lst (ms.map .int))) from h)
  obtain ⟨a, xs, rfl, h1, h2⟩ := hx
  have := densInts h2 e
  subst this
  exact ⟨a, ns, rfl, SqL.of h1, fun ns' p hp hw hn => q.lst s (dens_int ns') (kk ns' hp hw) p hn⟩
theorem pc_sum {W : Wd} : PIC1 W .sum (rSum W.K) := by
  intro Hs H x d k Q s hx h q
  cases d <;> first | exact False.elim h | skip
  rename_i ds
  obtain ⟨ns, e, kk⟩ := (show ∃ ns, intsD ds = some ns ∧ k (.it (.int ns.sum)) from h)
  obtain ⟨a, xs, rfl, h1, h2⟩ := hx
  have := densInts h2 e
  subst this
  exact ⟨a, ns, rfl, SqL.of h1, q.flat s (.int _) kk⟩
theorem pc_all {W : Wd} : PIC1 W .all (rAll W.K) := by
  intro Hs H x d k Q s hx h q
  cases d <;> first | exact False.elim h | skip
  rename_i ds
  obtain ⟨ns, e, kk⟩ := (show ∃ ns, boolsD ds = some ns ∧ k (.it (.bl (ns.all id))) from h)
  obtain ⟨a, xs, rfl, h1, h2⟩ := hx
  have := densBools h2 e
  subst this
  exact ⟨a, ns, rfl, SqL.of h1, q.flat s (.bl _) kk⟩
theorem pc_any {W : Wd} : PIC1 W .any (rAny W.K) := by
  intro Hs H x d k Q s hx h q
  cases d <;> first | exact False.elim h | skip
  rename_i ds
  obtain ⟨ns, e, kk⟩ := (show ∃ ns, boolsD ds = some ns ∧ k (.it (.bl (ns.any id))) from h)
  obtain ⟨a, xs, rfl, h1, h2⟩ := hx
  have := densBools h2 e
  subst this
  exact ⟨a, ns, rfl, SqL.of h1, q.flat s (.bl _) kk⟩
theorem pc_maxL {W : Wd} : PIC1 W .maxL (rMax W.K) := by
  intro Hs H x d k Q s hx h q
  cases d <;> first | exact False.elim h | skip
  rename_i ds
  obtain ⟨ns, e, hp, kk⟩ := (show ∃ ns, intsD ds = some ns ∧ 0 < ns.length ∧ ∀ m, m ∈ ns → (∀ x ∈ ns, x ≤ m) → k (.it (.int m)) from h)
  obtain ⟨a, xs, rfl, h1, h2⟩ := hx
  have := densInts h2 e
  subst this
  exact ⟨a, ns, rfl, SqL.of h1, hp, fun m hm hle => q.flat s (.int _) (kk m hm hle)⟩
theorem pc_minL {W : Wd} : PIC1 W .minL (rMin W.K) := by
  intro Hs H x d k Q s hx h q
  cases d <;> first | exact False.elim h | skip
  rename_i ds
  obtain ⟨ns, e, hp, kk⟩ := (show ∃ ns, intsD ds = some ns ∧ 0 < ns.length ∧ ∀ m, m ∈ ns → (∀ x ∈ ns, m ≤ x) → k (.it (.int m)) from h)
  obtain ⟨a, xs, rfl, h1, h2⟩ := hx
  have := densInts h2 e
  subst this
  exact ⟨a, ns, rfl, SqL.of h1, hp, fun m hm hle => q.flat s (.int _) (kk m hm hle)⟩
theorem pc_divmod {W : Wd} : PIC2 W .divmod (fun xs H Q => ∃ i j, xs = [.int i, .int j] ∧ CDiv i j ∧ ∀ p, H p = none → Q (.ref p) (upd H p (.tup [.int (i / j), .int (i % j)]))) := by
  intro Hs H x y d e k Q s hx hy h q
  cases d <;> cases e <;> first | exact False.elim h | skip
  cases (show x = _ from hx); cases (show y = _ from hy)
  exact ⟨_, _, rfl, h.1, q.tup s (.cons (.int _) (.cons (.int _) .nil)) h.2⟩
theorem pc_neg {W : Wd} {Hs H : Hp} {x : V} {d : DV} {k : PR → Prop} {Q : VK} (s : Same Hs H) (hx : Sh W Hs H x d) (h : evalP .neg [d] k) (q : PPost W Hs H k Q) : rU (fun i => .int (-i)) x H Q := by
  cases d <;> first | exact False.elim h | skip
  cases (show x = _ from hx); exact ⟨_, rfl, q.flat s (.int _) h⟩

/-! ### isinstance -/
theorem sh_ty {W : Wd} {Hs H : Hp} {v : V} {d : DV} (s : Same Hs H) (h : Sh W Hs H v d) (p : plainTop d = true) : ∃ t : String, TyX W.K H v (.type t) ∧ (match d with | .non => t = "NoneType" | .bl _ => t = "bool" | .int _ => t = "int" | .str _ => t = "str" | .tup _ => t = "tuple" | .lst _ => t = "list" | _ => False) := by
  cases d with
  | non => cases (show v = _ from h); exact ⟨_, .base .non, rfl⟩
  | bl b => cases (show v = _ from h); exact ⟨_, .base (.bl b), rfl⟩
  | int i => cases (show v = _ from h); exact ⟨_, .base (.int i), rfl⟩
  | str x => cases (show v = _ from h); exact ⟨_, .base (.str x), rfl⟩
  | lst ds =>
    obtain ⟨a, xs, rfl, h1, h2⟩ := h
    exact ⟨_, .base (.lst h1), rfl⟩
  | tup ds =>
    obtain ⟨a, xs, rfl, h1, h2⟩ := h
    rcases same_t s h1 with (h1 | ⟨o, h1⟩) | ⟨o, its, n, h1, hc, _⟩
    · exact ⟨_, .base (.tup h1), rfl⟩
    · exact ⟨_, .fTuple h1, rfl⟩
    · exact ⟨_, .kTuple h1 hc, rfl⟩
  | scr _ => cases p
  | obj _ _ _ => cases p
def isP (T : String) (p : Prim) (W : Wd) : Prop := ∀ (Hs H : Hp) (x : V) (d : DV) (k : PR → Prop) (Q : VK), Same Hs H → Sh W Hs H x d → evalP p [d] k → PPost W Hs H k Q → rIsi W.K [x, .ty T] H Q
theorem pc_isInt {W : Wd} : isP "int" .isInt W := by
  intro Hs H x d k Q s hx h q
  have hp : plainTop d = true := by cases d <;> exact h.1
  obtain ⟨t, ht, e⟩ := sh_ty s hx hp
  cases d with
  | non =>
    cases (show t = "NoneType" from e)
    exact ⟨x, .ty "int", .type "NoneType", .type "int", false, rfl, .ty _, ht, kit_ty (by decide +kernel), q.flat s (.bl _) h.2⟩
  | bl z =>
    cases (show t = "bool" from e)
    exact ⟨x, .ty "int", .type "bool", .type "int", true, rfl, .ty _, ht, kit_ty (by decide +kernel), q.flat s (.bl _) h.2⟩
  | int z =>
    cases (show t = "int" from e)
    exact ⟨x, .ty "int", .type "int", .type "int", true, rfl, .ty _, ht, kit_ty (by decide +kernel), q.flat s (.bl _) h.2⟩
  | str z =>
    cases (show t = "str" from e)
    exact ⟨x, .ty "int", .type "str", .type "int", false, rfl, .ty _, ht, kit_ty (by decide +kernel), q.flat s (.bl _) h.2⟩
  | tup z =>
    cases (show t = "tuple" from e)
    exact ⟨x, .ty "int", .type "tuple", .type "int", false, rfl, .ty _, ht, kit_ty (by decide +kernel), q.flat s (.bl _) h.2⟩
  | lst z =>
    cases (show t = "list" from e)
    exact ⟨x, .ty "int", .type "list", .type "int", false, rfl, .ty _, ht, kit_ty (by decide +kernel), q.flat s (.bl _) h.2⟩
  | scr _ => cases hp
  | obj _ _ _ => cases hp
theorem pc_isBool {W : Wd} : isP "bool" .isBool W := by
  intro Hs H x d k Q s hx h q
  have hp : plainTop d = true := by cases d <;> exact h.1
  obtain ⟨t, ht, e⟩ := sh_ty s hx hp
  cases d with
  | non =>
    cases (show t = "NoneType" from e)
    exact ⟨x, .ty "bool", .type "NoneType", .type "bool", false, rfl, .ty _, ht, kit_ty (by decide +kernel), q.flat s (.bl _) h.2⟩
  | bl z =>
    cases (show t = "bool" from e)
    exact ⟨x, .ty "bool", .type "bool", .type "bool", true, rfl, .ty _, ht, kit_ty (by decide +kernel), q.flat s (.bl _) h.2⟩
  | int z =>
    cases (show t = "int" from e)
    exact ⟨x, .ty "bool", .type "int", .type "bool", false, rfl, .ty _, ht, kit_ty (by decide +kernel), q.flat s (.bl _) h.2⟩
  | str z =>
    cases (show t = "str" from e)
    exact ⟨x, .ty "bool", .type "str", .type "bool", false, rfl, .ty _, ht, kit_ty (by decide +kernel), q.flat s (.bl _) h.2⟩
  | tup z =>
    cases (show t = "tuple" from e)
    exact ⟨x, .ty "bool", .type "tuple", .type "bool", false, rfl, .ty _, ht, kit_ty (by decide +kernel), q.flat s (.bl _) h.2⟩
  | lst z =>
    cases (show t = "list" from e)
    exact ⟨x, .ty "bool", .type "list", .type "bool", false, rfl, .ty _, ht, kit_ty (by decide +kernel), q.flat s (.bl _) h.2⟩
  | scr _ => cases hp
  | obj _ _ _ => cases hp
theorem pc_isTup {W : Wd} : isP "tuple" .isTup W := by
  intro Hs H x d k Q s hx h q
  have hp : plainTop d = true := by cases d <;> exact h.1
  obtain ⟨t, ht, e⟩ := sh_ty s hx hp
  cases d with
  | non =>
    cases (show t = "NoneType" from e)
    exact ⟨x, .ty "tuple", .type "NoneType", .type "tuple", false, rfl, .ty _, ht, kit_ty (by decide +kernel), q.flat s (.bl _) h.2⟩
  | bl z =>
    cases (show t = "bool" from e)
    exact ⟨x, .ty "tuple", .type "bool", .type "tuple", false, rfl, .ty _, ht, kit_ty (by decide +kernel), q.flat s (.bl _) h.2⟩
  | int z =>
    cases (show t = "int" from e)
    exact ⟨x, .ty "tuple", .type "int", .type "tuple", false, rfl, .ty _, ht, kit_ty (by decide +kernel), q.flat s (.bl _) h.2⟩
  | str z =>
    cases (show t = "str" from e)
    exact ⟨x, .ty "tuple", .type "str", .type "tuple", false, rfl, .ty _, ht, kit_ty (by decide +kernel), q.flat s (.bl _) h.2⟩
  | tup z =>
    cases (show t = "tuple" from e)
    exact ⟨x, .ty "tuple", .type "tuple", .type "tuple", true, rfl, .ty _, ht, kit_ty (by decide +kernel), q.flat s (.bl _) h.2⟩
  | lst z =>
    cases (show t = "list" from e)
    exact ⟨x, .ty "tuple", .type "list", .type "tuple", false, rfl, .ty _, ht, kit_ty (by decide +kernel), q.flat s (.bl _) h.2⟩
  | scr _ => cases hp
  | obj _ _ _ => cases hp
theorem pc_isStr {W : Wd} : isP "str" .isStr W := by
  intro Hs H x d k Q s hx h q
  have hp : plainTop d = true := by cases d <;> exact h.1
  obtain ⟨t, ht, e⟩ := sh_ty s hx hp
  cases d with
  | non =>
    cases (show t = "NoneType" from e)
    exact ⟨x, .ty "str", .type "NoneType", .type "str", false, rfl, .ty _, ht, kit_ty (by decide +kernel), q.flat s (.bl _) h.2⟩
  | bl z =>
    cases (show t = "bool" from e)
    exact ⟨x, .ty "str", .type "bool", .type "str", false, rfl, .ty _, ht, kit_ty (by decide +kernel), q.flat s (.bl _) h.2⟩
  | int z =>
    cases (show t = "int" from e)
    exact ⟨x, .ty "str", .type "int", .type "str", false, rfl, .ty _, ht, kit_ty (by decide +kernel), q.flat s (.bl _) h.2⟩
  | str z =>
    cases (show t = "str" from e)
    exact ⟨x, .ty "str", .type "str", .type "str", true, rfl, .ty _, ht, kit_ty (by decide +kernel), q.flat s (.bl _) h.2⟩
  | tup z =>
    cases (show t = "tuple" from e)
    exact ⟨x, .ty "str", .type "tuple", .type "str", false, rfl, .ty _, ht, kit_ty (by decide +kernel), q.flat s (.bl _) h.2⟩
  | lst z =>
    cases (show t = "list" from e)
    exact ⟨x, .ty "str", .type "list", .type "str", false, rfl, .ty _, ht, kit_ty (by decide +kernel), q.flat s (.bl _) h.2⟩
  | scr _ => cases hp
  | obj _ _ _ => cases hp
/-! ### methods of texts -/
theorem pm_split {W : Wd} {Hs H : Hp} {x y : V} {d e : DV} {k : PR → Prop} {Q : VK} (s : Same Hs H) (hx : Sh W Hs H x d) (hy : Sh W Hs H y e) (h : evalP .split [d, e] k) (q : PPost W Hs H k Q) :
    (∃ a, x = .str a) ∧ ∃ a b, x = .str a ∧ [y] = [.str b] ∧ (b.length == 0) = false ∧ a.length + 2 ≤ sizeLine ∧ rNewStrs (Txt.split a b) H Q := by
  cases d <;> cases e <;> first | exact False.elim h | skip
  cases (show x = _ from hx); cases (show y = _ from hy)
  exact ⟨⟨_, rfl⟩, _, _, rfl, rfl, h.1, h.2.1, q.lst s (denStrs _) h.2.2⟩
theorem pm_join {W : Wd} {Hs H : Hp} {x y : V} {d e : DV} {k : PR → Prop} {Q : VK} (s : Same Hs H) (hx : Sh W Hs H x d) (hy : Sh W Hs H y e) (h : evalP .join [d, e] k) (q : PPost W Hs H k Q) :
    (∃ a, x = .str a) ∧ ∃ a p, ∃ ys : List Str, x = .str a ∧ [y] = [.ref p] ∧ (SqL W.K H p (ys.map V.str) ∨ SqT W.K H p (ys.map V.str)) ∧ (ys.map (·.length)).sum + ys.length * a.length ≤ 16777216 ∧ Q (.str (Txt.join a ys)) H := by
  cases d <;> cases e <;> first | exact False.elim h | skip
  case str.lst a ds =>
    obtain ⟨ys, e, hz, kk⟩ := (show ∃ ys, strsD ds = some ys ∧ (ys.map (·.length)).sum + ys.length * a.length ≤ 16777216 ∧ k (.it (.str (Txt.join a ys))) from h)
    cases (show x = _ from hx)
    obtain ⟨p, xs, rfl, h1, h2⟩ := hy
    have := densStrs h2 e
    subst this
    exact ⟨⟨_, rfl⟩, a, p, ys, rfl, rfl, .inl (SqL.of h1), hz, q.flat s (.str _) kk⟩
  case str.tup a ds =>
    obtain ⟨ys, e, hz, kk⟩ := (show ∃ ys, strsD ds = some ys ∧ (ys.map (·.length)).sum + ys.length * a.length ≤ 16777216 ∧ k (.it (.str (Txt.join a ys))) from h)
    cases (show x = _ from hx)
    obtain ⟨p, xs, rfl, h1, h2⟩ := hy
    have := densStrs h2 e
    subst this
    exact ⟨⟨_, rfl⟩, a, p, ys, rfl, rfl, .inr (same_t s h1), hz, q.flat s (.str _) kk⟩
/-- truth -/
theorem sh_truth {W : Wd} {Hs H : Hp} {v : V} {d : DV} {b : Bool} (s : Same Hs H) (h : Sh W Hs H v d) (e : truth d = some b) : TruV W.K v H b := by
  cases d with
  | non => cases (show v = _ from h); cases e; rfl
  | bl b => cases (show v = _ from h); cases e; rfl
  | int i => cases (show v = _ from h); cases e; rfl
  | str x =>
    cases (show v = _ from h)
    have e : (if x.length ≤ sizeLine then some ((x.length : Int) != 0) else none) = some b := e
    by_cases q : x.length ≤ sizeLine
    · rw [if_pos q] at e; cases e; exact ⟨q, rfl⟩
    · rw [if_neg q] at e; cases e
  | lst ds =>
    obtain ⟨a, xs, rfl, h1, h2⟩ := h
    cases e
    refine .inl ⟨xs, SqL.of h1, ?_⟩
    cases h2 <;> rfl
  | tup ds =>
    obtain ⟨a, xs, rfl, h1, h2⟩ := h
    cases e
    refine .inr (.inl ⟨xs, same_t s h1, ?_⟩)
    cases h2 <;> rfl
  | scr _ => cases e
  | obj _ _ _ => cases e
end EV

set_option maxRecDepth 100000
set_option maxHeartbeats 4000000
/-! EV 5: steps of the state: a primitive, a value taken, a name bound, an own object written; what a def promises. -/
namespace EV
open PySem L2

section
variable {W : Wd} {refs : List Addr} {ρ ρ' ρ0 : Rho} {σ σ' σ0 : L2.St} {Hs Hs' Hs0 H H' H0 : Hp} {r : Res} {v : V} {rs : List Res} {vs : List V}

theorem Rel.up (R : Rel W refs ρ σ Hs H) (sub : Same Hs' H') (ex : Same Hs Hs') (keep : ∀ a, IsOwn ρ σ a → Hs' a = none ∧ ∀ o, H a = some o → H' a = some o) : Rel W refs ρ σ Hs' H' where
  sub := sub
  len := R.len
  val := fun i d e => by
    obtain ⟨v, h1, h2⟩ := R.val i d e
    exact ⟨v, h1, h2.up ex⟩
  own := fun i t d e => by
    obtain ⟨a, h1, h2, h3, h4⟩ := R.own i t d e
    obtain ⟨k1, k2⟩ := keep a ⟨i, t, d, e, h1⟩
    exact ⟨a, h1, k1, h3.up ex k2, h4⟩
  dis := R.dis
theorem Rel.ownAt (R : Rel W refs ρ σ Hs H) {a : Addr} (h : IsOwn ρ σ a) : Hs a = none ∧ ∃ o, H a = some o := by
  obtain ⟨i, t, d, h1, h2⟩ := h
  obtain ⟨b, e1, e2, e3, _⟩ := R.own i t d h1
  rw [h2] at e1; cases e1
  exact ⟨e2, e3.there⟩
/-- a primitive has run -/
theorem PStep.step (R : Rel W refs ρ σ Hs H) (p : PStep Hs H Hs' H') : Step W refs ρ σ Hs H ρ σ Hs' H' where
  rel := R.up p.sub p.ex fun a h => by
    obtain ⟨n, o, ho⟩ := R.ownAt h
    refine ⟨?_, fun o e => p.up a o e⟩
    cases q : Hs' a with
    | none => rfl
    | some u =>
      have := p.grow a n (by rw [q]; intro z; cases z)
      rw [ho] at this; cases this
  ex := p.ex
  frame := fun b o e _ => p.up b o e
  live := fun b e => p.up.free e
  grow := fun b h h' => .inl (p.grow b h h')
  owns := fun b h => .inl h

/-- what is wanted behind an expression that began at ρ0 -/
def Post (W : Wd) (refs : List Addr) (ρ0 : Rho) (σ : L2.St) (Hs0 H0 : Hp) (k : Res → Rho → Prop) (Q : VK) : Prop :=
  ∀ r ρ' v Hs' H', Step W refs ρ0 σ Hs0 H0 ρ' σ Hs' H' → ResOk W ρ' σ Hs' H' r v → NewT H0 r v → k r ρ' → Q v H'
theorem ppost {k : Res → Rho → Prop} {Q : VK} (S : Step W refs ρ0 σ Hs0 H0 ρ σ Hs H) (P : Post W refs ρ0 σ Hs0 H0 k Q) : PPost W Hs H (fun pr => k (ofPR pr) ρ) Q := fun pr v Hs' H' p ok kk => by
  have S' := S.trans (p.step S.rel)
  cases pr with
  | it d => exact P (.val d) ρ v Hs' H' S' ok trivial kk
  | nw d =>
    obtain ⟨a, rfl, h1, h2, h3⟩ := ok
    refine P (.tmp d) ρ _ Hs' H' S' ⟨a, rfl, h2, fun z => ?_, h3⟩ (fun b e => by cases e; exact S.live a h1) kk
    obtain ⟨_, o, ho⟩ := S.rel.ownAt z
    rw [h1] at ho; cases ho

theorem slot_set_ne {i j : Nat} {s : Slot} (h : i ≠ j) : (ρ.set i s)[j]? = ρ[j]? := List.getElem?_set_ne h
theorem slot_set_eq {i : Nat} {s u : Slot} (h : ρ[i]? = some u) : (ρ.set i s)[i]? = some s := List.getElem?_set_self (List.getElem?_eq_some_iff.mp h).1

/-- what a name holds is frozen -/
theorem Rel.freeze (R : Rel W refs ρ σ Hs H) {i : Nat} {a : Addr} {t : Option Nat} {d : DV} (h : ρ[i]? = some (.own t d)) (ha : σ[i]? = some (some (.ref a))) :
    Rel W refs (ρ.set i (.val d)) σ (frz Hs H a) H ∧ Den W (frz Hs H a) (.ref a) d := by
  obtain ⟨b, h1, h2, h3, _⟩ := R.own i t d h
  rw [ha] at h1; cases h1
  have D := h3.den h2
  refine ⟨⟨frz_sub R.sub, by rw [List.length_set]; exact R.len, fun j e q => ?_, fun j u e q => ?_, fun j l u u' e e' b q1 q2 q3 q4 => ?_⟩, D⟩
  · by_cases hj : i = j
    · subst hj
      rw [slot_set_eq h] at q; cases q
      exact ⟨_, ha, D⟩
    · rw [slot_set_ne hj] at q
      obtain ⟨v, e1, e2⟩ := R.val j e q
      exact ⟨v, e1, e2.up (frz_same h2)⟩
  · by_cases hj : i = j
    · subst hj
      rw [slot_set_eq h] at q; cases q
    · rw [slot_set_ne hj] at q
      obtain ⟨b, e1, e2, e3, e4⟩ := R.own j u e q
      have hb : b ≠ a := fun z => by subst z; exact hj (R.dis i j t u d e _ h q ha e1)
      exact ⟨b, e1, by rw [frz_ne hb]; exact e2, e3.up (frz_same h2) fun o z => z, e4⟩
  · have n1 : i ≠ j := fun z => by subst z; rw [slot_set_eq h] at q1; cases q1
    have n2 : i ≠ l := fun z => by subst z; rw [slot_set_eq h] at q2; cases q2
    rw [slot_set_ne n1] at q1
    rw [slot_set_ne n2] at q2
    exact R.dis j l u u' e e' b q1 q2 q3 q4
theorem isOwn_set {i : Nat} {d : DV} {b : Addr} (h : IsOwn (ρ.set i (.val d)) σ b) : IsOwn ρ σ b := by
  obtain ⟨j, t, e, h1, h2⟩ := h
  by_cases hj : i = j
  · subst hj
    by_cases hi : i < ρ.length
    · rw [List.getElem?_set_self hi] at h1; cases h1
    · rw [List.getElem?_eq_none (by rw [List.length_set]; omega)] at h1; cases h1
  · rw [slot_set_ne hj] at h1
    exact ⟨j, t, e, h1, h2⟩

/-- a value is taken -/
theorem cap_ok {k : DV → Rho → Prop} (S : Step W refs ρ0 σ0 Hs0 H0 ρ σ Hs H) (O : ResOk W ρ σ Hs H r v) (N : NewT H0 r v) (h : cap r ρ k) :
    ∃ d ρ' Hs', Step W refs ρ0 σ0 Hs0 H0 ρ' σ Hs' H ∧ Den W Hs' v d ∧ k d ρ' ∧ Same Hs Hs' ∧
      ∀ r' v', ResOk W ρ σ Hs H r' v' → (∀ e d, r' = .tmp e → r = .tmp d → v' ≠ v) → ResOk W ρ' σ Hs' H r' v' := by
  cases r with
  | val d => exact ⟨d, ρ, Hs, S, O, h, Same.refl _, fun _ _ h _ => h⟩
  | tmp d =>
    obtain ⟨a, rfl, n, no, o⟩ := O
    refine ⟨d, ρ, frz Hs H a, ⟨S.rel.up (frz_sub S.rel.sub) (frz_same n) fun b z => ?_, S.ex.trans (frz_same n), S.frame, S.live, fun b e e' => ?_, S.owns⟩, o.den n, h, frz_same n, fun r' v' O' ne => ?_⟩
    · have hb : b ≠ a := fun q => no (q ▸ z)
      exact ⟨by rw [frz_ne hb]; exact (S.rel.ownAt z).1, fun _ e => e⟩
    · by_cases hb : b = a
      · subst hb; exact .inl (N b rfl)
      · rw [frz_ne hb] at e'
        exact S.grow b e e'
    · cases r' with
      | val e => exact Den.up O' (frz_same n)
      | loc i => exact O'
      | tmp e =>
        obtain ⟨a', rfl, n', no', o'⟩ := O'
        have hb : a' ≠ a := fun q => ne e d rfl rfl (by rw [q])
        exact ⟨a', rfl, by rw [frz_ne hb]; exact n', no', o'.up (frz_same n) fun _ e => e⟩
  | loc i =>
    have O1 : σ[i]? = some (some v) := O
    unfold cap at h
    dsimp only at h
    split at h
    · rename_i d q
      obtain ⟨w, e1, e2⟩ := S.rel.val i d q
      rw [O1] at e1; cases e1
      exact ⟨d, ρ, Hs, S, e2, h, Same.refl _, fun _ _ h _ => h⟩
    · rename_i d q
      obtain ⟨a, e1, e2, e3, _⟩ := S.rel.own i _ d q
      rw [O1] at e1; cases e1
      obtain ⟨R', D⟩ := S.rel.freeze q O1
      have io : IsOwn ρ σ a := ⟨i, _, d, q, O1⟩
      refine ⟨d, ρ.set i (.val d), frz Hs H a, ⟨R', S.ex.trans (frz_same e2), S.frame, S.live, fun b e e' => ?_, fun b z => S.owns b (isOwn_set z)⟩, D, h, frz_same e2, fun r' v' O' _ => ?_⟩
      · by_cases hb : b = a
        · subst hb; exact (S.owns b io).symm
        · rw [frz_ne hb] at e'
          exact S.grow b e e'
      · cases r' with
        | val e => exact Den.up O' (frz_same e2)
        | loc i => exact O'
        | tmp e =>
          obtain ⟨a', rfl, n', no', o'⟩ := O'
          have hb : a' ≠ a := fun q => no' (q ▸ io)
          exact ⟨a', rfl, by rw [frz_ne hb]; exact n', fun z => no' (isOwn_set z), o'.up (frz_same e2) fun _ e => e⟩
    · exact h.elim
/-- values are taken, from the left -/
theorem capL_ok : ∀ {rs : List Res} {vs : List V} {ρ : Rho} {Hs : Hp} {k : List DV → Rho → Prop} (S : Step W refs ρ0 σ0 Hs0 H0 ρ σ Hs H) (O : ResOks W ρ σ Hs H rs vs) (N : NewTs H0 rs vs) (h : capL rs ρ k),
    ∃ ds ρ' Hs', Step W refs ρ0 σ0 Hs0 H0 ρ' σ Hs' H ∧ Dens W Hs' vs ds ∧ k ds ρ' ∧ Same Hs Hs'
  | _, _, ρ, Hs, k, S, .nil, _, h => ⟨[], ρ, Hs, S, .nil, h, Same.refl _⟩
  | r :: rs, v :: vs, ρ, Hs, k, S, .cons o O, .cons n a N, h => by
    obtain ⟨d, ρ1, Hs1, S1, D, h1, e1, keep⟩ := cap_ok S o n h
    have O1 : ∀ {rs : List Res} {vs : List V}, ResOks W ρ σ Hs H rs vs → (∀ d, r = .tmp d → ApartT v rs vs) → ResOks W ρ1 σ Hs1 H rs vs := by
      intro rs vs O A
      induction O with
      | nil => exact .nil
      | @cons r' v' rs vs o' _ ih =>
        refine .cons (keep r' v' o' fun e d h1 h2 => ?_) (ih fun d hd => ?_)
        · subst h1
          exact fun z => (A d h2).1 z.symm
        · have := A d hd
          cases r' with
          | tmp e => exact this.2
          | val _ => exact this
          | loc _ => exact this
    obtain ⟨ds, ρ2, Hs2, S2, D2, h2, e2⟩ := capL_ok S1 (O1 O fun d hd => by subst hd; exact a) N h1
    exact ⟨d :: ds, ρ2, Hs2, S2, .cons (D.up e2) D2, h2, e1.trans e2⟩

/-- an own object is written -/
theorem Step.write (S : Step W refs ρ0 σ0 Hs0 H0 ρ σ Hs H) {i : Nat} {t : Option Nat} {d d' : DV} {a : Addr} (h : ρ[i]? = some (.own t d)) (ha : σ[i]? = some (some (.ref a)))
    (o : Own W Hs H' a d') (k : ∀ b o, b ≠ a → H b = some o → H' b = some o) (live : ∀ b, H' b = none → H b = none) : Step W refs ρ0 σ0 Hs0 H0 (ρ.set i (.own t d')) σ Hs H' := by
  obtain ⟨b, h1, h2, h3, h4⟩ := S.rel.own i t d h
  rw [ha] at h1; cases h1
  have io : IsOwn ρ σ a := ⟨i, t, d, h, ha⟩
  have hsub : Same Hs H' := fun b u e => by
    have hb : b ≠ a := fun z => by subst z; rw [h2] at e; cases e
    exact k b u hb (S.rel.sub b u e)
  refine ⟨⟨hsub, by rw [List.length_set]; exact S.rel.len, fun j e q => ?_, fun j u e q => ?_, fun j l u u' e e' b q1 q2 q3 q4 => ?_⟩, S.ex, fun b u e n => ?_, fun b e => S.live b (live b e), S.grow, fun b z => ?_⟩
  · have hj : i ≠ j := fun z => by subst z; rw [slot_set_eq h] at q; cases q
    rw [slot_set_ne hj] at q
    exact S.rel.val j e q
  · by_cases hj : i = j
    · subst hj
      rw [slot_set_eq h] at q; cases q
      exact ⟨a, ha, h2, o, h4⟩
    · rw [slot_set_ne hj] at q
      obtain ⟨b, e1, e2, e3, e4⟩ := S.rel.own j u e q
      have hb : b ≠ a := fun z => by subst z; exact hj (S.rel.dis i j t u d e _ h q ha e1)
      exact ⟨b, e1, e2, e3.up (Same.refl _) fun o z => k b o hb z, e4⟩
  · have old : ∀ {j : Nat} {u : Option Nat} {e : DV}, (ρ.set i (.own t d'))[j]? = some (.own u e) → ∃ u e, ρ[j]? = some (.own u e) := fun {j u e} q => by
      by_cases hj : i = j
      · subst hj; exact ⟨t, d, h⟩
      · rw [slot_set_ne hj] at q; exact ⟨u, e, q⟩
    obtain ⟨_, _, p1⟩ := old q1
    obtain ⟨_, _, p2⟩ := old q2
    exact S.rel.dis j l _ _ _ _ b p1 p2 q3 q4
  · have e' := S.frame b u e n
    by_cases hb : b = a
    · subst hb
      rcases S.owns b io with z | z
      · exact absurd z n
      · rw [e] at z; cases z
    · exact k b u hb e'
  · obtain ⟨j, u, e, q1, q2⟩ := z
    by_cases hj : i = j
    · subst hj
      rw [ha] at q2; cases q2
      exact S.owns _ io
    · rw [slot_set_ne hj] at q1
      exact S.owns b ⟨j, u, e, q1, q2⟩

/-- a name is bound to a frozen value -/
theorem Step.bindVal (S : Step W refs ρ0 σ0 Hs0 H0 ρ σ Hs H) {i : Nat} {d : DV} (D : Den W Hs v d) (hi : i < σ.length) : Step W refs ρ0 σ0 Hs0 H0 (ρ.set i (.val d)) (σ.set i (some v)) Hs H := by
  have hi' : i < ρ.length := by rw [S.rel.len]; exact hi
  have ne_of : ∀ {j : Nat} {u : Option Nat} {e : DV}, (ρ.set i (.val d))[j]? = some (.own u e) → i ≠ j := fun {j u e} q z => by
    subst z; rw [List.getElem?_set_self hi'] at q; cases q
  refine ⟨⟨S.rel.sub, by rw [List.length_set, List.length_set]; exact S.rel.len, fun j e q => ?_, fun j u e q => ?_, fun j l u u' e e' b q1 q2 q3 q4 => ?_⟩, S.ex, S.frame, S.live, S.grow, fun b z => ?_⟩
  · by_cases hj : i = j
    · subst hj
      rw [List.getElem?_set_self hi'] at q; cases q
      exact ⟨v, List.getElem?_set_self hi, D⟩
    · rw [slot_set_ne hj] at q
      obtain ⟨w, e1, e2⟩ := S.rel.val j e q
      exact ⟨w, by rw [List.getElem?_set_ne hj]; exact e1, e2⟩
  · have hj := ne_of q
    rw [slot_set_ne hj] at q
    obtain ⟨b, e1, e2⟩ := S.rel.own j u e q
    exact ⟨b, by rw [List.getElem?_set_ne hj]; exact e1, e2⟩
  · have n1 := ne_of q1
    have n2 := ne_of q2
    rw [slot_set_ne n1] at q1
    rw [slot_set_ne n2] at q2
    rw [List.getElem?_set_ne n1] at q3
    rw [List.getElem?_set_ne n2] at q4
    exact S.rel.dis j l u u' e e' b q1 q2 q3 q4
  · obtain ⟨j, u, e, q1, q2⟩ := z
    have hj := ne_of q1
    rw [slot_set_ne hj] at q1
    rw [List.getElem?_set_ne hj] at q2
    exact S.owns b ⟨j, u, e, q1, q2⟩
/-- .. to a new object alone -/
theorem Step.bindOwn (S : Step W refs ρ0 σ0 Hs0 H0 ρ σ Hs H) {i : Nat} {d : DV} {a : Addr} (n : Hs a = none) (no : ¬ IsOwn ρ σ a) (o : Own W Hs H a d) (new : H0 a = none) (hi : i < σ.length) :
    Step W refs ρ0 σ0 Hs0 H0 (ρ.set i (.own none d)) (σ.set i (some (.ref a))) Hs H := by
  have hi' : i < ρ.length := by rw [S.rel.len]; exact hi
  refine ⟨⟨S.rel.sub, by rw [List.length_set, List.length_set]; exact S.rel.len, fun j e q => ?_, fun j u e q => ?_, fun j l u u' e e' b q1 q2 q3 q4 => ?_⟩, S.ex, S.frame, S.live, S.grow, fun b z => ?_⟩
  · have hj : i ≠ j := fun z => by subst z; rw [List.getElem?_set_self hi'] at q; cases q
    rw [slot_set_ne hj] at q
    obtain ⟨w, e1, e2⟩ := S.rel.val j e q
    exact ⟨w, by rw [List.getElem?_set_ne hj]; exact e1, e2⟩
  · by_cases hj : i = j
    · subst hj
      rw [List.getElem?_set_self hi'] at q; cases q
      exact ⟨a, List.getElem?_set_self hi, n, o, fun k z => by cases z⟩
    · rw [slot_set_ne hj] at q
      obtain ⟨b, e1, e2⟩ := S.rel.own j u e q
      exact ⟨b, by rw [List.getElem?_set_ne hj]; exact e1, e2⟩
  · by_cases n1 : i = j
    · by_cases n2 : i = l
      · rw [← n1, ← n2]
      · subst n1
        rw [slot_set_ne n2] at q2
        rw [List.getElem?_set_self hi] at q3; cases q3
        rw [List.getElem?_set_ne n2] at q4
        exact absurd ⟨l, u', e', q2, q4⟩ no
    · by_cases n2 : i = l
      · subst n2
        rw [slot_set_ne n1] at q1
        rw [List.getElem?_set_self hi] at q4; cases q4
        rw [List.getElem?_set_ne n1] at q3
        exact absurd ⟨j, u, e, q1, q3⟩ no
      · rw [slot_set_ne n1] at q1
        rw [slot_set_ne n2] at q2
        rw [List.getElem?_set_ne n1] at q3
        rw [List.getElem?_set_ne n2] at q4
        exact S.rel.dis j l u u' e e' b q1 q2 q3 q4
  · obtain ⟨j, u, e, q1, q2⟩ := z
    by_cases hj : i = j
    · subst hj
      rw [List.getElem?_set_self hi] at q2; cases q2
      exact .inr new
    · rw [slot_set_ne hj] at q1
      rw [List.getElem?_set_ne hj] at q2
      exact S.owns b ⟨j, u, e, q1, q2⟩
theorem bindR_ok {k : Rho → Prop} {i : Nat} (S : Step W refs ρ0 σ0 Hs0 H0 ρ σ Hs H) (O : ResOk W ρ σ Hs H r v) (N : NewT H0 r v) (hi : i < σ.length) (h : bindR i r ρ k) :
    ∃ ρ' Hs', Step W refs ρ0 σ0 Hs0 H0 ρ' (σ.set i (some v)) Hs' H ∧ Same Hs Hs' ∧ k ρ' := by
  have other : ∀ {r : Res}, ResOk W ρ σ Hs H r v → NewT H0 r v → (cap r ρ fun d ρ1 => k (ρ1.set i (.val d))) → ∃ ρ' Hs', Step W refs ρ0 σ0 Hs0 H0 ρ' (σ.set i (some v)) Hs' H ∧ Same Hs Hs' ∧ k ρ' := fun {r} O N h => by
    obtain ⟨d, ρ1, Hs1, S1, D, h1, e1, _⟩ := cap_ok S O N h
    exact ⟨_, _, S1.bindVal D hi, e1, h1⟩
  cases r with
  | tmp d =>
    obtain ⟨a, rfl, n, no, o⟩ := O
    exact ⟨_, _, S.bindOwn n no o (N a rfl) hi, Same.refl _, h⟩
  | val d => exact other O N h
  | loc j => exact other O N h
/-- a name is forgotten -/
theorem Step.wipe (S : Step W refs ρ0 σ0 Hs0 H0 ρ σ Hs H) {i : Nat} : Step W refs ρ0 σ0 Hs0 H0 (ρ.set i .no) (σ.set i none) Hs H := by
  have ne_of : ∀ {j : Nat} {s : Slot}, (ρ.set i .no)[j]? = some s → s ≠ .no → i ≠ j := fun {j s} q n z => by
    subst z
    by_cases hi : i < ρ.length
    · rw [List.getElem?_set_self hi] at q; cases q; exact n rfl
    · rw [List.getElem?_eq_none (by rw [List.length_set]; omega)] at q; cases q
  refine ⟨⟨S.rel.sub, by rw [List.length_set, List.length_set]; exact S.rel.len, fun j e q => ?_, fun j u e q => ?_, fun j l u u' e e' b q1 q2 q3 q4 => ?_⟩, S.ex, S.frame, S.live, S.grow, fun b z => ?_⟩
  · have hj := ne_of q (by intro z; cases z)
    rw [slot_set_ne hj] at q
    obtain ⟨w, e1, e2⟩ := S.rel.val j e q
    exact ⟨w, by rw [List.getElem?_set_ne hj]; exact e1, e2⟩
  · have hj := ne_of q (by intro z; cases z)
    rw [slot_set_ne hj] at q
    obtain ⟨b, e1, e2⟩ := S.rel.own j u e q
    exact ⟨b, by rw [List.getElem?_set_ne hj]; exact e1, e2⟩
  · have n1 := ne_of q1 (by intro z; cases z)
    have n2 := ne_of q2 (by intro z; cases z)
    rw [slot_set_ne n1] at q1
    rw [slot_set_ne n2] at q2
    rw [List.getElem?_set_ne n1] at q3
    rw [List.getElem?_set_ne n2] at q4
    exact S.rel.dis j l u u' e e' b q1 q2 q3 q4
  · obtain ⟨j, u, e, q1, q2⟩ := z
    have hj := ne_of q1 (by intro z; cases z)
    rw [slot_set_ne hj] at q1
    rw [List.getElem?_set_ne hj] at q2
    exact S.owns b ⟨j, u, e, q1, q2⟩
def Res.bare : Res → Prop
  | .loc _ => False
  | _ => True
theorem res1_ok {k : Res → Rho → Prop} (S : Step W refs ρ0 σ0 Hs0 H0 ρ σ Hs H) (O : ResOk W ρ σ Hs H r v) (N : NewT H0 r v) (h : res1 r ρ k) :
    ∃ s ρ' Hs', Step W refs ρ0 σ0 Hs0 H0 ρ' σ Hs' H ∧ ResOk W ρ' σ Hs' H s v ∧ NewT H0 s v ∧ s.bare ∧ (∀ d, s = .tmp d → r = .tmp d) ∧ k s ρ' ∧ Same Hs Hs' ∧ ∀ r' v', ResOk W ρ σ Hs H r' v' → ResOk W ρ' σ Hs' H r' v' := by
  cases r with
  | val d => exact ⟨.val d, ρ, Hs, S, O, N, trivial, fun _ e => e, h, Same.refl _, fun _ _ h => h⟩
  | tmp d => exact ⟨.tmp d, ρ, Hs, S, O, N, trivial, fun _ e => e, h, Same.refl _, fun _ _ h => h⟩
  | loc i =>
    obtain ⟨d, ρ1, Hs1, S1, D, h1, e1, keep⟩ := cap_ok S O N h
    exact ⟨.val d, ρ1, Hs1, S1, D, trivial, trivial, (fun _ e => by cases e), h1, e1, fun r' v' h => keep r' v' h fun _ _ _ z => by cases z⟩
theorem bind1_ok {s : Res} {i : Nat} (S : Step W refs ρ0 σ0 Hs0 H0 ρ σ Hs H) (O : ResOk W ρ σ Hs H s v) (N : NewT H0 s v) (hb : s.bare) (hi : i < σ.length) :
    Step W refs ρ0 σ0 Hs0 H0 (bind1 i s ρ) (σ.set i (some v)) Hs H ∧ ∀ r' v', ResOk W ρ σ Hs H r' v' → r'.bare → (∀ e d, r' = .tmp e → s = .tmp d → v ≠ v') → ResOk W (bind1 i s ρ) (σ.set i (some v)) Hs H r' v' := by
  have hi' : i < ρ.length := by rw [S.rel.len]; exact hi
  have other : ∀ {sl : Slot} {b : Addr}, (∀ t d, sl = .own t d → v ≠ .ref b) → ¬ IsOwn ρ σ b → ¬ IsOwn (ρ.set i sl) (σ.set i (some v)) b := fun {sl b} hv no ⟨j, t, d, h1, h2⟩ => by
    by_cases hj : i = j
    · subst hj
      rw [List.getElem?_set_self hi'] at h1
      rw [List.getElem?_set_self hi] at h2
      cases h1
      cases h2
      exact hv _ _ rfl rfl
    · rw [slot_set_ne hj] at h1
      rw [List.getElem?_set_ne hj] at h2
      exact no ⟨j, t, d, h1, h2⟩
  cases s with
  | loc _ => exact hb.elim
  | val d =>
    refine ⟨S.bindVal O hi, fun r' v' h h2 _ => ?_⟩
    cases r' with
    | loc _ => exact h2.elim
    | val e => exact h
    | tmp e =>
      obtain ⟨b, rfl, n, no, o⟩ := h
      exact ⟨b, rfl, n, other (fun t d z => by cases z) no, o⟩
  | tmp d =>
    obtain ⟨a, rfl, n, no, o⟩ := O
    refine ⟨S.bindOwn n no o (N a rfl) hi, fun r' v' h h2 h3 => ?_⟩
    cases r' with
    | loc _ => exact h2.elim
    | val e => exact h
    | tmp e =>
      obtain ⟨b, rfl, n', no', o'⟩ := h
      exact ⟨b, rfl, n', other (fun _ _ _ => h3 e d rfl rfl) no', o'⟩
end
end EV

set_option maxRecDepth 100000
set_option maxHeartbeats 4000000
/-! EV 6: what a def promises, its calls, its body. -/
namespace EV
open PySem L2

def ArgsOk (W : Wd) (Hs H : Hp) : List Bool → List V → List DV → List Addr → Prop
  | [], [], [], [] => True
  | false :: ms, v :: vs, d :: ds, as => Den W Hs v d ∧ ArgsOk W Hs H ms vs ds as
  | true :: ms, v :: vs, d :: ds, a :: as => v = .ref a ∧ Hs a = none ∧ Own W Hs H a d ∧ ArgsOk W Hs H ms vs ds as
  | _, _, _, _ => False
def OutsOk (W : Wd) (Hs H : Hp) : List Addr → List DV → Prop
  | [], [] => True
  | a :: as, d :: ds => (Hs a = none ∧ Own W Hs H a d) ∧ OutsOk W Hs H as ds
  | _, _ => False
structure CallStep (W : Wd) (as : List Addr) (Hs H Hs' H' : Hp) (outs : List DV) (fr : Bool) (d : DV) (v : V) : Prop where
  ex : Same Hs Hs'
  sub : Same Hs' H'
  frame : ∀ b o, H b = some o → b ∉ as → H' b = some o
  live : ∀ b, H' b = none → H b = none
  grow : ∀ b, Hs b = none → Hs' b ≠ none → H b = none
  outs : OutsOk W Hs' H' as outs
  tmp : fr = true → ∃ a, v = .ref a ∧ H a = none ∧ Hs' a = none ∧ Own W Hs' H' a d
  val : fr = false → Den W Hs' v d
/-- the promise -/
def spOf (W : Wd) (fi : FI) : Sp := fun vs H Q _ => ∃ Hs ds as k, Same Hs H ∧ ArgsOk W Hs H fi.modes vs ds as ∧ as.Nodup ∧ fi.spec ds k ∧
  ∀ fr d outs v Hs' H', CallStep W as Hs H Hs' H' outs fr d v → k fr d outs → Q v H'

section
variable {W : Wd} {refs : List Addr} {ρ ρ' ρ0 : Rho} {σ σ' σ0 : L2.St} {Hs Hs' Hs0 H H' H0 : Hp} {r : Res} {v : V}

/-- the arguments as they are handed over -/
inductive Passed (W : Wd) (ρ : Rho) (σ : L2.St) (Hs H : Hp) : List Bool → List Res → List V → List DV → Prop
  | nil : Passed W ρ σ Hs H [] [] [] []
  | byVal {ms : List Bool} {r : Res} {rs : List Res} {v : V} {vs : List V} {d : DV} {ds : List DV} : Den W Hs v d → Passed W ρ σ Hs H ms rs vs ds → Passed W ρ σ Hs H (false :: ms) (r :: rs) (v :: vs) (d :: ds)
  | byRef {ms : List Bool} {r : Res} {rs : List Res} {v : V} {vs : List V} {d : DV} {ds : List DV} : ResOk W ρ σ Hs H r v → cont ρ r = some d → Apart r v rs vs → Passed W ρ σ Hs H ms rs vs ds → Passed W ρ σ Hs H (true :: ms) (r :: rs) (v :: vs) (d :: ds)

theorem resOks_keep {Hs1 : Hp} {ρ1 : Rho} {r : Res} {v : V} (keep : ∀ r' v', ResOk W ρ σ Hs H r' v' → (∀ e d, r' = .tmp e → r = .tmp d → v' ≠ v) → ResOk W ρ1 σ Hs1 H r' v') :
    ∀ {rs : List Res} {vs : List V}, ResOks W ρ σ Hs H rs vs → Apart r v rs vs → ResOks W ρ1 σ Hs1 H rs vs := by
  intro rs vs O A
  induction O with
  | nil => exact .nil
  | @cons r' v' rs vs o' _ ih =>
    refine .cons (keep r' v' o' fun e d h1 h2 => ?_) (ih ?_)
    · subst h1 h2
      exact fun z => A.1 z.symm
    · cases r with
      | tmp d =>
        cases r' with
        | tmp e => exact A.2
        | val _ => exact A
        | loc _ => exact A
      | val _ => trivial
      | loc _ => trivial

theorem passL_ok : ∀ {ms : List Bool} {rs : List Res} {vs : List V} {ρ : Rho} {Hs : Hp} {k : List DV → Rho → Prop} (S : Step W refs ρ0 σ0 Hs0 H0 ρ σ Hs H) (O : ResOks W ρ σ Hs H rs vs) (N : NewTs H0 rs vs) (h : passL ms rs ρ k),
    ∃ ds ρ' Hs', Step W refs ρ0 σ0 Hs0 H0 ρ' σ Hs' H ∧ Passed W ρ' σ Hs' H ms rs vs ds ∧ k ds ρ' ∧ Same Hs Hs' ∧ ∀ r' v', ResOk W ρ σ Hs H r' v' → Apart r' v' rs vs → ResOk W ρ' σ Hs' H r' v'
  | [], _, _, ρ, Hs, k, S, .nil, _, h => ⟨[], ρ, Hs, S, .nil, h, Same.refl _, fun _ _ h _ => h⟩
  | b :: _, _, _, _, _, _, _, .nil, _, h => by cases b <;> exact False.elim h
  | [], _, _, _, _, _, _, .cons _ _, _, h => h.elim
  | false :: ms, r :: rs, v :: vs, ρ, Hs, k, S, .cons o O, .cons n a N, h => by
    obtain ⟨d, ρ1, Hs1, S1, D, h1, e1, keep⟩ := cap_ok S o n h
    obtain ⟨ds, ρ2, Hs2, S2, P, h2, e2, keep2⟩ := passL_ok S1 (resOks_keep keep O a) N h1
    refine ⟨d :: ds, ρ2, Hs2, S2, .byVal (D.up e2) P, h2, e1.trans e2, fun r' v' O' A => ?_⟩
    cases r' with
    | val e => exact Den.up O' (e1.trans e2)
    | loc i => exact O'
    | tmp e =>
      cases r with
      | tmp e' => exact keep2 _ _ (keep _ _ O' fun _ _ _ _ => A.1) A.2
      | val _ => exact keep2 _ _ (keep _ _ O' fun _ _ _ z => by cases z) A
      | loc _ => exact keep2 _ _ (keep _ _ O' fun _ _ _ z => by cases z) A
  | true :: ms, r :: rs, v :: vs, ρ, Hs, k, S, .cons o O, .cons n a N, h => by
    obtain ⟨ds, ρ2, Hs2, S2, P, ⟨d, hc, h2⟩, e2, keep2⟩ := passL_ok S O N h
    refine ⟨d :: ds, ρ2, Hs2, S2, .byRef (keep2 r v o a) hc a P, h2, e2, fun r' v' O' A => ?_⟩
    cases r' with
    | val e => exact Den.up O' e2
    | loc i => exact O'
    | tmp e =>
      cases r with
      | tmp e' => exact keep2 _ _ O' A.2
      | val _ => exact keep2 _ _ O' A
      | loc _ => exact keep2 _ _ O' A

/-- where the by-reference arguments stand -/
theorem passed_args (R : Rel W refs ρ σ Hs H) : ∀ {ms : List Bool} {rs : List Res} {vs : List V} {ds : List DV} (seen : List Nat), Passed W ρ σ Hs H ms rs vs ds → refsOk ms rs ρ seen →
    ∃ as, ArgsOk W Hs H ms vs ds as ∧ as.Nodup ∧ (∀ a, a ∈ as → (∃ i t d, i ∉ seen ∧ .loc i ∈ rs ∧ ρ[i]? = some (.own t d) ∧ σ[i]? = some (some (.ref a))) ∨ (¬ IsOwn ρ σ a ∧ ∃ e, Exists fun (j : Nat) => rs[j]? = some (.tmp e) ∧ vs[j]? = some (.ref a)))
  | _, _, _, _, seen, .nil, _ => ⟨[], trivial, .nil, fun a h => by cases h⟩
  | _, _, _, _, seen, .byVal D P, h => by
    obtain ⟨as, h1, h2, h3⟩ := passed_args R seen P h
    refine ⟨as, ⟨D, h1⟩, h2, fun a ha => ?_⟩
    rcases h3 a ha with ⟨i, t, d, q1, q2, q3⟩ | ⟨q1, e, j, q2, q3⟩
    · exact .inl ⟨i, t, d, q1, List.mem_cons_of_mem _ q2, q3⟩
    · exact .inr ⟨q1, e, j + 1, by simpa using q2, by simpa using q3⟩
  | true :: ms, .tmp e :: rs, v :: vs, d :: ds, seen, .byRef O c A P, h => by
    obtain ⟨as, h1, h2, h3⟩ := passed_args R seen P h
    obtain ⟨a, rfl, n, no, o⟩ := O
    cases c
    refine ⟨a :: as, ⟨rfl, n, o, h1⟩, List.nodup_cons.mpr ⟨fun ha => ?_, h2⟩, fun b hb => ?_⟩
    · rcases h3 a ha with ⟨i, t, d, _, _, q3, q4⟩ | ⟨_, e', j, q2, q3⟩
      · exact no ⟨i, t, d, q3, q4⟩
      · have : ∀ {rs : List Res} {vs : List V} {j : Nat}, ApartT (.ref a) rs vs → rs[j]? = some (.tmp e') → vs[j]? = some (.ref a) → False := by
          intro rs
          induction rs with
          | nil => intro vs j _ q; simp at q
          | cons r rs ih =>
            intro vs j A q2 q3
            cases vs with
            | nil => simp at q3
            | cons w vs =>
              cases j with
              | zero =>
                simp at q2 q3
                subst q2 q3
                exact A.1 rfl
              | succ j =>
                refine ih (vs := vs) (j := j) ?_ (by simpa using q2) (by simpa using q3)
                cases r with
                | tmp _ => exact A.2
                | val _ => exact A
                | loc _ => exact A
        exact this A q2 q3
    · rcases List.mem_cons.mp hb with rfl | hb
      · exact .inr ⟨no, e, 0, rfl, rfl⟩
      · rcases h3 b hb with ⟨i, t, d, q1, q2, q3⟩ | ⟨q1, e, j, q2, q3⟩
        · exact .inl ⟨i, t, d, q1, List.mem_cons_of_mem _ q2, q3⟩
        · exact .inr ⟨q1, e, j + 1, by simpa using q2, by simpa using q3⟩
  | true :: ms, .loc i :: rs, v :: vs, d :: ds, seen, .byRef O c A P, h => by
    obtain ⟨⟨t, d', hs⟩, ni, h⟩ := h
    obtain ⟨as, h1, h2, h3⟩ := passed_args R (i :: seen) P h
    obtain ⟨a, e1, n, o, _⟩ := R.own i t d' hs
    have O : σ[i]? = some (some v) := O
    rw [O] at e1; cases e1
    have c : slotD ρ[i]? = some d := c
    rw [hs] at c; cases c
    refine ⟨a :: as, ⟨rfl, n, o, h1⟩, List.nodup_cons.mpr ⟨fun ha => ?_, h2⟩, fun b hb => ?_⟩
    · rcases h3 a ha with ⟨j, t', d', q1, _, q3, q4⟩ | ⟨q1, _⟩
      · exact q1 (by rw [R.dis j i _ _ _ _ _ q3 hs q4 O]; exact List.mem_cons_self)
      · exact q1 ⟨i, t, _, hs, O⟩
    · rcases List.mem_cons.mp hb with rfl | hb
      · exact .inl ⟨i, t, _, ni, List.mem_cons_self, hs, O⟩
      · rcases h3 b hb with ⟨j, t', d', q1, q2, q3⟩ | ⟨q1, e, j, q2, q3⟩
        · exact .inl ⟨j, t', d', fun z => q1 (List.mem_cons_of_mem _ z), List.mem_cons_of_mem _ q2, q3⟩
        · exact .inr ⟨q1, e, j + 1, by simpa using q2, by simpa using q3⟩
  | true :: ms, .val e :: rs, v :: vs, d :: ds, seen, .byRef O c A P, h => h.elim

/-- the names' values but for those at B -/
structure RelX (W : Wd) (refs : List Addr) (B : List Nat) (ρ : Rho) (σ : L2.St) (Hs H : Hp) : Prop where
  sub : Same Hs H
  len : ρ.length = σ.length
  val : ∀ (i : Nat) (d : DV), ρ[i]? = some (.val d) → ∃ v, σ[i]? = some (some v) ∧ Den W Hs v d
  own : ∀ (i : Nat) (t : Option Nat) (d : DV), ρ[i]? = some (.own t d) → ∃ a, σ[i]? = some (some (.ref a)) ∧ (∀ k, t = some k → refs[k]? = some a) ∧ (i ∉ B → Hs a = none ∧ Own W Hs H a d)
  dis : ∀ (i j : Nat) (t u : Option Nat) (d e : DV) (a : Addr), ρ[i]? = some (.own t d) → ρ[j]? = some (.own u e) → σ[i]? = some (some (.ref a)) → σ[j]? = some (some (.ref a)) → i = j
def refLocs : List Bool → List Res → List Nat
  | true :: ms, .loc i :: rs => i :: refLocs ms rs
  | _ :: ms, _ :: rs => refLocs ms rs
  | _, _ => []
theorem putOuts_ok : ∀ {ms : List Bool} {rs : List Res} {vs : List V} {ds : List DV} {as : List Addr} {outs : List DV} {ρ ρ2 : Rho} {ρ1 : Rho} {Hs1 H1 : Hp}, Passed W ρ1 σ Hs1 H1 ms rs vs ds → ArgsOk W Hs1 H1 ms vs ds as → OutsOk W Hs' H' as outs → RelX W refs (refLocs ms rs) ρ σ Hs' H' → putOuts ms rs outs ρ = some ρ2 →
    Rel W refs ρ2 σ Hs' H' ∧ (∀ b, IsOwn ρ2 σ b ↔ IsOwn ρ σ b)
  | _, _, _, _, _, outs, ρ, ρ2, _, _, _, .nil, ha, ho, R, h => by
    cases outs with
    | nil =>
      have e : ρ = ρ2 := Option.some.inj h
      subst e
      exact ⟨⟨R.sub, R.len, R.val, fun i t d q => by
        obtain ⟨a, h1, h2, h3⟩ := R.own i t d q
        obtain ⟨h4, h5⟩ := h3 (by intro z; cases z)
        exact ⟨a, h1, h4, h5, h2⟩, R.dis⟩, fun _ => Iff.rfl⟩
    | cons _ _ => cases h
  | _, _, _, _, as, outs, ρ, ρ2, _, _, _, .byVal (ms := ms) (r := r) (rs := rs) D P, ha, ho, R, h => by
    have R' : RelX W refs (refLocs ms rs) ρ σ Hs' H' := by cases r <;> exact R
    exact putOuts_ok P ha.2 ho R' h
  | true :: ms, .tmp e :: rs, v :: vs, d :: ds, as, outs, ρ, ρ2, _, _, _, .byRef O c A P, ha, ho, R, h => by
    cases as with
    | nil => exact ha.elim
    | cons a as =>
      cases outs with
      | nil => cases h
      | cons d' outs => exact putOuts_ok P ha.2.2.2 ho.2 R h
  | true :: ms, .val e :: rs, v :: vs, d :: ds, as, outs, ρ, ρ2, _, _, _, .byRef O c A P, ha, ho, R, h => by
    cases outs <;> cases h
  | true :: ms, .loc i :: rs, v :: vs, d :: ds, as, outs, ρ, ρ2, ρ1, Hs1, H1, .byRef O c A P, ha, ho, R, h => by
    cases as with
    | nil => exact ha.elim
    | cons a as =>
      cases outs with
      | nil => cases h
      | cons d' outs =>
        obtain ⟨rfl, _, _, ha'⟩ := ha
        obtain ⟨⟨n', o'⟩, ho'⟩ := ho
        have O : σ[i]? = some (some (.ref a)) := O
        unfold putOuts at h
        split at h
        · rename_i t d0 q
          have own' : ∀ {b : Addr}, IsOwn (ρ.set i (.own t d')) σ b ↔ IsOwn ρ σ b := fun {b} => by
            constructor
            · rintro ⟨j, u, e, q1, q2⟩
              by_cases hj : i = j
              · subst hj; exact ⟨i, t, d0, q, q2⟩
              · rw [slot_set_ne hj] at q1; exact ⟨j, u, e, q1, q2⟩
            · rintro ⟨j, u, e, q1, q2⟩
              by_cases hj : i = j
              · subst hj; exact ⟨i, t, d', slot_set_eq q, q2⟩
              · exact ⟨j, u, e, by rw [slot_set_ne hj]; exact q1, q2⟩
          have R' : RelX W refs (refLocs ms rs) (ρ.set i (.own t d')) σ Hs' H' := by
            refine ⟨R.sub, by rw [List.length_set]; exact R.len, fun j e z => ?_, fun j u e z => ?_, fun j l u u' e e' b q1 q2 q3 q4 => ?_⟩
            · have hj : i ≠ j := fun w => by subst w; rw [slot_set_eq q] at z; cases z
              rw [slot_set_ne hj] at z
              exact R.val j e z
            · by_cases hj : i = j
              · subst hj
                rw [slot_set_eq q] at z; cases z
                obtain ⟨b, h1, h2, _⟩ := R.own i t d0 q
                rw [O] at h1; cases h1
                exact ⟨a, O, h2, fun _ => ⟨n', o'⟩⟩
              · rw [slot_set_ne hj] at z
                obtain ⟨b, h1, h2, h3⟩ := R.own j u e z
                exact ⟨b, h1, h2, fun nb => h3 fun w => by
                  rcases List.mem_cons.mp w with w | w
                  · exact hj w.symm
                  · exact nb w⟩
            · have old : ∀ {j : Nat} {u : Option Nat} {e : DV}, (ρ.set i (.own t d'))[j]? = some (.own u e) → ∃ u e, ρ[j]? = some (.own u e) := fun {j u e} q' => by
                by_cases hj : i = j
                · subst hj; exact ⟨t, d0, q⟩
                · rw [slot_set_ne hj] at q'; exact ⟨u, e, q'⟩
              obtain ⟨_, _, p1⟩ := old q1
              obtain ⟨_, _, p2⟩ := old q2
              exact R.dis j l _ _ _ _ b p1 p2 q3 q4
          obtain ⟨h1, h2⟩ := putOuts_ok P ha' ho' R' h
          exact ⟨h1, fun b => (h2 b).trans own'⟩
        · cases h

theorem refLocs_own (R : Rel W refs ρ σ Hs H) : ∀ {ms : List Bool} {rs : List Res} {vs : List V} {ds : List DV} {as : List Addr}, Passed W ρ σ Hs H ms rs vs ds → ArgsOk W Hs H ms vs ds as →
    ∀ {i : Nat} {a : Addr}, σ[i]? = some (some (.ref a)) → i ∈ refLocs ms rs → a ∈ as
  | _, _, _, _, _, .nil, _, _, _, _, h => by cases h
  | _, _, _, _, as, .byVal (r := r) D P, ha, i, a, e, h => by
    refine refLocs_own R P ha.2 e ?_
    cases r <;> exact h
  | true :: ms, .tmp _ :: rs, v :: vs, d :: ds, as, .byRef O c A P, ha, i, a, e, h => by
    cases as with
    | nil => exact ha.elim
    | cons b as => exact List.mem_cons_of_mem _ (refLocs_own R P ha.2.2.2 e h)
  | true :: ms, .val _ :: rs, v :: vs, d :: ds, as, .byRef O c A P, ha, i, a, e, h => by
    cases as with
    | nil => exact ha.elim
    | cons b as => exact List.mem_cons_of_mem _ (refLocs_own R P ha.2.2.2 e h)
  | true :: ms, .loc j :: rs, v :: vs, d :: ds, as, .byRef O c A P, ha, i, a, e, h => by
    cases as with
    | nil => exact ha.elim
    | cons b as =>
      obtain ⟨rfl, _, _, ha'⟩ := ha
      have O : σ[j]? = some (some (.ref b)) := O
      rcases List.mem_cons.mp h with rfl | h
      · rw [e] at O; cases O; exact List.mem_cons_self
      · exact List.mem_cons_of_mem _ (refLocs_own R P ha' e h)

/-- a call, from what it is worth -/
theorem callX_ok {fi : FI} {rs : List Res} {vs : List V} {k : Bool → DV → List DV → Rho → Prop} {Q : VK} {E : XK} (S : Step W refs ρ0 σ Hs0 H0 ρ σ Hs H) (O : ResOks W ρ σ Hs H rs vs) (N : NewTs H0 rs vs) (h : callX fi rs ρ k)
    (P : ∀ fr d outs ρ1 ρ2 v Hs' H' Hs1 ds as, Step W refs ρ0 σ Hs0 H0 ρ2 σ Hs' H' → ResOk W ρ2 σ Hs' H' (resOf fr d) v → NewT H0 (resOf fr d) v → Passed W ρ1 σ Hs1 H fi.modes rs vs ds → ArgsOk W Hs1 H fi.modes vs ds as → OutsOk W Hs' H' as outs →
      (∀ a, IsOwn ρ2 σ a ↔ IsOwn ρ1 σ a) → k fr d outs ρ2 → Q v H') : spOf W fi vs H Q E := by
  obtain ⟨ds, ρ1, Hs1, S1, A, ⟨hr, hs⟩, e1, _⟩ := passL_ok S O N h
  obtain ⟨as, ha, nd, hin⟩ := passed_args S1.rel [] A hr
  refine ⟨Hs1, ds, as, _, S1.rel.sub, ha, nd, hs, fun fr d outs v Hs' H' C hk => ?_⟩
  obtain ⟨ρ2, hp, hk⟩ := hk
  have RX : RelX W refs (refLocs fi.modes rs) ρ1 σ Hs' H' := by
    refine ⟨C.sub, S1.rel.len, fun i d e => ?_, fun i t d e => ?_, S1.rel.dis⟩
    · obtain ⟨v, h1, h2⟩ := S1.rel.val i d e
      exact ⟨v, h1, h2.up C.ex⟩
    · obtain ⟨a, h1, h2, h3, h4⟩ := S1.rel.own i t d e
      refine ⟨a, h1, h4, fun nb => ?_⟩
      have na : a ∉ as := fun z => by
        rcases hin a z with ⟨j, u, d', _, q2, q3, q4⟩ | ⟨q1, _⟩
        · have := S1.rel.dis i j _ _ _ _ _ e q3 h1 q4
          subst this
          refine nb ?_
          clear nb
          -- i is one of the by-reference names
          have : ∀ {ms : List Bool} {rs : List Res} {vs : List V} {ds : List DV} {as : List Addr} {seen : List Nat}, Passed W ρ1 σ Hs1 H ms rs vs ds → ArgsOk W Hs1 H ms vs ds as → refsOk ms rs ρ1 seen → a ∈ as → i ∈ refLocs ms rs := by
            intro ms rs vs ds as seen P' A' hr' hm
            induction P' generalizing as seen with
            | nil => cases as with
              | nil => cases hm
              | cons _ _ => exact A'.elim
            | @byVal ms r rs v vs d ds D P' ih =>
              have := ih A'.2 hr' hm
              cases r <;> exact this
            | @byRef ms r rs v vs dd ds O' c' Ap P' ih =>
              cases as with
              | nil => exact A'.elim
              | cons b as =>
                obtain ⟨rfl, n', o', A'⟩ := A'
                cases r with
                | val _ => exact hr'.elim
                | tmp x =>
                  rcases List.mem_cons.mp hm with rfl | hm
                  · obtain ⟨a', q1, _, no, _⟩ := O'
                    cases q1
                    exact absurd ⟨i, t, d, e, h1⟩ no
                  · exact ih A' hr' hm
                | loc j =>
                  rcases List.mem_cons.mp hm with rfl | hm
                  · obtain ⟨⟨t', d', hj⟩, _, _⟩ := hr'
                    have := S1.rel.dis i j _ _ _ _ _ e hj h1 O'
                    subst this
                    exact List.mem_cons_self
                  · exact List.mem_cons_of_mem _ (ih A' hr'.2.2 hm)
          exact this A ha hr z
        · exact q1 ⟨i, t, d, e, h1⟩
      obtain ⟨o, ho⟩ := h3.there
      refine ⟨?_, h3.up C.ex fun o q => C.frame a o q na⟩
      cases q : Hs' a with
      | none => rfl
      | some u =>
        have := C.grow a h2 (by rw [q]; intro z; cases z)
        rw [ho] at this; cases this
  obtain ⟨R2, io⟩ := putOuts_ok A ha C.outs RX hp
  have S2 : Step W refs ρ0 σ Hs0 H0 ρ2 σ Hs' H' := by
    refine ⟨R2, S1.ex.trans C.ex, fun b o e n => ?_, fun b e => S1.live b (C.live b e), fun b e e' => ?_, fun b z => S1.owns b ((io b).mp z)⟩
    · have hb := S1.frame b o e n
      refine C.frame b o hb fun z => ?_
      rcases hin b z with ⟨i, t, d, _, _, q3, q4⟩ | ⟨q1, e', j, q2, q3⟩
      · rcases S1.owns b ⟨i, t, d, q3, q4⟩ with w | w
        · exact n w
        · rw [e] at w; cases w
      · -- a new object: it was not there
        have : ∀ {rs : List Res} {vs : List V} {j : Nat}, NewTs H0 rs vs → rs[j]? = some (.tmp e') → vs[j]? = some (.ref b) → H0 b = none := by
          intro rs vs j N q2 q3
          induction N generalizing j with
          | nil => simp at q2
          | @cons r w rs vs n1 _ _ ih =>
            cases j with
            | zero =>
              simp at q2 q3
              subst q2 q3
              exact n1 b rfl
            | succ j => exact ih (by simpa using q2) (by simpa using q3)
        rw [this N q2 q3] at e; cases e
    · by_cases q : Hs1 b = none
      · exact .inl (S1.live b (C.grow b q e'))
      · exact S1.grow b e q
  cases fr with
  | true =>
    obtain ⟨a, rfl, h1, h2, h3⟩ := C.tmp rfl
    refine P true d outs ρ1 ρ2 _ Hs' H' Hs1 ds as S2 ⟨a, rfl, h2, fun z => ?_, h3⟩ (fun b e => by cases e; exact S1.live a h1) A ha C.outs io hk
    obtain ⟨_, o, ho⟩ := S1.rel.ownAt ((io a).mp z)
    rw [h1] at ho; cases ho
  | false => exact P false d outs ρ1 ρ2 v Hs' H' Hs1 ds as S2 (C.val rfl) trivial A ha C.outs io hk
theorem callW_ok {fi : FI} {rs : List Res} {vs : List V} {k : Res → Rho → Prop} {Q : VK} {E : XK} (S : Step W refs ρ0 σ Hs0 H0 ρ σ Hs H) (O : ResOks W ρ σ Hs H rs vs) (N : NewTs H0 rs vs) (h : callW fi rs ρ k) (P : Post W refs ρ0 σ Hs0 H0 k Q) : spOf W fi vs H Q E :=
  callX_ok S O N h fun fr d outs _ ρ2 v Hs' H' _ _ _ S2 O2 N2 _ _ _ _ hk => P (resOf fr d) ρ2 v Hs' H' S2 O2 N2 hk
end
end EV

set_option maxRecDepth 100000
set_option maxHeartbeats 4000000
/-! EV 7: readings; the expressions. -/
namespace EV
open PySem L2

section
variable (G : Genv) (W : Wd) (refs : List Addr)
def tE (i : IE) : TE := fun σ H Q => ∃ ρ Hs k, Rel W refs ρ σ Hs H ∧ wpE G i ρ k ∧ Post W refs ρ σ Hs H k Q
def tT (i : IC) : TT := fun σ H Q => ∃ ρ Hs k, Rel W refs ρ σ Hs H ∧ wpT G i ρ k ∧ ∀ b ρ' Hs' H', Step W refs ρ σ Hs H ρ' σ Hs' H' → k b ρ' → Q b H'
def tA (as : IEs) : TA := fun σ H Q => ∃ ρ Hs k, Rel W refs ρ σ Hs H ∧ wpA G as ρ k ∧ ∀ rs ρ' vs Hs' H', Step W refs ρ σ Hs H ρ' σ Hs' H' → ResOks W ρ' σ Hs' H' rs vs → NewTs H rs vs → k rs ρ' → Q vs H'
def tG (t : ITg) : TG := fun v σ H Q => ∃ r ρ Hs k ρ0 σ0 Hs0 H0, Step W refs ρ0 σ0 Hs0 H0 ρ σ Hs H ∧ ResOk W ρ σ Hs H r v ∧ NewT H0 r v ∧ wpG G t r ρ k ∧ ∀ ρ' σ' Hs' H', Step W refs ρ0 σ0 Hs0 H0 ρ' σ' Hs' H' → Same Hs Hs' → (σ'.length = σ.length ∧ ∀ j : Nat, j ∉ tgs t → σ'[j]? = σ[j]?) → k ρ' → Q σ' H'
def tGs (ts : ITgs) : TGs := fun vs σ H Q => ∃ ds ρ Hs k ρ0 σ0 Hs0 H0, Step W refs ρ0 σ0 Hs0 H0 ρ σ Hs H ∧ Dens W Hs vs ds ∧ wpGs G ts ds ρ k ∧ ∀ ρ' σ' Hs' H', Step W refs ρ0 σ0 Hs0 H0 ρ' σ' Hs' H' → Same Hs Hs' → (σ'.length = σ.length ∧ ∀ j : Nat, j ∉ tgss ts → σ'[j]? = σ[j]?) → k ρ' → Q σ' H'
end
section
variable {G : Genv} {W : Wd} {refs : List Addr} {ρ ρ' ρ0 : Rho} {σ σ' σ0 : L2.St} {Hs Hs' Hs0 H H' H0 : Hp}

theorem PE_weak {X : Cx} {e : Expr} {t t' : TE} (h : PE X e t) (w : ∀ σ H Q, t' σ H Q → t σ H Q) : PE X e t' := ⟨fun pins s σ H Q I q => h.run pins s σ H Q I (w σ H Q q)⟩
theorem PT_weak {X : Cx} {e : Expr} {t t' : TT} (h : PT X e t) (w : ∀ σ H Q, t' σ H Q → t σ H Q) : PT X e t' := ⟨fun pins s σ H Q I q => h.run pins s σ H Q I (w σ H Q q)⟩
theorem PW_weak {X : Cx} {e : Expr} {t t' : TT} (h : PW X e t) (w : ∀ σ H Q, t' σ H Q → t σ H Q) : PW X e t' := ⟨fun wh pins s σ H Q I q => h.run wh pins s σ H Q I (w σ H Q q)⟩
theorem PA_weak {X : Cx} {e : List Expr} {t t' : TA} (h : PA X e t) (w : ∀ σ H Q, t' σ H Q → t σ H Q) : PA X e t' := ⟨fun pos pins s σ H Q I q => h.run pos pins s σ H Q I (w σ H Q q)⟩
theorem PG_weak {X : Cx} {e : Expr} {t t' : TG} (h : PG X e t) (w : ∀ v σ H Q, t' v σ H Q → t v σ H Q) : PG X e t' := ⟨fun pins s σ H v u Q I r q => h.run pins s σ H v u Q I r (w v σ H Q q)⟩
theorem PGs_weak {X : Cx} {e : List Expr} {t t' : TGs} (h : PGs X e t) (w : ∀ v σ H Q, t' v σ H Q → t v σ H Q) : PGs X e t' := ⟨fun pins s σ H v u Q I r q => h.run pins s σ H v u Q I r (w v σ H Q q)⟩
theorem PS_weak {X : Cx} {e : Stmt} {t t' : TS} (h : PS X e t) (w : ∀ D σ H, t' D σ H → t D σ H) : PS X e t' := ⟨fun pins s σ H D I q => h.run pins s σ H D I (w D σ H q)⟩
theorem PSs_weak {X : Cx} {e : List Stmt} {t t' : TS} (h : PSs X e t) (w : ∀ D σ H, t' D σ H → t D σ H) : PSs X e t' := ⟨fun pins s σ H D I q => h.run pins s σ H D I (w D σ H q)⟩
/-- what is never asked -/
theorem pe_no {X : Cx} {e : Expr} {t : TE} (w : ∀ σ H Q, ¬ t σ H Q) : PE X e t := ⟨fun _ _ _ _ _ _ q => (w _ _ _ q).elim⟩

/-- an expression begins at a later state -/
theorem tE_at {i : IE} {k : Res → Rho → Prop} {Q : VK} (S : Step W refs ρ0 σ0 Hs0 H0 ρ σ Hs H) (h : wpE G i ρ k)
    (q : ∀ r ρ' v Hs' H', Step W refs ρ σ Hs H ρ' σ Hs' H' → Step W refs ρ0 σ0 Hs0 H0 ρ' σ Hs' H' → ResOk W ρ' σ Hs' H' r v → NewT H r v → NewT H0 r v → k r ρ' → Q v H') : tE G W refs i σ H Q :=
  ⟨ρ, Hs, k, S.rel, h, fun r ρ' v Hs' H' S' O N kk => q r ρ' v Hs' H' S' (S.trans S') O N (N.back S.live) kk⟩
theorem tT_at {i : IC} {k : Bool → Rho → Prop} {Q : Bool → Hp → Prop} (S : Step W refs ρ0 σ0 Hs0 H0 ρ σ Hs H) (h : wpT G i ρ k)
    (q : ∀ b ρ' Hs' H', Step W refs ρ0 σ0 Hs0 H0 ρ' σ Hs' H' → k b ρ' → Q b H') : tT G W refs i σ H Q :=
  ⟨ρ, Hs, k, S.rel, h, fun b ρ' Hs' H' S' kk => q b ρ' Hs' H' (S.trans S') kk⟩
theorem tA_at {as : IEs} {k : List Res → Rho → Prop} {Q : List V → Hp → Prop} (S : Step W refs ρ0 σ0 Hs0 H0 ρ σ Hs H) (h : wpA G as ρ k)
    (q : ∀ rs ρ' vs Hs' H', Step W refs ρ σ Hs H ρ' σ Hs' H' → Step W refs ρ0 σ0 Hs0 H0 ρ' σ Hs' H' → ResOks W ρ' σ Hs' H' rs vs → NewTs H rs vs → NewTs H0 rs vs → k rs ρ' → Q vs H') : tA G W refs as σ H Q :=
  ⟨ρ, Hs, k, S.rel, h, fun rs ρ' vs Hs' H' S' O N kk => q rs ρ' vs Hs' H' S' (S.trans S') O N (N.back S.live) kk⟩

/-! ### names, constants -/
theorem w_var {i : Nat} {Q : VK} (h : tE G W refs (.var i) σ H Q) : tVar i σ H Q := by
  obtain ⟨ρ, Hs, k, R, ⟨⟨d, hd⟩, hk⟩, P⟩ := h
  have go : ∀ v, σ[i]? = some (some v) → tVar i σ H Q := fun v hv => ⟨v, hv, P (.loc i) ρ v Hs H (Step.refl R) hv trivial hk⟩
  cases q : ρ[i]? with
  | none => rw [q] at hd; cases hd
  | some s =>
    cases s with
    | no => rw [q] at hd; cases hd
    | val d => obtain ⟨v, hv, _⟩ := R.val i d q; exact go v hv
    | own t d => obtain ⟨a, hv, _⟩ := R.own i t d q; exact go _ hv
theorem w_cst {d : DV} {v : V} {Q : VK} (hv : ∀ Hs, flat d = true → Den W Hs v d) (h : tE G W refs (.cst d) σ H Q) : tC v σ H Q := by
  obtain ⟨ρ, Hs, k, R, ⟨hd, hk⟩, P⟩ := h
  exact P (.val d) ρ v Hs H (Step.refl R) (hv Hs hd) trivial hk

/-! ### primitives of one, two values -/
theorem prim1_w {p : Prim} {a : IE} {r : V → Hp → VK → Prop} {Q : VK} (pi : ∀ (Hs H : Hp) (x : V) (d : DV) (k : PR → Prop) (Q : VK), Same Hs H → Sh W Hs H x d → evalP p [d] k → PPost W Hs H k Q → r x H Q)
    (h : tE G W refs (.prim p (.cons a .nil)) σ H Q) : tE G W refs a σ H fun x H1 => r x H1 Q := by
  obtain ⟨ρ, Hs, k, R, h, P⟩ := h
  have h : wpE G a ρ fun r ρ1 => ∃ ds, conts ρ1 [r] = some ds ∧ evalP p ds fun pr => k (ofPR pr) ρ1 := h
  refine tE_at (Step.refl R) h fun r1 ρ1 v1 Hs1 H1 S1 _ O1 N1 _ ⟨ds, c, e⟩ => ?_
  unfold conts at c
  split at c
  · rename_i d ds' c1 c2
    cases c2
    cases c
    exact pi Hs1 H1 v1 d _ Q S1.rel.sub (O1.sh S1.rel c1) e (ppost S1 P)
  · cases c
theorem prim2_w {p : Prim} {a b : IE} {r : R2} {Q : VK} (pi : PI2 W p r) (h : tE G W refs (.prim p (.cons a (.cons b .nil))) σ H Q) : tOp r (tE G W refs a) (tE G W refs b) σ H Q := by
  obtain ⟨ρ, Hs, k, R, h, P⟩ := h
  have h : wpE G a ρ fun r ρ1 => wpE G b ρ1 fun r' ρ2 => ∃ ds, conts ρ2 [r, r'] = some ds ∧ evalP p ds fun pr => k (ofPR pr) ρ2 := h
  refine tE_at (Step.refl R) h fun r1 ρ1 v1 Hs1 H1 S1 _ O1 N1 _ h1 => ?_
  refine tE_at S1 h1 fun r2 ρ2 v2 Hs2 H2 S2 S02 O2 N2 _ ⟨ds, c, e⟩ => ?_
  unfold conts at c
  split at c
  · rename_i d ds' c1 c2
    unfold conts at c2
    split at c2
    · rename_i d2 ds2 c3 c4
      cases c4
      cases c2
      cases c
      exact pi Hs2 H2 v1 v2 d d2 _ Q S2.rel.sub ((O1.step S2).sh S2.rel c1) (O2.sh S2.rel c3) e (ppost S02 P)
    · cases c2
  · cases c
/-- a comparison gives a bool -/
def IsCmp (p : Prim) : Prop := ∀ (d e : DV) (k : PR → Prop), evalP p [d, e] k → evalP p [d, e] fun pr => (∃ b, pr = .it (.bl b)) ∧ k pr
theorem prim2_tw {p : Prim} {a b : IE} {r : R2} {Q : Bool → Hp → Prop} (pi : PI2 W p r) (ic : IsCmp p)
    (h : tT G W refs (.val (.prim p (.cons a (.cons b .nil)))) σ H Q) : tTest (tOp r (tE G W refs a) (tE G W refs b)) σ H Q := by
  obtain ⟨ρ, Hs, k, R, h, P⟩ := h
  have h : wpE G a ρ fun r ρ1 => wpE G b ρ1 fun r' ρ2 => ∃ ds, conts ρ2 [r, r'] = some ds ∧ evalP p ds fun pr => ∃ d b, cont ρ2 (ofPR pr) = some d ∧ truth d = some b ∧ k b ρ2 := h
  show tOp r (tE G W refs a) (tE G W refs b) σ H _
  refine tE_at (Step.refl R) h fun r1 ρ1 v1 Hs1 H1 S1 _ O1 N1 _ h1 => ?_
  refine tE_at S1 h1 fun r2 ρ2 v2 Hs2 H2 S2 S02 O2 N2 _ ⟨ds, c, e⟩ => ?_
  unfold conts at c
  split at c
  · rename_i d ds' c1 c2
    unfold conts at c2
    split at c2
    · rename_i d2 ds2 c3 c4
      cases c4
      cases c2
      cases c
      refine pi Hs2 H2 v1 v2 d d2 _ _ S2.rel.sub ((O1.step S2).sh S2.rel c1) (O2.sh S2.rel c3) (ic d d2 _ e) fun pr v' Hs' H' ps ok hk => ?_
      obtain ⟨⟨b, rfl⟩, d', b', e1, e2, kk⟩ := hk
      cases e1
      cases e2
      cases (show Den W Hs' v' (.bl b) from ok)
      exact ⟨b, rfl, P b ρ2 Hs' H' (S02.trans (ps.step S02.rel)) kk⟩
    · cases c2
  · cases c

theorem prim1_tw {p : Prim} {a : IE} {r : V → Hp → VK → Prop} {Q : Bool → Hp → Prop} (pi : ∀ (Hs H : Hp) (x : V) (d : DV) (k : PR → Prop) (Q : VK), Same Hs H → Sh W Hs H x d → evalP p [d] k → PPost W Hs H k Q → r x H Q)
    (ic : ∀ (d : DV) (k : PR → Prop), evalP p [d] k → evalP p [d] fun pr => (∃ b, pr = .it (.bl b)) ∧ k pr)
    (h : tT G W refs (.val (.prim p (.cons a .nil))) σ H Q) : tE G W refs a σ H fun x H1 => r x H1 fun x H1 => ∃ c, x = .bl c ∧ Q c H1 := by
  obtain ⟨ρ, Hs, k, R, h, P⟩ := h
  have h : wpE G a ρ fun r ρ1 => ∃ ds, conts ρ1 [r] = some ds ∧ evalP p ds fun pr => ∃ d b, cont ρ1 (ofPR pr) = some d ∧ truth d = some b ∧ k b ρ1 := h
  refine tE_at (Step.refl R) h fun r1 ρ1 v1 Hs1 H1 S1 _ O1 N1 _ ⟨ds, c, e⟩ => ?_
  unfold conts at c
  split at c
  · rename_i d ds' c1 c2
    cases c2
    cases c
    refine pi Hs1 H1 v1 d _ _ S1.rel.sub (O1.sh S1.rel c1) (ic d _ e) fun pr v' Hs' H' ps ok hk => ?_
    obtain ⟨⟨b, rfl⟩, d', b', e1, e2, kk⟩ := hk
    cases e1
    cases e2
    cases (show Den W Hs' v' (.bl b) from ok)
    exact ⟨b, rfl, P b ρ1 Hs' H' (S1.trans (ps.step S1.rel)) kk⟩
  · cases c

/-! ### displays -/
theorem w_tup {as : IEs} {Q : VK} (h : tE G W refs (.tup as) σ H Q) : tTup (tA G W refs as) σ H Q := by
  obtain ⟨ρ, Hs, k, R, h, P⟩ := h
  have h : wpA G as ρ fun rs ρ1 => capL rs ρ1 fun ds ρ2 => ds.length ≤ sizeLine ∧ k (.val (.tup ds)) ρ2 := h
  refine tA_at (Step.refl R) h fun rs ρ1 vs Hs1 H1 S1 _ O1 N1 _ hc => ?_
  obtain ⟨ds, ρ2, Hs2, S2, D, ⟨hz, hk⟩, _⟩ := capL_ok S1 O1 N1 hc
  refine ⟨by rw [D.length]; exact hz, fun p hp => ?_⟩
  have ps := PStep.newB S2.rel.sub hp (.tup vs)
  exact P (.val (.tup ds)) ρ2 _ _ _ (S2.trans (ps.step S2.rel)) (.tup (SqT.of upd_same) (D.up ps.ex)) trivial hk
theorem w_lst {as : IEs} {Q : VK} (h : tE G W refs (.lst as) σ H Q) : tLst (tA G W refs as) σ H Q := by
  obtain ⟨ρ, Hs, k, R, h, P⟩ := h
  have h : wpA G as ρ fun rs ρ1 => capL rs ρ1 fun ds ρ2 => ds.length ≤ sizeLine ∧ k (.tmp (.lst ds)) ρ2 := h
  refine tA_at (Step.refl R) h fun rs ρ1 vs Hs1 H1 S1 _ O1 N1 _ hc => ?_
  obtain ⟨ds, ρ2, Hs2, S2, D, ⟨hz, hk⟩, _⟩ := capL_ok S1 O1 N1 hc
  refine ⟨by rw [D.length]; exact hz, fun p hp => ?_⟩
  exact ppost S2 P (.nw (.lst ds)) (.ref p) Hs2 _ (PStep.newH S2.rel.sub hp _) ⟨p, rfl, hp, none_sub S2.rel.sub hp, vs, upd_same, D⟩ hk
theorem w_anil {Q : List V → Hp → Prop} (h : tA G W refs .nil σ H Q) : tNil σ H Q := by
  obtain ⟨ρ, Hs, k, R, h, P⟩ := h
  exact P [] ρ [] Hs H (Step.refl R) .nil .nil h
theorem w_acons {e : IE} {es : IEs} {Q : List V → Hp → Prop} (h : tA G W refs (.cons e es) σ H Q) : tCons (tE G W refs e) (tA G W refs es) σ H Q := by
  obtain ⟨ρ, Hs, k, R, h, P⟩ := h
  have h : wpE G e ρ fun r ρ1 => wpA G es ρ1 fun rs ρ2 => k (r :: rs) ρ2 := h
  refine tE_at (Step.refl R) h fun r1 ρ1 v1 Hs1 H1 S1 _ O1 N1 _ h1 => ?_
  refine tA_at S1 h1 fun rs ρ2 vs Hs2 H2 S2 S02 O2 N2 N02 hk => ?_
  exact P (r1 :: rs) ρ2 (v1 :: vs) Hs2 H2 S02 (.cons (O1.step S2) O2) (.cons N1 (apart_of O1 N2) N02) hk

/-! ### and, or, not, if -/
theorem w_ife {c : IC} {a b : IE} {Q : VK} (h : tE G W refs (.ife c a b) σ H Q) : tIf (tT G W refs c) (tE G W refs a) (tE G W refs b) σ H Q := by
  obtain ⟨ρ, Hs, k, R, h, P⟩ := h
  have h : wpT G c ρ fun t ρ1 => branch t (wpE G a ρ1 k) (wpE G b ρ1 k) := h
  refine tT_at (Step.refl R) h fun t ρ1 Hs1 H1 S1 hb => ?_
  cases t with
  | true => exact tE_at S1 (hb.1 rfl) fun r ρ2 v Hs2 H2 _ S02 O _ N hk => P r ρ2 v Hs2 H2 S02 O N hk
  | false => exact tE_at S1 (hb.2 rfl) fun r ρ2 v Hs2 H2 _ S02 O _ N hk => P r ρ2 v Hs2 H2 S02 O N hk
theorem sh_bl {v : V} {b : Bool} (h : Sh W Hs H v (.bl b)) : v = .bl b := h
theorem w_and {a b : IE} {Q : VK} (h : tE G W refs (.and2 a b) σ H Q) : tAndV (tE G W refs a) (tE G W refs b) σ H Q := by
  obtain ⟨ρ, Hs, k, R, h, P⟩ := h
  have h : wpE G a ρ fun r ρ1 => ∃ c, cont ρ1 r = some (.bl c) ∧ branch c (wpE G b ρ1 k) (k (.val (.bl false)) ρ1) := h
  refine tE_at (Step.refl R) h fun r1 ρ1 v1 Hs1 H1 S1 _ O1 N1 _ ⟨c, hc, hb⟩ => ?_
  refine ⟨c, sh_bl (O1.sh S1.rel hc), ?_⟩
  cases c with
  | true => exact iteT (tE_at S1 (hb.1 rfl) fun r ρ2 v Hs2 H2 _ S02 O _ N hk => P r ρ2 v Hs2 H2 S02 O N hk)
  | false => exact iteF (P (.val (.bl false)) ρ1 _ Hs1 H1 S1 (.bl false) trivial (hb.2 rfl))
theorem w_or {a b : IE} {Q : VK} (h : tE G W refs (.or2 a b) σ H Q) : tOrV (tE G W refs a) (tE G W refs b) σ H Q := by
  obtain ⟨ρ, Hs, k, R, h, P⟩ := h
  have h : wpE G a ρ fun r ρ1 => ∃ c, cont ρ1 r = some (.bl c) ∧ branch c (k (.val (.bl true)) ρ1) (wpE G b ρ1 k) := h
  refine tE_at (Step.refl R) h fun r1 ρ1 v1 Hs1 H1 S1 _ O1 N1 _ ⟨c, hc, hb⟩ => ?_
  refine ⟨c, sh_bl (O1.sh S1.rel hc), ?_⟩
  cases c with
  | true => exact iteT (P (.val (.bl true)) ρ1 _ Hs1 H1 S1 (.bl true) trivial (hb.1 rfl))
  | false => exact iteF (tE_at S1 (hb.2 rfl) fun r ρ2 v Hs2 H2 _ S02 O _ N hk => P r ρ2 v Hs2 H2 S02 O N hk)
theorem w_not {a : IE} {Q : VK} (h : tE G W refs (.not1 a) σ H Q) : tNotV (tE G W refs a) σ H Q := by
  obtain ⟨ρ, Hs, k, R, h, P⟩ := h
  have h : wpE G a ρ fun r ρ1 => ∃ c, cont ρ1 r = some (.bl c) ∧ k (.val (.bl (!c))) ρ1 := h
  refine tE_at (Step.refl R) h fun r1 ρ1 v1 Hs1 H1 S1 _ O1 N1 _ ⟨c, hc, hb⟩ => ?_
  exact ⟨c, sh_bl (O1.sh S1.rel hc), P (.val (.bl (!c))) ρ1 _ Hs1 H1 S1 (.bl _) trivial hb⟩
theorem wt_and {a b : IC} {Q : Bool → Hp → Prop} (h : tT G W refs (.and2 a b) σ H Q) : tAnd (tT G W refs a) (tT G W refs b) σ H Q := by
  obtain ⟨ρ, Hs, k, R, h, P⟩ := h
  have h : wpT G a ρ fun c ρ1 => branch c (wpT G b ρ1 k) (k false ρ1) := h
  refine tT_at (Step.refl R) h fun t ρ1 Hs1 H1 S1 hb => ?_
  cases t with
  | true => exact iteT (tT_at S1 (hb.1 rfl) fun b ρ2 Hs2 H2 S02 hk => P b ρ2 Hs2 H2 S02 hk)
  | false => exact iteF (P false ρ1 Hs1 H1 S1 (hb.2 rfl))
theorem wt_or {a b : IC} {Q : Bool → Hp → Prop} (h : tT G W refs (.or2 a b) σ H Q) : tOr (tT G W refs a) (tT G W refs b) σ H Q := by
  obtain ⟨ρ, Hs, k, R, h, P⟩ := h
  have h : wpT G a ρ fun c ρ1 => branch c (k true ρ1) (wpT G b ρ1 k) := h
  refine tT_at (Step.refl R) h fun t ρ1 Hs1 H1 S1 hb => ?_
  cases t with
  | true => exact iteT (P true ρ1 Hs1 H1 S1 (hb.1 rfl))
  | false => exact iteF (tT_at S1 (hb.2 rfl) fun b ρ2 Hs2 H2 S02 hk => P b ρ2 Hs2 H2 S02 hk)
theorem wt_not {a : IC} {Q : Bool → Hp → Prop} (h : tT G W refs (.not1 a) σ H Q) : tNot (tT G W refs a) σ H Q := by
  obtain ⟨ρ, Hs, k, R, h, P⟩ := h
  have h : wpT G a ρ fun c ρ1 => k (!c) ρ1 := h
  exact tT_at (Step.refl R) h fun t ρ1 Hs1 H1 S1 hb => P (!t) ρ1 Hs1 H1 S1 hb
/-- a test by its value's truth -/
theorem wt_val {a : IE} {Q : Bool → Hp → Prop} (h : tT G W refs (.val a) σ H Q) :
    tE G W refs a σ H fun x H' => ∃ k, TruV W.K x H' k ∧ Q k H' := by
  obtain ⟨ρ, Hs, k, R, h, P⟩ := h
  have h : wpE G a ρ fun r ρ1 => ∃ d b, cont ρ1 r = some d ∧ truth d = some b ∧ k b ρ1 := h
  refine tE_at (Step.refl R) h fun r1 ρ1 v1 Hs1 H1 S1 _ O1 N1 _ ⟨d, b, hc, ht, hk⟩ => ?_
  exact ⟨b, sh_truth S1.rel.sub (O1.sh S1.rel hc) ht, P b ρ1 Hs1 H1 S1 hk⟩

/-! ### chains -/
theorem w_chain {p q : Prim} {a b c : IE} {r r' : R2} {Q : VK} (pi : PI2 W p r) (pi' : PI2 W q r') (h : tE G W refs (.chain p q a b c) σ H Q) : tChain r r' (tE G W refs a) (tE G W refs b) (tE G W refs c) σ H Q := by
  obtain ⟨ρ, Hs, k, R, h, P⟩ := h
  have h : wpE G a ρ fun r1 ρ1 => wpE G b ρ1 fun r2 ρ2 => ∃ d e, cont ρ2 r1 = some d ∧ cont ρ2 r2 = some e ∧ evalP p [d, e] fun pr =>
      ∃ t, pr = .it (.bl t) ∧ branch t (wpE G c ρ2 fun r3 ρ3 => ∃ d' f, cont ρ3 r2 = some d' ∧ cont ρ3 r3 = some f ∧ evalP q [d', f] fun pr' => k (ofPR pr') ρ3) (k (.val (.bl false)) ρ2) := h
  refine tE_at (Step.refl R) h fun r1 ρ1 v1 Hs1 H1 S1 _ O1 N1 _ h1 => ?_
  refine tE_at S1 h1 fun r2 ρ2 v2 Hs2 H2 S2 S02 O2 N2 _ ⟨d, e, c1, c2, h2⟩ => ?_
  refine pi Hs2 H2 v1 v2 d e _ _ S2.rel.sub ((O1.step S2).sh S2.rel c1) (O2.sh S2.rel c2) h2 fun pr v' Hs' H' ps ok ⟨t, et, hb⟩ => ?_
  subst et
  cases (show Den W Hs' v' (.bl t) from ok)
  have S3 := ps.step S2.rel
  refine ⟨t, rfl, ?_⟩
  cases t with
  | true =>
    refine iteT (tE_at (S02.trans S3) (hb.1 rfl) fun r3 ρ3 v3 Hs3 H3 S4 S04 O3 N3 _ ⟨d', f, c3, c4, h3⟩ => ?_)
    exact pi' Hs3 H3 v2 v3 d' f _ Q S4.rel.sub (((O2.step S3).step S4).sh S4.rel c3) (O3.sh S4.rel c4) h3 (ppost S04 P)
  | false => exact iteF (P (.val (.bl false)) ρ2 _ Hs' H' (S02.trans S3) (.bl false) trivial (hb.2 rfl))

/-! ### slices, calls -/
def tO (G : Genv) (W : Wd) (refs : List Addr) (i : IO) : TO := fun σ H Q => ∃ ρ Hs k, Rel W refs ρ σ Hs H ∧ wpO G i ρ k ∧ ∀ o ρ' Hs' H', Step W refs ρ σ Hs H ρ' σ Hs' H' → k o ρ' → Q o H'
theorem w_no {Q : Option Int → Hp → Prop} (h : tO G W refs .no σ H Q) : tNoPart σ H Q := by
  obtain ⟨ρ, Hs, k, R, h, P⟩ := h
  exact P none ρ Hs H (Step.refl R) h
theorem w_so {e : IE} {Q : Option Int → Hp → Prop} (h : tO G W refs (.so e) σ H Q) : tPart (tE G W refs e) σ H Q := by
  obtain ⟨ρ, Hs, k, R, h, P⟩ := h
  have h : wpE G e ρ fun r ρ1 => ∃ i, cont ρ1 r = some (.int i) ∧ k (some i) ρ1 := h
  refine tE_at (Step.refl R) h fun r1 ρ1 v1 Hs1 H1 S1 _ O1 N1 _ ⟨i, hc, hk⟩ => ?_
  exact ⟨i, O1.sh S1.rel hc, P (some i) ρ1 Hs1 H1 S1 hk⟩
theorem w_slc {e : IE} {lo hi : IO} {Q : VK} (h : tE G W refs (.slc e lo hi) σ H Q) : tSl (rSlAll W.K) (tE G W refs e) (tO G W refs lo) (tO G W refs hi) σ H Q := by
  obtain ⟨ρ, Hs, k, R, h, P⟩ := h
  have h : wpE G e ρ fun r ρ1 => wpO G lo ρ1 fun l ρ2 => wpO G hi ρ2 fun h ρ3 => ∃ d, cont ρ3 r = some d ∧ evalSl d l h fun pr => k (ofPR pr) ρ3 := h
  refine tE_at (Step.refl R) h fun r1 ρ1 v1 Hs1 H1 S1 _ O1 N1 _ h1 => ?_
  refine ⟨ρ1, Hs1, _, S1.rel, h1, fun l ρ2 Hs2 H2 S2 h2 => ?_⟩
  refine ⟨ρ2, Hs2, _, S2.rel, h2, fun u ρ3 Hs3 H3 S3 ⟨d, hc, h3⟩ => ?_⟩
  exact pi_sl S3.rel.sub (((O1.step S2).step S3).sh S3.rel hc) h3 (ppost ((S1.trans S2).trans S3) P)
theorem w_call {f : Str} {as : IEs} {fi : FI} {Q : VK} (hf : G.fns f = some fi) (h : tE G W refs (.call f as) σ H Q) : tCall (spOf W fi) [] E0 (tA G W refs as) σ H Q := by
  obtain ⟨ρ, Hs, k, R, ⟨fi', e, h⟩, P⟩ := h
  rw [hf] at e; cases e
  refine tA_at (Step.refl R) h fun rs ρ1 vs Hs1 H1 S1 _ O1 N1 _ hc => ?_
  rw [List.append_nil]
  exact callW_ok S1 O1 N1 hc P
theorem dens_look {f : Str} {Hs1 : Hp} : ∀ {ns : List Str} {vs : List V} {ds : List DV} {d : DV}, Dens W Hs1 vs ds → ns.length = vs.length → (ns.zip ds).lookup f = some d → ∃ v, (ns.zip vs).lookup f = some v ∧ Den W Hs1 v d := by
  intro ns
  induction ns with
  | nil => intro vs ds d _ _ q; cases q
  | cons n ns ih =>
    intro vs ds d D hn q
    cases D with
    | nil => cases q
    | @cons v vs d' ds h1 h2 =>
      rw [List.zip_cons_cons, List.lookup_cons] at q ⊢
      cases hb : f == n with
      | true => rw [hb] at q; cases q; exact ⟨v, rfl, h1⟩
      | false =>
        rw [hb] at q
        exact ih h2 (by simpa using hn) q
theorem zip_none {m : Str} : ∀ {ns : List Str} {vs : List V}, (∀ x, x ∈ ns → ¬ m = x) → (ns.zip vs).lookup m = none
  | [], _, _ => rfl
  | _ :: _, [], _ => rfl
  | n :: ns, v :: vs, h => by
    rw [List.zip_cons_cons, List.lookup_cons]
    have e : (m == n) = false := by
      have := h n List.mem_cons_self
      exact beq_eq_false_iff_ne.mpr this
    rw [e]
    exact zip_none fun x hx => h x (List.mem_cons_of_mem _ hx)
/-- an attribute: held, or a property -/
def tAttr (G : Genv) (W : Wd) (te : TE) (f : Str) : TE := fun σ H Q => te σ H fun x H1 => ∃ a C c dx fs, x = .ref a ∧ W.cls c = some C ∧ H1 a = some (.ins C dx fs) ∧
  ((G.isFld c f = true ∧ ∃ v, fs.lookup f = some v ∧ Q v H1) ∨ ∃ fi, G.prop c f = some fi ∧ spOf W fi [.ref a] H1 Q E0)
theorem w_fld {e : IE} {f : Str} {Q : VK} (h : tE G W refs (.fld e f) σ H Q) : tAttr G W (tE G W refs e) f σ H Q := by
  obtain ⟨ρ, Hs, k, R, h, P⟩ := h
  have h : wpE G e ρ fun r ρ1 => ∃ c ns ds, cont ρ1 r = some (.obj c ns ds) ∧
      ((G.isFld c f = true ∧ ∃ d, (ns.zip ds).lookup f = some d ∧ k (.val d) ρ1) ∨ ∃ fi, G.prop c f = some fi ∧ callW fi [r] ρ1 k) := h
  refine tE_at (Step.refl R) h fun r1 ρ1 v1 Hs1 H1 S1 _ O1 N1 _ ⟨c, ns, ds, hc, hk⟩ => ?_
  obtain ⟨a, C, dx, vs, rfl, hC, hH, hn, hD⟩ := O1.sh S1.rel hc
  refine ⟨a, C, c, dx, _, rfl, hC, hH, ?_⟩
  rcases hk with ⟨hf, d, hl, hk⟩ | ⟨fi, hf, hw⟩
  · obtain ⟨v, hv, hD'⟩ := dens_look hD hn hl
    exact .inl ⟨hf, v, hv, P (.val d) ρ1 v Hs1 H1 S1 hD' trivial hk⟩
  · exact .inr ⟨fi, hf, callW_ok S1 (.cons O1 .nil) (.cons N1 (by cases r1 <;> trivial) .nil) hw P⟩
theorem w_meth {c : Str} {C : Addr} {e : IE} {m : Str} {as : IEs} {fi : FI} {Q : VK} (hC : W.cls c = some C) (hf : G.meth c m = some fi) (h : tE G W refs (.meth c e m as) σ H Q) :
    tMeth C m (spOf W fi) [] E0 (tE G W refs e) (tA G W refs as) σ H Q := by
  obtain ⟨ρ, Hs, k, R, ⟨fi', e1, h⟩, P⟩ := h
  rw [hf] at e1; cases e1
  have h : wpE G e ρ fun r ρ1 => ∃ ns ds, cont ρ1 r = some (.obj c ns ds) ∧ (∀ x, x ∈ ns → ¬ m = x) ∧ wpA G as ρ1 fun rs ρ2 => callW fi (r :: rs) ρ2 k := h
  refine tE_at (Step.refl R) h fun r1 ρ1 v1 Hs1 H1 S1 _ O1 N1 _ ⟨ns, ds, hc, hl, hk⟩ => ?_
  obtain ⟨a, C', dx, vs, rfl, hC', hH, hn, hD⟩ := O1.sh S1.rel hc
  rw [hC] at hC'; cases hC'
  refine ⟨a, dx, _, rfl, hH, zip_none hl, ?_⟩
  refine tA_at S1 hk fun rs ρ2 vs Hs2 H2 S2 S02 O2 N2 N02 hw => ?_
  rw [List.append_nil]
  exact callW_ok S02 (.cons (O1.step S2) O2) (.cons N1 (apart_of O1 N2) N02) hw P
theorem make_core {c : Str} {C : Addr} {fi : FI} {Q : VK} {rs : List Res} {vs : List V} {ρ1 : Rho} {Hs1 H1 : Hp} {k : Res → Rho → Prop} (hC : W.cls c = some C) (hm : ∃ ms, fi.modes = true :: ms) (S1 : Step W refs ρ σ Hs H ρ1 σ Hs1 H1) (O1 : ResOks W ρ1 σ Hs1 H1 rs vs) (N1 : NewTs H rs vs)
    (hc : callX fi (.tmp (.obj c [] []) :: rs) ρ1 fun _ d outs ρ2 => d = .non ∧ ∃ d0 os, outs = d0 :: os ∧ k (.tmp d0) ρ2) (P : Post W refs ρ σ Hs H k Q) :
    ∀ x dx, H1 x = none → H1 dx = none → dx ≠ x → spOf W fi (.ref x :: vs) (upd (upd H1 dx (.own x)) x (.ins C dx [])) (fun v H2 => v = .non ∧ Q (.ref x) H2) E0 := by
  intro x dx hx hdx hne
  have p1 := PStep.newH S1.rel.sub hdx (.own x)
  have hx' : upd H1 dx (.own x) x = none := by rw [upd_ne hne.symm]; exact hx
  have S2 := S1.trans (p1.step S1.rel)
  have p2 := PStep.newH S2.rel.sub hx' (.ins C dx [])
  have S3 := S2.trans (p2.step S2.rel)
  have no : ¬ IsOwn ρ1 σ x := fun z => by
    obtain ⟨_, o, ho⟩ := S1.rel.ownAt z
    rw [hx] at ho; cases ho
  have Ox : ResOk W ρ1 σ Hs1 (upd (upd H1 dx (.own x)) x (.ins C dx [])) (.tmp (.obj c [] [])) (.ref x) := ⟨x, rfl, none_sub S1.rel.sub hx, no, C, dx, [], hC, upd_same, rfl, .nil⟩
  have O3 := (O1.step (p1.step S1.rel)).step (p2.step S2.rel)
  have apx : ∀ {rs : List Res} {vs : List V}, ResOks W ρ1 σ Hs1 H1 rs vs → ApartT (.ref x) rs vs := by
    intro rs vs O
    induction O with
    | nil => trivial
    | @cons r v rs vs o _ ih =>
      cases r with
      | tmp d =>
        obtain ⟨a, rfl, _, _, ow⟩ := o
        obtain ⟨u, hu⟩ := ow.there
        refine ⟨fun z => ?_, ih⟩
        cases z
        rw [hx] at hu; cases hu
      | val _ => exact ih
      | loc _ => exact ih
  refine callX_ok S3 (.cons Ox O3) (.cons (fun b e => by cases e; exact S1.live x hx) (apx O1) N1) hc fun fr d outs ρx ρ2 v Hs' H' Hs2 ds as S4 O4 N4 Pa Aa Oa io ⟨hd, d0, os, ho, hk⟩ => ?_
  obtain ⟨ms, hms⟩ := hm
  rw [hms] at Pa Aa
  subst hd ho
  cases ds with
  | nil => cases Pa
  | cons d1 ds =>
    cases as with
    | nil => exact Aa.elim
    | cons a as =>
      obtain ⟨e1, n1, o1, _⟩ := Aa
      cases e1
      obtain ⟨⟨n2, o2⟩, _⟩ := (show (Hs' x = none ∧ Own W Hs' H' x d0) ∧ OutsOk W Hs' H' as os from Oa)
      have nox : ¬ IsOwn ρ2 σ x := fun z => by
        cases Pa with
        | byRef Op _ _ _ =>
          obtain ⟨a', e', _, no', _⟩ := Op
          cases e'
          exact no' ((io x).mp z)
      refine ⟨?_, P (.tmp d0) ρ2 _ Hs' H' S4 ⟨x, rfl, n2, nox, o2⟩ (fun b e => by cases e; exact S1.live x hx) hk⟩
      cases fr with
      | true => exact (O4.elim (fun a h => by obtain ⟨_, _, _, z⟩ := h; exact z.elim))
      | false => cases (show Den W Hs' v .non from O4); rfl
theorem w_make {c : Str} {C : Addr} {as : IEs} {fi : FI} {Q : VK} (hC : W.cls c = some C) (hf : G.mak c = some fi) (hm : ∃ ms, fi.modes = true :: ms) (h : tE G W refs (.make c as) σ H Q) :
    tMake C (spOf W fi) [] E0 (tA G W refs as) σ H Q := by
  obtain ⟨ρ, Hs, k, R, ⟨fi', e, h⟩, P⟩ := h
  rw [hf] at e; cases e
  refine tA_at (Step.refl R) h fun rs ρ1 vs Hs1 H1 S1 _ O1 N1 _ hc => ?_
  intro x dx hx hdx hne
  rw [List.append_nil]
  exact make_core hC hm S1 O1 N1 hc P x dx hx hdx hne
end
end EV

set_option maxRecDepth 100000
set_option maxHeartbeats 4000000
/-! EV 8: targets, walks, comprehensions, statements. -/
namespace EV
open PySem L2

section
variable {G : Genv} {W : Wd} {refs : List Addr} {ρ ρ' ρ0 : Rho} {σ σ' σ0 : L2.St} {Hs Hs' Hs0 H H' H0 : Hp}

/-! ### targets -/
theorem w_nm {i : Nat} {v : V} {Q : L2.St → Hp → Prop} (hi : i < σ.length) (h : tG G W refs (.nm i) v σ H Q) : gName i v σ H Q := by
  obtain ⟨r, ρ, Hs, k, ρ0, σ0, Hs0, H0, S, O, N, h, P⟩ := h
  obtain ⟨ρ', Hs', S', e', hk⟩ := bindR_ok S O N hi h
  exact P ρ' _ Hs' H S' e' ⟨List.length_set, fun j hj => by
    have n : i ≠ j := fun z => hj (by subst z; exact List.mem_singleton.mpr rfl)
    exact List.getElem?_set_ne n⟩ hk
theorem w_sub {o i : IE} {v : V} {Q : L2.St → Hp → Prop} (h : tG G W refs (.sub o i) v σ H Q) : gSub (tE G W refs o) (tE G W refs i) rSetL v σ H Q := by
  obtain ⟨r, ρ, Hs, k, ρ0, σ0, Hs0, H0, S, O, N, h, P⟩ := h
  have h : wpE G o ρ fun ro ρ1 => wpE G i ρ1 fun ri ρ2 => cap r ρ2 fun d ρ3 => ∃ l t ds z j, ro = .loc l ∧ ρ3[l]? = some (.own t (.lst ds)) ∧ cont ρ3 ri = some (.int z) ∧ ixN ds.length z = some j ∧ k (ρ3.set l (.own t (.lst (ds.set j d)))) := h
  show tE G W refs o σ H fun o H1 => tE G W refs i σ H1 fun i H2 => rSetL o i v H2 fun H3 => Q σ H3
  refine tE_at S h fun r1 ρ1 v1 Hs1 H1 S1 S01 O1 N1 _ h1 => ?_
  refine tE_at S01 h1 fun r2 ρ2 v2 Hs2 H2 S2 S02 O2 N2 _ h2 => ?_
  obtain ⟨d, ρ3, Hs3, S3, D, ⟨l, t, ds, z, j, el, hl, hz, hj, hk⟩, e3, keep⟩ := cap_ok S02 ((O.step S1).step S2) N h2
  subst el
  have O1' : σ[l]? = some (some v1) := O1
  obtain ⟨a, ea, na, ⟨xs, hx, hd⟩, _⟩ := S3.rel.own l t _ hl
  rw [O1'] at ea; cases ea
  have hi2 : v2 = .int z := by
    cases r2 with
    | val e => cases hz; exact (by cases (show Den W Hs2 v2 (.int z) from O2); rfl)
    | tmp e =>
      cases hz
      obtain ⟨_, _, _, _, o⟩ := O2
      exact o.elim
    | loc i =>
      have O2' : σ[i]? = some (some v2) := O2
      exact (show ResOk W ρ3 σ Hs3 H2 (.loc i) v2 from O2').sh S3.rel hz
  have hlen : xs.length = ds.length := hd.length
  refine ⟨a, xs, z, j, rfl, hi2, hx, by rw [hlen]; exact hj, ?_⟩
  refine P _ σ Hs3 _ (S3.write (d' := .lst (ds.set j d)) hl O1' ⟨xs.set j v, upd_same, Dens.set D j hd⟩ (fun b o hb e => by rw [upd_ne hb]; exact e) fun b e => ?_) ((S1.ex.trans S2.ex).trans e3) ⟨rfl, fun _ _ => rfl⟩ hk
  by_cases hb : b = a
  · subst hb; rw [upd_same] at e; cases e
  · rw [upd_ne hb] at e; exact e
theorem w_tp {ts : ITgs} {v : V} {Q : L2.St → Hp → Prop} (h : tG G W refs (.tp ts) v σ H Q) :
    (∃ a xs, v = .ref a ∧ (SqT W.K H a xs ∨ SqL W.K H a xs) ∧ xs.length = tgN ts ∧ tGs G W refs ts xs σ H Q) := by
  obtain ⟨r, ρ, Hs, k, ρ0, σ0, Hs0, H0, S, O, N, ⟨ds, hd, hn, hk⟩, P⟩ := h
  unfold seqOf at hd
  cases hc : cont ρ r with
  | none => rw [hc] at hd; cases hd
  | some d =>
    rw [hc] at hd
    have sh := O.sh S.rel hc
    cases d with
    | lst es =>
      cases hd
      obtain ⟨a, xs, rfl, hx, hD⟩ := sh
      exact ⟨a, xs, rfl, .inr (SqL.of hx), by rw [hD.length]; exact hn, ds, ρ, Hs, k, ρ0, σ0, Hs0, H0, S, hD, hk, P⟩
    | tup es =>
      cases hd
      obtain ⟨a, xs, rfl, hx, hD⟩ := sh
      exact ⟨a, xs, rfl, .inl (same_t S.rel.sub hx), by rw [hD.length]; exact hn, ds, ρ, Hs, k, ρ0, σ0, Hs0, H0, S, hD, hk, P⟩
    | _ => cases hd
theorem w_gnil {vs : List V} {Q : L2.St → Hp → Prop} (h : tGs G W refs .nil vs σ H Q) : gNil vs σ H Q := by
  obtain ⟨ds, ρ, Hs, k, ρ0, σ0, Hs0, H0, S, D, h, P⟩ := h
  cases D with
  | nil => exact ⟨rfl, P ρ σ Hs H S (Same.refl _) ⟨rfl, fun _ _ => rfl⟩ h⟩
  | cons _ _ => exact h.elim
theorem w_gcons {t : ITg} {ts : ITgs} {vs : List V} {Q : L2.St → Hp → Prop} (h : tGs G W refs (.cons t ts) vs σ H Q) : gCons (tG G W refs t) (tGs G W refs ts) vs σ H Q := by
  obtain ⟨ds, ρ, Hs, k, ρ0, σ0, Hs0, H0, S, D, h, P⟩ := h
  cases D with
  | nil => exact h.elim
  | @cons v vs d ds h1 h2 =>
    have h : wpG G t (.val d) ρ fun ρ1 => wpGs G ts ds ρ1 k := h
    refine ⟨v, vs, rfl, .val d, ρ, Hs, _, ρ0, σ0, Hs0, H0, S, h1, trivial, h, fun ρ1 σ1 Hs1 H1 S1 e1 t1 hk => ?_⟩
    exact ⟨ds, ρ1, Hs1, k, ρ0, σ0, Hs0, H0, S1, h2.up e1, hk, fun ρ' σ' Hs' H' S' e' t2 kk => P ρ' σ' Hs' H' S' (e1.trans e') ⟨t2.1.trans t1.1, fun j hj => by
      have hj' : ¬ (j ∈ tgs t ∨ j ∈ tgss ts) := fun z => hj (List.mem_append.mpr z)
      exact (t2.2 j fun z => hj' (.inr z)).trans (t1.2 j fun z => hj' (.inl z))⟩ kk⟩

/-! ### walks -/
/-- an iterator gives what the value's items are -/
def Feeds (W : Wd) (f : DV → Option (List DV)) (v : V) (J : It) : Prop := ∀ d ds, f d = some ds → ∃ Gd Y, Walk J ds.length Gd Y ∧ (∀ Hs H, Same Hs H → Sh W Hs H v d → Gd H) ∧
  ∀ i Hs H x H', i < ds.length → Same Hs H → Sh W Hs H v d → Y i H x H' → ∃ Hs' d', PStep Hs H Hs' H' ∧ ds[i]? = some d' ∧ Den W Hs' x d'
def tI (G : Genv) (W : Wd) (refs : List Addr) (it : IT) : TI := fun σ H R => ∃ ρ Hs k, Rel W refs ρ σ Hs H ∧ wpI G it ρ k ∧
  ∀ r f ρ1 Hs1 H1 v J, Step W refs ρ σ Hs H ρ1 σ Hs1 H1 → ResOk W ρ1 σ Hs1 H1 r v → NewT H r v → k r f ρ1 → Feeds W f v J → R J H1
theorem feeds_list {a : Addr} : Feeds W lstOf (.ref a) (Itl W.K a) := by
  intro d ds e
  cases d <;> cases e
  refine ⟨fun H => ∃ xs, H a = some (.lst xs) ∧ xs.length = ds.length, fun i H x H' => H' = H ∧ ∀ xs, H a = some (.lst xs) → xs[i]? = some x, ⟨fun i H hi ⟨xs, hx, hl⟩ => ?_, fun H ⟨xs, hx, hl⟩ => ?_, fun i H x H' hi ⟨xs, hx, hl⟩ y => ?_⟩, fun Hs H s ⟨a', xs, e1, hx, hD⟩ => ?_, fun i Hs H x H' hi s ⟨a', xs, e1, hx, hD⟩ ⟨eH, y⟩ => ?_⟩
  · have hi' : i < xs.length := by rw [hl]; exact hi
    exact ⟨xs, xs[i], SqL.of hx, by simp [hi']⟩
  · exact ⟨xs, SqL.of hx, by rw [hl]; exact Nat.le_refl _⟩
  · exact ⟨y.1, fun xs' h' => y.2 xs' (SqL.of h')⟩
  · cases e1; exact ⟨xs, hx, hD.length⟩
  · cases e1
    subst eH
    obtain ⟨d', h1, h2⟩ := hD.getV (y xs hx)
    exact ⟨Hs, d', PStep.refl s, h1, h2⟩
theorem feeds_tup {a : Addr} : Feeds W tupOf (.ref a) (Itt W.K a) := by
  intro d ds e
  cases d <;> cases e
  refine ⟨fun H => ∃ xs, SqT W.K H a xs ∧ xs.length = ds.length, fun i H x H' => H' = H ∧ ∀ xs, SqT W.K H a xs → xs[i]? = some x, ⟨fun i H hi ⟨xs, hx, hl⟩ => ?_, fun H ⟨xs, hx, hl⟩ => ?_, fun i H x H' hi ⟨xs, hx, hl⟩ y => y⟩, fun Hs H s ⟨a', xs, e1, hx, hD⟩ => ?_, fun i Hs H x H' hi s ⟨a', xs, e1, hx, hD⟩ ⟨eH, y⟩ => ?_⟩
  · have hi' : i < xs.length := by rw [hl]; exact hi
    exact ⟨xs, xs[i], hx, by simp [hi']⟩
  · exact ⟨xs, hx, by rw [hl]; exact Nat.le_refl _⟩
  · cases e1; exact ⟨xs, same_t s hx, hD.length⟩
  · cases e1
    subst eH
    obtain ⟨d', h1, h2⟩ := hD.getV (y xs (same_t s hx))
    exact ⟨Hs, d', PStep.refl s, h1, h2⟩
theorem feeds_range {lo : Int} {n : Nat} {v : V} : Feeds W (fun _ => some (rangeD lo n)) v (Itr lo n) := by
  intro d ds e
  cases e
  have hl : (rangeD lo n).length = n := by simp [rangeD]
  rw [hl]
  refine ⟨_, _, walk_range, fun _ _ _ _ => trivial, fun i Hs H x H' hi s _ ⟨eH, ex⟩ => ?_⟩
  subst eH ex
  exact ⟨Hs, .int (lo + i), PStep.refl s, by simp [rangeD, hi], .int _⟩
theorem feeds_str {z : Str} {v : V} : Feeds W (fun _ => some (z.cps.toList.map fun c => .str ⟨#[c]⟩)) v (Its z) := by
  intro d ds e
  cases e
  have hl : (z.cps.toList.map fun c => DV.str ⟨#[c]⟩).length = z.cps.size := by simp
  rw [hl]
  refine ⟨_, _, walk_str, fun _ _ _ _ => trivial, fun i Hs H x H' hi s _ ⟨eH, c, hc, ex⟩ => ?_⟩
  subst eH ex
  refine ⟨Hs, .str ⟨#[c]⟩, PStep.refl s, ?_, .str _⟩
  rw [List.getElem?_map, Array.getElem?_toList, hc]; rfl
theorem feeds_scr {a : Addr} : Feeds W scrOf (.ref a) (Itl W.K a) := by
  intro d ds e
  cases d <;> cases e
  refine ⟨fun H => ∃ xs, SqL W.K H a xs ∧ xs.length = ds.length, fun i H x H' => H' = H ∧ ∀ xs, SqL W.K H a xs → xs[i]? = some x, ⟨fun i H hi ⟨xs, hx, hl⟩ => ?_, fun H ⟨xs, hx, hl⟩ => ?_, fun i H x H' hi ⟨xs, hx, hl⟩ y => y⟩, fun Hs H s ⟨a', xs, e1, hx, hD⟩ => ?_, fun i Hs H x H' hi s ⟨a', xs, e1, hx, hD⟩ ⟨eH, y⟩ => ?_⟩
  · have hi' : i < xs.length := by rw [hl]; exact hi
    exact ⟨xs, xs[i], hx, by simp [hi']⟩
  · exact ⟨xs, hx, by rw [hl]; exact Nat.le_refl _⟩
  · cases e1; exact ⟨xs, s.seq hx, hD.length⟩
  · cases e1
    subst eH
    obtain ⟨d', h1, h2⟩ := hD.getV (y xs (s.seq hx))
    exact ⟨Hs, d', PStep.refl s, h1, h2⟩
/-- for x in a list, a tuple, a text -/
def iSeq (K : PySem.W.Frag) (te : TE) : TI := fun σ H R => te σ H fun x H1 => (∃ a, x = .ref a ∧ ((∃ xs, SqL K H1 a xs ∧ R (Itl K a) H1) ∨ ∃ xs, SqT K H1 a xs ∧ R (Itt K a) H1)) ∨ ∃ z, x = .str z ∧ R (Its z) H1
theorem pi_seq {X : Cx} {tg l : Expr} {tl : TE} (hl : PE X l tl) : PI X tg l (iSeq X.K tl) := by
  refine ⟨fun pins s σ H R I h => ?_⟩
  refine thn (hl.run pins s σ H _ I h) fun v s1 ⟨x, H1, I1, r1, q1⟩ => ?_
  have fp : ∀ (b : Addr), b ∈ [s1.heap.objs.size] → FpOk X pins H1 b := fun b hb => by
    have e : b = s1.heap.objs.size := by simpa using hb
    subst e
    exact I1.fpOk (Nat.le_refl _) (I1.hok.fresh (Nat.le_refl _))
  rcases q1 with ⟨a, e, q⟩ | ⟨z, e, q⟩
  · subst e
    cases r1
    rcases q with ⟨xs, hq, q⟩ | ⟨xs, hq, q⟩
    · obtain ⟨its, rv, p, hz⟩ := I1.list hq
      refine PySem.wpAny_pyIter_list p.isList ?_
      exact ⟨s1.heap.objs.size, [s1.heap.objs.size], _, _, H1, rfl, I1.kept (t' := s1.toks) fun b o e => Heap.get?_push_of_some _ e, turn_list a _, ⟨_, Heap.get?_push_size _ rfl, rfl, rfl⟩, fp, q⟩
    · obtain ⟨its, rv, p, hz⟩ := I1.tuple hq
      refine PySem.wpAny_pyIter_tuple (show s1.heap.IsTuple a its.toArray from p) ?_
      exact ⟨s1.heap.objs.size, [s1.heap.objs.size], _, _, H1, rfl, I1.kept (t' := s1.toks) fun b o e => Heap.get?_push_of_some _ e, turn_tuple a _, ⟨_, Heap.get?_push_size _ rfl, rfl, rfl⟩, fp, q⟩
  · subst e
    obtain ⟨t, rfl⟩ := r1
    cases ha : z.cps.all (· < 128)
    · exact wpAny_pyIter_wide ha (pi_one (tk := s1.toks) I1 _ (turn_str _ z t "str_iterator" (.inr rfl)) ⟨_, Heap.get?_push_size _ rfl, rfl, rfl⟩ q)
    · exact wpAny_pyIter_ascii ha (pi_one (tk := s1.toks) I1 _ (turn_str _ z t "str_ascii_iterator" (.inl rfl)) ⟨_, Heap.get?_push_size _ rfl, rfl, rfl⟩ q)
theorem w_iseq {e : IE} {R : It → Hp → Prop} (h : tI G W refs (.seq e) σ H R) : iSeq W.K (tE G W refs e) σ H R := by
  obtain ⟨ρ, Hs, k, Rl, h, P⟩ := h
  have h : wpE G e ρ fun r ρ1 => seqK (cont ρ1 r) (k r lstOf ρ1) (k r tupOf ρ1) (k r scrOf ρ1) fun z => k (.val .non) (fun _ => some (charsD z)) ρ1 := h
  refine tE_at (Step.refl Rl) h fun r1 ρ1 v1 Hs1 H1 S1 _ O1 N1 _ hb => ?_
  cases hc : cont ρ1 r1 with
  | none => rw [hc] at hb; exact hb.elim
  | some d =>
    rw [hc] at hb
    have sh := O1.sh S1.rel hc
    cases d with
    | lst ds =>
      obtain ⟨a, xs, rfl, hx, hD⟩ := sh
      exact .inl ⟨a, rfl, .inl ⟨xs, SqL.of hx, P r1 lstOf ρ1 Hs1 H1 _ _ S1 O1 N1 hb feeds_list⟩⟩
    | tup ds =>
      obtain ⟨a, xs, rfl, hx, hD⟩ := sh
      exact .inl ⟨a, rfl, .inr ⟨xs, same_t S1.rel.sub hx, P r1 tupOf ρ1 Hs1 H1 _ _ S1 O1 N1 hb feeds_tup⟩⟩
    | scr ds =>
      obtain ⟨a, xs, rfl, hx, hD⟩ := sh
      exact .inl ⟨a, rfl, .inl ⟨xs, S1.rel.sub.seq hx, P r1 scrOf ρ1 Hs1 H1 _ _ S1 O1 N1 hb feeds_scr⟩⟩
    | str z =>
      cases (show v1 = .str z from sh)
      exact .inr ⟨z, rfl, P (.val .non) _ ρ1 Hs1 H1 .non _ S1 Den.non trivial hb feeds_str⟩
    | _ => exact hb.elim
theorem w_ir1 {a : IE} {R : It → Hp → Prop} (h : tI G W refs (.range1 a) σ H R) : iRng1 (tCons (tE G W refs a) tNil) σ H R := by
  obtain ⟨ρ, Hs, k, Rl, h, P⟩ := h
  have h : wpE G a ρ fun r ρ1 => ∃ j, cont ρ1 r = some (.int j) ∧ -(2 ^ 62) ≤ j ∧ j < 2 ^ 62 ∧ k (.val .non) (fun _ => some (rangeD 0 j.toNat)) ρ1 := h
  refine tE_at (Step.refl Rl) h fun r1 ρ1 v1 Hs1 H1 S1 _ O1 N1 _ ⟨j, hc, h1, h2, hk⟩ => ?_
  have e : v1 = .int j := O1.sh S1.rel hc
  subst e
  exact ⟨j, rfl, h1, h2, P (.val .non) _ ρ1 Hs1 H1 .non _ S1 Den.non trivial hk feeds_range⟩
theorem w_ir2 {a b : IE} {R : It → Hp → Prop} (h : tI G W refs (.range2 a b) σ H R) : iRng2 (tCons (tE G W refs a) (tCons (tE G W refs b) tNil)) σ H R := by
  obtain ⟨ρ, Hs, k, Rl, h, P⟩ := h
  have h : wpE G a ρ fun r ρ1 => wpE G b ρ1 fun s ρ2 => ∃ i j, cont ρ2 r = some (.int i) ∧ cont ρ2 s = some (.int j) ∧ (-(2 ^ 62) ≤ i ∧ i < 2 ^ 62 ∧ -(2 ^ 62) ≤ j ∧ j < 2 ^ 62) ∧
      k (.val .non) (fun _ => some (rangeD i (j - i).toNat)) ρ2 := h
  refine tE_at (Step.refl Rl) h fun r1 ρ1 v1 Hs1 H1 S1 _ O1 N1 _ h1 => ?_
  refine tE_at S1 h1 fun r2 ρ2 v2 Hs2 H2 S2 S02 O2 N2 _ ⟨i, j, c1, c2, hb, hk⟩ => ?_
  have e1 : v1 = .int i := (O1.step S2).sh S2.rel c1
  have e2 : v2 = .int j := O2.sh S2.rel c2
  subst e1 e2
  exact ⟨i, j, rfl, hb, P (.val .non) _ ρ2 Hs2 H2 .non _ S02 Den.non trivial hk feeds_range⟩
theorem w_istr {e : IE} {R : It → Hp → Prop} (h : tI G W refs (.str e) σ H R) : iStr (tE G W refs e) σ H R := by
  obtain ⟨ρ, Hs, k, Rl, h, P⟩ := h
  have h : wpE G e ρ fun r ρ1 => ∃ z, cont ρ1 r = some (.str z) ∧ k (.val .non) (fun _ => some (z.cps.toList.map fun c => .str ⟨#[c]⟩)) ρ1 := h
  refine tE_at (Step.refl Rl) h fun r1 ρ1 v1 Hs1 H1 S1 _ O1 N1 _ ⟨z, hc, hk⟩ => ?_
  exact ⟨z, O1.sh S1.rel hc, P (.val .non) _ ρ1 Hs1 H1 .non _ S1 Den.non trivial hk feeds_str⟩
end
end EV

set_option maxRecDepth 100000
set_option maxHeartbeats 4000000
/-! EV 9: comprehensions, statements. -/
namespace EV
open PySem L2

section
variable {G : Genv} {W : Wd} {refs : List Addr} {ρ ρ' ρ0 ρ1 : Rho} {σ σ' σ0 : L2.St} {Hs Hs' Hs0 Hs1 H H' H0 H1 : Hp}

theorem wipe_get {vs : List Nat} {j : Nat} : (wipe σ vs)[j]? = if j ∈ vs ∧ j < σ.length then some none else σ[j]? := by
  induction vs with
  | nil => simp [wipe]
  | cons v vs ih =>
    unfold wipe
    by_cases hj : v = j
    · subst hj
      by_cases hl : v < σ.length
      · rw [List.getElem?_set_self (by rw [wipe_length]; exact hl), if_pos ⟨List.mem_cons_self, hl⟩]
      · rw [List.getElem?_eq_none (by rw [List.length_set, wipe_length]; omega), if_neg (by simp [hl]), List.getElem?_eq_none (by omega)]
    · rw [List.getElem?_set_ne hj, ih]
      by_cases h : j ∈ vs ∧ j < σ.length
      · rw [if_pos h, if_pos ⟨List.mem_cons_of_mem _ h.1, h.2⟩]
      · rw [if_neg h, if_neg (by rintro ⟨a, b⟩; rcases List.mem_cons.mp a with z | z; exact hj z.symm; exact h ⟨z, b⟩)]
theorem wipeR_len {vs : List Nat} : (wipeR ρ vs).length = ρ.length := by
  induction vs with
  | nil => rfl
  | cons v vs ih => unfold wipeR; rw [List.length_set, ih]
theorem wipeR_get {vs : List Nat} {j : Nat} : (wipeR ρ vs)[j]? = if j ∈ vs ∧ j < ρ.length then some .no else ρ[j]? := by
  induction vs with
  | nil => simp [wipeR]
  | cons v vs ih =>
    unfold wipeR
    by_cases hj : v = j
    · subst hj
      by_cases hl : v < ρ.length
      · rw [List.getElem?_set_self (by rw [wipeR_len]; exact hl), if_pos ⟨List.mem_cons_self, hl⟩]
      · rw [List.getElem?_eq_none (by rw [List.length_set, wipeR_len]; omega), if_neg (by simp [hl]), List.getElem?_eq_none (by omega)]
    · rw [List.getElem?_set_ne hj, ih]
      by_cases h : j ∈ vs ∧ j < ρ.length
      · rw [if_pos h, if_pos ⟨List.mem_cons_of_mem _ h.1, h.2⟩]
      · rw [if_neg h, if_neg (by rintro ⟨a, b⟩; rcases List.mem_cons.mp a with z | z; exact hj z.symm; exact h ⟨z, b⟩)]
theorem backR_len {vs : List Nat} : (backR ρ0 ρ vs).length = ρ.length := by
  induction vs with
  | nil => rfl
  | cons v vs ih => unfold backR; rw [List.length_set, ih]
theorem backR_get {vs : List Nat} {j : Nat} : (backR ρ0 ρ vs)[j]? = if j ∈ vs ∧ j < ρ.length then some (ρ0[j]?.getD .no) else ρ[j]? := by
  induction vs with
  | nil => simp [backR]
  | cons v vs ih =>
    unfold backR
    by_cases hj : v = j
    · subst hj
      by_cases hl : v < ρ.length
      · rw [List.getElem?_set_self (by rw [backR_len]; exact hl), if_pos ⟨List.mem_cons_self, hl⟩]
      · rw [List.getElem?_eq_none (by rw [List.length_set, backR_len]; omega), if_neg (by simp [hl]), List.getElem?_eq_none (by omega)]
    · rw [List.getElem?_set_ne hj, ih]
      by_cases h : j ∈ vs ∧ j < ρ.length
      · rw [if_pos h, if_pos ⟨List.mem_cons_of_mem _ h.1, h.2⟩]
      · rw [if_neg h, if_neg (by rintro ⟨a, b⟩; rcases List.mem_cons.mp a with z | z; exact hj z.symm; exact h ⟨z, b⟩)]
theorem Step.wipes (S : Step W refs ρ0 σ0 Hs0 H0 ρ σ Hs H) : ∀ vs : List Nat, Step W refs ρ0 σ0 Hs0 H0 (wipeR ρ vs) (L2.wipe σ vs) Hs H
  | [] => S
  | v :: vs => by unfold wipeR L2.wipe; exact (Step.wipes S vs).wipe
theorem Rel.wipes (R : Rel W refs ρ σ Hs H) (vs : List Nat) : Rel W refs (wipeR ρ vs) (L2.wipe σ vs) Hs H := ((Step.refl R).wipes vs).rel

/-- out of a comprehension's block: its own names are what they were -/
theorem back_own {vs : List Nat} (p : plainSlots ρ1 vs) (lenσ : ρ.length = σ.length) {j : Nat} {t : Option Nat} {d : DV} (q : (backR ρ1 ρ vs)[j]? = some (.own t d)) : ρ[j]? = some (.own t d) ∧ (L2.wipe σ vs)[j]? = σ[j]? := by
  rw [backR_get] at q
  by_cases h : j ∈ vs ∧ j < ρ.length
  · rw [if_pos h] at q
    exfalso
    cases e : ρ1[j]? with
    | none => rw [e] at q; cases q
    | some s =>
      rw [e] at q
      have q : s = .own t d := Option.some.inj q
      subst q
      exact p j h.1 t d e
  · rw [if_neg h] at q
    refine ⟨q, ?_⟩
    rw [wipe_get, if_neg (by rw [← lenσ]; exact h)]
theorem back_isOwn {vs : List Nat} (p : plainSlots ρ1 vs) (lenσ : ρ.length = σ.length) {b : Addr} : IsOwn (backR ρ1 ρ vs) σ b → IsOwn ρ (L2.wipe σ vs) b := fun ⟨j, t, d, q1, q2⟩ => by
  obtain ⟨h1, h2⟩ := back_own p lenσ q1
  exact ⟨j, t, d, h1, by rw [h2]; exact q2⟩
theorem backR_wipeR {vs : List Nat} : backR ρ0 (wipeR ρ vs) vs = backR ρ0 ρ vs := by
  apply List.ext_getElem?
  intro j
  rw [backR_get, backR_get, wipeR_len, wipeR_get]
  by_cases h : j ∈ vs ∧ j < ρ.length
  · rw [if_pos h, if_pos h]
  · rw [if_neg h, if_neg h, if_neg h]
theorem Step.back {vs : List Nat} (S1 : Step W refs ρ0 σ Hs0 H0 ρ1 σ Hs1 H1) (p : plainSlots ρ1 vs) (S : Step W refs (wipeR ρ1 vs) (L2.wipe σ vs) Hs1 H1 ρ (L2.wipe σ vs) Hs H) : Step W refs ρ0 σ Hs0 H0 (backR ρ1 ρ vs) σ Hs H := by
  have lenσ : ρ.length = σ.length := by rw [S.rel.len, wipe_length]
  have len1 : ρ1.length = σ.length := S1.rel.len
  have out : ∀ {j : Nat} {t : Option Nat} {d : DV}, (backR ρ1 ρ vs)[j]? = some (.own t d) → ρ[j]? = some (.own t d) ∧ (L2.wipe σ vs)[j]? = σ[j]? := fun {j t d} q => back_own p lenσ q
  have own1 : ∀ {b : Addr}, IsOwn (backR ρ1 ρ vs) σ b → IsOwn ρ (L2.wipe σ vs) b := fun {b} => back_isOwn p lenσ
  have own2 : ∀ {b : Addr}, IsOwn (wipeR ρ1 vs) (L2.wipe σ vs) b → IsOwn ρ1 σ b := fun {b} ⟨j, t, d, q1, q2⟩ => by
    rw [wipeR_get] at q1
    by_cases h : j ∈ vs ∧ j < ρ1.length
    · rw [if_pos h] at q1; cases q1
    · rw [if_neg h] at q1
      rw [wipe_get, if_neg (by rw [← len1]; exact h)] at q2
      exact ⟨j, t, d, q1, q2⟩
  have R : Rel W refs (backR ρ1 ρ vs) σ Hs H := by
    refine ⟨S.rel.sub, by rw [backR_len]; exact lenσ, fun j d q => ?_, fun j t d q => ?_, fun i j t u d e a q1 q2 q3 q4 => ?_⟩
    · rw [backR_get] at q
      by_cases h : j ∈ vs ∧ j < ρ.length
      · rw [if_pos h] at q
        cases e : ρ1[j]? with
        | none => rw [e] at q; cases q
        | some s =>
          rw [e] at q
          have q : s = .val d := Option.some.inj q
          subst q
          obtain ⟨v, h1, h2⟩ := S1.rel.val j d e
          exact ⟨v, h1, h2.up S.ex⟩
      · rw [if_neg h] at q
        obtain ⟨v, h1, h2⟩ := S.rel.val j d q
        rw [wipe_get, if_neg (by rw [← lenσ]; exact h)] at h1
        exact ⟨v, h1, h2⟩
    · obtain ⟨h1, h2⟩ := out q
      obtain ⟨a, e1, e2⟩ := S.rel.own j t d h1
      exact ⟨a, by rw [← h2]; exact e1, e2⟩
    · obtain ⟨h1, e1⟩ := out q1
      obtain ⟨h2, e2⟩ := out q2
      exact S.rel.dis i j t u d e a h1 h2 (by rw [e1]; exact q3) (by rw [e2]; exact q4)
  refine ⟨R, S1.ex.trans S.ex, fun b o e n => ?_, fun b e => S1.live b (S.live b e), fun b e e' => ?_, fun b z => ?_⟩
  · refine S.frame b o (S1.frame b o e n) fun z => ?_
    rcases S1.owns b (own2 z) with q | q
    · exact n q
    · rw [e] at q; cases q
  · by_cases q : Hs1 b = none
    · rcases S.grow b q e' with z | z
      · exact .inl (S1.live b z)
      · exact (S1.owns b (own2 z)).symm
    · exact S1.grow b e q
  · rcases S.owns b (own1 z) with q | q
    · exact S1.owns b (own2 q)
    · exact .inr (S1.live b q)

theorem wipe_eq {vs : List Nat} {σ2 : L2.St} (h : ∀ j : Nat, j ∉ vs → σ2[j]? = (wipe σ vs)[j]?) (hl : σ2.length = σ.length) : wipe σ2 vs = wipe σ vs := by
  apply List.ext_getElem?
  intro j
  rw [wipe_get, wipe_get, hl]
  by_cases hj : j ∈ vs ∧ j < σ.length
  · rw [if_pos hj, if_pos hj]
  · rw [if_neg hj, if_neg hj]
    by_cases hv : j ∈ vs
    · have : ¬ j < σ.length := fun z => hj ⟨hv, z⟩
      rw [List.getElem?_eq_none (by omega), List.getElem?_eq_none (by omega)]
    · rw [h j hv, wipe_get, if_neg hj]

/-- a list comprehension -/
theorem w_lc {it : IT} {tg : ITg} {c : IC} {e : IE} {own : List Nat} {Q : VK} (htg : ∀ j, j ∈ tgs tg → j ∈ own) (h : tE G W refs (.lc it tg c e own) σ H Q) :
    tLc (tI G W refs it) (tG G W refs tg) (tT G W refs c) (tE G W refs e) own σ H Q := by
  obtain ⟨ρ, Hs, k, R, h, P⟩ := h
  have h : wpI G it ρ fun r f ρ1 => ∃ d0 ds, cont ρ1 r = some d0 ∧ f d0 = some ds ∧ ds.length ≤ sizeLine ∧ plainSlots ρ1 own ∧ lcW (fun d ρ2 k' => wpG G tg (.val d) ρ2 fun ρ3 => wpT G c ρ3 fun t ρ4 =>
        branch t (wpE G e ρ4 fun r' ρ5 => cap r' ρ5 fun d' ρ6 => stays r ρ1 (backR ρ1 ρ6 own) ∧ k' (some d') (wipeR ρ6 own)) (stays r ρ1 (backR ρ1 ρ4 own) ∧ k' none (wipeR ρ4 own))) ds (wipeR ρ1 own) []
      fun ds' ρ2 => k (.tmp (.lst ds')) (backR ρ1 ρ2 own) := h
  refine ⟨ρ, Hs, _, R, h, fun r f ρ1 Hs1 H1 v J S1 O1 N1 hk F => ?_⟩
  obtain ⟨d0, ds, hc, hf, hz, hp, hl⟩ := hk
  obtain ⟨Gd, Y, Wk, wG, wY⟩ := F d0 ds hf
  intro D hD
  have nD : Hs1 D = none := none_sub S1.rel.sub hD
  have B0 : Step W refs (wipeR ρ1 own) (wipe σ own) Hs1 H1 (wipeR ρ1 own) (wipe σ own) Hs1 H1 := Step.refl (S1.rel.wipes own)
  have noD : ¬ IsOwn (wipeR ρ1 own) (wipe σ own) D := fun z => by
    obtain ⟨_, o, ho⟩ := B0.rel.ownAt z
    rw [hD] at ho; cases ho
  -- the source is read at a later state of the block
  have src : ∀ {ρ' : Rho} {Hs' H' : Hp}, Step W refs (wipeR ρ1 own) (wipe σ own) Hs1 H1 ρ' (wipe σ own) Hs' H' → stays r ρ1 (backR ρ1 ρ' own) → Sh W Hs' H' v d0 := fun {ρ' Hs' H'} S st => by
    have Sb := Step.back (Step.refl S1.rel) hp S
    refine (O1.step Sb).sh Sb.rel ?_
    cases r with
    | val _ => exact hc
    | tmp _ => exact hc
    | loc i =>
      have st : slotD (backR ρ1 ρ' own)[i]? = slotD ρ1[i]? := st
      show slotD (backR ρ1 ρ' own)[i]? = some d0
      rw [st]; exact hc
  have st0 : stays r ρ1 (backR ρ1 (wipeR ρ1 own) own) := by
    cases r with
    | val _ => trivial
    | tmp _ => trivial
    | loc i =>
      show slotD (backR ρ1 (wipeR ρ1 own) own)[i]? = slotD ρ1[i]?
      rw [backR_get, wipeR_len]
      by_cases hj : i ∈ own ∧ i < ρ1.length
      · rw [if_pos hj]
        cases q : ρ1[i]? with
        | none => rw [List.getElem?_eq_none_iff] at q; omega
        | some s => rfl
      · rw [if_neg hj, wipeR_get, if_neg hj]
  let F' : DV → Rho → (Option DV → Rho → Prop) → Prop := fun d ρ2 k' => wpG G tg (.val d) ρ2 fun ρ3 => wpT G c ρ3 fun t ρ4 =>
        branch t (wpE G e ρ4 fun r' ρ5 => cap r' ρ5 fun d' ρ6 => stays r ρ1 (backR ρ1 ρ6 own) ∧ k' (some d') (wipeR ρ6 own)) (stays r ρ1 (backR ρ1 ρ4 own) ∧ k' none (wipeR ρ4 own))
  let K' : List DV → Rho → Prop := fun ds' ρ2 => k (.tmp (.lst ds')) (backR ρ1 ρ2 own)
  let Pv : Nat → Hp → Prop := fun i H' => ∃ ρ' Hs' acc xs, Step W refs (wipeR ρ1 own) (wipe σ own) Hs1 H1 ρ' (wipe σ own) Hs' H' ∧ H' D = some (.lst xs) ∧ Dens W Hs' xs acc ∧ Hs' D = none ∧ ¬ IsOwn ρ' (wipe σ own) D ∧ acc.length ≤ i ∧
    stays r ρ1 (backR ρ1 ρ' own) ∧ lcW F' (ds.drop i) ρ' acc K'
  refine lc_it Wk Pv ?_ ?_ ?_ ?_
  · exact ⟨wipeR ρ1 own, Hs1, [], [], B0.trans ((PStep.newH B0.rel.sub hD _).step B0.rel), upd_same, .nil, nD, noD, Nat.le_refl _, st0, hl⟩
  · rintro i H' hi ⟨ρ', Hs', acc, xs, S, _, _, _, _, _, st, _⟩
    exact wG Hs' H' S.rel.sub (src S st)
  · rintro i x H' H2 hi ⟨ρ', Hs', acc, xs, S, hx, hD', nD', noD', hacc, st, hl⟩ y
    obtain ⟨Hs2, d', ps, hd', D'⟩ := wY i Hs' H' x H2 hi S.rel.sub (src S st) y
    have S2 := S.trans (ps.step S.rel)
    have hx2 : H2 D = some (.lst xs) := ps.up D _ hx
    have nD2 : Hs2 D = none := by
      cases q : Hs2 D with
      | none => rfl
      | some u =>
        have := ps.grow D nD' (by rw [q]; intro z; cases z)
        rw [hx] at this; cases this
    have edrop : ds.drop i = d' :: ds.drop (i + 1) := by
      have hi' : i < ds.length := hi
      rw [List.drop_eq_getElem_cons hi']
      have : ds[i] = d' := by
        have := (List.getElem?_eq_getElem hi').symm.trans hd'
        exact Option.some.inj this
      rw [this]
    rw [edrop] at hl
    have hl : F' d' ρ' fun o ρ1 => lcW F' (ds.drop (i + 1)) ρ1 (acc ++ o.toList) K' := hl
    -- the new list, seen as a thing of ours, through a step of the block
    have keepD : ∀ {ρa ρb : Rho} {σb : L2.St} {Hsa Hsb Ha Hb : Hp}, Step W refs ρa (wipe σ own) Hsa Ha ρb σb Hsb Hb → Ha D = some (.lst xs) → Dens W Hsa xs acc → Hsa D = none → ¬ IsOwn ρa (wipe σ own) D →
        Hb D = some (.lst xs) ∧ Dens W Hsb xs acc ∧ Hsb D = none ∧ ¬ IsOwn ρb σb D := by
      intro ρa ρb σb Hsa Hsb Ha Hb St h1 h2 h3 h4
      refine ⟨St.frame D _ h1 h4, h2.up St.ex, ?_, fun z => ?_⟩
      · cases q : Hsb D with
        | none => rfl
        | some u =>
          rcases St.grow D h3 (by rw [q]; intro z; cases z) with z | z
          · rw [h1] at z; cases z
          · exact absurd z h4
      · rcases St.owns D z with q | q
        · exact h4 q
        · rw [h1] at q; cases q
    have base2 : Step W refs ρ' (wipe σ own) Hs2 H2 ρ' (wipe σ own) Hs2 H2 := Step.refl S2.rel
    refine ⟨.val d', ρ', Hs2, _, ρ', wipe σ own, Hs2, H2, base2, D', trivial, hl, fun ρ3 σ3 Hs3 H3 S3 e3 tch h3 => ?_⟩
    have len3 : σ3.length = σ.length := by rw [tch.1, wipe_length]
    have ew : wipe σ3 own = wipe σ own := wipe_eq (fun j hj => tch.2 j fun z => hj (htg j z)) len3
    refine ⟨ew, ?_⟩
    refine tT_at S3 h3 fun t ρ4 Hs4 H4 S4 hb => ?_
    cases t with
    | false =>
      obtain ⟨st', hk'⟩ := hb.2 rfl
      refine iteF ?_
      have S5 := S4.wipes own
      rw [ew] at S5
      obtain ⟨k1, k2, k3, k4⟩ := keepD S5 hx2 (hD'.up ps.ex) nD2 noD'
      refine ⟨wipeR ρ4 own, Hs4, acc, xs, S2.trans S5, k1, k2, k3, k4, Nat.le_succ_of_le hacc, by rw [backR_wipeR]; exact st', by simpa using hk'⟩
    | true =>
      refine iteT (tE_at S4 (hb.1 rfl) fun r5 ρ5 v5 Hs5 H5 _ S5 O5 N5 N05 hcap => ?_)
      obtain ⟨d6, ρ6, Hs6, S6, D6, ⟨st', hk'⟩, e6, _⟩ := cap_ok S5 O5 N05 hcap
      have S7 := S6.wipes own
      rw [ew] at S7
      obtain ⟨k1, k2, k3, k4⟩ := keepD S7 hx2 (hD'.up ps.ex) nD2 noD'
      refine ⟨xs, k1, by rw [k2.length]; omega, ?_⟩
      have S8 := S2.trans S7
      -- the list is longer now
      have S9 : Step W refs (wipeR ρ1 own) (wipe σ own) Hs1 H1 (wipeR ρ6 own) (wipe σ own) Hs6 (upd H5 D (.lst (xs ++ [v5]))) := by
        refine ⟨S8.rel.up (fun b o q => ?_) (Same.refl _) (fun a z => ⟨(S8.rel.ownAt z).1, fun o q => ?_⟩), S8.ex, fun b o q n => ?_, fun b q => ?_, S8.grow, S8.owns⟩
        · have hb : b ≠ D := fun z => by subst z; rw [k3] at q; cases q
          rw [upd_ne hb]; exact S8.rel.sub b o q
        · have hb : a ≠ D := fun w => k4 (w ▸ z)
          rw [upd_ne hb]; exact q
        · have hb : b ≠ D := fun z => by subst z; rw [hD] at q; cases q
          rw [upd_ne hb]; exact S8.frame b o q n
        · by_cases hb : b = D
          · subst hb; rw [upd_same] at q; cases q
          · rw [upd_ne hb] at q; exact S8.live b q
      refine ⟨wipeR ρ6 own, Hs6, acc ++ [d6], xs ++ [v5], S9, upd_same, k2.append (.one D6), k3, k4, by rw [List.length_append, List.length_singleton]; omega, by rw [backR_wipeR]; exact st', hk'⟩
  · rintro H' ⟨ρ', Hs', acc, xs, S, hx, hD', nD', noD', hacc, st, hl⟩
    rw [List.drop_length] at hl
    have hk : k (.tmp (.lst acc)) (backR ρ1 ρ' own) := hl
    have Sb := S1.back hp S
    exact P (.tmp (.lst acc)) _ _ Hs' H' Sb ⟨D, rfl, nD', fun z => noD' (back_isOwn hp (by rw [S.rel.len, wipe_length]) z), xs, hx, hD'⟩ (fun b e => by cases e; exact S1.live D hD) hk
end
end EV

set_option maxRecDepth 100000
set_option maxHeartbeats 4000000
/-! EV 10: statements. -/
namespace EV
open PySem L2

structure EndsOk (W : Wd) (refs : List Addr) (ρ : Rho) (σ : L2.St) (Hs H : Hp) (k : Flow → Rho → Prop) (D : Ends) : Prop where
  nx : ∀ ρ' σ' Hs' H', Step W refs ρ σ Hs H ρ' σ' Hs' H' → σ'.length = σ.length → k .nx ρ' → D.nx σ' H'
  bk : ∀ ρ' σ' Hs' H', Step W refs ρ σ Hs H ρ' σ' Hs' H' → σ'.length = σ.length → k .bk ρ' → D.bk σ' H'
  ct : ∀ ρ' σ' Hs' H', Step W refs ρ σ Hs H ρ' σ' Hs' H' → σ'.length = σ.length → k .ct ρ' → D.ct σ' H'
  rt : ∀ r ρ' σ' v Hs' H', Step W refs ρ σ Hs H ρ' σ' Hs' H' → ResOk W ρ' σ' Hs' H' r v → NewT H r v → k (.rt r) ρ' → D.rt v H'
section
variable (G : Genv) (W : Wd) (refs : List Addr)
def tS (i : IS) : TS := fun D σ H => ∃ ρ Hs k, Rel W refs ρ σ Hs H ∧ wpS G i ρ k ∧ EndsOk W refs ρ σ Hs H k D
def tSs (i : ISs) : TS := fun D σ H => ∃ ρ Hs k, Rel W refs ρ σ Hs H ∧ wpSs G i ρ k ∧ EndsOk W refs ρ σ Hs H k D
end
section
variable {G : Genv} {W : Wd} {refs : List Addr} {ρ ρ' ρ0 ρ1 : Rho} {σ σ' σ0 : L2.St} {Hs Hs' Hs0 Hs1 H H' H0 H1 : Hp} {D : Ends}

theorem EndsOk.later {k : Flow → Rho → Prop} (E : EndsOk W refs ρ0 σ0 Hs0 H0 k D) (S : Step W refs ρ0 σ0 Hs0 H0 ρ σ Hs H) (hl : σ.length = σ0.length) : EndsOk W refs ρ σ Hs H k D :=
  ⟨fun ρ' σ' Hs' H' S' l h => E.nx ρ' σ' Hs' H' (S.trans S') (l.trans hl) h, fun ρ' σ' Hs' H' S' l h => E.bk ρ' σ' Hs' H' (S.trans S') (l.trans hl) h, fun ρ' σ' Hs' H' S' l h => E.ct ρ' σ' Hs' H' (S.trans S') (l.trans hl) h,
    fun r ρ' σ' v Hs' H' S' O N h => E.rt r ρ' σ' v Hs' H' (S.trans S') O (N.back S.live) h⟩
theorem tS_at {i : IS} {k : Flow → Rho → Prop} (S : Step W refs ρ0 σ0 Hs0 H0 ρ σ Hs H) (hl : σ.length = σ0.length) (h : wpS G i ρ k) (E : EndsOk W refs ρ0 σ0 Hs0 H0 k D) : tS G W refs i D σ H := ⟨ρ, Hs, k, S.rel, h, E.later S hl⟩
theorem tSs_at {i : ISs} {k : Flow → Rho → Prop} (S : Step W refs ρ0 σ0 Hs0 H0 ρ σ Hs H) (hl : σ.length = σ0.length) (h : wpSs G i ρ k) (E : EndsOk W refs ρ0 σ0 Hs0 H0 k D) : tSs G W refs i D σ H := ⟨ρ, Hs, k, S.rel, h, E.later S hl⟩

theorem w_asg {t : ITg} {e : IE} (h : tS G W refs (.asg t e) D σ H) : tAsg (tE G W refs e) (tG G W refs t) D σ H := by
  obtain ⟨ρ, Hs, k, R, h, E⟩ := h
  have h : wpE G e ρ fun r ρ1 => wpG G t r ρ1 fun ρ2 => k .nx ρ2 := h
  show tE G W refs e σ H fun x H1 => tG G W refs t x σ H1 D.nx
  refine tE_at (Step.refl R) h fun r1 ρ1 v1 Hs1 H1 S1 _ O1 N1 _ h1 => ?_
  exact ⟨r1, ρ1, Hs1, _, ρ, σ, Hs, H, S1, O1, N1, h1, fun ρ2 σ2 Hs2 H2 S2 _ tch hk => E.nx ρ2 σ2 Hs2 H2 S2 tch.1 hk⟩
theorem w_par2 {i j : Nat} {a b : IE} (hi : i < σ.length) (hj : j < σ.length) (h : tS G W refs (.par2 i j a b) D σ H) : tPar i j (tCons (tE G W refs a) (tCons (tE G W refs b) tNil)) D σ H := by
  obtain ⟨ρ, Hs, k, R, h, E⟩ := h
  have h : wpE G a ρ fun r1 ρ1 => wpE G b ρ1 fun r2 ρ2 => res1 r1 ρ2 fun s1 ρ3 => res1 r2 ρ3 fun s2 ρ4 => k .nx (bind1 j s2 (bind1 i s1 ρ4)) := h
  show tE G W refs a σ H fun x H1 => tE G W refs b σ H1 fun y H2 => _
  refine tE_at (Step.refl R) h fun r1 ρ1 v1 Hs1 H1 S1 _ O1 N1 _ h1 => ?_
  refine tE_at S1 h1 fun r2 ρ2 v2 Hs2 H2 S2 S02 O2 N2 N02 h2 => ?_
  have ap : ∀ e d, r2 = .tmp e → r1 = .tmp d → v1 ≠ v2 := fun e d z1 z2 => by
    subst z1 z2
    exact (apart_of O1 (show NewTs _ [Res.tmp e] [v2] from .cons N2 (show ApartT v2 [] [] from trivial) .nil) : ApartT v1 [.tmp e] [v2]).1
  obtain ⟨s1, ρ3, Hs3, S3, O3, N3, b3, t3, h3, e3, keep3⟩ := res1_ok S02 (O1.step S2) N1 h2
  obtain ⟨s2, ρ4, Hs4, S4, O4, N4, b4, t4, hk, e4, keep4⟩ := res1_ok S3 (keep3 _ _ O2) N02 h3
  obtain ⟨S5, keep5⟩ := bind1_ok S4 (keep4 _ _ O3) N3 b3 hi
  have O5 := keep5 _ _ O4 b4 fun e d z1 z2 => ap e d (t4 e z1) (t3 d z2)
  obtain ⟨S6, _⟩ := bind1_ok S5 O5 N4 b4 (by rw [List.length_set]; exact hj)
  exact ⟨v1, v2, rfl, E.nx _ _ Hs4 H2 S6 (by rw [List.length_set, List.length_set]) hk⟩
theorem w_par3 {i j l : Nat} {a b c : IE} (hi : i < σ.length) (hj : j < σ.length) (hl : l < σ.length) (h : tS G W refs (.par3 i j l a b c) D σ H) :
    tPar3 i j l (tCons (tE G W refs a) (tCons (tE G W refs b) (tCons (tE G W refs c) tNil))) D σ H := by
  obtain ⟨ρ, Hs, k, R, h, E⟩ := h
  have h : wpE G a ρ fun r1 ρ1 => wpE G b ρ1 fun r2 ρ2 => wpE G c ρ2 fun r3 ρ3 => res1 r1 ρ3 fun s1 ρ4 => res1 r2 ρ4 fun s2 ρ5 => res1 r3 ρ5 fun s3 ρ6 => k .nx (bind1 l s3 (bind1 j s2 (bind1 i s1 ρ6))) := h
  show tE G W refs a σ H fun x H1 => tE G W refs b σ H1 fun y H2 => tE G W refs c σ H2 fun z H3 => _
  refine tE_at (Step.refl R) h fun r1 ρ1 v1 Hs1 H1 S1 _ O1 N1 _ h1 => ?_
  refine tE_at S1 h1 fun r2 ρ2 v2 Hs2 H2 S2 S02 O2 N2 N02 h2 => ?_
  refine tE_at S02 h2 fun r3 ρ3 v3 Hs3 H3 S3 S03 O3 N3 N03 h3 => ?_
  have ap12 : ∀ e d, r2 = .tmp e → r1 = .tmp d → v1 ≠ v2 := fun e d z1 z2 => by
    subst z1 z2
    exact (apart_of O1 (show NewTs _ [Res.tmp e] [v2] from .cons N2 (show ApartT v2 [] [] from trivial) .nil) : ApartT v1 [.tmp e] [v2]).1
  have ap13 : ∀ e d, r3 = .tmp e → r1 = .tmp d → v1 ≠ v3 := fun e d z1 z2 => by
    subst z1 z2
    exact (apart_of (O1.step S2) (show NewTs _ [Res.tmp e] [v3] from .cons N3 (show ApartT v3 [] [] from trivial) .nil) : ApartT v1 [.tmp e] [v3]).1
  have ap23 : ∀ e d, r3 = .tmp e → r2 = .tmp d → v2 ≠ v3 := fun e d z1 z2 => by
    subst z1 z2
    exact (apart_of O2 (show NewTs _ [Res.tmp e] [v3] from .cons N3 (show ApartT v3 [] [] from trivial) .nil) : ApartT v2 [.tmp e] [v3]).1
  obtain ⟨s1, ρ4, Hs4, S4, P1, M1, b1, t1, h4, e4, keep4⟩ := res1_ok S03 ((O1.step S2).step S3) N1 h3
  obtain ⟨s2, ρ5, Hs5, S5, P2, M2, b2, t2, h5, e5, keep5⟩ := res1_ok S4 (keep4 _ _ (O2.step S3)) N02 h4
  obtain ⟨s3, ρ6, Hs6, S6, P3, M3, b3, t3, hk, e6, keep6⟩ := res1_ok S5 (keep5 _ _ (keep4 _ _ O3)) N03 h5
  obtain ⟨S7, keep7⟩ := bind1_ok S6 (keep6 _ _ (keep5 _ _ P1)) M1 b1 hi
  have Q2 := keep7 _ _ (keep6 _ _ P2) b2 fun e d z1 z2 => ap12 e d (t2 e z1) (t1 d z2)
  have Q3 := keep7 _ _ P3 b3 fun e d z1 z2 => ap13 e d (t3 e z1) (t1 d z2)
  obtain ⟨S8, keep8⟩ := bind1_ok S7 Q2 M2 b2 (by rw [List.length_set]; exact hj)
  have R3 := keep8 _ _ Q3 b3 fun e d z1 z2 => ap23 e d (t3 e z1) (t2 d z2)
  obtain ⟨S9, _⟩ := bind1_ok S8 R3 M3 b3 (by rw [List.length_set, List.length_set]; exact hl)
  exact ⟨v1, v2, v3, rfl, E.nx _ _ Hs6 H3 S9 (by rw [List.length_set, List.length_set, List.length_set]) hk⟩
theorem rel_slot (R : Rel W refs ρ σ Hs H) {i : Nat} {d : DV} (h : slotD ρ[i]? = some d) : ∃ v, σ[i]? = some (some v) := by
  cases q : ρ[i]? with
  | none => rw [q] at h; cases h
  | some s =>
    cases s with
    | no => rw [q] at h; cases h
    | val d => obtain ⟨v, hv, _⟩ := R.val i d q; exact ⟨v, hv⟩
    | own t d => obtain ⟨a, hv, _⟩ := R.own i t d q; exact ⟨_, hv⟩
theorem w_aug {i : Nat} {neg : Bool} {e : IE} (h : tS G W refs (.aug i neg e) D σ H) : tAug i (tE G W refs e) (ipI fun a b => if neg then a - b else a + b) D σ H := by
  obtain ⟨ρ, Hs, k, R, ⟨⟨d0, h0⟩, h⟩, E⟩ := h
  obtain ⟨v, hv⟩ := rel_slot R h0
  refine ⟨v, hv, tE_at (Step.refl R) h fun r1 ρ1 v1 Hs1 H1 S1 _ O1 N1 _ ⟨a, b, h1, h2, hk⟩ => ?_⟩
  have e1 : v1 = .int b := O1.sh S1.rel h2
  have e2 : v = .int a := (show ResOk W ρ1 σ Hs1 H1 (.loc i) v from hv).sh S1.rel h1
  exact ⟨a, b, e2, e1, E.nx _ _ Hs1 H1 (S1.bindVal (.int _) (List.getElem?_eq_some_iff.mp hv).1) List.length_set hk⟩
theorem w_app {o v : IE} (h : tS G W refs (.app o v) D σ H) : tDrop (tBM W.K "list" rAppend (tE G W refs o) (tCons (tE G W refs v) tNil)) D σ H := by
  obtain ⟨ρ, Hs, k, R, h, E⟩ := h
  have h : wpE G o ρ fun ro ρ1 => (∃ ds, cont ρ1 ro = some (.lst ds)) ∧ wpE G v ρ1 fun rv ρ2 => cap rv ρ2 fun d ρ3 => ∃ l t ds, ro = .loc l ∧ ρ3[l]? = some (.own t (.lst ds)) ∧ ds.length < sizeLine ∧ k .nx (ρ3.set l (.own t (.lst (ds ++ [d])))) := h
  show tE G W refs o σ H fun x H1 => tyV W.K "list" x H1 ∧ tE G W refs v σ H1 fun y H2 => rAppend x [y] H2 fun _ H3 => D.nx σ H3
  refine tE_at (Step.refl R) h fun r1 ρ1 v1 Hs1 H1 S1 _ O1 N1 _ ⟨⟨ds0, hc0⟩, h1⟩ => ?_
  obtain ⟨a0, xs0, ea0, hx0, _⟩ := O1.sh S1.rel hc0
  refine ⟨by subst ea0; exact Or.inl ⟨rfl, _, Or.inl (Or.inl hx0)⟩, ?_⟩
  refine tE_at S1 h1 fun r2 ρ2 v2 Hs2 H2 S2 S02 O2 N2 N02 h2 => ?_
  obtain ⟨d, ρ3, Hs3, S3, Dd, ⟨l, t, ds, el, hl, hz, hk⟩, e3, keep⟩ := cap_ok S02 O2 N02 h2
  subst el
  have O1' : σ[l]? = some (some v1) := O1
  obtain ⟨a, ea, na, ⟨xs, hx, hd⟩, _⟩ := S3.rel.own l t _ hl
  rw [O1'] at ea; cases ea
  refine ⟨a, xs, v2, rfl, rfl, hx, by rw [hd.length]; exact hz, ?_⟩
  refine E.nx _ σ Hs3 _ (S3.write (d' := .lst (ds ++ [d])) hl O1' ⟨xs ++ [v2], upd_same, hd.append (.one Dd)⟩ (fun b o hb e => by rw [upd_ne hb]; exact e) fun b e => ?_) rfl hk
  by_cases hb : b = a
  · subst hb; rw [upd_same] at e; cases e
  · rw [upd_ne hb] at e; exact e
theorem w_expr {e : IE} (h : tS G W refs (.expr e) D σ H) : tDrop (tE G W refs e) D σ H := by
  obtain ⟨ρ, Hs, k, R, h, E⟩ := h
  have h : wpE G e ρ fun _ ρ1 => k .nx ρ1 := h
  exact tE_at (Step.refl R) h fun r1 ρ1 v1 Hs1 H1 S1 _ O1 N1 _ hk => E.nx ρ1 σ Hs1 H1 S1 rfl hk
theorem w_sife {c : IC} {a b : ISs} (h : tS G W refs (.ife c a b) D σ H) : tIfS (tT G W refs c) (tSs G W refs a) (tSs G W refs b) D σ H := by
  obtain ⟨ρ, Hs, k, R, h, E⟩ := h
  have h : wpT G c ρ fun t ρ1 => branch t (wpSs G a ρ1 k) (wpSs G b ρ1 k) := h
  refine tT_at (Step.refl R) h fun t ρ1 Hs1 H1 S1 hb => ?_
  cases t with
  | true => exact iteT (tSs_at S1 rfl (hb.1 rfl) E)
  | false => exact iteF (tSs_at S1 rfl (hb.2 rfl) E)
theorem w_ret {e : IE} (h : tS G W refs (.ret e) D σ H) : tRet (tE G W refs e) D σ H := by
  obtain ⟨ρ, Hs, k, R, h, E⟩ := h
  have h : wpE G e ρ fun r ρ1 => k (.rt r) ρ1 := h
  exact tE_at (Step.refl R) h fun r1 ρ1 v1 Hs1 H1 S1 _ O1 N1 _ hk => E.rt r1 ρ1 σ v1 Hs1 H1 S1 O1 N1 hk
theorem w_retN (h : tS G W refs .retN D σ H) : tRetN D σ H := by
  obtain ⟨ρ, Hs, k, R, h, E⟩ := h
  exact E.rt (.val .non) ρ σ .non Hs H (Step.refl R) .non trivial h
theorem w_pass (h : tS G W refs .pass D σ H) : tNext D σ H := by
  obtain ⟨ρ, Hs, k, R, h, E⟩ := h
  exact E.nx ρ σ Hs H (Step.refl R) rfl h
theorem w_brk (h : tS G W refs .brk D σ H) : tBreak D σ H := by
  obtain ⟨ρ, Hs, k, R, h, E⟩ := h
  exact E.bk ρ σ Hs H (Step.refl R) rfl h
theorem w_cnt (h : tS G W refs .cnt D σ H) : tCont D σ H := by
  obtain ⟨ρ, Hs, k, R, h, E⟩ := h
  exact E.ct ρ σ Hs H (Step.refl R) rfl h
theorem w_snil (h : tSs G W refs .nil D σ H) : tNext D σ H := by
  obtain ⟨ρ, Hs, k, R, h, E⟩ := h
  exact E.nx ρ σ Hs H (Step.refl R) rfl h
theorem w_scons {s : IS} {ss : ISs} (h : tSs G W refs (.cons s ss) D σ H) : tSeq (tS G W refs s) (tSs G W refs ss) D σ H := by
  obtain ⟨ρ, Hs, k, R, h, E⟩ := h
  refine ⟨ρ, Hs, _, R, h, ⟨fun ρ' σ' Hs' H' S' l hk => tSs_at S' l hk E, fun ρ' σ' Hs' H' S' l hk => E.bk ρ' σ' Hs' H' S' l hk, fun ρ' σ' Hs' H' S' l hk => E.ct ρ' σ' Hs' H' S' l hk, fun r ρ' σ' v Hs' H' S' O N hk => E.rt r ρ' σ' v Hs' H' S' O N hk⟩⟩
/-- a for -/
theorem w_for {it : IT} {tg : ITg} {b : ISs} (h : tS G W refs (.for it tg b) D σ H) : tFor (tI G W refs it) (tG G W refs tg) (tSs G W refs b) D σ H := by
  obtain ⟨ρ, Hs, k, R, h, E⟩ := h
  have h : wpI G it ρ fun r f ρ1 => cap r ρ1 fun d0 ρ2 => ∃ ds, f d0 = some ds ∧ forW (fun d ρ3 k' => wpG G tg (.val d) ρ3 fun ρ4 => wpSs G b ρ4 k') ds ρ2 k := h
  refine ⟨ρ, Hs, _, R, h, fun r f ρ1 Hs1 H1 v J S1 O1 N1 hk F => ?_⟩
  obtain ⟨d0, ρ2, Hs2, S2, D0, ⟨ds, hf, hl⟩, e2, _⟩ := cap_ok S1 O1 N1 hk
  obtain ⟨Gd, Y, Wk, wG, wY⟩ := F d0 ds hf
  refine for_it Wk (fun i σ' H' => ∃ ρ' Hs', Step W refs ρ σ Hs H ρ' σ' Hs' H' ∧ σ'.length = σ.length ∧ Same Hs2 Hs' ∧ forW (fun d ρ3 k' => wpG G tg (.val d) ρ3 fun ρ4 => wpSs G b ρ4 k') (ds.drop i) ρ' k) ?_ ?_ ?_ ?_
  · exact ⟨ρ2, Hs2, S2, rfl, Same.refl _, hl⟩
  · rintro i σ' H' hi ⟨ρ', Hs', S, _, e', _⟩
    exact wG Hs' H' S.rel.sub ((D0.up e').sh S.rel.sub)
  · rintro i x σ' H' H2 hi ⟨ρ', Hs', S, lσ, e', hl⟩ y
    obtain ⟨Hs3, d', ps, hd', D'⟩ := wY i Hs' H' x H2 hi S.rel.sub ((D0.up e').sh S.rel.sub) y
    have S3 := S.trans (ps.step S.rel)
    have edrop : ds.drop i = d' :: ds.drop (i + 1) := by
      have hi' : i < ds.length := hi
      rw [List.drop_eq_getElem_cons hi']
      have : ds[i] = d' := Option.some.inj ((List.getElem?_eq_getElem hi').symm.trans hd')
      rw [this]
    rw [edrop] at hl
    refine ⟨.val d', ρ', Hs3, _, ρ, σ, Hs, H, S3, D', trivial, hl, fun ρ4 σ4 Hs4 H4 S4 e4 tch h4 => ?_⟩
    have l4 : σ4.length = σ.length := tch.1.trans lσ
    have ex4 : Same Hs2 Hs4 := (e'.trans ps.ex).trans e4
    refine ⟨ρ4, Hs4, _, S4.rel, h4, ⟨fun ρ5 σ5 Hs5 H5 S5 l5 hk5 => ⟨ρ5, Hs5, S4.trans S5, l5.trans l4, ex4.trans S5.ex, hk5⟩, fun ρ5 σ5 Hs5 H5 S5 l5 hk5 => ?_, fun ρ5 σ5 Hs5 H5 S5 l5 hk5 => ⟨ρ5, Hs5, S4.trans S5, l5.trans l4, ex4.trans S5.ex, hk5⟩, fun r5 ρ5 σ5 v5 Hs5 H5 S5 O5 N5 hk5 => ?_⟩⟩
    · exact E.nx ρ5 σ5 Hs5 H5 (S4.trans S5) (l5.trans l4) hk5
    · exact E.rt r5 ρ5 σ5 v5 Hs5 H5 (S4.trans S5) O5 (N5.back S4.live) hk5
  · rintro σ' H' ⟨ρ', Hs', S, lσ, e', hl⟩
    rw [List.drop_length] at hl
    exact E.nx ρ' σ' Hs' H' S lσ hl
end
end EV

set_option maxRecDepth 100000
set_option maxHeartbeats 4000000
/-! EV A: isinstance of own classes, making by a tuple of all arguments, classmethods, while, extend, insert. -/
namespace EV
open PySem L2

/-- what an __init__(self, *rows) promises, by position -/
def starSp (W : Wd) (fi : FI) : Sp := fun vs H Q E => ∃ x rest, vs = x :: rest ∧ rest.length ≤ sizeLine ∧ ∀ p, H p = none → spOf W fi [x, .ref p] (upd H p (.tup rest)) Q E
/-- what a classmethod promises: the class is not looked at -/
def clsSp (W : Wd) (fi : FI) : Sp := fun vs H Q E => ∃ x rest, vs = x :: rest ∧ spOf W fi rest H Q E
def isaTys : List String := ["NoneType", "bool", "int", "str", "tuple", "list"]
/-- what isinstance asks of an own class -/
structure TyC (K : PySem.W.Frag) (C : Addr) : Prop where
  ha : PySem.W.findIn K (.ref C) "__class__" = some (some (.builtin "object.__class__"))
  hn : PySem.W.specialIn K (.builtin "object.__class__") "__get__" = some (some (.builtin "getset_descriptor.__get__"))
  tk : PySem.W.takesIn K (.builtin "object.__class__") = some true
  mr : PySem.W.mroIn K C (.type "object") = some true
section
variable {G : Genv} {W : Wd} {refs : List Addr} {ρ ρ0 : Rho} {σ σ0 : L2.St} {Hs Hs0 H H0 : Hp}

theorem w_isC {c : Str} {C : Addr} {e : IE} {Q : VK} (hcls : ∀ c C, W.cls c = some C → Cls W.K C) (bt : ∀ T ∈ isaTys, PySem.W.kitOne W.K (.type T) (.ref C) = some false)
    (ow : ∀ c' C', W.cls c' = some C' → TyC W.K C' ∧ PySem.W.kitOne W.K (.ref C') (.ref C) = some (decide (c' = c))) (h : tE G W refs (.isC c e) σ H Q) : tE G W refs e σ H fun x H1 => rIsi W.K [x, .ref C] H1 Q := by
  obtain ⟨ρ, Hs, k, R, ⟨_, h⟩, P⟩ := h
  refine tE_at (Step.refl R) h fun r1 ρ1 v1 Hs1 H1 S1 _ O1 N1 _ ⟨d, hd, ok, hk⟩ => ?_
  have hx := O1.sh S1.rel hd
  have go : ∀ b, b = isaD c d → Q (.bl b) H1 := fun b e => by
    subst e
    exact P (.val (.bl (isaD c d))) ρ1 (.bl (isaD c d)) Hs1 H1 S1 (.bl _) trivial hk
  cases hp : plainTop d with
  | true =>
    obtain ⟨t, ht, e⟩ := sh_ty S1.rel.sub hx hp
    have hf : isaD c d = false := by cases d <;> first | rfl | cases hp
    have hm : t ∈ isaTys := by
      cases d <;> first | exact e.elim | (cases e; decide)
    exact ⟨v1, .ref C, .type t, .ref C, false, rfl, .own C, ht, bt t hm, go false hf.symm⟩
  | false =>
    cases d with
    | obj c' ns ds =>
      obtain ⟨a, C', dx, vs, rfl, hC, hH, hn, hD⟩ := hx
      obtain ⟨ty, kt⟩ := ow c' C' hC
      exact ⟨.ref a, .ref C, .ref C', .ref C, decide (c' = c), rfl, .own C, .base (.ins hH (hcls c' C' hC) ty.ha ty.hn ty.tk ty.mr), kt, go _ rfl⟩
    | scr _ => cases ok
    | _ => cases hp

theorem makeV_core {c : Str} {C : Addr} {fi : FI} {Q : VK} {vs : List V} {ds : List DV} {ρ1 : Rho} {Hs1 H1 : Hp} {k : Res → Rho → Prop} (hC : W.cls c = some C) (hm : ∃ ms, fi.modes = true :: ms) (S1 : Step W refs ρ σ Hs H ρ1 σ Hs1 H1) (D : Dens W Hs1 vs ds) (hz : ds.length ≤ sizeLine)
    (hc : callX fi [.tmp (.obj c [] []), .val (.tup ds)] ρ1 fun _ d outs ρ2 => d = .non ∧ ∃ d0 os, outs = d0 :: os ∧ k (.tmp d0) ρ2) (P : Post W refs ρ σ Hs H k Q) :
    ∀ x dx, H1 x = none → H1 dx = none → dx ≠ x → starSp W fi (.ref x :: vs) (upd (upd H1 dx (.own x)) x (.ins C dx [])) (fun v H2 => v = .non ∧ Q (.ref x) H2) E0 := by
  intro x dx hx hdx hne
  refine ⟨.ref x, vs, rfl, by rw [D.length]; exact hz, fun p hp => ?_⟩
  have p1 := PStep.newH S1.rel.sub hdx (.own x)
  have hx' : upd H1 dx (.own x) x = none := by rw [upd_ne hne.symm]; exact hx
  have S2 := S1.trans (p1.step S1.rel)
  have p2 := PStep.newH S2.rel.sub hx' (.ins C dx [])
  have S3 := S2.trans (p2.step S2.rel)
  have p3 := PStep.newB S3.rel.sub hp (.tup vs)
  have S4 := S3.trans (p3.step S3.rel)
  have no : ¬ IsOwn ρ1 σ x := fun z => by
    obtain ⟨_, o, ho⟩ := S1.rel.ownAt z
    rw [hx] at ho; cases ho
  have Ox : ResOk W ρ1 σ Hs1 (upd (upd H1 dx (.own x)) x (.ins C dx [])) (.tmp (.obj c [] [])) (.ref x) := ⟨x, rfl, none_sub S1.rel.sub hx, no, C, dx, [], hC, upd_same, rfl, .nil⟩
  have Ox4 := Ox.step (p3.step S3.rel)
  have Dp : Den W _ (.ref p) (.tup ds) := .tup (SqT.of upd_same) (D.up p3.ex)
  refine callX_ok S4 (.cons Ox4 (.cons (r := .val (.tup ds)) Dp .nil)) (.cons (fun b e => by cases e; exact S1.live x hx) trivial (.cons trivial trivial .nil)) hc fun fr d outs ρx ρ2 v Hs' H' Hs2 ds' as S5 O5 N5 Pa Aa Oa io ⟨hd, d0, os, ho, hk⟩ => ?_
  obtain ⟨ms, hms⟩ := hm
  rw [hms] at Pa Aa
  subst hd ho
  cases ds' with
  | nil => cases Pa
  | cons d1 ds' =>
    cases as with
    | nil => exact Aa.elim
    | cons a as =>
      obtain ⟨e1, n1, o1, _⟩ := Aa
      cases e1
      obtain ⟨⟨n2, o2⟩, _⟩ := (show (Hs' x = none ∧ Own W Hs' H' x d0) ∧ OutsOk W Hs' H' as os from Oa)
      have nox : ¬ IsOwn ρ2 σ x := fun z => by
        cases Pa with
        | byRef Op _ _ _ =>
          obtain ⟨a', e', _, no', _⟩ := Op
          cases e'
          exact no' ((io x).mp z)
      refine ⟨?_, P (.tmp d0) ρ2 _ Hs' H' S5 ⟨x, rfl, n2, nox, o2⟩ (fun b e => by cases e; exact S1.live x hx) hk⟩
      cases fr with
      | true => exact (O5.elim (fun a h => by obtain ⟨_, _, _, z⟩ := h; exact z.elim))
      | false => cases (show Den W Hs' v .non from O5); rfl
theorem w_makeV {c : Str} {C : Addr} {as : IEs} {fi : FI} {Q : VK} (hC : W.cls c = some C) (hf : G.vmak c = some fi) (hm : ∃ ms, fi.modes = true :: ms) (h : tE G W refs (.makeV c as) σ H Q) :
    StX.tMakeR C (starSp W fi) E0 (tA G W refs as) σ H Q := by
  obtain ⟨ρ, Hs, k, R, ⟨fi', e, h⟩, P⟩ := h
  rw [hf] at e; cases e
  refine tA_at (Step.refl R) h fun rs ρ1 vs Hs1 H1 S1 _ O1 N1 _ hc => ?_
  obtain ⟨ds, ρ2, Hs2, S2, D, ⟨hz, hk⟩, _⟩ := capL_ok S1 O1 N1 hc
  exact makeV_core hC hm S2 D hz hk P
/-- C(*e) -/
def tMakeS (K : PySem.W.Frag) (C : Addr) (sp : Sp) (E : XK) (te : TE) : TE := fun σ H Q => te σ H fun y H1 => ∃ a xs, y = V.ref a ∧ (SqT K H1 a xs ∨ SqL K H1 a xs) ∧ ∀ x dx, H1 x = none → H1 dx = none → dx ≠ x →
  sp (.ref x :: xs) (upd (upd H1 dx (.own x)) x (.ins C dx [])) (fun v H2 => v = .non ∧ Q (.ref x) H2) E
theorem w_makeS {c : Str} {C : Addr} {e : IE} {fi : FI} {Q : VK} (hC : W.cls c = some C) (hf : G.vmak c = some fi) (hm : ∃ ms, fi.modes = true :: ms) (h : tE G W refs (.makeS c e) σ H Q) : tMakeS W.K C (starSp W fi) E0 (tE G W refs e) σ H Q := by
  obtain ⟨ρ, Hs, k, R, ⟨fi', e, h⟩, P⟩ := h
  rw [hf] at e; cases e
  refine tE_at (Step.refl R) h fun r1 ρ1 v1 Hs1 H1 S1 _ O1 N1 _ ⟨ds, hds, hz, hc⟩ => ?_
  unfold seqOf at hds
  cases hq : cont ρ1 r1 with
  | none => rw [hq] at hds; cases hds
  | some d =>
    rw [hq] at hds
    have hx := O1.sh S1.rel hq
    cases d with
    | lst es =>
      cases hds
      obtain ⟨a, xs, rfl, h1, h2⟩ := hx
      exact ⟨a, xs, rfl, .inr (SqL.of h1), makeV_core hC hm S1 h2 hz hc P⟩
    | tup es =>
      cases hds
      obtain ⟨a, xs, rfl, h1, h2⟩ := hx
      exact ⟨a, xs, rfl, .inl (same_t S1.rel.sub h1), makeV_core hC hm S1 h2 hz hc P⟩
    | _ => cases hds
theorem pe_makeS {X : Cx} {CX : CXT} {k : Nat} {f C : Addr} {sp : Sp} {E : XK} {x : Str} {e : Expr} {te : TE} {p sp_ pos : Pos} (M : Mk X.K C f) (F : FnR X.prog X.w X.K X.mg X.base CX k f sp) (hr : Room (k + 1) X.A) (hg : Gl X x) (hm : X.mg x = some (.ref C)) (hx : Passes CX X E) (he : PE X e te)
    (hd : (x == ("__debug__" : Str)) = false := by decide) (hst : starEach [.Starred e sp_] X.env = [(true, eval e X.env)] := by rfl) : PE X (.Call (.Name x p) [.Starred e sp_] [] pos) (tMakeS X.K C sp E te) := by
  refine ⟨fun pins s σ H Q I h => ?_⟩
  refine wpAny_Call_Name_kw (ld_glob I hg hm ?_ hd)
  refine PySem.W.callWith_S (h₀ := X.base) I.ok.mod.kin M.kp (thn (he.run pins s σ H _ I h) fun v s1 ⟨y, H1, I1, ry, a, xs, ey, hxs, q⟩ => ?_) hst
  subst ey
  obtain rfl : v = Value.ref a := ry
  exact StX.star_any I1 hxs fun us s2 I2 rv => ⟨I2.kIn, StX.run_makeR M F hr hx I2 rv q⟩
theorem w_cmeth {c m : Str} {C : Addr} {as : IEs} {fi : FI} {Q : VK} (hf : G.cmet c m = some fi) (h : tE G W refs (.cmeth c m as) σ H Q) : ClX.tCMeth C (clsSp W fi) E0 (tC (.ref C)) (tA G W refs as) σ H Q := by
  obtain ⟨ρ, Hs, k, R, ⟨fi', e, h⟩, P⟩ := h
  rw [hf] at e; cases e
  refine ⟨rfl, tA_at (Step.refl R) h fun rs ρ1 vs Hs1 H1 S1 _ O1 N1 _ hc => ⟨.ref C, vs, rfl, callW_ok S1 O1 N1 hc P⟩⟩
section
variable {D : Ends}
theorem w_while {c : IC} {b : ISs} (h : tS G W refs (.while c b) D σ H) : tWhile (tT G W refs c) (tSs G W refs b) D σ H := by
  obtain ⟨ρ, Hs, k, R, ⟨m, h⟩, E⟩ := h
  refine ⟨fun m σ' H' => ∃ ρ' Hs', Step W refs ρ σ Hs H ρ' σ' Hs' H' ∧ σ'.length = σ.length ∧ whileW (fun ρ1 k1 => wpT G c ρ1 k1) (fun ρ1 k1 => wpSs G b ρ1 k1) m ρ' k, ⟨m, ρ, Hs, Step.refl R, rfl, h⟩, ?_⟩
  rintro m σ' H' ⟨ρ', Hs', S, hl, h⟩
  cases m with
  | zero => exact h.elim
  | succ m =>
    have h : wpT G c ρ' fun t ρ1 => branch t (wpSs G b ρ1 fun fl ρ2 => match fl with
      | .nx => whileW (fun ρ1 k1 => wpT G c ρ1 k1) (fun ρ1 k1 => wpSs G b ρ1 k1) m ρ2 k
      | .ct => whileW (fun ρ1 k1 => wpT G c ρ1 k1) (fun ρ1 k1 => wpSs G b ρ1 k1) m ρ2 k
      | .bk => k .nx ρ2
      | .rt r => k (.rt r) ρ2) (k .nx ρ1) := h
    refine tT_at S h fun t ρ1 Hs1 H1 S1 hb => ?_
    cases t with
    | false => exact E.nx ρ1 σ' Hs1 H1 S1 hl (hb.2 rfl)
    | true =>
      refine ⟨fun σ2 H2 => ∃ ρ2 Hs2, Step W refs ρ σ Hs H ρ2 σ2 Hs2 H2 ∧ σ2.length = σ.length ∧ whileW (fun ρ1 k1 => wpT G c ρ1 k1) (fun ρ1 k1 => wpSs G b ρ1 k1) m ρ2 k, fun σ2 H2 z => ⟨m, Nat.lt_succ_self m, z⟩, ?_⟩
      refine ⟨ρ1, Hs1, _, S1.rel, hb.1 rfl, ⟨fun ρ2 σ2 Hs2 H2 S2 l2 hk => ⟨ρ2, Hs2, S1.trans S2, l2.trans hl, hk⟩, fun ρ2 σ2 Hs2 H2 S2 l2 hk => E.nx ρ2 σ2 Hs2 H2 (S1.trans S2) (l2.trans hl) hk,
        fun ρ2 σ2 Hs2 H2 S2 l2 hk => ⟨ρ2, Hs2, S1.trans S2, l2.trans hl, hk⟩, fun r ρ2 σ2 v Hs2 H2 S2 O N hk => E.rt r ρ2 σ2 v Hs2 H2 (S1.trans S2) O (N.back S1.live) hk⟩⟩
theorem w_ext {o v : IE} (h : tS G W refs (.ext o v) D σ H) : tDrop (tBM W.K "list" rExtend (tE G W refs o) (tCons (tE G W refs v) tNil)) D σ H := by
  obtain ⟨ρ, Hs, k, R, h, E⟩ := h
  have h : wpE G o ρ fun ro ρ1 => (∃ ds, cont ρ1 ro = some (.lst ds)) ∧ wpE G v ρ1 fun rv ρ2 => ∃ l t ds es, ro = .loc l ∧ ρ2[l]? = some (.own t (.lst ds)) ∧ cont ρ2 rv = some (.lst es) ∧ ds.length + es.length ≤ sizeLine ∧ k .nx (ρ2.set l (.own t (.lst (ds ++ es)))) := h
  show tE G W refs o σ H fun x H1 => tyV W.K "list" x H1 ∧ tE G W refs v σ H1 fun y H2 => rExtend x [y] H2 fun _ H3 => D.nx σ H3
  refine tE_at (Step.refl R) h fun r1 ρ1 v1 Hs1 H1 S1 _ O1 N1 _ ⟨⟨ds0, hc0⟩, h1⟩ => ?_
  obtain ⟨a0, xs0, ea0, hx0, _⟩ := O1.sh S1.rel hc0
  refine ⟨by subst ea0; exact Or.inl ⟨rfl, _, Or.inl (Or.inl hx0)⟩, ?_⟩
  refine tE_at S1 h1 fun r2 ρ2 v2 Hs2 H2 S2 S02 O2 N2 N02 ⟨l, t, ds, es, el, hl, he, hz, hk⟩ => ?_
  subst el
  have O1' : σ[l]? = some (some v1) := O1
  obtain ⟨a, ea, na, ⟨xs, hx, hd⟩, _⟩ := S02.rel.own l t _ hl
  rw [O1'] at ea; cases ea
  obtain ⟨b, zs, rfl, hb, hdz⟩ := O2.sh S2.rel he
  refine ⟨a, b, xs, zs, rfl, rfl, hx, hb, by rw [hd.length, hdz.length]; exact hz, ?_⟩
  refine E.nx _ σ Hs2 _ (S02.write (d' := .lst (ds ++ es)) hl O1' ⟨xs ++ zs, upd_same, hd.append hdz⟩ (fun b o hb e => by rw [upd_ne hb]; exact e) fun b e => ?_) rfl hk
  by_cases hb : b = a
  · subst hb; rw [upd_same] at e; cases e
  · rw [upd_ne hb] at e; exact e
def rInsert : V → List V → Hp → VK → Prop := fun x vs H Q => ∃ (l : Addr) (xs : List V) (i : Int) (y : V), x = .ref l ∧ vs = [.int i, y] ∧ H l = some (.lst xs) ∧ xs.length < sizeLine ∧ 0 ≤ i ∧ i < 2 ^ 63 ∧
    Q .non (upd H l (.lst (xs.take i.toNat ++ [y] ++ xs.drop i.toNat)))
theorem w_ins {o i v : IE} (h : tS G W refs (.ins o i v) D σ H) : tDrop (tBM W.K "list" rInsert (tE G W refs o) (tCons (tE G W refs i) (tCons (tE G W refs v) tNil))) D σ H := by
  obtain ⟨ρ, Hs, k, R, h, E⟩ := h
  have h : wpE G o ρ fun ro ρ1 => (∃ ds, cont ρ1 ro = some (.lst ds)) ∧ wpE G i ρ1 fun ri ρ2 => wpE G v ρ2 fun rv ρ3 => ∃ z, cont ρ3 ri = some (.int z) ∧ 0 ≤ z ∧ z < 2 ^ 63 ∧ cap rv ρ3 fun d ρ4 => ∃ l t ds, ro = .loc l ∧ ρ4[l]? = some (.own t (.lst ds)) ∧ ds.length < sizeLine ∧
    k .nx (ρ4.set l (.own t (.lst (ds.take z.toNat ++ [d] ++ ds.drop z.toNat)))) := h
  show tE G W refs o σ H fun x H1 => tyV W.K "list" x H1 ∧ tE G W refs i σ H1 fun y H2 => tE G W refs v σ H2 fun w H3 => rInsert x [y, w] H3 fun _ H4 => D.nx σ H4
  refine tE_at (Step.refl R) h fun r1 ρ1 v1 Hs1 H1 S1 _ O1 N1 _ ⟨⟨ds0, hc0⟩, h1⟩ => ?_
  obtain ⟨a0, xs0, ea0, hx0, _⟩ := O1.sh S1.rel hc0
  refine ⟨by subst ea0; exact Or.inl ⟨rfl, _, Or.inl (Or.inl hx0)⟩, ?_⟩
  refine tE_at S1 h1 fun r2 ρ2 v2 Hs2 H2 S2 S02 O2 N2 N02 h2 => ?_
  refine tE_at S02 h2 fun r3 ρ3 v3 Hs3 H3 S3 S03 O3 N3 N03 ⟨z, hi, z0, z1, h3⟩ => ?_
  have hv2 : v2 = .int z := (O2.step S3).sh S3.rel hi
  obtain ⟨d, ρ4, Hs4, S4, Dd, ⟨l, t, ds, el, hl, hz, hk⟩, e4, keep⟩ := cap_ok S03 O3 N03 h3
  subst el
  have O1' : σ[l]? = some (some v1) := O1
  obtain ⟨a, ea, na, ⟨xs, hx, hd⟩, _⟩ := S4.rel.own l t _ hl
  rw [O1'] at ea; cases ea
  subst hv2
  refine ⟨a, xs, z, v3, rfl, rfl, hx, by rw [hd.length]; exact hz, z0, z1, ?_⟩
  refine E.nx _ σ Hs4 _ (S4.write (d' := .lst (ds.take z.toNat ++ [d] ++ ds.drop z.toNat)) hl O1' ⟨xs.take z.toNat ++ [v3] ++ xs.drop z.toNat, upd_same, ((hd.take _).append (.one Dd)).append (hd.drop _)⟩ (fun b o hb e => by rw [upd_ne hb]; exact e) fun b e => ?_) rfl hk
  by_cases hb : b = a
  · subst hb; rw [upd_same] at e; cases e
  · rw [upd_ne hb] at e; exact e
end
end
end EV

set_option maxRecDepth 100000
set_option maxHeartbeats 4000000
/-! EV 11: from the text to the small language. -/
namespace EV
open PySem L2

def plc (x : Str) : List Str → Option Nat
  | [] => none
  | y :: ys => if y = x then some 0 else (plc x ys).map (· + 1)
theorem plc_ok {x : Str} : ∀ {N : List Str} {i : Nat}, plc x N = some i → N[i]? = some x
  | [], _, h => by cases h
  | y :: ys, i, h => by
    unfold plc at h
    by_cases e : y = x
    · rw [if_pos e] at h; cases h; simp [e]
    · rw [if_neg e] at h
      cases q : plc x ys with
      | none => rw [q] at h; cases h
      | some j =>
        rw [q] at h
        have h : j + 1 = i := Option.some.inj h
        subst h
        simpa using plc_ok q
def visB (sc : Scope) (x : Str) : Bool := match sc.names.lookup x with
  | some .local => true
  | some .cell => true
  | some .free => true
  | _ => false
def glB (sc : Scope) (x : Str) : Bool := match sc.names.lookup x with
  | some .globalImplicit => true
  | _ => false
def locB (sc : Scope) (x : Str) : Bool := match sc.names.lookup x with
  | some .local => true
  | _ => false
def cellB (sc : Scope) (x : Str) : Bool := match sc.names.lookup x with
  | some .cell => true
  | _ => false
def okName (x : Str) : Bool := !(x == ("__debug__" : Str)) && !(x == ("__classdict__" : Str)) && !(x == ("__name__" : Str))
theorem visB_ok {sc : Scope} {x : Str} (h : visB sc x = true) : Vis sc x := by
  unfold visB at h
  unfold Vis
  split at h <;> simp_all
theorem glB_ok {sc : Scope} {x : Str} (h : glB sc x = true) : sc.names.lookup x = some .globalImplicit := by
  unfold glB at h
  split at h <;> simp_all
theorem locB_ok {sc : Scope} {x : Str} (h : locB sc x = true) : sc.names.lookup x = some .local := by
  unfold locB at h
  split at h <;> simp_all
theorem cellB_ok {sc : Scope} {x : Str} (h : cellB sc x = true) : sc.names.lookup x = some .cell := by
  unfold cellB at h
  split at h <;> simp_all
theorem okName_ok {x : Str} (h : okName x = true) : (x == ("__debug__" : Str)) = false ∧ (x == ("__classdict__" : Str)) = false ∧ x ≠ "__name__" := by
  unfold okName at h
  simp only [Bool.and_eq_true, Bool.not_eq_true'] at h
  exact ⟨h.1.1, h.1.2, by have := h.2; intro z; subst z; simp at this⟩

def binP : Operator → Option Prim
  | .Add => some .add
  | .Sub => some .sub
  | .Mult => some .mul
  | .FloorDiv => some .fdiv
  | .Mod => some .mod
  | .Pow => some .pow
  | _ => none
def cmpP : CmpOp → Option Prim
  | .Eq => some .eq
  | .NotEq => some .ne
  | .Lt => some .lt
  | .LtE => some .le
  | .Gt => some .gt
  | .GtE => some .ge
  | .In => some .isin
  | .NotIn => some .notin
  | _ => none
/-- a built-in of one argument, of two -/
def blt1 (x : Str) : Option Prim :=
  if x = "len" then some .len else if x = "abs" then some .abs else if x = "int" then some .int1 else if x = "str" then some .str1 else if x = "tuple" then some .tuple1 else if x = "list" then some .list1
  else if x = "sum" then some .sum else if x = "all" then some .all else if x = "any" then some .any else if x = "max" then some .maxL else if x = "min" then some .minL else if x = "sorted" then some .sorted else none
def blt2 (x : Str) : Option Prim :=
  if x = "max" then some .max2 else if x = "min" then some .min2 else if x = "divmod" then some .divmod else none
def isT (x : Str) : Option Prim := if x = "int" then some .isInt else if x = "bool" then some .isBool else if x = "tuple" then some .isTup else if x = "str" then some .isStr else none
def bltNames : List Str := ["len", "abs", "int", "str", "tuple", "list", "sum", "all", "any", "max", "min", "divmod", "isinstance", "bool", "range", "enumerate", "sorted", "zip", "repr"]
def isStar : Expr → Bool
  | .Starred _ _ => true
  | _ => false
def isSlice : Expr → Bool
  | .Slice _ _ _ _ => true
  | _ => false
def isSet : Expr → Bool
  | .Set _ _ _ => true
  | _ => false
def isNone : Expr → Bool
  | .Constant .none _ _ => true
  | _ => false
def isComp : Expr → Bool
  | .ListComp _ _ _ _ => true
  | .SetComp _ _ _ _ => true
  | .DictComp _ _ _ _ _ => true
  | _ => false
def isTup2 : Expr → Bool
  | .Tuple _ _ _ => true
  | _ => false
def supB : Expr → Bool
  | .Call (.Name _ _) [] [] _ => true
  | _ => false
def starE : Expr → Expr
  | .Starred e _ => e
  | e => e
/-- the own names of a comprehension's block with their places -/
def ownOf (N : List Str) (sc : Scope) : List (Str × Nat) := sc.names.filterMap fun y => match y.2 with
  | .local => (plc y.1 N).map fun i => (y.1, i)
  | .cell => (plc y.1 N).map fun i => (y.1, i)
  | _ => none

/-- a call of a def, the making of an instance -/
def mkOf (o : Option Str) (x : Str) (is : IEs) : IE := match o with
  | none => .call x is
  | some c => if c = "*" then .makeV x is else .make x is
/-- the names of keywords -/
def kwNames : List Keyword → Option (List Str)
  | [] => some []
  | k :: r => match k.arg, kwNames r with
    | some x, some xs => some (x :: xs)
    | _, _ => none
mutual
def compE : Nat → (Str → Option Str) → List Str → Scope → Expr → Option IE
  | 0, _, _, _, _ => none
  | n + 1, mc, N, sc, e => match e with
    | .Name x _ => if okName x then (if visB sc x then (plc x N).map .var else if glB sc x then some (.glb x) else none) else none
    | .Constant (.int i) _ _ => some (.cst (.int i))
    | .Constant (.bool b) _ _ => some (.cst (.bl b))
    | .Constant .none _ _ => some (.cst .non)
    | .Constant (.str x) _ _ => some (.cst (.str x))
    | .BinOp a op b _ => match binP op, compE n mc N sc a, compE n mc N sc b with
      | some p, some i, some j => some (.prim p (.cons i (.cons j .nil)))
      | _, _, _ => none
    | .UnaryOp .USub a _ => (compE n mc N sc a).map fun i => .prim .neg (.cons i .nil)
    | .UnaryOp .Not a _ => (compE n mc N sc a).map .not1
    | .BoolOp op vs _ => compB n mc N sc op vs
    | .IfExp c a b _ => match compT n mc N sc c, compE n mc N sc a, compE n mc N sc b with
      | some k, some i, some j => some (.ife k i j)
      | _, _, _ => none
    | .Compare a ops bs _ => match ops, bs with
      | [.Is], [b] => if isNone b then (compE n mc N sc a).map fun i => .prim .isN (.cons i .nil) else none
      | [.IsNot], [b] => if isNone b then (compE n mc N sc a).map fun i => .prim .notN (.cons i .nil) else none
      | [op], [b] => if isSet b then none else match cmpP op, compE n mc N sc a, compE n mc N sc b with
        | some p, some i, some j => some (.prim p (.cons i (.cons j .nil)))
        | _, _, _ => none
      | [op, op'], [b, c] => if isSet c then none else match cmpP op, cmpP op', compE n mc N sc a, compE n mc N sc b, compE n mc N sc c with
        | some p, some q, some i, some j, some l => some (.chain p q i j l)
        | _, _, _, _, _ => none
      | [op, op', op''], [b, c, d] => if isSet d then none else match cmpP op, cmpP op', cmpP op'', compE n mc N sc a, compE n mc N sc b, compE n mc N sc c, compE n mc N sc d with
        | some p, some q, some r, some i, some j, some l, some m => some (.chain3 p q r i j l m)
        | _, _, _, _, _, _, _ => none
      | _, _ => none
    | .Tuple es _ _ => (compA n mc N sc es).map .tup
    | .List es _ => (compA n mc N sc es).map .lst
    | .Subscript e (.Slice lo hi none _) _ => match compE n mc N sc e, compO n mc N sc lo, compO n mc N sc hi with
      | some i, some l, some h => some (.slc i l h)
      | _, _, _ => none
    | .Subscript e i _ => if isSlice i then none else match compE n mc N sc e, compE n mc N sc i with
      | some a, some b => some (.prim .ix (.cons a (.cons b .nil)))
      | _, _ => none
    | .Attribute e f _ => if supB e then none else (compE n mc N sc e).map fun i => .fld i f
    | .Call f as ks pos => match ks with
      | [] => compC n mc N sc f as pos
      | k :: r => match as, kwNames (k :: r) with
        | [], some nms => (match f with
          | .Name x _ => if okName x && glB sc x then (match mc x with
            | some _ => (compK n mc N sc (k :: r)).map (.makeK x nms)
            | none => (compK n mc N sc (k :: r)).map (.callK x nms)) else none
          | .Attribute o m apos => if supB o || !(apos.endLine == pos.line) || !((k :: r).length < 29) then none else match mc m, compE n mc N sc o, compK n mc N sc (k :: r) with
            | some c, some i, some is => some (.methK c i m nms is)
            | _, _, _ => none
          | _ => none)
        | _, _ => none
    | .ListComp elt gs scope _ => match gs with
      | [⟨tg, iter, ifs, 0⟩] => if blkC N sc scope (ownOf N scope) then
          match compI n mc N sc (isTup2 tg) iter, compG n mc N (relS scope sc) false tg, compTs n mc N (relS scope sc) ifs, compE n mc N (relS scope sc) elt with
          | some it, some t, some c, some e => if (tgs t).all fun j => ((ownOf N scope).map (·.2)).contains j then some (.lc it t c e ((ownOf N scope).map (·.2))) else none
          | _, _, _, _ => none
        else none
      | _ => none
    | _ => none
def compB : Nat → (Str → Option Str) → List Str → Scope → BoolOp → List Expr → Option IE
  | 0, _, _, _, _, _ => none
  | n + 1, mc, N, sc, op, vs => match vs with
    | [] => none
    | [a] => compE n mc N sc a
    | a :: b :: r => match compE n mc N sc a, compB n mc N sc op (b :: r) with
      | some i, some j => some (match op with | .And => .and2 i j | .Or => .or2 i j)
      | _, _ => none
def compT : Nat → (Str → Option Str) → List Str → Scope → Expr → Option IC
  | 0, _, _, _, _ => none
  | n + 1, mc, N, sc, e => match e with
    | .BoolOp op vs _ => compTB n mc N sc op vs
    | .UnaryOp .Not a _ => (compT n mc N sc a).map .not1
    | .IfExp _ _ _ _ => none
    | .Compare a ops bs pos => (compE n mc N sc (.Compare a ops bs pos)).map .val
    | e => (compE n mc N sc e).map .val
def compTB : Nat → (Str → Option Str) → List Str → Scope → BoolOp → List Expr → Option IC
  | 0, _, _, _, _, _ => none
  | n + 1, mc, N, sc, op, vs => match vs with
    | [] => none
    | [a] => compT n mc N sc a
    | a :: b :: r => match compT n mc N sc a, compTB n mc N sc op (b :: r) with
      | some i, some j => some (match op with | .And => .and2 i j | .Or => .or2 i j)
      | _, _ => none
def compTs : Nat → (Str → Option Str) → List Str → Scope → List Expr → Option IC
  | 0, _, _, _, _ => none
  | n + 1, mc, N, sc, es => match es with
    | [] => some .tt
    | [c] => compT n mc N sc c
    | _ => none
def compA : Nat → (Str → Option Str) → List Str → Scope → List Expr → Option IEs
  | 0, _, _, _, _ => none
  | n + 1, mc, N, sc, es => match es with
    | [] => some .nil
    | e :: r => if isStar e then (match compE n mc N sc (starE e), compA n mc N sc r with
        | some i, some is => some (.star i is)
        | _, _ => none)
      else match compE n mc N sc e, compA n mc N sc r with
        | some i, some is => some (.cons i is)
        | _, _ => none
def compO : Nat → (Str → Option Str) → List Str → Scope → Option Expr → Option IO
  | 0, _, _, _, _ => none
  | n + 1, mc, N, sc, o => match o with
    | none => some .no
    | some e => (compE n mc N sc e).map .so
def compC : Nat → (Str → Option Str) → List Str → Scope → Expr → List Expr → Pos → Option IE
  | 0, _, _, _, _, _, _ => none
  | n + 1, mc, N, sc, f, as, pos => match f with
    | .Name x _ => if okName x && glB sc x && as.all (fun a => !isStar a) then (match as with
        | [] => some (.call x .nil)
        | [a] => match blt1 x with
          | some p => (compE n mc N sc a).map fun i => .prim p (.cons i .nil)
          | none => (compA n mc N sc [a]).map (mkOf (mc x) x)
        | [a, b] => if x = "isinstance" then (match b with
            | .Name t _ => if okName t && glB sc t then (match isT t, compE n mc N sc a with
                | some p, some i => some (.prim p (.cons i .nil))
                | none, some i => some (.isC t i)
                | _, none => none) else none
            | _ => none)
          else match blt2 x with
          | some p => (match compE n mc N sc a, compE n mc N sc b with
            | some i, some j => some (.prim p (.cons i (.cons j .nil)))
            | _, _ => none)
          | none => (compA n mc N sc [a, b]).map (mkOf (mc x) x)
        | a :: r => (compA n mc N sc (a :: r)).map (mkOf (mc x) x))
      else if okName x && glB sc x then (match as with
        | [.Starred e _] => (compE n mc N sc e).map (.makeS x)
        | _ => none) else none
    | .Attribute o m apos => if supB o || !(apos.endLine == pos.line) || as.any isStar || !(as.length < 30) then none else match as with
      | [] => match mc m, compE n mc N sc o with
        | some c, some i => some (.meth c i m .nil)
        | _, _ => none
      | a :: r => if m = "split" then (match r, compE n mc N sc o, compE n mc N sc a with
          | [], some i, some j => some (.tm .split i j)
          | _, _, _ => none)
        else if m = "join" then (match r, compE n mc N sc o, compE n mc N sc a with
          | [], some i, some j => some (.tm .join i j)
          | _, _, _ => none)
        else if mc m = some "@" then (match o with
          | .Name x _ => if okName x && glB sc x then (compA n mc N sc (a :: r)).map (.cmeth x m) else none
          | _ => none)
        else match mc m, compE n mc N sc o, compA n mc N sc (a :: r) with
          | some c, some i, some is => some (.meth c i m is)
          | _, _, _ => none
    | _ => none
def compG : Nat → (Str → Option Str) → List Str → Scope → Bool → Expr → Option ITg
  | 0, _, _, _, _, _ => none
  | n + 1, mc, N, sc, top, e => match e with
    | .Name x _ => if locB sc x || (top && cellB sc x) then (plc x N).map .nm else none
    | .Subscript o i _ => if isSlice i then none else match compE n mc N sc o, compE n mc N sc i with
      | some a, some b => some (.sub a b)
      | _, _ => none
    | .Tuple es _ _ => (compGs n mc N sc top es).map .tp
    | _ => none
def compGs : Nat → (Str → Option Str) → List Str → Scope → Bool → List Expr → Option ITgs
  | 0, _, _, _, _, _ => none
  | n + 1, mc, N, sc, top, es => match es with
    | [] => some .nil
    | e :: r => if isStar e then none else match compG n mc N sc top e, compGs n mc N sc top r with
      | some t, some ts => some (.cons t ts)
      | _, _ => none
def compI : Nat → (Str → Option Str) → List Str → Scope → Bool → Expr → Option IT
  | 0, _, _, _, _, _ => none
  | n + 1, mc, N, sc, tt, e => match e with
    | .Call (.Name x _) [a] [] _ => if okName x && glB sc x && x = "range" then (compE n mc N sc a).map .range1 else if x = "enumerate" then (if okName x && glB sc x && tt then (compE n mc N sc a).map .enum else none) else (compE n mc N sc e).map .seq
    | .Call (.Name x _) [a, b] [] _ => if okName x && glB sc x && x = "range" then (match compE n mc N sc a, compE n mc N sc b with
        | some i, some j => some (.range2 i j)
        | _, _ => none) else if x = "range" then none else (compE n mc N sc e).map .seq
    | .Call (.Name x _) [a, b, c] [] _ => if okName x && glB sc x && x = "range" then (match compE n mc N sc a, compE n mc N sc b, compE n mc N sc c with
        | some i, some j, some l => some (.range3 i j l)
        | _, _, _ => none) else if x = "range" then none else (compE n mc N sc e).map .seq
    | .Set _ _ _ => none
    | e => (compE n mc N sc e).map .seq
def compK : Nat → (Str → Option Str) → List Str → Scope → List Keyword → Option IEs
  | 0, _, _, _, _ => none
  | n + 1, mc, N, sc, ks => match ks with
    | [] => some .nil
    | k :: r => match compE n mc N sc k.value, compK n mc N sc r with
      | some i, some is => some (.cons i is)
      | _, _ => none
end
/-- what the machine does with a, b = x, y: the names stored from the right, where it does so -/
def swN (sc : Scope) (ts : List Expr) : List Str := ts.filterMap fun
      | .Name id pos => if sc.names.lookup id == some .local && pos.line == ((ts.head?.map (·.pos.line)).getD 0) then some id else none
      | _ => none
def swapC (sc : Scope) (ts vs : List Expr) : Option (Option (List Str)) :=
  if (!(ts.length == 2 || ts.length == 3) || vs.length != ts.length) = true then some none
  else if vs.any isStar = true then some none
  else if ((swN sc ts).length != ts.length || (swN sc ts).eraseDups.length != (swN sc ts).length) = true then some none
  else if vs.all (foldedForSure 8) = true then some none
  else if vs.all (constantsAlone 8) = true then none
  else some (some (swN sc ts))
mutual
def compS : Nat → (Str → Option Str) → List Str → Scope → Stmt → Option IS
  | 0, _, _, _, _ => none
  | n + 1, mc, N, sc, st => match st with
    | .Assign tg e pos => match tg with
      | [.Tuple ts k tp] => (match e with
        | .Tuple vs k2 vp => match swapC sc ts vs with
          | some none => (match compG n mc N sc true (.Tuple ts k tp), compE n mc N sc e with
            | some t, some i => some (.asg t i)
            | _, _ => none)
          | some (some nm) => (match ts, vs with
            | [.Name x _, .Name y _], [a, b] => if locB sc x && locB sc y && !(x = y) && decide (nm = [x, y]) then (match plc x N, plc y N, compE n mc N sc a, compE n mc N sc b with
              | some i, some j, some p, some q => if isStar a || isStar b then none else some (.par2 i j p q)
              | _, _, _, _ => none) else none
            | [.Name x _, .Name y _, .Name z _], [a, b, c] => if locB sc x && locB sc y && locB sc z && !(x = y) && !(x = z) && !(y = z) && decide (nm = [x, y, z]) then (match plc x N, plc y N, plc z N, compE n mc N sc a, compE n mc N sc b, compE n mc N sc c with
              | some i, some j, some l, some p, some q, some r => if isStar a || isStar b || isStar c then none else some (.par3 i j l p q r)
              | _, _, _, _, _, _ => none) else none
            | _, _ => none)
          | none => none
        | e => if isComp e then none else match compG n mc N sc true (.Tuple ts k tp), compE n mc N sc e with
          | some t, some i => some (.asg t i)
          | _, _ => none)
      | [.Name x px] => (match e with
        | .ListComp elt gs scope lp => if locB sc x && (px.line == lp.line) && (px.line == lp.line) then
            (if (scope.names.any fun (n, k) => n == x && (k == .local || k == .cell)) then none else match plc x N, compE n mc N sc e with
              | some i, some c => some (.asg (.nm i) c)
              | _, _ => none)
          else if cellB sc x then (match plc x N, compE n mc N sc e with
              | some i, some c => some (.asg (.nm i) c)
              | _, _ => none)
          else none
        | e => if isComp e then none else match compG n mc N sc true (.Name x px), compE n mc N sc e with
          | some t, some i => some (.asg t i)
          | _, _ => none)
      | [.Attribute o f ap] => if isComp e then none else match compE n mc N sc e, compE n mc N sc o with
          | some i, some j => some (.setF j f i)
          | _, _ => none
      | [.Subscript o i sp] => if isComp e then none else match compG n mc N sc true (.Subscript o i sp), compE n mc N sc e with
          | some t, some i => some (.asg t i)
          | _, _ => none
      | _ => none
    | .AugAssign (.Name x _) op e _ => if locB sc x || cellB sc x then (match op, plc x N, compE n mc N sc e with
        | .Add, some i, some a => some (.aug i false a)
        | .Sub, some i, some a => some (.aug i true a)
        | _, _, _ => none) else none
    | .For tg iter body [] _ => if isSet iter then none else match compI n mc N sc (isTup2 tg) iter, compG n mc N sc true tg, compSs n mc N sc body with
      | some it, some t, some b => some (.for it t b)
      | _, _, _ => none
    | .If c a b _ => match compT n mc N sc c, compSs n mc N sc a, compSs n mc N sc b with
      | some t, some x, some y => some (.ife t x y)
      | _, _, _ => none
    | .Return none _ => some .retN
    | .Return (some e) _ => (compE n mc N sc e).map .ret
    | .Expr (.Constant (.str _) _ _) _ => some .pass
    | .Expr (.Call (.Attribute o m apos) [v] [] cpos) _ => if m = "append" && !supB o && (apos.endLine == cpos.line) && !isStar v then (match compE n mc N sc o, compE n mc N sc v with
        | some i, some j => some (.app i j)
        | _, _ => none)
      else if m = "extend" && !supB o && (apos.endLine == cpos.line) && !isStar v then (match compE n mc N sc o, compE n mc N sc v with
        | some i, some j => some (.ext i j)
        | _, _ => none)
      else (compE n mc N sc (.Call (.Attribute o m apos) [v] [] cpos)).map .expr
    | .Expr (.Call (.Attribute o m apos) [v, w] [] cpos) _ => if m = "insert" && !supB o && (apos.endLine == cpos.line) && !isStar v && !isStar w then (match compE n mc N sc o, compE n mc N sc v, compE n mc N sc w with
        | some i, some j, some l => some (.ins i j l)
        | _, _, _ => none)
      else (compE n mc N sc (.Call (.Attribute o m apos) [v, w] [] cpos)).map .expr
    | .Expr e _ => if isComp e then none else (compE n mc N sc e).map .expr
    | .While c b [] _ => match compT n mc N sc c, compSs n mc N sc b with
      | some t, some x => some (.while t x)
      | _, _ => none
    | .Raise _ _ _ => some .never
    | .Pass _ => some .pass
    | .Break _ => some .brk
    | .Continue _ => some .cnt
    | _ => none
def compSs : Nat → (Str → Option Str) → List Str → Scope → List Stmt → Option ISs
  | 0, _, _, _, _ => none
  | n + 1, mc, N, sc, ss => match ss with
    | [] => some .nil
    | s :: r => match compS n mc N sc s, compSs n mc N sc r with
      | some i, some is => some (.cons i is)
      | _, _ => none
end
end EV

set_option maxRecDepth 100000
set_option maxHeartbeats 4000000
/-! EV 12: the small language says what the text does. -/
namespace EV
open PySem L2

/-- the keywords' values in the parameters' order, behind what is given by position -/
def gK {α : Type} (ord : List Nat) (us ws : List α) : List α := us ++ permW ord ws
/-- the names' facts in a context: the same at each of a def's blocks -/
structure Wok (G : Genv) (W : Wd) (mc : Str → Option Str) (N : List Str) (L : Nat) (X : Cx) : Prop where
  hK : X.K = W.K
  hN : X.N = N
  hnd : N.Nodup
  hcalm : X.calm = true
  hxe : X.xe = fun _ _ => False
  hroom : Room (L + 1) X.A
  hkind : X.env.scope.kind = .function
  hblt : ∀ x ∈ bltNames, X.mg x = none
  hcon : ∀ x d, G.con x = some d → ∃ v u, X.mg x = some u ∧ RelV v u ∧ ∀ Hs, Den W Hs v d
  hfns : ∀ f fi, G.fns f = some fi → ∃ fa fd ps, X.mg f = some (.ref fa) ∧ PySem.W.keepIn X.K (.ref fa) = true ∧ FnOk X.prog X.w X.K X.mg X.base CX0 L fa fd ps (spOf W fi) ∧ Binds X.K fd ps [] ∧ ∀ ks ord, G.kwo f ks = some ord → KBn X.K fd ps 0 ks (gK ord) (gK ord)
  hcls : ∀ c C, W.cls c = some C → Cls X.K C
  hfld : ∀ c C f, W.cls c = some C → G.isFld c f = true → NoAttr X.K C f
  hprop : ∀ c C f fi, W.cls c = some C → G.prop c f = some fi → ∃ p g fd ps, PropOf X.K C f p g ∧ FnOk X.prog X.w X.K X.mg X.base CX0 L g fd ps (spOf W fi) ∧ Binds X.K fd ps []
  hmeth : ∀ c m fi, G.meth c m = some fi → ∃ C g fd ps, W.cls c = some C ∧ Meth X.K C m g ∧ FnOk X.prog X.w X.K X.mg X.base CX0 L g fd ps (spOf W fi) ∧ Binds X.K fd ps [] ∧ ∀ ks ord, G.kwo m ks = some ord → KBn X.K fd ps 1 ks (gK ord) (gK ord)
  hmak : ∀ c fi, G.mak c = some fi → ∃ C g fd ps ms, W.cls c = some C ∧ X.mg c = some (.ref C) ∧ fi.modes = true :: ms ∧ Mk X.K C g ∧ FnOk X.prog X.w X.K X.mg X.base CX0 L g fd ps (spOf W fi) ∧ Binds X.K fd ps [] ∧ ∀ ks ord, G.kwo c ks = some ord → KBn X.K fd ps 1 ks (gK ord) (gK ord)
  hisc : ∀ c, G.isc c = true → ∃ C, W.cls c = some C ∧ X.mg c = some (.ref C) ∧ (∀ T ∈ isaTys, PySem.W.kitOne X.K (.type T) (.ref C) = some false) ∧ ∀ c' C', W.cls c' = some C' → TyC X.K C' ∧ PySem.W.kitOne X.K (.ref C') (.ref C) = some (decide (c' = c))
  hvmak : ∀ c fi, G.vmak c = some fi → ∃ C g, W.cls c = some C ∧ X.mg c = some (.ref C) ∧ (∃ ms, fi.modes = true :: ms) ∧ Mk X.K C g ∧ FnR X.prog X.w X.K X.mg X.base CX0 L g (starSp W fi)
  hcmet : ∀ c m fi, G.cmet c m = some fi → ∃ C mv p g, X.mg c = some (.ref C) ∧ ClX.CRead X.K C mv ∧ ClX.CMet X.K C mv m p g ∧ FnR X.prog X.w X.K X.mg X.base CX0 L g (clsSp W fi)
theorem Wok.blk {G : Genv} {W : Wd} {mc : Str → Option Str} {N : List Str} {L : Nat} {X : Cx} (w : Wok G W mc N L X) (s : Shared) (H : Hp) (scope : Scope) (C : Addr) (cl : List (Str × Addr)) (fp : List Addr) (hk : scope.kind = .function) :
    Wok G W mc N L (X.blk s H scope (compEnvC scope cl C X.env) fp) :=
  ⟨w.hK, w.hN, w.hnd, w.hcalm, rfl, w.hroom, hk, w.hblt, w.hcon, w.hfns, w.hcls, w.hfld, w.hprop, w.hmeth, w.hmak, w.hisc, w.hvmak, w.hcmet⟩

section
variable {G : Genv} {W : Wd} {refs : List Addr} {mc : Str → Option Str} {N : List Str} {L : Nat} {X : Cx} {sc : Scope}

theorem not_star {e : Expr} {es : List Expr} (h : isStar e = false) (env : Env) : starEach (e :: es) env = (false, eval e env) :: starEach es env := by
  cases e <;> first | rfl | cases h
theorem not_slice {e : Expr} (h : isSlice e = false) : PlainIx e := by
  intro o i
  cases e <;> first | rfl | cases h
theorem not_set {e : Expr} (h : isSet e = false) (env : Env) : ∀ x, foldedSetIterable e env x = pure x := by
  intro x
  cases e <;> first | rfl | cases h
theorem not_mark {op : CmpOp} {e : Expr} (h : isSet e = false) : behindInMarks op e = false := by
  cases e <;> first | rfl | cases h
theorem not_mark2 {op op' : CmpOp} {e e' : Expr} (h : isSet e' = false) : lastMarks [op, op'] [e, e'] = false := by
  show behindInMarks op' e' = false
  exact not_mark h
theorem not_sup {e : Expr} {f : Str} {env : Env} {w : Sem Value} (h : supB e = false) : attributeBase e f env w = w := by
  unfold attributeBase
  split
  · cases h
  · rfl
theorem not_comp {e : Expr} {t : Option Expr} {l : Nat} {env : Env} (h : isComp e = false) : swapsWith e t l env = pure false := by
  cases e <;> first | rfl | cases h
theorem gl_of (hs : X.env.scope = sc) {x : Str} (h : glB sc x = true) : Gl X x := by
  show X.env.scope.names.lookup x = _
  rw [hs]; exact glB_ok h
theorem vis_of (hs : X.env.scope = sc) {x : Str} (h : visB sc x = true) : Vis X.env.scope x := by rw [hs]; exact visB_ok h
theorem plain_any (pos : Pos) : ∀ {es : List Expr} {env : Env}, (∀ e ∈ es, isStar e = false) → (backTo pos (starEach es env)).any (·.1) = false
  | [], _, _ => rfl
  | e :: es, env, h => by
    rw [not_star (h e List.mem_cons_self) env]
    unfold backTo
    rw [List.map_cons, List.any_cons]
    have := plain_any pos (es := es) (env := env) fun e he => h e (List.mem_cons_of_mem _ he)
    unfold backTo at this
    rw [this]; rfl

theorem cmp_fine {p : Prim} (h : p = .eq ∨ p = .ne ∨ p = .lt ∨ p = .le ∨ p = .gt ∨ p = .ge ∨ p = .isin ∨ p = .notin) : IsCmp p := by
  intro d e k hk
  rcases h with rfl | rfl | rfl | rfl | rfl | rfl | rfl | rfl
  · exact ⟨hk.1, hk.2.1, ⟨_, rfl⟩, hk.2.2⟩
  · exact ⟨hk.1, hk.2.1, ⟨_, rfl⟩, hk.2.2⟩
  · cases d <;> cases e <;> first | exact False.elim hk | exact ⟨⟨_, rfl⟩, hk⟩
  · cases d <;> cases e <;> first | exact False.elim hk | exact ⟨⟨_, rfl⟩, hk⟩
  · cases d <;> cases e <;> first | exact False.elim hk | exact ⟨⟨_, rfl⟩, hk⟩
  · cases d <;> cases e <;> first | exact False.elim hk | exact ⟨⟨_, rfl⟩, hk⟩
  · cases d <;> cases e <;> first | exact False.elim hk | exact ⟨⟨_, rfl⟩, hk⟩ | exact ⟨hk.1, hk.2.1, ⟨_, rfl⟩, hk.2.2⟩
  · cases d <;> cases e <;> first | exact False.elim hk | exact ⟨⟨_, rfl⟩, hk⟩ | exact ⟨hk.1, hk.2.1, ⟨_, rfl⟩, hk.2.2⟩

/-- the rule of a binary operator -/
theorem bin_rule (hK : X.K = W.K) {op : Operator} {p : Prim} (h : binP op = some p) : ∃ r, OpR X (binaryOp op) r ∧ PI2 W p r := by
  cases op <;> cases h
  · exact ⟨_, by rw [← hK]; exact op_addAll, pi_add⟩
  · exact ⟨_, op_sub, pi_sub⟩
  · exact ⟨_, op_mulAll, pi_mul⟩
  · exact ⟨_, op_mod, pi_mod⟩
  · exact ⟨_, op_pow, pi_pow⟩
  · exact ⟨_, op_fdiv, pi_fdiv⟩
theorem cmp_rule (hK : X.K = W.K) (hu : X.A.units + 64 < cLine) {op : CmpOp} {p : Prim} (h : cmpP op = some p) : ∃ r, OpR X (compareOp op) r ∧ PI2 W p r ∧ IsCmp p := by
  cases op <;> cases h
  · exact ⟨_, by rw [← hK]; exact op_eqD hu, pi_eq, cmp_fine (by simp)⟩
  · exact ⟨_, by rw [← hK]; exact op_neD hu, pi_ne, cmp_fine (by simp)⟩
  · exact ⟨_, op_lt, pi_lt, cmp_fine (by simp)⟩
  · exact ⟨_, op_le, pi_le, cmp_fine (by simp)⟩
  · exact ⟨_, op_gt, pi_gt, cmp_fine (by simp)⟩
  · exact ⟨_, op_ge, pi_ge, cmp_fine (by simp)⟩
  · exact ⟨_, by rw [← hK]; exact op_inAll, pi_isin, cmp_fine (by simp)⟩
  · exact ⟨_, by rw [← hK]; exact op_notinAll, pi_notin, cmp_fine (by simp)⟩
/-- is None -/
theorem pi_isN : ∀ (Hs H : Hp) (x : V) (d : DV) (k : PR → Prop) (Q : VK), Same Hs H → Sh W Hs H x d → evalP .isN [d] k → PPost W Hs H k Q → Q (.bl (decide (x = .non))) H := fun Hs H x d k Q s hx h q => by
  have : decide (x = V.non) = (match d with | .non => true | _ => false) := by
    cases d with
    | non => cases (show x = _ from hx); rfl
    | bl b => cases (show x = _ from hx); rfl
    | int b => cases (show x = _ from hx); rfl
    | str b => cases (show x = _ from hx); rfl
    | tup b => obtain ⟨_, _, rfl, _⟩ := hx; rfl
    | lst b => obtain ⟨_, _, rfl, _⟩ := hx; rfl
    | scr b => obtain ⟨_, _, rfl, _⟩ := hx; rfl
    | obj _ _ _ => obtain ⟨_, _, _, _, rfl, _⟩ := hx; rfl
  rw [this]
  exact q.flat s (.bl _) (by cases d <;> exact h)
theorem pi_notN : ∀ (Hs H : Hp) (x : V) (d : DV) (k : PR → Prop) (Q : VK), Same Hs H → Sh W Hs H x d → evalP .notN [d] k → PPost W Hs H k Q → Q (.bl (!decide (x = .non))) H := fun Hs H x d k Q s hx h q => by
  have : (!decide (x = V.non)) = (match d with | .non => false | _ => true) := by
    cases d with
    | non => cases (show x = _ from hx); rfl
    | bl b => cases (show x = _ from hx); rfl
    | int b => cases (show x = _ from hx); rfl
    | str b => cases (show x = _ from hx); rfl
    | tup b => obtain ⟨_, _, rfl, _⟩ := hx; rfl
    | lst b => obtain ⟨_, _, rfl, _⟩ := hx; rfl
    | scr b => obtain ⟨_, _, rfl, _⟩ := hx; rfl
    | obj _ _ _ => obtain ⟨_, _, _, _, rfl, _⟩ := hx; rfl
  rw [this]
  exact q.flat s (.bl _) (by cases d <;> exact h)
theorem w_isN {a : IE} {σ : L2.St} {H : Hp} {Q : VK} (h : tE G W refs (.prim .isN (.cons a .nil)) σ H Q) : tIsN (tE G W refs a) σ H Q := prim1_w (r := fun x H Q => Q (.bl (decide (x = .non))) H) pi_isN h
theorem w_notN {a : IE} {σ : L2.St} {H : Hp} {Q : VK} (h : tE G W refs (.prim .notN (.cons a .nil)) σ H Q) : tNotN (tE G W refs a) σ H Q := prim1_w (r := fun x H Q => Q (.bl (!decide (x = .non))) H) pi_notN h
theorem wt_isN {a : IE} {σ : L2.St} {H : Hp} {Q : Bool → Hp → Prop} (h : tT G W refs (.val (.prim .isN (.cons a .nil))) σ H Q) : tB (tIsN (tE G W refs a)) σ H Q :=
  prim1_tw (r := fun x H Q => Q (.bl (decide (x = .non))) H) pi_isN (fun d k hk => by cases d <;> exact ⟨⟨_, rfl⟩, hk⟩) h
theorem wt_notN {a : IE} {σ : L2.St} {H : Hp} {Q : Bool → Hp → Prop} (h : tT G W refs (.val (.prim .notN (.cons a .nil))) σ H Q) : tB (tNotN (tE G W refs a)) σ H Q :=
  prim1_tw (r := fun x H Q => Q (.bl (!decide (x = .non))) H) pi_notN (fun d k hk => by cases d <;> exact ⟨⟨_, rfl⟩, hk⟩) h
theorem wt_chain {p q : Prim} {a b c : IE} {r r' : R2} {σ : L2.St} {H : Hp} {Q : Bool → Hp → Prop} (pi : PI2 W p r) (pi' : PI2 W q r') (ic : IsCmp q) (h : tT G W refs (.val (.chain p q a b c)) σ H Q) : tTest (tChain r r' (tE G W refs a) (tE G W refs b) (tE G W refs c)) σ H Q := by
  obtain ⟨ρ, Hs, k, R, h, P⟩ := h
  have h : wpE G a ρ fun r1 ρ1 => wpE G b ρ1 fun r2 ρ2 => ∃ d e, cont ρ2 r1 = some d ∧ cont ρ2 r2 = some e ∧ evalP p [d, e] fun pr =>
      ∃ t, pr = .it (.bl t) ∧ branch t (wpE G c ρ2 fun r3 ρ3 => ∃ d' f, cont ρ3 r2 = some d' ∧ cont ρ3 r3 = some f ∧ evalP q [d', f] fun pr' => ∃ d b, cont ρ3 (ofPR pr') = some d ∧ truth d = some b ∧ k b ρ3) (∃ d b, cont ρ2 (.val (.bl false)) = some d ∧ truth d = some b ∧ k b ρ2) := h
  show tChain r r' _ _ _ σ H fun x H' => ∃ k, x = .bl k ∧ Q k H'
  refine tE_at (Step.refl R) h fun r1 ρ1 v1 Hs1 H1 S1 _ O1 N1 _ h1 => ?_
  refine tE_at S1 h1 fun r2 ρ2 v2 Hs2 H2 S2 S02 O2 N2 _ ⟨d, e, c1, c2, h2⟩ => ?_
  refine pi Hs2 H2 v1 v2 d e _ _ S2.rel.sub ((O1.step S2).sh S2.rel c1) (O2.sh S2.rel c2) h2 fun pr v' Hs' H' ps ok ⟨t, et, hb⟩ => ?_
  subst et
  cases (show Den W Hs' v' (.bl t) from ok)
  have S3 := ps.step S2.rel
  refine ⟨t, rfl, ?_⟩
  cases t with
  | true =>
    refine iteT (tE_at (S02.trans S3) (hb.1 rfl) fun r3 ρ3 v3 Hs3 H3 S4 S04 O3 N3 _ ⟨d', f, c3, c4, h3⟩ => ?_)
    refine pi' Hs3 H3 v2 v3 d' f _ _ S4.rel.sub (((O2.step S3).step S4).sh S4.rel c3) (O3.sh S4.rel c4) (ic d' f _ h3) fun pr v' Hs' H' ps' ok' hk => ?_
    obtain ⟨⟨b, rfl⟩, d5, b5, e1, e2, kk⟩ := hk
    cases e1
    cases e2
    cases (show Den W Hs' v' (.bl b) from ok')
    exact ⟨b, rfl, P b ρ3 Hs' H' (S04.trans (ps'.step S04.rel)) kk⟩
  | false =>
    obtain ⟨d5, b5, e1, e2, kk⟩ := hb.2 rfl
    cases e1
    cases e2
    exact iteF ⟨false, rfl, P false ρ2 Hs' H' (S02.trans S3) kk⟩
end
end EV

set_option maxRecDepth 100000
set_option maxHeartbeats 4000000
/-! EV 18: enumerate over a list, over a tuple; range with a step; fields set; keywords. -/
namespace EV
open PySem L2

/-! ### enumerate(tuple) -/
theorem meets_enumT (l : Addr) (items : Array Value) (n : Nat) (dct : Option Addr) (sl : Array (Option Value)) :
    Meets (Builtin.«enumerate.__new__» ⟨[.type "enumerate", .ref l], []⟩) (fun _ R s => s.heap.get? l = some { cls := .type "tuple", dict := dct, data := .seq items n, slots := sl } ∧
      R (.ok (.ret (.ref (s.heap.push { cls := .type "tuple_iterator", data := .fields #[.ref l, .int 0 0] }).objs.size)))
        { s with heap := (s.heap.push { cls := .type "tuple_iterator", data := .fields #[.ref l, .int 0 0] }).push { cls := .type "enumerate", data := .fields #[.none, .bool false, .ref s.heap.objs.size, rawInt 0, .none, .none] } }) :=
  .of_wp fun prog w A R s h => by
    obtain ⟨hp, g, d, tk, os⟩ := s; obtain ⟨hl, h⟩ := h
    have hsub := sub_enumerate
    have hL : Heap.IsTuple (Shared.heap ⟨hp, g, d, tk, os⟩) l items := ⟨_, hl, rfl, n, rfl⟩
    wp_walk using AutoSeq1.wpAny_loadPart' hl
    refine wpAny_stack_any fun st => wpAny_pure ?_
    split
    · rename_i c _ _ _ _ _
      cases (c == Value.type "enumerate")
      · wp_walk using AutoSeq1.wpAny_loadPart' hl, wpAny_pyIter_tuple hL
        exact ⟨_, rfl, h⟩
      · wp_walk using AutoSeq1.wpAny_loadPart' hl, wpAny_pyIter_tuple hL
        exact ⟨_, rfl, h⟩
    · wp_walk using AutoSeq1.wpAny_loadPart' hl, wpAny_pyIter_tuple hL
      exact ⟨_, rfl, h⟩
section
variable {prog : Program} {w : World} {A : Around} {E : Value → Shared → Prop} {s : Shared}
theorem call_enumT {l : Addr} {items : Array Value} {Q : Value → Shared → Prop} (hL : s.heap.IsTuple l items)
    (h : ∀ h', IsEnum h' (s.heap.objs.size + 1) s.heap.objs.size 0 .none → h'.IsTupleIter s.heap.objs.size l 0 → h'.objs.size = s.heap.objs.size + 2 →
      (∀ b o, s.heap.get? b = some o → h'.get? b = some o) → Q (.ref (s.heap.objs.size + 1)) { s with heap := h' }) :
    wpAny (model prog w) A (call (.type "enumerate") [.ref l]) Q E s := by
  obtain ⟨⟨c, dct, dt, sl⟩, hl, hc, n, hd⟩ := hL
  replace hc : c = .type "tuple" := hc
  replace hd : dt = .seq items n := hd
  subst hc hd
  refine callType_new F.called_enumerate (by decide) (F.typeCall_enumerate_1 _) (F.newCall_enumerate_1 _) (fun obj => F.args_object_init_2 obj _) F.entry_enumerate_new
    (meets_enumT l items n dct sl) ⟨hl, ?_⟩
  have hz : (s.heap.push { cls := .type "tuple_iterator", data := .fields #[.ref l, .int 0 0] }).objs.size = s.heap.objs.size + 1 := Heap.size_push ..
  show _ ∧ _
  rw [hz]
  have he : IsEnum ((s.heap.push { cls := .type "tuple_iterator", data := .fields #[.ref l, .int 0 0] }).push
      { cls := .type "enumerate", data := .fields #[.none, .bool false, .ref s.heap.objs.size, rawInt 0, .none, .none] }) (s.heap.objs.size + 1) s.heap.objs.size 0 .none := by
    have := Heap.get?_push_size (s.heap.push { cls := .type "tuple_iterator", data := .fields #[.ref l, .int 0 0] })
      (o := { cls := .type "enumerate", data := .fields #[.none, .bool false, .ref s.heap.objs.size, rawInt 0, .none, .none] }) rfl
    rw [hz] at this; exact this
  refine ⟨⟨_, he, rfl⟩, h _ he ⟨_, Heap.get?_push_of_some _ (Heap.get?_push_size _ rfl), rfl, rfl⟩ (by rw [Heap.size_push, hz]) fun b o x => Heap.get?_push_of_some _ (Heap.get?_push_of_some _ x)⟩
end
theorem next_enumT_end {prog : Program} {w : World} {A : Around} {E : Value → Shared → Prop} {s : Shared} {e it l : Addr} {i : Nat} {items : Array Value} {old : Value} {Q : Option Value → Shared → Prop} (hh : A.handled = none) (he : IsEnum s.heap e it (i : Int) old)
    (hit : s.heap.IsTupleIter it l i) (hl : s.heap.IsTuple l items) (hx : items[i]? = none) (hQ : ∀ h', Heap.ExtBut it s.heap h' → Q none { s with heap := h' }) : wpAny (model prog w) A (pyNext (.ref e)) Q E s := by
  have hT : s.TypeIs (.ref e) "enumerate" := ⟨_, he, rfl⟩
  unfold pyNext
  refine wpAny_bind (wpAny_attempt (wpAny_callSpecial?_slot (name := Str.ofString "__next__") hT F.slot_enumerate_next
    (wpAny_call_entry F.slot_enumerate_next hT F.entry_enumerate_next ?_ (F.args_enumerate_next_1 _))))
  show wpAny _ _ (field (.ref e) 2 >>= _) _ _ _
  refine wpAny_bind (wpAny_field he rfl (x := .ref it) rfl ?_)
  refine wpAny_bind (wpAny_nextOf_tuple_end hh hit hl hx fun h' x he' hx' => ?_)
  obtain ⟨o, ho, hc⟩ := hx'
  refine wpAny_bind (wpAny_isInstance (T := "StopIteration") (b := true) ⟨o, ho, hc⟩ isSubtype_stop ?_)
  exact wpAny_pure (hQ _ he')
/-- the tuple at a, each item in a new pair -/
def ItT (K : PySem.W.Frag) (a : Addr) : It :=
  ⟨fun i H => ∃ (xs : List V) (x : V), SqT K H a xs ∧ xs[i]? = some x, fun i H v H' => ∃ T x, v = .ref T ∧ H T = none ∧ H' = upd H T (.tup [.int (i : Nat), x]) ∧ ∀ xs, SqT K H a xs → xs[i]? = some x, fun i H => ∃ xs : List V, SqT K H a xs ∧ xs.length ≤ i⟩
theorem turn_enumT {P : Program} {w : World} {K : PySem.W.Frag} {elts : List Expr} {kk : Nat} {tpos : Pos} (a e it : Addr) :
    Turn P w K (.Tuple elts kk tpos) (ItT K a) [e, it] e (fun i h => (∃ old, IsEnum h e it ((i : Nat) : Int) old) ∧ h.IsTupleIter it a i ∧ e ≠ it) where
  mem := by simp
  obj := fun i h st b hb => by
    obtain ⟨⟨old, he⟩, ⟨o, ho, hc, hd⟩, _⟩ := st
    have e' : b = e ∨ b = it := by simpa using hb
    rcases e' with z | z
    · rw [z]; exact ⟨_, he, fun v q => nomatch q⟩
    · rw [z]; exact ⟨o, ho, fun v q => by rw [hd] at q; cases q⟩
  keep := fun i h h' st k => let ⟨⟨old, he⟩, hi, hne⟩ := st; ⟨⟨old, k e (by simp) _ he⟩, hi.at fun o q => k it (by simp) o q, hne⟩
  item := by
    intro X hP hw hK hc i pins s σ H E I hf st hg
    subst hP hw hK
    obtain ⟨⟨old, he⟩, hit, hne⟩ := st
    obtain ⟨xs, x, hq, hx⟩ := hg
    obtain ⟨its, rv, p, hz⟩ := I.tuple hq
    have p : s.heap.IsTuple a its.toArray := p
    obtain ⟨u, hu, ru⟩ := rv.get hx
    have hel : e < s.heap.objs.size := Heap.lt_size he
    have hil : it < s.heap.objs.size := by obtain ⟨_, q, _⟩ := hit; exact Heap.lt_size q
    have hai : a ≠ it := fun z => by
      subst z
      obtain ⟨o1, q1, c1, _⟩ := hit
      obtain ⟨o2, q2, c2, _⟩ := p
      rw [q1] at q2
      cases q2
      rw [c1] at c2
      exact absurd (Value.type.inj c2) (by decide)
    have hea : e ≠ a := fun z => by
      subst z
      obtain ⟨o2, q2, c2, _⟩ := p
      have he' : s.heap.get? e = some _ := he
      rw [he'] at q2
      cases q2
      exact absurd (Value.type.inj c2) (by decide)
    have hi : i < its.toArray.size := by
      have := (List.getElem?_eq_some_iff.mp hu).1
      simpa using this
    refine wpAny_pyNext_enum_itemD (Draws.tuple (prog := X.prog) (w := X.w) (A := X.A.in1) (I.ok.hd hc) it a hai its.toArray) he ⟨hit, p⟩ hi hne (by simp [hne, hea]) fun x' h' tk hP ho st' hT hsz hk => ?_
    have ex : x' = u := by
      have hP : its.toArray[i]? = some x' := hP
      have : its[i]? = some x' := by simpa using hP
      rw [hu] at this
      exact (Option.some.inj this).symm
    subst ex
    refine ⟨_, rfl, wpAny_letOwnedTupleGo_enum (s := { s with heap := h', toks := tk + 1 }) ho fun h'' he' sb => ?_⟩
    have hT2 : h''.get? s.heap.objs.size = some { cls := .type "tuple", data := .seq #[.int i tk, x'] } := (sb.2 _ (Nat.ne_of_gt hel)).trans hT
    have new : ObjOk X.prog X.w (upd H s.heap.objs.size (.tup [.int (i : Nat), x])) h'' s.heap.objs.size (.tup [.int (i : Nat), x]) :=
      ⟨by show 2 ≤ sizeLine; decide, [.int i tk, x'], .cons ⟨_, rfl⟩ (.cons ru .nil), ⟨_, hT2, rfl, _, rfl⟩⟩
    have I1 : Inv X pins σ (upd H s.heap.objs.size (.tup [.int (i : Nat), x])) { s with heap := h'', toks := tk + 1 } :=
      I.turnedNew (ch := [e, it]) (fun b ob hb q => (sb.2 b (fun z => hb (by simp [z]))).trans (hk b ob (fun z => hb (by simp [z])) (fun z => hb (by simp [z])) q)) hf (Nat.le_refl _) new
    refine ⟨.ref s.heap.objs.size, _, I1, rfl, ⟨_, x, rfl, I.hok.fresh (Nat.le_refl _), rfl, fun ys hy => by rw [I.tuple_inj hy hq]; exact hx⟩, ⟨⟨x', ?_⟩, st'.1.at fun o q => (sb.2 it (Ne.symm hne)).trans q, hne⟩, fun b hb => ?_⟩
    · have e1 : ((i + 1 : Nat) : Int) = (i : Int) + 1 := by omega
      rw [e1]; exact he'
    · have hb' : b < s.heap.objs.size := by
        have e' : b = e ∨ b = it := by simpa using hb
        rcases e' with z | z
        · rw [z]; exact hel
        · rw [z]; exact hil
      rw [upd_ne (Nat.ne_of_lt hb')]
      exact (hf b hb).1
  done := by
    intro X hP hw hK hc i pins s σ H E I hf st hg
    subst hP hw hK
    obtain ⟨⟨old, he⟩, hit, hne⟩ := st
    obtain ⟨xs, hq, hx⟩ := hg
    obtain ⟨its, rv, p, hz⟩ := I.tuple hq
    have p : s.heap.IsTuple a its.toArray := p
    obtain ⟨f0, f1, f2, f3, f4, f5⟩ := hf it (by simp)
    have hl := rv.length
    exact next_enumT_end (I.ok.hd hc) he hit p (by simp; omega) fun h' eb => ⟨rfl, I.turned (t' := s.toks) (fun b o hb q => eb b o hb q) f0 f1 f3 f4 f5⟩
  self := fun A i s Q E st h => let ⟨⟨_, he⟩, _⟩ := st; wpAny_pyIter_enum he h
/-- enumerate of a list, of a tuple -/
def iEnumA (K : PySem.W.Frag) (ta : TA) : TI := fun σ H R => ta σ H fun vs H1 => ∃ a, vs = [.ref a] ∧ ((∃ xs, SqL K H1 a xs ∧ R (Ite K a) H1) ∨ ∃ xs, SqT K H1 a xs ∧ R (ItT K a) H1)
theorem pi_enumA {X : Cx} {e : Expr} {ta : TA} {p pos tpos : Pos} {elts : List Expr} {kk : Nat} (hg : Gl X "enumerate") (hm : X.mg "enumerate" = none) (ha : PA X [e] ta) (hs : starEach [e] X.env = [(false, eval e X.env)] := by rfl) :
    PI X (.Tuple elts kk tpos) (.Call (.Name "enumerate" p) [e] [] pos) (iEnumA X.K ta) := by
  refine ⟨fun pins s σ H R I h => ?_⟩
  refine PyProof.Rows.Call_ (ld_blt I hg hm rfl (PyProof.Rows.callWith_type1 (thn (ha.run pos pins s σ H _ I h) fun us s1 ⟨vs, H1, I1, r1, q1⟩ => ?_) hs rfl))
  obtain ⟨a, ex, q⟩ := q1
  subst ex
  cases r1 with
  | cons r rr =>
    cases rr
    cases r
    have fp : ∀ b ∈ [s1.heap.objs.size + 1, s1.heap.objs.size], FpOk X pins H1 b := fun b hb => by
      have e' : b = s1.heap.objs.size + 1 ∨ b = s1.heap.objs.size := by simpa using hb
      have hle : s1.heap.objs.size ≤ b := by
        rcases e' with z | z
        · rw [z]; exact Nat.le_add_right _ _
        · rw [z]; exact Nat.le_refl _
      exact I1.fpOk hle (I1.hok.fresh hle)
    rcases q with ⟨xs, hq, q⟩ | ⟨xs, hq, q⟩
    · obtain ⟨its, rv, p', hz⟩ := I1.list hq
      refine call_enumerate_list p'.isList fun h' he hit hsz hk => wpAny_pyIter_enum he ?_
      have I2 : Inv X pins σ H1 { s1 with heap := h' } := I1.kept (t' := s1.toks) hk
      exact ⟨s1.heap.objs.size + 1, [s1.heap.objs.size + 1, s1.heap.objs.size], _, _, H1, rfl, I2, turn_enum a (s1.heap.objs.size + 1) s1.heap.objs.size, ⟨⟨.none, he⟩, hit, Nat.succ_ne_self _⟩, fp, q⟩
    · obtain ⟨its, rv, p', hz⟩ := I1.tuple hq
      refine call_enumT (show s1.heap.IsTuple a its.toArray from p') fun h' he hit hsz hk => wpAny_pyIter_enum he ?_
      have I2 : Inv X pins σ H1 { s1 with heap := h' } := I1.kept (t' := s1.toks) hk
      exact ⟨s1.heap.objs.size + 1, [s1.heap.objs.size + 1, s1.heap.objs.size], _, _, H1, rfl, I2, turn_enumT a (s1.heap.objs.size + 1) s1.heap.objs.size, ⟨⟨.none, he⟩, hit, Nat.succ_ne_self _⟩, fp, q⟩
section
variable {G : Genv} {W : Wd} {refs : List Addr} {ρ ρ' ρ0 : Rho} {σ σ' σ0 : L2.St} {Hs Hs' Hs0 H H' H0 : Hp}
theorem pairsE_len {ds : List DV} : (pairsE ds).length = ds.length := by simp [pairsE]
theorem pairsE_get {ds : List DV} {i : Nat} {d : DV} (h : ds[i]? = some d) : (pairsE ds)[i]? = some (.tup [.int (i : Nat), d]) := by
  unfold pairsE
  rw [List.getElem?_map, List.getElem?_zipIdx, h]
  simp
/-- a new pair -/
theorem pair_step (s : Same Hs H) {T : Addr} {i : Nat} {x : V} {d : DV} (hT : H T = none) (D : Den W Hs x d) : ∃ Hs', PStep Hs H Hs' (upd H T (.tup [.int (i : Nat), x])) ∧ Den W Hs' (.ref T) (.tup [.int (i : Nat), d]) := by
  have p1 := PStep.newH (Hs := Hs) s hT (.tup [.int (i : Nat), x])
  refine ⟨upd Hs T (.tup [.int (i : Nat), x]), PStep.newB s hT (.tup [.int (i : Nat), x]), ?_⟩
  refine .tup (.inl (.inl upd_same)) (.cons (.int _) (.cons (D.up fun b o e => ?_) .nil))
  have hb : b ≠ T := fun z => by subst z; rw [s _ _ e] at hT; cases hT
  rw [upd_ne hb]; exact e
theorem feeds_enum {a : Addr} : Feeds W enumL (.ref a) (Ite W.K a) := by
  intro d ds e
  cases d <;> cases e
  rename_i ds
  rw [pairsE_len]
  refine ⟨fun H => ∃ xs, H a = some (.lst xs) ∧ xs.length = ds.length, fun i H v H' => ∃ T x, v = .ref T ∧ H T = none ∧ H' = upd H T (.tup [.int (i : Nat), x]) ∧ ∀ xs, H a = some (.lst xs) → xs[i]? = some x, ⟨fun i H hi ⟨xs, hx, hl⟩ => ?_, fun H ⟨xs, hx, hl⟩ => ?_, fun i H x H' hi ⟨xs, hx, hl⟩ y => ?_⟩, fun Hs H s ⟨a', xs, e1, hx, hD⟩ => ?_, fun i Hs H v H' hi s ⟨a', xs, e1, hx, hD⟩ ⟨T, x, ev, hT, eH, y⟩ => ?_⟩
  · have hi' : i < xs.length := by rw [hl]; exact hi
    exact ⟨xs, xs[i], SqL.of hx, by simp [hi']⟩
  · exact ⟨xs, SqL.of hx, by rw [hl]; exact Nat.le_refl _⟩
  · obtain ⟨T, x, h1, h2, h3, h4⟩ := y
    exact ⟨T, x, h1, h2, h3, fun xs' h' => h4 xs' (SqL.of h')⟩
  · cases e1; exact ⟨xs, hx, hD.length⟩
  · cases e1
    subst ev eH
    obtain ⟨d', h1, h2⟩ := hD.getV (y xs hx)
    obtain ⟨Hs', ps, D'⟩ := pair_step (i := i) s hT h2
    exact ⟨Hs', _, ps, pairsE_get h1, D'⟩
theorem feeds_enumT {a : Addr} : Feeds W enumT (.ref a) (ItT W.K a) := by
  intro d ds e
  cases d <;> cases e
  rename_i ds
  rw [pairsE_len]
  refine ⟨fun H => ∃ xs, SqT W.K H a xs ∧ xs.length = ds.length, fun i H v H' => ∃ T x, v = .ref T ∧ H T = none ∧ H' = upd H T (.tup [.int (i : Nat), x]) ∧ ∀ xs, SqT W.K H a xs → xs[i]? = some x, ⟨fun i H hi ⟨xs, hx, hl⟩ => ?_, fun H ⟨xs, hx, hl⟩ => ?_, fun i H x H' hi ⟨xs, hx, hl⟩ y => y⟩, fun Hs H s ⟨a', xs, e1, hx, hD⟩ => ?_, fun i Hs H v H' hi s ⟨a', xs, e1, hx, hD⟩ ⟨T, x, ev, hT, eH, y⟩ => ?_⟩
  · have hi' : i < xs.length := by rw [hl]; exact hi
    exact ⟨xs, xs[i], hx, by simp [hi']⟩
  · exact ⟨xs, hx, by rw [hl]; exact Nat.le_refl _⟩
  · cases e1; exact ⟨xs, same_t s hx, hD.length⟩
  · cases e1
    subst ev eH
    obtain ⟨d', h1, h2⟩ := hD.getV (y xs (same_t s hx))
    obtain ⟨Hs', ps, D'⟩ := pair_step (i := i) s hT h2
    exact ⟨Hs', _, ps, pairsE_get h1, D'⟩
theorem w_ienum {e : IE} {R : It → Hp → Prop} (h : tI G W refs (.enum e) σ H R) : iEnumA W.K (tCons (tE G W refs e) tNil) σ H R := by
  obtain ⟨ρ, Hs, k, Rl, h, P⟩ := h
  have h : wpE G e ρ fun r ρ1 => byKind (cont ρ1 r) (k r enumL ρ1) (k r enumT ρ1) := h
  refine tE_at (Step.refl Rl) h fun r1 ρ1 v1 Hs1 H1 S1 _ O1 N1 _ hb => ?_
  cases hc : cont ρ1 r1 with
  | none => rw [hc] at hb; exact hb.elim
  | some d =>
    rw [hc] at hb
    have sh := O1.sh S1.rel hc
    cases d with
    | lst ds =>
      obtain ⟨a, xs, rfl, hx, hD⟩ := sh
      exact ⟨a, rfl, .inl ⟨xs, SqL.of hx, P r1 enumL ρ1 Hs1 H1 _ _ S1 O1 N1 hb feeds_enum⟩⟩
    | tup ds =>
      obtain ⟨a, xs, rfl, hx, hD⟩ := sh
      exact ⟨a, rfl, .inr ⟨xs, same_t S1.rel.sub hx, P r1 enumT ρ1 Hs1 H1 _ _ S1 O1 N1 hb feeds_enumT⟩⟩
    | _ => exact hb.elim
end
end EV

set_option maxRecDepth 100000
set_option maxHeartbeats 4000000
/-! EV 19: a op b op c op d. -/
namespace EV
open PySem L2
/-- a op1 b op2 c op3 d -/
def tChain3 (r r' r'' : R2) (ta tb tc td : TE) : TE := fun σ H Q => ta σ H fun x H1 => tb σ H1 fun y H2 => r x y H2 fun z H3 => ∃ k, z = .bl k ∧
  (if k = true then tc σ H3 fun w' H4 => r' y w' H4 fun z' H5 => ∃ k', z' = .bl k' ∧ (if k' = true then td σ H5 fun v' H6 => r'' w' v' H6 Q else Q (.bl false) H5) else Q (.bl false) H3)
section
variable {X : Cx} {a b c d : Expr} {ta tb tc td : TE} {pos : Pos}
theorem pe_chain3 {op op' op'' : CmpOp} {r r' r'' : R2} (ho : OpR X (compareOp op) r) (ho' : OpR X (compareOp op') r') (ho'' : OpR X (compareOp op'') r'') (ha : PE X a ta) (hb : PE X b tb) (hc : PE X c tc) (hd : PE X d td)
    (hm : lastMarks [op, op', op''] [b, c, d] = false) : PE X (.Compare a [op, op', op''] [b, c, d] pos) (tChain3 r r' r'' ta tb tc td) := by
  refine ⟨fun pins s σ H Q I h => ?_⟩
  refine PyProof.Rows.Compare_chain (thn (ha.run pins s σ H _ I h) fun v s1 ⟨x, H1, I1, r1, q1⟩ => PyProof.Rows.chain_link (thn (hb.run pins s1 σ H1 _ I1 q1) fun u s2 ⟨y, H2, I2, r2, q2⟩ =>
    thn (ho pins s2 σ H2 x y v u _ I2 r1 r2 q2) fun e s3 ⟨z, H3, I3, r3, k, ek, q3⟩ => ?_)) hm
  subst ek
  cases r3
  refine wpAny_truthy_bool ?_
  cases k with
  | false => exact PyProof.Rows.ite_ff ⟨.bl false, H3, I3, rfl, q3⟩
  | true =>
    refine PyProof.Rows.ite_tt (PyProof.Rows.chain_link (thn (hc.run pins s3 σ H3 _ I3 q3) fun w' s4 ⟨z4, H4, I4, r4, q4⟩ => thn (ho' pins s4 σ H4 y z4 u w' _ I4 r2 r4 q4) fun e' s5 ⟨z5, H5, I5, r5, k', ek', q5⟩ => ?_))
    subst ek'
    cases r5
    refine wpAny_truthy_bool ?_
    cases k' with
    | false => exact PyProof.Rows.ite_ff ⟨.bl false, H5, I5, rfl, q5⟩
    | true => exact PyProof.Rows.ite_tt (PyProof.Rows.chain_last (thn (hd.run pins s5 σ H5 _ I5 q5) fun w6 s6 ⟨z6, H6, I6, r6, q6⟩ => ho'' pins s6 σ H6 z4 z6 w' w6 Q I6 r4 r6 q6))
theorem pt_chain3 {op op' op'' : CmpOp} {r r' r'' : R2} (ho : OpR X (compareOp op) r) (ho' : OpR X (compareOp op') r') (ho'' : OpR X (compareOp op'') r'') (ha : PE X a ta) (hb : PE X b tb) (hc : PE X c tc) (hd : PE X d td)
    (hm : lastMarks [op, op', op''] [b, c, d] = false) : PT X (.Compare a [op, op', op''] [b, c, d] pos) (tTest (tChain3 r r' r'' ta tb tc td)) := by
  refine ⟨fun pins s σ H Q I h => ?_⟩
  refine PyProof.Rows.isTrue_chain (thn (ha.run pins s σ H _ I h) fun v s1 ⟨x, H1, I1, r1, q1⟩ => PyProof.Rows.test_link (thn (hb.run pins s1 σ H1 _ I1 q1) fun u s2 ⟨y, H2, I2, r2, q2⟩ =>
    thn (ho pins s2 σ H2 x y v u _ I2 r1 r2 q2) fun e s3 ⟨z, H3, I3, r3, k, ek, q3⟩ => ?_)) hm
  subst ek
  cases r3
  refine wpAny_truthy_bool ?_
  cases k with
  | false =>
    obtain ⟨k', e', q'⟩ := q3
    cases e'
    exact PyProof.Rows.ite_ff ⟨H3, I3, q'⟩
  | true =>
    refine PyProof.Rows.ite_tt (PyProof.Rows.test_link (thn (hc.run pins s3 σ H3 _ I3 q3) fun w' s4 ⟨z4, H4, I4, r4, q4⟩ => thn (ho' pins s4 σ H4 y z4 u w' _ I4 r2 r4 q4) fun e' s5 ⟨z5, H5, I5, r5, k', ek', q5⟩ => ?_))
    subst ek'
    cases r5
    refine wpAny_truthy_bool ?_
    cases k' with
    | false =>
      obtain ⟨k', e', q'⟩ := q5
      cases e'
      exact PyProof.Rows.ite_ff ⟨H5, I5, q'⟩
    | true =>
      refine PyProof.Rows.ite_tt (PyProof.Rows.test_last (thn (hd.run pins s5 σ H5 _ I5 q5) fun w6 s6 ⟨z6, H6, I6, r6, q6⟩ => thn (ho'' pins s6 σ H6 z4 z6 w' w6 _ I6 r4 r6 q6) fun e7 s7 ⟨z7, H7, I7, r7, k7, ek7, q7⟩ => ?_))
      subst ek7
      cases r7
      exact wpAny_truthy_bool ⟨H7, I7, q7⟩
theorem not_mark3 {op op' op'' : CmpOp} {e e' e'' : Expr} (h : isSet e'' = false) : lastMarks [op, op', op''] [e, e', e''] = false := by
  show behindInMarks op'' e'' = false
  exact not_mark h
end
section
variable {G : Genv} {W : Wd} {refs : List Addr}
theorem w_chain3 {p q s : Prim} {a b c e : IE} {r r' r'' : R2} {σ : L2.St} {H : Hp} {Q : VK} (pi : PI2 W p r) (pi' : PI2 W q r') (pi'' : PI2 W s r'') (h : tE G W refs (.chain3 p q s a b c e) σ H Q) : tChain3 r r' r'' (tE G W refs a) (tE G W refs b) (tE G W refs c) (tE G W refs e) σ H Q := by
  obtain ⟨ρ, Hs, k, R, h, P⟩ := h
  have h : wpE G a ρ fun r1 ρ1 => wpE G b ρ1 fun r2 ρ2 => ∃ d1 d2, cont ρ2 r1 = some d1 ∧ cont ρ2 r2 = some d2 ∧ evalP p [d1, d2] fun pr =>
      ∃ t, pr = .it (.bl t) ∧ branch t (wpE G c ρ2 fun r3 ρ3 => ∃ d2' d3, cont ρ3 r2 = some d2' ∧ cont ρ3 r3 = some d3 ∧ evalP q [d2', d3] fun pr' =>
        ∃ t', pr' = .it (.bl t') ∧ branch t' (wpE G e ρ3 fun r4 ρ4 => ∃ d3' d4, cont ρ4 r3 = some d3' ∧ cont ρ4 r4 = some d4 ∧ evalP s [d3', d4] fun pr'' => k (ofPR pr'') ρ4) (k (.val (.bl false)) ρ3)) (k (.val (.bl false)) ρ2) := h
  refine tE_at (Step.refl R) h fun r1 ρ1 v1 Hs1 H1 S1 _ O1 N1 _ h1 => ?_
  refine tE_at S1 h1 fun r2 ρ2 v2 Hs2 H2 S2 S02 O2 N2 _ ⟨d, e, c1, c2, h2⟩ => ?_
  refine pi Hs2 H2 v1 v2 d e _ _ S2.rel.sub ((O1.step S2).sh S2.rel c1) (O2.sh S2.rel c2) h2 fun pr v' Hs' H' ps ok ⟨t, et, hb⟩ => ?_
  subst et
  cases (show Den W Hs' v' (.bl t) from ok)
  have S3 := ps.step S2.rel
  refine ⟨t, rfl, ?_⟩
  cases t with
  | false => exact iteF (P (.val (.bl false)) ρ2 _ Hs' H' (S02.trans S3) (.bl false) trivial (hb.2 rfl))
  | true =>
    have S03 := S02.trans S3
    refine iteT (tE_at S03 (hb.1 rfl) fun r3 ρ3 v3 Hs3 H3 S4 S04 O3 N3 _ ⟨d', f, c3, c4, h3⟩ => ?_)
    refine pi' Hs3 H3 v2 v3 d' f _ _ S4.rel.sub (((O2.step S3).step S4).sh S4.rel c3) (O3.sh S4.rel c4) h3 fun pr v'' Hs'' H'' ps' ok' ⟨t', et', hb'⟩ => ?_
    subst et'
    cases (show Den W Hs'' v'' (.bl t') from ok')
    have S5 := ps'.step S4.rel
    refine ⟨t', rfl, ?_⟩
    cases t' with
    | false => exact iteF (P (.val (.bl false)) ρ3 _ Hs'' H'' (S04.trans S5) (.bl false) trivial (hb'.2 rfl))
    | true =>
      refine iteT (tE_at (S04.trans S5) (hb'.1 rfl) fun r4 ρ4 v4 Hs4 H4 S6 S06 O4 N4 _ ⟨d3, d4, c5, c6, h4⟩ => ?_)
      exact pi'' Hs4 H4 v3 v4 d3 d4 _ Q S6.rel.sub (((O3.step S5).step S6).sh S6.rel c5) (O4.sh S6.rel c6) h4 (ppost S06 P)
theorem wt_chain3 {p q s : Prim} {a b c e : IE} {r r' r'' : R2} {σ : L2.St} {H : Hp} {Q : Bool → Hp → Prop} (pi : PI2 W p r) (pi' : PI2 W q r') (pi'' : PI2 W s r'') (ic : IsCmp s) (h : tT G W refs (.val (.chain3 p q s a b c e)) σ H Q) :
    tTest (tChain3 r r' r'' (tE G W refs a) (tE G W refs b) (tE G W refs c) (tE G W refs e)) σ H Q := by
  obtain ⟨ρ, Hs, k, R, h, P⟩ := h
  have h : wpE G a ρ fun r1 ρ1 => wpE G b ρ1 fun r2 ρ2 => ∃ d1 d2, cont ρ2 r1 = some d1 ∧ cont ρ2 r2 = some d2 ∧ evalP p [d1, d2] fun pr =>
      ∃ t, pr = .it (.bl t) ∧ branch t (wpE G c ρ2 fun r3 ρ3 => ∃ d2' d3, cont ρ3 r2 = some d2' ∧ cont ρ3 r3 = some d3 ∧ evalP q [d2', d3] fun pr' =>
        ∃ t', pr' = .it (.bl t') ∧ branch t' (wpE G e ρ3 fun r4 ρ4 => ∃ d3' d4, cont ρ4 r3 = some d3' ∧ cont ρ4 r4 = some d4 ∧ evalP s [d3', d4] fun pr'' => ∃ d b, cont ρ4 (ofPR pr'') = some d ∧ truth d = some b ∧ k b ρ4)
          (∃ d b, cont ρ3 (.val (.bl false)) = some d ∧ truth d = some b ∧ k b ρ3)) (∃ d b, cont ρ2 (.val (.bl false)) = some d ∧ truth d = some b ∧ k b ρ2) := h
  show tChain3 r r' r'' _ _ _ _ σ H fun x H' => ∃ k, x = .bl k ∧ Q k H'
  refine tE_at (Step.refl R) h fun r1 ρ1 v1 Hs1 H1 S1 _ O1 N1 _ h1 => ?_
  refine tE_at S1 h1 fun r2 ρ2 v2 Hs2 H2 S2 S02 O2 N2 _ ⟨d, e, c1, c2, h2⟩ => ?_
  refine pi Hs2 H2 v1 v2 d e _ _ S2.rel.sub ((O1.step S2).sh S2.rel c1) (O2.sh S2.rel c2) h2 fun pr v' Hs' H' ps ok ⟨t, et, hb⟩ => ?_
  subst et
  cases (show Den W Hs' v' (.bl t) from ok)
  have S3 := ps.step S2.rel
  refine ⟨t, rfl, ?_⟩
  cases t with
  | false =>
    obtain ⟨d5, b5, e1, e2, kk⟩ := hb.2 rfl
    cases e1
    cases e2
    exact iteF ⟨false, rfl, P false ρ2 Hs' H' (S02.trans S3) kk⟩
  | true =>
    have S03 := S02.trans S3
    refine iteT (tE_at S03 (hb.1 rfl) fun r3 ρ3 v3 Hs3 H3 S4 S04 O3 N3 _ ⟨d', f, c3, c4, h3⟩ => ?_)
    refine pi' Hs3 H3 v2 v3 d' f _ _ S4.rel.sub (((O2.step S3).step S4).sh S4.rel c3) (O3.sh S4.rel c4) h3 fun pr v'' Hs'' H'' ps' ok' ⟨t', et', hb'⟩ => ?_
    subst et'
    cases (show Den W Hs'' v'' (.bl t') from ok')
    have S5 := ps'.step S4.rel
    refine ⟨t', rfl, ?_⟩
    cases t' with
    | false =>
      obtain ⟨d5, b5, e1, e2, kk⟩ := hb'.2 rfl
      cases e1
      cases e2
      exact iteF ⟨false, rfl, P false ρ3 Hs'' H'' (S04.trans S5) kk⟩
    | true =>
      refine iteT (tE_at (S04.trans S5) (hb'.1 rfl) fun r4 ρ4 v4 Hs4 H4 S6 S06 O4 N4 _ ⟨d3, d4, c5, c6, h4⟩ => ?_)
      refine pi'' Hs4 H4 v3 v4 d3 d4 _ _ S6.rel.sub (((O3.step S5).step S6).sh S6.rel c5) (O4.sh S6.rel c6) (ic d3 d4 _ h4) fun pr v7 Hs7 H7 ps7 ok7 hk => ?_
      obtain ⟨⟨b7, rfl⟩, d5, b5, e1, e2, kk⟩ := hk
      cases e1
      cases e2
      cases (show Den W Hs7 v7 (.bl b7) from ok7)
      exact ⟨b7, rfl, P b7 ρ4 Hs7 H7 (S06.trans (ps7.step S06.rel)) kk⟩
end
end EV

set_option maxRecDepth 100000
set_option maxHeartbeats 4000000
/-! EV 13: expressions, one turn of the induction. -/
namespace EV
open PySem L2

structure Snd (G : Genv) (W : Wd) (refs : List Addr) (mc : Str → Option Str) (N : List Str) (L n : Nat) : Prop where
  sE : ∀ X sc e i, Wok G W mc N L X → X.env.scope = sc → compE n mc N sc e = some i → PE X e (tE G W refs i)
  sB : ∀ X sc op vs i, Wok G W mc N L X → X.env.scope = sc → compB n mc N sc op vs = some i → ∀ pos, PE X (.BoolOp op vs pos) (tE G W refs i)
  sT : ∀ X sc e i, Wok G W mc N L X → X.env.scope = sc → compT n mc N sc e = some i → PT X e (tT G W refs i)
  sTB : ∀ X sc op vs i, Wok G W mc N L X → X.env.scope = sc → compTB n mc N sc op vs = some i → ∀ pos, PW X (.BoolOp op vs pos) (tT G W refs i)
  sTs : ∀ X sc es i, Wok G W mc N L X → X.env.scope = sc → compTs n mc N sc es = some i → PTs X es (tT G W refs i)
  sA : ∀ X sc es i, Wok G W mc N L X → X.env.scope = sc → compA n mc N sc es = some i → PA X es (tA G W refs i)
  sO : ∀ X sc o i, Wok G W mc N L X → X.env.scope = sc → compO n mc N sc o = some i → PO X o (tO G W refs i)
  sC : ∀ X sc f as pos i, Wok G W mc N L X → X.env.scope = sc → compC n mc N sc f as pos = some i → PE X (.Call f as [] pos) (tE G W refs i)
  sG : ∀ X sc top e i, Wok G W mc N L X → X.env.scope = sc → (top = true → ∀ x, X.fn x = true) → compG n mc N sc top e = some i → PG X e (tG G W refs i)
  sGs : ∀ X sc top es i, Wok G W mc N L X → X.env.scope = sc → (top = true → ∀ x, X.fn x = true) → compGs n mc N sc top es = some i → PGs X es (tGs G W refs i) ∧ (∀ env, (assignEach es env).length = tgN i ∧ (assignEach es env).findIdx? (·.1) = none)
  sI : ∀ X sc tg e i, Wok G W mc N L X → X.env.scope = sc → compI n mc N sc (isTup2 tg) e = some i → PI X tg e (tI G W refs i)
  sK : ∀ X sc ks i, Wok G W mc N L X → X.env.scope = sc → compK n mc N sc ks = some i → PK X ks (tA G W refs i)

section
variable {G : Genv} {W : Wd} {refs : List Addr} {mc : Str → Option Str} {N : List Str} {L n : Nat}

theorem PI_weak {X : Cx} {tg e : Expr} {t t' : TI} (h : PI X tg e t) (w : ∀ σ H R, t' σ H R → t σ H R) : PI X tg e t' := ⟨fun pins s σ H R I q => h.run pins s σ H R I (w σ H R q)⟩
theorem PO_weak {X : Cx} {e : Option Expr} {t t' : TO} (h : PO X e t) (w : ∀ σ H R, t' σ H R → t σ H R) : PO X e t' := ⟨fun pins s σ H R I q => h.run pins s σ H R I (w σ H R q)⟩
theorem PTs_weak {X : Cx} {e : List Expr} {t t' : TT} (h : PTs X e t) (w : ∀ σ H R, t' σ H R → t σ H R) : PTs X e t' := ⟨fun pins s σ H R I q => h.run pins s σ H R I (w σ H R q)⟩
theorem cases_map {α β : Type} {o : Option α} {f : α → β} {y : β} (h : o.map f = some y) : ∃ x, o = some x ∧ f x = y := by
  cases o with
  | none => cases h
  | some x => exact ⟨x, rfl, Option.some.inj h⟩

/-- an attribute: held by the instance, or a property -/
theorem pe_attr {X : Cx} {e : Expr} {f : Str} {pos : Pos} {ta : TE} (wk : Wok G W mc N L X) (he : PE X e ta) (hb : attributeBase e f X.env (eval e X.env) = eval e X.env) : PE X (.Attribute e f pos) (tAttr G W ta f) := by
  refine ⟨fun pins s σ H Q I h => ?_⟩
  refine attr_of hb (thn (he.run pins s σ H _ I h) fun u s1 ⟨x, H1, I1, rx, a, C, c, dx, fs, ex, hC, hH, q⟩ => ?_)
  subst ex
  obtain rfl : u = Value.ref a := rx
  rcases q with ⟨hf, v, hv, q⟩ | ⟨fi, hf, q⟩
  · exact getattr_ok I1 hH (wk.hcls c C hC) (wk.hfld c C f hC hf) hv fun u' s2 I2 ru => ⟨v, H1, I2, ru, q⟩
  · obtain ⟨p, g, fd, ps, hp, F, hb⟩ := wk.hprop c C f fi hC hf
    exact getprop_ok I1 hH (wk.hcls c C hC) hp F wk.hroom hb .nil pass0 q

theorem w_astar {e : IE} {es : IEs} {σ : L2.St} {H : Hp} {Q : List V → Hp → Prop} (h : tA G W refs (.star e es) σ H Q) : StX.tStar W.K (tE G W refs e) (tA G W refs es) σ H Q := by
  obtain ⟨ρ, Hs, k, R, h, P⟩ := h
  have h : wpE G e ρ fun r ρ1 => ∃ ds, seqOf r ρ1 = some ds ∧ wpA G es ρ1 fun rs ρ2 => k (ds.map .val ++ rs) ρ2 := h
  refine tE_at (Step.refl R) h fun r1 ρ1 v1 Hs1 H1 S1 _ O1 N1 _ ⟨ds, hd, h1⟩ => ?_
  have go : ∀ {a : Addr} {xs : List V}, (SqT W.K H1 a xs ∨ SqL W.K H1 a xs) → Dens W Hs1 xs ds → v1 = .ref a → ∃ p xs, v1 = V.ref p ∧ (SqT W.K H1 p xs ∨ SqL W.K H1 p xs) ∧ tA G W refs es σ H1 fun ys H2 => Q (xs ++ ys) H2 := by
    intro a xs hx D ev
    refine ⟨a, xs, ev, hx, tA_at S1 h1 fun rs ρ2 vs Hs2 H2 S2 S02 O2 N2 N02 hk => ?_⟩
    have oks : ∀ {xs : List V} {ds : List DV}, Dens W Hs2 xs ds → ResOks W ρ2 σ Hs2 H2 (ds.map Res.val ++ rs) (xs ++ vs) := by
      intro xs ds D
      induction ds generalizing xs with
      | nil => cases D; exact O2
      | cons d ds ih =>
        cases D with
        | cons d1 D => exact .cons d1 (ih D)
    have nts : ∀ {xs : List V} {ds : List DV}, Dens W Hs2 xs ds → NewTs H (ds.map Res.val ++ rs) (xs ++ vs) := by
      intro xs ds D
      induction ds generalizing xs with
      | nil => cases D; exact N02
      | cons d ds ih =>
        cases D with
        | cons d1 D => exact .cons trivial trivial (ih D)
    have D2 := D.up S2.ex
    exact P _ ρ2 _ Hs2 H2 S02 (oks D2) (nts D2) hk
  show ∃ p xs, v1 = V.ref p ∧ (SqT W.K H1 p xs ∨ SqL W.K H1 p xs) ∧ tA G W refs es σ H1 fun ys H2 => Q (xs ++ ys) H2
  unfold seqOf at hd
  cases hc : cont ρ1 r1 with
  | none => rw [hc] at hd; cases hd
  | some d =>
    rw [hc] at hd
    have sh := O1.sh S1.rel hc
    cases d with
    | lst es' => cases hd; obtain ⟨a, xs, ev, hx, D⟩ := sh; exact go (.inr (SqL.of hx)) D ev
    | tup es' => cases hd; obtain ⟨a, xs, ev, hx, D⟩ := sh; exact go (.inl (same_t S1.rel.sub hx)) D ev
    | _ => cases hd

theorem turn_A (ih : Snd G W refs mc N L n) (X : Cx) (sc : Scope) (es : List Expr) (i : IEs) (wk : Wok G W mc N L X) (hs : X.env.scope = sc) (h : compA (n + 1) mc N sc es = some i) : PA X es (tA G W refs i) := by
  cases es with
  | nil => cases h; exact PA_weak pa_nil fun σ H Q q => w_anil q
  | cons e r =>
    simp only [compA] at h
    by_cases hst : isStar e = true
    · rw [if_pos hst] at h
      cases e <;> first | cases hst | skip
      rename_i e0 p0
      cases h1 : compE n mc N sc (starE (.Starred e0 p0)) with
      | none => rw [h1] at h; cases h
      | some a =>
        cases h2 : compA n mc N sc r with
        | none => rw [h1, h2] at h; cases h
        | some b =>
          rw [h1, h2] at h; cases h
          exact PA_weak (StX.pa_star (ih.sE X sc e0 a wk hs h1) (ih.sA X sc r b wk hs h2)) fun σ H Q q => by rw [wk.hK]; exact w_astar q
    · have hst : isStar e = false := by simpa using hst
      rw [if_neg (by rw [hst]; decide)] at h
      cases h1 : compE n mc N sc e with
      | none => rw [h1] at h; cases h
      | some a =>
        cases h2 : compA n mc N sc r with
        | none => rw [h1, h2] at h; cases h
        | some b =>
          rw [h1, h2] at h; cases h
          exact PA_weak (pa_cons (ih.sE X sc e a wk hs h1) (ih.sA X sc r b wk hs h2) (not_star hst _)) fun σ H Q q => w_acons q
theorem turn_O (ih : Snd G W refs mc N L n) (X : Cx) (sc : Scope) (o : Option Expr) (i : IO) (wk : Wok G W mc N L X) (hs : X.env.scope = sc) (h : compO (n + 1) mc N sc o = some i) : PO X o (tO G W refs i) := by
  cases o with
  | none => cases h; exact PO_weak po_none fun σ H Q q => w_no q
  | some e =>
    obtain ⟨a, h1, rfl⟩ := cases_map (show (compE n mc N sc e).map IO.so = some i from h)
    exact PO_weak (po_some (ih.sE X sc e a wk hs h1)) fun σ H Q q => w_so q
theorem turn_B (ih : Snd G W refs mc N L n) (X : Cx) (sc : Scope) (op : BoolOp) (vs : List Expr) (i : IE) (wk : Wok G W mc N L X) (hs : X.env.scope = sc) (h : compB (n + 1) mc N sc op vs = some i) (pos : Pos) : PE X (.BoolOp op vs pos) (tE G W refs i) := by
  match vs, h with
  | [], h => cases h
  | [a], h => exact pe_one (ih.sE X sc a i wk hs h)
  | a :: b :: r, h =>
    simp only [compB] at h
    cases h1 : compE n mc N sc a with
    | none => rw [h1] at h; cases h
    | some p =>
      cases h2 : compB n mc N sc op (b :: r) with
      | none => rw [h1, h2] at h; cases h
      | some q =>
        rw [h1, h2] at h
        cases op with
        | And => cases h; exact PE_weak (pe_and (ih.sE X sc a p wk hs h1) (ih.sB X sc .And (b :: r) q wk hs h2 pos)) fun σ H Q q => w_and q
        | Or => cases h; exact PE_weak (pe_or (ih.sE X sc a p wk hs h1) (ih.sB X sc .Or (b :: r) q wk hs h2 pos)) fun σ H Q q => w_or q
theorem turn_TB (ih : Snd G W refs mc N L n) (X : Cx) (sc : Scope) (op : BoolOp) (vs : List Expr) (i : IC) (wk : Wok G W mc N L X) (hs : X.env.scope = sc) (h : compTB (n + 1) mc N sc op vs = some i) (pos : Pos) : PW X (.BoolOp op vs pos) (tT G W refs i) := by
  match vs, h with
  | [], h => cases h
  | [a], h =>
    cases op with
    | And => exact pw_and1 (ih.sT X sc a i wk hs h)
    | Or => exact pw_or1 (ih.sT X sc a i wk hs h)
  | a :: b :: r, h =>
    simp only [compTB] at h
    cases h1 : compT n mc N sc a with
    | none => rw [h1] at h; cases h
    | some p =>
      cases h2 : compTB n mc N sc op (b :: r) with
      | none => rw [h1, h2] at h; cases h
      | some q =>
        rw [h1, h2] at h
        cases op with
        | And => cases h; exact PW_weak (pw_and (ih.sT X sc a p wk hs h1) (ih.sTB X sc .And (b :: r) q wk hs h2 pos)) fun σ H Q q => wt_and q
        | Or => cases h; exact PW_weak (pw_or (ih.sT X sc a p wk hs h1) (ih.sTB X sc .Or (b :: r) q wk hs h2 pos)) fun σ H Q q => wt_or q
theorem turn_Ts (ih : Snd G W refs mc N L n) (X : Cx) (sc : Scope) (es : List Expr) (i : IC) (wk : Wok G W mc N L X) (hs : X.env.scope = sc) (h : compTs (n + 1) mc N sc es = some i) : PTs X es (tT G W refs i) := by
  match es, h with
  | [], h =>
    cases h
    exact PTs_weak pts_nil fun σ H Q ⟨ρ, Hs, k, R, h, P⟩ => P true ρ Hs H (Step.refl R) h
  | [c], h => exact pts_one (ih.sT X sc c i wk hs h)
  | _ :: _ :: _, h => cases h
theorem turn_Gs (ih : Snd G W refs mc N L n) (X : Cx) (sc : Scope) (top : Bool) (es : List Expr) (i : ITgs) (wk : Wok G W mc N L X) (hs : X.env.scope = sc) (hf : top = true → ∀ x, X.fn x = true) (h : compGs (n + 1) mc N sc top es = some i) :
    PGs X es (tGs G W refs i) ∧ (∀ env, (assignEach es env).length = tgN i ∧ (assignEach es env).findIdx? (·.1) = none) := by
  cases es with
  | nil =>
    cases h
    exact ⟨PGs_weak pgs_nil fun v σ H Q q => w_gnil q, fun env => ⟨rfl, rfl⟩⟩
  | cons e r =>
    simp only [compGs] at h
    by_cases hst : isStar e = true
    · rw [if_pos hst] at h; cases h
    · have hst : isStar e = false := by simpa using hst
      rw [if_neg (by rw [hst]; decide)] at h
      cases h1 : compG n mc N sc top e with
      | none => rw [h1] at h; cases h
      | some a =>
        cases h2 : compGs n mc N sc top r with
        | none => rw [h1, h2] at h; cases h
        | some b =>
          rw [h1, h2] at h; cases h
          obtain ⟨p1, p2⟩ := ih.sGs X sc top r b wk hs hf h2
          have hae : ∀ env, assignEach (e :: r) env = (false, assign e env) :: assignEach r env := fun env => by cases e <;> first | rfl | cases hst
          refine ⟨PGs_weak (pgs_cons (ih.sG X sc top e a wk hs hf h1) p1 (by rw [hae]; rfl)) fun v σ H Q q => w_gcons q, fun env => ?_⟩
          rw [hae]
          refine ⟨by show _ = tgN b + 1; rw [List.length_cons, (p2 env).1], ?_⟩
          rw [List.findIdx?_cons]
          simp [(p2 env).2]
/-- the index is no slice -/
theorem sub_asg {o i : Expr} {pos : Pos} {env : Env} (h : isSlice i = false) (v : Value) : assign (.Subscript o i pos) env v = (do
      let ov ← holding [v] (eval o env)
      let iv ← holding [v, ov] (eval i env)
      standAt pos
      holding [v, ov, iv] (setItem ov iv v)
      release [v, ov, iv] []) := by
  cases i <;> first | rfl | cases h
theorem turn_G (ih : Snd G W refs mc N L n) (X : Cx) (sc : Scope) (top : Bool) (e : Expr) (i : ITg) (wk : Wok G W mc N L X) (hs : X.env.scope = sc) (hf : top = true → ∀ x, X.fn x = true) (h : compG (n + 1) mc N sc top e = some i) : PG X e (tG G W refs i) := by
  cases e with
  | Name x p =>
    simp only [compG] at h
    by_cases hc : (locB sc x || top && cellB sc x) = true
    · rw [if_pos hc] at h
      obtain ⟨j, hj, rfl⟩ := cases_map h
      have hN : X.N[j]? = some x := by rw [wk.hN]; exact plc_ok hj
      have hl : Loc X.env.scope x ∧ (X.fn x = true ∨ X.env.scope.names.lookup x = some .local) := by
        rw [hs]
        rcases (Bool.or_eq_true _ _).mp hc with q | q
        · exact ⟨.inl (locB_ok q), .inr (locB_ok q)⟩
        · obtain ⟨q1, q2⟩ := (Bool.and_eq_true _ _).mp q
          exact ⟨.inr (cellB_ok q2), .inl (hf q1 x)⟩
      have nd : X.N.Nodup := by rw [wk.hN]; exact wk.hnd
      refine ⟨fun pins s σ H v u Q I r q => (pg_name nd hN hl.1 hl.2).run pins s σ H v u Q I r (w_nm ?_ q)⟩
      rw [I.len]
      exact (List.getElem?_eq_some_iff.mp hN).1
    · rw [if_neg hc] at h; cases h
  | Subscript o ix p =>
    simp only [compG] at h
    by_cases hsl : isSlice ix = true
    · rw [if_pos hsl] at h; cases h
    · rw [if_neg hsl] at h
      cases h1 : compE n mc N sc o with
      | none => rw [h1] at h; cases h
      | some a =>
        cases h2 : compE n mc N sc ix with
        | none => rw [h1, h2] at h; cases h
        | some b =>
          rw [h1, h2] at h; cases h
          exact PG_weak (pg_sub (ih.sE X sc o a wk hs h1) (ih.sE X sc ix b wk hs h2) set_list fun v => sub_asg (by simpa using hsl) v) fun v σ H Q q => w_sub q
  | Tuple es k p =>
    obtain ⟨ts, ht, rfl⟩ := cases_map (show (compGs n mc N sc top es).map ITg.tp = some i from h)
    obtain ⟨p1, p2⟩ := ih.sGs X sc top es ts wk hs hf ht
    refine ⟨fun pins s σ H v u Q I r q => ?_⟩
    obtain ⟨a, xs, rfl, hx, hl, q⟩ := w_tp q
    rw [← wk.hK] at hx
    rcases hx with hx | hx
    · exact (pg_tup wk.hcalm p1 (p2 _).1 (p2 _).2).run pins s σ H (.ref a) u Q I r ⟨a, xs, rfl, hx, hl, q⟩
    · exact (pg_lst wk.hcalm p1 (p2 _).1 (p2 _).2).run pins s σ H (.ref a) u Q I r ⟨a, xs, rfl, hx, hl, q⟩
  | _ => cases h
theorem comp_star {e : Expr} {i : IE} {sc : Scope} (h : compE n mc N sc e = some i) : isStar e = false := by
  cases n with
  | zero => cases h
  | succ n => cases e <;> first | rfl | cases h
theorem w_ir3 {a b c : IE} {σ : L2.St} {H : Hp} {R : It → Hp → Prop} (h : tI G W refs (.range3 a b c) σ H R) : iRng3 (tCons (tE G W refs a) (tCons (tE G W refs b) (tCons (tE G W refs c) tNil))) σ H R := by
  obtain ⟨ρ, Hs, k, Rl, h, P⟩ := h
  have h : wpE G a ρ fun r ρ1 => wpE G b ρ1 fun s ρ2 => wpE G c ρ2 fun t ρ3 => ∃ i j, cont ρ3 r = some (.int i) ∧ cont ρ3 s = some (.int j) ∧ cont ρ3 t = some (.int (-1)) ∧ (-(2 ^ 62) ≤ i ∧ i < 2 ^ 62 ∧ -(2 ^ 62) ≤ j ∧ j < 2 ^ 62) ∧
      k (.val .non) (fun _ => some (rangeC i (-1) (i - j).toNat)) ρ3 := h
  refine tE_at (Step.refl Rl) h fun r1 ρ1 v1 Hs1 H1 S1 _ O1 N1 _ h1 => ?_
  refine tE_at S1 h1 fun r2 ρ2 v2 Hs2 H2 S2 S02 O2 N2 _ h2 => ?_
  refine tE_at S02 h2 fun r3 ρ3 v3 Hs3 H3 S3 S03 O3 N3 _ ⟨i, j, c1, c2, c3, ⟨b1, b2, b3, b4⟩, hk⟩ => ?_
  have e1 : v1 = .int i := ((O1.step S2).step S3).sh S3.rel c1
  have e2 : v2 = .int j := (O2.step S3).sh S3.rel c2
  have e3 : v3 = .int (-1) := O3.sh S3.rel c3
  subst e1 e2 e3
  refine ⟨i, j, -1, (i - j).toNat, rfl, RgC.neg b1 b2 b3 b4, P (.val .non) _ ρ3 Hs3 H3 .non _ S03 Den.non trivial hk fun d ds e => ?_⟩
  cases e
  have hl : (rangeC i (-1) (i - j).toNat).length = (i - j).toNat := by simp [rangeC]
  rw [hl]
  refine ⟨_, _, walk_rangeC, fun _ _ _ _ => trivial, fun n Hs H x H' hi s _ ⟨eH, ex⟩ => ?_⟩
  subst eH ex
  exact ⟨Hs, .int (i + n * (-1)), PStep.refl s, by simp [rangeC, hi], .int _⟩
theorem turn_K (ih : Snd G W refs mc N L n) (X : Cx) (sc : Scope) (ks : List Keyword) (i : IEs) (wk : Wok G W mc N L X) (hs : X.env.scope = sc) (h : compK (n + 1) mc N sc ks = some i) : PK X ks (tA G W refs i) := by
  have weak : ∀ {ks : List Keyword} {t t' : TA}, PK X ks t → (∀ σ H Q, t' σ H Q → t σ H Q) → PK X ks t' := fun h w => ⟨fun pos pins s σ H Q I q => h.run pos pins s σ H Q I (w σ H Q q)⟩
  cases ks with
  | nil => cases h; exact weak pk_nil fun σ H Q q => w_anil q
  | cons k r =>
    obtain ⟨nm, e, kp⟩ := k
    replace h : (match compE n mc N sc e, compK n mc N sc r with
      | some i, some is => some (IEs.cons i is)
      | _, _ => none) = some i := h
    split at h
    · rename_i a b e1 e2
      cases h
      exact weak (pk_cons (ih.sE X sc e a wk hs e1) (ih.sK X sc r b wk hs e2)) fun σ H Q q => w_acons q
    · cases h
theorem turn_I (ih : Snd G W refs mc N L n) (X : Cx) (sc : Scope) (tg e : Expr) (i : IT) (wk : Wok G W mc N L X) (hs : X.env.scope = sc) (h : compI (n + 1) mc N sc (isTup2 tg) e = some i) : PI X tg e (tI G W refs i) := by
  have seq : ∀ j, compE n mc N sc e = some j → PI X tg e (tI G W refs (.seq j)) := fun j hj => PI_weak (pi_seq (ih.sE X sc e j wk hs hj)) fun σ H R q => by rw [wk.hK]; exact w_iseq q
  simp only [compI] at h
  split at h
  · rename_i x p a pos
    by_cases hr : (okName x && glB sc x && decide (x = "range")) = true
    · rw [if_pos hr] at h
      simp only [Bool.and_eq_true, decide_eq_true_eq] at hr
      obtain ⟨⟨_, hg⟩, rfl⟩ := hr
      obtain ⟨j, hj, rfl⟩ := cases_map h
      have st := comp_star hj
      exact PI_weak (pi_range1 (gl_of hs hg) (wk.hblt _ (by decide)) (pa_cons (ih.sE X sc a j wk hs hj) pa_nil (not_star st _)) (not_star st _)) fun σ H R q => w_ir1 q
    · rw [if_neg hr] at h
      split at h
      · rename_i hx
        subst hx
        by_cases hc : (okName (Str.ofString "enumerate") && glB sc (Str.ofString "enumerate") && isTup2 tg) = true
        · rw [if_pos hc] at h
          simp only [Bool.and_eq_true] at hc
          obtain ⟨⟨_, hg⟩, ht⟩ := hc
          obtain ⟨j, hj, rfl⟩ := cases_map h
          have st := comp_star hj
          cases tg <;> first | cases ht | skip
          exact PI_weak (pi_enumA (gl_of hs hg) (wk.hblt _ (by decide)) (pa_cons (ih.sE X sc a j wk hs hj) pa_nil (not_star st _)) (not_star st _)) fun σ H R q => by rw [wk.hK]; exact w_ienum q
        · rw [if_neg hc] at h; cases h
      · obtain ⟨j, hj, rfl⟩ := cases_map h
        exact seq j hj
  · rename_i x p a b pos
    by_cases hr : (okName x && glB sc x && decide (x = "range")) = true
    · rw [if_pos hr] at h
      simp only [Bool.and_eq_true, decide_eq_true_eq] at hr
      obtain ⟨⟨_, hg⟩, rfl⟩ := hr
      cases h1 : compE n mc N sc a with
      | none => rw [h1] at h; cases h
      | some j =>
        cases h2 : compE n mc N sc b with
        | none => rw [h1, h2] at h; cases h
        | some l =>
          rw [h1, h2] at h; cases h
          have s1 := comp_star h1
          have s2 := comp_star h2
          exact PI_weak (pi_range2 (gl_of hs hg) (wk.hblt _ (by decide)) (pa_cons (ih.sE X sc a j wk hs h1) (pa_cons (ih.sE X sc b l wk hs h2) pa_nil (not_star s2 _)) (not_star s1 _)) (by rw [not_star s1, not_star s2]; rfl) (not_star s2 _)) fun σ H R q => w_ir2 q
    · rw [if_neg hr] at h
      split at h
      · cases h
      · obtain ⟨j, hj, rfl⟩ := cases_map h
        exact seq j hj
  · rename_i x p a b c pos
    by_cases hr : (okName x && glB sc x && decide (x = "range")) = true
    · rw [if_pos hr] at h
      simp only [Bool.and_eq_true, decide_eq_true_eq] at hr
      obtain ⟨⟨_, hg⟩, rfl⟩ := hr
      split at h
      · rename_i j l m e1 e2 e3
        cases h
        have s1 := comp_star e1
        have s2 := comp_star e2
        have s3 := comp_star e3
        exact PI_weak (pi_range3 (gl_of hs hg) (wk.hblt _ (by decide)) (pa_cons (ih.sE X sc a j wk hs e1) (pa_cons (ih.sE X sc b l wk hs e2) (pa_cons (ih.sE X sc c m wk hs e3) pa_nil (not_star s3 _)) (not_star s2 _)) (not_star s1 _)) (not_star s1 _)
          (plain_any (es := [b, c]) pos fun e he => by
            rcases List.mem_cons.mp he with rfl | he
            · exact s2
            · rcases List.mem_cons.mp he with rfl | he
              · exact s3
              · cases he)) fun σ H R q => w_ir3 q
      · cases h
    · rw [if_neg hr] at h
      split at h
      · cases h
      · obtain ⟨j, hj, rfl⟩ := cases_map h
        exact seq j hj
  · cases h
  · obtain ⟨j, hj, rfl⟩ := cases_map h
    exact seq j hj
end
end EV

set_option maxRecDepth 100000
set_option maxHeartbeats 4000000
/-! EV 14: calls, expressions, tests; the induction. -/
namespace EV
open PySem L2
section
variable {G : Genv} {W : Wd} {refs : List Addr} {mc : Str → Option Str} {N : List Str} {L n : Nat}

theorem plain_all (pos : Pos) : ∀ {es : List Expr} {env : Env}, (∀ e ∈ es, isStar e = false) → (backTo pos (starEach es env)).all (fun x => !x.1) = true
  | [], _, _ => rfl
  | e :: es, env, h => by
    rw [not_star (h e List.mem_cons_self) env]
    unfold backTo
    rw [List.map_cons, List.all_cons]
    have := plain_all pos (es := es) (env := env) fun e he => h e (List.mem_cons_of_mem _ he)
    unfold backTo at this
    rw [this]; rfl
/-- a call of a method, its reading -/
theorem meth_ht {o : Expr} {m : Str} {apos pos : Pos} {as : List Expr} {env : Env} (hb : attributeBase o m env (eval o env) = eval o env) (hl : (apos.endLine == pos.line) = true) (hp : ∀ e ∈ as, isStar e = false) (hn : as.length < 30) :
    eval (.Call (.Attribute o m apos) as [] pos) env = (do
      let ov ← eval o env
      standAt apos.atName
      let (f, first) ← holding [ov] (getMethod ov m (do return (← importBound o env).getD true))
      callWith pos f first (backTo pos (starEach as env)) (backToKw pos (keywordEach [] env))) := by
  have hform : methodCallForm (as.length + ([] : List Keyword).length) (backTo pos (starEach as env)) (backToKw pos (keywordEach [] env)) = true := by
    unfold methodCallForm
    rw [plain_all pos hp, show backToKw pos (keywordEach [] env) = [] from rfl]
    simp [hn]
  have hpos : methodCallPos true o env apos pos = pure pos := by unfold methodCallPos; simp [hl]
  rw [arm_eval_Call, hb]
  unfold methodCall
  rw [hform]
  simp only [hpos]
  rfl

theorem blt1_rule {X : Cx} {x : Str} {p : Prim} (hK : X.K = W.K) (hc : X.calm = true) (h : blt1 x = some p) :
    x ∈ bltNames ∧ x ≠ "__name__" ∧ ((∃ id r, bootBuiltins x = some (.builtin id) ∧ CallR X (.builtin id) r ∧ PIC1 W p r) ∨ (∃ T r, bootBuiltins x = some (.type T) ∧ CallR X (.type T) r ∧ PIC1 W p r)) := by
  unfold blt1 at h
  split at h
  · cases h; subst x; exact ⟨by decide, by decide, .inl ⟨"len", _, rfl, by rw [← hK]; exact call_len, pc_len⟩⟩
  split at h
  · cases h; subst x; exact ⟨by decide, by decide, .inl ⟨"abs", _, rfl, call_abs, pc_abs⟩⟩
  split at h
  · cases h; subst x; exact ⟨by decide, by decide, .inr ⟨"int", _, rfl, call_intAll, pc_int1⟩⟩
  split at h
  · cases h; subst x; exact ⟨by decide, by decide, .inr ⟨"str", _, rfl, call_str_int, pc_str1⟩⟩
  split at h
  · cases h; subst x; exact ⟨by decide, by decide, .inr ⟨"tuple", _, rfl, by rw [← hK]; exact call_tuple_of, pc_tuple1⟩⟩
  split at h
  · cases h; subst x; exact ⟨by decide, by decide, .inr ⟨"list", _, rfl, by rw [← hK]; exact call_list_of, pc_list1⟩⟩
  split at h
  · cases h; subst x; exact ⟨by decide, by decide, .inl ⟨"sum", _, rfl, by rw [← hK]; exact cr_sum hc, pc_sum⟩⟩
  split at h
  · cases h; subst x; exact ⟨by decide, by decide, .inl ⟨"all", _, rfl, by rw [← hK]; exact cr_all hc, pc_all⟩⟩
  split at h
  · cases h; subst x; exact ⟨by decide, by decide, .inl ⟨"any", _, rfl, by rw [← hK]; exact cr_any hc, pc_any⟩⟩
  split at h
  · cases h; subst x; exact ⟨by decide, by decide, .inl ⟨"max", _, rfl, by rw [← hK]; exact cr_max hc, pc_maxL⟩⟩
  split at h
  · cases h; subst x; exact ⟨by decide, by decide, .inl ⟨"min", _, rfl, by rw [← hK]; exact cr_min hc, pc_minL⟩⟩
  split at h
  · cases h; subst x; exact ⟨by decide, by decide, .inl ⟨"sorted", _, rfl, by rw [← hK]; exact cr_sortedI, pc_sorted⟩⟩
  cases h
theorem blt2_rule {X : Cx} {x : Str} {p : Prim} (hc : X.calm = true) (h : blt2 x = some p) :
    x ∈ bltNames ∧ x ≠ "__name__" ∧ ∃ id r, bootBuiltins x = some (.builtin id) ∧ CallR X (.builtin id) r ∧ PIC2 W p r := by
  unfold blt2 at h
  split at h
  · cases h; subst x; exact ⟨by decide, by decide, "max", _, rfl, call_max2 hc, pc_max2⟩
  split at h
  · cases h; subst x; exact ⟨by decide, by decide, "min", _, rfl, call_min2 hc, pc_min2⟩
  split at h
  · cases h; subst x; exact ⟨by decide, by decide, "divmod", _, rfl, call_divmod, pc_divmod⟩
  cases h
theorem isT_rule {x : Str} {p : Prim} (h : isT x = some p) : x ∈ bltNames ∧ x ≠ "__name__" ∧ ∃ T, bootBuiltins x = some (.type T) ∧ isP T p W := by
  unfold isT at h
  split at h
  · cases h; subst x; exact ⟨by decide, by decide, "int", rfl, pc_isInt⟩
  split at h
  · cases h; subst x; exact ⟨by decide, by decide, "bool", rfl, pc_isBool⟩
  split at h
  · cases h; subst x; exact ⟨by decide, by decide, "tuple", rfl, pc_isTup⟩
  split at h
  · cases h; subst x; exact ⟨by decide, by decide, "str", rfl, pc_isStr⟩
  cases h
theorem w_tm {p : Prim} {o e : IE} {r : V → List V → Hp → VK → Prop} {σ : L2.St} {H : Hp} {Q : VK}
    (pm : ∀ (Hs H : Hp) (x y : V) (d e : DV) (k : PR → Prop) (Q : VK), Same Hs H → Sh W Hs H x d → Sh W Hs H y e → evalP p [d, e] k → PPost W Hs H k Q → (∃ a, x = .str a) ∧ r x [y] H Q)
    (h : tE G W refs (.tm p o e) σ H Q) : tM1 r (tE G W refs o) (tE G W refs e) σ H Q := by
  obtain ⟨ρ, Hs, k, R, h, P⟩ := h
  have h : wpE G o ρ fun r ρ1 => (∃ z, cont ρ1 r = some (.str z)) ∧ wpE G e ρ1 fun r' ρ2 => ∃ ds, conts ρ2 [r, r'] = some ds ∧ evalP p ds fun pr => k (ofPR pr) ρ2 := h
  refine tE_at (Step.refl R) h fun r1 ρ1 v1 Hs1 H1 S1 _ O1 N1 _ ⟨⟨z, hz⟩, h1⟩ => ⟨⟨z, O1.sh S1.rel hz⟩, ?_⟩
  refine tE_at S1 h1 fun r2 ρ2 v2 Hs2 H2 S2 S02 O2 N2 _ ⟨ds, c, e⟩ => ?_
  unfold conts at c
  split at c
  · rename_i d ds' c1 c2
    unfold conts at c2
    split at c2
    · rename_i d2 ds2 c3 c4
      cases c4
      cases c2
      cases c
      exact (pm Hs2 H2 v1 v2 d d2 _ Q S2.rel.sub ((O1.step S2).sh S2.rel c1) (O2.sh S2.rel c3) e (ppost S02 P)).2
    · cases c2
  · cases c
theorem all_star {as : List Expr} (h : as.all (fun a => !isStar a) = true) : ∀ e ∈ as, isStar e = false := fun e he => by
  have := List.all_eq_true.mp h e he
  simpa using this
theorem tE_mono {i : IE} {σ : L2.St} {H : Hp} {Q Q' : VK} (h : tE G W refs i σ H Q) (w : ∀ v H1, Q v H1 → Q' v H1) : tE G W refs i σ H Q' := by
  obtain ⟨ρ, Hs, k, R, h, P⟩ := h
  exact ⟨ρ, Hs, k, R, h, fun r ρ' v Hs' H' S O N kk => w _ _ (P r ρ' v Hs' H' S O N kk)⟩
theorem pe_fn (X : Cx) (wk : Wok G W mc N L X) {sc : Scope} (hs : X.env.scope = sc) {x : Str} {p pos : Pos} {as : List Expr} {is : IEs} (hok : okName x = true) (hg : glB sc x = true) (hp : ∀ e ∈ as, isStar e = false) (ha : PA X as (tA G W refs is)) (h0 : as = [] → is = .nil) :
    PE X (.Call (.Name x p) as [] pos) (tE G W refs (.call x is)) := by
  cases hf : G.fns x with
  | none => exact pe_no fun σ H Q ⟨_, _, _, _, ⟨fi, e, _⟩, _⟩ => by rw [hf] at e; cases e
  | some fi =>
    obtain ⟨fa, fd, ps, hm, hk, F, hb, _⟩ := wk.hfns x fi hf
    cases as with
    | nil =>
      refine PE_weak (pe_call0 (E := E0) F (wk.hroom.mono (Nat.le_succ _)) (gl_of hs hg) hm hk hb .nil pass0 (okName_ok hok).1) fun σ H Q q => ?_
      rw [h0 rfl] at q
      exact w_anil (w_call hf q)
    | cons e es =>
      exact PE_weak (pe_call (E := E0) F (wk.hroom.mono (Nat.le_succ _)) (gl_of hs hg) hm hk hb .nil pass0 ha (okName_ok hok).1 (not_star (hp e List.mem_cons_self) _) (plain_any _ fun e he => hp e (List.mem_cons_of_mem _ he))) fun σ H Q q => w_call hf q
theorem pe_mk (X : Cx) (wk : Wok G W mc N L X) {sc : Scope} (hs : X.env.scope = sc) {x : Str} {p pos : Pos} {e : Expr} {es : List Expr} {is : IEs} (hok : okName x = true) (hg : glB sc x = true) (hp : ∀ a ∈ e :: es, isStar a = false) (ha : PA X (e :: es) (tA G W refs is)) :
    PE X (.Call (.Name x p) (e :: es) [] pos) (tE G W refs (.make x is)) := by
  cases hf : G.mak x with
  | none => exact pe_no fun σ H Q ⟨_, _, _, _, ⟨fi, e, _⟩, _⟩ => by rw [hf] at e; cases e
  | some fi =>
    obtain ⟨C, g, fd, ps, ms, hC, hm, hms, M, F, hb, _⟩ := wk.hmak x fi hf
    exact PE_weak (pe_make (E := E0) M F wk.hroom (gl_of hs hg) hm hb .nil pass0 ha (okName_ok hok).1 (not_star (hp e List.mem_cons_self) _) (plain_any _ fun e he => hp e (List.mem_cons_of_mem _ he))) fun σ H Q q => w_make hC hf ⟨ms, hms⟩ q
theorem pe_mkV (X : Cx) (wk : Wok G W mc N L X) {sc : Scope} (hs : X.env.scope = sc) {x : Str} {p pos : Pos} {e : Expr} {es : List Expr} {is : IEs} (hok : okName x = true) (hg : glB sc x = true) (hp : ∀ a ∈ e :: es, isStar a = false) (ha : PA X (e :: es) (tA G W refs is)) :
    PE X (.Call (.Name x p) (e :: es) [] pos) (tE G W refs (.makeV x is)) := by
  cases hf : G.vmak x with
  | none => exact pe_no fun σ H Q ⟨_, _, _, _, ⟨fi, e, _⟩, _⟩ => by rw [hf] at e; cases e
  | some fi =>
    obtain ⟨C, g, hC, hm, hms, M, F⟩ := wk.hvmak x fi hf
    exact PE_weak (StX.pe_makeR (E := E0) M F wk.hroom (gl_of hs hg) hm pass0 ha (okName_ok hok).1 (not_star (hp e List.mem_cons_self) _) (plain_any _ fun e he => hp e (List.mem_cons_of_mem _ he))) fun σ H Q q => w_makeV hC hf hms q
theorem pe_mkS (X : Cx) (wk : Wok G W mc N L X) {sc : Scope} (hs : X.env.scope = sc) {x : Str} {p sp pos : Pos} {e : Expr} {i : IE} (hok : okName x = true) (hg : glB sc x = true) (he : PE X e (tE G W refs i)) :
    PE X (.Call (.Name x p) [.Starred e sp] [] pos) (tE G W refs (.makeS x i)) := by
  cases hf : G.vmak x with
  | none => exact pe_no fun σ H Q ⟨_, _, _, _, ⟨fi, e, _⟩, _⟩ => by rw [hf] at e; cases e
  | some fi =>
    obtain ⟨C, g, hC, hm, hms, M, F⟩ := wk.hvmak x fi hf
    exact PE_weak (pe_makeS (E := E0) M F wk.hroom (gl_of hs hg) hm pass0 he (okName_ok hok).1) fun σ H Q q => by rw [wk.hK]; exact w_makeS hC hf hms q
theorem pe_isC (X : Cx) (wk : Wok G W mc N L X) {sc : Scope} (hs : X.env.scope = sc) {t : Str} {p tp pos : Pos} {a : Expr} {i : IE} (hg : glB sc "isinstance" = true) (hok : okName t = true) (hgt : glB sc t = true) (sa : isStar a = false) (ha : PE X a (tE G W refs i)) :
    PE X (.Call (.Name "isinstance" p) [a, .Name t tp] [] pos) (tE G W refs (.isC t i)) := by
  cases hf : G.isc t with
  | false => exact pe_no fun σ H Q ⟨_, _, _, _, ⟨e, _⟩, _⟩ => by rw [hf] at e; cases e
  | true =>
    obtain ⟨C, hC, hm, bt, ow⟩ := wk.hisc t hf
    rw [wk.hK] at bt
    have pa := pa_cons ha (pa_cons (pe_glob (v := .ref C) (pos := tp) (gl_of hs hgt) hm rfl (okName_ok hok).1) pa_nil (not_star (es := []) (e := .Name t tp) rfl _)) (not_star sa _)
    exact PE_weak (pe_callB call_isi (gl_of hs hg) (wk.hblt _ (by decide)) rfl pa (by decide) (by decide +kernel) (not_star sa _) (plain_any (es := [.Name t tp]) _ fun e he => by rw [List.mem_singleton.mp he]; rfl)) fun σ H Q q => by
      rw [wk.hK]
      exact w_isC (fun c C h => by rw [← wk.hK]; exact wk.hcls c C h) bt (fun c' C' h => by have z := ow c' C' h; rw [wk.hK] at z; exact z) q
theorem pe_cmth (X : Cx) (wk : Wok G W mc N L X) {sc : Scope} (hs : X.env.scope = sc) {x m : Str} {p apos pos : Pos} {e : Expr} {es : List Expr} {is : IEs} (hok : okName x = true) (hg : glB sc x = true) (hl : (apos.endLine == pos.line) = true) (hp : ∀ a ∈ e :: es, isStar a = false) (hn : (e :: es).length < 30) (ha : PA X (e :: es) (tA G W refs is)) :
    PE X (.Call (.Attribute (.Name x p) m apos) (e :: es) [] pos) (tE G W refs (.cmeth x m is)) := by
  cases hf : G.cmet x m with
  | none => exact pe_no fun σ H Q ⟨_, _, _, _, ⟨fi, e, _⟩, _⟩ => by rw [hf] at e; cases e
  | some fi =>
    obtain ⟨C, mv, q, g, hm, R, M, F⟩ := wk.hcmet x m fi hf
    exact PE_weak (ClX.pe_cmeth (E := E0) (pe_glob (v := .ref C) (gl_of hs hg) hm rfl (okName_ok hok).1) R M F (wk.hroom.mono (Nat.le_succ _)) pass0 ha (not_star (hp e List.mem_cons_self) _) (plain_any _ fun e he => hp e (List.mem_cons_of_mem _ he)) (meth_ht (not_sup rfl) hl hp hn)) fun σ H Q q => w_cmeth hf q
theorem pe_mth (X : Cx) (wk : Wok G W mc N L X) {c : Str} {o : Expr} {m : Str} {apos pos : Pos} {as : List Expr} {i : IE} {is : IEs} (hsup : supB o = false) (hl : (apos.endLine == pos.line) = true) (hp : ∀ e ∈ as, isStar e = false) (hn : as.length < 30)
    (ho : PE X o (tE G W refs i)) (ha : PA X as (tA G W refs is)) (h0 : as = [] → is = .nil) : PE X (.Call (.Attribute o m apos) as [] pos) (tE G W refs (.meth c i m is)) := by
  cases hf : G.meth c m with
  | none =>
    exact pe_no fun σ H Q ⟨_, _, _, _, ⟨fi, e, _⟩, _⟩ => by rw [hf] at e; cases e
  | some fi =>
    obtain ⟨C, g, fd, ps, hC, hm, F, hb, _⟩ := wk.hmeth c m fi hf
    cases as with
    | nil =>
      refine PE_weak (pe_meth0 (E := E0) ho (wk.hcls c C hC) hm F (wk.hroom.mono (Nat.le_succ _)) hb .nil pass0 (meth_ht (not_sup hsup) hl hp hn)) fun σ H Q q => ?_
      rw [h0 rfl] at q
      exact tE_mono (w_meth hC hf q) fun v H1 ⟨a, dx, fs, e1, e2, e3, z⟩ => ⟨a, dx, fs, e1, e2, e3, w_anil z⟩
    | cons e es =>
      exact PE_weak (pe_meth (E := E0) ho (wk.hcls c C hC) hm F (wk.hroom.mono (Nat.le_succ _)) hb .nil pass0 ha (not_star (hp e List.mem_cons_self) _) (plain_any _ fun e he => hp e (List.mem_cons_of_mem _ he)) (meth_ht (not_sup hsup) hl hp hn)) fun σ H Q q => w_meth hC hf q
/-! ### calls by keywords alone -/
theorem kw_each : ∀ {ks : List Keyword} {nms : List Str} {env : Env} (pos : Pos), kwNames ks = some nms → (backToKw pos (keywordEach ks env)).all (fun x => x.1.isSome) = true ∧ (backToKw pos (keywordEach ks env)).filterMap (fun x => x.1) = nms ∧ (backToKw pos (keywordEach ks env)).any (fun x => x.1.isNone) = false
  | [], nms, env, pos, h => by cases h; exact ⟨rfl, rfl, rfl⟩
  | ⟨nm, e, kp⟩ :: r, nms, env, pos, h => by
    unfold kwNames at h
    dsimp only at h
    cases nm with
    | none => cases h
    | some x =>
      cases e1 : kwNames r with
      | none => rw [e1] at h; cases h
      | some xs =>
        rw [e1] at h
        cases h
        obtain ⟨h1, h2, h3⟩ := kw_each (env := env) pos e1
        refine ⟨?_, ?_, ?_⟩
        · show (true && (backToKw pos (keywordEach r env)).all (fun x => x.1.isSome)) = true
          rw [h1]; rfl
        · show x :: (backToKw pos (keywordEach r env)).filterMap (fun x => x.1) = _
          rw [h2]
        · show (false || (backToKw pos (keywordEach r env)).any (fun x => x.1.isNone)) = false
          rw [h3]; rfl
theorem run_fnN {X : Cx} {CX : CXT} {k n : Nat} {f : Addr} {fd : FuncData} {ps ks : List Str} {sp : Sp} {E : XK} {g : List Value → List Value → List Value} {gV : List V → List V → List V} {pins : List (Addr × Obj)} {σ : L2.St} {H : Hp} {s : Shared} {Q : VK} {us ws : List Value} {vs zs : List V}
    (F : FnOk X.prog X.w X.K X.mg X.base CX k f fd ps sp) (hr : Room k X.A) (hb : KBn X.K fd ps n ks g gV) (hx : Passes CX X E)
    (I : Inv X pins σ H s) (r : Vals vs us) (rz : Vals zs ws) (l1 : vs.length = n) (l2 : zs.length = ks.length) (h : sp (gV vs zs) H Q E) : wpAny (model X.prog X.w) X.A (call (.ref f) us (ks.zip ws)) (EP X pins σ Q) X.xe s := by
  have r2 := hb.rel r rz
  refine wpAny_call (codeAny_mono (F.run X.A X.stack s H ⟨us, ks.zip ws⟩ (g us ws) (gV vs zs) Q E hr I.env0 (hb.to s us ws I.kIn (r.length.symm.trans l1) (rz.length.symm.trans l2)) r2 h) fun r s' hq => ?_)
  cases r with
  | error e => exact hx pins σ H s e s' I hq
  | ok fl =>
    cases fl with
    | ret u => exact I.after hq
    | next => exact False.elim hq
    | brk => exact False.elim hq
    | cont => exact False.elim hq
/-- f(k = v, ..) -/
def tCallKk (sp : Sp) (n : Nat) (gV : List V → List V → List V) (E : XK) (tk : TA) : TE := fun σ H Q => tk σ H fun zs H2 => zs.length = n ∧ sp (gV [] zs) H2 Q E
theorem pe_callK0 {X : Cx} {CX : CXT} {k : Nat} {f : Addr} {fd : FuncData} {ps nms : List Str} {sp : Sp} {E : XK} {g : List Value → List Value → List Value} {gV : List V → List V → List V} {x : Str} {p pos : Pos} {ks : List Keyword} {tk : TA}
    (F : FnOk X.prog X.w X.K X.mg X.base CX k f fd ps sp) (hr : Room k X.A) (hg : Gl X x) (hm : X.mg x = some (.ref f)) (hk : PySem.W.keepIn X.K (.ref f) = true) (hb : KBn X.K fd ps 0 nms g gV) (hx : Passes CX X E) (hkw : PK X ks tk) (hn : kwNames ks = some nms)
    (hdb : (x == ("__debug__" : Str)) = false) : PE X (.Call (.Name x p) [] ks pos) (tCallKk sp nms.length gV E tk) := by
  obtain ⟨h1, h2, h3⟩ := kw_each (env := X.env) pos hn
  refine ⟨fun pins s σ H Q I h => ?_⟩
  refine wpAny_Call_Name_kw (ld_glob I hg hm ?_ hdb)
  refine PySem.W.callWith_KW0 (h₀ := X.base) I.ok.mod.kin hk h1 ?_ (by show (false || _) = false; rw [h3]; rfl)
  refine thn (hkw.run pos pins s σ H _ I h) fun ws s2 ⟨zs, H2, I2, rz, l2, q2⟩ => ⟨I2.kIn, ?_⟩
  rw [h2]
  exact run_fnN F hr hb hx I2 .nil rz rfl l2 q2
/-- o.m(k = v, ..) -/
def tMethKk (C : Addr) (m : Str) (sp : Sp) (n : Nat) (gV : List V → List V → List V) (E : XK) (ta : TE) (tk : TA) : TE := fun σ H Q => ta σ H fun x H1 => ∃ a dx fs, x = .ref a ∧ H1 a = some (.ins C dx fs) ∧ fs.lookup m = none ∧
  tk σ H1 fun zs H2 => zs.length = n ∧ sp (gV [x] zs) H2 Q E
theorem meth_htK {o : Expr} {m : Str} {apos pos : Pos} {ks : List Keyword} {nms : List Str} {env : Env} (hb : attributeBase o m env (eval o env) = eval o env) (hl : (apos.endLine == pos.line) = true) (hn : ks.length < 29) (hk : kwNames ks = some nms) :
    eval (.Call (.Attribute o m apos) [] ks pos) env = (do
      let ov ← eval o env
      standAt apos.atName
      let (f, first) ← holding [ov] (getMethod ov m (do return (← importBound o env).getD true))
      callWith pos f first (backTo pos (starEach [] env)) (backToKw pos (keywordEach ks env))) := by
  obtain ⟨h1, h2, h3⟩ := kw_each (env := env) pos hk
  have hform : methodCallForm (([] : List Expr).length + ks.length) (backTo pos (starEach [] env)) (backToKw pos (keywordEach ks env)) = true := by
    unfold methodCallForm
    rw [h1, show (backTo pos (starEach [] env)).all (fun x => !x.1) = true from rfl, Bool.true_and, Bool.true_and]
    refine decide_eq_true ?_
    show 0 + ks.length + _ < 30
    split <;> omega
  have hpos : methodCallPos true o env apos pos = pure pos := by unfold methodCallPos; simp [hl]
  rw [arm_eval_Call, hb]
  unfold methodCall
  rw [hform]
  simp only [hpos]
  rfl
theorem pe_methK0 {X : Cx} {CX : CXT} {k : Nat} {C f : Addr} {fd : FuncData} {ps nms : List Str} {sp : Sp} {E : XK} {g : List Value → List Value → List Value} {gV : List V → List V → List V} {o : Expr} {m : Str} {apos pos : Pos} {ks : List Keyword} {ta : TE} {tk : TA}
    (he : PE X o ta) (c : Cls X.K C) (hm : Meth X.K C m f) (F : FnOk X.prog X.w X.K X.mg X.base CX k f fd ps sp) (hr : Room k X.A) (hb : KBn X.K fd ps 1 nms g gV) (hx : Passes CX X E) (hkw : PK X ks tk) (hn : kwNames ks = some nms)
    (hbase : attributeBase o m X.env (eval o X.env) = eval o X.env) (hl : (apos.endLine == pos.line) = true) (h29 : ks.length < 29) : PE X (.Call (.Attribute o m apos) [] ks pos) (tMethKk C m sp nms.length gV E ta tk) := by
  obtain ⟨h1, h2, h3⟩ := kw_each (env := X.env) pos hn
  refine ⟨fun pins s σ H Q I h => ?_⟩
  refine PySem.W.methodCall_KW (thn (he.run pins s σ H _ I h) fun u s1 ⟨x, H1, I1, rx, a, dx, fs, ex, ea, l, q⟩ => ?_) (meth_htK hbase hl h29 hn)
  subst ex
  obtain rfl : u = Value.ref a := rx
  refine getmeth_ok I1 ea c hm l ?_
  refine PySem.W.callWith_KW0 (first := [.ref a]) (h₀ := X.base) I.ok.mod.kin hm.kp h1 ?_ (by show (false || _) = false; rw [h3]; rfl)
  refine thn (hkw.run pos pins s1 σ H1 _ I1 q) fun ws s2 ⟨zs, H2, I2, rz, l2, q2⟩ => ⟨I2.kIn, ?_⟩
  rw [h2]
  exact run_fnN (us := [.ref a]) (vs := [.ref a]) F hr hb hx I2 (.cons rfl .nil) rz rfl l2 q2

theorem allval_den {ρ : Rho} {σ : L2.St} {Hs H : Hp} : ∀ {rs : List Res} {vs : List V} {ds : List DV}, Passed W ρ σ Hs H (allVal rs) rs vs ds → Dens W Hs vs ds
  | [], _, _, h => by cases h; exact .nil
  | r :: rs, _, _, h => by
    cases h with
    | byVal D P => exact .cons D (allval_den P)
theorem perm_den {Hs : Hp} {vs : List V} {ds : List DV} (D : Dens W Hs vs ds) : ∀ (ord : List Nat), Dens W Hs (permW ord vs) (permW ord ds)
  | [] => .nil
  | i :: ord => by
    have ih := perm_den D ord
    unfold permW at ih ⊢
    rw [List.filterMap_cons, List.filterMap_cons]
    cases h : vs[i]? with
    | none =>
      have : ds[i]? = none := by
        rw [List.getElem?_eq_none_iff] at h ⊢
        rw [← D.length]; exact h
      rw [this]; exact ih
    | some v =>
      obtain ⟨d, h1, h2⟩ := D.getV h
      rw [h1]; exact .cons h2 ih
theorem vals_ok {ρ : Rho} {σ : L2.St} {Hs H : Hp} : ∀ {vs : List V} {ds : List DV}, Dens W Hs vs ds → ResOks W ρ σ Hs H (ds.map .val) vs
  | _, _, .nil => .nil
  | _, _, .cons d D => .cons d (vals_ok D)
theorem vals_new {H Hs : Hp} : ∀ {vs : List V} {ds : List DV}, Dens W Hs vs ds → NewTs H (ds.map Res.val) vs
  | _, _, .nil => .nil
  | _, _, .cons d D => .cons trivial trivial (vals_new D)
theorem w_callK {f : Str} {ks : List Str} {bs : IEs} {fi : FI} {ord : List Nat} {σ : L2.St} {H : Hp} {Q : VK} (hf : G.fns f = some fi) (ho : G.kwo f ks = some ord) (h : tE G W refs (.callK f ks bs) σ H Q) : tCallKk (spOf W fi) ks.length (gK ord) E0 (tA G W refs bs) σ H Q := by
  obtain ⟨ρ, Hs, k, R, ⟨fi', ord', e, e', h⟩, P⟩ := h
  rw [hf] at e; cases e
  rw [ho] at e'; cases e'
  refine tA_at (Step.refl R) h fun rs ρ1 vs Hs1 H1 S1 _ O1 N1 _ ⟨hl, hc⟩ => ⟨O1.length.symm.trans hl, ?_⟩
  obtain ⟨ds, ρ2, Hs2, S2, A, hw, _, _⟩ := passL_ok S1 O1 N1 hc
  have D := perm_den (allval_den A) ord
  exact callW_ok S2 (vals_ok D) (vals_new D) hw P
theorem apart_vals {r : Res} {v : V} {Hs : Hp} : ∀ {vs : List V} {ds : List DV}, Dens W Hs vs ds → Apart r v (ds.map Res.val) vs := by
  intro vs ds D
  cases r with
  | tmp d =>
    show ApartT v _ _
    induction ds generalizing vs with
    | nil => cases D; trivial
    | cons d ds ih =>
      cases D with
      | cons h t => exact ih t
  | _ => trivial
theorem w_methK {c : Str} {C : Addr} {e : IE} {m : Str} {ks : List Str} {bs : IEs} {fi : FI} {ord : List Nat} {σ : L2.St} {H : Hp} {Q : VK} (hC : W.cls c = some C) (hf : G.meth c m = some fi) (ho : G.kwo m ks = some ord) (h : tE G W refs (.methK c e m ks bs) σ H Q) :
    tMethKk C m (spOf W fi) ks.length (gK ord) E0 (tE G W refs e) (tA G W refs bs) σ H Q := by
  obtain ⟨ρ, Hs, k, R, ⟨fi', ord', e1, e2, h⟩, P⟩ := h
  rw [hf] at e1; cases e1
  rw [ho] at e2; cases e2
  refine tE_at (Step.refl R) h fun r1 ρ1 v1 Hs1 H1 S1 _ O1 N1 _ ⟨ns, ds, hc, hl, hk⟩ => ?_
  obtain ⟨a, C', dx, vs, rfl, hC', hH, hn, hD⟩ := O1.sh S1.rel hc
  rw [hC] at hC'; cases hC'
  refine ⟨a, dx, _, rfl, hH, zip_none hl, ?_⟩
  refine tA_at S1 hk fun rs ρ2 vs Hs2 H2 S2 S02 O2 N2 N02 ⟨hl, hw⟩ => ⟨O2.length.symm.trans hl, ?_⟩
  obtain ⟨ds, ρ3, Hs3, S3, A, hw, _, keep⟩ := passL_ok S02 O2 N02 hw
  have D := perm_den (allval_den A) ord
  exact callW_ok S3 (.cons (keep _ _ (O1.step S2) (apart_of O1 N2)) (vals_ok D)) (.cons N1 (apart_vals D) (vals_new D)) hw P
theorem w_makeK {c : Str} {C : Addr} {ks : List Str} {bs : IEs} {fi : FI} {ord : List Nat} {σ : L2.St} {H : Hp} {Q : VK} (hC : W.cls c = some C) (hf : G.mak c = some fi) (hm : ∃ ms, fi.modes = true :: ms) (ho : G.kwo c ks = some ord) (h : tE G W refs (.makeK c ks bs) σ H Q) :
    tMakeK C 0 ks.length (spOf W fi) (gK ord) E0 tNil (tA G W refs bs) σ H Q := by
  obtain ⟨ρ, Hs, k, R, ⟨fi', ord', e, e', h⟩, P⟩ := h
  rw [hf] at e; cases e
  rw [ho] at e'; cases e'
  show tA G W refs bs σ H fun zs H2 => ([] : List V).length = 0 ∧ zs.length = ks.length ∧ _
  refine tA_at (Step.refl R) h fun rs ρ0 vs0 Hs0 H1 S0 _ O0 N0 _ ⟨hl, hc⟩ => ⟨rfl, O0.length.symm.trans hl, ?_⟩
  obtain ⟨ds0, ρ1, Hs1, S1, A, hc, _, _⟩ := passL_ok S0 O0 N0 hc
  have D := perm_den (allval_den A) ord
  intro x dx hx hdx hne
  exact make_core hC hm S1 (vals_ok D) (vals_new D) hc P x dx hx hdx hne
theorem compA_nil {sc : Scope} {i : IEs} (h : compA n mc N sc [] = some i) : i = .nil := by
  cases n with
  | zero => cases h
  | succ n => cases h; rfl
theorem turn_C (ih : Snd G W refs mc N L n) (X : Cx) (sc : Scope) (f : Expr) (as : List Expr) (pos : Pos) (i : IE) (wk : Wok G W mc N L X) (hs : X.env.scope = sc) (h : compC (n + 1) mc N sc f as pos = some i) : PE X (.Call f as [] pos) (tE G W refs i) := by
  cases f with
  | Name x p =>
    simp only [compC] at h
    by_cases hc : (okName x && glB sc x && as.all (fun a => !isStar a)) = true
    · rw [if_pos hc] at h
      simp only [Bool.and_eq_true] at hc
      obtain ⟨⟨hok, hg⟩, hst⟩ := hc
      have hp := all_star hst
      have many : ∀ (e : Expr) (r : List Expr), as = e :: r → ∀ i, (compA n mc N sc (e :: r)).map (mkOf (mc x) x) = some i → PE X (.Call (.Name x p) (e :: r) [] pos) (tE G W refs i) := by
        intro e r ea i h'
        subst ea
        obtain ⟨is, hi, rfl⟩ := cases_map h'
        unfold mkOf
        cases hm : mc x with
        | none => exact pe_fn X wk hs hok hg hp (ih.sA X sc _ is wk hs hi) (fun z => by cases z)
        | some c =>
          dsimp only
          by_cases q : c = "*"
          · rw [if_pos q]; exact pe_mkV X wk hs hok hg hp (ih.sA X sc _ is wk hs hi)
          · rw [if_neg q]; exact pe_mk X wk hs hok hg hp (ih.sA X sc _ is wk hs hi)
      match as, hst, hp, many, h with
      | [], hst, hp, many, h =>
        cases h
        exact pe_fn X wk hs hok hg hp (PA_weak pa_nil fun σ H Q q => w_anil q) fun _ => rfl
      | [a], hst, hp, many, h =>
        cases hb : blt1 x with
        | none =>
          rw [hb] at h
          exact many a [] rfl i h
        | some pr =>
          rw [hb] at h
          obtain ⟨j, hj, rfl⟩ := cases_map h
          have sa := hp a List.mem_cons_self
          have pa := pa_cons (ih.sE X sc a j wk hs hj) pa_nil (not_star sa _)
          obtain ⟨hx, hn, q⟩ := blt1_rule (W := W) wk.hK wk.hcalm hb
          rcases q with ⟨id, r, hv, hr, pi⟩ | ⟨T, r, hv, hr, pi⟩
          · exact PE_weak (pe_callB hr (gl_of hs hg) (wk.hblt x hx) hv pa hn (okName_ok hok).1 (not_star sa _) rfl) fun σ H Q q => prim1_w (r := fun x H Q => r [x] H Q) pi q
          · exact PE_weak (pe_callTy hr (gl_of hs hg) (wk.hblt x hx) hv pa hn (okName_ok hok).1 (not_star sa _) rfl) fun σ H Q q => prim1_w (r := fun x H Q => r [x] H Q) pi q
      | [a, b], hst, hp, many, h =>
        have sa := hp a List.mem_cons_self
        have sb := hp b (List.mem_cons_of_mem _ List.mem_cons_self)
        dsimp only at h
        by_cases hi : x = "isinstance"
        · rw [if_pos hi] at h
          cases b with
          | Name t pt =>
            simp only at h
            by_cases ht : (okName t && glB sc t) = true
            · rw [if_pos ht] at h
              simp only [Bool.and_eq_true] at ht
              cases h1 : isT t with
              | none =>
                cases h2 : compE n mc N sc a with
                | none => rw [h1, h2] at h; cases h
                | some j =>
                  rw [h1, h2] at h; cases h
                  subst hi
                  exact pe_isC X wk hs hg ht.1 ht.2 sa (ih.sE X sc a j wk hs h2)
              | some pr =>
                cases h2 : compE n mc N sc a with
                | none => rw [h1, h2] at h; cases h
                | some j =>
                  rw [h1, h2] at h; cases h
                  obtain ⟨hx, hn, T, hv, pi⟩ := isT_rule (W := W) h1
                  have pa := pa_cons (ih.sE X sc a j wk hs h2) (pa_cons (pe_bltn (v := .ty T) (pos := pt) (gl_of hs ht.2) (wk.hblt t hx) hv rfl hn (okName_ok ht.1).1) pa_nil (not_star sb _)) (not_star sa _)
                  subst hi
                  exact PE_weak (pe_callB call_isi (gl_of hs hg) (wk.hblt _ (by decide)) rfl pa (by decide) (okName_ok hok).1 (not_star sa _) (plain_any (es := [.Name t pt]) _ fun e he => hp e (List.mem_cons_of_mem _ he))) fun σ H Q q => by rw [wk.hK]; exact prim1_w (r := fun x H Q => rIsi W.K [x, .ty T] H Q) pi q
            · rw [if_neg ht] at h; cases h
          | _ => cases h
        · rw [if_neg hi] at h
          cases hb : blt2 x with
          | none =>
            rw [hb] at h
            exact many a [b] rfl i h
          | some pr =>
            rw [hb] at h
            cases h1 : compE n mc N sc a with
            | none => rw [h1] at h; cases h
            | some j =>
              cases h2 : compE n mc N sc b with
              | none => rw [h1, h2] at h; cases h
              | some l =>
                rw [h1, h2] at h; cases h
                have pa := pa_cons (ih.sE X sc a j wk hs h1) (pa_cons (ih.sE X sc b l wk hs h2) pa_nil (not_star sb _)) (not_star sa _)
                obtain ⟨hx, hn, id, r, hv, hr, pi⟩ := blt2_rule (W := W) wk.hcalm hb
                exact PE_weak (pe_callB hr (gl_of hs hg) (wk.hblt x hx) hv pa hn (okName_ok hok).1 (not_star sa _) (plain_any (es := [b]) _ fun e he => hp e (List.mem_cons_of_mem _ he))) fun σ H Q q => prim2_w (r := fun x y H Q => r [x, y] H Q) pi q
      | a :: b :: c :: r, hst, hp, many, h => exact many a (b :: c :: r) rfl i h
    · rw [if_neg hc] at h
      by_cases hc2 : (okName x && glB sc x) = true
      · rw [if_pos hc2] at h
        simp only [Bool.and_eq_true] at hc2
        split at h
        · obtain ⟨j, hj, rfl⟩ := cases_map h
          exact pe_mkS X wk hs hc2.1 hc2.2 (ih.sE X sc _ j wk hs hj)
        · cases h
      · rw [if_neg hc2] at h; cases h
  | Attribute o m apos =>
    simp only [compC] at h
    by_cases hc : (supB o || !(apos.endLine == pos.line) || as.any isStar || !decide (as.length < 30)) = true
    · rw [if_pos hc] at h; cases h
    · rw [if_neg hc] at h
      simp only [Bool.or_eq_true, not_or, Bool.not_eq_true, Bool.not_eq_true', Bool.not_eq_false', decide_eq_false_iff_not, Bool.not_eq_false, decide_eq_true_eq, List.any_eq_false] at hc
      obtain ⟨⟨⟨hsup, hl⟩, hp⟩, hn⟩ := hc
      have hp : ∀ e ∈ as, isStar e = false := fun e he => by simpa using hp e he
      have hn : as.length < 30 := Decidable.not_not.mp hn
      have hbase := fun (f : Str) => not_sup (f := f) (env := X.env) (w := eval o X.env) hsup
      match as, hp, hn, h with
      | [], hp, hn, h =>
        cases h1 : mc m with
        | none => rw [h1] at h; cases h
        | some c =>
          cases h2 : compE n mc N sc o with
          | none => rw [h1, h2] at h; cases h
          | some j =>
            rw [h1, h2] at h; cases h
            exact pe_mth X wk hsup hl hp hn (ih.sE X sc o j wk hs h2) (PA_weak pa_nil fun σ H Q q => w_anil q) fun _ => rfl
      | a :: r, hp, hn, h =>
        have sa := hp a List.mem_cons_self
        simp only at h
        by_cases e1 : m = "split"
        · rw [if_pos e1] at h
          subst e1
          cases r with
          | cons _ _ => cases h
          | nil =>
            cases h1 : compE n mc N sc o with
            | none => rw [h1] at h; cases h
            | some j =>
              cases h2 : compE n mc N sc a with
              | none => rw [h1, h2] at h; cases h
              | some l =>
                rw [h1, h2] at h; cases h
                exact PE_weak (pe_split (ih.sE X sc o j wk hs h1) (ih.sE X sc a l wk hs h2) (not_star sa _) (hbase _) hl) fun σ H Q q => w_tm (fun _ _ _ _ _ _ _ _ => pm_split) q
        · rw [if_neg e1] at h
          by_cases e2 : m = "join"
          · rw [if_pos e2] at h
            subst e2
            cases r with
            | cons _ _ => cases h
            | nil =>
              cases h1 : compE n mc N sc o with
              | none => rw [h1] at h; cases h
              | some j =>
                cases h2 : compE n mc N sc a with
                | none => rw [h1, h2] at h; cases h
                | some l =>
                  rw [h1, h2] at h; cases h
                  exact PE_weak (pe_join (ih.sE X sc o j wk hs h1) (ih.sE X sc a l wk hs h2) (not_star sa _) (hbase _) hl) fun σ H Q q => by rw [wk.hK]; exact w_tm (fun _ _ _ _ _ _ _ _ => pm_join) q
          · rw [if_neg e2] at h
            by_cases e3 : mc m = some "@"
            · rw [if_pos e3] at h
              cases o with
              | Name x xp =>
                replace h : (if (okName x && glB sc x) = true then (compA n mc N sc (a :: r)).map (IE.cmeth x m) else none) = some i := h
                by_cases hc3 : (okName x && glB sc x) = true
                · rw [if_pos hc3] at h
                  simp only [Bool.and_eq_true] at hc3
                  obtain ⟨is, hi, rfl⟩ := cases_map h
                  exact pe_cmth X wk hs hc3.1 hc3.2 hl hp hn (ih.sA X sc _ is wk hs hi)
                · rw [if_neg hc3] at h; cases h
              | _ => cases h
            rw [if_neg e3] at h
            cases h1 : mc m with
            | none => rw [h1] at h; cases h
            | some c =>
              cases h2 : compE n mc N sc o with
              | none => rw [h1, h2] at h; cases h
              | some j =>
                cases h3 : compA n mc N sc (a :: r) with
                | none => rw [h1, h2, h3] at h; cases h
                | some is =>
                  rw [h1, h2, h3] at h; cases h
                  exact pe_mth X wk hsup hl hp hn (ih.sE X sc o j wk hs h2) (ih.sA X sc _ is wk hs h3) fun z => by cases z
  | _ => cases h
end
end EV

set_option maxRecDepth 100000
set_option maxHeartbeats 4000000
/-! EV 15: expressions, tests; the induction. -/
namespace EV
open PySem L2
section
variable {G : Genv} {W : Wd} {refs : List Addr} {mc : Str → Option Str} {N : List Str} {L n : Nat}

theorem turn_E (ih : Snd G W refs mc N L n) (X : Cx) (sc : Scope) (e : Expr) (i : IE) (wk : Wok G W mc N L X) (hs : X.env.scope = sc) (h : compE (n + 1) mc N sc e = some i) : PE X e (tE G W refs i) := by
  have units := wk.hroom.units
  cases e with
  | Name x p =>
    simp only [compE] at h
    by_cases hk : okName x = true
    · rw [if_pos hk] at h
      obtain ⟨k1, k2, k3⟩ := okName_ok hk
      by_cases hv : visB sc x = true
      · rw [if_pos hv] at h
        obtain ⟨j, hj, rfl⟩ := cases_map h
        exact PE_weak (pe_var (by rw [wk.hN]; exact plc_ok hj) (vis_of hs hv) k1 k2) fun _ _ _ q => w_var q
      · rw [if_neg hv] at h
        by_cases hg : glB sc x = true
        · rw [if_pos hg] at h
          cases h
          cases hc : G.con x with
          | none => exact pe_no fun σ H Q ⟨_, _, _, _, ⟨d, e, _⟩, _⟩ => by rw [hc] at e; cases e
          | some d =>
            obtain ⟨v, u, hm, r, hd⟩ := wk.hcon x d hc
            refine PE_weak (pe_glob (gl_of hs hg) hm r k1) fun σ H Q q => ?_
            obtain ⟨ρ, Hs, k, R, ⟨d', e', hk'⟩, P⟩ := q
            rw [hc] at e'; cases e'
            exact P (.val d) ρ v Hs H (Step.refl R) (hd Hs) trivial hk'
        · rw [if_neg hg] at h; cases h
    · rw [if_neg hk] at h; cases h
  | Constant c k p =>
    cases c with
    | int z => cases h; exact PE_weak pe_int fun _ _ _ q => w_cst (fun _ _ => .int z) q
    | bool z => cases h; exact PE_weak pe_bl fun _ _ _ q => w_cst (fun _ _ => .bl z) q
    | none => cases h; exact PE_weak pe_non fun _ _ _ q => w_cst (fun _ _ => .non) q
    | str z => cases h; exact PE_weak pe_str fun _ _ _ q => w_cst (fun _ _ => .str z) q
    | _ => cases h
  | BinOp a op b p =>
    simp only [compE] at h
    cases h0 : binP op with
    | none => rw [h0] at h; cases h
    | some pr =>
      cases h1 : compE n mc N sc a with
      | none => rw [h0, h1] at h; cases h
      | some j =>
        cases h2 : compE n mc N sc b with
        | none => rw [h0, h1, h2] at h; cases h
        | some l =>
          rw [h0, h1, h2] at h; cases h
          obtain ⟨r, hr, pi⟩ := bin_rule wk.hK h0
          exact PE_weak (pe_op hr (ih.sE X sc a j wk hs h1) (ih.sE X sc b l wk hs h2)) fun _ _ _ q => prim2_w pi q
  | UnaryOp op a p =>
    cases op with
    | USub =>
      obtain ⟨j, hj, rfl⟩ := cases_map (show (compE n mc N sc a).map (fun i => IE.prim .neg (.cons i .nil)) = some i from h)
      exact PE_weak (pe_un un_neg (ih.sE X sc a j wk hs hj)) fun _ _ _ q => prim1_w (fun _ _ _ _ _ _ => pc_neg) q
    | Not =>
      obtain ⟨j, hj, rfl⟩ := cases_map (show (compE n mc N sc a).map IE.not1 = some i from h)
      exact PE_weak (pe_not (ih.sE X sc a j wk hs hj)) fun _ _ _ q => w_not q
    | _ => cases h
  | BoolOp op vs p => exact ih.sB X sc op vs i wk hs h p
  | IfExp c a b p =>
    simp only [compE] at h
    cases h0 : compT n mc N sc c with
    | none => rw [h0] at h; cases h
    | some t =>
      cases h1 : compE n mc N sc a with
      | none => rw [h0, h1] at h; cases h
      | some j =>
        cases h2 : compE n mc N sc b with
        | none => rw [h0, h1, h2] at h; cases h
        | some l =>
          rw [h0, h1, h2] at h; cases h
          exact PE_weak (pe_ifExp (ih.sT X sc c t wk hs h0) (ih.sE X sc a j wk hs h1) (ih.sE X sc b l wk hs h2)) fun _ _ _ q => w_ife q
  | Compare a ops bs p =>
    simp only [compE] at h
    split at h
    · rename_i b
      by_cases hb : isNone b = true
      · rw [if_pos hb] at h
        obtain ⟨j, hj, rfl⟩ := cases_map h
        cases b <;> first | cases hb | skip
        rename_i cc k1 p1
        cases cc <;> first | cases hb | skip
        exact PE_weak (pe_cmp (pc_isN (ih.sE X sc a j wk hs hj))) fun _ _ _ q => w_isN q
      · rw [if_neg hb] at h; cases h
    · rename_i b
      by_cases hb : isNone b = true
      · rw [if_pos hb] at h
        obtain ⟨j, hj, rfl⟩ := cases_map h
        cases b <;> first | cases hb | skip
        rename_i cc k1 p1
        cases cc <;> first | cases hb | skip
        exact PE_weak (pe_cmp (pc_notN (ih.sE X sc a j wk hs hj))) fun _ _ _ q => w_notN q
      · rw [if_neg hb] at h; cases h
    · rename_i op b _ _
      by_cases hb : isSet b = true
      · rw [if_pos hb] at h; cases h
      · rw [if_neg hb] at h
        cases h0 : cmpP op with
        | none => rw [h0] at h; cases h
        | some pr =>
          cases h1 : compE n mc N sc a with
          | none => rw [h0, h1] at h; cases h
          | some j =>
            cases h2 : compE n mc N sc b with
            | none => rw [h0, h1, h2] at h; cases h
            | some l =>
              rw [h0, h1, h2] at h; cases h
              obtain ⟨r, hr, pi, _⟩ := cmp_rule wk.hK units h0
              exact PE_weak (pe_cmpR hr (ih.sE X sc a j wk hs h1) (ih.sE X sc b l wk hs h2) (not_mark (by simpa using hb))) fun _ _ _ q => prim2_w pi q
    · rename_i op op' b c
      by_cases hb : isSet c = true
      · rw [if_pos hb] at h; cases h
      · rw [if_neg hb] at h
        split at h
        · rename_i p1 q1 i1 j1 l1 e1 e2 e3 e4 e5
          cases h
          obtain ⟨r, hr, pi, _⟩ := cmp_rule wk.hK units e1
          obtain ⟨r', hr', pi', _⟩ := cmp_rule wk.hK units e2
          exact PE_weak (pe_chain hr hr' (ih.sE X sc a i1 wk hs e3) (ih.sE X sc b j1 wk hs e4) (ih.sE X sc c l1 wk hs e5) (not_mark2 (by simpa using hb))) fun _ _ _ q => w_chain pi pi' q
        · cases h
    · rename_i op op' op'' b c d
      by_cases hb : isSet d = true
      · rw [if_pos hb] at h; cases h
      · rw [if_neg hb] at h
        split at h
        · rename_i p1 q1 u1 i1 j1 l1 m1 e1 e2 e2' e3 e4 e5 e6
          cases h
          obtain ⟨r, hr, pi, _⟩ := cmp_rule wk.hK units e1
          obtain ⟨r', hr', pi', _⟩ := cmp_rule wk.hK units e2
          obtain ⟨r'', hr'', pi'', _⟩ := cmp_rule wk.hK units e2'
          exact PE_weak (pe_chain3 hr hr' hr'' (ih.sE X sc a i1 wk hs e3) (ih.sE X sc b j1 wk hs e4) (ih.sE X sc c l1 wk hs e5) (ih.sE X sc d m1 wk hs e6) (not_mark3 (by simpa using hb))) fun _ _ _ q => w_chain3 pi pi' pi'' q
        · cases h
    · cases h
  | Tuple es k p =>
    obtain ⟨j, hj, rfl⟩ := cases_map (show (compA n mc N sc es).map IE.tup = some i from h)
    exact PE_weak (pe_tup (ih.sA X sc es j wk hs hj)) fun _ _ _ q => w_tup q
  | List es p =>
    obtain ⟨j, hj, rfl⟩ := cases_map (show (compA n mc N sc es).map IE.lst = some i from h)
    exact PE_weak (pe_lst (ih.sA X sc es j wk hs hj)) fun _ _ _ q => w_lst q
  | Subscript e ix p =>
    have main : isSlice ix = false → (match compE n mc N sc e, compE n mc N sc ix with
      | some a, some b => some (IE.prim .ix (.cons a (.cons b .nil)))
      | _, _ => none) = some i → PE X (.Subscript e ix p) (tE G W refs i) := fun hb h => by
      split at h
      · rename_i a1 b1 e1 e2
        cases h
        exact PE_weak (pe_ix ix_seq (ih.sE X sc e a1 wk hs e1) (ih.sE X sc ix b1 wk hs e2) (not_slice hb)) fun _ _ _ q => by rw [wk.hK]; exact prim2_w pi_ix q
      · cases h
    cases ix with
    | Slice lo hi st p2 =>
      cases st with
      | some _ => cases h
      | none =>
        have h : (match compE n mc N sc e, compO n mc N sc lo, compO n mc N sc hi with
          | some i, some l, some h => some (IE.slc i l h)
          | _, _, _ => none) = some i := h
        split at h
        · rename_i a1 l1 h1 e1 e2 e3
          cases h
          exact PE_weak (pe_slice sl_all (ih.sE X sc e a1 wk hs e1) (ih.sO X sc _ l1 wk hs e2) (ih.sO X sc _ h1 wk hs e3)) fun _ _ _ q => by rw [wk.hK]; exact w_slc q
        · cases h
    | _ => exact main rfl h
  | Attribute e f p =>
    simp only [compE] at h
    by_cases hb : supB e = true
    · rw [if_pos hb] at h; cases h
    · rw [if_neg hb] at h
      obtain ⟨j, hj, rfl⟩ := cases_map h
      exact PE_weak (pe_attr wk (ih.sE X sc e j wk hs hj) (not_sup (by simpa using hb))) fun _ _ _ q => w_fld q
  | Call f as ks p =>
    cases ks with
    | nil => exact ih.sC X sc f as p i wk hs h
    | cons kw kr =>
      cases as with
      | cons _ _ => cases h
      | nil =>
        dsimp only [compE] at h
        cases hn : kwNames (kw :: kr) with
        | none => rw [hn] at h; cases h
        | some nms =>
          rw [hn] at h
          cases f with
          | Name x px =>
            replace h : (if (okName x && glB sc x) = true then (match mc x with
              | some _ => (compK n mc N sc (kw :: kr)).map (IE.makeK x nms)
              | none => (compK n mc N sc (kw :: kr)).map (IE.callK x nms)) else none) = some i := h
            by_cases hc : (okName x && glB sc x) = true
            · rw [if_pos hc] at h
              simp only [Bool.and_eq_true] at hc
              obtain ⟨hok, hg⟩ := hc
              cases hm : mc x with
              | none =>
                rw [hm] at h
                obtain ⟨is, hi, rfl⟩ := cases_map h
                cases hf : G.fns x with
                | none => exact pe_no fun σ H Q ⟨_, _, _, _, ⟨fi, _, e, _⟩, _⟩ => by rw [hf] at e; cases e
                | some fi =>
                  cases ho : G.kwo x nms with
                  | none => exact pe_no fun σ H Q ⟨_, _, _, _, ⟨fi, _, _, e, _⟩, _⟩ => by rw [ho] at e; cases e
                  | some ord =>
                    obtain ⟨fa, fd, ps, hm, hk, F, hb, hkb⟩ := wk.hfns x fi hf
                    exact PE_weak (pe_callK0 (E := E0) F (wk.hroom.mono (Nat.le_succ _)) (gl_of hs hg) hm hk (hkb nms ord ho) pass0 (ih.sK X sc _ is wk hs hi) hn (okName_ok hok).1) fun σ H Q q => w_callK hf ho q
              | some c =>
                rw [hm] at h
                obtain ⟨is, hi, rfl⟩ := cases_map h
                cases hf : G.mak x with
                | none => exact pe_no fun σ H Q ⟨_, _, _, _, ⟨fi, _, e, _⟩, _⟩ => by rw [hf] at e; cases e
                | some fi =>
                  cases ho : G.kwo x nms with
                  | none => exact pe_no fun σ H Q ⟨_, _, _, _, ⟨fi, _, _, e, _⟩, _⟩ => by rw [ho] at e; cases e
                  | some ord =>
                    obtain ⟨C, g, fd, ps, ms, hC, hm, hms, M, F, hb, hkb⟩ := wk.hmak x fi hf
                    obtain ⟨k1, k2, k3⟩ := kw_each (env := X.env) p hn
                    exact PE_weak (pe_makeK0 (E := E0) M F wk.hroom (gl_of hs hg) hm (hkb nms ord ho) pass0 (ih.sK X sc _ is wk hs hi) k1 k2 (okName_ok hok).1 (by show (false || _) = false; rw [k3]; rfl)) fun σ H Q q => w_makeK hC hf ⟨ms, hms⟩ ho q
            · rw [if_neg hc] at h; cases h
          | Attribute o m apos =>
            replace h : (if (supB o || !(apos.endLine == p.line) || !decide ((kw :: kr).length < 29)) = true then none else match mc m, compE n mc N sc o, compK n mc N sc (kw :: kr) with
              | some c, some i, some is => some (IE.methK c i m nms is)
              | _, _, _ => none) = some i := h
            by_cases hc : (supB o || !(apos.endLine == p.line) || !decide ((kw :: kr).length < 29)) = true
            · rw [if_pos hc] at h; cases h
            · rw [if_neg hc] at h
              simp only [Bool.or_eq_true, not_or, Bool.not_eq_true, Bool.not_eq_false', decide_eq_true_eq, Bool.not_eq_true', List.length_cons] at hc
              obtain ⟨⟨hsup, hl⟩, h29⟩ := hc
              have h29 : (kw :: kr).length < 29 := by
                simp at h29
                rw [List.length_cons]; omega
              split at h
              · rename_i c j is e1 e2 e3
                cases h
                cases hf : G.meth c m with
                | none => exact pe_no fun σ H Q ⟨_, _, _, _, ⟨fi, _, e, _⟩, _⟩ => by rw [hf] at e; cases e
                | some fi =>
                  cases ho : G.kwo m nms with
                  | none => exact pe_no fun σ H Q ⟨_, _, _, _, ⟨fi, _, _, e, _⟩, _⟩ => by rw [ho] at e; cases e
                  | some ord =>
                    obtain ⟨C, g, fd, ps, hC, hm, F, hb, hkb⟩ := wk.hmeth c m fi hf
                    exact PE_weak (pe_methK0 (E := E0) (ih.sE X sc o j wk hs e2) (wk.hcls c C hC) hm F (wk.hroom.mono (Nat.le_succ _)) (hkb nms ord ho) pass0 (ih.sK X sc _ is wk hs e3) hn (not_sup hsup) (by simpa using hl) h29) fun σ H Q q => w_methK hC hf ho q
              · cases h
          | _ => cases h
  | ListComp elt gs scope p =>
    simp only [compE] at h
    split at h
    · rename_i tg iter ifs
      by_cases hb : blkC N sc scope (ownOf N scope) = true
      · rw [if_pos hb] at h
        split at h
        · rename_i it t c e e1 e2 e3 e4
          by_cases ht : (tgs t).all (fun j => ((ownOf N scope).map (·.2)).contains j) = true
          · rw [if_pos ht] at h
            cases h
            have ok := blkOk_by hb
            have hkind := ok.kind
            have rk : (relS scope sc).kind = .function := hkind
            have nd : X.N.Nodup := by rw [wk.hN]; exact wk.hnd
            refine PE_weak (pe_lc wk.hcalm nd (ih.sI X sc tg iter it wk hs e1) (by rw [wk.hN, hs]; exact ok)
              (fun s H C cl fp => (ih.sG _ (relS scope sc) false tg t (wk.blk s H scope C cl fp hkind) (by rw [← hs]; rfl) (by intro z; cases z) e2))
              (fun s H C cl fp => (ih.sTs _ (relS scope sc) ifs c (wk.blk s H scope C cl fp hkind) (by rw [← hs]; rfl) e3))
              (fun s H C cl fp => (ih.sE _ (relS scope sc) elt e (wk.blk s H scope C cl fp hkind) (by rw [← hs]; rfl) e4)) ?_) fun _ _ _ q => w_lc (fun j hj => ?_) q
            · intro x
              cases iter <;> first | rfl | skip
              cases n <;> cases e1
            · have := List.all_eq_true.mp ht j hj
              simpa using this
          · rw [if_neg ht] at h; cases h
        · cases h
      · rw [if_neg hb] at h; cases h
    · cases h
  | _ => cases h

theorem pt_of (X : Cx) (wk : Wok G W mc N L X) {e : Expr} {i : IE} (he : PE X e (tE G W refs i)) (hr : ∀ whole, isTrue e X.env whole = (do let v ← whole; standAt e.pos; holding [v] (truthy v))) : PT X e (tT G W refs (.val i)) :=
  PT_weak (pt_truth he hr) fun σ H Q q => by rw [wk.hK]; exact wt_val q
theorem turn_T (ihm : ∀ m, m ≤ n → Snd G W refs mc N L m) (X : Cx) (sc : Scope) (e : Expr) (i : IC) (wk : Wok G W mc N L X) (hs : X.env.scope = sc) (h : compT (n + 1) mc N sc e = some i) : PT X e (tT G W refs i) := by
  have units := wk.hroom.units
  have ih := ihm n (Nat.le_refl _)
  cases e with
  | BoolOp op vs p => exact (ih.sTB X sc op vs i wk hs h p).pt
  | UnaryOp op a p =>
    cases op with
    | Not =>
      obtain ⟨j, hj, rfl⟩ := cases_map (show (compT n mc N sc a).map IC.not1 = some i from h)
      exact PT_weak (pt_not (ih.sT X sc a j wk hs hj)) fun _ _ _ q => wt_not q
    | _ =>
      obtain ⟨j, hj, rfl⟩ := cases_map (show (compE n mc N sc (.UnaryOp _ a p)).map IC.val = some i from h)
      exact pt_of X wk (ih.sE X sc _ j wk hs hj) fun _ => rfl
  | IfExp _ _ _ _ => cases h
  | Compare a ops bs p =>
    obtain ⟨j, hj, rfl⟩ := cases_map (show (compE n mc N sc (.Compare a ops bs p)).map IC.val = some i from h)
    cases n with
    | zero => cases hj
    | succ m =>
      have ih := ihm m (Nat.le_succ _)
      clear h
      have h := hj
      clear hj
      simp only [compE] at h
      split at h
      · rename_i b
        by_cases hb : isNone b = true
        · rw [if_pos hb] at h
          obtain ⟨j, hj, rfl⟩ := cases_map h
          cases b <;> first | cases hb | skip
          rename_i cc k1 p1
          cases cc <;> first | cases hb | skip
          exact PT_weak (pt_cmp (pc_isN (ih.sE X sc a j wk hs hj))) fun _ _ _ q => wt_isN q
        · rw [if_neg hb] at h; cases h
      · rename_i b
        by_cases hb : isNone b = true
        · rw [if_pos hb] at h
          obtain ⟨j, hj, rfl⟩ := cases_map h
          cases b <;> first | cases hb | skip
          rename_i cc k1 p1
          cases cc <;> first | cases hb | skip
          exact PT_weak (pt_cmp (pc_notN (ih.sE X sc a j wk hs hj))) fun _ _ _ q => wt_notN q
        · rw [if_neg hb] at h; cases h
      · rename_i op b _ _
        by_cases hb : isSet b = true
        · rw [if_pos hb] at h; cases h
        · rw [if_neg hb] at h
          split at h
          · rename_i p1 i1 j1 e1 e2 e3
            cases h
            obtain ⟨r, hr, pi, ic⟩ := cmp_rule wk.hK units e1
            exact PT_weak (pt_cmpR hr (ih.sE X sc a i1 wk hs e2) (ih.sE X sc b j1 wk hs e3) (not_mark (by simpa using hb))) fun _ _ _ q => prim2_tw pi ic q
          · cases h
      · rename_i op op' b c
        by_cases hb : isSet c = true
        · rw [if_pos hb] at h; cases h
        · rw [if_neg hb] at h
          split at h
          · rename_i p1 q1 i1 j1 l1 e1 e2 e3 e4 e5
            cases h
            obtain ⟨r, hr, pi, _⟩ := cmp_rule wk.hK units e1
            obtain ⟨r', hr', pi', ic'⟩ := cmp_rule wk.hK units e2
            exact PT_weak (pt_chain hr hr' (ih.sE X sc a i1 wk hs e3) (ih.sE X sc b j1 wk hs e4) (ih.sE X sc c l1 wk hs e5) (not_mark2 (by simpa using hb))) fun _ _ _ q => wt_chain pi pi' ic' q
          · cases h
      · rename_i op op' op'' b c d
        by_cases hb : isSet d = true
        · rw [if_pos hb] at h; cases h
        · rw [if_neg hb] at h
          split at h
          · rename_i p1 q1 u1 i1 j1 l1 m1 e1 e2 e2' e3 e4 e5 e6
            cases h
            obtain ⟨r, hr, pi, _⟩ := cmp_rule wk.hK units e1
            obtain ⟨r', hr', pi', _⟩ := cmp_rule wk.hK units e2
            obtain ⟨r'', hr'', pi'', ic''⟩ := cmp_rule wk.hK units e2'
            exact PT_weak (pt_chain3 hr hr' hr'' (ih.sE X sc a i1 wk hs e3) (ih.sE X sc b j1 wk hs e4) (ih.sE X sc c l1 wk hs e5) (ih.sE X sc d m1 wk hs e6) (not_mark3 (by simpa using hb))) fun _ _ _ q => wt_chain3 pi pi' pi'' ic'' q
          · cases h
      · cases h
  | _ =>
    obtain ⟨j, hj, rfl⟩ := cases_map h
    exact pt_of X wk (ih.sE X sc _ j wk hs hj) fun _ => rfl
theorem snd_zero : Snd G W refs mc N L 0 :=
  by constructor <;> intros <;> first | (rename_i h; cases h; done) | (rename_i h _; cases h; done)
theorem snd_succ (ihm : ∀ m, m ≤ n → Snd G W refs mc N L m) : Snd G W refs mc N L (n + 1) :=
  have ih := ihm n (Nat.le_refl _)
  ⟨turn_E ih, turn_B ih, turn_T ihm, turn_TB ih, turn_Ts ih, turn_A ih, turn_O ih, turn_C ih, turn_G ih, turn_Gs ih, turn_I ih, turn_K ih⟩
theorem snd_to : ∀ n m, m ≤ n → Snd G W refs mc N L m
  | 0, m, h => by cases Nat.le_zero.mp h; exact snd_zero
  | n + 1, m, h => by
    rcases Nat.lt_or_ge m (n + 1) with q | q
    · exact snd_to n m (Nat.le_of_lt_succ q)
    · cases Nat.le_antisymm h q
      exact snd_succ (snd_to n)
/-- what the small language says of an expression holds -/
theorem snd (n : Nat) : Snd G W refs mc N L n := snd_to n n (Nat.le_refl _)
end
end EV

set_option maxRecDepth 100000
set_option maxHeartbeats 4000000
/-! EV 16: statements: the induction. -/
namespace EV
open PySem L2
section
variable {G : Genv} {W : Wd} {refs : List Addr} {mc : Str → Option Str} {N : List Str} {L n : Nat} {X : Cx} {sc : Scope}

theorem swap_eq (env : Env) (ts vs : List Expr) (k k2 : Nat) (tp vp : Pos) : swappedStores [.Tuple ts k tp] (.Tuple vs k2 vp) env =
    (if (!(ts.length == 2 || ts.length == 3) || vs.length != ts.length || env.blockKind != .function) = true then pure none
    else if vs.any isStar = true then pure none
    else if ((swN env.scope ts).length != ts.length || (swN env.scope ts).eraseDups.length != (swN env.scope ts).length) = true then pure none
    else if vs.all (foldedForSure 8) = true then pure none
    else if vs.all (constantsAlone 8) = true then (do unsupported "assign.tuple-of-constant-expressions:order-of-the-stores"; pure (some (swN env.scope ts)))
    else pure (some (swN env.scope ts))) := rfl
theorem swap_ok {ts vs : List Expr} {k k2 : Nat} {tp vp : Pos} {o : Option (List Str)} (hs : X.env.scope = sc) (hk : X.env.scope.kind = .function) (h : swapC sc ts vs = some o) : swappedStores [.Tuple ts k tp] (.Tuple vs k2 vp) X.env = pure o := by
  have hb : (X.env.blockKind != .function) = false := by unfold Env.blockKind; rw [hk]; rfl
  rw [swap_eq, hb, hs, Bool.or_false]
  unfold swapC at h
  split at h
  · rename_i c; cases h; rw [if_pos c]
  · rename_i c; rw [if_neg c]
    split at h
    · rename_i c; cases h; rw [if_pos c]
    · rename_i c; rw [if_neg c]
      split at h
      · rename_i c; cases h; rw [if_pos c]
      · rename_i c; rw [if_neg c]
        split at h
        · rename_i c; cases h; rw [if_pos c]
        · rename_i c; rw [if_neg c]
          split at h
          · cases h
          · rename_i c; rw [if_neg c]; cases h; rfl

def putV (f : Str) (v : V) : List Str → List V → List V
  | [], _ => [v]
  | g :: r, e :: ds => if g = f then v :: ds else e :: putV f v r ds
  | _ :: _, [] => []
theorem putF_zip {f : Str} {v : V} : ∀ {ns : List Str} {vs : List V}, ns.length = vs.length → putF f v (ns.zip vs) = (putN f ns).zip (putV f v ns vs) ∧ (putN f ns).length = (putV f v ns vs).length
  | [], [], _ => ⟨rfl, rfl⟩
  | g :: ns, x :: vs, h => by
    obtain ⟨h1, h2⟩ := putF_zip (f := f) (v := v) (ns := ns) (vs := vs) (by simpa using h)
    rw [List.zip_cons_cons]
    unfold putF putN putV
    by_cases hg : g = f
    · rw [if_pos hg, if_pos hg, if_pos hg]; exact ⟨rfl, by simpa using h⟩
    · rw [if_neg hg, if_neg hg, if_neg hg, h1]; exact ⟨rfl, by simpa using h2⟩
theorem put_den {f : Str} {v : V} {d : DV} {Hs : Hp} (hd : Den W Hs v d) : ∀ {ns : List Str} {vs : List V} {ds : List DV}, Dens W Hs vs ds → ns.length = vs.length → Dens W Hs (putV f v ns vs) (putD f d ns ds)
  | [], _, _, _, _ => .cons hd .nil
  | g :: ns, _, _, .nil, h => by cases h
  | g :: ns, x :: vs, e :: ds, .cons h1 h2, h => by
    unfold putV putD
    by_cases hg : g = f
    · rw [if_pos hg, if_pos hg]; exact .cons hd h2
    · rw [if_neg hg, if_neg hg]; exact .cons h1 (put_den hd h2 (by simpa using h))
theorem w_setF {o e : IE} {f : Str} {D : Ends} {σ : L2.St} {H : Hp} (hcls : ∀ c C, W.cls c = some C → Cls W.K C) (hfld : ∀ c C f, W.cls c = some C → G.isFld c f = true → NoAttr W.K C f) (h : tS G W refs (.setF o f e) D σ H) : sFld W.K (tE G W refs o) (tE G W refs e) f D σ H := by
  obtain ⟨ρ, Hs, k, R, h, E⟩ := h
  have h : wpE G e ρ fun r ρ1 => wpE G o ρ1 fun ro ρ2 => cap r ρ2 fun d ρ3 => ∃ l t c ns ds, ro = .loc l ∧ ρ3[l]? = some (.own t (.obj c ns ds)) ∧ G.isFld c f = true ∧ ns.length < 1000 ∧ k .nx (ρ3.set l (.own t (.obj c (putN f ns) (putD f d ns ds)))) := h
  show tE G W refs e σ H fun y H1 => tE G W refs o σ H1 fun x H2 => ∃ a C dx fs, x = .ref a ∧ H2 a = some (.ins C dx fs) ∧ Cls W.K C ∧ NoAttr W.K C f ∧ fs.length < 1000 ∧ D.nx σ (upd H2 a (.ins C dx (putF f y fs)))
  refine tE_at (Step.refl R) h fun r1 ρ1 v1 Hs1 H1 S1 _ O1 N1 _ h1 => ?_
  refine tE_at S1 h1 fun r2 ρ2 v2 Hs2 H2 S2 S02 O2 N2 N02 h2 => ?_
  obtain ⟨d, ρ3, Hs3, S3, Dd, ⟨l, t, c, ns, ds, el, hl, hf, hz, hk⟩, e3, keep⟩ := cap_ok S02 (O1.step S2) N1 h2
  subst el
  have O2' : σ[l]? = some (some v2) := O2
  obtain ⟨a, ea, na, ⟨C, dx, vs, hC, hH, hn, hd⟩, _⟩ := S3.rel.own l t _ hl
  rw [O2'] at ea; cases ea
  obtain ⟨z1, z2⟩ := putF_zip (f := f) (v := v1) hn
  refine ⟨a, C, dx, ns.zip vs, rfl, hH, hcls c C hC, hfld c C f hC hf, by rw [List.length_zip]; omega, ?_⟩
  refine E.nx _ σ Hs3 _ (S3.write (d' := .obj c (putN f ns) (putD f d ns ds)) hl O2' ⟨C, dx, putV f v1 ns vs, hC, by rw [upd_same, z1], z2, put_den Dd hd hn⟩ (fun b o hb e => by rw [upd_ne hb]; exact e) fun b e => ?_) rfl hk
  by_cases hb : b = a
  · subst hb; rw [upd_same] at e; cases e
  · rw [upd_ne hb] at e; exact e
structure Snds (G : Genv) (W : Wd) (refs : List Addr) (mc : Str → Option Str) (N : List Str) (sc : Scope) (X : Cx) (n : Nat) : Prop where
  sS : ∀ st i, compS n mc N sc st = some i → PS X st (tS G W refs i)
  sSs : ∀ ss i, compSs n mc N sc ss = some i → PSs X ss (tSs G W refs i)

theorem PS_asg (wk : Wok G W mc N L X) (hs : X.env.scope = sc) (hf : ∀ x, X.fn x = true) {tg e : Expr} {t : ITg} {i : IE} {pos : Pos} (h1 : compG n mc N sc true tg = some t) (h2 : compE n mc N sc e = some i) (hsw : swapsWithSole [tg] e pos.line X.env = pure false) (hw : swappedStores [tg] e X.env = pure none)
    (ha : (assignEach [tg] X.env).map (·.2) = [assign tg X.env]) : PS X (.Assign [tg] e pos) (tS G W refs (.asg t i)) :=
  PS_weak (ps_asg ((snd (refs := refs) n).sE X sc e i wk hs h2) ((snd (refs := refs) n).sG X sc true tg t wk hs (fun _ => hf) h1) hsw hw ha) fun D σ H q => w_asg q
theorem lenN (I : ∀ {pins : List (Addr × Obj)} {s : Shared} {σ : L2.St} {H : Hp}, Inv X pins σ H s → σ.length = X.N.length) : True := trivial
theorem plc_lt {x : Str} {i : Nat} (h : plc x N = some i) : i < N.length := (List.getElem?_eq_some_iff.mp (plc_ok h)).1
theorem plc_ne {x y : Str} {i j : Nat} (h : plc x N = some i) (h' : plc y N = some j) (n : ¬ x = y) : i ≠ j := fun e => by
  subst e
  have := (plc_ok h).symm.trans (plc_ok h')
  exact n (Option.some.inj this)
theorem lc_parts {elt : Expr} {gs : List Comprehension} {scope : Scope} {p : Pos} {i : IE} (h : compE n mc N sc (.ListComp elt gs scope p) = some i) : ∃ m tg iter ifs it t c e, n = m + 1 ∧ gs = [⟨tg, iter, ifs, 0⟩] ∧ blkC N sc scope (ownOf N scope) = true ∧
    compI m mc N sc (isTup2 tg) iter = some it ∧ compG m mc N (relS scope sc) false tg = some t ∧ compTs m mc N (relS scope sc) ifs = some c ∧ compE m mc N (relS scope sc) elt = some e ∧ (∀ j, j ∈ tgs t → j ∈ (ownOf N scope).map (·.2)) ∧ i = .lc it t c e ((ownOf N scope).map (·.2)) := by
  cases n with
  | zero => cases h
  | succ m =>
    simp only [compE] at h
    split at h
    · rename_i tg iter ifs
      by_cases hb : blkC N sc scope (ownOf N scope) = true
      · rw [if_pos hb] at h
        split at h
        · rename_i it t c e e1 e2 e3 e4
          by_cases ht : (tgs t).all (fun j => ((ownOf N scope).map (·.2)).contains j) = true
          · rw [if_pos ht] at h
            cases h
            refine ⟨m, tg, iter, ifs, it, t, c, e, rfl, rfl, hb, e1, e2, e3, e4, fun j hj => ?_, rfl⟩
            have := List.all_eq_true.mp ht j hj
            simpa using this
          · rw [if_neg ht] at h; cases h
        · cases h
      · rw [if_neg hb] at h; cases h
    · cases h
theorem sw_false {elt : Expr} {gs : List Comprehension} {scope : Scope} {pos py : Pos} {y : Str} {l : Nat} {env : Env} (hy : env.scope.names.lookup y = some .cell) : swapsWith (.ListComp elt gs scope pos) (some (.Name y py)) l env = pure false := by
  have ky : env.kindOf y = some .cell := hy
  unfold swapsWith
  simp only [ky]
  cases (env.blockKind == ScopeKind.function) <;> rfl
theorem turn_asg (wk : Wok G W mc N L X) (hs : X.env.scope = sc) (hf : ∀ x, X.fn x = true) (tg : List Expr) (e : Expr) (pos : Pos) (i : IS) (h : compS (n + 1) mc N sc (.Assign tg e pos) = some i) : PS X (.Assign tg e pos) (tS G W refs i) := by
  have nd : X.N.Nodup := by rw [wk.hN]; exact wk.hnd
  have at' : ∀ {x j}, plc x N = some j → X.N[j]? = some x := fun h => by rw [wk.hN]; exact plc_ok h
  cases tg with
  | nil => cases h
  | cons t r =>
    cases r with
    | cons _ _ => cases t <;> cases h
    | nil =>
      have main : ∀ (e : Expr), (assignEach [t] X.env).map (·.2) = [assign t X.env] → (swappedStores [t] e X.env = pure none) → (if isComp e then none else match compG n mc N sc true t, compE n mc N sc e with
            | some t, some i => some (IS.asg t i)
            | _, _ => none) = some i → PS X (.Assign [t] e pos) (tS G W refs i) := fun e ha hw h => by
        by_cases hc : isComp e = true
        · rw [if_pos hc] at h; cases h
        · rw [if_neg hc] at h
          split at h
          · rename_i t1 i1 e1 e2
            cases h
            exact PS_asg wk hs hf e1 e2 (not_comp (by simpa using hc)) hw ha
          · cases h
      cases t with
      | Tuple ts k tp =>
        cases e with
        | Tuple vs k2 vp =>
          replace h : (match swapC sc ts vs with
            | some none => (match compG n mc N sc true (.Tuple ts k tp), compE n mc N sc (.Tuple vs k2 vp) with
              | some t, some i => some (IS.asg t i)
              | _, _ => none)
            | some (some nm) => (match ts, vs with
              | [.Name x _, .Name y _], [a, b] => if locB sc x && locB sc y && !(x = y) && decide (nm = [x, y]) then (match plc x N, plc y N, compE n mc N sc a, compE n mc N sc b with
                | some i, some j, some p, some q => if isStar a || isStar b then none else some (.par2 i j p q)
                | _, _, _, _ => none) else none
              | [.Name x _, .Name y _, .Name z _], [a, b, c] => if locB sc x && locB sc y && locB sc z && !(x = y) && !(x = z) && !(y = z) && decide (nm = [x, y, z]) then (match plc x N, plc y N, plc z N, compE n mc N sc a, compE n mc N sc b, compE n mc N sc c with
                | some i, some j, some l, some p, some q, some r => if isStar a || isStar b || isStar c then none else some (.par3 i j l p q r)
                | _, _, _, _, _, _ => none) else none
              | _, _ => none)
            | none => none) = some i := h
          cases hw : swapC sc ts vs with
          | none => rw [hw] at h; cases h
          | some o =>
            have hsw := swap_ok (X := X) (k := k) (k2 := k2) (tp := tp) (vp := vp) hs wk.hkind hw
            rw [hw] at h
            cases o with
            | none =>
              dsimp only at h
              split at h
              · rename_i t1 i1 e1 e2
                cases h
                exact PS_asg wk hs hf e1 e2 rfl hsw rfl
              · cases h
            | some nm =>
              dsimp only at h
              split at h
              · rename_i x px y py a b
                split at h
                · rename_i hc
                  simp only [Bool.and_eq_true, Bool.not_eq_true', decide_eq_true_eq, decide_eq_false_iff_not] at hc
                  obtain ⟨⟨⟨hx, hy⟩, hne⟩, rfl⟩ := hc
                  split at h
                  · rename_i i1 j1 p1 q1 e1 e2 e3 e4
                    have sa := comp_star e3
                    have sb := comp_star e4
                    rw [sa, sb] at h
                    cases h
                    refine ⟨fun pins s σ H D I q => (ps_par wk.hcalm nd (at' e1) (at' e2) (plc_ne e1 e2 hne) (by rw [hs]; exact locB_ok hx) (by rw [hs]; exact locB_ok hy)
                      (pa_cons ((snd (refs := refs) n).sE X sc a p1 wk hs e3) (pa_cons ((snd (refs := refs) n).sE X sc b q1 wk hs e4) pa_nil (not_star sb _)) (not_star sa _)) hsw).run pins s σ H D I (w_par2 ?_ ?_ q)⟩
                    · rw [I.len, wk.hN]; exact plc_lt e1
                    · rw [I.len, wk.hN]; exact plc_lt e2
                  · cases h
                · cases h
              · rename_i x px y py z pz a b c
                split at h
                · rename_i hc
                  simp only [Bool.and_eq_true, Bool.not_eq_true', decide_eq_true_eq, decide_eq_false_iff_not] at hc
                  obtain ⟨⟨⟨⟨⟨⟨hx, hy⟩, hz⟩, n1⟩, n2⟩, n3⟩, rfl⟩ := hc
                  split at h
                  · rename_i i1 j1 l1 p1 q1 r1 e1 e2 e3 e4 e5 e6
                    have sa := comp_star e4
                    have sb := comp_star e5
                    have sc' := comp_star e6
                    rw [sa, sb, sc'] at h
                    cases h
                    refine ⟨fun pins s σ H D I q => (ps_par3 wk.hcalm nd (at' e1) (at' e2) (at' e3) (plc_ne e1 e2 n1) (plc_ne e1 e3 n2) (plc_ne e2 e3 n3) (by rw [hs]; exact locB_ok hx) (by rw [hs]; exact locB_ok hy) (by rw [hs]; exact locB_ok hz)
                      (pa_cons ((snd (refs := refs) n).sE X sc a p1 wk hs e4) (pa_cons ((snd (refs := refs) n).sE X sc b q1 wk hs e5) (pa_cons ((snd (refs := refs) n).sE X sc c r1 wk hs e6) pa_nil (not_star sc' _)) (not_star sb _)) (not_star sa _)) hsw).run pins s σ H D I (w_par3 ?_ ?_ ?_ q)⟩
                    · rw [I.len, wk.hN]; exact plc_lt e1
                    · rw [I.len, wk.hN]; exact plc_lt e2
                    · rw [I.len, wk.hN]; exact plc_lt e3
                  · cases h
                · cases h
              · cases h
        | _ => exact main _ rfl rfl h
      | Name x px =>
        cases e with
        | ListComp elt gs scope lp =>
          replace h : (if (locB sc x && (px.line == lp.line) && (px.line == lp.line)) = true then
              (if (scope.names.any fun (n, k) => n == x && (k == .local || k == .cell)) = true then none else match plc x N, compE n mc N sc (.ListComp elt gs scope lp) with
                | some i, some c => some (IS.asg (.nm i) c)
                | _, _ => none)
            else if cellB sc x = true then (match plc x N, compE n mc N sc (.ListComp elt gs scope lp) with
                | some i, some c => some (IS.asg (.nm i) c)
                | _, _ => none)
            else none) = some i := h
          by_cases hc : (locB sc x && (px.line == lp.line) && (px.line == lp.line)) = true
          · rw [if_pos hc] at h
            simp only [Bool.and_eq_true] at hc
            obtain ⟨⟨hl, hln⟩, _⟩ := hc
            by_cases ha : (scope.names.any fun (n, k) => n == x && (k == .local || k == .cell)) = true
            · rw [if_pos ha] at h; cases h
            · rw [if_neg ha] at h
              split at h
              · rename_i i1 c1 e1 e2
                cases h
                obtain ⟨m, tg, iter, ifs, it, t, c, e, rfl, rfl, hb, c1, c2, c3, c4, ht, rfl⟩ := lc_parts e2
                have ok := blkOk_by hb
                have hkind := ok.kind
                have hlx : X.env.scope.names.lookup x = some .local := by rw [hs]; exact locB_ok hl
                refine ⟨fun pins s σ H D I q => (ps_setLc wk.hcalm nd (at' e1) hlx (sw_true wk.hkind hlx hln (by simpa using ha)) ((snd (refs := refs) m).sI X sc tg iter it wk hs c1) (by rw [wk.hN, hs]; exact ok)
                  (fun s H C cl fp => ((snd (refs := refs) m).sG _ (relS scope sc) false tg t (wk.blk s H scope C cl fp hkind) (by rw [← hs]; rfl) (by intro z; cases z) c2))
                  (fun s H C cl fp => ((snd (refs := refs) m).sTs _ (relS scope sc) ifs c (wk.blk s H scope C cl fp hkind) (by rw [← hs]; rfl) c3))
                  (fun s H C cl fp => ((snd (refs := refs) m).sE _ (relS scope sc) elt e (wk.blk s H scope C cl fp hkind) (by rw [← hs]; rfl) c4)) ?_).run pins s σ H D I ?_⟩
                · intro x
                  cases iter <;> first | rfl | skip
                  cases m <;> cases c1
                · have hi : i1 < σ.length := by rw [I.len, wk.hN]; exact plc_lt e1
                  exact w_lc ht (tE_mono (w_asg q) fun v H1 z => w_nm hi z)
              · cases h
          · rw [if_neg hc] at h
            by_cases hcl : cellB sc x = true
            · rw [if_pos hcl] at h
              split at h
              · rename_i i1 c1 e1 e2
                cases h
                obtain ⟨m, tg, iter, ifs, it, t, c, e, rfl, rfl, _⟩ := lc_parts e2
                have hg : compG (m + 1) mc N sc true (.Name x px) = some (.nm i1) := by
                  show (if (locB sc x || true && cellB sc x) = true then (plc x N).map ITg.nm else none) = _
                  rw [hcl, e1, Bool.true_and, Bool.or_true]; rfl
                exact PS_asg wk hs hf hg e2 (sw_false (l := pos.line) (by rw [hs]; exact cellB_ok hcl)) rfl rfl
              · cases h
            · rw [if_neg hcl] at h; cases h
        | _ => exact main _ rfl rfl h
      | Subscript o ix sp => exact main e rfl (by cases e <;> rfl) h
      | Attribute o f ap =>
        replace h : (if isComp e = true then none else match compE n mc N sc e, compE n mc N sc o with
          | some i, some j => some (IS.setF j f i)
          | _, _ => none) = some i := h
        by_cases hc : isComp e = true
        · rw [if_pos hc] at h; cases h
        · rw [if_neg hc] at h
          split at h
          · rename_i i1 j1 e1 e2
            cases h
            exact PS_weak (ps_fld ((snd (refs := refs) n).sE X sc o j1 wk hs e2) ((snd (refs := refs) n).sE X sc e i1 wk hs e1) (not_comp (by simpa using hc))) fun D σ H q => by rw [wk.hK]; exact w_setF (fun c C h => by rw [← wk.hK]; exact wk.hcls c C h) (fun c C f h1 h2 => by rw [← wk.hK]; exact wk.hfld c C f h1 h2) q
          · cases h
      | _ => cases h
theorem turn_S (wk : Wok G W mc N L X) (hs : X.env.scope = sc) (hf : ∀ x, X.fn x = true) (ih : Snds G W refs mc N sc X n) (st : Stmt) (i : IS) (h : compS (n + 1) mc N sc st = some i) : PS X st (tS G W refs i) := by
  have nd : X.N.Nodup := by rw [wk.hN]; exact wk.hnd
  have at' : ∀ {x j}, plc x N = some j → X.N[j]? = some x := fun h => by rw [wk.hN]; exact plc_ok h
  cases st with
  | Assign tg e pos => exact turn_asg wk hs hf tg e pos i h
  | AugAssign tg op e pos =>
    cases tg with
    | Name x px =>
      replace h : (if (locB sc x || cellB sc x) = true then (match op, plc x N, compE n mc N sc e with
        | .Add, some i, some a => some (IS.aug i false a)
        | .Sub, some i, some a => some (IS.aug i true a)
        | _, _, _ => none) else none) = some i := h
      by_cases hc : (locB sc x || cellB sc x) = true
      · rw [if_pos hc] at h
        have hl : Loc X.env.scope x := by
          rw [hs]
          rcases (Bool.or_eq_true _ _).mp hc with q | q
          · exact .inl (locB_ok q)
          · exact .inr (cellB_ok q)
        split at h
        · rename_i i1 a1 e1 e2
          cases h
          exact PS_weak (ps_aug nd (at' e1) hl ((snd (refs := refs) n).sE X sc e a1 wk hs e2) ip_add (.inl (hf x))) fun D σ H q => w_aug q
        · rename_i i1 a1 e1 e2
          cases h
          exact PS_weak (ps_aug nd (at' e1) hl ((snd (refs := refs) n).sE X sc e a1 wk hs e2) ip_sub (.inl (hf x))) fun D σ H q => w_aug q
        · cases h
      · rw [if_neg hc] at h; cases h
    | _ => cases h
  | For tg iter body orelse pos =>
    cases orelse with
    | cons _ _ => cases h
    | nil =>
      replace h : (if isSet iter = true then none else match compI n mc N sc (isTup2 tg) iter, compG n mc N sc true tg, compSs n mc N sc body with
        | some it, some t, some b => some (IS.for it t b)
        | _, _, _ => none) = some i := h
      by_cases hc : isSet iter = true
      · rw [if_pos hc] at h; cases h
      · rw [if_neg hc] at h
        split at h
        · rename_i it t b e1 e2 e3
          cases h
          have hp : PassesOwn (model X.prog X.w) X.A X.env X.xe := by rw [wk.hxe]; exact PassesOwn.never
          exact PS_weak (ps_for hp wk.hcalm ((snd (refs := refs) n).sI X sc tg iter it wk hs e1) ((snd (refs := refs) n).sG X sc true tg t wk hs (fun _ => hf) e2) (ih.sSs body b e3) (not_set (by simpa using hc) X.env)) fun D σ H q => w_for q
        · cases h
  | If c a b pos =>
    replace h : (match compT n mc N sc c, compSs n mc N sc a, compSs n mc N sc b with
      | some t, some x, some y => some (IS.ife t x y)
      | _, _, _ => none) = some i := h
    split at h
    · rename_i t x y e1 e2 e3
      cases h
      exact PS_weak (ps_if ((snd (refs := refs) n).sT X sc c t wk hs e1) (ih.sSs a x e2) (ih.sSs b y e3)) fun D σ H q => w_sife q
    · cases h
  | Return e pos =>
    cases e with
    | none => cases h; exact PS_weak ps_retN fun D σ H q => w_retN q
    | some e =>
      obtain ⟨j, hj, rfl⟩ := cases_map (show (compE n mc N sc e).map IS.ret = some i from h)
      exact PS_weak (ps_ret ((snd (refs := refs) n).sE X sc e j wk hs hj)) fun D σ H q => w_ret q
  | Expr e pos =>
    have main : ∀ e, (if isComp e then none else (compE n mc N sc e).map IS.expr) = some i → PS X (.Expr e pos) (tS G W refs i) := fun e h => by
      by_cases hc : isComp e = true
      · rw [if_pos hc] at h; cases h
      · rw [if_neg hc] at h
        obtain ⟨j, hj, rfl⟩ := cases_map h
        exact PS_weak (ps_expr ((snd (refs := refs) n).sE X sc e j wk hs hj) (not_comp (by simpa using hc))) fun D σ H q => w_expr q
    cases e with
    | Constant c k p =>
      cases c with
      | str x => cases h; exact PS_weak ps_doc fun D σ H q => w_pass q
      | _ => exact main _ h
    | Call f as ks cpos =>
      cases f with
      | Attribute o m apos =>
        cases as with
        | nil => exact main _ h
        | cons v r =>
          cases r with
          | cons w r2 =>
            cases r2 with
            | cons _ _ => exact main _ h
            | nil =>
            cases ks with
            | cons _ _ => exact main _ h
            | nil =>
              replace h : (if (m = "insert" && !supB o && (apos.endLine == cpos.line) && !isStar v && !isStar w) = true then (match compE n mc N sc o, compE n mc N sc v, compE n mc N sc w with
                | some i, some j, some l => some (IS.ins i j l)
                | _, _, _ => none)
                else (compE n mc N sc (.Call (.Attribute o m apos) [v, w] [] cpos)).map .expr) = some i := h
              by_cases hc : (m = "insert" && !supB o && (apos.endLine == cpos.line) && !isStar v && !isStar w) = true
              · rw [if_pos hc] at h
                simp only [Bool.and_eq_true, Bool.not_eq_true', decide_eq_true_eq] at hc
                obtain ⟨⟨⟨⟨rfl, hsup⟩, hl⟩, sv⟩, sw⟩ := hc
                split at h
                · rename_i i1 j1 l1 e1 e2 e3
                  cases h
                  have pe := pe_bm (cpos := cpos) (apos := apos) F.plainAttrs_list F.slot_list_insert F.type_list_insert mt_insert ((snd (refs := refs) n).sE X sc o i1 wk hs e1) (pa_cons ((snd (refs := refs) n).sE X sc v j1 wk hs e2) (pa_cons ((snd (refs := refs) n).sE X sc w l1 wk hs e3) pa_nil (not_star sw _)) (not_star sv _)) (not_sup hsup) (by rw [not_star sv, not_star sw]; rfl) hl (not_star sv _) (plain_any (es := [w]) _ fun e he => by rw [List.mem_singleton.mp he]; exact sw)
                  exact PS_weak (ps_expr pe rfl) fun D σ H q => by rw [wk.hK]; exact w_ins q
                · cases h
              · rw [if_neg hc] at h
                obtain ⟨j, hj, rfl⟩ := cases_map h
                exact PS_weak (ps_expr ((snd (refs := refs) n).sE X sc _ j wk hs hj) rfl) fun D σ H q => w_expr q
          | nil =>
            cases ks with
            | cons _ _ => exact main _ h
            | nil =>
              replace h : (if (m = "append" && !supB o && (apos.endLine == cpos.line) && !isStar v) = true then (match compE n mc N sc o, compE n mc N sc v with
                | some i, some j => some (IS.app i j)
                | _, _ => none)
                else if (m = "extend" && !supB o && (apos.endLine == cpos.line) && !isStar v) = true then (match compE n mc N sc o, compE n mc N sc v with
                | some i, some j => some (IS.ext i j)
                | _, _ => none)
                else (compE n mc N sc (.Call (.Attribute o m apos) [v] [] cpos)).map .expr) = some i := h
              by_cases hc : (m = "append" && !supB o && (apos.endLine == cpos.line) && !isStar v) = true
              · rw [if_pos hc] at h
                simp only [Bool.and_eq_true, Bool.not_eq_true', decide_eq_true_eq] at hc
                obtain ⟨⟨⟨rfl, hsup⟩, hl⟩, sv⟩ := hc
                split at h
                · rename_i i1 j1 e1 e2
                  cases h
                  have pe := pe_bm (cpos := cpos) (apos := apos) F.plainAttrs_list F.slot_list_append F.type_list_append mt_append ((snd (refs := refs) n).sE X sc o i1 wk hs e1) (pa_cons ((snd (refs := refs) n).sE X sc v j1 wk hs e2) pa_nil (not_star sv _)) (not_sup hsup) (by rw [not_star sv]; rfl) hl (not_star sv _) rfl
                  exact PS_weak (ps_expr pe rfl) fun D σ H q => by rw [wk.hK]; exact w_app q
                · cases h
              · rw [if_neg hc] at h
                by_cases hc : (m = "extend" && !supB o && (apos.endLine == cpos.line) && !isStar v) = true
                · rw [if_pos hc] at h
                  simp only [Bool.and_eq_true, Bool.not_eq_true', decide_eq_true_eq] at hc
                  obtain ⟨⟨⟨rfl, hsup⟩, hl⟩, sv⟩ := hc
                  split at h
                  · rename_i i1 j1 e1 e2
                    cases h
                    have pe := pe_bm (cpos := cpos) (apos := apos) F.plainAttrs_list F.slot_list_extend F.type_list_extend mt_extend ((snd (refs := refs) n).sE X sc o i1 wk hs e1) (pa_cons ((snd (refs := refs) n).sE X sc v j1 wk hs e2) pa_nil (not_star sv _)) (not_sup hsup) (by rw [not_star sv]; rfl) hl (not_star sv _) rfl
                    exact PS_weak (ps_expr pe rfl) fun D σ H q => by rw [wk.hK]; exact w_ext q
                  · cases h
                rw [if_neg hc] at h
                obtain ⟨j, hj, rfl⟩ := cases_map h
                exact PS_weak (ps_expr ((snd (refs := refs) n).sE X sc _ j wk hs hj) rfl) fun D σ H q => w_expr q
      | _ => exact main _ h
    | _ => exact main _ h
  | While c b orelse pos =>
    cases orelse with
    | cons _ _ => cases h
    | nil =>
      replace h : (match compT n mc N sc c, compSs n mc N sc b with
        | some t, some x => some (IS.while t x)
        | _, _ => none) = some i := h
      split at h
      · rename_i t x e1 e2
        cases h
        have hp : PassesOwn (model X.prog X.w) X.A X.env X.xe := by rw [wk.hxe]; exact PassesOwn.never
        exact PS_weak (ps_while hp ((snd (refs := refs) n).sT X sc c t wk hs e1) (ih.sSs b x e2)) fun D σ H q => w_while q
      · cases h
  | Raise a b c => cases h; exact PS_weak ps_never fun D σ H ⟨_, _, _, _, q, _⟩ => q.elim
  | Pass pos => cases h; exact PS_weak ps_pass fun D σ H q => w_pass q
  | Break pos => cases h; exact PS_weak ps_break fun D σ H q => w_brk q
  | Continue pos => cases h; exact PS_weak ps_continue fun D σ H q => w_cnt q
  | _ => cases h
theorem turn_Ss (wk : Wok G W mc N L X) (hs : X.env.scope = sc) (hf : ∀ x, X.fn x = true) (ih : Snds G W refs mc N sc X n) (ss : List Stmt) (i : ISs) (h : compSs (n + 1) mc N sc ss = some i) : PSs X ss (tSs G W refs i) := by
  cases ss with
  | nil => cases h; exact PSs_weak pss_nil fun D σ H q => w_snil q
  | cons s r =>
    replace h : (match compS n mc N sc s, compSs n mc N sc r with
      | some i, some is => some (ISs.cons i is)
      | _, _ => none) = some i := h
    split at h
    · rename_i a b e1 e2
      cases h
      exact PSs_weak (pss_cons (ih.sS s a e1) (ih.sSs r b e2)) fun D σ H q => w_scons q
    · cases h
theorem snds (wk : Wok G W mc N L X) (hs : X.env.scope = sc) (hf : ∀ x, X.fn x = true) : ∀ n, Snds G W refs mc N sc X n
  | 0 => by constructor <;> intros <;> rename_i h <;> cases h
  | n + 1 => ⟨turn_S wk hs hf (snds wk hs hf n), turn_Ss wk hs hf (snds wk hs hf n)⟩
end
end EV

set_option maxRecDepth 100000
set_option maxHeartbeats 4000000
/-! EV 17: a def keeps its promise. -/
namespace EV
open PySem L2

def rhoA : List Bool → List DV → Nat → Rho
  | false :: ms, d :: ds, t => .val d :: rhoA ms ds t
  | true :: ms, d :: ds, t => .own (some t) d :: rhoA ms ds (t + 1)
  | _, _, _ => []
def nos : Nat → Rho
  | 0 => []
  | n + 1 => .no :: nos n
/-- the names at the entry -/
def rhoI (n : Nat) (ms : List Bool) (ds : List DV) : Rho := rhoA ms ds 0 ++ nos (n - ms.length)
/-- what the by-reference parameter k holds -/
def findTag (k : Nat) : Rho → Option DV
  | [] => none
  | .own (some j) d :: ρ => if j = k then some d else findTag k ρ
  | _ :: ρ => findTag k ρ
def outsOf (t : Nat) : Nat → Rho → Option (List DV)
  | 0, _ => some []
  | m + 1, ρ => match findTag t ρ, outsOf (t + 1) m ρ with
    | some d, some ds => some (d :: ds)
    | _, _ => none
def nref : List Bool → Nat
  | [] => 0
  | true :: ms => nref ms + 1
  | false :: ms => nref ms
/-- a body's end -/
def finW (m : Nat) (k : Bool → DV → List DV → Prop) : Flow → Rho → Prop := fun fl ρ => ∃ outs, outsOf 0 m ρ = some outs ∧ match fl with
  | .nx => k false .non outs
  | .rt (.val d) => k false d outs
  | .rt (.tmp d) => k true d outs
  | .rt (.loc i) => (match ρ[i]? with
    | some (.val d) => k false d outs
    | some (.own none d) => k true d outs
    | _ => False)
  | _ => False

section
variable {W : Wd} {Hs H : Hp}
theorem args_len : ∀ {ms : List Bool} {vs : List V} {ds : List DV} {as : List Addr}, ArgsOk W Hs H ms vs ds as → vs.length = ms.length ∧ ds.length = ms.length ∧ as.length = nref ms
  | [], [], [], [], _ => ⟨rfl, rfl, rfl⟩
  | false :: ms, v :: vs, d :: ds, as, h => by
    obtain ⟨h1, h2, h3⟩ := args_len h.2
    exact ⟨congrArg (· + 1) h1, congrArg (· + 1) h2, h3⟩
  | true :: ms, v :: vs, d :: ds, a :: as, h => by
    obtain ⟨h1, h2, h3⟩ := args_len h.2.2.2
    exact ⟨congrArg (· + 1) h1, congrArg (· + 1) h2, congrArg (· + 1) h3⟩
  | [], [], [], _ :: _, h => h.elim
  | [], _ :: _, _, _, h => h.elim
  | [], [], _ :: _, _, h => h.elim
  | false :: _, [], _, _, h => h.elim
  | false :: _, _ :: _, [], _, h => h.elim
  | true :: _, [], _, _, h => h.elim
  | true :: _, _ :: _, [], _, h => h.elim
  | true :: _, _ :: _, _ :: _, [], h => h.elim
theorem rhoA_len : ∀ {ms : List Bool} {vs : List V} {ds : List DV} {as : List Addr} (t : Nat), ArgsOk W Hs H ms vs ds as → (rhoA ms ds t).length = ms.length
  | [], [], [], [], _, _ => rfl
  | false :: ms, v :: vs, d :: ds, as, t, h => congrArg (· + 1) (rhoA_len t h.2)
  | true :: ms, v :: vs, d :: ds, a :: as, t, h => congrArg (· + 1) (rhoA_len (t + 1) h.2.2.2)
  | [], [], [], _ :: _, _, h => h.elim
  | [], _ :: _, _, _, _, h => h.elim
  | [], [], _ :: _, _, _, h => h.elim
  | false :: _, [], _, _, _, h => h.elim
  | false :: _, _ :: _, [], _, _, h => h.elim
  | true :: _, [], _, _, _, h => h.elim
  | true :: _, _ :: _, [], _, _, h => h.elim
  | true :: _, _ :: _, _ :: _, [], _, h => h.elim
theorem rhoA_val : ∀ {ms : List Bool} {vs : List V} {ds : List DV} {as : List Addr} (t : Nat), ArgsOk W Hs H ms vs ds as → ∀ {i : Nat} {d : DV}, (rhoA ms ds t)[i]? = some (.val d) → ∃ v, vs[i]? = some v ∧ Den W Hs v d
  | [], [], [], [], _, _, i, d, e => by simp [rhoA] at e
  | false :: ms, v :: vs, d :: ds, as, t, h, i, d', e => by
    cases i with
    | zero => simp [rhoA] at e; subst e; exact ⟨v, rfl, h.1⟩
    | succ i =>
      obtain ⟨w, h1, h2⟩ := rhoA_val t h.2 (i := i) (by simpa [rhoA] using e)
      exact ⟨w, by simpa using h1, h2⟩
  | true :: ms, v :: vs, d :: ds, a :: as, t, h, i, d', e => by
    cases i with
    | zero => simp [rhoA] at e
    | succ i =>
      obtain ⟨w, h1, h2⟩ := rhoA_val (t + 1) h.2.2.2 (i := i) (by simpa [rhoA] using e)
      exact ⟨w, by simpa using h1, h2⟩
  | [], [], [], _ :: _, _, h, _, _, _ => h.elim
  | [], _ :: _, _, _, _, h, _, _, _ => h.elim
  | [], [], _ :: _, _, _, h, _, _, _ => h.elim
  | false :: _, [], _, _, _, h, _, _, _ => h.elim
  | false :: _, _ :: _, [], _, _, h, _, _, _ => h.elim
  | true :: _, [], _, _, _, h, _, _, _ => h.elim
  | true :: _, _ :: _, [], _, _, h, _, _, _ => h.elim
  | true :: _, _ :: _, _ :: _, [], _, h, _, _, _ => h.elim
theorem rhoA_own : ∀ {ms : List Bool} {vs : List V} {ds : List DV} {as : List Addr} (t : Nat), ArgsOk W Hs H ms vs ds as → ∀ {i : Nat} {u : Option Nat} {d : DV}, (rhoA ms ds t)[i]? = some (.own u d) →
    ∃ a, vs[i]? = some (.ref a) ∧ Hs a = none ∧ Own W Hs H a d ∧ Exists fun (j : Nat) => u = some (t + j) ∧ as[j]? = some a
  | [], [], [], [], _, _, i, u, d, e => by simp [rhoA] at e
  | false :: ms, v :: vs, d :: ds, as, t, h, i, u, d', e => by
    cases i with
    | zero => simp [rhoA] at e
    | succ i =>
      obtain ⟨w, h1, h2⟩ := rhoA_own t h.2 (i := i) (by simpa [rhoA] using e)
      exact ⟨w, by simpa using h1, h2⟩
  | true :: ms, v :: vs, d :: ds, a :: as, t, h, i, u, d', e => by
    cases i with
    | zero => simp [rhoA] at e; obtain ⟨rfl, rfl⟩ := e; exact ⟨a, by rw [h.1]; rfl, h.2.1, h.2.2.1, 0, rfl, rfl⟩
    | succ i =>
      obtain ⟨w, h1, h2, h3, j, h4, h5⟩ := rhoA_own (t + 1) h.2.2.2 (i := i) (by simpa [rhoA] using e)
      exact ⟨w, by simpa using h1, h2, h3, j + 1, by rw [h4]; congr 1; omega, by simpa using h5⟩
  | [], [], [], _ :: _, _, h, _, _, _, _ => h.elim
  | [], _ :: _, _, _, _, h, _, _, _, _ => h.elim
  | [], [], _ :: _, _, _, h, _, _, _, _ => h.elim
  | false :: _, [], _, _, _, h, _, _, _, _ => h.elim
  | false :: _, _ :: _, [], _, _, h, _, _, _, _ => h.elim
  | true :: _, [], _, _, _, h, _, _, _, _ => h.elim
  | true :: _, _ :: _, [], _, _, h, _, _, _, _ => h.elim
  | true :: _, _ :: _, _ :: _, [], _, h, _, _, _, _ => h.elim
theorem rhoA_dis : ∀ {ms : List Bool} {vs : List V} {ds : List DV} {as : List Addr} (t : Nat), ArgsOk W Hs H ms vs ds as → as.Nodup → ∀ {i j : Nat} {u u' : Option Nat} {d d' : DV} {a : Addr}, (rhoA ms ds t)[i]? = some (.own u d) → (rhoA ms ds t)[j]? = some (.own u' d') →
    vs[i]? = some (.ref a) → vs[j]? = some (.ref a) → i = j
  | [], [], [], [], _, _, _, i, j, u, u', d, d', a, e, _, _, _ => by simp [rhoA] at e
  | false :: ms, v :: vs, d :: ds, as, t, h, nd, i, j, u, u', d1, d2, a, e1, e2, h1, h2 => by
    cases i with
    | zero => simp [rhoA] at e1
    | succ i =>
      cases j with
      | zero => simp [rhoA] at e2
      | succ j => exact congrArg (· + 1) (rhoA_dis t h.2 nd (i := i) (j := j) (by simpa [rhoA] using e1) (by simpa [rhoA] using e2) (by simpa using h1) (by simpa using h2))
  | true :: ms, v :: vs, d :: ds, b :: as, t, h, nd, i, j, u, u', d1, d2, a, e1, e2, h1, h2 => by
    obtain ⟨nb, nd⟩ := List.nodup_cons.mp nd
    have far : ∀ {i : Nat} {u : Option Nat} {d : DV}, (rhoA ms ds (t + 1))[i]? = some (.own u d) → vs[i]? = some (.ref b) → False := fun {i u d} e h' => by
      obtain ⟨w, q1, _, _, l, _, q2⟩ := rhoA_own (t + 1) h.2.2.2 e
      rw [h'] at q1
      cases q1
      exact nb (List.mem_of_getElem? q2)
    cases i with
    | zero =>
      cases j with
      | zero => rfl
      | succ j =>
        have : v = .ref a := by simpa using h1
        rw [h.1] at this
        cases this
        exact (far (i := j) (by simpa [rhoA] using e2) (by simpa using h2)).elim
    | succ i =>
      cases j with
      | zero =>
        have : v = .ref a := by simpa using h2
        rw [h.1] at this
        cases this
        exact (far (i := i) (by simpa [rhoA] using e1) (by simpa using h1)).elim
      | succ j => exact congrArg (· + 1) (rhoA_dis (t + 1) h.2.2.2 nd (i := i) (j := j) (by simpa [rhoA] using e1) (by simpa [rhoA] using e2) (by simpa using h1) (by simpa using h2))
  | [], [], [], _ :: _, _, h, _, _, _, _, _, _, _, _, _, _, _, _ => h.elim
  | [], _ :: _, _, _, _, h, _, _, _, _, _, _, _, _, _, _, _, _ => h.elim
  | [], [], _ :: _, _, _, h, _, _, _, _, _, _, _, _, _, _, _, _ => h.elim
  | false :: _, [], _, _, _, h, _, _, _, _, _, _, _, _, _, _, _, _ => h.elim
  | false :: _, _ :: _, [], _, _, h, _, _, _, _, _, _, _, _, _, _, _, _ => h.elim
  | true :: _, [], _, _, _, h, _, _, _, _, _, _, _, _, _, _, _, _ => h.elim
  | true :: _, _ :: _, [], _, _, h, _, _, _, _, _, _, _, _, _, _, _, _ => h.elim
  | true :: _, _ :: _, _ :: _, [], _, h, _, _, _, _, _, _, _, _, _, _, _, _ => h.elim
theorem nos_len : ∀ n, (nos n).length = n
  | 0 => rfl
  | n + 1 => congrArg (· + 1) (nos_len n)
theorem nos_get : ∀ {n i : Nat} {s : Slot}, (nos n)[i]? = some s → s = .no
  | 0, _, _, h => by simp [nos] at h
  | n + 1, 0, _, h => by simp [nos] at h; exact h.symm
  | n + 1, i + 1, _, h => nos_get (n := n) (i := i) (by simpa [nos] using h)
theorem app_get {α : Type} {l l' : List α} {i : Nat} {x : α} (h : (l ++ l')[i]? = some x) : l[i]? = some x ∨ (Exists fun (j : Nat) => l'[j]? = some x) := by
  by_cases hi : i < l.length
  · rw [List.getElem?_append_left hi] at h; exact .inl h
  · rw [List.getElem?_append_right (by omega)] at h; exact .inr ⟨_, h⟩
theorem start_get {N : List Str} {vs : List V} {i : Nat} {v : V} (h : vs[i]? = some v) : (L2.start N vs)[i]? = some (some v) := by
  unfold L2.start
  have hi : i < vs.length := (List.getElem?_eq_some_iff.mp h).1
  rw [List.getElem?_append_left (by simpa using hi), List.getElem?_map, h]; rfl
theorem start_len {N : List Str} {vs : List V} (h : vs.length ≤ N.length) : (L2.start N vs).length = N.length := by
  unfold L2.start; rw [List.length_append, List.length_map, List.length_replicate]; omega
theorem start_of {N : List Str} {vs : List V} {i : Nat} {v : V} (hi : i < vs.length) (h : (L2.start N vs)[i]? = some (some v)) : vs[i]? = some v := by
  unfold L2.start at h
  rw [List.getElem?_append_left (by simpa using hi), List.getElem?_map] at h
  cases q : vs[i]? with
  | none => rw [q] at h; cases h
  | some w => rw [q] at h; cases h; rfl

theorem rho_old {ms : List Bool} {vs : List V} {ds : List DV} {as : List Addr} {n i : Nat} {s : Slot} (h : (rhoI n ms ds)[i]? = some s) (hs : s ≠ .no) : (rhoA ms ds 0)[i]? = some s := by
  rcases app_get h with h | ⟨j, h⟩
  · exact h
  · exact absurd (nos_get h) hs
theorem rel_start {N : List Str} {ms : List Bool} {vs : List V} {ds : List DV} {as : List Addr} (e : Same Hs H) (a : ArgsOk W Hs H ms vs ds as) (nd : as.Nodup) (hn : ms.length ≤ N.length) :
    Rel W as (rhoI N.length ms ds) (L2.start N vs) Hs H ∧ ∀ b, IsOwn (rhoI N.length ms ds) (L2.start N vs) b → b ∈ as := by
  obtain ⟨l1, l2, l3⟩ := args_len a
  have lA := rhoA_len 0 a
  have old : ∀ {i : Nat} {s : Slot}, (rhoI N.length ms ds)[i]? = some s → s ≠ .no → (rhoA ms ds 0)[i]? = some s ∧ i < vs.length := fun {i s} h hs => by
    have h := rho_old (vs := vs) (as := as) h hs
    exact ⟨h, by rw [l1, ← lA]; exact (List.getElem?_eq_some_iff.mp h).1⟩
  refine ⟨⟨e, ?_, fun i d h => ?_, fun i t d h => ?_, fun i j t u d d' b h1 h2 h3 h4 => ?_⟩, ?_⟩
  · rw [start_len (by omega)]
    unfold rhoI
    rw [List.length_append, lA, nos_len]; omega
  · obtain ⟨h, _⟩ := old h (by intro z; cases z)
    obtain ⟨v, h1, h2⟩ := rhoA_val 0 a h
    exact ⟨v, start_get h1, h2⟩
  · obtain ⟨h, _⟩ := old h (by intro z; cases z)
    obtain ⟨b, h1, h2, h3, j, h4, h5⟩ := rhoA_own 0 a h
    refine ⟨b, start_get h1, h2, h3, fun k hk => ?_⟩
    rw [h4] at hk
    cases hk
    simpa using h5
  · obtain ⟨q1, l1'⟩ := old h1 (by intro z; cases z)
    obtain ⟨q2, l2'⟩ := old h2 (by intro z; cases z)
    exact rhoA_dis 0 a nd q1 q2 (start_of l1' h3) (start_of l2' h4)
  · rintro b ⟨i, t, d, h, hb⟩
    obtain ⟨h, hl⟩ := old h (by intro z; cases z)
    obtain ⟨c, h1, _, _, j, _, h5⟩ := rhoA_own 0 a h
    have := start_of hl hb
    rw [h1] at this
    cases this
    exact List.mem_of_getElem? h5

theorem find_tag {k : Nat} : ∀ {ρ : Rho} {d : DV}, findTag k ρ = some d → Exists fun (i : Nat) => ρ[i]? = some (.own (some k) d)
  | [], _, h => by cases h
  | .own (some j) e :: ρ, d, h => by
    unfold findTag at h
    by_cases hj : j = k
    · rw [if_pos hj] at h; cases h; subst hj; exact ⟨0, rfl⟩
    · rw [if_neg hj] at h
      obtain ⟨i, hi⟩ := find_tag h
      exact ⟨i + 1, by simpa using hi⟩
  | .own none _ :: ρ, d, h => by
    obtain ⟨i, hi⟩ := find_tag (ρ := ρ) h
    exact ⟨i + 1, by simpa using hi⟩
  | .no :: ρ, d, h => by
    obtain ⟨i, hi⟩ := find_tag (ρ := ρ) h
    exact ⟨i + 1, by simpa using hi⟩
  | .val _ :: ρ, d, h => by
    obtain ⟨i, hi⟩ := find_tag (ρ := ρ) h
    exact ⟨i + 1, by simpa using hi⟩
theorem outs_get : ∀ {m t : Nat} {ρ : Rho} {outs : List DV}, outsOf t m ρ = some outs → ∀ {j : Nat}, j < m → ∃ d, outs[j]? = some d ∧ findTag (t + j) ρ = some d
  | 0, _, _, _, _, _, h => absurd h (Nat.not_lt_zero _)
  | m + 1, t, ρ, outs, h, j, hj => by
    unfold outsOf at h
    split at h
    · rename_i d ds e1 e2
      cases h
      cases j with
      | zero => exact ⟨d, rfl, e1⟩
      | succ j =>
        obtain ⟨d', h1, h2⟩ := outs_get e2 (j := j) (by omega)
        exact ⟨d', by simpa using h1, by rw [← h2]; congr 1; omega⟩
    · cases h
theorem outs_ok {refs : List Addr} {ρ : Rho} {σ : L2.St} {Hs' H' : Hp} (R : Rel W refs ρ σ Hs' H') : ∀ {as : List Addr} {t : Nat} {outs : List DV}, outsOf t as.length ρ = some outs → (∀ j : Nat, as[j]? = refs[t + j]?) → OutsOk W Hs' H' as outs
  | [], t, outs, h, _ => by
    cases h
    trivial
  | a :: as, t, outs, h, he => by
    have h : (match findTag t ρ, outsOf (t + 1) as.length ρ with
      | some d, some ds => some (d :: ds)
      | _, _ => none) = some outs := h
    split at h
    · rename_i d ds e1 e2
      cases h
      obtain ⟨i, hi⟩ := find_tag e1
      obtain ⟨b, h1, h2, h3, h4⟩ := R.own i _ d hi
      have hb := h4 t rfl
      have ha := he 0
      rw [Nat.add_zero, hb] at ha
      have ha : a = b := Option.some.inj ha
      subst ha
      exact ⟨⟨h2, h3⟩, outs_ok R e2 fun j => by
        have := he (j + 1)
        rw [show t + 1 + j = t + (j + 1) by omega, ← this]; rfl⟩
    · cases h
end

section
variable {P : Program} {w : World} {K : PySem.W.Frag} {mg : Str → Option Value} {base : Heap} {G : Genv} {W : Wd} {mc : Str → Option Str} {N : List Str} {L : Nat}
/-- from a body's end to its caller -/
theorem ends_of {fi : FI} {ms : List Bool} {ρ : Rho} {σ : L2.St} {Hs H : Hp} {as : List Addr} {k : Bool → DV → List DV → Prop} {Q : VK} (io : ∀ b, IsOwn ρ σ b → b ∈ as) (hm : as.length = nref ms)
    (P : ∀ fr d outs v Hs' H', CallStep W as Hs H Hs' H' outs fr d v → k fr d outs → Q v H') : EndsOk W as ρ σ Hs H (finW (nref ms) k) { nx := fun _ H' => Q .non H', rt := Q } := by
  have go : ∀ {ρ' σ' Hs' H'} (S : Step W as ρ σ Hs H ρ' σ' Hs' H') {outs : List DV}, outsOf 0 (nref ms) ρ' = some outs → ∀ fr d v, (fr = true → ∃ a, v = .ref a ∧ H a = none ∧ Hs' a = none ∧ Own W Hs' H' a d) → (fr = false → Den W Hs' v d) → CallStep W as Hs H Hs' H' outs fr d v := fun {ρ' σ' Hs' H'} S {outs} ho fr d v h1 h2 => by
    rw [← hm] at ho
    refine ⟨S.ex, S.rel.sub, fun b o e n => S.frame b o e fun z => n (io b z), S.live, fun b e1 e2 => ?_, outs_ok S.rel ho fun j => by rw [Nat.zero_add], h1, h2⟩
    rcases S.grow b e1 e2 with z | z
    · exact z
    · obtain ⟨j, hj⟩ := List.getElem?_of_mem (io b z)
      obtain ⟨d', _, hf⟩ := outs_get ho (j := j) (List.getElem?_eq_some_iff.mp hj).1
      obtain ⟨i, hi⟩ := find_tag hf
      obtain ⟨c, q1, q2, _, q4⟩ := S.rel.own i _ d' hi
      have := q4 _ rfl
      rw [Nat.zero_add, hj] at this
      cases this
      exact absurd q2 e2
  refine ⟨fun ρ' σ' Hs' H' S _ h => ?_, fun ρ' σ' Hs' H' S _ h => ?_, fun ρ' σ' Hs' H' S _ h => ?_, fun r ρ' σ' v Hs' H' S O Nw h => ?_⟩
  · obtain ⟨outs, ho, h⟩ := h
    exact P _ _ _ _ _ _ (go S ho false .non .non (fun z => by cases z) fun _ => .non) h
  · obtain ⟨outs, ho, h⟩ := h
    exact h.elim
  · obtain ⟨outs, ho, h⟩ := h
    exact h.elim
  · obtain ⟨outs, ho, h⟩ := h
    cases r with
    | val d => exact P _ _ _ _ _ _ (go S ho false d v (fun z => by cases z) fun _ => O) h
    | tmp d =>
      obtain ⟨a, rfl, h1, h2, h3⟩ := O
      exact P _ _ _ _ _ _ (go S ho true d _ (fun _ => ⟨a, rfl, Nw a rfl, h1, h3⟩) fun z => by cases z) h
    | loc i =>
      have O : σ'[i]? = some (some v) := O
      dsimp only at h
      cases q : ρ'[i]? with
      | none => rw [q] at h; exact h.elim
      | some s =>
        rw [q] at h
        cases s with
        | no => exact h.elim
        | val d =>
          obtain ⟨v', h1, h2⟩ := S.rel.val i d q
          rw [O] at h1; cases h1
          exact P _ _ _ _ _ _ (go S ho false d v (fun z => by cases z) fun _ => h2) h
        | own t d =>
          cases t with
          | some _ => exact h.elim
          | none =>
            obtain ⟨a, h1, h2, h3, _⟩ := S.rel.own i _ d q
            rw [O] at h1; cases h1
            refine P _ _ _ _ _ _ (go S ho true d _ (fun _ => ⟨a, rfl, ?_, h2, h3⟩) fun z => by cases z) h
            rcases S.owns a ⟨i, none, d, q, O⟩ with z | z
            · rw [← hm] at ho
              obtain ⟨j, hj⟩ := List.getElem?_of_mem (io a z)
              obtain ⟨d', _, hf⟩ := outs_get ho (j := j) (List.getElem?_eq_some_iff.mp hj).1
              obtain ⟨l, hl⟩ := find_tag hf
              obtain ⟨c, q1, q2, _, q4⟩ := S.rel.own l _ d' hl
              have := q4 _ rfl
              rw [Nat.zero_add, hj] at this
              cases this
              have := S.rel.dis i l _ _ _ _ a q hl O q1
              subst this
              rw [q] at hl
              cases hl
            · exact z
/-- what is fixed for all the defs -/
structure Stat (G : Genv) (W : Wd) (L : Nat) (P : Program) (w : World) (K : PySem.W.Frag) (mg : Str → Option Value) (base : Heap) : Prop where
  hK : K = W.K
  hblt : ∀ x ∈ bltNames, mg x = none
  hcon : ∀ x d, G.con x = some d → ∃ v u, mg x = some u ∧ RelV v u ∧ ∀ Hs, Den W Hs v d
  hfns : ∀ f fi, G.fns f = some fi → ∃ fa fd ps, mg f = some (.ref fa) ∧ PySem.W.keepIn K (.ref fa) = true ∧ FnOk P w K mg base CX0 L fa fd ps (spOf W fi) ∧ Binds K fd ps [] ∧ ∀ ks ord, G.kwo f ks = some ord → KBn K fd ps 0 ks (gK ord) (gK ord)
  hcls : ∀ c C, W.cls c = some C → Cls K C
  hfld : ∀ c C f, W.cls c = some C → G.isFld c f = true → NoAttr K C f
  hprop : ∀ c C f fi, W.cls c = some C → G.prop c f = some fi → ∃ p g fd ps, PropOf K C f p g ∧ FnOk P w K mg base CX0 L g fd ps (spOf W fi) ∧ Binds K fd ps []
  hmeth : ∀ c m fi, G.meth c m = some fi → ∃ C g fd ps, W.cls c = some C ∧ Meth K C m g ∧ FnOk P w K mg base CX0 L g fd ps (spOf W fi) ∧ Binds K fd ps [] ∧ ∀ ks ord, G.kwo m ks = some ord → KBn K fd ps 1 ks (gK ord) (gK ord)
  hmak : ∀ c fi, G.mak c = some fi → ∃ C g fd ps ms, W.cls c = some C ∧ mg c = some (.ref C) ∧ fi.modes = true :: ms ∧ Mk K C g ∧ FnOk P w K mg base CX0 L g fd ps (spOf W fi) ∧ Binds K fd ps [] ∧ ∀ ks ord, G.kwo c ks = some ord → KBn K fd ps 1 ks (gK ord) (gK ord)
  hisc : ∀ c, G.isc c = true → ∃ C, W.cls c = some C ∧ mg c = some (.ref C) ∧ (∀ T ∈ isaTys, PySem.W.kitOne K (.type T) (.ref C) = some false) ∧ ∀ c' C', W.cls c' = some C' → TyC K C' ∧ PySem.W.kitOne K (.ref C') (.ref C) = some (decide (c' = c))
  hvmak : ∀ c fi, G.vmak c = some fi → ∃ C g, W.cls c = some C ∧ mg c = some (.ref C) ∧ (∃ ms, fi.modes = true :: ms) ∧ Mk K C g ∧ FnR P w K mg base CX0 L g (starSp W fi)
  hcmet : ∀ c m fi, G.cmet c m = some fi → ∃ C mv p g, mg c = some (.ref C) ∧ ClX.CRead K C mv ∧ ClX.CMet K C mv m p g ∧ FnR P w K mg base CX0 L g (clsSp W fi)
theorem body_ev {x qual : Str} {st : Stmt} {f : Addr} {ps : List Str} {fi : FI} {body : ISs} {fuel : Nat} (S : Stat G W L P w K mg base) (Sc : FnScope N ps (defScope st)) (hm : fi.modes.length = ps.length) (hn : ps.length ≤ N.length)
    (hc : compSs fuel mc N (defScope st) (defBody st) = some body) (vc : ∀ ds k, ds.length = fi.modes.length → fi.spec ds k → wpSs G body (rhoI N.length fi.modes ds) (finW (nref fi.modes) k))
    (cdv : Value) (A : Around) (outer : List Env) (s : Shared) (H : Hp) (vs : List V) (Q : VK) (E : XK) (hr : Room (L + 1) (A.deeper (PyProof.Rows.envOfC qual (defScope st) s.heap.objs.size f cdv))) (h : spOf W fi vs H Q E) :
    ∃ t, PSs (cxOf CX0 P w K mg base N qual (defScope st) f cdv A outer s H E).nox (defBody st) t ∧ t { nx := fun _ H' => Q .non H', rt := Q } (L2.start N vs) H := by
  obtain ⟨Hs, ds, as, k, e, ha, nd, hs, hQ⟩ := h
  obtain ⟨l1, l2, l3⟩ := args_len ha
  have wk : Wok G W mc N L (cxOf CX0 P w K mg base N qual (defScope st) f cdv A outer s H E).nox :=
    ⟨S.hK, rfl, Sc.nd, rfl, rfl, hr, Sc.kind, S.hblt, S.hcon, S.hfns, S.hcls, S.hfld, S.hprop, S.hmeth, S.hmak, S.hisc, S.hvmak, S.hcmet⟩
  obtain ⟨R, io⟩ := rel_start (N := N) e ha nd (by omega)
  exact ⟨tSs G W as body, (snds wk rfl (fun _ => rfl) fuel).sSs _ body hc, _, Hs, _, R, vc ds k l2 hs, ends_of (fi := fi) io l3 hQ⟩
theorem fn_ev {x qual : Str} {st : Stmt} {f : Addr} {fd : FuncData} {ps : List Str} {fi : FI} {body : ISs} {fuel : Nat} (S : Stat G W L P w K mg base) (Fn : Fun K x qual st f fd) (Sc : FnScope N ps (defScope st)) (hm : fi.modes.length = ps.length) (hn : ps.length ≤ N.length)
    (hc : compSs fuel mc N (defScope st) (defBody st) = some body) (vc : ∀ ds k, ds.length = fi.modes.length → fi.spec ds k → wpSs G body (rhoI N.length fi.modes ds) (finW (nref fi.modes) k)) : FnOk P w K mg base CX0 (L + 2) f fd ps (spOf W fi) :=
  Fn.ok Sc (fun vs H Q E ⟨Hs, ds, as, k, _, ha, _⟩ => by rw [(args_len ha).1, hm]) fun cdv A outer s H vs Q E hr h => body_ev (x := x) S Sc hm hn hc vc cdv A outer s H vs Q E hr h
/-- a def whose last parameter takes all that is left as a tuple: self alone ahead -/
theorem fn_evV {x qual p1 pv : Str} {st : Stmt} {f : Addr} {fd : FuncData} {fi : FI} {body : ISs} {fuel : Nat} (S : Stat G W L P w K mg base) (Fn : Fun K x qual st f fd) (Sc : FnScope N [p1, pv] (defScope st)) (hm : fi.modes.length = 2) (hn : 2 ≤ N.length)
    (hc : compSs fuel mc N (defScope st) (defBody st) = some body) (vc : ∀ ds k, ds.length = fi.modes.length → fi.spec ds k → wpSs G body (rhoI N.length fi.modes ds) (finW (nref fi.modes) k))
    (hb : ∀ (kV doc pm : Value) (an : Option Addr) (cdv ct : Value) (us rest : List Value), us.length = [p1].length → bindArgs (PySem.W.fnOf x qual (defArgs st) (defBody st) (defScope st) .none kV doc pm an cdv ct) ⟨us ++ rest, []⟩ = (newTuple rest >>= fun t => pure ([p1].zip us ++ [(pv, t)]))) :
    FnR P w K mg base CX0 (L + 2) f (starSp W fi) := by
  obtain ⟨oc, od, kV, doc, pm, an, cdv, ct, osl, rfl, lk, hcd⟩ := Fn.ex
  refine (StX.fn_star (ps := [p1]) (pv := pv) lk hcd Sc StX.cxUp_none (hb kV doc pm an cdv ct) fun A outer s H vs Q E hr h => ?_).imp fun vs H Q E ⟨y, rest, e, hz, h⟩ => ⟨[y], rest, e, rfl, hz, h⟩
  obtain ⟨t, h1, h2⟩ := body_ev (x := x) S Sc hm hn hc vc cdv A outer s H vs Q E hr h
  exact ⟨t, h1.nox, h2⟩
theorem Rel.shift {refs : List Addr} {ρ : Rho} {σ : L2.St} {Hs H : Hp} (R : Rel W refs ρ σ Hs H) (o : Option V) : Rel W refs (.no :: ρ) (o :: σ) Hs H where
  sub := R.sub
  len := by rw [List.length_cons, List.length_cons, R.len]
  val := fun i d h => by
    cases i with
    | zero => cases h
    | succ i => exact R.val i d (by simpa using h)
  own := fun i t d h => by
    cases i with
    | zero => cases h
    | succ i => exact R.own i t d (by simpa using h)
  dis := fun i j t u d e a h1 h2 h3 h4 => by
    cases i with
    | zero => cases h1
    | succ i =>
      cases j with
      | zero => cases h2
      | succ j => exact congrArg (· + 1) (R.dis i j t u d e a (by simpa using h1) (by simpa using h2) (by simpa using h3) (by simpa using h4))
/-- a classmethod: the class is not looked at -/
theorem fn_evC {x qual p0 : Str} {N' : List Str} {st : Stmt} {f : Addr} {fd : FuncData} {ps : List Str} {fi : FI} {body : ISs} {fuel : Nat} (S : Stat G W L P w K mg base) (Fn : Fun K x qual st f fd) (Sc : FnScope (p0 :: N') (p0 :: ps) (defScope st)) (hm : fi.modes.length = ps.length) (hn : ps.length ≤ N'.length)
    (hc : compSs fuel mc (p0 :: N') (defScope st) (defBody st) = some body) (vc : ∀ ds k, ds.length = fi.modes.length → fi.spec ds k → wpSs G body (.no :: rhoI N'.length fi.modes ds) (finW (nref fi.modes) k)) : FnOk P w K mg base CX0 (L + 2) f fd (p0 :: ps) (clsSp W fi) := by
  refine Fn.ok Sc (fun vs H Q E ⟨y, rest, e, Hs, ds, as, k, _, ha, _⟩ => by rw [e, List.length_cons, (args_len ha).1, hm]; rfl) fun cdv A outer s H vs Q E hr h => ?_
  obtain ⟨y, rest, rfl, Hs, ds, as, k, e, ha, nd, hs, hQ⟩ := h
  obtain ⟨l1, l2, l3⟩ := args_len ha
  have wk : Wok G W mc (p0 :: N') L (cxOf CX0 P w K mg base (p0 :: N') qual (defScope st) f cdv A outer s H E).nox :=
    ⟨S.hK, rfl, Sc.nd, rfl, rfl, hr, Sc.kind, S.hblt, S.hcon, S.hfns, S.hcls, S.hfld, S.hprop, S.hmeth, S.hmak, S.hisc, S.hvmak, S.hcmet⟩
  obtain ⟨R, io⟩ := rel_start (N := N') e ha nd (by omega)
  have est : L2.start (p0 :: N') (y :: rest) = some y :: L2.start N' rest := by
    unfold L2.start
    rw [List.map_cons, List.cons_append, List.length_cons, List.length_cons, Nat.add_sub_add_right]
  rw [est]
  refine ⟨tSs G W as body, (snds wk rfl (fun _ => rfl) fuel).sSs _ body hc, _, Hs, _, R.shift _, vc ds k l2 hs, ends_of (fi := fi) (fun b z => ?_) l3 hQ⟩
  obtain ⟨i, t, d, h1, h2⟩ := z
  cases i with
  | zero => cases h1
  | succ i => exact io b ⟨i, t, d, by simpa using h1, by simpa using h2⟩
end
end EV

set_option maxRecDepth 100000
set_option maxHeartbeats 4000000
/-! EV 20: what the small language is worth, row by row. -/
namespace EV
open PySem L2
theorem ep0 (i : Int) (j : Int) (k : PR → Prop) : evalP Prim.add [DV.int i, DV.int j] k = (k (.it (.int (i + j)))) := rfl
theorem ep1 (a : Str) (b : Str) (k : PR → Prop) : evalP Prim.add [DV.str a, DV.str b] k = (a.length + b.length ≤ sizeLine ∧ k (.it (.str (a ++ b)))) := rfl
theorem ep2 (a : List DV) (b : List DV) (k : PR → Prop) : evalP Prim.add [DV.lst a, DV.lst b] k = (a.length + b.length ≤ sizeLine ∧ k (.nw (.lst (a ++ b)))) := rfl
theorem ep3 (a : List DV) (b : List DV) (k : PR → Prop) : evalP Prim.add [DV.tup a, DV.tup b] k = (a.length + b.length ≤ sizeLine ∧ k (.it (.tup (a ++ b)))) := rfl
theorem ep4 (i : Int) (j : Int) (k : PR → Prop) : evalP Prim.sub [DV.int i, DV.int j] k = (k (.it (.int (i - j)))) := rfl
theorem ep5 (i : Int) (j : Int) (k : PR → Prop) : evalP Prim.mul [DV.int i, DV.int j] k = (CMul i j ∧ k (.it (.int (i * j)))) := rfl
theorem ep6 (a : List DV) (n : Int) (k : PR → Prop) : evalP Prim.mul [DV.lst a, DV.int n] k = ((-(2 ^ 63) ≤ n ∧ n < 2 ^ 63 ∧ a.length * n.toNat ≤ sizeLine) ∧ k (.nw (.lst (List.flatten (List.replicate n.toNat a))))) := rfl
theorem ep7 (i : Int) (j : Int) (k : PR → Prop) : evalP Prim.fdiv [DV.int i, DV.int j] k = (CDiv i j ∧ k (.it (.int (i / j)))) := rfl
theorem ep8 (i : Int) (j : Int) (k : PR → Prop) : evalP Prim.mod [DV.int i, DV.int j] k = (0 < j ∧ k (.it (.int (i % j)))) := rfl
theorem ep9 (i : Int) (j : Int) (k : PR → Prop) : evalP Prim.pow [DV.int i, DV.int j] k = (CPow i j ∧ k (.it (.int (i ^ j.toNat)))) := rfl
theorem ep10 (i : Int) (k : PR → Prop) : evalP Prim.neg [DV.int i] k = (k (.it (.int (-i)))) := rfl
theorem ep11 (a : DV) (b : DV) (k : PR → Prop) : evalP Prim.eq [a, b] k = (cmpb a = true ∧ cmpb b = true ∧ k (.it (.bl (deq a b)))) := rfl
theorem ep12 (a : DV) (b : DV) (k : PR → Prop) : evalP Prim.ne [a, b] k = (cmpb a = true ∧ cmpb b = true ∧ k (.it (.bl (!deq a b)))) := rfl
theorem ep13 (i : Int) (j : Int) (k : PR → Prop) : evalP Prim.lt [DV.int i, DV.int j] k = (k (.it (.bl (decide (i < j))))) := rfl
theorem ep14 (i : Int) (j : Int) (k : PR → Prop) : evalP Prim.le [DV.int i, DV.int j] k = (k (.it (.bl (decide (i ≤ j))))) := rfl
theorem ep15 (i : Int) (j : Int) (k : PR → Prop) : evalP Prim.gt [DV.int i, DV.int j] k = (k (.it (.bl (decide (j < i))))) := rfl
theorem ep16 (i : Int) (j : Int) (k : PR → Prop) : evalP Prim.ge [DV.int i, DV.int j] k = (k (.it (.bl (decide (j ≤ i))))) := rfl
theorem ep17 (a : DV) (k : PR → Prop) : evalP Prim.isN [a] k = (k (.it (.bl (isNon a)))) := rfl
theorem ep18 (a : DV) (k : PR → Prop) : evalP Prim.notN [a] k = (k (.it (.bl (!isNon a)))) := rfl
theorem ep19 (a : DV) (ds : List DV) (k : PR → Prop) : evalP Prim.isin [a, DV.lst ds] k = (flat a = true ∧ ds.all flat = true ∧ k (.it (.bl (ds.any fun y => deq y a)))) := rfl
theorem ep20 (a : DV) (ds : List DV) (k : PR → Prop) : evalP Prim.isin [a, DV.tup ds] k = (flat a = true ∧ ds.all flat = true ∧ k (.it (.bl (ds.any fun y => deq y a)))) := rfl
theorem ep21 (a : Str) (b : Str) (k : PR → Prop) : evalP Prim.isin [DV.str a, DV.str b] k = (k (.it (.bl (!(Builtin.Str.occurrences b a 0 b.length 1).isEmpty)))) := rfl
theorem ep22 (a : DV) (ds : List DV) (k : PR → Prop) : evalP Prim.notin [a, DV.lst ds] k = (flat a = true ∧ ds.all flat = true ∧ k (.it (.bl (!ds.any fun y => deq y a)))) := rfl
theorem ep23 (a : DV) (ds : List DV) (k : PR → Prop) : evalP Prim.notin [a, DV.tup ds] k = (flat a = true ∧ ds.all flat = true ∧ k (.it (.bl (!ds.any fun y => deq y a)))) := rfl
theorem ep24 (ds : List DV) (k : PR → Prop) : evalP Prim.len [DV.lst ds] k = (k (.it (.int ds.length))) := rfl
theorem ep25 (ds : List DV) (k : PR → Prop) : evalP Prim.len [DV.tup ds] k = (k (.it (.int ds.length))) := rfl
theorem ep26 (ds : List DV) (k : PR → Prop) : evalP Prim.len [DV.scr ds] k = (k (.it (.int ds.length))) := rfl
theorem ep27 (x : Str) (k : PR → Prop) : evalP Prim.len [DV.str x] k = (x.length ≤ sizeLine ∧ k (.it (.int x.length))) := rfl
theorem ep28 (i : Int) (k : PR → Prop) : evalP Prim.abs [DV.int i] k = (k (.it (.int (if i < 0 then -i else i)))) := rfl
theorem ep29 (i : Int) (j : Int) (k : PR → Prop) : evalP Prim.max2 [DV.int i, DV.int j] k = (k (.it (.int (if j > i then j else i)))) := rfl
theorem ep30 (i : Int) (j : Int) (k : PR → Prop) : evalP Prim.min2 [DV.int i, DV.int j] k = (k (.it (.int (if j < i then j else i)))) := rfl
theorem ep31 (i : Int) (k : PR → Prop) : evalP Prim.int1 [DV.int i] k = (k (.it (.int i))) := rfl
theorem ep32 (a : Str) (k : PR → Prop) : evalP Prim.int1 [DV.str a] k = (a.length ≤ 640 ∧ ∃ n, PySem.intText? a = some n ∧ k (.it (.int n))) := rfl
theorem ep33 (i : Int) (k : PR → Prop) : evalP Prim.str1 [DV.int i] k = (i.natAbs.log2 < 1920 ∧ k (.it (.str (toString i)))) := rfl
theorem ep34 (ds : List DV) (k : PR → Prop) : evalP Prim.tuple1 [DV.lst ds] k = (k (.it (.tup ds))) := rfl
theorem ep35 (ds : List DV) (k : PR → Prop) : evalP Prim.tuple1 [DV.tup ds] k = (k (.it (.tup ds))) := rfl
theorem ep36 (ds : List DV) (k : PR → Prop) : evalP Prim.list1 [DV.lst ds] k = (k (.nw (.lst ds))) := rfl
theorem ep37 (ds : List DV) (k : PR → Prop) : evalP Prim.list1 [DV.tup ds] k = (k (.nw (.lst ds))) := rfl
theorem ep38 (ds : List DV) (k : PR → Prop) : evalP Prim.sum [DV.lst ds] k = (∃ ns, intsD ds = some ns ∧ k (.it (.int ns.sum))) := rfl
theorem ep39 (ds : List DV) (k : PR → Prop) : evalP Prim.all [DV.lst ds] k = (∃ bs, boolsD ds = some bs ∧ k (.it (.bl (bs.all id)))) := rfl
theorem ep40 (ds : List DV) (k : PR → Prop) : evalP Prim.any [DV.lst ds] k = (∃ bs, boolsD ds = some bs ∧ k (.it (.bl (bs.any id)))) := rfl
theorem ep41 (ds : List DV) (k : PR → Prop) : evalP Prim.maxL [DV.lst ds] k = (∃ ns, intsD ds = some ns ∧ 0 < ns.length ∧ ∀ m, m ∈ ns → (∀ x ∈ ns, x ≤ m) → k (.it (.int m))) := rfl
theorem ep42 (ds : List DV) (k : PR → Prop) : evalP Prim.minL [DV.lst ds] k = (∃ ns, intsD ds = some ns ∧ 0 < ns.length ∧ ∀ m, m ∈ ns → (∀ x ∈ ns, m ≤ x) → k (.it (.int m))) := rfl
theorem ep43 (i : Int) (j : Int) (k : PR → Prop) : evalP Prim.divmod [DV.int i, DV.int j] k = (CDiv i j ∧ k (.it (.tup [.int (i / j), .int (i % j)]))) := rfl
theorem ep44 (ds : List DV) (i : Int) (k : PR → Prop) : evalP Prim.ix [DV.lst ds, DV.int i] k = (∃ d, atI ds i = some d ∧ k (.it d)) := rfl
theorem ep45 (ds : List DV) (i : Int) (k : PR → Prop) : evalP Prim.ix [DV.scr ds, DV.int i] k = (∃ d, atI ds i = some d ∧ k (.it d)) := rfl
theorem ep46 (ds : List DV) (i : Int) (k : PR → Prop) : evalP Prim.ix [DV.tup ds, DV.int i] k = (∃ d, atI ds i = some d ∧ k (.it d)) := rfl
theorem ep47 (z : Str) (i : Int) (k : PR → Prop) : evalP Prim.ix [DV.str z, DV.int i] k = (∃ c, z.length ≤ sizeLine ∧ atI z.cps.toList i = some c ∧ k (.it (.str ⟨#[c]⟩))) := rfl
theorem ep48 (ds : List DV) (k : PR → Prop) : evalP Prim.rev [DV.lst ds] k = (k (.nw (.lst ds.reverse))) := rfl
theorem ep49 (a : Str) (b : Str) (k : PR → Prop) : evalP Prim.split [DV.str a, DV.str b] k = ((b.length == 0) = false ∧ a.length + 2 ≤ sizeLine ∧ k (.nw (.lst ((Txt.split a b).map DV.str)))) := rfl
theorem ep50 (a : Str) (ds : List DV) (k : PR → Prop) : evalP Prim.join [DV.str a, DV.lst ds] k = (∃ ys, strsD ds = some ys ∧ (ys.map (·.length)).sum + ys.length * a.length ≤ 16777216 ∧ k (.it (.str (Txt.join a ys)))) := rfl
theorem ep51 (a : Str) (ds : List DV) (k : PR → Prop) : evalP Prim.join [DV.str a, DV.tup ds] k = (∃ ys, strsD ds = some ys ∧ (ys.map (·.length)).sum + ys.length * a.length ≤ 16777216 ∧ k (.it (.str (Txt.join a ys)))) := rfl
theorem ep52 (a : DV) (k : PR → Prop) : evalP Prim.isInt [a] k = (plainTop a = true ∧ k (.it (.bl (isIntD a)))) := rfl
theorem ep53 (a : DV) (k : PR → Prop) : evalP Prim.isBool [a] k = (plainTop a = true ∧ k (.it (.bl (isBlD a)))) := rfl
theorem ep54 (a : DV) (k : PR → Prop) : evalP Prim.isTup [a] k = (plainTop a = true ∧ k (.it (.bl (isTupD a)))) := rfl
theorem ep55 (a : DV) (k : PR → Prop) : evalP Prim.isStr [a] k = (plainTop a = true ∧ k (.it (.bl (isStrD a)))) := rfl
theorem ep56 (ds : List DV) (k : PR → Prop) : evalP Prim.sorted [DV.lst ds] k = (∃ ns, intsD ds = some ns ∧ ∀ ms : List Int, ms.Perm ns → ms.Pairwise (· ≤ ·) → k (.nw (.lst (ms.map .int)))) := rfl
theorem k_isNon_non  : isNon .non = true := rfl
theorem k_isNon_bl (b : Bool) : isNon (.bl b) = false := rfl
theorem k_isNon_int (i : Int) : isNon (.int i) = false := rfl
theorem k_isNon_str (x : Str) : isNon (.str x) = false := rfl
theorem k_isNon_tup (ds : List DV) : isNon (.tup ds) = false := rfl
theorem k_isNon_lst (ds : List DV) : isNon (.lst ds) = false := rfl
theorem k_isNon_obj (c : Str) (ns : List Str) (ds : List DV) : isNon (.obj c ns ds) = false := rfl
theorem k_isIntD_non  : isIntD .non = false := rfl
theorem k_isIntD_bl (b : Bool) : isIntD (.bl b) = true := rfl
theorem k_isIntD_int (i : Int) : isIntD (.int i) = true := rfl
theorem k_isIntD_str (x : Str) : isIntD (.str x) = false := rfl
theorem k_isIntD_tup (ds : List DV) : isIntD (.tup ds) = false := rfl
theorem k_isIntD_lst (ds : List DV) : isIntD (.lst ds) = false := rfl
theorem k_isBlD_non  : isBlD .non = false := rfl
theorem k_isBlD_bl (b : Bool) : isBlD (.bl b) = true := rfl
theorem k_isBlD_int (i : Int) : isBlD (.int i) = false := rfl
theorem k_isBlD_str (x : Str) : isBlD (.str x) = false := rfl
theorem k_isBlD_tup (ds : List DV) : isBlD (.tup ds) = false := rfl
theorem k_isBlD_lst (ds : List DV) : isBlD (.lst ds) = false := rfl
theorem k_isTupD_non  : isTupD .non = false := rfl
theorem k_isTupD_bl (b : Bool) : isTupD (.bl b) = false := rfl
theorem k_isTupD_int (i : Int) : isTupD (.int i) = false := rfl
theorem k_isTupD_str (x : Str) : isTupD (.str x) = false := rfl
theorem k_isTupD_tup (ds : List DV) : isTupD (.tup ds) = true := rfl
theorem k_isTupD_lst (ds : List DV) : isTupD (.lst ds) = false := rfl
theorem k_isStrD_non  : isStrD .non = false := rfl
theorem k_isStrD_bl (b : Bool) : isStrD (.bl b) = false := rfl
theorem k_isStrD_int (i : Int) : isStrD (.int i) = false := rfl
theorem k_isStrD_str (x : Str) : isStrD (.str x) = true := rfl
theorem k_isStrD_tup (ds : List DV) : isStrD (.tup ds) = false := rfl
theorem k_isStrD_lst (ds : List DV) : isStrD (.lst ds) = false := rfl
theorem isa_obj (c : Str) (ns : List Str) (ds : List DV) : isaD c (.obj c ns ds) = true := decide_eq_true rfl
theorem iso_obj (c : Str) (ns : List Str) (ds : List DV) : isaOk (.obj c ns ds) = true := rfl
theorem mk_outs {d : DV} {P : DV → Prop} : (∃ d0, ∃ os : List DV, [d] = d0 :: os ∧ P d0) = P d := by
  apply propext
  constructor
  · rintro ⟨d0, os, e, h⟩; cases e; exact h
  · intro h; exact ⟨d, [], rfl, h⟩

theorem es_lst (ds : List DV) (l h : Option Int) (k : PR → Prop) : evalSl (.lst ds) l h k = k (.nw (.lst (cutD ds l h))) := rfl
theorem es_scr (ds : List DV) (l h : Option Int) (k : PR → Prop) : evalSl (.scr ds) l h k = k (.nw (.lst (cutD ds l h))) := rfl
theorem es_tup (ds : List DV) (l h : Option Int) (k : PR → Prop) : evalSl (.tup ds) l h k = k (.it (.tup (cutD ds l h))) := rfl
theorem es_str (z : Str) (l h : Option Int) (k : PR → Prop) : evalSl (.str z) l h k = (z.length ≤ sizeLine ∧ k (.it (.str (cutS z l h)))) := rfl
theorem of_it (d : DV) : ofPR (.it d) = .val d := rfl
theorem of_nw (d : DV) : ofPR (.nw d) = .tmp d := rfl
theorem sd_val (d : DV) : slotD (some (.val d)) = some d := rfl
theorem sd_own (t : Option Nat) (d : DV) : slotD (some (.own t d)) = some d := rfl
theorem ct_val (ρ : Rho) (d : DV) : cont ρ (.val d) = some d := rfl
theorem ct_tmp (ρ : Rho) (d : DV) : cont ρ (.tmp d) = some d := rfl
theorem ct_loc (ρ : Rho) (i : Nat) : cont ρ (.loc i) = slotD ρ[i]? := rfl
theorem cs_nil (ρ : Rho) : conts ρ [] = some [] := rfl
theorem cs_cons {ρ : Rho} {r : Res} {rs : List Res} {d : DV} (h : cont ρ r = some d) : conts ρ (r :: rs) = (conts ρ rs).map (d :: ·) := by
  show (match cont ρ r, conts ρ rs with
    | some d, some ds => some (d :: ds)
    | _, _ => none) = _
  rw [h]
  cases conts ρ rs <;> rfl
theorem cs_val (ρ : Rho) (d : DV) (rs : List Res) : conts ρ (.val d :: rs) = (conts ρ rs).map (d :: ·) := cs_cons rfl
theorem cs_tmp (ρ : Rho) (d : DV) (rs : List Res) : conts ρ (.tmp d :: rs) = (conts ρ rs).map (d :: ·) := cs_cons rfl
theorem cs_loc (ρ : Rho) (i : Nat) (rs : List Res) : conts ρ (.loc i :: rs) = (slotD ρ[i]?).bind fun d => (conts ρ rs).map (d :: ·) := by
  show (match slotD ρ[i]?, conts ρ rs with
    | some d, some ds => some (d :: ds)
    | _, _ => none) = _
  cases slotD ρ[i]? <;> cases conts ρ rs <;> rfl
theorem cp_val (d : DV) (ρ : Rho) (k : DV → Rho → Prop) : cap (.val d) ρ k = k d ρ := rfl
theorem cp_tmp (d : DV) (ρ : Rho) (k : DV → Rho → Prop) : cap (.tmp d) ρ k = k d ρ := rfl
theorem cp_loc (i : Nat) (ρ : Rho) (k : DV → Rho → Prop) : cap (.loc i) ρ k = (match ρ[i]? with
    | some (.val d) => k d ρ
    | some (.own none d) => k d (ρ.set i (.val d))
    | _ => False) := rfl
theorem g0 (s : Slot) (ρ : Rho) : (s :: ρ)[0]? = some s := rfl
theorem gs (s : Slot) (ρ : Rho) (n : Nat) : (s :: ρ)[n + 1]? = ρ[n]? := rfl
theorem bd_tmp (i : Nat) (d : DV) (ρ : Rho) (k : Rho → Prop) : bindR i (.tmp d) ρ k = k (ρ.set i (.own none d)) := rfl
theorem bd_val (i : Nat) (d : DV) (ρ : Rho) (k : Rho → Prop) : bindR i (.val d) ρ k = k (ρ.set i (.val d)) := rfl
theorem bd_loc (i j : Nat) (ρ : Rho) (k : Rho → Prop) : bindR i (.loc j) ρ k = cap (.loc j) ρ fun d ρ1 => k (ρ1.set i (.val d)) := rfl
theorem st0 (s t : Slot) (ρ : Rho) : (s :: ρ).set 0 t = t :: ρ := rfl
theorem sts (s t : Slot) (ρ : Rho) (n : Nat) : (s :: ρ).set (n + 1) t = s :: ρ.set n t := rfl
theorem r1_loc (i : Nat) (ρ : Rho) (k : Res → Rho → Prop) : res1 (.loc i) ρ k = cap (.loc i) ρ fun d ρ1 => k (.val d) ρ1 := rfl
theorem r1_val (d : DV) (ρ : Rho) (k : Res → Rho → Prop) : res1 (.val d) ρ k = k (.val d) ρ := rfl
theorem r1_tmp (d : DV) (ρ : Rho) (k : Res → Rho → Prop) : res1 (.tmp d) ρ k = k (.tmp d) ρ := rfl
theorem b1_tmp (i : Nat) (d : DV) (ρ : Rho) : bind1 i (.tmp d) ρ = ρ.set i (.own none d) := rfl
theorem b1_val (i : Nat) (d : DV) (ρ : Rho) : bind1 i (.val d) ρ = ρ.set i (.val d) := rfl
theorem ex_some {α : Type} {a : α} {P : α → Prop} : (∃ b, some a = some b ∧ P b) = P a := by simp
theorem ob_map {α β : Type} (a : α) (f : α → β) : (some a).map f = some (f a) := rfl
theorem ob_bind {α β : Type} (a : α) (f : α → Option β) : (some a).bind f = f a := rfl
theorem br_t (P Q : Prop) : branch true P Q = P := branch_t
theorem br_f (P Q : Prop) : branch false P Q = Q := branch_f
theorem br_not (b : Bool) (P Q : Prop) : branch (!b) P Q = branch b Q P := by
  cases b <;> simp [branch_t, branch_f]
theorem fw_nx (m : Nat) (k : Bool → DV → List DV → Prop) (ρ : Rho) : finW m k .nx ρ = ∃ outs, outsOf 0 m ρ = some outs ∧ k false .non outs := rfl
theorem fw_val (m : Nat) (k : Bool → DV → List DV → Prop) (ρ : Rho) (d : DV) : finW m k (.rt (.val d)) ρ = ∃ outs, outsOf 0 m ρ = some outs ∧ k false d outs := rfl
theorem fw_tmp (m : Nat) (k : Bool → DV → List DV → Prop) (ρ : Rho) (d : DV) : finW m k (.rt (.tmp d)) ρ = ∃ outs, outsOf 0 m ρ = some outs ∧ k true d outs := rfl
theorem fw_loc (m : Nat) (k : Bool → DV → List DV → Prop) (ρ : Rho) (i : Nat) : finW m k (.rt (.loc i)) ρ = ∃ outs, outsOf 0 m ρ = some outs ∧ (match ρ[i]? with
    | some (.val d) => k false d outs
    | some (.own none d) => k true d outs
    | _ => False) := rfl
theorem rs_t (d : DV) : resOf true d = .tmp d := rfl
theorem rs_f (d : DV) : resOf false d = .val d := rfl
theorem oo_0 (t : Nat) (ρ : Rho) : outsOf t 0 ρ = some [] := rfl
/-- a loop by an invariant -/
theorem for_drop {f : DV → Rho → (Flow → Rho → Prop) → Prop} {k : Flow → Rho → Prop} {all : List DV} (I : Nat → Rho → Prop)
    (step : ∀ i d ρ (K : Rho → Prop), all[i]? = some d → I i ρ → (∀ ρ1, I (i + 1) ρ1 → K ρ1) → f d ρ fun fl ρ1 => match fl with
      | .nx => K ρ1
      | .ct => K ρ1
      | .bk => k .nx ρ1
      | .rt r => k (.rt r) ρ1) (fin : ∀ ρ, I all.length ρ → k .nx ρ) : ∀ (ds : List DV) (i : Nat) (ρ : Rho), all.drop i = ds → i ≤ all.length → I i ρ → forW f ds ρ k
  | [], i, ρ, e, hi, h => by
    have : all.length ≤ i := List.drop_eq_nil_iff.mp e
    have : i = all.length := by omega
    subst this
    exact fin ρ h
  | d :: ds, i, ρ, e, hi, h => by
    have hd : all[i]? = some d := by
      have : (all.drop i)[0]? = some d := by rw [e]; rfl
      rw [List.getElem?_drop] at this
      simpa using this
    have hi' : i < all.length := (List.getElem?_eq_some_iff.mp hd).1
    have e' : all.drop (i + 1) = ds := by
      rw [← List.drop_drop, e]; rfl
    exact step i d ρ (fun ρ1 => forW f ds ρ1 k) hd h fun ρ1 h1 => for_drop I step fin ds (i + 1) ρ1 e' hi' h1
theorem for_inv {f : DV → Rho → (Flow → Rho → Prop) → Prop} {k : Flow → Rho → Prop} {all : List DV} {ρ : Rho} (I : Nat → Rho → Prop) (h0 : I 0 ρ)
    (step : ∀ i d ρ (K : Rho → Prop), all[i]? = some d → I i ρ → (∀ ρ1, I (i + 1) ρ1 → K ρ1) → f d ρ fun fl ρ1 => match fl with
      | .nx => K ρ1
      | .ct => K ρ1
      | .bk => k .nx ρ1
      | .rt r => k (.rt r) ρ1) (fin : ∀ ρ, I all.length ρ → k .nx ρ) : forW f all ρ k :=
  for_drop I step fin all 0 ρ rfl (Nat.zero_le _) h0
/-- a comprehension by an invariant -/
theorem lc_drop {f : DV → Rho → (Option DV → Rho → Prop) → Prop} {k : List DV → Rho → Prop} {all : List DV} (I : Nat → List DV → Rho → Prop)
    (step : ∀ i d ρ acc (K : Option DV → Rho → Prop), all[i]? = some d → I i acc ρ → (∀ o ρ1, I (i + 1) (acc ++ o.toList) ρ1 → K o ρ1) → f d ρ K) (fin : ∀ acc ρ, I all.length acc ρ → k acc ρ) :
    ∀ (ds : List DV) (i : Nat) (acc : List DV) (ρ : Rho), all.drop i = ds → i ≤ all.length → I i acc ρ → lcW f ds ρ acc k
  | [], i, acc, ρ, e, hi, h => by
    have : all.length ≤ i := List.drop_eq_nil_iff.mp e
    have : i = all.length := by omega
    subst this
    exact fin acc ρ h
  | d :: ds, i, acc, ρ, e, hi, h => by
    have hd : all[i]? = some d := by
      have : (all.drop i)[0]? = some d := by rw [e]; rfl
      rw [List.getElem?_drop] at this
      simpa using this
    have hi' : i < all.length := (List.getElem?_eq_some_iff.mp hd).1
    have e' : all.drop (i + 1) = ds := by
      rw [← List.drop_drop, e]; rfl
    exact step i d ρ acc (fun o ρ1 => lcW f ds ρ1 (acc ++ o.toList) k) hd h fun o ρ1 h1 => lc_drop I step fin ds (i + 1) (acc ++ o.toList) ρ1 e' hi' h1
theorem lc_inv {f : DV → Rho → (Option DV → Rho → Prop) → Prop} {k : List DV → Rho → Prop} {all : List DV} {ρ : Rho} (I : Nat → List DV → Rho → Prop) (h0 : I 0 [] ρ)
    (step : ∀ i d ρ acc (K : Option DV → Rho → Prop), all[i]? = some d → I i acc ρ → (∀ o ρ1, I (i + 1) (acc ++ o.toList) ρ1 → K o ρ1) → f d ρ K) (fin : ∀ acc ρ, I all.length acc ρ → k acc ρ) : lcW f all ρ [] k :=
  lc_drop I step fin all 0 [] ρ rfl (Nat.zero_le _) h0
end EV

set_option maxRecDepth 100000
set_option maxHeartbeats 4000000
/-! EV 21: data compared; lists of iL. -/
namespace EV
open PySem L2
theorem tr_bl (b : Bool) : truth (.bl b) = some b := rfl
theorem tr_int (i : Int) : truth (.int i) = some (i != 0) := rfl
theorem tr_non : truth .non = some false := rfl
theorem tr_tup (ds : List DV) : truth (.tup ds) = some (!ds.isEmpty) := rfl
theorem tr_lst (ds : List DV) : truth (.lst ds) = some (!ds.isEmpty) := rfl
theorem lc_nil (f : DV → Rho → (Option DV → Rho → Prop) → Prop) (ρ : Rho) (acc : List DV) (k : List DV → Rho → Prop) : lcW f [] ρ acc k = k acc ρ := rfl
theorem lc_cons (f : DV → Rho → (Option DV → Rho → Prop) → Prop) (d : DV) (ds : List DV) (ρ : Rho) (acc : List DV) (k : List DV → Rho → Prop) : lcW f (d :: ds) ρ acc k = f d ρ fun o ρ1 => lcW f ds ρ1 (acc ++ o.toList) k := rfl
theorem bk_lst (ds : List DV) (P Q : Prop) : byKind (some (.lst ds)) P Q = P := rfl
theorem bk_tup (ds : List DV) (P Q : Prop) : byKind (some (.tup ds)) P Q = Q := rfl
theorem sk_lst (ds : List DV) (P Q R : Prop) (S : Str → Prop) : seqK (some (.lst ds)) P Q R S = P := rfl
theorem sk_tup (ds : List DV) (P Q R : Prop) (S : Str → Prop) : seqK (some (.tup ds)) P Q R S = Q := rfl
theorem sk_scr (ds : List DV) (P Q R : Prop) (S : Str → Prop) : seqK (some (.scr ds)) P Q R S = R := rfl
theorem sk_str (z : Str) (P Q R : Prop) (S : Str → Prop) : seqK (some (.str z)) P Q R S = S z := rfl
theorem so_scr (ds : List DV) : scrOf (.scr ds) = some ds := rfl
theorem lo_lst (ds : List DV) : lstOf (.lst ds) = some ds := rfl
theorem to_tup (ds : List DV) : tupOf (.tup ds) = some ds := rfl
theorem el_lst (ds : List DV) : enumL (.lst ds) = some (pairsE ds) := rfl
theorem et_tup (ds : List DV) : enumT (.tup ds) = some (pairsE ds) := rfl
theorem sy_val (d : DV) (a b : Rho) : stays (.val d) a b = True := rfl
theorem sy_tmp (d : DV) (a b : Rho) : stays (.tmp d) a b = True := rfl
theorem sy_loc (i : Nat) (a b : Rho) : stays (.loc i) a b = (slotD b[i]? = slotD a[i]?) := rfl
theorem n_0 : ((0 : Nat) : Int) = 0 := rfl
theorem n_1 : ((1 : Nat) : Int) = 1 := rfl
theorem n_2 : ((2 : Nat) : Int) = 2 := rfl
theorem n_3 : ((3 : Nat) : Int) = 3 := rfl
theorem n_4 : ((4 : Nat) : Int) = 4 := rfl
theorem n_5 : ((5 : Nat) : Int) = 5 := rfl
theorem n_6 : ((6 : Nat) : Int) = 6 := rfl
theorem n_7 : ((7 : Nat) : Int) = 7 := rfl
theorem at_0 {α : Type} (a : α) (l : List α) : atI (a :: l) 0 = some a := by
  unfold atI ixN
  rw [if_pos (by decide), if_pos (by rw [List.length_cons]; omega)]; rfl
theorem at_1 {α : Type} (a b : α) (l : List α) : atI (a :: b :: l) 1 = some b := by
  unfold atI ixN
  rw [if_pos (by decide), if_pos (by rw [List.length_cons, List.length_cons]; omega)]; rfl
theorem at_2 {α : Type} (a b c : α) (l : List α) : atI (a :: b :: c :: l) 2 = some c := by
  unfold atI ixN
  rw [if_pos (by decide), if_pos (by rw [List.length_cons, List.length_cons, List.length_cons]; omega)]; rfl
theorem at_3 {α : Type} (a b c d : α) (l : List α) : atI (a :: b :: c :: d :: l) 3 = some d := by
  unfold atI ixN
  rw [if_pos (by decide), if_pos (by rw [List.length_cons, List.length_cons, List.length_cons, List.length_cons]; omega)]; rfl
theorem at_of {α : Type} {l : List α} {i : Int} {n : Nat} {x : α} (h : l[n]? = some x) (e : i = n) : atI l i = some x := by
  have hn := (List.getElem?_eq_some_iff.mp h).1
  unfold atI ixN
  rw [if_pos (by omega), if_pos (by omega)]
  show l[i.toNat]? = some x
  rw [e]; simpa using h
theorem at_neg {α : Type} {l : List α} {i : Int} {n : Nat} {x : α} (h : l[n]? = some x) (e : i + l.length = n) (hi : i < 0) : atI l i = some x := by
  have hn := (List.getElem?_eq_some_iff.mp h).1
  unfold atI ixN
  rw [if_neg (by omega), if_pos (by omega)]
  show l[(i + l.length).toNat]? = some x
  rw [e]; simpa using h
theorem ix_of {n : Nat} {i : Int} {j : Nat} (hj : j < n) (e : i = j) : ixN n i = some j := by
  unfold ixN
  rw [if_pos (by omega), if_pos (by omega), e]; simp
theorem cm_int (i : Int) : cmpb (.int i) = true := by unfold cmpb bare toD SeqAt.shaped PyData.canLay0 PyData.depth; decide
theorem cm_bl (i : Bool) : cmpb (.bl i) = true := by unfold cmpb bare toD SeqAt.shaped PyData.canLay0 PyData.depth; decide
theorem cm_non : cmpb .non = true := by unfold cmpb bare toD SeqAt.shaped PyData.canLay0 PyData.depth; decide
theorem cm_str (x : Str) : cmpb (.str x) = PyData.strOk x := by
  unfold cmpb bare toD SeqAt.shaped PyData.canLay0 PyData.depth
  cases PyData.strOk x <;> rfl
theorem dq_int (a b : Int) : deq (.int a) (.int b) = (a == b) := by unfold deq toD PyData.eqv; rfl
theorem dq_str (a b : Str) : deq (.str a) (.str b) = (a == b) := by unfold deq toD PyData.eqv; rfl
theorem dq_bl (a b : Bool) : deq (.bl a) (.bl b) = (a == b) := by unfold deq toD PyData.eqv; rfl
theorem dq_nn : deq .non .non = true := by unfold deq toD PyData.eqv; rfl
theorem dq_in (a : Int) : deq (.int a) .non = false := by unfold deq toD PyData.eqv; rfl
theorem dq_ni (a : Int) : deq .non (.int a) = false := by unfold deq toD PyData.eqv; rfl
def iL (ns : List Int) : List DV := ns.map .int
theorem in_nil : iL [] = [] := rfl
theorem in_cons (n : Int) (ns : List Int) : iL (n :: ns) = .int n :: iL ns := rfl
theorem in_len (ns : List Int) : (iL ns).length = ns.length := by simp [iL]
theorem in_get (ns : List Int) (i : Nat) : (iL ns)[i]? = (ns[i]?).map .int := by simp [iL]
theorem in_set (ns : List Int) (i : Nat) (n : Int) : (iL ns).set i (.int n) = iL (ns.set i n) := by simp [iL, List.map_set]
theorem in_app (ns ms : List Int) : iL ns ++ iL ms = iL (ns ++ ms) := by simp [iL]
theorem in_app1 (ns : List Int) (m : Int) : iL ns ++ [.int m] = iL (ns ++ [m]) := by simp [iL]
theorem in_ints : ∀ ns : List Int, intsD (iL ns) = some ns
  | [] => rfl
  | n :: ns => by
    show (intsD (iL ns)).map (n :: ·) = _
    rw [in_ints ns]; rfl
theorem toDs_ints : ∀ ns : List Int, toDs (iL ns) = ns.map .int
  | [] => by simp [iL, toDs]
  | n :: ns => by rw [in_cons]; simp [toDs, toD, toDs_ints ns]
theorem bares_ints : ∀ ns : List Int, bares (iL ns) = true
  | [] => by simp [iL, bares]
  | n :: ns => by rw [in_cons]; simp [bares, bare, bares_ints ns]
theorem lay_ints : ∀ ns : List Int, PyData.canLayAll0 (ns.map PyData.int) = true
  | [] => by simp [PyData.canLayAll0]
  | n :: ns => by simp [PyData.canLayAll0, PyData.canLay0, lay_ints ns]
theorem depth_ints : ∀ ns : List Int, PyData.depthAll (ns.map PyData.int) = 0
  | [] => by simp [PyData.depthAll]
  | n :: ns => by simp [PyData.depthAll, PyData.depth, depth_ints ns]
theorem cm_tints (ns : List Int) : cmpb (.tup (iL ns)) = true := by
  unfold cmpb bare toD SeqAt.shaped
  rw [bares_ints, toDs_ints]
  unfold PyData.canLay0 PyData.depth
  rw [lay_ints, depth_ints]; decide
theorem cm_lints (ns : List Int) : cmpb (.lst (iL ns)) = true := by
  unfold cmpb bare toD SeqAt.shaped
  rw [bares_ints, toDs_ints]
  unfold PyData.canLay0 PyData.depth
  rw [lay_ints, depth_ints]; decide
theorem eqv_ints : ∀ ns ms : List Int, PyData.eqvAll (ns.map PyData.int) (ms.map PyData.int) = decide (ns = ms)
  | [], [] => by simp [PyData.eqvAll]
  | [], _ :: _ => by simp [PyData.eqvAll]
  | _ :: _, [] => by simp [PyData.eqvAll]
  | n :: ns, m :: ms => by
    simp only [List.map_cons, PyData.eqvAll, PyData.eqv, eqv_ints ns ms]
    by_cases h : n = m
    · subst h
      by_cases h2 : ns = ms
      · subst h2; simp
      · simp [h2]
    · simp [h]
theorem dq_tints (ns ms : List Int) : deq (.tup (iL ns)) (.tup (iL ms)) = decide (ns = ms) := by
  unfold deq toD PyData.eqv
  rw [toDs_ints, toDs_ints, eqv_ints]
theorem dq_lints (ns ms : List Int) : deq (.lst (iL ns)) (.lst (iL ms)) = decide (ns = ms) := by
  unfold deq toD PyData.eqv
  rw [toDs_ints, toDs_ints, eqv_ints]
theorem pe_len (ds : List DV) : (pairsE ds).length = ds.length := pairsE_len
theorem pe_of {ds : List DV} {i : Nat} {d : DV} (h : (pairsE ds)[i]? = some d) : ∃ e, ds[i]? = some e ∧ d = .tup [.int (i : Nat), e] := by
  unfold pairsE at h
  rw [List.getElem?_map, List.getElem?_zipIdx] at h
  cases q : ds[i]? with
  | none => rw [q] at h; cases h
  | some e => rw [q] at h; simp at h; exact ⟨e, rfl, h.symm⟩
theorem rd_of {lo : Int} {n i : Nat} {d : DV} (h : (rangeD lo n)[i]? = some d) : i < n ∧ d = .int (lo + i) := by
  unfold rangeD at h
  rw [List.getElem?_map] at h
  cases q : (List.range n)[i]? with
  | none => rw [q] at h; cases h
  | some e =>
    rw [q] at h
    have hi := (List.getElem?_eq_some_iff.mp q).1
    have : e = i := by
      have := (List.getElem?_eq_some_iff.mp q).2
      simpa using this.symm
    subst this
    simp at h hi
    exact ⟨hi, h.symm⟩
theorem rc_of {lo c : Int} {n i : Nat} {d : DV} (h : (rangeC lo c n)[i]? = some d) : i < n ∧ d = .int (lo + i * c) := by
  unfold rangeC at h
  rw [List.getElem?_map] at h
  cases q : (List.range n)[i]? with
  | none => rw [q] at h; cases h
  | some e =>
    rw [q] at h
    have hi := (List.getElem?_eq_some_iff.mp q).1
    have : e = i := by
      have := (List.getElem?_eq_some_iff.mp q).2
      simpa using this.symm
    subst this
    simp at h hi
    exact ⟨hi, h.symm⟩
theorem rd_len (lo : Int) (n : Nat) : (rangeD lo n).length = n := by simp [rangeD]
theorem rc_len (lo c : Int) (n : Nat) : (rangeC lo c n).length = n := by simp [rangeC]
end EV

set_option maxRecDepth 100000
set_option maxHeartbeats 4000000
/-! EV 22: what the small language is worth, row by row (printed by mkrows.py). -/
namespace EV
open PySem L2
/-- a loop's body, folded -/
def forF (G : Genv) (t : ITg) (b : ISs) : DV → Rho → (Flow → Rho → Prop) → Prop := fun d ρ3 k' => wpG G t (.val d) ρ3 fun ρ4 => wpSs G b ρ4 k'
def forB (G : Genv) (t : ITg) (b : ISs) (ds : List DV) (ρ : Rho) (k : Flow → Rho → Prop) : Prop := forW (forF G t b) ds ρ k
theorem forB_e (G : Genv) (t : ITg) (b : ISs) (ds : List DV) (ρ : Rho) (k : Flow → Rho → Prop) : forB G t b ds ρ k = forW (forF G t b) ds ρ k := rfl
theorem forF_e (G : Genv) (t : ITg) (b : ISs) (d : DV) (ρ : Rho) (k : Flow → Rho → Prop) : forF G t b d ρ k = wpG G t (.val d) ρ fun ρ4 => wpSs G b ρ4 k := rfl
def lcF (G : Genv) (tg : ITg) (c : IC) (e : IE) (own : List Nat) (r : Res) (ρ1 : Rho) : DV → Rho → (Option DV → Rho → Prop) → Prop := fun d ρ2 k' => wpG G tg (.val d) ρ2 fun ρ3 => wpT G c ρ3 fun t ρ4 =>
        branch t (wpE G e ρ4 fun r' ρ5 => cap r' ρ5 fun d' ρ6 => stays r ρ1 (backR ρ1 ρ6 own) ∧ k' (some d') (wipeR ρ6 own)) (stays r ρ1 (backR ρ1 ρ4 own) ∧ k' none (wipeR ρ4 own))
def lcB (G : Genv) (tg : ITg) (c : IC) (e : IE) (own : List Nat) (r : Res) (ρ1 : Rho) (ds : List DV) (ρ : Rho) (acc : List DV) (k : List DV → Rho → Prop) : Prop := lcW (lcF G tg c e own r ρ1) ds ρ acc k
theorem lcB_e (G : Genv) (tg : ITg) (c : IC) (e : IE) (own : List Nat) (r : Res) (ρ1 : Rho) (ds : List DV) (ρ : Rho) (acc : List DV) (k : List DV → Rho → Prop) : lcB G tg c e own r ρ1 ds ρ acc k = lcW (lcF G tg c e own r ρ1) ds ρ acc k := rfl
theorem lcB_nil (G : Genv) (tg : ITg) (c : IC) (e : IE) (own : List Nat) (r : Res) (ρ1 : Rho) (ρ : Rho) (acc : List DV) (k : List DV → Rho → Prop) : lcB G tg c e own r ρ1 [] ρ acc k = k acc ρ := rfl
theorem lcB_cons (G : Genv) (tg : ITg) (c : IC) (e : IE) (own : List Nat) (r : Res) (ρ1 : Rho) (d : DV) (ds : List DV) (ρ : Rho) (acc : List DV) (k : List DV → Rho → Prop) : lcB G tg c e own r ρ1 (d :: ds) ρ acc k = lcF G tg c e own r ρ1 d ρ fun o ρ2 => lcB G tg c e own r ρ1 ds ρ2 (acc ++ o.toList) k := rfl
theorem lcF_e (G : Genv) (tg : ITg) (c : IC) (e : IE) (own : List Nat) (r : Res) (ρ1 : Rho) (d : DV) (ρ2 : Rho) (k' : Option DV → Rho → Prop) : lcF G tg c e own r ρ1 d ρ2 k' = wpG G tg (.val d) ρ2 fun ρ3 => wpT G c ρ3 fun t ρ4 =>
        branch t (wpE G e ρ4 fun r' ρ5 => cap r' ρ5 fun d' ρ6 => stays r ρ1 (backR ρ1 ρ6 own) ∧ k' (some d') (wipeR ρ6 own)) (stays r ρ1 (backR ρ1 ρ4 own) ∧ k' none (wipeR ρ4 own)) := rfl
/-- a while, folded -/
def whileB (G : Genv) (c : IC) (b : ISs) (ρ : Rho) (k : Flow → Rho → Prop) : Prop := ∃ m, whileW (fun ρ1 k1 => wpT G c ρ1 k1) (fun ρ1 k1 => wpSs G b ρ1 k1) m ρ k
/-- the statements behind one -/
def thenW (G : Genv) (ss : ISs) (k : Flow → Rho → Prop) : Flow → Rho → Prop := fun fl ρ1 => match fl with
    | .nx => wpSs G ss ρ1 k
    | fl => k fl ρ1
theorem th_nx (G : Genv) (ss : ISs) (k : Flow → Rho → Prop) (ρ : Rho) : thenW G ss k .nx ρ = wpSs G ss ρ k := rfl
theorem th_rt (G : Genv) (ss : ISs) (k : Flow → Rho → Prop) (ρ : Rho) (r : Res) : thenW G ss k (.rt r) ρ = k (.rt r) ρ := rfl
theorem th_bk (G : Genv) (ss : ISs) (k : Flow → Rho → Prop) (ρ : Rho) : thenW G ss k .bk ρ = k .bk ρ := rfl
theorem th_ct (G : Genv) (ss : ISs) (k : Flow → Rho → Prop) (ρ : Rho) : thenW G ss k .ct ρ = k .ct ρ := rfl
theorem wGs_nil (G : Genv) (ρ : Rho) (k : Rho → Prop) : wpGs G .nil [] ρ k = k ρ := rfl
theorem wGs_cons (G : Genv) (t : ITg) (ts : ITgs) (d : DV) (ds : List DV) (ρ : Rho) (k : Rho → Prop) : wpGs G (.cons t ts) (d :: ds) ρ k = wpG G t (.val d) ρ fun ρ1 => wpGs G ts ds ρ1 k := rfl
/-- a loop by an invariant, its body folded -/
def loopK (K : Rho → Prop) (k : Flow → Rho → Prop) : Flow → Rho → Prop := fun fl ρ1 => match fl with
      | .nx => K ρ1
      | .ct => K ρ1
      | .bk => k .nx ρ1
      | .rt r => k (.rt r) ρ1
theorem lk_nx (K : Rho → Prop) (k : Flow → Rho → Prop) (ρ : Rho) : loopK K k .nx ρ = K ρ := rfl
theorem lk_ct (K : Rho → Prop) (k : Flow → Rho → Prop) (ρ : Rho) : loopK K k .ct ρ = K ρ := rfl
theorem lk_bk (K : Rho → Prop) (k : Flow → Rho → Prop) (ρ : Rho) : loopK K k .bk ρ = k .nx ρ := rfl
theorem lk_rt (K : Rho → Prop) (k : Flow → Rho → Prop) (ρ : Rho) (r : Res) : loopK K k (.rt r) ρ = k (.rt r) ρ := rfl
theorem forB_inv {G : Genv} {t : ITg} {b : ISs} {k : Flow → Rho → Prop} {all : List DV} {ρ : Rho} (I : Nat → Rho → Prop) (h0 : I 0 ρ)
    (step : ∀ i d ρ (K : Rho → Prop), all[i]? = some d → I i ρ → (∀ ρ1, I (i + 1) ρ1 → K ρ1) → forF G t b d ρ (loopK K k)) (fin : ∀ ρ, I all.length ρ → k .nx ρ) : forB G t b all ρ k :=
  for_inv I h0 step fin
theorem whileB_inv {G : Genv} {c : IC} {b : ISs} {k : Flow → Rho → Prop} {ρ : Rho} (I : Rho → Nat → Prop) (h0 : ∃ m, I ρ m)
    (step : ∀ ρ m (K : Rho → Prop), I ρ m → (∀ ρ1 m1, I ρ1 m1 → m1 < m → K ρ1) → wpT G c ρ fun t ρ1 => branch t (wpSs G b ρ1 (loopK K k)) (k .nx ρ1)) : whileB G c b ρ k := by
  have go : ∀ n m ρ, I ρ m → m < n → whileW (fun ρ1 k1 => wpT G c ρ1 k1) (fun ρ1 k1 => wpSs G b ρ1 k1) n ρ k := by
    intro n
    induction n with
    | zero => intro m ρ _ h; exact absurd h (Nat.not_lt_zero _)
    | succ n ih => intro m ρ hI h; exact step ρ m (fun ρ1 => whileW (fun ρ1 k1 => wpT G c ρ1 k1) (fun ρ1 k1 => wpSs G b ρ1 k1) n ρ1 k) hI fun ρ1 m1 h1 h2 => ih m1 ρ1 h1 (by omega)
  obtain ⟨m, h0⟩ := h0
  exact ⟨m + 1, go (m + 1) m ρ h0 (Nat.lt_succ_self m)⟩
theorem lcB_inv {G : Genv} {tg : ITg} {c : IC} {e : IE} {own : List Nat} {r : Res} {ρ1 : Rho} {k : List DV → Rho → Prop} {all : List DV} {ρ : Rho} (I : Nat → List DV → Rho → Prop) (h0 : I 0 [] ρ)
    (step : ∀ i d ρ acc (K : Option DV → Rho → Prop), all[i]? = some d → I i acc ρ → (∀ o ρ2, I (i + 1) (acc ++ o.toList) ρ2 → K o ρ2) → lcF G tg c e own r ρ1 d ρ K) (fin : ∀ acc ρ, I all.length acc ρ → k acc ρ) : lcB G tg c e own r ρ1 all ρ [] k :=
  lc_inv I h0 step fin
theorem wE_var (G : Genv) (i : Nat) (ρ : Rho) (k : Res → Rho → Prop) : wpE G (.var i) ρ k = ((∃ d, slotD ρ[i]? = some d) ∧ k (.loc i) ρ) := rfl
theorem wE_cst (G : Genv) (d : DV) (ρ : Rho) (k : Res → Rho → Prop) : wpE G (.cst d) ρ k = (flat d = true ∧ k (.val d) ρ) := rfl
theorem wE_glb (G : Genv) (x : Str) (ρ : Rho) (k : Res → Rho → Prop) : wpE G (.glb x) ρ k = (∃ d, G.con x = some d ∧ k (.val d) ρ) := rfl
theorem wE_prim (G : Genv) (p : Prim) (as : IEs) (ρ : Rho) (k : Res → Rho → Prop) : wpE G (.prim p as) ρ k = (wpA G as ρ fun rs ρ1 => ∃ ds, conts ρ1 rs = some ds ∧ evalP p ds fun pr => k (ofPR pr) ρ1) := rfl
theorem wE_tup (G : Genv) (as : IEs) (ρ : Rho) (k : Res → Rho → Prop) : wpE G (.tup as) ρ k = (wpA G as ρ fun rs ρ1 => capL rs ρ1 fun ds ρ2 => ds.length ≤ sizeLine ∧ k (.val (.tup ds)) ρ2) := rfl
theorem wE_lst (G : Genv) (as : IEs) (ρ : Rho) (k : Res → Rho → Prop) : wpE G (.lst as) ρ k = (wpA G as ρ fun rs ρ1 => capL rs ρ1 fun ds ρ2 => ds.length ≤ sizeLine ∧ k (.tmp (.lst ds)) ρ2) := rfl
theorem wE_ife (G : Genv) (c : IC) (a : IE) (b : IE) (ρ : Rho) (k : Res → Rho → Prop) : wpE G (.ife c a b) ρ k = (wpT G c ρ fun t ρ1 => branch t (wpE G a ρ1 k) (wpE G b ρ1 k)) := rfl
theorem wE_and2 (G : Genv) (a : IE) (b : IE) (ρ : Rho) (k : Res → Rho → Prop) : wpE G (.and2 a b) ρ k = (wpE G a ρ fun r ρ1 => ∃ c, cont ρ1 r = some (.bl c) ∧ branch c (wpE G b ρ1 k) (k (.val (.bl false)) ρ1)) := rfl
theorem wE_or2 (G : Genv) (a : IE) (b : IE) (ρ : Rho) (k : Res → Rho → Prop) : wpE G (.or2 a b) ρ k = (wpE G a ρ fun r ρ1 => ∃ c, cont ρ1 r = some (.bl c) ∧ branch c (k (.val (.bl true)) ρ1) (wpE G b ρ1 k)) := rfl
theorem wE_not1 (G : Genv) (a : IE) (ρ : Rho) (k : Res → Rho → Prop) : wpE G (.not1 a) ρ k = (wpE G a ρ fun r ρ1 => ∃ c, cont ρ1 r = some (.bl c) ∧ k (.val (.bl (!c))) ρ1) := rfl
theorem wE_chain (G : Genv) (p : Prim) (q : Prim) (a : IE) (b : IE) (c : IE) (ρ : Rho) (k : Res → Rho → Prop) : wpE G (.chain p q a b c) ρ k = (wpE G a ρ fun r1 ρ1 => wpE G b ρ1 fun r2 ρ2 => ∃ d e, cont ρ2 r1 = some d ∧ cont ρ2 r2 = some e ∧ evalP p [d, e] fun pr => ∃ t, pr = .it (.bl t) ∧ branch t (wpE G c ρ2 fun r3 ρ3 => ∃ d' f, cont ρ3 r2 = some d' ∧ cont ρ3 r3 = some f ∧ evalP q [d', f] fun pr' => k (ofPR pr') ρ3) (k (.val (.bl false)) ρ2)) := rfl
theorem wE_chain3 (G : Genv) (p : Prim) (q : Prim) (s : Prim) (a : IE) (b : IE) (c : IE) (e : IE) (ρ : Rho) (k : Res → Rho → Prop) : wpE G (.chain3 p q s a b c e) ρ k = (wpE G a ρ fun r1 ρ1 => wpE G b ρ1 fun r2 ρ2 => ∃ d1 d2, cont ρ2 r1 = some d1 ∧ cont ρ2 r2 = some d2 ∧ evalP p [d1, d2] fun pr => ∃ t, pr = .it (.bl t) ∧ branch t (wpE G c ρ2 fun r3 ρ3 => ∃ d2' d3, cont ρ3 r2 = some d2' ∧ cont ρ3 r3 = some d3 ∧ evalP q [d2', d3] fun pr' => ∃ t', pr' = .it (.bl t') ∧ branch t' (wpE G e ρ3 fun r4 ρ4 => ∃ d3' d4, cont ρ4 r3 = some d3' ∧ cont ρ4 r4 = some d4 ∧ evalP s [d3', d4] fun pr'' => k (ofPR pr'') ρ4) (k (.val (.bl false)) ρ3)) (k (.val (.bl false)) ρ2)) := rfl
theorem wE_call (G : Genv) (f : Str) (as : IEs) (ρ : Rho) (k : Res → Rho → Prop) : wpE G (.call f as) ρ k = (∃ fi, G.fns f = some fi ∧ wpA G as ρ fun rs ρ1 => callW fi rs ρ1 k) := rfl
theorem wE_callK (G : Genv) (f : Str) (ks : List Str) (bs : IEs) (ρ : Rho) (k : Res → Rho → Prop) : wpE G (.callK f ks bs) ρ k = (∃ fi ord, G.fns f = some fi ∧ G.kwo f ks = some ord ∧ wpA G bs ρ fun rs ρ1 => rs.length = ks.length ∧ passL (allVal rs) rs ρ1 fun ds ρ2 => callW fi ((permW ord ds).map .val) ρ2 k) := rfl
theorem wE_methK (G : Genv) (c : Str) (e : IE) (m : Str) (ks : List Str) (bs : IEs) (ρ : Rho) (k : Res → Rho → Prop) : wpE G (.methK c e m ks bs) ρ k = (∃ fi ord, G.meth c m = some fi ∧ G.kwo m ks = some ord ∧ wpE G e ρ fun r ρ1 => ∃ ns ds, cont ρ1 r = some (.obj c ns ds) ∧ (∀ x, x ∈ ns → ¬ m = x) ∧ wpA G bs ρ1 fun rs ρ2 => rs.length = ks.length ∧ passL (allVal rs) rs ρ2 fun ds ρ3 => callW fi (r :: (permW ord ds).map .val) ρ3 k) := rfl
theorem wE_makeK (G : Genv) (c : Str) (ks : List Str) (bs : IEs) (ρ : Rho) (k : Res → Rho → Prop) : wpE G (.makeK c ks bs) ρ k = (∃ fi ord, G.mak c = some fi ∧ G.kwo c ks = some ord ∧ wpA G bs ρ fun rs ρ1 => rs.length = ks.length ∧ passL (allVal rs) rs ρ1 fun ds ρ2 => callX fi (.tmp (.obj c [] []) :: (permW ord ds).map .val) ρ2 fun _ d outs ρ3 => d = .non ∧ ∃ d0 os, outs = d0 :: os ∧ k (.tmp d0) ρ3) := rfl
theorem wE_fld (G : Genv) (e : IE) (f : Str) (ρ : Rho) (k : Res → Rho → Prop) : wpE G (.fld e f) ρ k = (wpE G e ρ fun r ρ1 => ∃ c ns ds, cont ρ1 r = some (.obj c ns ds) ∧ ((G.isFld c f = true ∧ ∃ d, (ns.zip ds).lookup f = some d ∧ k (.val d) ρ1) ∨ ∃ fi, G.prop c f = some fi ∧ callW fi [r] ρ1 k)) := rfl
theorem wE_meth (G : Genv) (c : Str) (e : IE) (m : Str) (as : IEs) (ρ : Rho) (k : Res → Rho → Prop) : wpE G (.meth c e m as) ρ k = (∃ fi, G.meth c m = some fi ∧ wpE G e ρ fun r ρ1 => ∃ ns ds, cont ρ1 r = some (.obj c ns ds) ∧ (∀ x, x ∈ ns → ¬ m = x) ∧ wpA G as ρ1 fun rs ρ2 => callW fi (r :: rs) ρ2 k) := rfl
theorem wE_make (G : Genv) (c : Str) (as : IEs) (ρ : Rho) (k : Res → Rho → Prop) : wpE G (.make c as) ρ k = (∃ fi, G.mak c = some fi ∧ wpA G as ρ fun rs ρ1 => callX fi (.tmp (.obj c [] []) :: rs) ρ1 fun _ d outs ρ2 => d = .non ∧ ∃ d0 os, outs = d0 :: os ∧ k (.tmp d0) ρ2) := rfl
theorem wE_slc (G : Genv) (e : IE) (lo : IO) (hi : IO) (ρ : Rho) (k : Res → Rho → Prop) : wpE G (.slc e lo hi) ρ k = (wpE G e ρ fun r ρ1 => wpO G lo ρ1 fun l ρ2 => wpO G hi ρ2 fun h ρ3 => ∃ d, cont ρ3 r = some d ∧ evalSl d l h fun pr => k (ofPR pr) ρ3) := rfl
theorem wE_lc (G : Genv) (it : IT) (tg : ITg) (c : IC) (e : IE) (own : List Nat) (ρ : Rho) (k : Res → Rho → Prop) : wpE G (.lc it tg c e own) ρ k = (wpI G it ρ fun r f ρ1 => ∃ d0 ds, cont ρ1 r = some d0 ∧ f d0 = some ds ∧ ds.length ≤ sizeLine ∧ plainSlots ρ1 own ∧ lcB G tg c e own r ρ1 ds (wipeR ρ1 own) [] fun ds' ρ2 => k (.tmp (.lst ds')) (backR ρ1 ρ2 own)) := rfl
theorem wE_tm (G : Genv) (p : Prim) (o : IE) (e : IE) (ρ : Rho) (k : Res → Rho → Prop) : wpE G (.tm p o e) ρ k = (wpE G o ρ fun r ρ1 => (∃ z, cont ρ1 r = some (.str z)) ∧ wpE G e ρ1 fun r' ρ2 => ∃ ds, conts ρ2 [r, r'] = some ds ∧ evalP p ds fun pr => k (ofPR pr) ρ2) := rfl
theorem wE_isC (G : Genv) (c : Str) (e : IE) (ρ : Rho) (k : Res → Rho → Prop) : wpE G (.isC c e) ρ k = (G.isc c = true ∧ wpE G e ρ fun r ρ1 => ∃ d, cont ρ1 r = some d ∧ isaOk d = true ∧ k (.val (.bl (isaD c d))) ρ1) := rfl
theorem wE_makeS (G : Genv) (c : Str) (e : IE) (ρ : Rho) (k : Res → Rho → Prop) : wpE G (.makeS c e) ρ k = (∃ fi, G.vmak c = some fi ∧ wpE G e ρ fun r ρ1 => ∃ ds, seqOf r ρ1 = some ds ∧ ds.length ≤ sizeLine ∧ callX fi [.tmp (.obj c [] []), .val (.tup ds)] ρ1 fun _ d outs ρ2 => d = .non ∧ ∃ d0 os, outs = d0 :: os ∧ k (.tmp d0) ρ2) := rfl
theorem wE_makeV (G : Genv) (c : Str) (as : IEs) (ρ : Rho) (k : Res → Rho → Prop) : wpE G (.makeV c as) ρ k = (∃ fi, G.vmak c = some fi ∧ wpA G as ρ fun rs ρ1 => capL rs ρ1 fun ds ρ2 => ds.length ≤ sizeLine ∧ callX fi [.tmp (.obj c [] []), .val (.tup ds)] ρ2 fun _ d outs ρ3 => d = .non ∧ ∃ d0 os, outs = d0 :: os ∧ k (.tmp d0) ρ3) := rfl
theorem wE_cmeth (G : Genv) (c : Str) (m : Str) (as : IEs) (ρ : Rho) (k : Res → Rho → Prop) : wpE G (.cmeth c m as) ρ k = (∃ fi, G.cmet c m = some fi ∧ wpA G as ρ fun rs ρ1 => callW fi rs ρ1 k) := rfl
theorem wA_nil (G : Genv)  (ρ : Rho) (k : List Res → Rho → Prop) : wpA G (.nil ) ρ k = (k [] ρ) := rfl
theorem wA_cons (G : Genv) (e : IE) (es : IEs) (ρ : Rho) (k : List Res → Rho → Prop) : wpA G (.cons e es) ρ k = (wpE G e ρ fun r ρ1 => wpA G es ρ1 fun rs ρ2 => k (r :: rs) ρ2) := rfl
theorem wA_star (G : Genv) (e : IE) (es : IEs) (ρ : Rho) (k : List Res → Rho → Prop) : wpA G (.star e es) ρ k = (wpE G e ρ fun r ρ1 => ∃ ds, seqOf r ρ1 = some ds ∧ wpA G es ρ1 fun rs ρ2 => k (ds.map .val ++ rs) ρ2) := rfl
theorem wO_no (G : Genv)  (ρ : Rho) (k : Option Int → Rho → Prop) : wpO G (.no ) ρ k = (k none ρ) := rfl
theorem wO_so (G : Genv) (e : IE) (ρ : Rho) (k : Option Int → Rho → Prop) : wpO G (.so e) ρ k = (wpE G e ρ fun r ρ1 => ∃ i, cont ρ1 r = some (.int i) ∧ k (some i) ρ1) := rfl
theorem wT_tt (G : Genv)  (ρ : Rho) (k : Bool → Rho → Prop) : wpT G (.tt ) ρ k = (k true ρ) := rfl
theorem wT_and2 (G : Genv) (a : IC) (b : IC) (ρ : Rho) (k : Bool → Rho → Prop) : wpT G (.and2 a b) ρ k = (wpT G a ρ fun c ρ1 => branch c (wpT G b ρ1 k) (k false ρ1)) := rfl
theorem wT_or2 (G : Genv) (a : IC) (b : IC) (ρ : Rho) (k : Bool → Rho → Prop) : wpT G (.or2 a b) ρ k = (wpT G a ρ fun c ρ1 => branch c (k true ρ1) (wpT G b ρ1 k)) := rfl
theorem wT_not1 (G : Genv) (a : IC) (ρ : Rho) (k : Bool → Rho → Prop) : wpT G (.not1 a) ρ k = (wpT G a ρ fun c ρ1 => k (!c) ρ1) := rfl
theorem wT_val (G : Genv) (e : IE) (ρ : Rho) (k : Bool → Rho → Prop) : wpT G (.val e) ρ k = (wpE G e ρ fun r ρ1 => ∃ d b, cont ρ1 r = some d ∧ truth d = some b ∧ k b ρ1) := rfl
theorem wG_nm (G : Genv) (i : Nat) (r : Res) (ρ : Rho) (k : Rho → Prop) : wpG G (.nm i) r ρ k = (bindR i r ρ k) := rfl
theorem wG_sub (G : Genv) (o : IE) (i : IE) (r : Res) (ρ : Rho) (k : Rho → Prop) : wpG G (.sub o i) r ρ k = (wpE G o ρ fun ro ρ1 => wpE G i ρ1 fun ri ρ2 => cap r ρ2 fun d ρ3 => ∃ l t ds z j, ro = .loc l ∧ ρ3[l]? = some (.own t (.lst ds)) ∧ cont ρ3 ri = some (.int z) ∧ ixN ds.length z = some j ∧ k (ρ3.set l (.own t (.lst (ds.set j d))))) := rfl
theorem wG_fld (G : Genv) (o : IE) (f : Str) (r : Res) (ρ : Rho) (k : Rho → Prop) : wpG G (.fld o f) r ρ k = (False) := rfl
theorem wG_tp (G : Genv) (ts : ITgs) (r : Res) (ρ : Rho) (k : Rho → Prop) : wpG G (.tp ts) r ρ k = (∃ ds, seqOf r ρ = some ds ∧ ds.length = tgN ts ∧ wpGs G ts ds ρ k) := rfl
theorem wI_seq (G : Genv) (e : IE) (ρ : Rho) (k : Res → (DV → Option (List DV)) → Rho → Prop) : wpI G (.seq e) ρ k = (wpE G e ρ fun r ρ1 => seqK (cont ρ1 r) (k r lstOf ρ1) (k r tupOf ρ1) (k r scrOf ρ1) fun z => k (.val .non) (fun _ => some (charsD z)) ρ1) := rfl
theorem wI_range1 (G : Genv) (a : IE) (ρ : Rho) (k : Res → (DV → Option (List DV)) → Rho → Prop) : wpI G (.range1 a) ρ k = (wpE G a ρ fun r ρ1 => ∃ j, cont ρ1 r = some (.int j) ∧ -(2 ^ 62) ≤ j ∧ j < 2 ^ 62 ∧ k (.val .non) (fun _ => some (rangeD 0 j.toNat)) ρ1) := rfl
theorem wI_range2 (G : Genv) (a : IE) (b : IE) (ρ : Rho) (k : Res → (DV → Option (List DV)) → Rho → Prop) : wpI G (.range2 a b) ρ k = (wpE G a ρ fun r ρ1 => wpE G b ρ1 fun s ρ2 => ∃ i j, cont ρ2 r = some (.int i) ∧ cont ρ2 s = some (.int j) ∧ (-(2 ^ 62) ≤ i ∧ i < 2 ^ 62 ∧ -(2 ^ 62) ≤ j ∧ j < 2 ^ 62) ∧ k (.val .non) (fun _ => some (rangeD i (j - i).toNat)) ρ2) := rfl
theorem wI_range3 (G : Genv) (a : IE) (b : IE) (c : IE) (ρ : Rho) (k : Res → (DV → Option (List DV)) → Rho → Prop) : wpI G (.range3 a b c) ρ k = (wpE G a ρ fun r ρ1 => wpE G b ρ1 fun s ρ2 => wpE G c ρ2 fun t ρ3 => ∃ i j, cont ρ3 r = some (.int i) ∧ cont ρ3 s = some (.int j) ∧ cont ρ3 t = some (.int (-1)) ∧ (-(2 ^ 62) ≤ i ∧ i < 2 ^ 62 ∧ -(2 ^ 62) ≤ j ∧ j < 2 ^ 62) ∧ k (.val .non) (fun _ => some (rangeC i (-1) (i - j).toNat)) ρ3) := rfl
theorem wI_enum (G : Genv) (e : IE) (ρ : Rho) (k : Res → (DV → Option (List DV)) → Rho → Prop) : wpI G (.enum e) ρ k = (wpE G e ρ fun r ρ1 => byKind (cont ρ1 r) (k r enumL ρ1) (k r enumT ρ1)) := rfl
theorem wI_zip (G : Genv) (a : IE) (b : IE) (ρ : Rho) (k : Res → (DV → Option (List DV)) → Rho → Prop) : wpI G (.zip a b) ρ k = (False) := rfl
theorem wI_str (G : Genv) (e : IE) (ρ : Rho) (k : Res → (DV → Option (List DV)) → Rho → Prop) : wpI G (.str e) ρ k = (wpE G e ρ fun r ρ1 => ∃ z, cont ρ1 r = some (.str z) ∧ k (.val .non) (fun _ => some (z.cps.toList.map fun c => .str ⟨#[c]⟩)) ρ1) := rfl
theorem wS_asg (G : Genv) (t : ITg) (e : IE) (ρ : Rho) (k : Flow → Rho → Prop) : wpS G (.asg t e) ρ k = (wpE G e ρ fun r ρ1 => wpG G t r ρ1 fun ρ2 => k .nx ρ2) := rfl
theorem wS_setF (G : Genv) (o : IE) (f : Str) (e : IE) (ρ : Rho) (k : Flow → Rho → Prop) : wpS G (.setF o f e) ρ k = (wpE G e ρ fun r ρ1 => wpE G o ρ1 fun ro ρ2 => cap r ρ2 fun d ρ3 => ∃ l t c ns ds, ro = .loc l ∧ ρ3[l]? = some (.own t (.obj c ns ds)) ∧ G.isFld c f = true ∧ ns.length < 1000 ∧ k .nx (ρ3.set l (.own t (.obj c (putN f ns) (putD f d ns ds))))) := rfl
theorem wS_par2 (G : Genv) (i : Nat) (j : Nat) (a : IE) (b : IE) (ρ : Rho) (k : Flow → Rho → Prop) : wpS G (.par2 i j a b) ρ k = (wpE G a ρ fun r1 ρ1 => wpE G b ρ1 fun r2 ρ2 => res1 r1 ρ2 fun s1 ρ3 => res1 r2 ρ3 fun s2 ρ4 => k .nx (bind1 j s2 (bind1 i s1 ρ4))) := rfl
theorem wS_par3 (G : Genv) (i : Nat) (j : Nat) (l : Nat) (a : IE) (b : IE) (c : IE) (ρ : Rho) (k : Flow → Rho → Prop) : wpS G (.par3 i j l a b c) ρ k = (wpE G a ρ fun r1 ρ1 => wpE G b ρ1 fun r2 ρ2 => wpE G c ρ2 fun r3 ρ3 => res1 r1 ρ3 fun s1 ρ4 => res1 r2 ρ4 fun s2 ρ5 => res1 r3 ρ5 fun s3 ρ6 => k .nx (bind1 l s3 (bind1 j s2 (bind1 i s1 ρ6)))) := rfl
theorem wS_aug (G : Genv) (i : Nat) (neg : Bool) (e : IE) (ρ : Rho) (k : Flow → Rho → Prop) : wpS G (.aug i neg e) ρ k = ((∃ d0, slotD ρ[i]? = some d0) ∧ wpE G e ρ fun r ρ1 => ∃ a b, slotD ρ1[i]? = some (.int a) ∧ cont ρ1 r = some (.int b) ∧ k .nx (ρ1.set i (.val (.int (if neg then a - b else a + b))))) := rfl
theorem wS_app (G : Genv) (o : IE) (v : IE) (ρ : Rho) (k : Flow → Rho → Prop) : wpS G (.app o v) ρ k = (wpE G o ρ fun ro ρ1 => (∃ ds, cont ρ1 ro = some (.lst ds)) ∧ wpE G v ρ1 fun rv ρ2 => cap rv ρ2 fun d ρ3 => ∃ l t ds, ro = .loc l ∧ ρ3[l]? = some (.own t (.lst ds)) ∧ ds.length < sizeLine ∧ k .nx (ρ3.set l (.own t (.lst (ds ++ [d]))))) := rfl
theorem wS_ext (G : Genv) (o : IE) (v : IE) (ρ : Rho) (k : Flow → Rho → Prop) : wpS G (.ext o v) ρ k = (wpE G o ρ fun ro ρ1 => (∃ ds, cont ρ1 ro = some (.lst ds)) ∧ wpE G v ρ1 fun rv ρ2 => ∃ l t ds es, ro = .loc l ∧ ρ2[l]? = some (.own t (.lst ds)) ∧ cont ρ2 rv = some (.lst es) ∧ ds.length + es.length ≤ sizeLine ∧ k .nx (ρ2.set l (.own t (.lst (ds ++ es))))) := rfl
theorem wS_ins (G : Genv) (o : IE) (i : IE) (v : IE) (ρ : Rho) (k : Flow → Rho → Prop) : wpS G (.ins o i v) ρ k = (wpE G o ρ fun ro ρ1 => (∃ ds, cont ρ1 ro = some (.lst ds)) ∧ wpE G i ρ1 fun ri ρ2 => wpE G v ρ2 fun rv ρ3 => ∃ z, cont ρ3 ri = some (.int z) ∧ 0 ≤ z ∧ z < 2 ^ 63 ∧ cap rv ρ3 fun d ρ4 => ∃ l t ds, ro = .loc l ∧ ρ4[l]? = some (.own t (.lst ds)) ∧ ds.length < sizeLine ∧ k .nx (ρ4.set l (.own t (.lst (ds.take z.toNat ++ [d] ++ ds.drop z.toNat))))) := rfl
theorem wS_pop (G : Genv) (o : IE) (ρ : Rho) (k : Flow → Rho → Prop) : wpS G (.pop o) ρ k = (False) := rfl
theorem wS_expr (G : Genv) (e : IE) (ρ : Rho) (k : Flow → Rho → Prop) : wpS G (.expr e) ρ k = (wpE G e ρ fun _ ρ1 => k .nx ρ1) := rfl
theorem wS_ife (G : Genv) (c : IC) (a : ISs) (b : ISs) (ρ : Rho) (k : Flow → Rho → Prop) : wpS G (.ife c a b) ρ k = (wpT G c ρ fun t ρ1 => branch t (wpSs G a ρ1 k) (wpSs G b ρ1 k)) := rfl
theorem wS_for (G : Genv) (it : IT) (t : ITg) (b : ISs) (ρ : Rho) (k : Flow → Rho → Prop) : wpS G (.for it t b) ρ k = (wpI G it ρ fun r f ρ1 => cap r ρ1 fun d0 ρ2 => ∃ ds, f d0 = some ds ∧ forB G t b ds ρ2 k) := rfl
theorem wS_while (G : Genv) (c : IC) (b : ISs) (ρ : Rho) (k : Flow → Rho → Prop) : wpS G (.while c b) ρ k = (whileB G c b ρ k) := rfl
theorem wS_ret (G : Genv) (e : IE) (ρ : Rho) (k : Flow → Rho → Prop) : wpS G (.ret e) ρ k = (wpE G e ρ fun r ρ1 => k (.rt r) ρ1) := rfl
theorem wS_retN (G : Genv)  (ρ : Rho) (k : Flow → Rho → Prop) : wpS G (.retN ) ρ k = (k (.rt (.val .non)) ρ) := rfl
theorem wS_brk (G : Genv)  (ρ : Rho) (k : Flow → Rho → Prop) : wpS G (.brk ) ρ k = (k .bk ρ) := rfl
theorem wS_cnt (G : Genv)  (ρ : Rho) (k : Flow → Rho → Prop) : wpS G (.cnt ) ρ k = (k .ct ρ) := rfl
theorem wS_pass (G : Genv)  (ρ : Rho) (k : Flow → Rho → Prop) : wpS G (.pass ) ρ k = (k .nx ρ) := rfl
theorem wS_never (G : Genv)  (ρ : Rho) (k : Flow → Rho → Prop) : wpS G (.never ) ρ k = (False) := rfl
theorem wSs_nil (G : Genv)  (ρ : Rho) (k : Flow → Rho → Prop) : wpSs G (.nil ) ρ k = (k .nx ρ) := rfl
theorem wSs_cons (G : Genv) (s : IS) (ss : ISs) (ρ : Rho) (k : Flow → Rho → Prop) : wpSs G (.cons s ss) ρ k = (wpS G s ρ (thenW G ss k)) := rfl
end EV

set_option maxRecDepth 100000
set_option maxHeartbeats 4000000
/-! EV 23: the defs, one behind the other; the law's end. -/
namespace EV
open PySem L2
def Genv.addFn (G : Genv) (f : Str) (fi : FI) : Genv := { G with fns := fun x => if x = f then some fi else G.fns x }
def Genv.addProp (G : Genv) (c f : Str) (fi : FI) : Genv := { G with prop := fun y x => if y = c ∧ x = f then some fi else G.prop y x }
def Genv.addMeth (G : Genv) (c f : Str) (fi : FI) : Genv := { G with meth := fun y x => if y = c ∧ x = f then some fi else G.meth y x }
def Genv.addV (G : Genv) (c : Str) (fi : FI) : Genv := { G with vmak := fun y => if y = c then some fi else G.vmak y }
def Genv.addCm (G : Genv) (c f : Str) (fi : FI) : Genv := { G with cmet := fun y x => if y = c ∧ x = f then some fi else G.cmet y x }
def Genv.addMak (G : Genv) (c : Str) (fi : FI) : Genv := { G with mak := fun y => if y = c then some fi else G.mak y }
section
variable {P : Program} {w : World} {K : PySem.W.Frag} {mg : Str → Option Value} {base : Heap} {G : Genv} {W : Wd} {mc : Str → Option Str} {N : List Str} {L : Nat}
theorem Stat.up (S : Stat G W L P w K mg base) {M : Nat} (h : L ≤ M) : Stat G W M P w K mg base where
  hK := S.hK
  hblt := S.hblt
  hcon := S.hcon
  hfns := fun f fi e => by
    obtain ⟨fa, fd, ps, a, b, c, d⟩ := S.hfns f fi e
    exact ⟨fa, fd, ps, a, b, c.mono h, d⟩
  hcls := S.hcls
  hfld := S.hfld
  hprop := fun c C f fi e1 e2 => by
    obtain ⟨p, g, fd, ps, a, b, d⟩ := S.hprop c C f fi e1 e2
    exact ⟨p, g, fd, ps, a, b.mono h, d⟩
  hmeth := fun c m fi e => by
    obtain ⟨C, g, fd, ps, a, b, c, d⟩ := S.hmeth c m fi e
    exact ⟨C, g, fd, ps, a, b, c.mono h, d⟩
  hmak := fun c fi e => by
    obtain ⟨C, g, fd, ps, ms, a, b, c, d, f, i⟩ := S.hmak c fi e
    exact ⟨C, g, fd, ps, ms, a, b, c, d, f.mono h, i⟩
  hisc := S.hisc
  hvmak := fun c fi e => by
    obtain ⟨C, g, a, b, d, i, F⟩ := S.hvmak c fi e
    exact ⟨C, g, a, b, d, i, F.mono h⟩
  hcmet := fun c m fi e => by
    obtain ⟨C, mv, p, g, a, b, d, F⟩ := S.hcmet c m fi e
    exact ⟨C, mv, p, g, a, b, d, F.mono h⟩
/-- one more def -/
theorem Stat.addFn (S : Stat G W L P w K mg base) {x qual : Str} {st : Stmt} {f : Addr} {fd : FuncData} {ps : List Str} {fi : FI} {body : ISs} {fuel : Nat} (Fn : Fun K x qual st f fd) (hg : mg x = some (.ref f)) (Sc : FnScope N ps (defScope st)) (hm : fi.modes.length = ps.length) (hn : ps.length ≤ N.length)
    (hc : compSs fuel mc N (defScope st) (defBody st) = some body) (vc : ∀ ds k, ds.length = fi.modes.length → fi.spec ds k → wpSs G body (rhoI N.length fi.modes ds) (finW (nref fi.modes) k)) (hb : Binds K fd ps []) (hk : ∀ ks ord, G.kwo x ks = some ord → KBn K fd ps 0 ks (gK ord) (gK ord)) : Stat (G.addFn x fi) W (L + 2) P w K mg base :=
  have S2 := S.up (M := L + 2) (Nat.le_add_right _ _)
  { hK := S2.hK, hblt := S2.hblt, hcon := S2.hcon, hcls := S2.hcls, hfld := S2.hfld, hprop := S2.hprop, hmeth := S2.hmeth, hmak := S2.hmak, hisc := S2.hisc, hvmak := S2.hvmak, hcmet := S2.hcmet
    hfns := fun g gi e => by
      by_cases q : g = x
      · subst q
        have e : some fi = some gi := by
          have e' : (if g = g then some fi else G.fns g) = some gi := e
          rwa [if_pos rfl] at e'
        cases e
        exact ⟨f, fd, ps, hg, Fn.kp, fn_ev S Fn Sc hm hn hc vc, hb, hk⟩
      · have e' : (if g = x then some fi else G.fns g) = some gi := e
        rw [if_neg q] at e'
        exact S2.hfns g gi e' }
theorem Stat.addProp (S : Stat G W L P w K mg base) {x qual cn : Str} {st : Stmt} {f p : Addr} {fd : FuncData} {ps : List Str} {fi : FI} {body : ISs} {fuel : Nat} (Fn : Fun K x qual st f fd) (hp : ∀ C, W.cls cn = some C → PropOf K C x p f) (Sc : FnScope N ps (defScope st)) (hm : fi.modes.length = ps.length) (hn : ps.length ≤ N.length)
    (hc : compSs fuel mc N (defScope st) (defBody st) = some body) (vc : ∀ ds k, ds.length = fi.modes.length → fi.spec ds k → wpSs G body (rhoI N.length fi.modes ds) (finW (nref fi.modes) k)) (hb : Binds K fd ps []) : Stat (G.addProp cn x fi) W (L + 2) P w K mg base :=
  have S2 := S.up (M := L + 2) (Nat.le_add_right _ _)
  { hK := S2.hK, hblt := S2.hblt, hcon := S2.hcon, hcls := S2.hcls, hfld := S2.hfld, hfns := S2.hfns, hmeth := S2.hmeth, hmak := S2.hmak, hisc := S2.hisc, hvmak := S2.hvmak, hcmet := S2.hcmet
    hprop := fun c C g gi e0 e => by
      have e' : (if c = cn ∧ g = x then some fi else G.prop c g) = some gi := e
      by_cases q : c = cn ∧ g = x
      · rw [if_pos q] at e'
        cases e'
        obtain ⟨rfl, rfl⟩ := q
        exact ⟨p, f, fd, ps, hp C e0, fn_ev S Fn Sc hm hn hc vc, hb⟩
      · rw [if_neg q] at e'
        exact S2.hprop c C g gi e0 e' }
theorem Stat.addMeth (S : Stat G W L P w K mg base) {x qual cn : Str} {st : Stmt} {f C : Addr} {fd : FuncData} {ps : List Str} {fi : FI} {body : ISs} {fuel : Nat} (Fn : Fun K x qual st f fd) (hC : W.cls cn = some C) (hp : Meth K C x f) (Sc : FnScope N ps (defScope st)) (hm : fi.modes.length = ps.length) (hn : ps.length ≤ N.length)
    (hc : compSs fuel mc N (defScope st) (defBody st) = some body) (vc : ∀ ds k, ds.length = fi.modes.length → fi.spec ds k → wpSs G body (rhoI N.length fi.modes ds) (finW (nref fi.modes) k)) (hb : Binds K fd ps []) (hk : ∀ ks ord, G.kwo x ks = some ord → KBn K fd ps 1 ks (gK ord) (gK ord)) : Stat (G.addMeth cn x fi) W (L + 2) P w K mg base :=
  have S2 := S.up (M := L + 2) (Nat.le_add_right _ _)
  { hK := S2.hK, hblt := S2.hblt, hcon := S2.hcon, hcls := S2.hcls, hfld := S2.hfld, hfns := S2.hfns, hprop := S2.hprop, hmak := S2.hmak, hisc := S2.hisc, hvmak := S2.hvmak, hcmet := S2.hcmet
    hmeth := fun c g gi e => by
      have e' : (if c = cn ∧ g = x then some fi else G.meth c g) = some gi := e
      by_cases q : c = cn ∧ g = x
      · rw [if_pos q] at e'
        cases e'
        obtain ⟨rfl, rfl⟩ := q
        exact ⟨C, f, fd, ps, hC, hp, fn_ev S Fn Sc hm hn hc vc, hb, hk⟩
      · rw [if_neg q] at e'
        exact S2.hmeth c g gi e' }
theorem Stat.addMak (S : Stat G W L P w K mg base) {qual cn : Str} {st : Stmt} {f C : Addr} {fd : FuncData} {ps : List Str} {fi : FI} {ms : List Bool} {body : ISs} {fuel : Nat} (Fn : Fun K "__init__" qual st f fd) (hC : W.cls cn = some C) (hg : mg cn = some (.ref C)) (hp : Mk K C f) (hms : fi.modes = true :: ms) (Sc : FnScope N ps (defScope st)) (hm : fi.modes.length = ps.length) (hn : ps.length ≤ N.length)
    (hc : compSs fuel mc N (defScope st) (defBody st) = some body) (vc : ∀ ds k, ds.length = fi.modes.length → fi.spec ds k → wpSs G body (rhoI N.length fi.modes ds) (finW (nref fi.modes) k)) (hb : Binds K fd ps []) (hk : ∀ ks ord, G.kwo cn ks = some ord → KBn K fd ps 1 ks (gK ord) (gK ord)) : Stat (G.addMak cn fi) W (L + 2) P w K mg base :=
  have S2 := S.up (M := L + 2) (Nat.le_add_right _ _)
  { hK := S2.hK, hblt := S2.hblt, hcon := S2.hcon, hcls := S2.hcls, hfld := S2.hfld, hfns := S2.hfns, hprop := S2.hprop, hmeth := S2.hmeth, hisc := S2.hisc, hvmak := S2.hvmak, hcmet := S2.hcmet
    hmak := fun c gi e => by
      have e' : (if c = cn then some fi else G.mak c) = some gi := e
      by_cases q : c = cn
      · rw [if_pos q] at e'
        cases e'
        subst q
        exact ⟨C, f, fd, ps, ms, hC, hg, hms, hp, fn_ev S Fn Sc hm hn hc vc, hb, hk⟩
      · rw [if_neg q] at e'
        exact S2.hmak c gi e' }
theorem Stat.addV (S : Stat G W L P w K mg base) {qual cn p1 pv : Str} {st : Stmt} {f C : Addr} {fd : FuncData} {fi : FI} {ms : List Bool} {body : ISs} {fuel : Nat} (Fn : Fun K "__init__" qual st f fd) (hC : W.cls cn = some C) (hg : mg cn = some (.ref C)) (hp : Mk K C f) (hms : fi.modes = true :: ms) (Sc : FnScope N [p1, pv] (defScope st)) (hm : fi.modes.length = 2) (hn : 2 ≤ N.length)
    (hc : compSs fuel mc N (defScope st) (defBody st) = some body) (vc : ∀ ds k, ds.length = fi.modes.length → fi.spec ds k → wpSs G body (rhoI N.length fi.modes ds) (finW (nref fi.modes) k))
    (hb : ∀ (kV doc pm : Value) (an : Option Addr) (cdv ct : Value) (us rest : List Value), us.length = [p1].length → bindArgs (PySem.W.fnOf "__init__" qual (defArgs st) (defBody st) (defScope st) .none kV doc pm an cdv ct) ⟨us ++ rest, []⟩ = (newTuple rest >>= fun t => pure ([p1].zip us ++ [(pv, t)]))) : Stat (G.addV cn fi) W (L + 2) P w K mg base :=
  have S2 := S.up (M := L + 2) (Nat.le_add_right _ _)
  { hK := S2.hK, hblt := S2.hblt, hcon := S2.hcon, hcls := S2.hcls, hfld := S2.hfld, hfns := S2.hfns, hprop := S2.hprop, hmeth := S2.hmeth, hmak := S2.hmak, hisc := S2.hisc, hcmet := S2.hcmet
    hvmak := fun c gi e => by
      have e' : (if c = cn then some fi else G.vmak c) = some gi := e
      by_cases q : c = cn
      · rw [if_pos q] at e'
        cases e'
        subst q
        exact ⟨C, f, hC, hg, ⟨ms, hms⟩, hp, fn_evV S Fn Sc hm hn hc vc hb⟩
      · rw [if_neg q] at e'
        exact S2.hvmak c gi e' }
theorem Stat.addCm (S : Stat G W L P w K mg base) {x qual cn p0 : Str} {N' : List Str} {st : Stmt} {f C p : Addr} {mv : Value} {fd : FuncData} {ps : List Str} {fi : FI} {body : ISs} {fuel : Nat} (Fn : Fun K x qual st f fd) (hg : mg cn = some (.ref C)) (hr : ClX.CRead K C mv) (hcm : ClX.CMet K C mv x p f) (Sc : FnScope (p0 :: N') (p0 :: ps) (defScope st)) (hm : fi.modes.length = ps.length) (hn : ps.length ≤ N'.length)
    (hc : compSs fuel mc (p0 :: N') (defScope st) (defBody st) = some body) (vc : ∀ ds k, ds.length = fi.modes.length → fi.spec ds k → wpSs G body (.no :: rhoI N'.length fi.modes ds) (finW (nref fi.modes) k)) (hb : Binds K fd (p0 :: ps) []) : Stat (G.addCm cn x fi) W (L + 2) P w K mg base :=
  have S2 := S.up (M := L + 2) (Nat.le_add_right _ _)
  { hK := S2.hK, hblt := S2.hblt, hcon := S2.hcon, hcls := S2.hcls, hfld := S2.hfld, hfns := S2.hfns, hprop := S2.hprop, hmeth := S2.hmeth, hmak := S2.hmak, hisc := S2.hisc, hvmak := S2.hvmak
    hcmet := fun c g gi e => by
      have e' : (if c = cn ∧ g = x then some fi else G.cmet c g) = some gi := e
      by_cases q : c = cn ∧ g = x
      · rw [if_pos q] at e'
        cases e'
        obtain ⟨rfl, rfl⟩ := q
        exact ⟨C, mv, p, f, hg, hr, hcm, ((fn_evC S Fn Sc hm hn hc vc).raw hb .nil).imp fun vs H Q E h => by rw [List.append_nil]; exact h⟩
      · rw [if_neg q] at e'
        exact S2.hcmet c g gi e' }
/-- how keywords bind, a def without defaults -/
theorem KBn.of {x qual : Str} {st : Stmt} {f : Addr} {fd : FuncData} {ps ks : List Str} {n : Nat} {ord : List Nat} (F : Fun K x qual st f fd)
    (h : ∀ (kV doc pm : Value) (an : Option Addr) (cdv ct : Value) (us ws : List Value), us.length = n → ws.length = ks.length → bindArgs (PySem.W.fnOf x qual (defArgs st) (defBody st) (defScope st) .none kV doc pm an cdv ct) ⟨us, ks.zip ws⟩ = pure (ps.zip (gK ord us ws)))
    (hr : ∀ {zs : List V} {ws : List Value}, Vals zs ws → Vals (permW ord zs) (permW ord ws)) : KBn K fd ps n ks (gK ord) (gK ord) := by
  obtain ⟨oc, od, kV, doc, pm, an, cdv, ct, osl, rfl, lk, hcd⟩ := F.ex
  exact ⟨fun s us ws _ l1 l2 => .of_eq (h kV doc pm an cdv ct us ws l1 l2), fun r1 r2 => r1.append (hr r2)⟩
theorem vals_get {zs : List V} {ws : List Value} (h : Vals zs ws) (i : Nat) : (∃ z u, zs[i]? = some z ∧ ws[i]? = some u ∧ RelV z u) ∨ (zs[i]? = none ∧ ws[i]? = none) := by
  induction h generalizing i with
  | nil => exact .inr ⟨rfl, rfl⟩
  | cons r t ih =>
    cases i with
    | zero => exact .inl ⟨_, _, rfl, rfl, r⟩
    | succ i => simpa using ih i
theorem perm_vals {zs : List V} {ws : List Value} (h : Vals zs ws) : ∀ ord : List Nat, Vals (permW ord zs) (permW ord ws)
  | [] => .nil
  | i :: ord => by
    unfold permW
    rcases vals_get h i with ⟨z, u, e1, e2, r⟩ | ⟨e1, e2⟩
    · rw [List.filterMap_cons_some e1, List.filterMap_cons_some e2]
      exact .cons r (perm_vals h ord)
    · rw [List.filterMap_cons_none e1, List.filterMap_cons_none e2]
      exact perm_vals h ord
/-- a constant tuple of flat things -/
theorem con_tup {a : Addr} {o : Obj} {its : Array Value} {n : Nat} {vs : List V} {ds : List DV} (l : K.lookup a = some o) (h1 : o.cls = .type "tuple") (h2 : o.data = .seq its n) (h3 : its.size ≤ sizeLine) (h4 : Vals vs its.toList) (hK : K = W.K) (hd : ∀ Hs, Dens W Hs vs ds) :
    ∃ v u, some (Value.ref a) = some u ∧ RelV v u ∧ ∀ Hs, Den W Hs v (.tup ds) :=
  ⟨.ref a, .ref a, rfl, rfl, fun Hs => .tup (.inr ⟨o, its, n, by rw [← hK]; exact l, h1, h2, h3, h4⟩) (hd Hs)⟩
end
/-- isinstance of an own class: its answers -/
theorem kit_self {K : PySem.W.Frag} {C : Addr} : PySem.W.kitOne K (.ref C) (.ref C) = some true := by
  unfold PySem.W.kitOne
  rw [if_pos (by exact beq_self_eq_true _)]
theorem kit_cls_eq {K : PySem.W.Frag} {C : Addr} {t : Value} (h1 : PySem.W.isClsIn K C = true) (h2 : PySem.W.typeIn K (.ref C) = some (.type "type")) : PySem.W.kitCls K t (.ref C) = PySem.W.subIn K t (.ref C) := by
  show (if ((PySem.W.clsIn K C).isSome && PySem.W.typeIn K (.ref C) == some (.type "type")) = true then PySem.W.subIn K t (.ref C) else none) = _
  have e : (PySem.W.clsIn K C).isSome = true := h1
  rw [if_pos (by rw [e, h2]; rfl)]
theorem kit_bt {K : PySem.W.Frag} {C : Addr} {T : String} (h1 : PySem.W.isClsIn K C = true) (h2 : PySem.W.typeIn K (.ref C) = some (.type "type")) (h3 : PySem.W.subIn K (.type T) (.ref C) = some false) : PySem.W.kitOne K (.type T) (.ref C) = some false := by
  unfold PySem.W.kitOne
  rw [if_neg (by intro z; cases z), kit_cls_eq h1 h2, h3]
theorem kit_ne {K : PySem.W.Frag} {C C2 : Addr} (h1 : PySem.W.isClsIn K C = true) (h2 : PySem.W.typeIn K (.ref C) = some (.type "type")) (h3 : PySem.W.subIn K (.ref C2) (.ref C) = some false) (h4 : (C2 == C) = false) : PySem.W.kitOne K (.ref C2) (.ref C) = some false := by
  unfold PySem.W.kitOne
  have e : ¬ ((Value.ref C2 == Value.ref C) = true) := by
    intro z
    have z : C2 = C := by have := eq_of_beq z; injection this
    rw [z] at h4
    simp at h4
  rw [if_neg e, kit_cls_eq h1 h2, h3]
/-- what is wanted of the law: called with the script, it is true -/
def lawSp (K : PySem.W.Frag) : Sp := fun vs H Q _ => ∃ (a : Addr) (ns : List Int), vs = [.ref a] ∧ SqL K H a (ns.map V.int) ∧ ns.length ≤ 63 ∧ ∀ H', Q (.bl true) H'
def fi_law : FI := ⟨[false], fun ds k => ∃ cs : List Int, ds = [.scr (iL cs)] ∧ cs.length ≤ 63 ∧ k false (.bl true) []⟩
theorem dens_ints {W : Wd} {Hs : Hp} : ∀ ns : List Int, Dens W Hs (ns.map V.int) (iL ns)
  | [] => .nil
  | n :: ns => .cons (.int n) (dens_ints ns)
theorem law_end {W : Wd} {vs : List V} {H : Hp} {Q : VK} {E : XK} (h : lawSp W.K vs H Q E) : spOf W fi_law vs H Q E := by
  obtain ⟨a, ns, rfl, hS, hl, hQ⟩ := h
  refine ⟨H, [.scr (iL ns)], [], fun fr d outs => fr = false ∧ d = .bl true, Same.refl _, ⟨.scr hS (dens_ints ns), trivial⟩, List.nodup_nil, ⟨ns, rfl, hl, rfl, rfl⟩, ?_⟩
  rintro fr d outs v Hs' H' S ⟨rfl, rfl⟩
  have := S.val rfl
  cases this
  exact hQ _
/-- the law, from what stands behind all its defs -/
theorem law_ok {G : Genv} {W : Wd} {L : Nat} {P : Program} {w : World} {K : PySem.W.Frag} {mg : Str → Option Value} {base : Heap} (S : Stat G W L P w K mg base) {f : Addr} (hg : mg "law" = some (.ref f)) (hl : G.fns "law" = some fi_law) : ∃ fd ps, FnOk P w K mg base CX0 L f fd ps (lawSp K) := by
  obtain ⟨fa, fd, ps, h1, h2, h3, h4, h5⟩ := S.hfns _ _ hl
  rw [hg] at h1
  cases h1
  have hK := S.hK
  subst hK
  exact ⟨fd, ps, h3.imp fun vs H Q E h => law_end h⟩
end EV

set_option maxRecDepth 100000
open PySem L2 EV
namespace T
def top (i : Nat) : Stmt := PySem.Challenge.pw_drawnrings_k31_whole_order_and_nearness.main.body.getD i (.Pass ⟨0, 0, 0, 0⟩)
def mcOf (x : Str) : Option Str := if x = "Script" then some "*" else if x = "read" then some "@" else if x = "with_row" then some "Script" else none
def b_is_integer : ISs := .cons (.ret (.and2 (.prim .isInt (.cons (.var 0) .nil)) (.not1 (.prim .isBool (.cons (.var 0) .nil))))) .nil
theorem u_is_integer (G : Genv) (ρ : Rho) (k : EV.Flow → Rho → Prop) : wpSs G b_is_integer ρ k = wpS G (.ret (.and2 (.prim .isInt (.cons (.var 0) .nil)) (.not1 (.prim .isBool (.cons (.var 0) .nil))))) ρ (thenW G .nil k) := rfl
theorem c_is_integer : compSs 60 mcOf ["value"] (defScope (top 17)) (defBody (top 17)) = some b_is_integer := by kernel_rfl
def b_number_in_t_3 : ISs := .cons (.ret (.prim .int1 (.cons (.var 0) .nil))) .nil
theorem u_number_in_t_3 (G : Genv) (ρ : Rho) (k : EV.Flow → Rho → Prop) : wpSs G b_number_in_t_3 ρ k = wpS G (.ret (.prim .int1 (.cons (.var 0) .nil))) ρ (thenW G .nil k) := rfl
def b_number_in_t2a_0 : ISs := .cons (.ret (.cst .non)) .nil
theorem u_number_in_t2a_0 (G : Genv) (ρ : Rho) (k : EV.Flow → Rho → Prop) : wpSs G b_number_in_t2a_0 ρ k = wpS G (.ret (.cst .non)) ρ (thenW G .nil k) := rfl
def b_number_in_t_2 : ISs := .cons (.ife (.and2 (.val (.prim .eq (.cons (.prim .ix (.cons (.var 1) (.cons (.cst (.int 0)) .nil))) (.cons (.cst (.str "0")) .nil)))) (.val (.prim .ne (.cons (.var 0) (.cons (.cst (.str "0")) .nil))))) b_number_in_t2a_0 .nil) b_number_in_t_3
theorem u_number_in_t_2 (G : Genv) (ρ : Rho) (k : EV.Flow → Rho → Prop) : wpSs G b_number_in_t_2 ρ k = wpS G (.ife (.and2 (.val (.prim .eq (.cons (.prim .ix (.cons (.var 1) (.cons (.cst (.int 0)) .nil))) (.cons (.cst (.str "0")) .nil)))) (.val (.prim .ne (.cons (.var 0) (.cons (.cst (.str "0")) .nil))))) b_number_in_t2a_0 .nil) ρ (thenW G b_number_in_t_3 k) := rfl
def b_number_in_t1a_0 : ISs := .cons (.ret (.cst .non)) .nil
theorem u_number_in_t1a_0 (G : Genv) (ρ : Rho) (k : EV.Flow → Rho → Prop) : wpSs G b_number_in_t1a_0 ρ k = wpS G (.ret (.cst .non)) ρ (thenW G .nil k) := rfl
def b_number_in_t_1 : ISs := .cons (.ife (.or2 (.val (.prim .eq (.cons (.var 1) (.cons (.cst (.str "")) .nil)))) (.not1 (.val (.prim .all (.cons (.lc (.seq (.var 1)) (.nm 2) .tt (.prim .isin (.cons (.var 2) (.cons (.glb "FIGURES") .nil))) [2]) .nil))))) b_number_in_t1a_0 .nil) b_number_in_t_2
theorem u_number_in_t_1 (G : Genv) (ρ : Rho) (k : EV.Flow → Rho → Prop) : wpSs G b_number_in_t_1 ρ k = wpS G (.ife (.or2 (.val (.prim .eq (.cons (.var 1) (.cons (.cst (.str "")) .nil)))) (.not1 (.val (.prim .all (.cons (.lc (.seq (.var 1)) (.nm 2) .tt (.prim .isin (.cons (.var 2) (.cons (.glb "FIGURES") .nil))) [2]) .nil))))) b_number_in_t1a_0 .nil) ρ (thenW G b_number_in_t_2 k) := rfl
def b_number_in : ISs := .cons (.asg (.nm 1) (.ife (.val (.prim .eq (.cons (.slc (.var 0) .no (.so (.cst (.int 1)))) (.cons (.cst (.str "-")) .nil)))) (.slc (.var 0) (.so (.cst (.int 1))) .no) (.var 0))) b_number_in_t_1
theorem u_number_in (G : Genv) (ρ : Rho) (k : EV.Flow → Rho → Prop) : wpSs G b_number_in ρ k = wpS G (.asg (.nm 1) (.ife (.val (.prim .eq (.cons (.slc (.var 0) .no (.so (.cst (.int 1)))) (.cons (.cst (.str "-")) .nil)))) (.slc (.var 0) (.so (.cst (.int 1))) .no) (.var 0))) ρ (thenW G b_number_in_t_1 k) := rfl
theorem c_number_in : compSs 60 mcOf ["word", "digits", "sign"] (defScope (top 18)) (defBody (top 18)) = some b_number_in := by kernel_rfl
def b_bounded_t_1 : ISs := .cons (.ret (.ife (.and2 (.val (.prim .notN (.cons (.var 3) .nil))) (.val (.chain .le .le (.var 1) (.var 3) (.var 2)))) (.var 3) (.cst .non))) .nil
theorem u_bounded_t_1 (G : Genv) (ρ : Rho) (k : EV.Flow → Rho → Prop) : wpSs G b_bounded_t_1 ρ k = wpS G (.ret (.ife (.and2 (.val (.prim .notN (.cons (.var 3) .nil))) (.val (.chain .le .le (.var 1) (.var 3) (.var 2)))) (.var 3) (.cst .non))) ρ (thenW G .nil k) := rfl
def b_bounded : ISs := .cons (.asg (.nm 3) (.call "number_in" (.cons (.var 0) .nil))) b_bounded_t_1
theorem u_bounded (G : Genv) (ρ : Rho) (k : EV.Flow → Rho → Prop) : wpSs G b_bounded ρ k = wpS G (.asg (.nm 3) (.call "number_in" (.cons (.var 0) .nil))) ρ (thenW G b_bounded_t_1 k) := rfl
theorem c_bounded : compSs 60 mcOf ["word", "least", "most", "value"] (defScope (top 19)) (defBody (top 19)) = some b_bounded := by kernel_rfl
def b_is_cloth_t_2 : ISs := .cons (.ret (.or2 (.prim .eq (.cons (.prim .len (.cons (.var 0) .nil)) (.cons (.cst (.int 2)) .nil))) (.chain .le .le (.prim .neg (.cons (.glb "MOST_PLACE") .nil)) (.prim .ix (.cons (.var 0) (.cons (.cst (.int 2)) .nil))) (.glb "MOST_PLACE")))) .nil
theorem u_is_cloth_t_2 (G : Genv) (ρ : Rho) (k : EV.Flow → Rho → Prop) : wpSs G b_is_cloth_t_2 ρ k = wpS G (.ret (.or2 (.prim .eq (.cons (.prim .len (.cons (.var 0) .nil)) (.cons (.cst (.int 2)) .nil))) (.chain .le .le (.prim .neg (.cons (.glb "MOST_PLACE") .nil)) (.prim .ix (.cons (.var 0) (.cons (.cst (.int 2)) .nil))) (.glb "MOST_PLACE")))) ρ (thenW G .nil k) := rfl
def b_is_cloth_t1a_0 : ISs := .cons (.ret (.cst (.bl false))) .nil
theorem u_is_cloth_t1a_0 (G : Genv) (ρ : Rho) (k : EV.Flow → Rho → Prop) : wpSs G b_is_cloth_t1a_0 ρ k = wpS G (.ret (.cst (.bl false))) ρ (thenW G .nil k) := rfl
def b_is_cloth_t_1 : ISs := .cons (.ife (.not1 (.val (.chain3 .le .lt .le (.cst (.int 1)) (.prim .ix (.cons (.var 0) (.cons (.cst (.int 0)) .nil))) (.prim .ix (.cons (.var 0) (.cons (.cst (.int 1)) .nil))) (.glb "MOST_CLOTH")))) b_is_cloth_t1a_0 .nil) b_is_cloth_t_2
theorem u_is_cloth_t_1 (G : Genv) (ρ : Rho) (k : EV.Flow → Rho → Prop) : wpSs G b_is_cloth_t_1 ρ k = wpS G (.ife (.not1 (.val (.chain3 .le .lt .le (.cst (.int 1)) (.prim .ix (.cons (.var 0) (.cons (.cst (.int 0)) .nil))) (.prim .ix (.cons (.var 0) (.cons (.cst (.int 1)) .nil))) (.glb "MOST_CLOTH")))) b_is_cloth_t1a_0 .nil) ρ (thenW G b_is_cloth_t_2 k) := rfl
def b_is_cloth_t0a_0 : ISs := .cons (.ret (.cst (.bl false))) .nil
theorem u_is_cloth_t0a_0 (G : Genv) (ρ : Rho) (k : EV.Flow → Rho → Prop) : wpSs G b_is_cloth_t0a_0 ρ k = wpS G (.ret (.cst (.bl false))) ρ (thenW G .nil k) := rfl
def b_is_cloth : ISs := .cons (.ife (.or2 (.not1 (.val (.prim .isTup (.cons (.var 0) .nil)))) (.or2 (.val (.prim .notin (.cons (.prim .len (.cons (.var 0) .nil)) (.cons (.tup (.cons (.cst (.int 2)) (.cons (.cst (.int 3)) .nil))) .nil)))) (.not1 (.val (.prim .all (.cons (.lc (.seq (.var 0)) (.nm 1) .tt (.call "is_integer" (.cons (.var 1) .nil)) [1]) .nil)))))) b_is_cloth_t0a_0 .nil) b_is_cloth_t_1
theorem u_is_cloth (G : Genv) (ρ : Rho) (k : EV.Flow → Rho → Prop) : wpSs G b_is_cloth ρ k = wpS G (.ife (.or2 (.not1 (.val (.prim .isTup (.cons (.var 0) .nil)))) (.or2 (.val (.prim .notin (.cons (.prim .len (.cons (.var 0) .nil)) (.cons (.tup (.cons (.cst (.int 2)) (.cons (.cst (.int 3)) .nil))) .nil)))) (.not1 (.val (.prim .all (.cons (.lc (.seq (.var 0)) (.nm 1) .tt (.call "is_integer" (.cons (.var 1) .nil)) [1]) .nil)))))) b_is_cloth_t0a_0 .nil) ρ (thenW G b_is_cloth_t_1 k) := rfl
theorem c_is_cloth : compSs 60 mcOf ["value", "part"] (defScope (top 20)) (defBody (top 20)) = some b_is_cloth := by kernel_rfl
def b_cloth_in_t_3 : ISs := .cons (.ret (.ife (.and2 (.val (.prim .notin (.cons (.cst .non) (.cons (.var 2) .nil)))) (.val (.call "is_cloth" (.cons (.var 2) .nil)))) (.var 2) (.cst .non))) .nil
theorem u_cloth_in_t_3 (G : Genv) (ρ : Rho) (k : EV.Flow → Rho → Prop) : wpSs G b_cloth_in_t_3 ρ k = wpS G (.ret (.ife (.and2 (.val (.prim .notin (.cons (.cst .non) (.cons (.var 2) .nil)))) (.val (.call "is_cloth" (.cons (.var 2) .nil)))) (.var 2) (.cst .non))) ρ (thenW G .nil k) := rfl
def b_cloth_in_t_2 : ISs := .cons (.asg (.nm 2) (.prim .tuple1 (.cons (.lc (.seq (.lst (.star (.slc (.var 1) (.so (.cst (.int 1))) (.so (.cst (.int 3)))) (.star (.slc (.var 1) (.so (.cst (.int 4))) .no) .nil)))) (.nm 3) .tt (.call "number_in" (.cons (.var 3) .nil)) [3]) .nil))) b_cloth_in_t_3
theorem u_cloth_in_t_2 (G : Genv) (ρ : Rho) (k : EV.Flow → Rho → Prop) : wpSs G b_cloth_in_t_2 ρ k = wpS G (.asg (.nm 2) (.prim .tuple1 (.cons (.lc (.seq (.lst (.star (.slc (.var 1) (.so (.cst (.int 1))) (.so (.cst (.int 3)))) (.star (.slc (.var 1) (.so (.cst (.int 4))) .no) .nil)))) (.nm 3) .tt (.call "number_in" (.cons (.var 3) .nil)) [3]) .nil))) ρ (thenW G b_cloth_in_t_3 k) := rfl
def b_cloth_in_t1a_0 : ISs := .cons (.ret (.cst .non)) .nil
theorem u_cloth_in_t1a_0 (G : Genv) (ρ : Rho) (k : EV.Flow → Rho → Prop) : wpSs G b_cloth_in_t1a_0 ρ k = wpS G (.ret (.cst .non)) ρ (thenW G .nil k) := rfl
def b_cloth_in_t_1 : ISs := .cons (.ife (.or2 (.val (.prim .notin (.cons (.prim .len (.cons (.var 1) .nil)) (.cons (.tup (.cons (.cst (.int 3)) (.cons (.cst (.int 5)) .nil))) .nil)))) (.or2 (.val (.prim .ne (.cons (.prim .ix (.cons (.var 1) (.cons (.cst (.int 0)) .nil))) (.cons (.cst (.str "cloth")) .nil)))) (.and2 (.val (.prim .eq (.cons (.prim .len (.cons (.var 1) .nil)) (.cons (.cst (.int 5)) .nil)))) (.val (.prim .ne (.cons (.prim .ix (.cons (.var 1) (.cons (.cst (.int 3)) .nil))) (.cons (.cst (.str "from")) .nil))))))) b_cloth_in_t1a_0 .nil) b_cloth_in_t_2
theorem u_cloth_in_t_1 (G : Genv) (ρ : Rho) (k : EV.Flow → Rho → Prop) : wpSs G b_cloth_in_t_1 ρ k = wpS G (.ife (.or2 (.val (.prim .notin (.cons (.prim .len (.cons (.var 1) .nil)) (.cons (.tup (.cons (.cst (.int 3)) (.cons (.cst (.int 5)) .nil))) .nil)))) (.or2 (.val (.prim .ne (.cons (.prim .ix (.cons (.var 1) (.cons (.cst (.int 0)) .nil))) (.cons (.cst (.str "cloth")) .nil)))) (.and2 (.val (.prim .eq (.cons (.prim .len (.cons (.var 1) .nil)) (.cons (.cst (.int 5)) .nil)))) (.val (.prim .ne (.cons (.prim .ix (.cons (.var 1) (.cons (.cst (.int 3)) .nil))) (.cons (.cst (.str "from")) .nil))))))) b_cloth_in_t1a_0 .nil) ρ (thenW G b_cloth_in_t_2 k) := rfl
def b_cloth_in : ISs := .cons (.asg (.nm 1) (.ife (.val (.prim .isStr (.cons (.var 0) .nil))) (.tm .split (.var 0) (.cst (.str " "))) (.lst .nil))) b_cloth_in_t_1
theorem u_cloth_in (G : Genv) (ρ : Rho) (k : EV.Flow → Rho → Prop) : wpSs G b_cloth_in ρ k = wpS G (.asg (.nm 1) (.ife (.val (.prim .isStr (.cons (.var 0) .nil))) (.tm .split (.var 0) (.cst (.str " "))) (.lst .nil))) ρ (thenW G b_cloth_in_t_1 k) := rfl
theorem c_cloth_in : compSs 60 mcOf ["row", "words", "parts", "word"] (defScope (top 21)) (defBody (top 21)) = some b_cloth_in := by kernel_rfl
def b_move_in_t_5 : ISs := .cons (.ret (.cst .non)) .nil
theorem u_move_in_t_5 (G : Genv) (ρ : Rho) (k : EV.Flow → Rho → Prop) : wpSs G b_move_in_t_5 ρ k = wpS G (.ret (.cst .non)) ρ (thenW G .nil k) := rfl
def b_move_in_t4a_0 : ISs := .cons (.ret (.tup (.cons (.cst (.str "off")) (.cons (.prim .ix (.cons (.var 1) (.cons (.cst (.int 1)) .nil))) (.cons (.cst (.int 0)) .nil))))) .nil
theorem u_move_in_t4a_0 (G : Genv) (ρ : Rho) (k : EV.Flow → Rho → Prop) : wpSs G b_move_in_t4a_0 ρ k = wpS G (.ret (.tup (.cons (.cst (.str "off")) (.cons (.prim .ix (.cons (.var 1) (.cons (.cst (.int 1)) .nil))) (.cons (.cst (.int 0)) .nil))))) ρ (thenW G .nil k) := rfl
def b_move_in_t_4 : ISs := .cons (.ife (.and2 (.val (.prim .eq (.cons (.prim .len (.cons (.var 1) .nil)) (.cons (.cst (.int 2)) .nil)))) (.and2 (.val (.prim .eq (.cons (.prim .ix (.cons (.var 1) (.cons (.cst (.int 0)) .nil))) (.cons (.cst (.str "off")) .nil)))) (.val (.prim .isin (.cons (.prim .ix (.cons (.var 1) (.cons (.cst (.int 1)) .nil))) (.cons (.glb "SIDES") .nil)))))) b_move_in_t4a_0 .nil) b_move_in_t_5
theorem u_move_in_t_4 (G : Genv) (ρ : Rho) (k : EV.Flow → Rho → Prop) : wpSs G b_move_in_t_4 ρ k = wpS G (.ife (.and2 (.val (.prim .eq (.cons (.prim .len (.cons (.var 1) .nil)) (.cons (.cst (.int 2)) .nil)))) (.and2 (.val (.prim .eq (.cons (.prim .ix (.cons (.var 1) (.cons (.cst (.int 0)) .nil))) (.cons (.cst (.str "off")) .nil)))) (.val (.prim .isin (.cons (.prim .ix (.cons (.var 1) (.cons (.cst (.int 1)) .nil))) (.cons (.glb "SIDES") .nil)))))) b_move_in_t4a_0 .nil) ρ (thenW G b_move_in_t_5 k) := rfl
def b_move_in_t3a_1 : ISs := .cons (.ret (.ife (.val (.prim .isN (.cons (.var 2) .nil))) (.cst .non) (.tup (.cons (.cst (.str "carry")) (.cons (.cst (.str "")) (.cons (.var 2) .nil)))))) .nil
theorem u_move_in_t3a_1 (G : Genv) (ρ : Rho) (k : EV.Flow → Rho → Prop) : wpSs G b_move_in_t3a_1 ρ k = wpS G (.ret (.ife (.val (.prim .isN (.cons (.var 2) .nil))) (.cst .non) (.tup (.cons (.cst (.str "carry")) (.cons (.cst (.str "")) (.cons (.var 2) .nil)))))) ρ (thenW G .nil k) := rfl
def b_move_in_t3a_0 : ISs := .cons (.asg (.nm 2) (.call "bounded" (.cons (.prim .ix (.cons (.var 1) (.cons (.cst (.int 1)) .nil))) (.cons (.prim .neg (.cons (.glb "MOST_PLACE") .nil)) (.cons (.glb "MOST_PLACE") .nil))))) b_move_in_t3a_1
theorem u_move_in_t3a_0 (G : Genv) (ρ : Rho) (k : EV.Flow → Rho → Prop) : wpSs G b_move_in_t3a_0 ρ k = wpS G (.asg (.nm 2) (.call "bounded" (.cons (.prim .ix (.cons (.var 1) (.cons (.cst (.int 1)) .nil))) (.cons (.prim .neg (.cons (.glb "MOST_PLACE") .nil)) (.cons (.glb "MOST_PLACE") .nil))))) ρ (thenW G b_move_in_t3a_1 k) := rfl
def b_move_in_t_3 : ISs := .cons (.ife (.and2 (.val (.prim .eq (.cons (.prim .len (.cons (.var 1) .nil)) (.cons (.cst (.int 2)) .nil)))) (.val (.prim .eq (.cons (.prim .ix (.cons (.var 1) (.cons (.cst (.int 0)) .nil))) (.cons (.cst (.str "carry")) .nil))))) b_move_in_t3a_0 .nil) b_move_in_t_4
theorem u_move_in_t_3 (G : Genv) (ρ : Rho) (k : EV.Flow → Rho → Prop) : wpSs G b_move_in_t_3 ρ k = wpS G (.ife (.and2 (.val (.prim .eq (.cons (.prim .len (.cons (.var 1) .nil)) (.cons (.cst (.int 2)) .nil)))) (.val (.prim .eq (.cons (.prim .ix (.cons (.var 1) (.cons (.cst (.int 0)) .nil))) (.cons (.cst (.str "carry")) .nil))))) b_move_in_t3a_0 .nil) ρ (thenW G b_move_in_t_4 k) := rfl
def b_move_in_t2a_1 : ISs := .cons (.ret (.ife (.val (.prim .isN (.cons (.var 2) .nil))) (.cst .non) (.tup (.cons (.prim .ix (.cons (.var 1) (.cons (.cst (.int 0)) .nil))) (.cons (.prim .ix (.cons (.var 1) (.cons (.cst (.int 1)) .nil))) (.cons (.var 2) .nil)))))) .nil
theorem u_move_in_t2a_1 (G : Genv) (ρ : Rho) (k : EV.Flow → Rho → Prop) : wpSs G b_move_in_t2a_1 ρ k = wpS G (.ret (.ife (.val (.prim .isN (.cons (.var 2) .nil))) (.cst .non) (.tup (.cons (.prim .ix (.cons (.var 1) (.cons (.cst (.int 0)) .nil))) (.cons (.prim .ix (.cons (.var 1) (.cons (.cst (.int 1)) .nil))) (.cons (.var 2) .nil)))))) ρ (thenW G .nil k) := rfl
def b_move_in_t2a_0 : ISs := .cons (.asg (.nm 2) (.call "bounded" (.cons (.prim .ix (.cons (.var 1) (.cons (.cst (.int 2)) .nil))) (.cons (.prim .neg (.cons (.glb "MOST_PLACE") .nil)) (.cons (.glb "MOST_PLACE") .nil))))) b_move_in_t2a_1
theorem u_move_in_t2a_0 (G : Genv) (ρ : Rho) (k : EV.Flow → Rho → Prop) : wpSs G b_move_in_t2a_0 ρ k = wpS G (.asg (.nm 2) (.call "bounded" (.cons (.prim .ix (.cons (.var 1) (.cons (.cst (.int 2)) .nil))) (.cons (.prim .neg (.cons (.glb "MOST_PLACE") .nil)) (.cons (.glb "MOST_PLACE") .nil))))) ρ (thenW G b_move_in_t2a_1 k) := rfl
def b_move_in_t_2 : ISs := .cons (.ife (.and2 (.val (.prim .eq (.cons (.prim .len (.cons (.var 1) .nil)) (.cons (.cst (.int 3)) .nil)))) (.or2 (.val (.prim .eq (.cons (.slc (.var 1) .no (.so (.cst (.int 2)))) (.cons (.lst (.cons (.cst (.str "some")) (.cons (.cst (.str "to")) .nil))) .nil)))) (.and2 (.val (.prim .eq (.cons (.prim .ix (.cons (.var 1) (.cons (.cst (.int 0)) .nil))) (.cons (.cst (.str "on")) .nil)))) (.val (.prim .isin (.cons (.prim .ix (.cons (.var 1) (.cons (.cst (.int 1)) .nil))) (.cons (.glb "SIDES") .nil))))))) b_move_in_t2a_0 .nil) b_move_in_t_3
theorem u_move_in_t_2 (G : Genv) (ρ : Rho) (k : EV.Flow → Rho → Prop) : wpSs G b_move_in_t_2 ρ k = wpS G (.ife (.and2 (.val (.prim .eq (.cons (.prim .len (.cons (.var 1) .nil)) (.cons (.cst (.int 3)) .nil)))) (.or2 (.val (.prim .eq (.cons (.slc (.var 1) .no (.so (.cst (.int 2)))) (.cons (.lst (.cons (.cst (.str "some")) (.cons (.cst (.str "to")) .nil))) .nil)))) (.and2 (.val (.prim .eq (.cons (.prim .ix (.cons (.var 1) (.cons (.cst (.int 0)) .nil))) (.cons (.cst (.str "on")) .nil)))) (.val (.prim .isin (.cons (.prim .ix (.cons (.var 1) (.cons (.cst (.int 1)) .nil))) (.cons (.glb "SIDES") .nil))))))) b_move_in_t2a_0 .nil) ρ (thenW G b_move_in_t_3 k) := rfl
def b_move_in_t1a_1 : ISs := .cons (.ret (.ife (.or2 (.val (.prim .isN (.cons (.var 3) .nil))) (.val (.prim .isN (.cons (.var 2) .nil)))) (.cst .non) (.tup (.cons (.prim .ix (.cons (.var 1) (.cons (.cst (.int 0)) .nil))) (.cons (.var 3) (.cons (.var 2) .nil)))))) .nil
theorem u_move_in_t1a_1 (G : Genv) (ρ : Rho) (k : EV.Flow → Rho → Prop) : wpSs G b_move_in_t1a_1 ρ k = wpS G (.ret (.ife (.or2 (.val (.prim .isN (.cons (.var 3) .nil))) (.val (.prim .isN (.cons (.var 2) .nil)))) (.cst .non) (.tup (.cons (.prim .ix (.cons (.var 1) (.cons (.cst (.int 0)) .nil))) (.cons (.var 3) (.cons (.var 2) .nil)))))) ρ (thenW G .nil k) := rfl
def b_move_in_t1a_0 : ISs := .cons (.par2 3 2 (.call "bounded" (.cons (.prim .ix (.cons (.var 1) (.cons (.cst (.int 1)) .nil))) (.cons (.cst (.int 1)) (.cons (.glb "MOST_NAMED") .nil)))) (.call "bounded" (.cons (.prim .ix (.cons (.var 1) (.cons (.cst (.int 3)) .nil))) (.cons (.prim .neg (.cons (.glb "MOST_PLACE") .nil)) (.cons (.glb "MOST_PLACE") .nil))))) b_move_in_t1a_1
theorem u_move_in_t1a_0 (G : Genv) (ρ : Rho) (k : EV.Flow → Rho → Prop) : wpSs G b_move_in_t1a_0 ρ k = wpS G (.par2 3 2 (.call "bounded" (.cons (.prim .ix (.cons (.var 1) (.cons (.cst (.int 1)) .nil))) (.cons (.cst (.int 1)) (.cons (.glb "MOST_NAMED") .nil)))) (.call "bounded" (.cons (.prim .ix (.cons (.var 1) (.cons (.cst (.int 3)) .nil))) (.cons (.prim .neg (.cons (.glb "MOST_PLACE") .nil)) (.cons (.glb "MOST_PLACE") .nil))))) ρ (thenW G b_move_in_t1a_1 k) := rfl
def b_move_in_t_1 : ISs := .cons (.ife (.and2 (.val (.prim .eq (.cons (.prim .len (.cons (.var 1) .nil)) (.cons (.cst (.int 4)) .nil)))) (.and2 (.val (.prim .isin (.cons (.prim .ix (.cons (.var 1) (.cons (.cst (.int 0)) .nil))) (.cons (.glb "SIDES") .nil)))) (.val (.prim .eq (.cons (.prim .ix (.cons (.var 1) (.cons (.cst (.int 2)) .nil))) (.cons (.cst (.str "to")) .nil)))))) b_move_in_t1a_0 .nil) b_move_in_t_2
theorem u_move_in_t_1 (G : Genv) (ρ : Rho) (k : EV.Flow → Rho → Prop) : wpSs G b_move_in_t_1 ρ k = wpS G (.ife (.and2 (.val (.prim .eq (.cons (.prim .len (.cons (.var 1) .nil)) (.cons (.cst (.int 4)) .nil)))) (.and2 (.val (.prim .isin (.cons (.prim .ix (.cons (.var 1) (.cons (.cst (.int 0)) .nil))) (.cons (.glb "SIDES") .nil)))) (.val (.prim .eq (.cons (.prim .ix (.cons (.var 1) (.cons (.cst (.int 2)) .nil))) (.cons (.cst (.str "to")) .nil)))))) b_move_in_t1a_0 .nil) ρ (thenW G b_move_in_t_2 k) := rfl
def b_move_in : ISs := .cons (.asg (.nm 1) (.ife (.val (.prim .isStr (.cons (.var 0) .nil))) (.tm .split (.var 0) (.cst (.str " "))) (.lst (.cons (.cst (.str "")) .nil)))) b_move_in_t_1
theorem u_move_in (G : Genv) (ρ : Rho) (k : EV.Flow → Rho → Prop) : wpSs G b_move_in ρ k = wpS G (.asg (.nm 1) (.ife (.val (.prim .isStr (.cons (.var 0) .nil))) (.tm .split (.var 0) (.cst (.str " "))) (.lst (.cons (.cst (.str "")) .nil)))) ρ (thenW G b_move_in_t_1 k) := rfl
theorem c_move_in : compSs 60 mcOf ["row", "words", "place", "ring"] (defScope (top 22)) (defBody (top 22)) = some b_move_in := by kernel_rfl
def b_wrong_rows_t_3 : ISs := .cons (.ret (.tup .nil)) .nil
theorem u_wrong_rows_t_3 (G : Genv) (ρ : Rho) (k : EV.Flow → Rho → Prop) : wpSs G b_wrong_rows_t_3 ρ k = wpS G (.ret (.tup .nil)) ρ (thenW G .nil k) := rfl
def b_wrong_rows_t2b0a_0 : ISs := .cons (.ret (.tup (.cons (.var 1) .nil))) .nil
theorem u_wrong_rows_t2b0a_0 (G : Genv) (ρ : Rho) (k : EV.Flow → Rho → Prop) : wpSs G b_wrong_rows_t2b0a_0 ρ k = wpS G (.ret (.tup (.cons (.var 1) .nil))) ρ (thenW G .nil k) := rfl
def b_wrong_rows_t2b_0 : ISs := .cons (.ife (.and2 (.val (.prim .gt (.cons (.var 1) (.cons (.cst (.int 0)) .nil)))) (.val (.prim .isN (.cons (.call "move_in" (.cons (.var 2) .nil)) .nil)))) b_wrong_rows_t2b0a_0 .nil) .nil
theorem u_wrong_rows_t2b_0 (G : Genv) (ρ : Rho) (k : EV.Flow → Rho → Prop) : wpSs G b_wrong_rows_t2b_0 ρ k = wpS G (.ife (.and2 (.val (.prim .gt (.cons (.var 1) (.cons (.cst (.int 0)) .nil)))) (.val (.prim .isN (.cons (.call "move_in" (.cons (.var 2) .nil)) .nil)))) b_wrong_rows_t2b0a_0 .nil) ρ (thenW G .nil k) := rfl
def b_wrong_rows_t_2 : ISs := .cons (.for (.enum (.var 0)) (.tp (.cons (.nm 1) (.cons (.nm 2) .nil))) b_wrong_rows_t2b_0) b_wrong_rows_t_3
theorem u_wrong_rows_t_2 (G : Genv) (ρ : Rho) (k : EV.Flow → Rho → Prop) : wpSs G b_wrong_rows_t_2 ρ k = wpS G (.for (.enum (.var 0)) (.tp (.cons (.nm 1) (.cons (.nm 2) .nil))) b_wrong_rows_t2b_0) ρ (thenW G b_wrong_rows_t_3 k) := rfl
def b_wrong_rows_t1a_0 : ISs := .cons (.ret (.tup (.cons (.cst (.int 0)) .nil))) .nil
theorem u_wrong_rows_t1a_0 (G : Genv) (ρ : Rho) (k : EV.Flow → Rho → Prop) : wpSs G b_wrong_rows_t1a_0 ρ k = wpS G (.ret (.tup (.cons (.cst (.int 0)) .nil))) ρ (thenW G .nil k) := rfl
def b_wrong_rows_t_1 : ISs := .cons (.ife (.val (.prim .isN (.cons (.call "cloth_in" (.cons (.prim .ix (.cons (.var 0) (.cons (.cst (.int 0)) .nil))) .nil)) .nil))) b_wrong_rows_t1a_0 .nil) b_wrong_rows_t_2
theorem u_wrong_rows_t_1 (G : Genv) (ρ : Rho) (k : EV.Flow → Rho → Prop) : wpSs G b_wrong_rows_t_1 ρ k = wpS G (.ife (.val (.prim .isN (.cons (.call "cloth_in" (.cons (.prim .ix (.cons (.var 0) (.cons (.cst (.int 0)) .nil))) .nil)) .nil))) b_wrong_rows_t1a_0 .nil) ρ (thenW G b_wrong_rows_t_2 k) := rfl
def b_wrong_rows_t0a_0 : ISs := .cons (.ret (.tup (.cons (.cst .non) .nil))) .nil
theorem u_wrong_rows_t0a_0 (G : Genv) (ρ : Rho) (k : EV.Flow → Rho → Prop) : wpSs G b_wrong_rows_t0a_0 ρ k = wpS G (.ret (.tup (.cons (.cst .non) .nil))) ρ (thenW G .nil k) := rfl
def b_wrong_rows : ISs := .cons (.ife (.not1 (.val (.chain .le .le (.cst (.int 1)) (.prim .len (.cons (.var 0) .nil)) (.prim .add (.cons (.glb "MOST_MOVES") (.cons (.cst (.int 1)) .nil)))))) b_wrong_rows_t0a_0 .nil) b_wrong_rows_t_1
theorem u_wrong_rows (G : Genv) (ρ : Rho) (k : EV.Flow → Rho → Prop) : wpSs G b_wrong_rows ρ k = wpS G (.ife (.not1 (.val (.chain .le .le (.cst (.int 1)) (.prim .len (.cons (.var 0) .nil)) (.prim .add (.cons (.glb "MOST_MOVES") (.cons (.cst (.int 1)) .nil)))))) b_wrong_rows_t0a_0 .nil) ρ (thenW G b_wrong_rows_t_1 k) := rfl
theorem c_wrong_rows : compSs 60 mcOf ["rows", "index", "row"] (defScope (top 23)) (defBody (top 23)) = some b_wrong_rows := by kernel_rfl
def b_more_by : ISs := .cons (.ret (.ife (.val (.prim .eq (.cons (.prim .ix (.cons (.var 0) (.cons (.cst (.int 0)) .nil))) (.cons (.cst (.str "on")) .nil)))) (.cst (.int 1)) (.ife (.val (.prim .eq (.cons (.prim .ix (.cons (.var 0) (.cons (.cst (.int 0)) .nil))) (.cons (.cst (.str "off")) .nil)))) (.prim .neg (.cons (.cst (.int 1)) .nil)) (.cst (.int 0))))) .nil
theorem u_more_by (G : Genv) (ρ : Rho) (k : EV.Flow → Rho → Prop) : wpSs G b_more_by ρ k = wpS G (.ret (.ife (.val (.prim .eq (.cons (.prim .ix (.cons (.var 0) (.cons (.cst (.int 0)) .nil))) (.cons (.cst (.str "on")) .nil)))) (.cst (.int 1)) (.ife (.val (.prim .eq (.cons (.prim .ix (.cons (.var 0) (.cons (.cst (.int 0)) .nil))) (.cons (.cst (.str "off")) .nil)))) (.prim .neg (.cons (.cst (.int 1)) .nil)) (.cst (.int 0))))) ρ (thenW G .nil k) := rfl
theorem c_more_by : compSs 60 mcOf ["step"] (defScope (top 24)) (defBody (top 24)) = some b_more_by := by kernel_rfl
def b_asked_by_t_1 : ISs := .cons (.ret (.ife (.val (.prim .eq (.cons (.prim .ix (.cons (.var 0) (.cons (.cst (.int 0)) .nil))) (.cons (.cst (.str "off")) .nil)))) (.cst (.int 2)) (.cst (.int 1)))) .nil
theorem u_asked_by_t_1 (G : Genv) (ρ : Rho) (k : EV.Flow → Rho → Prop) : wpSs G b_asked_by_t_1 ρ k = wpS G (.ret (.ife (.val (.prim .eq (.cons (.prim .ix (.cons (.var 0) (.cons (.cst (.int 0)) .nil))) (.cons (.cst (.str "off")) .nil)))) (.cst (.int 2)) (.cst (.int 1)))) ρ (thenW G .nil k) := rfl
def b_asked_by_t0a_0 : ISs := .cons (.ret (.prim .ix (.cons (.var 0) (.cons (.cst (.int 1)) .nil)))) .nil
theorem u_asked_by_t0a_0 (G : Genv) (ρ : Rho) (k : EV.Flow → Rho → Prop) : wpSs G b_asked_by_t0a_0 ρ k = wpS G (.ret (.prim .ix (.cons (.var 0) (.cons (.cst (.int 1)) .nil)))) ρ (thenW G .nil k) := rfl
def b_asked_by : ISs := .cons (.ife (.val (.prim .isin (.cons (.prim .ix (.cons (.var 0) (.cons (.cst (.int 0)) .nil))) (.cons (.glb "SIDES") .nil)))) b_asked_by_t0a_0 .nil) b_asked_by_t_1
theorem u_asked_by (G : Genv) (ρ : Rho) (k : EV.Flow → Rho → Prop) : wpSs G b_asked_by ρ k = wpS G (.ife (.val (.prim .isin (.cons (.prim .ix (.cons (.var 0) (.cons (.cst (.int 0)) .nil))) (.cons (.glb "SIDES") .nil)))) b_asked_by_t0a_0 .nil) ρ (thenW G b_asked_by_t_1 k) := rfl
theorem c_asked_by : compSs 60 mcOf ["step"] (defScope (top 25)) (defBody (top 25)) = some b_asked_by := by kernel_rfl
def b_least_for_t_2 : ISs := .cons (.ret (.var 2)) .nil
theorem u_least_for_t_2 (G : Genv) (ρ : Rho) (k : EV.Flow → Rho → Prop) : wpSs G b_least_for_t_2 ρ k = wpS G (.ret (.var 2)) ρ (thenW G .nil k) := rfl
def b_least_for_t1b_1 : ISs := .cons (.aug 3 false (.call "more_by" (.cons (.var 1) .nil))) .nil
theorem u_least_for_t1b_1 (G : Genv) (ρ : Rho) (k : EV.Flow → Rho → Prop) : wpSs G b_least_for_t1b_1 ρ k = wpS G (.aug 3 false (.call "more_by" (.cons (.var 1) .nil))) ρ (thenW G .nil k) := rfl
def b_least_for_t1b_0 : ISs := .cons (.asg (.nm 2) (.prim .max2 (.cons (.var 2) (.cons (.prim .sub (.cons (.call "asked_by" (.cons (.var 1) .nil)) (.cons (.var 3) .nil))) .nil)))) b_least_for_t1b_1
theorem u_least_for_t1b_0 (G : Genv) (ρ : Rho) (k : EV.Flow → Rho → Prop) : wpSs G b_least_for_t1b_0 ρ k = wpS G (.asg (.nm 2) (.prim .max2 (.cons (.var 2) (.cons (.prim .sub (.cons (.call "asked_by" (.cons (.var 1) .nil)) (.cons (.var 3) .nil))) .nil)))) ρ (thenW G b_least_for_t1b_1 k) := rfl
def b_least_for_t_1 : ISs := .cons (.for (.seq (.var 0)) (.nm 1) b_least_for_t1b_0) b_least_for_t_2
theorem u_least_for_t_1 (G : Genv) (ρ : Rho) (k : EV.Flow → Rho → Prop) : wpSs G b_least_for_t_1 ρ k = wpS G (.for (.seq (.var 0)) (.nm 1) b_least_for_t1b_0) ρ (thenW G b_least_for_t_2 k) := rfl
def b_least_for : ISs := .cons (.asg (.tp (.cons (.nm 2) (.cons (.nm 3) .nil))) (.tup (.cons (.cst (.int 1)) (.cons (.cst (.int 0)) .nil)))) b_least_for_t_1
theorem u_least_for (G : Genv) (ρ : Rho) (k : EV.Flow → Rho → Prop) : wpSs G b_least_for ρ k = wpS G (.asg (.tp (.cons (.nm 2) (.cons (.nm 3) .nil))) (.tup (.cons (.cst (.int 1)) (.cons (.cst (.int 0)) .nil)))) ρ (thenW G b_least_for_t_1 k) := rfl
theorem c_least_for : compSs 60 mcOf ["steps", "step", "found", "more"] (defScope (top 26)) (defBody (top 26)) = some b_least_for := by kernel_rfl
def b_Script___init___t_5 : ISs := .cons (.setF (.var 0) "floor" (.call "least_for" (.cons (.fld (.var 0) "steps") .nil))) .nil
theorem u_Script___init___t_5 (G : Genv) (ρ : Rho) (k : EV.Flow → Rho → Prop) : wpSs G b_Script___init___t_5 ρ k = wpS G (.setF (.var 0) "floor" (.call "least_for" (.cons (.fld (.var 0) "steps") .nil))) ρ (thenW G .nil k) := rfl
def b_Script___init___t_4 : ISs := .cons (.setF (.var 0) "steps" (.prim .tuple1 (.cons (.lc (.seq (.slc (.var 1) (.so (.cst (.int 1))) .no)) (.nm 3) .tt (.call "move_in" (.cons (.var 3) .nil)) [3]) .nil))) b_Script___init___t_5
theorem u_Script___init___t_4 (G : Genv) (ρ : Rho) (k : EV.Flow → Rho → Prop) : wpSs G b_Script___init___t_4 ρ k = wpS G (.setF (.var 0) "steps" (.prim .tuple1 (.cons (.lc (.seq (.slc (.var 1) (.so (.cst (.int 1))) .no)) (.nm 3) .tt (.call "move_in" (.cons (.var 3) .nil)) [3]) .nil))) ρ (thenW G b_Script___init___t_5 k) := rfl
def b_Script___init___t_3 : ISs := .cons (.setF (.var 0) "goods" (.call "cloth_in" (.cons (.prim .ix (.cons (.var 1) (.cons (.cst (.int 0)) .nil))) .nil))) b_Script___init___t_4
theorem u_Script___init___t_3 (G : Genv) (ρ : Rho) (k : EV.Flow → Rho → Prop) : wpSs G b_Script___init___t_3 ρ k = wpS G (.setF (.var 0) "goods" (.call "cloth_in" (.cons (.prim .ix (.cons (.var 1) (.cons (.cst (.int 0)) .nil))) .nil))) ρ (thenW G b_Script___init___t_4 k) := rfl
def b_Script___init___t_2 : ISs := .cons (.setF (.var 0) "told" (.var 1)) b_Script___init___t_3
theorem u_Script___init___t_2 (G : Genv) (ρ : Rho) (k : EV.Flow → Rho → Prop) : wpSs G b_Script___init___t_2 ρ k = wpS G (.setF (.var 0) "told" (.var 1)) ρ (thenW G b_Script___init___t_3 k) := rfl
def b_Script___init___t1a_0 : ISs := .cons .never .nil
theorem u_Script___init___t1a_0 (G : Genv) (ρ : Rho) (k : EV.Flow → Rho → Prop) : wpSs G b_Script___init___t1a_0 ρ k = wpS G .never ρ (thenW G .nil k) := rfl
def b_Script___init___t_1 : ISs := .cons (.ife (.val (.var 2)) b_Script___init___t1a_0 .nil) b_Script___init___t_2
theorem u_Script___init___t_1 (G : Genv) (ρ : Rho) (k : EV.Flow → Rho → Prop) : wpSs G b_Script___init___t_1 ρ k = wpS G (.ife (.val (.var 2)) b_Script___init___t1a_0 .nil) ρ (thenW G b_Script___init___t_2 k) := rfl
def b_Script___init__ : ISs := .cons (.asg (.nm 2) (.call "wrong_rows" (.cons (.var 1) .nil))) b_Script___init___t_1
theorem u_Script___init__ (G : Genv) (ρ : Rho) (k : EV.Flow → Rho → Prop) : wpSs G b_Script___init__ ρ k = wpS G (.asg (.nm 2) (.call "wrong_rows" (.cons (.var 1) .nil))) ρ (thenW G b_Script___init___t_1 k) := rfl
theorem c_Script___init__ : compSs 60 mcOf ["self", "rows", "wrong", "row"] (defScope (inClass (top 27) 0)) (defBody (inClass (top 27) 0)) = some b_Script___init__ := by kernel_rfl
def b_Script_read_t_2 : ISs := .cons (.ret (.makeS "Script" (.var 2))) .nil
theorem u_Script_read_t_2 (G : Genv) (ρ : Rho) (k : EV.Flow → Rho → Prop) : wpSs G b_Script_read_t_2 ρ k = wpS G (.ret (.makeS "Script" (.var 2))) ρ (thenW G .nil k) := rfl
def b_Script_read_t1a_0 : ISs := .cons .never .nil
theorem u_Script_read_t1a_0 (G : Genv) (ρ : Rho) (k : EV.Flow → Rho → Prop) : wpSs G b_Script_read_t1a_0 ρ k = wpS G .never ρ (thenW G .nil k) := rfl
def b_Script_read_t_1 : ISs := .cons (.ife (.val (.call "wrong_rows" (.cons (.var 2) .nil))) b_Script_read_t1a_0 .nil) b_Script_read_t_2
theorem u_Script_read_t_1 (G : Genv) (ρ : Rho) (k : EV.Flow → Rho → Prop) : wpSs G b_Script_read_t_1 ρ k = wpS G (.ife (.val (.call "wrong_rows" (.cons (.var 2) .nil))) b_Script_read_t1a_0 .nil) ρ (thenW G b_Script_read_t_2 k) := rfl
def b_Script_read : ISs := .cons (.asg (.nm 2) (.ife (.val (.prim .isStr (.cons (.var 1) .nil))) (.tm .split (.var 1) (.cst (.str "\n"))) (.lst .nil))) b_Script_read_t_1
theorem u_Script_read (G : Genv) (ρ : Rho) (k : EV.Flow → Rho → Prop) : wpSs G b_Script_read ρ k = wpS G (.asg (.nm 2) (.ife (.val (.prim .isStr (.cons (.var 1) .nil))) (.tm .split (.var 1) (.cst (.str "\n"))) (.lst .nil))) ρ (thenW G b_Script_read_t_1 k) := rfl
theorem c_Script_read : compSs 60 mcOf ["cls", "text", "rows"] (defScope (inClass (top 27) 1)) (defBody (inClass (top 27) 1)) = some b_Script_read := by kernel_rfl
def b_Script_rows : ISs := .cons (.ret (.fld (.var 0) "told")) .nil
theorem u_Script_rows (G : Genv) (ρ : Rho) (k : EV.Flow → Rho → Prop) : wpSs G b_Script_rows ρ k = wpS G (.ret (.fld (.var 0) "told")) ρ (thenW G .nil k) := rfl
theorem c_Script_rows : compSs 60 mcOf ["self"] (defScope (inClass (top 27) 2)) (defBody (inClass (top 27) 2)) = some b_Script_rows := by kernel_rfl
def b_Script_cloth : ISs := .cons (.ret (.fld (.var 0) "goods")) .nil
theorem u_Script_cloth (G : Genv) (ρ : Rho) (k : EV.Flow → Rho → Prop) : wpSs G b_Script_cloth ρ k = wpS G (.ret (.fld (.var 0) "goods")) ρ (thenW G .nil k) := rfl
theorem c_Script_cloth : compSs 60 mcOf ["self"] (defScope (inClass (top 27) 4)) (defBody (inClass (top 27) 4)) = some b_Script_cloth := by kernel_rfl
def b_check_script_t0a_0 : ISs := .cons .never .nil
theorem u_check_script_t0a_0 (G : Genv) (ρ : Rho) (k : EV.Flow → Rho → Prop) : wpSs G b_check_script_t0a_0 ρ k = wpS G .never ρ (thenW G .nil k) := rfl
def b_check_script : ISs := .cons (.ife (.not1 (.val (.isC "Script" (.var 0)))) b_check_script_t0a_0 .nil) .nil
theorem u_check_script (G : Genv) (ρ : Rho) (k : EV.Flow → Rho → Prop) : wpSs G b_check_script ρ k = wpS G (.ife (.not1 (.val (.isC "Script" (.var 0)))) b_check_script_t0a_0 .nil) ρ (thenW G .nil k) := rfl
theorem c_check_script : compSs 60 mcOf ["value"] (defScope (top 28)) (defBody (top 28)) = some b_check_script := by kernel_rfl
def b_check_known_t0b0a_0 : ISs := .cons .never .nil
theorem u_check_known_t0b0a_0 (G : Genv) (ρ : Rho) (k : EV.Flow → Rho → Prop) : wpSs G b_check_known_t0b0a_0 ρ k = wpS G .never ρ (thenW G .nil k) := rfl
def b_check_known_t0b_0 : ISs := .cons (.ife (.val (.prim .eq (.cons (.prim .ix (.cons (.var 2) (.cons (.cst (.int 0)) .nil))) (.cons (.cst (.str "some")) .nil)))) b_check_known_t0b0a_0 .nil) .nil
theorem u_check_known_t0b_0 (G : Genv) (ρ : Rho) (k : EV.Flow → Rho → Prop) : wpSs G b_check_known_t0b_0 ρ k = wpS G (.ife (.val (.prim .eq (.cons (.prim .ix (.cons (.var 2) (.cons (.cst (.int 0)) .nil))) (.cons (.cst (.str "some")) .nil)))) b_check_known_t0b0a_0 .nil) ρ (thenW G .nil k) := rfl
def b_check_known : ISs := .cons (.for (.enum (.fld (.var 0) "steps")) (.tp (.cons (.nm 1) (.cons (.nm 2) .nil))) b_check_known_t0b_0) .nil
theorem u_check_known (G : Genv) (ρ : Rho) (k : EV.Flow → Rho → Prop) : wpSs G b_check_known ρ k = wpS G (.for (.enum (.fld (.var 0) "steps")) (.tp (.cons (.nm 1) (.cons (.nm 2) .nil))) b_check_known_t0b_0) ρ (thenW G .nil k) := rfl
theorem c_check_known : compSs 60 mcOf ["script", "index", "step"] (defScope (top 29)) (defBody (top 29)) = some b_check_known := by kernel_rfl
def b_wrong_place_t_1 : ISs := .cons (.ret (.cst .non)) .nil
theorem u_wrong_place_t_1 (G : Genv) (ρ : Rho) (k : EV.Flow → Rho → Prop) : wpSs G b_wrong_place_t_1 ρ k = wpS G (.ret (.cst .non)) ρ (thenW G .nil k) := rfl
def b_wrong_place_t0b1a_0 : ISs := .cons (.ret (.var 2)) .nil
theorem u_wrong_place_t0b1a_0 (G : Genv) (ρ : Rho) (k : EV.Flow → Rho → Prop) : wpSs G b_wrong_place_t0b1a_0 ρ k = wpS G (.ret (.var 2)) ρ (thenW G .nil k) := rfl
def b_wrong_place_t0b_1 : ISs := .cons (.ife (.and2 (.val (.prim .gt (.cons (.var 2) (.cons (.cst (.int 0)) .nil)))) (.not1 (.val (.chain .le .le (.prim .ix (.cons (.var 0) (.cons (.cst (.int 0)) .nil))) (.prim .sub (.cons (.var 3) (.cons (.prim .ix (.cons (.var 1) (.cons (.prim .sub (.cons (.var 2) (.cons (.cst (.int 1)) .nil))) .nil))) .nil))) (.prim .ix (.cons (.var 0) (.cons (.cst (.int 1)) .nil))))))) b_wrong_place_t0b1a_0 .nil) .nil
theorem u_wrong_place_t0b_1 (G : Genv) (ρ : Rho) (k : EV.Flow → Rho → Prop) : wpSs G b_wrong_place_t0b_1 ρ k = wpS G (.ife (.and2 (.val (.prim .gt (.cons (.var 2) (.cons (.cst (.int 0)) .nil)))) (.not1 (.val (.chain .le .le (.prim .ix (.cons (.var 0) (.cons (.cst (.int 0)) .nil))) (.prim .sub (.cons (.var 3) (.cons (.prim .ix (.cons (.var 1) (.cons (.prim .sub (.cons (.var 2) (.cons (.cst (.int 1)) .nil))) .nil))) .nil))) (.prim .ix (.cons (.var 0) (.cons (.cst (.int 1)) .nil))))))) b_wrong_place_t0b1a_0 .nil) ρ (thenW G .nil k) := rfl
def b_wrong_place_t0b0a_0 : ISs := .cons (.ret (.var 2)) .nil
theorem u_wrong_place_t0b0a_0 (G : Genv) (ρ : Rho) (k : EV.Flow → Rho → Prop) : wpSs G b_wrong_place_t0b0a_0 ρ k = wpS G (.ret (.var 2)) ρ (thenW G .nil k) := rfl
def b_wrong_place_t0b_0 : ISs := .cons (.ife (.or2 (.not1 (.val (.call "is_integer" (.cons (.var 3) .nil)))) (.and2 (.val (.prim .eq (.cons (.var 2) (.cons (.cst (.int 0)) .nil)))) (.and2 (.val (.prim .eq (.cons (.prim .len (.cons (.var 0) .nil)) (.cons (.cst (.int 3)) .nil)))) (.val (.prim .lt (.cons (.var 3) (.cons (.prim .ix (.cons (.var 0) (.cons (.cst (.int 2)) .nil))) .nil))))))) b_wrong_place_t0b0a_0 .nil) b_wrong_place_t0b_1
theorem u_wrong_place_t0b_0 (G : Genv) (ρ : Rho) (k : EV.Flow → Rho → Prop) : wpSs G b_wrong_place_t0b_0 ρ k = wpS G (.ife (.or2 (.not1 (.val (.call "is_integer" (.cons (.var 3) .nil)))) (.and2 (.val (.prim .eq (.cons (.var 2) (.cons (.cst (.int 0)) .nil)))) (.and2 (.val (.prim .eq (.cons (.prim .len (.cons (.var 0) .nil)) (.cons (.cst (.int 3)) .nil)))) (.val (.prim .lt (.cons (.var 3) (.cons (.prim .ix (.cons (.var 0) (.cons (.cst (.int 2)) .nil))) .nil))))))) b_wrong_place_t0b0a_0 .nil) ρ (thenW G b_wrong_place_t0b_1 k) := rfl
def b_wrong_place : ISs := .cons (.for (.enum (.var 1)) (.tp (.cons (.nm 2) (.cons (.nm 3) .nil))) b_wrong_place_t0b_0) b_wrong_place_t_1
theorem u_wrong_place (G : Genv) (ρ : Rho) (k : EV.Flow → Rho → Prop) : wpSs G b_wrong_place ρ k = wpS G (.for (.enum (.var 1)) (.tp (.cons (.nm 2) (.cons (.nm 3) .nil))) b_wrong_place_t0b_0) ρ (thenW G b_wrong_place_t_1 k) := rfl
theorem c_wrong_place : compSs 60 mcOf ["cloth", "places", "index", "place"] (defScope (top 31)) (defBody (top 31)) = some b_wrong_place := by kernel_rfl
def b_check_standing_t2a_0 : ISs := .cons .never .nil
theorem u_check_standing_t2a_0 (G : Genv) (ρ : Rho) (k : EV.Flow → Rho → Prop) : wpSs G b_check_standing_t2a_0 ρ k = wpS G .never ρ (thenW G .nil k) := rfl
def b_check_standing_t_2 : ISs := .cons (.ife (.val (.prim .notN (.cons (.var 2) .nil))) b_check_standing_t2a_0 .nil) .nil
theorem u_check_standing_t_2 (G : Genv) (ρ : Rho) (k : EV.Flow → Rho → Prop) : wpSs G b_check_standing_t_2 ρ k = wpS G (.ife (.val (.prim .notN (.cons (.var 2) .nil))) b_check_standing_t2a_0 .nil) ρ (thenW G .nil k) := rfl
def b_check_standing_t_1 : ISs := .cons (.asg (.nm 2) (.call "wrong_place" (.cons (.var 0) (.cons (.var 1) .nil)))) b_check_standing_t_2
theorem u_check_standing_t_1 (G : Genv) (ρ : Rho) (k : EV.Flow → Rho → Prop) : wpSs G b_check_standing_t_1 ρ k = wpS G (.asg (.nm 2) (.call "wrong_place" (.cons (.var 0) (.cons (.var 1) .nil)))) ρ (thenW G b_check_standing_t_2 k) := rfl
def b_check_standing_t0a_0 : ISs := .cons .never .nil
theorem u_check_standing_t0a_0 (G : Genv) (ρ : Rho) (k : EV.Flow → Rho → Prop) : wpSs G b_check_standing_t0a_0 ρ k = wpS G .never ρ (thenW G .nil k) := rfl
def b_check_standing : ISs := .cons (.ife (.or2 (.not1 (.val (.prim .isTup (.cons (.var 1) .nil)))) (.val (.prim .eq (.cons (.var 1) (.cons (.tup .nil) .nil))))) b_check_standing_t0a_0 .nil) b_check_standing_t_1
theorem u_check_standing (G : Genv) (ρ : Rho) (k : EV.Flow → Rho → Prop) : wpSs G b_check_standing ρ k = wpS G (.ife (.or2 (.not1 (.val (.prim .isTup (.cons (.var 1) .nil)))) (.val (.prim .eq (.cons (.var 1) (.cons (.tup .nil) .nil))))) b_check_standing_t0a_0 .nil) ρ (thenW G b_check_standing_t_1 k) := rfl
theorem c_check_standing : compSs 60 mcOf ["cloth", "places", "index"] (defScope (top 32)) (defBody (top 32)) = some b_check_standing := by kernel_rfl
def b_clamped : ISs := .cons (.ret (.prim .min2 (.cons (.prim .max2 (.cons (.var 0) (.cons (.prim .min2 (.cons (.var 1) (.cons (.var 2) .nil))) .nil))) (.cons (.prim .max2 (.cons (.var 1) (.cons (.var 2) .nil))) .nil)))) .nil
theorem u_clamped (G : Genv) (ρ : Rho) (k : EV.Flow → Rho → Prop) : wpSs G b_clamped ρ k = wpS G (.ret (.prim .min2 (.cons (.prim .max2 (.cons (.var 0) (.cons (.prim .min2 (.cons (.var 1) (.cons (.var 2) .nil))) .nil))) (.cons (.prim .max2 (.cons (.var 1) (.cons (.var 2) .nil))) .nil)))) ρ (thenW G .nil k) := rfl
theorem c_clamped : compSs 60 mcOf ["value", "one", "two"] (defScope (top 33)) (defBody (top 33)) = some b_clamped := by kernel_rfl
def b_goal_of : ISs := .cons (.ret (.ife (.val (.prim .eq (.cons (.prim .len (.cons (.var 0) .nil)) (.cons (.cst (.int 2)) .nil)))) (.var 2) (.prim .max2 (.cons (.var 2) (.cons (.prim .add (.cons (.prim .ix (.cons (.var 0) (.cons (.cst (.int 2)) .nil))) (.cons (.prim .mul (.cons (.var 1) (.cons (.prim .ix (.cons (.var 0) (.cons (.cst (.int 0)) .nil))) .nil))) .nil))) .nil))))) .nil
theorem u_goal_of (G : Genv) (ρ : Rho) (k : EV.Flow → Rho → Prop) : wpSs G b_goal_of ρ k = wpS G (.ret (.ife (.val (.prim .eq (.cons (.prim .len (.cons (.var 0) .nil)) (.cons (.cst (.int 2)) .nil)))) (.var 2) (.prim .max2 (.cons (.var 2) (.cons (.prim .add (.cons (.prim .ix (.cons (.var 0) (.cons (.cst (.int 2)) .nil))) (.cons (.prim .mul (.cons (.var 1) (.cons (.prim .ix (.cons (.var 0) (.cons (.cst (.int 0)) .nil))) .nil))) .nil))) .nil))))) ρ (thenW G .nil k) := rfl
theorem c_goal_of : compSs 60 mcOf ["cloth", "index", "place"] (defScope (top 34)) (defBody (top 34)) = some b_goal_of := by kernel_rfl
def b_drawn_t_2 : ISs := .cons (.ret (.prim .tuple1 (.cons (.var 5) .nil))) .nil
theorem u_drawn_t_2 (G : Genv) (ρ : Rho) (k : EV.Flow → Rho → Prop) : wpSs G b_drawn_t_2 ρ k = wpS G (.ret (.prim .tuple1 (.cons (.var 5) .nil))) ρ (thenW G .nil k) := rfl
def b_drawn_t1b_1 : ISs := .cons (.app (.var 5) (.call "clamped" (.cons (.var 7) (.cons (.prim .add (.cons (.var 4) (.cons (.prim .mul (.cons (.var 8) (.cons (.prim .ix (.cons (.var 0) (.cons (.cst (.int 0)) .nil))) .nil))) .nil))) (.cons (.prim .add (.cons (.var 4) (.cons (.prim .mul (.cons (.var 8) (.cons (.prim .ix (.cons (.var 0) (.cons (.cst (.int 1)) .nil))) .nil))) .nil))) .nil))))) .nil
theorem u_drawn_t1b_1 (G : Genv) (ρ : Rho) (k : EV.Flow → Rho → Prop) : wpSs G b_drawn_t1b_1 ρ k = wpS G (.app (.var 5) (.call "clamped" (.cons (.var 7) (.cons (.prim .add (.cons (.var 4) (.cons (.prim .mul (.cons (.var 8) (.cons (.prim .ix (.cons (.var 0) (.cons (.cst (.int 0)) .nil))) .nil))) .nil))) (.cons (.prim .add (.cons (.var 4) (.cons (.prim .mul (.cons (.var 8) (.cons (.prim .ix (.cons (.var 0) (.cons (.cst (.int 1)) .nil))) .nil))) .nil))) .nil))))) ρ (thenW G .nil k) := rfl
def b_drawn_t1b_0 : ISs := .cons (.asg (.nm 8) (.prim .sub (.cons (.var 6) (.cons (.var 2) .nil)))) b_drawn_t1b_1
theorem u_drawn_t1b_0 (G : Genv) (ρ : Rho) (k : EV.Flow → Rho → Prop) : wpSs G b_drawn_t1b_0 ρ k = wpS G (.asg (.nm 8) (.prim .sub (.cons (.var 6) (.cons (.var 2) .nil)))) ρ (thenW G b_drawn_t1b_1 k) := rfl
def b_drawn_t_1 : ISs := .cons (.for (.enum (.var 1)) (.tp (.cons (.nm 6) (.cons (.nm 7) .nil))) b_drawn_t1b_0) b_drawn_t_2
theorem u_drawn_t_1 (G : Genv) (ρ : Rho) (k : EV.Flow → Rho → Prop) : wpSs G b_drawn_t_1 ρ k = wpS G (.for (.enum (.var 1)) (.tp (.cons (.nm 6) (.cons (.nm 7) .nil))) b_drawn_t1b_0) ρ (thenW G b_drawn_t_2 k) := rfl
def b_drawn : ISs := .cons (.par2 4 5 (.call "goal_of" (.cons (.var 0) (.cons (.var 2) (.cons (.var 3) .nil)))) (.lst .nil)) b_drawn_t_1
theorem u_drawn (G : Genv) (ρ : Rho) (k : EV.Flow → Rho → Prop) : wpSs G b_drawn ρ k = wpS G (.par2 4 5 (.call "goal_of" (.cons (.var 0) (.cons (.var 2) (.cons (.var 3) .nil)))) (.lst .nil)) ρ (thenW G b_drawn_t_1 k) := rfl
theorem c_drawn : compSs 60 mcOf ["cloth", "places", "index", "place", "goal", "found", "at", "old", "far"] (defScope (top 35)) (defBody (top 35)) = some b_drawn := by kernel_rfl
def b_carried : ISs := .cons (.ret (.ife (.val (.prim .eq (.cons (.prim .len (.cons (.var 0) .nil)) (.cons (.cst (.int 2)) .nil)))) (.var 0) (.tup (.cons (.prim .ix (.cons (.var 0) (.cons (.cst (.int 0)) .nil))) (.cons (.prim .ix (.cons (.var 0) (.cons (.cst (.int 1)) .nil))) (.cons (.prim .add (.cons (.prim .ix (.cons (.var 0) (.cons (.cst (.int 2)) .nil))) (.cons (.var 1) .nil))) .nil)))))) .nil
theorem u_carried (G : Genv) (ρ : Rho) (k : EV.Flow → Rho → Prop) : wpSs G b_carried ρ k = wpS G (.ret (.ife (.val (.prim .eq (.cons (.prim .len (.cons (.var 0) .nil)) (.cons (.cst (.int 2)) .nil)))) (.var 0) (.tup (.cons (.prim .ix (.cons (.var 0) (.cons (.cst (.int 0)) .nil))) (.cons (.prim .ix (.cons (.var 0) (.cons (.cst (.int 1)) .nil))) (.cons (.prim .add (.cons (.prim .ix (.cons (.var 0) (.cons (.cst (.int 2)) .nil))) (.cons (.var 1) .nil))) .nil)))))) ρ (thenW G .nil k) := rfl
theorem c_carried : compSs 60 mcOf ["cloth", "by"] (defScope (top 36)) (defBody (top 36)) = some b_carried := by kernel_rfl
def b_moved_t_4 : ISs := .cons (.ret (.tup (.cons (.var 0) (.cons (.call "drawn" (.cons (.var 0) (.cons (.var 1) (.cons (.ife (.val (.prim .eq (.cons (.var 3) (.cons (.cst (.str "left")) .nil)))) (.prim .sub (.cons (.var 4) (.cons (.cst (.int 1)) .nil))) (.prim .sub (.cons (.prim .len (.cons (.var 1) .nil)) (.cons (.var 4) .nil)))) (.cons (.var 5) .nil))))) .nil)))) .nil
theorem u_moved_t_4 (G : Genv) (ρ : Rho) (k : EV.Flow → Rho → Prop) : wpSs G b_moved_t_4 ρ k = wpS G (.ret (.tup (.cons (.var 0) (.cons (.call "drawn" (.cons (.var 0) (.cons (.var 1) (.cons (.ife (.val (.prim .eq (.cons (.var 3) (.cons (.cst (.str "left")) .nil)))) (.prim .sub (.cons (.var 4) (.cons (.cst (.int 1)) .nil))) (.prim .sub (.cons (.prim .len (.cons (.var 1) .nil)) (.cons (.var 4) .nil)))) (.cons (.var 5) .nil))))) .nil)))) ρ (thenW G .nil k) := rfl
def b_moved_t3a_1 : ISs := .cons (.ret (.tup (.cons (.var 0) (.cons (.call "drawn" (.cons (.var 0) (.cons (.var 1) (.cons (.ife (.val (.prim .eq (.cons (.var 4) (.cons (.cst (.str "left")) .nil)))) (.cst (.int 0)) (.prim .sub (.cons (.prim .len (.cons (.var 1) .nil)) (.cons (.cst (.int 1)) .nil)))) (.cons (.var 5) .nil))))) .nil)))) .nil
theorem u_moved_t3a_1 (G : Genv) (ρ : Rho) (k : EV.Flow → Rho → Prop) : wpSs G b_moved_t3a_1 ρ k = wpS G (.ret (.tup (.cons (.var 0) (.cons (.call "drawn" (.cons (.var 0) (.cons (.var 1) (.cons (.ife (.val (.prim .eq (.cons (.var 4) (.cons (.cst (.str "left")) .nil)))) (.cst (.int 0)) (.prim .sub (.cons (.prim .len (.cons (.var 1) .nil)) (.cons (.cst (.int 1)) .nil)))) (.cons (.var 5) .nil))))) .nil)))) ρ (thenW G .nil k) := rfl
def b_moved_t3a_0 : ISs := .cons (.asg (.nm 1) (.ife (.val (.prim .eq (.cons (.var 4) (.cons (.cst (.str "left")) .nil)))) (.tup (.cons (.var 5) (.star (.var 1) .nil))) (.tup (.star (.var 1) (.cons (.var 5) .nil))))) b_moved_t3a_1
theorem u_moved_t3a_0 (G : Genv) (ρ : Rho) (k : EV.Flow → Rho → Prop) : wpSs G b_moved_t3a_0 ρ k = wpS G (.asg (.nm 1) (.ife (.val (.prim .eq (.cons (.var 4) (.cons (.cst (.str "left")) .nil)))) (.tup (.cons (.var 5) (.star (.var 1) .nil))) (.tup (.star (.var 1) (.cons (.var 5) .nil))))) ρ (thenW G b_moved_t3a_1 k) := rfl
def b_moved_t_3 : ISs := .cons (.ife (.val (.prim .eq (.cons (.var 3) (.cons (.cst (.str "on")) .nil)))) b_moved_t3a_0 .nil) b_moved_t_4
theorem u_moved_t_3 (G : Genv) (ρ : Rho) (k : EV.Flow → Rho → Prop) : wpSs G b_moved_t_3 ρ k = wpS G (.ife (.val (.prim .eq (.cons (.var 3) (.cons (.cst (.str "on")) .nil)))) b_moved_t3a_0 .nil) ρ (thenW G b_moved_t_4 k) := rfl
def b_moved_t2a_0 : ISs := .cons (.ret (.tup (.cons (.var 0) (.cons (.ife (.val (.prim .eq (.cons (.var 4) (.cons (.cst (.str "left")) .nil)))) (.slc (.var 1) (.so (.cst (.int 1))) .no) (.slc (.var 1) .no (.so (.prim .neg (.cons (.cst (.int 1)) .nil))))) .nil)))) .nil
theorem u_moved_t2a_0 (G : Genv) (ρ : Rho) (k : EV.Flow → Rho → Prop) : wpSs G b_moved_t2a_0 ρ k = wpS G (.ret (.tup (.cons (.var 0) (.cons (.ife (.val (.prim .eq (.cons (.var 4) (.cons (.cst (.str "left")) .nil)))) (.slc (.var 1) (.so (.cst (.int 1))) .no) (.slc (.var 1) .no (.so (.prim .neg (.cons (.cst (.int 1)) .nil))))) .nil)))) ρ (thenW G .nil k) := rfl
def b_moved_t_2 : ISs := .cons (.ife (.val (.prim .eq (.cons (.var 3) (.cons (.cst (.str "off")) .nil)))) b_moved_t2a_0 .nil) b_moved_t_3
theorem u_moved_t_2 (G : Genv) (ρ : Rho) (k : EV.Flow → Rho → Prop) : wpSs G b_moved_t_2 ρ k = wpS G (.ife (.val (.prim .eq (.cons (.var 3) (.cons (.cst (.str "off")) .nil)))) b_moved_t2a_0 .nil) ρ (thenW G b_moved_t_3 k) := rfl
def b_moved_t1a_0 : ISs := .cons (.ret (.tup (.cons (.call "carried" (.cons (.var 0) (.cons (.var 5) .nil))) (.cons (.prim .tuple1 (.cons (.lc (.seq (.var 1)) (.nm 6) .tt (.prim .add (.cons (.var 6) (.cons (.var 5) .nil))) [6]) .nil)) .nil)))) .nil
theorem u_moved_t1a_0 (G : Genv) (ρ : Rho) (k : EV.Flow → Rho → Prop) : wpSs G b_moved_t1a_0 ρ k = wpS G (.ret (.tup (.cons (.call "carried" (.cons (.var 0) (.cons (.var 5) .nil))) (.cons (.prim .tuple1 (.cons (.lc (.seq (.var 1)) (.nm 6) .tt (.prim .add (.cons (.var 6) (.cons (.var 5) .nil))) [6]) .nil)) .nil)))) ρ (thenW G .nil k) := rfl
def b_moved_t_1 : ISs := .cons (.ife (.val (.prim .eq (.cons (.var 3) (.cons (.cst (.str "carry")) .nil)))) b_moved_t1a_0 .nil) b_moved_t_2
theorem u_moved_t_1 (G : Genv) (ρ : Rho) (k : EV.Flow → Rho → Prop) : wpSs G b_moved_t_1 ρ k = wpS G (.ife (.val (.prim .eq (.cons (.var 3) (.cons (.cst (.str "carry")) .nil)))) b_moved_t1a_0 .nil) ρ (thenW G b_moved_t_2 k) := rfl
def b_moved : ISs := .cons (.asg (.tp (.cons (.nm 3) (.cons (.nm 4) (.cons (.nm 5) .nil)))) (.var 2)) b_moved_t_1
theorem u_moved (G : Genv) (ρ : Rho) (k : EV.Flow → Rho → Prop) : wpSs G b_moved ρ k = wpS G (.asg (.tp (.cons (.nm 3) (.cons (.nm 4) (.cons (.nm 5) .nil)))) (.var 2)) ρ (thenW G b_moved_t_1 k) := rfl
theorem c_moved : compSs 60 mcOf ["cloth", "places", "step", "word", "side", "place", "old"] (defScope (top 37)) (defBody (top 37)) = some b_moved := by kernel_rfl
def b_first_too_few_t_1 : ISs := .cons (.ret (.cst .non)) .nil
theorem u_first_too_few_t_1 (G : Genv) (ρ : Rho) (k : EV.Flow → Rho → Prop) : wpSs G b_first_too_few_t_1 ρ k = wpS G (.ret (.cst .non)) ρ (thenW G .nil k) := rfl
def b_first_too_few_t0b_1 : ISs := .cons (.aug 1 false (.call "more_by" (.cons (.var 3) .nil))) .nil
theorem u_first_too_few_t0b_1 (G : Genv) (ρ : Rho) (k : EV.Flow → Rho → Prop) : wpSs G b_first_too_few_t0b_1 ρ k = wpS G (.aug 1 false (.call "more_by" (.cons (.var 3) .nil))) ρ (thenW G .nil k) := rfl
def b_first_too_few_t0b0a_0 : ISs := .cons (.ret (.var 2)) .nil
theorem u_first_too_few_t0b0a_0 (G : Genv) (ρ : Rho) (k : EV.Flow → Rho → Prop) : wpSs G b_first_too_few_t0b0a_0 ρ k = wpS G (.ret (.var 2)) ρ (thenW G .nil k) := rfl
def b_first_too_few_t0b_0 : ISs := .cons (.ife (.val (.prim .lt (.cons (.var 1) (.cons (.call "asked_by" (.cons (.var 3) .nil)) .nil)))) b_first_too_few_t0b0a_0 .nil) b_first_too_few_t0b_1
theorem u_first_too_few_t0b_0 (G : Genv) (ρ : Rho) (k : EV.Flow → Rho → Prop) : wpSs G b_first_too_few_t0b_0 ρ k = wpS G (.ife (.val (.prim .lt (.cons (.var 1) (.cons (.call "asked_by" (.cons (.var 3) .nil)) .nil)))) b_first_too_few_t0b0a_0 .nil) ρ (thenW G b_first_too_few_t0b_1 k) := rfl
def b_first_too_few : ISs := .cons (.for (.enum (.fld (.var 0) "steps")) (.tp (.cons (.nm 2) (.cons (.nm 3) .nil))) b_first_too_few_t0b_0) b_first_too_few_t_1
theorem u_first_too_few (G : Genv) (ρ : Rho) (k : EV.Flow → Rho → Prop) : wpSs G b_first_too_few ρ k = wpS G (.for (.enum (.fld (.var 0) "steps")) (.tp (.cons (.nm 2) (.cons (.nm 3) .nil))) b_first_too_few_t0b_0) ρ (thenW G b_first_too_few_t_1 k) := rfl
theorem c_first_too_few : compSs 60 mcOf ["script", "count", "index", "step"] (defScope (top 38)) (defBody (top 38)) = some b_first_too_few := by kernel_rfl
def b_led_t_7 : ISs := .cons (.ret (.var 1)) .nil
theorem u_led_t_7 (G : Genv) (ρ : Rho) (k : EV.Flow → Rho → Prop) : wpSs G b_led_t_7 ρ k = wpS G (.ret (.var 1)) ρ (thenW G .nil k) := rfl
def b_led_t6b_0 : ISs := .cons (.asg (.tp (.cons (.nm 3) (.cons (.nm 1) .nil))) (.call "moved" (.cons (.var 3) (.cons (.var 1) (.cons (.var 4) .nil))))) .nil
theorem u_led_t6b_0 (G : Genv) (ρ : Rho) (k : EV.Flow → Rho → Prop) : wpSs G b_led_t6b_0 ρ k = wpS G (.asg (.tp (.cons (.nm 3) (.cons (.nm 1) .nil))) (.call "moved" (.cons (.var 3) (.cons (.var 1) (.cons (.var 4) .nil))))) ρ (thenW G .nil k) := rfl
def b_led_t_6 : ISs := .cons (.for (.seq (.fld (.var 0) "steps")) (.nm 4) b_led_t6b_0) b_led_t_7
theorem u_led_t_6 (G : Genv) (ρ : Rho) (k : EV.Flow → Rho → Prop) : wpSs G b_led_t_6 ρ k = wpS G (.for (.seq (.fld (.var 0) "steps")) (.nm 4) b_led_t6b_0) ρ (thenW G b_led_t_7 k) := rfl
def b_led_t_5 : ISs := .cons (.asg (.nm 3) (.fld (.var 0) "cloth")) b_led_t_6
theorem u_led_t_5 (G : Genv) (ρ : Rho) (k : EV.Flow → Rho → Prop) : wpSs G b_led_t_5 ρ k = wpS G (.asg (.nm 3) (.fld (.var 0) "cloth")) ρ (thenW G b_led_t_6 k) := rfl
def b_led_t4a_0 : ISs := .cons .never .nil
theorem u_led_t4a_0 (G : Genv) (ρ : Rho) (k : EV.Flow → Rho → Prop) : wpSs G b_led_t4a_0 ρ k = wpS G .never ρ (thenW G .nil k) := rfl
def b_led_t_4 : ISs := .cons (.ife (.val (.prim .notN (.cons (.var 2) .nil))) b_led_t4a_0 .nil) b_led_t_5
theorem u_led_t_4 (G : Genv) (ρ : Rho) (k : EV.Flow → Rho → Prop) : wpSs G b_led_t_4 ρ k = wpS G (.ife (.val (.prim .notN (.cons (.var 2) .nil))) b_led_t4a_0 .nil) ρ (thenW G b_led_t_5 k) := rfl
def b_led_t_3 : ISs := .cons (.asg (.nm 2) (.call "first_too_few" (.cons (.var 0) (.cons (.prim .len (.cons (.var 1) .nil)) .nil)))) b_led_t_4
theorem u_led_t_3 (G : Genv) (ρ : Rho) (k : EV.Flow → Rho → Prop) : wpSs G b_led_t_3 ρ k = wpS G (.asg (.nm 2) (.call "first_too_few" (.cons (.var 0) (.cons (.prim .len (.cons (.var 1) .nil)) .nil)))) ρ (thenW G b_led_t_4 k) := rfl
def b_led_t_2 : ISs := .cons (.expr (.call "check_standing" (.cons (.fld (.var 0) "cloth") (.cons (.var 1) .nil)))) b_led_t_3
theorem u_led_t_2 (G : Genv) (ρ : Rho) (k : EV.Flow → Rho → Prop) : wpSs G b_led_t_2 ρ k = wpS G (.expr (.call "check_standing" (.cons (.fld (.var 0) "cloth") (.cons (.var 1) .nil)))) ρ (thenW G b_led_t_3 k) := rfl
def b_led_t_1 : ISs := .cons (.expr (.call "check_known" (.cons (.var 0) .nil))) b_led_t_2
theorem u_led_t_1 (G : Genv) (ρ : Rho) (k : EV.Flow → Rho → Prop) : wpSs G b_led_t_1 ρ k = wpS G (.expr (.call "check_known" (.cons (.var 0) .nil))) ρ (thenW G b_led_t_2 k) := rfl
def b_led : ISs := .cons (.expr (.call "check_script" (.cons (.var 0) .nil))) b_led_t_1
theorem u_led (G : Genv) (ρ : Rho) (k : EV.Flow → Rho → Prop) : wpSs G b_led ρ k = wpS G (.expr (.call "check_script" (.cons (.var 0) .nil))) ρ (thenW G b_led_t_1 k) := rfl
theorem c_led : compSs 60 mcOf ["script", "places", "index", "cloth", "step"] (defScope (top 39)) (defBody (top 39)) = some b_led := by kernel_rfl
def b__law_spring_t_3 : ISs := .cons (.ret (.lst (.cons (.ife (.or2 (.val (.prim .lt (.cons (.var 2) (.cons (.cst (.int 0)) .nil)))) (.val (.prim .ge (.cons (.var 2) (.cons (.prim .pow (.cons (.cst (.int 10)) (.cons (.cst (.int 18)) .nil))) .nil))))) (.prim .abs (.cons (.var 2) .nil)) (.cst (.int 0))) (.cons (.var 3) (.cons (.cst (.int 0)) .nil))))) .nil
theorem u__law_spring_t_3 (G : Genv) (ρ : Rho) (k : EV.Flow → Rho → Prop) : wpSs G b__law_spring_t_3 ρ k = wpS G (.ret (.lst (.cons (.ife (.or2 (.val (.prim .lt (.cons (.var 2) (.cons (.cst (.int 0)) .nil)))) (.val (.prim .ge (.cons (.var 2) (.cons (.prim .pow (.cons (.cst (.int 10)) (.cons (.cst (.int 18)) .nil))) .nil))))) (.prim .abs (.cons (.var 2) .nil)) (.cst (.int 0))) (.cons (.var 3) (.cons (.cst (.int 0)) .nil))))) ρ (thenW G .nil k) := rfl
def b__law_spring_t2b_0 : ISs := .cons (.asg (.nm 3) (.prim .mod (.cons (.prim .int1 (.cons (.prim .add (.cons (.prim .add (.cons (.prim .mul (.cons (.var 3) (.cons (.cst (.int 48271)) .nil))) (.cons (.prim .int1 (.cons (.var 4) .nil)) .nil))) (.cons (.prim .mul (.cons (.cst (.int 11)) (.cons (.var 1) .nil))) .nil))) .nil)) (.cons (.cst (.int 2147483647)) .nil)))) .nil
theorem u__law_spring_t2b_0 (G : Genv) (ρ : Rho) (k : EV.Flow → Rho → Prop) : wpSs G b__law_spring_t2b_0 ρ k = wpS G (.asg (.nm 3) (.prim .mod (.cons (.prim .int1 (.cons (.prim .add (.cons (.prim .add (.cons (.prim .mul (.cons (.var 3) (.cons (.cst (.int 48271)) .nil))) (.cons (.prim .int1 (.cons (.var 4) .nil)) .nil))) (.cons (.prim .mul (.cons (.cst (.int 11)) (.cons (.var 1) .nil))) .nil))) .nil)) (.cons (.cst (.int 2147483647)) .nil)))) ρ (thenW G .nil k) := rfl
def b__law_spring_t_2 : ISs := .cons (.for (.seq (.prim .add (.cons (.slc (.var 0) .no (.so (.cst (.int 8)))) (.cons (.lst (.cons (.var 2) .nil)) .nil)))) (.nm 4) b__law_spring_t2b_0) b__law_spring_t_3
theorem u__law_spring_t_2 (G : Genv) (ρ : Rho) (k : EV.Flow → Rho → Prop) : wpSs G b__law_spring_t_2 ρ k = wpS G (.for (.seq (.prim .add (.cons (.slc (.var 0) .no (.so (.cst (.int 8)))) (.cons (.lst (.cons (.var 2) .nil)) .nil)))) (.nm 4) b__law_spring_t2b_0) ρ (thenW G b__law_spring_t_3 k) := rfl
def b__law_spring_t_1 : ISs := .cons (.asg (.nm 3) (.prim .add (.cons (.cst (.int 90001)) (.cons (.prim .mul (.cons (.cst (.int 7919)) (.cons (.var 1) .nil))) .nil)))) b__law_spring_t_2
theorem u__law_spring_t_1 (G : Genv) (ρ : Rho) (k : EV.Flow → Rho → Prop) : wpSs G b__law_spring_t_1 ρ k = wpS G (.asg (.nm 3) (.prim .add (.cons (.cst (.int 90001)) (.cons (.prim .mul (.cons (.cst (.int 7919)) (.cons (.var 1) .nil))) .nil)))) ρ (thenW G b__law_spring_t_2 k) := rfl
def b__law_spring : ISs := .cons (.asg (.nm 2) (.ife (.val (.prim .lt (.cons (.var 1) (.cons (.prim .len (.cons (.var 0) .nil)) .nil)))) (.prim .ix (.cons (.var 0) (.cons (.var 1) .nil))) (.prim .add (.cons (.prim .mul (.cons (.cst (.int 7)) (.cons (.var 1) .nil))) (.cons (.cst (.int 2)) .nil))))) b__law_spring_t_1
theorem u__law_spring (G : Genv) (ρ : Rho) (k : EV.Flow → Rho → Prop) : wpSs G b__law_spring ρ k = wpS G (.asg (.nm 2) (.ife (.val (.prim .lt (.cons (.var 1) (.cons (.prim .len (.cons (.var 0) .nil)) .nil)))) (.prim .ix (.cons (.var 0) (.cons (.var 1) .nil))) (.prim .add (.cons (.prim .mul (.cons (.cst (.int 7)) (.cons (.var 1) .nil))) (.cons (.cst (.int 2)) .nil))))) ρ (thenW G b__law_spring_t_1 k) := rfl
theorem c__law_spring : compSs 60 mcOf ["cells", "k", "cell", "mixed", "number"] (defScope (top 41)) (defBody (top 41)) = some b__law_spring := by kernel_rfl
def b__law_draw_t_5 : ISs := .cons (.ret (.prim .mod (.cons (.prim .int1 (.cons (.prim .fdiv (.cons (.var 3) (.cons (.cst (.int 256)) .nil))) .nil)) (.cons (.var 1) .nil)))) .nil
theorem u__law_draw_t_5 (G : Genv) (ρ : Rho) (k : EV.Flow → Rho → Prop) : wpSs G b__law_draw_t_5 ρ k = wpS G (.ret (.prim .mod (.cons (.prim .int1 (.cons (.prim .fdiv (.cons (.var 3) (.cons (.cst (.int 256)) .nil))) .nil)) (.cons (.var 1) .nil)))) ρ (thenW G .nil k) := rfl
def b__law_draw_t_4 : ISs := .cons (.asg (.nm 3) (.prim .mod (.cons (.prim .int1 (.cons (.prim .add (.cons (.prim .mul (.cons (.var 2) (.cons (.prim .ix (.cons (.var 0) (.cons (.cst (.int 1)) .nil))) .nil))) (.cons (.prim .ix (.cons (.var 0) (.cons (.cst (.int 2)) .nil))) .nil))) .nil)) (.cons (.cst (.int 2147483629)) .nil)))) b__law_draw_t_5
theorem u__law_draw_t_4 (G : Genv) (ρ : Rho) (k : EV.Flow → Rho → Prop) : wpSs G b__law_draw_t_4 ρ k = wpS G (.asg (.nm 3) (.prim .mod (.cons (.prim .int1 (.cons (.prim .add (.cons (.prim .mul (.cons (.var 2) (.cons (.prim .ix (.cons (.var 0) (.cons (.cst (.int 1)) .nil))) .nil))) (.cons (.prim .ix (.cons (.var 0) (.cons (.cst (.int 2)) .nil))) .nil))) .nil)) (.cons (.cst (.int 2147483629)) .nil)))) ρ (thenW G b__law_draw_t_5 k) := rfl
def b__law_draw_t_3 : ISs := .cons (.asg (.nm 2) (.prim .add (.cons (.prim .ix (.cons (.var 0) (.cons (.cst (.int 1)) .nil))) (.cons (.cst (.int 12345)) .nil)))) b__law_draw_t_4
theorem u__law_draw_t_3 (G : Genv) (ρ : Rho) (k : EV.Flow → Rho → Prop) : wpSs G b__law_draw_t_3 ρ k = wpS G (.asg (.nm 2) (.prim .add (.cons (.prim .ix (.cons (.var 0) (.cons (.cst (.int 1)) .nil))) (.cons (.cst (.int 12345)) .nil)))) ρ (thenW G b__law_draw_t_4 k) := rfl
def b__law_draw_t2a_1 : ISs := .cons (.ret (.var 4)) .nil
theorem u__law_draw_t2a_1 (G : Genv) (ρ : Rho) (k : EV.Flow → Rho → Prop) : wpSs G b__law_draw_t2a_1 ρ k = wpS G (.ret (.var 4)) ρ (thenW G .nil k) := rfl
def b__law_draw_t2a_0 : ISs := .cons (.asg (.tp (.cons (.sub (.var 0) (.cst (.int 0))) (.cons (.nm 4) .nil))) (.prim .divmod (.cons (.prim .ix (.cons (.var 0) (.cons (.cst (.int 0)) .nil))) (.cons (.var 1) .nil)))) b__law_draw_t2a_1
theorem u__law_draw_t2a_0 (G : Genv) (ρ : Rho) (k : EV.Flow → Rho → Prop) : wpSs G b__law_draw_t2a_0 ρ k = wpS G (.asg (.tp (.cons (.sub (.var 0) (.cst (.int 0))) (.cons (.nm 4) .nil))) (.prim .divmod (.cons (.prim .ix (.cons (.var 0) (.cons (.cst (.int 0)) .nil))) (.cons (.var 1) .nil)))) ρ (thenW G b__law_draw_t2a_1 k) := rfl
def b__law_draw_t_2 : ISs := .cons (.ife (.val (.prim .gt (.cons (.prim .ix (.cons (.var 0) (.cons (.cst (.int 0)) .nil))) (.cons (.cst (.int 0)) .nil)))) b__law_draw_t2a_0 .nil) b__law_draw_t_3
theorem u__law_draw_t_2 (G : Genv) (ρ : Rho) (k : EV.Flow → Rho → Prop) : wpSs G b__law_draw_t_2 ρ k = wpS G (.ife (.val (.prim .gt (.cons (.prim .ix (.cons (.var 0) (.cons (.cst (.int 0)) .nil))) (.cons (.cst (.int 0)) .nil)))) b__law_draw_t2a_0 .nil) ρ (thenW G b__law_draw_t_3 k) := rfl
def b__law_draw_t_1 : ISs := .cons (.asg (.sub (.var 0) (.cst (.int 1))) (.prim .mod (.cons (.prim .int1 (.cons (.prim .add (.cons (.prim .add (.cons (.prim .mul (.cons (.prim .ix (.cons (.var 0) (.cons (.cst (.int 1)) .nil))) (.cons (.cst (.int 69621)) .nil))) (.cons (.prim .mul (.cons (.cst (.int 40503)) (.cons (.prim .ix (.cons (.var 0) (.cons (.cst (.int 2)) .nil))) .nil))) .nil))) (.cons (.cst (.int 1)) .nil))) .nil)) (.cons (.cst (.int 2147483647)) .nil)))) b__law_draw_t_2
theorem u__law_draw_t_1 (G : Genv) (ρ : Rho) (k : EV.Flow → Rho → Prop) : wpSs G b__law_draw_t_1 ρ k = wpS G (.asg (.sub (.var 0) (.cst (.int 1))) (.prim .mod (.cons (.prim .int1 (.cons (.prim .add (.cons (.prim .add (.cons (.prim .mul (.cons (.prim .ix (.cons (.var 0) (.cons (.cst (.int 1)) .nil))) (.cons (.cst (.int 69621)) .nil))) (.cons (.prim .mul (.cons (.cst (.int 40503)) (.cons (.prim .ix (.cons (.var 0) (.cons (.cst (.int 2)) .nil))) .nil))) .nil))) (.cons (.cst (.int 1)) .nil))) .nil)) (.cons (.cst (.int 2147483647)) .nil)))) ρ (thenW G b__law_draw_t_2 k) := rfl
def b__law_draw : ISs := .cons (.asg (.sub (.var 0) (.cst (.int 2))) (.prim .add (.cons (.prim .ix (.cons (.var 0) (.cons (.cst (.int 2)) .nil))) (.cons (.cst (.int 1)) .nil)))) b__law_draw_t_1
theorem u__law_draw (G : Genv) (ρ : Rho) (k : EV.Flow → Rho → Prop) : wpSs G b__law_draw ρ k = wpS G (.asg (.sub (.var 0) (.cst (.int 2))) (.prim .add (.cons (.prim .ix (.cons (.var 0) (.cons (.cst (.int 2)) .nil))) (.cons (.cst (.int 1)) .nil)))) ρ (thenW G b__law_draw_t_1 k) := rfl
theorem c__law_draw : compSs 60 mcOf ["spring", "size", "far", "mixed", "digit"] (defScope (top 42)) (defBody (top 42)) = some b__law_draw := by kernel_rfl
def b__law_of : ISs := .cons (.ret (.prim .ix (.cons (.var 1) (.cons (.call "_law_draw" (.cons (.var 0) (.cons (.prim .len (.cons (.var 1) .nil)) .nil))) .nil)))) .nil
theorem u__law_of (G : Genv) (ρ : Rho) (k : EV.Flow → Rho → Prop) : wpSs G b__law_of ρ k = wpS G (.ret (.prim .ix (.cons (.var 1) (.cons (.call "_law_draw" (.cons (.var 0) (.cons (.prim .len (.cons (.var 1) .nil)) .nil))) .nil)))) ρ (thenW G .nil k) := rfl
theorem c__law_of : compSs 60 mcOf ["spring", "menu"] (defScope (top 43)) (defBody (top 43)) = some b__law_of := by kernel_rfl
def b__law_small_place : ISs := .cons (.ret (.prim .sub (.cons (.call "_law_draw" (.cons (.var 0) (.cons (.cst (.int 25)) .nil))) (.cons (.cst (.int 12)) .nil)))) .nil
theorem u__law_small_place (G : Genv) (ρ : Rho) (k : EV.Flow → Rho → Prop) : wpSs G b__law_small_place ρ k = wpS G (.ret (.prim .sub (.cons (.call "_law_draw" (.cons (.var 0) (.cons (.cst (.int 25)) .nil))) (.cons (.cst (.int 12)) .nil)))) ρ (thenW G .nil k) := rfl
theorem c__law_small_place : compSs 60 mcOf ["spring"] (defScope (top 44)) (defBody (top 44)) = some b__law_small_place := by kernel_rfl
def b__law_cloth_row_t_3 : ISs := .cons (.ret (.ife (.val (.prim .eq (.cons (.call "_law_draw" (.cons (.var 0) (.cons (.cst (.int 3)) .nil))) (.cons (.cst (.int 0)) .nil)))) (.prim .add (.cons (.prim .add (.cons (.var 3) (.cons (.cst (.str " from ")) .nil))) (.cons (.prim .str1 (.cons (.prim .sub (.cons (.call "_law_draw" (.cons (.var 0) (.cons (.cst (.int 9)) .nil))) (.cons (.cst (.int 6)) .nil))) .nil)) .nil))) (.var 3))) .nil
theorem u__law_cloth_row_t_3 (G : Genv) (ρ : Rho) (k : EV.Flow → Rho → Prop) : wpSs G b__law_cloth_row_t_3 ρ k = wpS G (.ret (.ife (.val (.prim .eq (.cons (.call "_law_draw" (.cons (.var 0) (.cons (.cst (.int 3)) .nil))) (.cons (.cst (.int 0)) .nil)))) (.prim .add (.cons (.prim .add (.cons (.var 3) (.cons (.cst (.str " from ")) .nil))) (.cons (.prim .str1 (.cons (.prim .sub (.cons (.call "_law_draw" (.cons (.var 0) (.cons (.cst (.int 9)) .nil))) (.cons (.cst (.int 6)) .nil))) .nil)) .nil))) (.var 3))) ρ (thenW G .nil k) := rfl
def b__law_cloth_row_t_2 : ISs := .cons (.asg (.nm 3) (.prim .add (.cons (.prim .add (.cons (.prim .add (.cons (.cst (.str "cloth ")) (.cons (.prim .str1 (.cons (.var 1) .nil)) .nil))) (.cons (.cst (.str " ")) .nil))) (.cons (.prim .str1 (.cons (.var 2) .nil)) .nil)))) b__law_cloth_row_t_3
theorem u__law_cloth_row_t_2 (G : Genv) (ρ : Rho) (k : EV.Flow → Rho → Prop) : wpSs G b__law_cloth_row_t_2 ρ k = wpS G (.asg (.nm 3) (.prim .add (.cons (.prim .add (.cons (.prim .add (.cons (.cst (.str "cloth ")) (.cons (.prim .str1 (.cons (.var 1) .nil)) .nil))) (.cons (.cst (.str " ")) .nil))) (.cons (.prim .str1 (.cons (.var 2) .nil)) .nil)))) ρ (thenW G b__law_cloth_row_t_3 k) := rfl
def b__law_cloth_row_t_1 : ISs := .cons (.asg (.nm 2) (.prim .add (.cons (.prim .add (.cons (.var 1) (.cons (.cst (.int 1)) .nil))) (.cons (.call "_law_draw" (.cons (.var 0) (.cons (.cst (.int 3)) .nil))) .nil)))) b__law_cloth_row_t_2
theorem u__law_cloth_row_t_1 (G : Genv) (ρ : Rho) (k : EV.Flow → Rho → Prop) : wpSs G b__law_cloth_row_t_1 ρ k = wpS G (.asg (.nm 2) (.prim .add (.cons (.prim .add (.cons (.var 1) (.cons (.cst (.int 1)) .nil))) (.cons (.call "_law_draw" (.cons (.var 0) (.cons (.cst (.int 3)) .nil))) .nil)))) ρ (thenW G b__law_cloth_row_t_2 k) := rfl
def b__law_cloth_row : ISs := .cons (.asg (.nm 1) (.prim .add (.cons (.cst (.int 1)) (.cons (.call "_law_draw" (.cons (.var 0) (.cons (.cst (.int 3)) .nil))) .nil)))) b__law_cloth_row_t_1
theorem u__law_cloth_row (G : Genv) (ρ : Rho) (k : EV.Flow → Rho → Prop) : wpSs G b__law_cloth_row ρ k = wpS G (.asg (.nm 1) (.prim .add (.cons (.cst (.int 1)) (.cons (.call "_law_draw" (.cons (.var 0) (.cons (.cst (.int 3)) .nil))) .nil)))) ρ (thenW G b__law_cloth_row_t_1 k) := rfl
theorem c__law_cloth_row : compSs 60 mcOf ["spring", "near", "far", "row_now"] (defScope (top 45)) (defBody (top 45)) = some b__law_cloth_row := by kernel_rfl
def b__law_move_t_5 : ISs := .cons (.ret (.ife (.val (.prim .eq (.cons (.var 3) (.cons (.cst (.int 7)) .nil)))) (.prim .add (.cons (.cst (.str "off ")) (.cons (.var 2) .nil))) (.prim .add (.cons (.prim .add (.cons (.prim .add (.cons (.cst (.str "on ")) (.cons (.var 2) .nil))) (.cons (.cst (.str " ")) .nil))) (.cons (.prim .str1 (.cons (.var 1) .nil)) .nil))))) .nil
theorem u__law_move_t_5 (G : Genv) (ρ : Rho) (k : EV.Flow → Rho → Prop) : wpSs G b__law_move_t_5 ρ k = wpS G (.ret (.ife (.val (.prim .eq (.cons (.var 3) (.cons (.cst (.int 7)) .nil)))) (.prim .add (.cons (.cst (.str "off ")) (.cons (.var 2) .nil))) (.prim .add (.cons (.prim .add (.cons (.prim .add (.cons (.cst (.str "on ")) (.cons (.var 2) .nil))) (.cons (.cst (.str " ")) .nil))) (.cons (.prim .str1 (.cons (.var 1) .nil)) .nil))))) ρ (thenW G .nil k) := rfl
def b__law_move_t_4 : ISs := .cons (.asg (.nm 2) (.call "_law_of" (.cons (.var 0) (.cons (.lst (.cons (.cst (.str "left")) (.cons (.cst (.str "right")) .nil))) .nil)))) b__law_move_t_5
theorem u__law_move_t_4 (G : Genv) (ρ : Rho) (k : EV.Flow → Rho → Prop) : wpSs G b__law_move_t_4 ρ k = wpS G (.asg (.nm 2) (.call "_law_of" (.cons (.var 0) (.cons (.lst (.cons (.cst (.str "left")) (.cons (.cst (.str "right")) .nil))) .nil)))) ρ (thenW G b__law_move_t_5 k) := rfl
def b__law_move_t3a_0 : ISs := .cons (.ret (.prim .add (.cons (.cst (.str "carry ")) (.cons (.prim .str1 (.cons (.var 1) .nil)) .nil)))) .nil
theorem u__law_move_t3a_0 (G : Genv) (ρ : Rho) (k : EV.Flow → Rho → Prop) : wpSs G b__law_move_t3a_0 ρ k = wpS G (.ret (.prim .add (.cons (.cst (.str "carry ")) (.cons (.prim .str1 (.cons (.var 1) .nil)) .nil)))) ρ (thenW G .nil k) := rfl
def b__law_move_t_3 : ISs := .cons (.ife (.val (.prim .eq (.cons (.var 3) (.cons (.cst (.int 6)) .nil)))) b__law_move_t3a_0 .nil) b__law_move_t_4
theorem u__law_move_t_3 (G : Genv) (ρ : Rho) (k : EV.Flow → Rho → Prop) : wpSs G b__law_move_t_3 ρ k = wpS G (.ife (.val (.prim .eq (.cons (.var 3) (.cons (.cst (.int 6)) .nil)))) b__law_move_t3a_0 .nil) ρ (thenW G b__law_move_t_4 k) := rfl
def b__law_move_t2a_0 : ISs := .cons (.ret (.prim .add (.cons (.prim .add (.cons (.prim .add (.cons (.cst (.str "right ")) (.cons (.var 4) .nil))) (.cons (.cst (.str " to ")) .nil))) (.cons (.prim .str1 (.cons (.var 1) .nil)) .nil)))) .nil
theorem u__law_move_t2a_0 (G : Genv) (ρ : Rho) (k : EV.Flow → Rho → Prop) : wpSs G b__law_move_t2a_0 ρ k = wpS G (.ret (.prim .add (.cons (.prim .add (.cons (.prim .add (.cons (.cst (.str "right ")) (.cons (.var 4) .nil))) (.cons (.cst (.str " to ")) .nil))) (.cons (.prim .str1 (.cons (.var 1) .nil)) .nil)))) ρ (thenW G .nil k) := rfl
def b__law_move_t_2 : ISs := .cons (.ife (.val (.prim .lt (.cons (.var 3) (.cons (.cst (.int 6)) .nil)))) b__law_move_t2a_0 .nil) b__law_move_t_3
theorem u__law_move_t_2 (G : Genv) (ρ : Rho) (k : EV.Flow → Rho → Prop) : wpSs G b__law_move_t_2 ρ k = wpS G (.ife (.val (.prim .lt (.cons (.var 3) (.cons (.cst (.int 6)) .nil)))) b__law_move_t2a_0 .nil) ρ (thenW G b__law_move_t_3 k) := rfl
def b__law_move_t1a_0 : ISs := .cons (.ret (.prim .add (.cons (.prim .add (.cons (.prim .add (.cons (.cst (.str "left ")) (.cons (.var 4) .nil))) (.cons (.cst (.str " to ")) .nil))) (.cons (.prim .str1 (.cons (.var 1) .nil)) .nil)))) .nil
theorem u__law_move_t1a_0 (G : Genv) (ρ : Rho) (k : EV.Flow → Rho → Prop) : wpSs G b__law_move_t1a_0 ρ k = wpS G (.ret (.prim .add (.cons (.prim .add (.cons (.prim .add (.cons (.cst (.str "left ")) (.cons (.var 4) .nil))) (.cons (.cst (.str " to ")) .nil))) (.cons (.prim .str1 (.cons (.var 1) .nil)) .nil)))) ρ (thenW G .nil k) := rfl
def b__law_move_t_1 : ISs := .cons (.ife (.val (.prim .lt (.cons (.var 3) (.cons (.cst (.int 3)) .nil)))) b__law_move_t1a_0 .nil) b__law_move_t_2
theorem u__law_move_t_1 (G : Genv) (ρ : Rho) (k : EV.Flow → Rho → Prop) : wpSs G b__law_move_t_1 ρ k = wpS G (.ife (.val (.prim .lt (.cons (.var 3) (.cons (.cst (.int 3)) .nil)))) b__law_move_t1a_0 .nil) ρ (thenW G b__law_move_t_2 k) := rfl
def b__law_move : ISs := .cons (.par2 3 4 (.call "_law_draw" (.cons (.var 0) (.cons (.cst (.int 10)) .nil))) (.prim .str1 (.cons (.call "_law_of" (.cons (.var 0) (.cons (.lst (.cons (.cst (.int 1)) (.cons (.cst (.int 1)) (.cons (.cst (.int 1)) (.cons (.cst (.int 2)) (.cons (.cst (.int 3)) .nil)))))) .nil))) .nil))) b__law_move_t_1
theorem u__law_move (G : Genv) (ρ : Rho) (k : EV.Flow → Rho → Prop) : wpSs G b__law_move ρ k = wpS G (.par2 3 4 (.call "_law_draw" (.cons (.var 0) (.cons (.cst (.int 10)) .nil))) (.prim .str1 (.cons (.call "_law_of" (.cons (.var 0) (.cons (.lst (.cons (.cst (.int 1)) (.cons (.cst (.int 1)) (.cons (.cst (.int 1)) (.cons (.cst (.int 2)) (.cons (.cst (.int 3)) .nil)))))) .nil))) .nil))) ρ (thenW G b__law_move_t_1 k) := rfl
theorem c__law_move : compSs 60 mcOf ["spring", "place", "side", "way_now", "ring"] (defScope (top 46)) (defBody (top 46)) = some b__law_move := by kernel_rfl
def b__law_rows_t_1 : ISs := .cons (.ret (.prim .add (.cons (.lst (.cons (.call "_law_cloth_row" (.cons (.var 0) .nil)) .nil)) (.cons (.lc (.range1 (.var 1)) (.nm 2) .tt (.call "_law_move" (.cons (.var 0) (.cons (.call "_law_small_place" (.cons (.var 0) .nil)) .nil))) [2]) .nil)))) .nil
theorem u__law_rows_t_1 (G : Genv) (ρ : Rho) (k : EV.Flow → Rho → Prop) : wpSs G b__law_rows_t_1 ρ k = wpS G (.ret (.prim .add (.cons (.lst (.cons (.call "_law_cloth_row" (.cons (.var 0) .nil)) .nil)) (.cons (.lc (.range1 (.var 1)) (.nm 2) .tt (.call "_law_move" (.cons (.var 0) (.cons (.call "_law_small_place" (.cons (.var 0) .nil)) .nil))) [2]) .nil)))) ρ (thenW G .nil k) := rfl
def b__law_rows : ISs := .cons (.asg (.nm 1) (.call "_law_of" (.cons (.var 0) (.cons (.lst (.cons (.cst (.int 0)) (.cons (.cst (.int 1)) (.cons (.cst (.int 2)) (.cons (.cst (.int 2)) (.cons (.cst (.int 3)) (.cons (.cst (.int 3)) (.cons (.cst (.int 4)) .nil)))))))) .nil)))) b__law_rows_t_1
theorem u__law_rows (G : Genv) (ρ : Rho) (k : EV.Flow → Rho → Prop) : wpSs G b__law_rows ρ k = wpS G (.asg (.nm 1) (.call "_law_of" (.cons (.var 0) (.cons (.lst (.cons (.cst (.int 0)) (.cons (.cst (.int 1)) (.cons (.cst (.int 2)) (.cons (.cst (.int 2)) (.cons (.cst (.int 3)) (.cons (.cst (.int 3)) (.cons (.cst (.int 4)) .nil)))))))) .nil)))) ρ (thenW G b__law_rows_t_1 k) := rfl
theorem c__law_rows : compSs 60 mcOf ["spring", "many_now", "k"] (defScope (top 47)) (defBody (top 47)) = some b__law_rows := by kernel_rfl
def b__law_made : ISs := .cons (.ret (.cmeth "Script" "read" (.cons (.tm .join (.cst (.str "\n")) (.var 0)) .nil))) .nil
theorem u__law_made (G : Genv) (ρ : Rho) (k : EV.Flow → Rho → Prop) : wpSs G b__law_made ρ k = wpS G (.ret (.cmeth "Script" "read" (.cons (.tm .join (.cst (.str "\n")) (.var 0)) .nil))) ρ (thenW G .nil k) := rfl
theorem c__law_made : compSs 60 mcOf ["rows_now"] (defScope (top 48)) (defBody (top 48)) = some b__law_made := by kernel_rfl
def b__law_cloth_t_1 : ISs := .cons (.ret (.prim .tuple1 (.cons (.lc (.seq (.prim .add (.cons (.slc (.var 1) (.so (.cst (.int 1))) (.so (.cst (.int 3)))) (.cons (.slc (.var 1) (.so (.cst (.int 4))) .no) .nil)))) (.nm 2) .tt (.prim .int1 (.cons (.var 2) .nil)) [2]) .nil))) .nil
theorem u__law_cloth_t_1 (G : Genv) (ρ : Rho) (k : EV.Flow → Rho → Prop) : wpSs G b__law_cloth_t_1 ρ k = wpS G (.ret (.prim .tuple1 (.cons (.lc (.seq (.prim .add (.cons (.slc (.var 1) (.so (.cst (.int 1))) (.so (.cst (.int 3)))) (.cons (.slc (.var 1) (.so (.cst (.int 4))) .no) .nil)))) (.nm 2) .tt (.prim .int1 (.cons (.var 2) .nil)) [2]) .nil))) ρ (thenW G .nil k) := rfl
def b__law_cloth : ISs := .cons (.asg (.nm 1) (.tm .split (.var 0) (.cst (.str " ")))) b__law_cloth_t_1
theorem u__law_cloth (G : Genv) (ρ : Rho) (k : EV.Flow → Rho → Prop) : wpSs G b__law_cloth ρ k = wpS G (.asg (.nm 1) (.tm .split (.var 0) (.cst (.str " ")))) ρ (thenW G b__law_cloth_t_1 k) := rfl
theorem c__law_cloth : compSs 60 mcOf ["row_now", "words", "each"] (defScope (top 49)) (defBody (top 49)) = some b__law_cloth := by kernel_rfl
def b__law_more : ISs := .cons (.ret (.ife (.val (.prim .eq (.cons (.slc (.var 0) .no (.so (.cst (.int 3)))) (.cons (.cst (.str "on ")) .nil)))) (.cst (.int 1)) (.ife (.val (.prim .eq (.cons (.slc (.var 0) .no (.so (.cst (.int 4)))) (.cons (.cst (.str "off ")) .nil)))) (.prim .neg (.cons (.cst (.int 1)) .nil)) (.cst (.int 0))))) .nil
theorem u__law_more (G : Genv) (ρ : Rho) (k : EV.Flow → Rho → Prop) : wpSs G b__law_more ρ k = wpS G (.ret (.ife (.val (.prim .eq (.cons (.slc (.var 0) .no (.so (.cst (.int 3)))) (.cons (.cst (.str "on ")) .nil)))) (.cst (.int 1)) (.ife (.val (.prim .eq (.cons (.slc (.var 0) .no (.so (.cst (.int 4)))) (.cons (.cst (.str "off ")) .nil)))) (.prim .neg (.cons (.cst (.int 1)) .nil)) (.cst (.int 0))))) ρ (thenW G .nil k) := rfl
theorem c__law_more : compSs 60 mcOf ["move_now"] (defScope (top 50)) (defBody (top 50)) = some b__law_more := by kernel_rfl
def b__law_asked_t_2 : ISs := .cons (.ret (.ife (.val (.prim .eq (.cons (.prim .ix (.cons (.var 1) (.cons (.cst (.int 0)) .nil))) (.cons (.cst (.str "off")) .nil)))) (.cst (.int 2)) (.cst (.int 1)))) .nil
theorem u__law_asked_t_2 (G : Genv) (ρ : Rho) (k : EV.Flow → Rho → Prop) : wpSs G b__law_asked_t_2 ρ k = wpS G (.ret (.ife (.val (.prim .eq (.cons (.prim .ix (.cons (.var 1) (.cons (.cst (.int 0)) .nil))) (.cons (.cst (.str "off")) .nil)))) (.cst (.int 2)) (.cst (.int 1)))) ρ (thenW G .nil k) := rfl
def b__law_asked_t1a_0 : ISs := .cons (.ret (.prim .int1 (.cons (.prim .ix (.cons (.var 1) (.cons (.cst (.int 1)) .nil))) .nil))) .nil
theorem u__law_asked_t1a_0 (G : Genv) (ρ : Rho) (k : EV.Flow → Rho → Prop) : wpSs G b__law_asked_t1a_0 ρ k = wpS G (.ret (.prim .int1 (.cons (.prim .ix (.cons (.var 1) (.cons (.cst (.int 1)) .nil))) .nil))) ρ (thenW G .nil k) := rfl
def b__law_asked_t_1 : ISs := .cons (.ife (.val (.prim .isin (.cons (.prim .ix (.cons (.var 1) (.cons (.cst (.int 0)) .nil))) (.cons (.lst (.cons (.cst (.str "left")) (.cons (.cst (.str "right")) .nil))) .nil)))) b__law_asked_t1a_0 .nil) b__law_asked_t_2
theorem u__law_asked_t_1 (G : Genv) (ρ : Rho) (k : EV.Flow → Rho → Prop) : wpSs G b__law_asked_t_1 ρ k = wpS G (.ife (.val (.prim .isin (.cons (.prim .ix (.cons (.var 1) (.cons (.cst (.int 0)) .nil))) (.cons (.lst (.cons (.cst (.str "left")) (.cons (.cst (.str "right")) .nil))) .nil)))) b__law_asked_t1a_0 .nil) ρ (thenW G b__law_asked_t_2 k) := rfl
def b__law_asked : ISs := .cons (.asg (.nm 1) (.tm .split (.var 0) (.cst (.str " ")))) b__law_asked_t_1
theorem u__law_asked (G : Genv) (ρ : Rho) (k : EV.Flow → Rho → Prop) : wpSs G b__law_asked ρ k = wpS G (.asg (.nm 1) (.tm .split (.var 0) (.cst (.str " ")))) ρ (thenW G b__law_asked_t_1 k) := rfl
theorem c__law_asked : compSs 60 mcOf ["move_now", "words"] (defScope (top 51)) (defBody (top 51)) = some b__law_asked := by kernel_rfl
def b__law_change : ISs := .cons (.ret (.prim .sum (.cons (.lc (.seq (.slc (.var 0) (.so (.cst (.int 1))) .no)) (.nm 1) .tt (.call "_law_more" (.cons (.var 1) .nil)) [1]) .nil))) .nil
theorem u__law_change (G : Genv) (ρ : Rho) (k : EV.Flow → Rho → Prop) : wpSs G b__law_change ρ k = wpS G (.ret (.prim .sum (.cons (.lc (.seq (.slc (.var 0) (.so (.cst (.int 1))) .no)) (.nm 1) .tt (.call "_law_more" (.cons (.var 1) .nil)) [1]) .nil))) ρ (thenW G .nil k) := rfl
theorem c__law_change : compSs 60 mcOf ["rows_now", "move_now"] (defScope (top 52)) (defBody (top 52)) = some b__law_change := by kernel_rfl
def b__law_least_t_2 : ISs := .cons (.ret (.var 2)) .nil
theorem u__law_least_t_2 (G : Genv) (ρ : Rho) (k : EV.Flow → Rho → Prop) : wpSs G b__law_least_t_2 ρ k = wpS G (.ret (.var 2)) ρ (thenW G .nil k) := rfl
def b__law_least_t1b_1 : ISs := .cons (.asg (.nm 3) (.prim .add (.cons (.var 3) (.cons (.call "_law_more" (.cons (.var 1) .nil)) .nil)))) .nil
theorem u__law_least_t1b_1 (G : Genv) (ρ : Rho) (k : EV.Flow → Rho → Prop) : wpSs G b__law_least_t1b_1 ρ k = wpS G (.asg (.nm 3) (.prim .add (.cons (.var 3) (.cons (.call "_law_more" (.cons (.var 1) .nil)) .nil)))) ρ (thenW G .nil k) := rfl
def b__law_least_t1b_0 : ISs := .cons (.asg (.nm 2) (.ife (.val (.prim .ge (.cons (.var 2) (.cons (.prim .sub (.cons (.call "_law_asked" (.cons (.var 1) .nil)) (.cons (.var 3) .nil))) .nil)))) (.var 2) (.prim .sub (.cons (.call "_law_asked" (.cons (.var 1) .nil)) (.cons (.var 3) .nil))))) b__law_least_t1b_1
theorem u__law_least_t1b_0 (G : Genv) (ρ : Rho) (k : EV.Flow → Rho → Prop) : wpSs G b__law_least_t1b_0 ρ k = wpS G (.asg (.nm 2) (.ife (.val (.prim .ge (.cons (.var 2) (.cons (.prim .sub (.cons (.call "_law_asked" (.cons (.var 1) .nil)) (.cons (.var 3) .nil))) .nil)))) (.var 2) (.prim .sub (.cons (.call "_law_asked" (.cons (.var 1) .nil)) (.cons (.var 3) .nil))))) ρ (thenW G b__law_least_t1b_1 k) := rfl
def b__law_least_t_1 : ISs := .cons (.for (.seq (.slc (.var 0) (.so (.cst (.int 1))) .no)) (.nm 1) b__law_least_t1b_0) b__law_least_t_2
theorem u__law_least_t_1 (G : Genv) (ρ : Rho) (k : EV.Flow → Rho → Prop) : wpSs G b__law_least_t_1 ρ k = wpS G (.for (.seq (.slc (.var 0) (.so (.cst (.int 1))) .no)) (.nm 1) b__law_least_t1b_0) ρ (thenW G b__law_least_t_2 k) := rfl
def b__law_least : ISs := .cons (.asg (.tp (.cons (.nm 2) (.cons (.nm 3) .nil))) (.tup (.cons (.cst (.int 1)) (.cons (.cst (.int 0)) .nil)))) b__law_least_t_1
theorem u__law_least (G : Genv) (ρ : Rho) (k : EV.Flow → Rho → Prop) : wpSs G b__law_least ρ k = wpS G (.asg (.tp (.cons (.nm 2) (.cons (.nm 3) .nil))) (.tup (.cons (.cst (.int 1)) (.cons (.cst (.int 0)) .nil)))) ρ (thenW G b__law_least_t_1 k) := rfl
theorem c__law_least : compSs 60 mcOf ["rows_now", "move_now", "found", "more"] (defScope (top 53)) (defBody (top 53)) = some b__law_least := by kernel_rfl
def b__law_standing_t_3 : ISs := .cons (.ret (.var 4)) .nil
theorem u__law_standing_t_3 (G : Genv) (ρ : Rho) (k : EV.Flow → Rho → Prop) : wpSs G b__law_standing_t_3 ρ k = wpS G (.ret (.var 4)) ρ (thenW G .nil k) := rfl
def b__law_standing_t2b_0 : ISs := .cons (.app (.var 4) (.prim .add (.cons (.prim .add (.cons (.prim .ix (.cons (.var 4) (.cons (.prim .neg (.cons (.cst (.int 1)) .nil)) .nil))) (.cons (.prim .ix (.cons (.var 1) (.cons (.cst (.int 0)) .nil))) .nil))) (.cons (.call "_law_draw" (.cons (.var 0) (.cons (.prim .add (.cons (.prim .sub (.cons (.prim .ix (.cons (.var 1) (.cons (.cst (.int 1)) .nil))) (.cons (.prim .ix (.cons (.var 1) (.cons (.cst (.int 0)) .nil))) .nil))) (.cons (.cst (.int 1)) .nil))) .nil))) .nil)))) .nil
theorem u__law_standing_t2b_0 (G : Genv) (ρ : Rho) (k : EV.Flow → Rho → Prop) : wpSs G b__law_standing_t2b_0 ρ k = wpS G (.app (.var 4) (.prim .add (.cons (.prim .add (.cons (.prim .ix (.cons (.var 4) (.cons (.prim .neg (.cons (.cst (.int 1)) .nil)) .nil))) (.cons (.prim .ix (.cons (.var 1) (.cons (.cst (.int 0)) .nil))) .nil))) (.cons (.call "_law_draw" (.cons (.var 0) (.cons (.prim .add (.cons (.prim .sub (.cons (.prim .ix (.cons (.var 1) (.cons (.cst (.int 1)) .nil))) (.cons (.prim .ix (.cons (.var 1) (.cons (.cst (.int 0)) .nil))) .nil))) (.cons (.cst (.int 1)) .nil))) .nil))) .nil)))) ρ (thenW G .nil k) := rfl
def b__law_standing_t_2 : ISs := .cons (.for (.range1 (.prim .sub (.cons (.var 2) (.cons (.cst (.int 1)) .nil)))) (.nm 5) b__law_standing_t2b_0) b__law_standing_t_3
theorem u__law_standing_t_2 (G : Genv) (ρ : Rho) (k : EV.Flow → Rho → Prop) : wpSs G b__law_standing_t_2 ρ k = wpS G (.for (.range1 (.prim .sub (.cons (.var 2) (.cons (.cst (.int 1)) .nil)))) (.nm 5) b__law_standing_t2b_0) ρ (thenW G b__law_standing_t_3 k) := rfl
def b__law_standing_t_1 : ISs := .cons (.asg (.nm 4) (.lst (.cons (.ife (.or2 (.val (.prim .eq (.cons (.prim .len (.cons (.var 1) .nil)) (.cons (.cst (.int 2)) .nil)))) (.val (.prim .gt (.cons (.var 3) (.cons (.prim .ix (.cons (.var 1) (.cons (.cst (.int 2)) .nil))) .nil))))) (.var 3) (.prim .add (.cons (.prim .ix (.cons (.var 1) (.cons (.cst (.int 2)) .nil))) (.cons (.call "_law_draw" (.cons (.var 0) (.cons (.cst (.int 3)) .nil))) .nil)))) .nil))) b__law_standing_t_2
theorem u__law_standing_t_1 (G : Genv) (ρ : Rho) (k : EV.Flow → Rho → Prop) : wpSs G b__law_standing_t_1 ρ k = wpS G (.asg (.nm 4) (.lst (.cons (.ife (.or2 (.val (.prim .eq (.cons (.prim .len (.cons (.var 1) .nil)) (.cons (.cst (.int 2)) .nil)))) (.val (.prim .gt (.cons (.var 3) (.cons (.prim .ix (.cons (.var 1) (.cons (.cst (.int 2)) .nil))) .nil))))) (.var 3) (.prim .add (.cons (.prim .ix (.cons (.var 1) (.cons (.cst (.int 2)) .nil))) (.cons (.call "_law_draw" (.cons (.var 0) (.cons (.cst (.int 3)) .nil))) .nil)))) .nil))) ρ (thenW G b__law_standing_t_2 k) := rfl
def b__law_standing : ISs := .cons (.asg (.nm 3) (.prim .sub (.cons (.call "_law_draw" (.cons (.var 0) (.cons (.cst (.int 31)) .nil))) (.cons (.cst (.int 15)) .nil)))) b__law_standing_t_1
theorem u__law_standing (G : Genv) (ρ : Rho) (k : EV.Flow → Rho → Prop) : wpSs G b__law_standing ρ k = wpS G (.asg (.nm 3) (.prim .sub (.cons (.call "_law_draw" (.cons (.var 0) (.cons (.cst (.int 31)) .nil))) (.cons (.cst (.int 15)) .nil)))) ρ (thenW G b__law_standing_t_1 k) := rfl
theorem c__law_standing : compSs 60 mcOf ["spring", "cloth_now", "n_now", "begin", "spots", "k"] (defScope (top 54)) (defBody (top 54)) = some b__law_standing := by kernel_rfl
def b__law_greatest : ISs := .cons (.ret (.prim .maxL (.cons (.lc (.range1 (.prim .len (.cons (.var 0) .nil))) (.nm 2) .tt (.prim .abs (.cons (.prim .sub (.cons (.prim .ix (.cons (.var 0) (.cons (.var 2) .nil))) (.cons (.prim .ix (.cons (.var 1) (.cons (.var 2) .nil))) .nil))) .nil)) [2]) .nil))) .nil
theorem u__law_greatest (G : Genv) (ρ : Rho) (k : EV.Flow → Rho → Prop) : wpSs G b__law_greatest ρ k = wpS G (.ret (.prim .maxL (.cons (.lc (.range1 (.prim .len (.cons (.var 0) .nil))) (.nm 2) .tt (.prim .abs (.cons (.prim .sub (.cons (.prim .ix (.cons (.var 0) (.cons (.var 2) .nil))) (.cons (.prim .ix (.cons (.var 1) (.cons (.var 2) .nil))) .nil))) .nil)) [2]) .nil))) ρ (thenW G .nil k) := rfl
theorem c__law_greatest : compSs 60 mcOf ["spots", "mates", "k"] (defScope (top 55)) (defBody (top 55)) = some b__law_greatest := by kernel_rfl
def b__law_over : ISs := .cons (.ret (.lc (.range1 (.prim .len (.cons (.var 0) .nil))) (.nm 2) .tt (.ife (.val (.prim .gt (.cons (.prim .ix (.cons (.var 0) (.cons (.var 2) .nil))) (.cons (.prim .ix (.cons (.var 1) (.cons (.var 2) .nil))) .nil)))) (.prim .ix (.cons (.var 0) (.cons (.var 2) .nil))) (.prim .ix (.cons (.var 1) (.cons (.var 2) .nil)))) [2])) .nil
theorem u__law_over (G : Genv) (ρ : Rho) (k : EV.Flow → Rho → Prop) : wpSs G b__law_over ρ k = wpS G (.ret (.lc (.range1 (.prim .len (.cons (.var 0) .nil))) (.nm 2) .tt (.ife (.val (.prim .gt (.cons (.prim .ix (.cons (.var 0) (.cons (.var 2) .nil))) (.cons (.prim .ix (.cons (.var 1) (.cons (.var 2) .nil))) .nil)))) (.prim .ix (.cons (.var 0) (.cons (.var 2) .nil))) (.prim .ix (.cons (.var 1) (.cons (.var 2) .nil)))) [2])) ρ (thenW G .nil k) := rfl
theorem c__law_over : compSs 60 mcOf ["spots", "mates", "k"] (defScope (top 56)) (defBody (top 56)) = some b__law_over := by kernel_rfl
def b__law_right_t_5 : ISs := .cons (.ret (.cst (.bl true))) .nil
theorem u__law_right_t_5 (G : Genv) (ρ : Rho) (k : EV.Flow → Rho → Prop) : wpSs G b__law_right_t_5 ρ k = wpS G (.ret (.cst (.bl true))) ρ (thenW G .nil k) := rfl
def b__law_right_t4b6a_0 : ISs := .cons (.ret (.cst (.bl false))) .nil
theorem u__law_right_t4b6a_0 (G : Genv) (ρ : Rho) (k : EV.Flow → Rho → Prop) : wpSs G b__law_right_t4b6a_0 ρ k = wpS G (.ret (.cst (.bl false))) ρ (thenW G .nil k) := rfl
def b__law_right_t4b_6 : ISs := .cons (.ife (.not1 (.val (.prim .all (.cons (.lc (.range1 (.prim .len (.cons (.var 10) .nil))) (.nm 9) .tt (.chain .le .le (.prim .ix (.cons (.prim .ix (.cons (.var 8) (.cons (.cst (.int 0)) .nil))) (.cons (.var 9) .nil))) (.prim .ix (.cons (.var 10) (.cons (.var 9) .nil))) (.prim .add (.cons (.prim .ix (.cons (.prim .ix (.cons (.var 8) (.cons (.cst (.int 0)) .nil))) (.cons (.var 9) .nil))) (.cons (.cst (.int 3)) .nil)))) [9]) .nil)))) b__law_right_t4b6a_0 .nil) .nil
theorem u__law_right_t4b_6 (G : Genv) (ρ : Rho) (k : EV.Flow → Rho → Prop) : wpSs G b__law_right_t4b_6 ρ k = wpS G (.ife (.not1 (.val (.prim .all (.cons (.lc (.range1 (.prim .len (.cons (.var 10) .nil))) (.nm 9) .tt (.chain .le .le (.prim .ix (.cons (.prim .ix (.cons (.var 8) (.cons (.cst (.int 0)) .nil))) (.cons (.var 9) .nil))) (.prim .ix (.cons (.var 10) (.cons (.var 9) .nil))) (.prim .add (.cons (.prim .ix (.cons (.prim .ix (.cons (.var 8) (.cons (.cst (.int 0)) .nil))) (.cons (.var 9) .nil))) (.cons (.cst (.int 3)) .nil)))) [9]) .nil)))) b__law_right_t4b6a_0 .nil) ρ (thenW G .nil k) := rfl
def b__law_right_t4b_5 : ISs := .cons (.asg (.nm 10) (.call "led" (.cons (.var 5) (.cons (.prim .tuple1 (.cons (.lc (.seq (.var 11)) (.nm 14) .tt (.prim .add (.cons (.var 14) (.cons (.cst (.int 3)) .nil))) [14]) .nil)) .nil)))) b__law_right_t4b_6
theorem u__law_right_t4b_5 (G : Genv) (ρ : Rho) (k : EV.Flow → Rho → Prop) : wpSs G b__law_right_t4b_5 ρ k = wpS G (.asg (.nm 10) (.call "led" (.cons (.var 5) (.cons (.prim .tuple1 (.cons (.lc (.seq (.var 11)) (.nm 14) .tt (.prim .add (.cons (.var 14) (.cons (.cst (.int 3)) .nil))) [14]) .nil)) .nil)))) ρ (thenW G b__law_right_t4b_6 k) := rfl
def b__law_right_t4b4a_0 : ISs := .cons (.ret (.cst (.bl false))) .nil
theorem u__law_right_t4b4a_0 (G : Genv) (ρ : Rho) (k : EV.Flow → Rho → Prop) : wpSs G b__law_right_t4b4a_0 ρ k = wpS G (.ret (.cst (.bl false))) ρ (thenW G .nil k) := rfl
def b__law_right_t4b_4 : ISs := .cons (.ife (.val (.prim .gt (.cons (.call "_law_greatest" (.cons (.prim .ix (.cons (.var 8) (.cons (.cst (.int 0)) .nil))) (.cons (.prim .ix (.cons (.var 8) (.cons (.cst (.int 1)) .nil))) .nil))) (.cons (.call "_law_greatest" (.cons (.var 11) (.cons (.var 12) .nil))) .nil)))) b__law_right_t4b4a_0 .nil) b__law_right_t4b_5
theorem u__law_right_t4b_4 (G : Genv) (ρ : Rho) (k : EV.Flow → Rho → Prop) : wpSs G b__law_right_t4b_4 ρ k = wpS G (.ife (.val (.prim .gt (.cons (.call "_law_greatest" (.cons (.prim .ix (.cons (.var 8) (.cons (.cst (.int 0)) .nil))) (.cons (.prim .ix (.cons (.var 8) (.cons (.cst (.int 1)) .nil))) .nil))) (.cons (.call "_law_greatest" (.cons (.var 11) (.cons (.var 12) .nil))) .nil)))) b__law_right_t4b4a_0 .nil) ρ (thenW G b__law_right_t4b_5 k) := rfl
def b__law_right_t4b3b0a_0 : ISs := .cons (.ret (.cst (.bl false))) .nil
theorem u__law_right_t4b3b0a_0 (G : Genv) (ρ : Rho) (k : EV.Flow → Rho → Prop) : wpSs G b__law_right_t4b3b0a_0 ρ k = wpS G (.ret (.cst (.bl false))) ρ (thenW G .nil k) := rfl
def b__law_right_t4b3b_0 : ISs := .cons (.ife (.or2 (.val (.prim .lt (.cons (.prim .ix (.cons (.prim .ix (.cons (.var 8) (.cons (.cst (.int 2)) .nil))) (.cons (.var 9) .nil))) (.cons (.prim .ix (.cons (.prim .ix (.cons (.var 8) (.cons (.cst (.int 0)) .nil))) (.cons (.var 9) .nil))) .nil)))) (.or2 (.val (.prim .lt (.cons (.prim .ix (.cons (.prim .ix (.cons (.var 8) (.cons (.cst (.int 2)) .nil))) (.cons (.var 9) .nil))) (.cons (.prim .ix (.cons (.prim .ix (.cons (.var 8) (.cons (.cst (.int 1)) .nil))) (.cons (.var 9) .nil))) .nil)))) (.val (.prim .ne (.cons (.prim .ix (.cons (.prim .ix (.cons (.var 8) (.cons (.cst (.int 2)) .nil))) (.cons (.var 9) .nil))) (.cons (.prim .max2 (.cons (.prim .ix (.cons (.prim .ix (.cons (.var 8) (.cons (.cst (.int 0)) .nil))) (.cons (.var 9) .nil))) (.cons (.prim .ix (.cons (.prim .ix (.cons (.var 8) (.cons (.cst (.int 1)) .nil))) (.cons (.var 9) .nil))) .nil))) .nil)))))) b__law_right_t4b3b0a_0 .nil) .nil
theorem u__law_right_t4b3b_0 (G : Genv) (ρ : Rho) (k : EV.Flow → Rho → Prop) : wpSs G b__law_right_t4b3b_0 ρ k = wpS G (.ife (.or2 (.val (.prim .lt (.cons (.prim .ix (.cons (.prim .ix (.cons (.var 8) (.cons (.cst (.int 2)) .nil))) (.cons (.var 9) .nil))) (.cons (.prim .ix (.cons (.prim .ix (.cons (.var 8) (.cons (.cst (.int 0)) .nil))) (.cons (.var 9) .nil))) .nil)))) (.or2 (.val (.prim .lt (.cons (.prim .ix (.cons (.prim .ix (.cons (.var 8) (.cons (.cst (.int 2)) .nil))) (.cons (.var 9) .nil))) (.cons (.prim .ix (.cons (.prim .ix (.cons (.var 8) (.cons (.cst (.int 1)) .nil))) (.cons (.var 9) .nil))) .nil)))) (.val (.prim .ne (.cons (.prim .ix (.cons (.prim .ix (.cons (.var 8) (.cons (.cst (.int 2)) .nil))) (.cons (.var 9) .nil))) (.cons (.prim .max2 (.cons (.prim .ix (.cons (.prim .ix (.cons (.var 8) (.cons (.cst (.int 0)) .nil))) (.cons (.var 9) .nil))) (.cons (.prim .ix (.cons (.prim .ix (.cons (.var 8) (.cons (.cst (.int 1)) .nil))) (.cons (.var 9) .nil))) .nil))) .nil)))))) b__law_right_t4b3b0a_0 .nil) ρ (thenW G .nil k) := rfl
def b__law_right_t4b_3 : ISs := .cons (.for (.range1 (.var 3)) (.nm 9) b__law_right_t4b3b_0) b__law_right_t4b_4
theorem u__law_right_t4b_3 (G : Genv) (ρ : Rho) (k : EV.Flow → Rho → Prop) : wpSs G b__law_right_t4b_3 ρ k = wpS G (.for (.range1 (.var 3)) (.nm 9) b__law_right_t4b3b_0) ρ (thenW G b__law_right_t4b_4 k) := rfl
def b__law_right_t4b_2 : ISs := .cons (.asg (.nm 8) (.lc (.seq (.lst (.cons (.var 11) (.cons (.var 12) (.cons (.var 7) .nil))))) (.nm 13) .tt (.call "led" (.cons (.var 5) (.cons (.prim .tuple1 (.cons (.var 13) .nil)) .nil))) [13])) b__law_right_t4b_3
theorem u__law_right_t4b_2 (G : Genv) (ρ : Rho) (k : EV.Flow → Rho → Prop) : wpSs G b__law_right_t4b_2 ρ k = wpS G (.asg (.nm 8) (.lc (.seq (.lst (.cons (.var 11) (.cons (.var 12) (.cons (.var 7) .nil))))) (.nm 13) .tt (.call "led" (.cons (.var 5) (.cons (.prim .tuple1 (.cons (.var 13) .nil)) .nil))) [13])) ρ (thenW G b__law_right_t4b_3 k) := rfl
def b__law_right_t4b_1 : ISs := .cons (.asg (.nm 7) (.call "_law_over" (.cons (.var 11) (.cons (.var 12) .nil)))) b__law_right_t4b_2
theorem u__law_right_t4b_1 (G : Genv) (ρ : Rho) (k : EV.Flow → Rho → Prop) : wpSs G b__law_right_t4b_1 ρ k = wpS G (.asg (.nm 7) (.call "_law_over" (.cons (.var 11) (.cons (.var 12) .nil)))) ρ (thenW G b__law_right_t4b_2 k) := rfl
def b__law_right_t4b_0 : ISs := .cons (.par2 11 12 (.call "_law_standing" (.cons (.var 0) (.cons (.var 6) (.cons (.var 2) .nil)))) (.call "_law_standing" (.cons (.var 0) (.cons (.var 6) (.cons (.var 2) .nil))))) b__law_right_t4b_1
theorem u__law_right_t4b_0 (G : Genv) (ρ : Rho) (k : EV.Flow → Rho → Prop) : wpSs G b__law_right_t4b_0 ρ k = wpS G (.par2 11 12 (.call "_law_standing" (.cons (.var 0) (.cons (.var 6) (.cons (.var 2) .nil)))) (.call "_law_standing" (.cons (.var 0) (.cons (.var 6) (.cons (.var 2) .nil))))) ρ (thenW G b__law_right_t4b_1 k) := rfl
def b__law_right_t_4 : ISs := .cons (.for (.range1 (.cst (.int 4))) (.nm 4) b__law_right_t4b_0) b__law_right_t_5
theorem u__law_right_t_4 (G : Genv) (ρ : Rho) (k : EV.Flow → Rho → Prop) : wpSs G b__law_right_t_4 ρ k = wpS G (.for (.range1 (.cst (.int 4))) (.nm 4) b__law_right_t4b_0) ρ (thenW G b__law_right_t_5 k) := rfl
def b__law_right_t_3 : ISs := .cons (.asg (.nm 3) (.prim .add (.cons (.var 2) (.cons (.call "_law_change" (.cons (.var 1) .nil)) .nil)))) b__law_right_t_4
theorem u__law_right_t_3 (G : Genv) (ρ : Rho) (k : EV.Flow → Rho → Prop) : wpSs G b__law_right_t_3 ρ k = wpS G (.asg (.nm 3) (.prim .add (.cons (.var 2) (.cons (.call "_law_change" (.cons (.var 1) .nil)) .nil)))) ρ (thenW G b__law_right_t_4 k) := rfl
def b__law_right_t_2 : ISs := .cons (.asg (.nm 2) (.prim .add (.cons (.call "_law_least" (.cons (.var 1) .nil)) (.cons (.call "_law_draw" (.cons (.var 0) (.cons (.cst (.int 7)) .nil))) .nil)))) b__law_right_t_3
theorem u__law_right_t_2 (G : Genv) (ρ : Rho) (k : EV.Flow → Rho → Prop) : wpSs G b__law_right_t_2 ρ k = wpS G (.asg (.nm 2) (.prim .add (.cons (.call "_law_least" (.cons (.var 1) .nil)) (.cons (.call "_law_draw" (.cons (.var 0) (.cons (.cst (.int 7)) .nil))) .nil)))) ρ (thenW G b__law_right_t_3 k) := rfl
def b__law_right_t_1 : ISs := .cons (.asg (.tp (.cons (.nm 5) (.cons (.nm 6) .nil))) (.tup (.cons (.call "_law_made" (.cons (.var 1) .nil)) (.cons (.call "_law_cloth" (.cons (.prim .ix (.cons (.var 1) (.cons (.cst (.int 0)) .nil))) .nil)) .nil)))) b__law_right_t_2
theorem u__law_right_t_1 (G : Genv) (ρ : Rho) (k : EV.Flow → Rho → Prop) : wpSs G b__law_right_t_1 ρ k = wpS G (.asg (.tp (.cons (.nm 5) (.cons (.nm 6) .nil))) (.tup (.cons (.call "_law_made" (.cons (.var 1) .nil)) (.cons (.call "_law_cloth" (.cons (.prim .ix (.cons (.var 1) (.cons (.cst (.int 0)) .nil))) .nil)) .nil)))) ρ (thenW G b__law_right_t_2 k) := rfl
def b__law_right : ISs := .cons (.asg (.nm 1) (.call "_law_rows" (.cons (.var 0) .nil))) b__law_right_t_1
theorem u__law_right (G : Genv) (ρ : Rho) (k : EV.Flow → Rho → Prop) : wpSs G b__law_right ρ k = wpS G (.asg (.nm 1) (.call "_law_rows" (.cons (.var 0) .nil))) ρ (thenW G b__law_right_t_1 k) := rfl
theorem c__law_right : compSs 60 mcOf ["spring", "rows_now", "n_now", "count", "turn", "mine", "cloth_now", "over", "told", "k", "moved_v", "spots", "mates", "each", "spot"] (defScope (top 57)) (defBody (top 57)) = some b__law_right := by kernel_rfl
def b_law : ISs := .cons (.ret (.prim .all (.cons (.lc (.range1 (.prim .max2 (.cons (.cst (.int 2)) (.cons (.prim .min2 (.cons (.prim .len (.cons (.var 0) .nil)) (.cons (.cst (.int 5)) .nil))) .nil)))) (.nm 1) .tt (.call "_law_right" (.cons (.call "_law_spring" (.cons (.var 0) (.cons (.var 1) .nil))) .nil)) [1]) .nil))) .nil
theorem u_law (G : Genv) (ρ : Rho) (k : EV.Flow → Rho → Prop) : wpSs G b_law ρ k = wpS G (.ret (.prim .all (.cons (.lc (.range1 (.prim .max2 (.cons (.cst (.int 2)) (.cons (.prim .min2 (.cons (.prim .len (.cons (.var 0) .nil)) (.cons (.cst (.int 5)) .nil))) .nil)))) (.nm 1) .tt (.call "_law_right" (.cons (.call "_law_spring" (.cons (.var 0) (.cons (.var 1) .nil))) .nil)) [1]) .nil))) ρ (thenW G .nil k) := rfl
theorem c_law : compSs 60 mcOf ["script", "k"] (defScope (top 58)) (defBody (top 58)) = some b_law := by kernel_rfl
end T

set_option maxRecDepth 100000
set_option maxHeartbeats 4000000
set_option exponentiation.threshold 5000
namespace T
open PySem L2 EV
local macro_rules
  | `(tactic| simp only [ev2x, $ls,*]) => `(tactic| simp only [wE_var, wE_cst, wE_glb, wE_prim, wE_tup, wE_lst, wE_ife, wE_and2, wE_or2, wE_not1, wE_chain, wE_chain3, wE_call, wE_callK, wE_methK, wE_makeK, wE_fld, wE_meth, wE_make, wE_slc, wE_lc, wE_tm, wE_isC, wE_makeS, wE_makeV, wE_cmeth, wA_nil, wA_cons, wA_star, wO_no, wO_so, wT_tt, wT_and2, wT_or2, wT_not1, wT_val, wG_nm, wG_sub, wG_fld, wG_tp, wI_seq, wI_range1, wI_range2, wI_range3, wI_enum, wI_zip, wI_str, wS_asg, wS_setF, wS_par2, wS_par3, wS_aug, wS_app, wS_ext, wS_ins, wS_pop, wS_expr, wS_ife, wS_for, wS_while, wS_ret, wS_retN, wS_brk, wS_cnt, wS_pass, wS_never, lcB_nil, lcB_cons, lcF_e, th_rt, th_bk, th_ct, wGs_nil, wGs_cons, lk_nx, lk_ct, lk_bk, lk_rt, rhoI, rhoA, nos, nref, List.length_cons, List.length_nil, Nat.reduceAdd, Nat.reduceSub, Nat.sub_self, List.cons_append, List.nil_append, Nat.zero_add, ep0, ep1, ep2, ep3, ep4, ep5, ep6, ep7, ep8, ep9, ep10, ep11, ep12, ep13, ep14, ep15, ep16, ep17, ep18, ep19, ep20, ep21, ep22, ep23, ep24, ep25, ep26, ep27, ep28, ep29, ep30, ep31, ep32, ep33, ep34, ep35, ep36, ep37, ep38, ep39, ep40, ep41, ep42, ep43, ep44, ep45, ep46, ep47, ep48, ep49, ep50, ep51, ep52, ep53, ep54, ep55, ep56, es_lst, es_scr, es_tup, es_str, of_it, of_nw, sd_val, sd_own, ct_val, ct_tmp, ct_loc, cs_nil, cs_val, cs_tmp, cs_loc, cp_val, cp_tmp, cp_loc, g0, gs, bd_tmp, bd_val, bd_loc, st0, sts, ex_some, ob_map, ob_bind, br_t, br_f, br_not, fw_nx, fw_val, fw_tmp, fw_loc, rs_t, rs_f, oo_0, isa_obj, k_isNon_non, k_isNon_bl, k_isNon_int, k_isNon_str, k_isNon_tup, k_isNon_lst, k_isNon_obj, k_isIntD_non, k_isIntD_bl, k_isIntD_int, k_isIntD_str, k_isIntD_tup, k_isIntD_lst, k_isBlD_non, k_isBlD_bl, k_isBlD_int, k_isBlD_str, k_isBlD_tup, k_isBlD_lst, k_isTupD_non, k_isTupD_bl, k_isTupD_int, k_isTupD_str, k_isTupD_tup, k_isTupD_lst, k_isStrD_non, k_isStrD_bl, k_isStrD_int, k_isStrD_str, k_isStrD_tup, k_isStrD_lst, iso_obj, mk_outs, passL, refsOk, putOuts, capL, true_and, and_true, List.map_cons, List.map_nil, exists_eq_left, Option.some.injEq, flat, exists_const, exists_eq, exists_eq', exists_eq_left', and_self, DV.bl.injEq, DV.int.injEq, DV.str.injEq, DV.tup.injEq, DV.lst.injEq, cm_int, cm_bl, cm_non, cm_str, dq_int, dq_str, dq_bl, dq_nn, dq_in, dq_ni, exists_and_left, DV.obj.injEq, putN, putD, List.not_mem_nil, not_false_eq_true, or_false, false_or, exists_false, false_and, and_false, if_true, if_false, EV.Res.loc.injEq, EV.Slot.own.injEq, EV.Slot.val.injEq, and_assoc, r1_loc, r1_val, r1_tmp, b1_tmp, b1_val, n_0, n_1, n_2, n_3, n_4, n_5, n_6, n_7, Int.reduceBEq, Int.reduceBNe, Int.reduceLT, Int.reduceLE, Int.reduceEq, Int.reduceNeg, decide_true, decide_false, beq_self_eq_true, Bool.not_true, Bool.not_false, PR.it.injEq, PR.nw.injEq, reduceCtorEq, ne_eq, not_false_eq_true, implies_true, lc_nil, lc_cons, at_0, at_1, at_2, at_3, Option.toList_some, Option.toList_none, List.any_cons, List.any_nil, List.all_cons, List.all_nil, Bool.or_false, Bool.and_true, Bool.true_or, Bool.or_true, Bool.false_or, Bool.and_false, Bool.false_and, Bool.true_and, Bool.and_self, Bool.or_self, boolsD, tr_bl, tr_int, tr_non, tr_tup, tr_lst, bk_lst, bk_tup, sk_lst, sk_tup, sk_scr, sk_str, so_scr, lo_lst, to_tup, el_lst, et_tup, sy_val, sy_tmp, sy_loc, seqOf, itemsOf, Option.bind_some, tgN, wipeR, backR, Option.getD_some, plainSlots, List.mem_singleton, forall_eq, $ls,*])
  | `(tactic| simp only [ev2x]) => `(tactic| simp only [wE_var, wE_cst, wE_glb, wE_prim, wE_tup, wE_lst, wE_ife, wE_and2, wE_or2, wE_not1, wE_chain, wE_chain3, wE_call, wE_callK, wE_methK, wE_makeK, wE_fld, wE_meth, wE_make, wE_slc, wE_lc, wE_tm, wE_isC, wE_makeS, wE_makeV, wE_cmeth, wA_nil, wA_cons, wA_star, wO_no, wO_so, wT_tt, wT_and2, wT_or2, wT_not1, wT_val, wG_nm, wG_sub, wG_fld, wG_tp, wI_seq, wI_range1, wI_range2, wI_range3, wI_enum, wI_zip, wI_str, wS_asg, wS_setF, wS_par2, wS_par3, wS_aug, wS_app, wS_ext, wS_ins, wS_pop, wS_expr, wS_ife, wS_for, wS_while, wS_ret, wS_retN, wS_brk, wS_cnt, wS_pass, wS_never, lcB_nil, lcB_cons, lcF_e, th_rt, th_bk, th_ct, wGs_nil, wGs_cons, lk_nx, lk_ct, lk_bk, lk_rt, rhoI, rhoA, nos, nref, List.length_cons, List.length_nil, Nat.reduceAdd, Nat.reduceSub, Nat.sub_self, List.cons_append, List.nil_append, Nat.zero_add, ep0, ep1, ep2, ep3, ep4, ep5, ep6, ep7, ep8, ep9, ep10, ep11, ep12, ep13, ep14, ep15, ep16, ep17, ep18, ep19, ep20, ep21, ep22, ep23, ep24, ep25, ep26, ep27, ep28, ep29, ep30, ep31, ep32, ep33, ep34, ep35, ep36, ep37, ep38, ep39, ep40, ep41, ep42, ep43, ep44, ep45, ep46, ep47, ep48, ep49, ep50, ep51, ep52, ep53, ep54, ep55, ep56, es_lst, es_scr, es_tup, es_str, of_it, of_nw, sd_val, sd_own, ct_val, ct_tmp, ct_loc, cs_nil, cs_val, cs_tmp, cs_loc, cp_val, cp_tmp, cp_loc, g0, gs, bd_tmp, bd_val, bd_loc, st0, sts, ex_some, ob_map, ob_bind, br_t, br_f, br_not, fw_nx, fw_val, fw_tmp, fw_loc, rs_t, rs_f, oo_0, isa_obj, k_isNon_non, k_isNon_bl, k_isNon_int, k_isNon_str, k_isNon_tup, k_isNon_lst, k_isNon_obj, k_isIntD_non, k_isIntD_bl, k_isIntD_int, k_isIntD_str, k_isIntD_tup, k_isIntD_lst, k_isBlD_non, k_isBlD_bl, k_isBlD_int, k_isBlD_str, k_isBlD_tup, k_isBlD_lst, k_isTupD_non, k_isTupD_bl, k_isTupD_int, k_isTupD_str, k_isTupD_tup, k_isTupD_lst, k_isStrD_non, k_isStrD_bl, k_isStrD_int, k_isStrD_str, k_isStrD_tup, k_isStrD_lst, iso_obj, mk_outs, passL, refsOk, putOuts, capL, true_and, and_true, List.map_cons, List.map_nil, exists_eq_left, Option.some.injEq, flat, exists_const, exists_eq, exists_eq', exists_eq_left', and_self, DV.bl.injEq, DV.int.injEq, DV.str.injEq, DV.tup.injEq, DV.lst.injEq, cm_int, cm_bl, cm_non, cm_str, dq_int, dq_str, dq_bl, dq_nn, dq_in, dq_ni, exists_and_left, DV.obj.injEq, putN, putD, List.not_mem_nil, not_false_eq_true, or_false, false_or, exists_false, false_and, and_false, if_true, if_false, EV.Res.loc.injEq, EV.Slot.own.injEq, EV.Slot.val.injEq, and_assoc, r1_loc, r1_val, r1_tmp, b1_tmp, b1_val, n_0, n_1, n_2, n_3, n_4, n_5, n_6, n_7, Int.reduceBEq, Int.reduceBNe, Int.reduceLT, Int.reduceLE, Int.reduceEq, Int.reduceNeg, decide_true, decide_false, beq_self_eq_true, Bool.not_true, Bool.not_false, PR.it.injEq, PR.nw.injEq, reduceCtorEq, ne_eq, not_false_eq_true, implies_true, lc_nil, lc_cons, at_0, at_1, at_2, at_3, Option.toList_some, Option.toList_none, List.any_cons, List.any_nil, List.all_cons, List.all_nil, Bool.or_false, Bool.and_true, Bool.true_or, Bool.or_true, Bool.false_or, Bool.and_false, Bool.false_and, Bool.true_and, Bool.and_self, Bool.or_self, boolsD, tr_bl, tr_int, tr_non, tr_tup, tr_lst, bk_lst, bk_tup, sk_lst, sk_tup, sk_scr, sk_str, so_scr, lo_lst, to_tup, el_lst, et_tup, sy_val, sy_tmp, sy_loc, seqOf, itemsOf, Option.bind_some, tgN, wipeR, backR, Option.getD_some, plainSlots, List.mem_singleton, forall_eq])
  | `(tactic| simp only [evix, $ls,*]) => `(tactic| simp only [rhoI, rhoA, nos, nref, List.length_cons, List.length_nil, Nat.reduceAdd, Nat.reduceSub, Nat.sub_self, List.cons_append, List.nil_append, Nat.zero_add, $ls,*])
  | `(tactic| simp only [evix]) => `(tactic| simp only [rhoI, rhoA, nos, nref, List.length_cons, List.length_nil, Nat.reduceAdd, Nat.reduceSub, Nat.sub_self, List.cons_append, List.nil_append, Nat.zero_add])
/-- a call, opened -/
theorem cw_e (fi : FI) (rs : List Res) (ρ : Rho) (k : Res → Rho → Prop) : callW fi rs ρ k = passL fi.modes rs ρ fun ds ρ1 => refsOk fi.modes rs ρ1 [] ∧ fi.spec ds fun fr d outs => ∃ ρ2, putOuts fi.modes rs outs ρ1 = some ρ2 ∧ k (resOf fr d) ρ2 := rfl
theorem mx_e (x y : Int) : (if y > x then y else x) = max x y := by omega
theorem mn_e (x y : Int) : (if y < x then y else x) = min x y := by omega
theorem cmul_r {i j : Int} (h1 : -100 ≤ j) (h2 : j ≤ 100) : CMul i j := .inr ⟨by omega, by omega⟩
theorem big_z {n : Nat} (h : n ≤ 1000) : n < sizeLine := Nat.lt_of_le_of_lt h (by decide)
theorem big_l {n : Nat} (h : n ≤ 1000) : n ≤ sizeLine := Nat.le_of_lt (big_z h)
theorem lg_small {i : Int} (h1 : -2000 ≤ i) (h2 : i ≤ 2000) : i.natAbs.log2 < 1920 := by
  have h3 : i.natAbs < 2 ^ 1920 := Nat.lt_of_le_of_lt (m := 2000) (by omega) (by decide)
  by_cases h : i.natAbs = 0
  · rw [h]; decide
  · exact (Nat.log2_lt h).mpr h3
theorem pt_int (i : Int) : plainTop (.int i) = true := rfl
theorem pt_bl (b : Bool) : plainTop (.bl b) = true := rfl
theorem pt_non : plainTop .non = true := rfl
theorem pt_str (x : Str) : plainTop (.str x) = true := rfl
theorem pt_tup (ds : List DV) : plainTop (.tup ds) = true := rfl
theorem pt_lst (ds : List DV) : plainTop (.lst ds) = true := rfl
theorem cm_t0 : cmpb (.tup []) = true := cm_tints []
theorem dq_t0 (ns : List Int) : deq (.tup (iL ns)) (.tup []) = decide (ns = []) := dq_tints ns []
theorem sp_ne : ((" " : Str).length == 0) = false := by decide +kernel
theorem bls_rep (n : Nat) : boolsD (List.replicate n (DV.bl true)) = some (List.replicate n true) := by
  induction n with
  | zero => rfl
  | succ n ih =>
    rw [List.replicate_succ, List.replicate_succ]
    show (boolsD (List.replicate n (DV.bl true))).map (true :: ·) = _
    rw [ih]; rfl
theorem all_rep (n : Nat) : (List.replicate n true).all id = true := by simp
theorem ch_len (z : Str) : (charsD z).length = z.length := by simp [charsD]; rfl
theorem ch_of {z : Str} {i : Nat} {d : DV} (h : (charsD z)[i]? = some d) : ∃ c, c ∈ z.cps.toList ∧ d = .str ⟨#[c]⟩ := by
  unfold charsD at h
  rw [List.getElem?_map] at h
  cases q : z.cps.toList[i]? with
  | none => rw [q] at h; cases h
  | some c => rw [q] at h; cases h; exact ⟨c, List.mem_of_getElem? q, rfl⟩
def sL (ss : List Str) : List DV := ss.map .str
theorem s_len (ss : List Str) : (sL ss).length = ss.length := by simp [sL]
theorem s_get (ss : List Str) (i : Nat) : (sL ss)[i]? = (ss[i]?).map .str := by simp [sL]
theorem s_strs : ∀ ss : List Str, strsD (sL ss) = some ss
  | [] => rfl
  | s :: ss => by
    show (strsD (sL ss)).map (s :: ·) = _
    rw [s_strs ss]; rfl
theorem app_len (a b : Str) : (a ++ b).length = a.length + b.length := by
  rw [TL.len_tl, TL.tl_append, List.length_append, ← TL.len_tl, ← TL.len_tl]
theorem sk_l : PyData.strOk ("left" : Str) = true := by decide +kernel
theorem sz_l : (("left" : Str)).length ≤ 10 := by decide +kernel
theorem sp_l : 32 ∉ TL.tl ("left" : Str) := by decide +kernel
theorem q_ll : (("left" : Str) == "left") = true := by decide +kernel
theorem q_lr : (("left" : Str) == "right") = false := by decide +kernel
theorem q_ls : (("left" : Str) == "some") = false := by decide +kernel
theorem q_lt : (("left" : Str) == "to") = false := by decide +kernel
theorem q_ln : (("left" : Str) == "on") = false := by decide +kernel
theorem q_lc : (("left" : Str) == "carry") = false := by decide +kernel
theorem q_lo : (("left" : Str) == "off") = false := by decide +kernel
theorem q_lh : (("left" : Str) == "cloth") = false := by decide +kernel
theorem q_lf : (("left" : Str) == "from") = false := by decide +kernel
theorem q_le : (("left" : Str) == "") = false := by decide +kernel
theorem sk_r : PyData.strOk ("right" : Str) = true := by decide +kernel
theorem sz_r : (("right" : Str)).length ≤ 10 := by decide +kernel
theorem sp_r : 32 ∉ TL.tl ("right" : Str) := by decide +kernel
theorem q_rl : (("right" : Str) == "left") = false := by decide +kernel
theorem q_rr : (("right" : Str) == "right") = true := by decide +kernel
theorem q_rs : (("right" : Str) == "some") = false := by decide +kernel
theorem q_rt : (("right" : Str) == "to") = false := by decide +kernel
theorem q_rn : (("right" : Str) == "on") = false := by decide +kernel
theorem q_rc : (("right" : Str) == "carry") = false := by decide +kernel
theorem q_ro : (("right" : Str) == "off") = false := by decide +kernel
theorem q_rh : (("right" : Str) == "cloth") = false := by decide +kernel
theorem q_rf : (("right" : Str) == "from") = false := by decide +kernel
theorem q_re : (("right" : Str) == "") = false := by decide +kernel
theorem sk_s : PyData.strOk ("some" : Str) = true := by decide +kernel
theorem sz_s : (("some" : Str)).length ≤ 10 := by decide +kernel
theorem sp_s : 32 ∉ TL.tl ("some" : Str) := by decide +kernel
theorem q_sl : (("some" : Str) == "left") = false := by decide +kernel
theorem q_sr : (("some" : Str) == "right") = false := by decide +kernel
theorem q_ss : (("some" : Str) == "some") = true := by decide +kernel
theorem q_st : (("some" : Str) == "to") = false := by decide +kernel
theorem q_sn : (("some" : Str) == "on") = false := by decide +kernel
theorem q_sc : (("some" : Str) == "carry") = false := by decide +kernel
theorem q_so : (("some" : Str) == "off") = false := by decide +kernel
theorem q_sh : (("some" : Str) == "cloth") = false := by decide +kernel
theorem q_sf : (("some" : Str) == "from") = false := by decide +kernel
theorem q_se : (("some" : Str) == "") = false := by decide +kernel
theorem sk_t : PyData.strOk ("to" : Str) = true := by decide +kernel
theorem sz_t : (("to" : Str)).length ≤ 10 := by decide +kernel
theorem sp_t : 32 ∉ TL.tl ("to" : Str) := by decide +kernel
theorem q_tl : (("to" : Str) == "left") = false := by decide +kernel
theorem q_tr : (("to" : Str) == "right") = false := by decide +kernel
theorem q_ts : (("to" : Str) == "some") = false := by decide +kernel
theorem q_tt : (("to" : Str) == "to") = true := by decide +kernel
theorem q_tn : (("to" : Str) == "on") = false := by decide +kernel
theorem q_tc : (("to" : Str) == "carry") = false := by decide +kernel
theorem q_to : (("to" : Str) == "off") = false := by decide +kernel
theorem q_th : (("to" : Str) == "cloth") = false := by decide +kernel
theorem q_tf : (("to" : Str) == "from") = false := by decide +kernel
theorem q_te : (("to" : Str) == "") = false := by decide +kernel
theorem sk_n : PyData.strOk ("on" : Str) = true := by decide +kernel
theorem sz_n : (("on" : Str)).length ≤ 10 := by decide +kernel
theorem sp_n : 32 ∉ TL.tl ("on" : Str) := by decide +kernel
theorem q_nl : (("on" : Str) == "left") = false := by decide +kernel
theorem q_nr : (("on" : Str) == "right") = false := by decide +kernel
theorem q_ns : (("on" : Str) == "some") = false := by decide +kernel
theorem q_nt : (("on" : Str) == "to") = false := by decide +kernel
theorem q_nn : (("on" : Str) == "on") = true := by decide +kernel
theorem q_nc : (("on" : Str) == "carry") = false := by decide +kernel
theorem q_no : (("on" : Str) == "off") = false := by decide +kernel
theorem q_nh : (("on" : Str) == "cloth") = false := by decide +kernel
theorem q_nf : (("on" : Str) == "from") = false := by decide +kernel
theorem q_ne : (("on" : Str) == "") = false := by decide +kernel
theorem sk_c : PyData.strOk ("carry" : Str) = true := by decide +kernel
theorem sz_c : (("carry" : Str)).length ≤ 10 := by decide +kernel
theorem sp_c : 32 ∉ TL.tl ("carry" : Str) := by decide +kernel
theorem q_cl : (("carry" : Str) == "left") = false := by decide +kernel
theorem q_cr : (("carry" : Str) == "right") = false := by decide +kernel
theorem q_cs : (("carry" : Str) == "some") = false := by decide +kernel
theorem q_ct : (("carry" : Str) == "to") = false := by decide +kernel
theorem q_cn : (("carry" : Str) == "on") = false := by decide +kernel
theorem q_cc : (("carry" : Str) == "carry") = true := by decide +kernel
theorem q_co : (("carry" : Str) == "off") = false := by decide +kernel
theorem q_ch : (("carry" : Str) == "cloth") = false := by decide +kernel
theorem q_cf : (("carry" : Str) == "from") = false := by decide +kernel
theorem q_ce : (("carry" : Str) == "") = false := by decide +kernel
theorem sk_o : PyData.strOk ("off" : Str) = true := by decide +kernel
theorem sz_o : (("off" : Str)).length ≤ 10 := by decide +kernel
theorem sp_o : 32 ∉ TL.tl ("off" : Str) := by decide +kernel
theorem q_ol : (("off" : Str) == "left") = false := by decide +kernel
theorem q_or : (("off" : Str) == "right") = false := by decide +kernel
theorem q_os : (("off" : Str) == "some") = false := by decide +kernel
theorem q_ot : (("off" : Str) == "to") = false := by decide +kernel
theorem q_on : (("off" : Str) == "on") = false := by decide +kernel
theorem q_oc : (("off" : Str) == "carry") = false := by decide +kernel
theorem q_oo : (("off" : Str) == "off") = true := by decide +kernel
theorem q_oh : (("off" : Str) == "cloth") = false := by decide +kernel
theorem q_of : (("off" : Str) == "from") = false := by decide +kernel
theorem q_oe : (("off" : Str) == "") = false := by decide +kernel
theorem sk_h : PyData.strOk ("cloth" : Str) = true := by decide +kernel
theorem sz_h : (("cloth" : Str)).length ≤ 10 := by decide +kernel
theorem sp_h : 32 ∉ TL.tl ("cloth" : Str) := by decide +kernel
theorem q_hl : (("cloth" : Str) == "left") = false := by decide +kernel
theorem q_hr : (("cloth" : Str) == "right") = false := by decide +kernel
theorem q_hs : (("cloth" : Str) == "some") = false := by decide +kernel
theorem q_ht : (("cloth" : Str) == "to") = false := by decide +kernel
theorem q_hn : (("cloth" : Str) == "on") = false := by decide +kernel
theorem q_hc : (("cloth" : Str) == "carry") = false := by decide +kernel
theorem q_ho : (("cloth" : Str) == "off") = false := by decide +kernel
theorem q_hh : (("cloth" : Str) == "cloth") = true := by decide +kernel
theorem q_hf : (("cloth" : Str) == "from") = false := by decide +kernel
theorem q_he : (("cloth" : Str) == "") = false := by decide +kernel
theorem sk_f : PyData.strOk ("from" : Str) = true := by decide +kernel
theorem sz_f : (("from" : Str)).length ≤ 10 := by decide +kernel
theorem sp_f : 32 ∉ TL.tl ("from" : Str) := by decide +kernel
theorem q_fl : (("from" : Str) == "left") = false := by decide +kernel
theorem q_fr : (("from" : Str) == "right") = false := by decide +kernel
theorem q_fs : (("from" : Str) == "some") = false := by decide +kernel
theorem q_ft : (("from" : Str) == "to") = false := by decide +kernel
theorem q_fn : (("from" : Str) == "on") = false := by decide +kernel
theorem q_fc : (("from" : Str) == "carry") = false := by decide +kernel
theorem q_fo : (("from" : Str) == "off") = false := by decide +kernel
theorem q_fh : (("from" : Str) == "cloth") = false := by decide +kernel
theorem q_ff : (("from" : Str) == "from") = true := by decide +kernel
theorem q_fe : (("from" : Str) == "") = false := by decide +kernel
theorem sk_e : PyData.strOk ("" : Str) = true := by decide +kernel
theorem sz_e : (("" : Str)).length ≤ 10 := by decide +kernel
theorem q_el : (("" : Str) == "left") = false := by decide +kernel
theorem q_er : (("" : Str) == "right") = false := by decide +kernel
theorem q_es : (("" : Str) == "some") = false := by decide +kernel
theorem q_et : (("" : Str) == "to") = false := by decide +kernel
theorem q_en : (("" : Str) == "on") = false := by decide +kernel
theorem q_ec : (("" : Str) == "carry") = false := by decide +kernel
theorem q_eo : (("" : Str) == "off") = false := by decide +kernel
theorem q_eh : (("" : Str) == "cloth") = false := by decide +kernel
theorem q_ef : (("" : Str) == "from") = false := by decide +kernel
theorem q_ee : (("" : Str) == "") = true := by decide +kernel
end T

set_option maxRecDepth 100000
set_option maxHeartbeats 4000000
set_option exponentiation.threshold 5000
namespace T
open PySem L2 EV
local macro_rules
  | `(tactic| simp only [ev2x, $ls,*]) => `(tactic| simp only [wE_var, wE_cst, wE_glb, wE_prim, wE_tup, wE_lst, wE_ife, wE_and2, wE_or2, wE_not1, wE_chain, wE_chain3, wE_call, wE_callK, wE_methK, wE_makeK, wE_fld, wE_meth, wE_make, wE_slc, wE_lc, wE_tm, wE_isC, wE_makeS, wE_makeV, wE_cmeth, wA_nil, wA_cons, wA_star, wO_no, wO_so, wT_tt, wT_and2, wT_or2, wT_not1, wT_val, wG_nm, wG_sub, wG_fld, wG_tp, wI_seq, wI_range1, wI_range2, wI_range3, wI_enum, wI_zip, wI_str, wS_asg, wS_setF, wS_par2, wS_par3, wS_aug, wS_app, wS_ext, wS_ins, wS_pop, wS_expr, wS_ife, wS_for, wS_while, wS_ret, wS_retN, wS_brk, wS_cnt, wS_pass, wS_never, lcB_nil, lcB_cons, lcF_e, th_rt, th_bk, th_ct, wGs_nil, wGs_cons, lk_nx, lk_ct, lk_bk, lk_rt, rhoI, rhoA, nos, nref, List.length_cons, List.length_nil, Nat.reduceAdd, Nat.reduceSub, Nat.sub_self, List.cons_append, List.nil_append, Nat.zero_add, ep0, ep1, ep2, ep3, ep4, ep5, ep6, ep7, ep8, ep9, ep10, ep11, ep12, ep13, ep14, ep15, ep16, ep17, ep18, ep19, ep20, ep21, ep22, ep23, ep24, ep25, ep26, ep27, ep28, ep29, ep30, ep31, ep32, ep33, ep34, ep35, ep36, ep37, ep38, ep39, ep40, ep41, ep42, ep43, ep44, ep45, ep46, ep47, ep48, ep49, ep50, ep51, ep52, ep53, ep54, ep55, ep56, es_lst, es_scr, es_tup, es_str, of_it, of_nw, sd_val, sd_own, ct_val, ct_tmp, ct_loc, cs_nil, cs_val, cs_tmp, cs_loc, cp_val, cp_tmp, cp_loc, g0, gs, bd_tmp, bd_val, bd_loc, st0, sts, ex_some, ob_map, ob_bind, br_t, br_f, br_not, fw_nx, fw_val, fw_tmp, fw_loc, rs_t, rs_f, oo_0, isa_obj, k_isNon_non, k_isNon_bl, k_isNon_int, k_isNon_str, k_isNon_tup, k_isNon_lst, k_isNon_obj, k_isIntD_non, k_isIntD_bl, k_isIntD_int, k_isIntD_str, k_isIntD_tup, k_isIntD_lst, k_isBlD_non, k_isBlD_bl, k_isBlD_int, k_isBlD_str, k_isBlD_tup, k_isBlD_lst, k_isTupD_non, k_isTupD_bl, k_isTupD_int, k_isTupD_str, k_isTupD_tup, k_isTupD_lst, k_isStrD_non, k_isStrD_bl, k_isStrD_int, k_isStrD_str, k_isStrD_tup, k_isStrD_lst, iso_obj, mk_outs, passL, refsOk, putOuts, capL, true_and, and_true, List.map_cons, List.map_nil, exists_eq_left, Option.some.injEq, flat, exists_const, exists_eq, exists_eq', exists_eq_left', and_self, DV.bl.injEq, DV.int.injEq, DV.str.injEq, DV.tup.injEq, DV.lst.injEq, cm_int, cm_bl, cm_non, cm_str, dq_int, dq_str, dq_bl, dq_nn, dq_in, dq_ni, exists_and_left, DV.obj.injEq, putN, putD, List.not_mem_nil, not_false_eq_true, or_false, false_or, exists_false, false_and, and_false, if_true, if_false, EV.Res.loc.injEq, EV.Slot.own.injEq, EV.Slot.val.injEq, and_assoc, r1_loc, r1_val, r1_tmp, b1_tmp, b1_val, n_0, n_1, n_2, n_3, n_4, n_5, n_6, n_7, Int.reduceBEq, Int.reduceBNe, Int.reduceLT, Int.reduceLE, Int.reduceEq, Int.reduceNeg, decide_true, decide_false, beq_self_eq_true, Bool.not_true, Bool.not_false, PR.it.injEq, PR.nw.injEq, reduceCtorEq, ne_eq, not_false_eq_true, implies_true, lc_nil, lc_cons, at_0, at_1, at_2, at_3, Option.toList_some, Option.toList_none, List.any_cons, List.any_nil, List.all_cons, List.all_nil, Bool.or_false, Bool.and_true, Bool.true_or, Bool.or_true, Bool.false_or, Bool.and_false, Bool.false_and, Bool.true_and, Bool.and_self, Bool.or_self, boolsD, tr_bl, tr_int, tr_non, tr_tup, tr_lst, bk_lst, bk_tup, sk_lst, sk_tup, sk_scr, sk_str, so_scr, lo_lst, to_tup, el_lst, et_tup, sy_val, sy_tmp, sy_loc, seqOf, itemsOf, Option.bind_some, tgN, wipeR, backR, Option.getD_some, plainSlots, List.mem_singleton, forall_eq, $ls,*])
  | `(tactic| simp only [ev2x]) => `(tactic| simp only [wE_var, wE_cst, wE_glb, wE_prim, wE_tup, wE_lst, wE_ife, wE_and2, wE_or2, wE_not1, wE_chain, wE_chain3, wE_call, wE_callK, wE_methK, wE_makeK, wE_fld, wE_meth, wE_make, wE_slc, wE_lc, wE_tm, wE_isC, wE_makeS, wE_makeV, wE_cmeth, wA_nil, wA_cons, wA_star, wO_no, wO_so, wT_tt, wT_and2, wT_or2, wT_not1, wT_val, wG_nm, wG_sub, wG_fld, wG_tp, wI_seq, wI_range1, wI_range2, wI_range3, wI_enum, wI_zip, wI_str, wS_asg, wS_setF, wS_par2, wS_par3, wS_aug, wS_app, wS_ext, wS_ins, wS_pop, wS_expr, wS_ife, wS_for, wS_while, wS_ret, wS_retN, wS_brk, wS_cnt, wS_pass, wS_never, lcB_nil, lcB_cons, lcF_e, th_rt, th_bk, th_ct, wGs_nil, wGs_cons, lk_nx, lk_ct, lk_bk, lk_rt, rhoI, rhoA, nos, nref, List.length_cons, List.length_nil, Nat.reduceAdd, Nat.reduceSub, Nat.sub_self, List.cons_append, List.nil_append, Nat.zero_add, ep0, ep1, ep2, ep3, ep4, ep5, ep6, ep7, ep8, ep9, ep10, ep11, ep12, ep13, ep14, ep15, ep16, ep17, ep18, ep19, ep20, ep21, ep22, ep23, ep24, ep25, ep26, ep27, ep28, ep29, ep30, ep31, ep32, ep33, ep34, ep35, ep36, ep37, ep38, ep39, ep40, ep41, ep42, ep43, ep44, ep45, ep46, ep47, ep48, ep49, ep50, ep51, ep52, ep53, ep54, ep55, ep56, es_lst, es_scr, es_tup, es_str, of_it, of_nw, sd_val, sd_own, ct_val, ct_tmp, ct_loc, cs_nil, cs_val, cs_tmp, cs_loc, cp_val, cp_tmp, cp_loc, g0, gs, bd_tmp, bd_val, bd_loc, st0, sts, ex_some, ob_map, ob_bind, br_t, br_f, br_not, fw_nx, fw_val, fw_tmp, fw_loc, rs_t, rs_f, oo_0, isa_obj, k_isNon_non, k_isNon_bl, k_isNon_int, k_isNon_str, k_isNon_tup, k_isNon_lst, k_isNon_obj, k_isIntD_non, k_isIntD_bl, k_isIntD_int, k_isIntD_str, k_isIntD_tup, k_isIntD_lst, k_isBlD_non, k_isBlD_bl, k_isBlD_int, k_isBlD_str, k_isBlD_tup, k_isBlD_lst, k_isTupD_non, k_isTupD_bl, k_isTupD_int, k_isTupD_str, k_isTupD_tup, k_isTupD_lst, k_isStrD_non, k_isStrD_bl, k_isStrD_int, k_isStrD_str, k_isStrD_tup, k_isStrD_lst, iso_obj, mk_outs, passL, refsOk, putOuts, capL, true_and, and_true, List.map_cons, List.map_nil, exists_eq_left, Option.some.injEq, flat, exists_const, exists_eq, exists_eq', exists_eq_left', and_self, DV.bl.injEq, DV.int.injEq, DV.str.injEq, DV.tup.injEq, DV.lst.injEq, cm_int, cm_bl, cm_non, cm_str, dq_int, dq_str, dq_bl, dq_nn, dq_in, dq_ni, exists_and_left, DV.obj.injEq, putN, putD, List.not_mem_nil, not_false_eq_true, or_false, false_or, exists_false, false_and, and_false, if_true, if_false, EV.Res.loc.injEq, EV.Slot.own.injEq, EV.Slot.val.injEq, and_assoc, r1_loc, r1_val, r1_tmp, b1_tmp, b1_val, n_0, n_1, n_2, n_3, n_4, n_5, n_6, n_7, Int.reduceBEq, Int.reduceBNe, Int.reduceLT, Int.reduceLE, Int.reduceEq, Int.reduceNeg, decide_true, decide_false, beq_self_eq_true, Bool.not_true, Bool.not_false, PR.it.injEq, PR.nw.injEq, reduceCtorEq, ne_eq, not_false_eq_true, implies_true, lc_nil, lc_cons, at_0, at_1, at_2, at_3, Option.toList_some, Option.toList_none, List.any_cons, List.any_nil, List.all_cons, List.all_nil, Bool.or_false, Bool.and_true, Bool.true_or, Bool.or_true, Bool.false_or, Bool.and_false, Bool.false_and, Bool.true_and, Bool.and_self, Bool.or_self, boolsD, tr_bl, tr_int, tr_non, tr_tup, tr_lst, bk_lst, bk_tup, sk_lst, sk_tup, sk_scr, sk_str, so_scr, lo_lst, to_tup, el_lst, et_tup, sy_val, sy_tmp, sy_loc, seqOf, itemsOf, Option.bind_some, tgN, wipeR, backR, Option.getD_some, plainSlots, List.mem_singleton, forall_eq])
  | `(tactic| simp only [evix, $ls,*]) => `(tactic| simp only [rhoI, rhoA, nos, nref, List.length_cons, List.length_nil, Nat.reduceAdd, Nat.reduceSub, Nat.sub_self, List.cons_append, List.nil_append, Nat.zero_add, $ls,*])
  | `(tactic| simp only [evix]) => `(tactic| simp only [rhoI, rhoA, nos, nref, List.length_cons, List.length_nil, Nat.reduceAdd, Nat.reduceSub, Nat.sub_self, List.cons_append, List.nil_append, Nat.zero_add])
local macro_rules
  | `(tactic| simp only [evsx, $ls,*]) => `(tactic| simp only [ev2x, sk_l, q_ll, q_lr, q_ls, q_lt, q_ln, q_lc, q_lo, q_lh, q_lf, q_le, sk_r, q_rl, q_rr, q_rs, q_rt, q_rn, q_rc, q_ro, q_rh, q_rf, q_re, sk_s, q_sl, q_sr, q_ss, q_st, q_sn, q_sc, q_so, q_sh, q_sf, q_se, sk_t, q_tl, q_tr, q_ts, q_tt, q_tn, q_tc, q_to, q_th, q_tf, q_te, sk_n, q_nl, q_nr, q_ns, q_nt, q_nn, q_nc, q_no, q_nh, q_nf, q_ne, sk_c, q_cl, q_cr, q_cs, q_ct, q_cn, q_cc, q_co, q_ch, q_cf, q_ce, sk_o, q_ol, q_or, q_os, q_ot, q_on, q_oc, q_oo, q_oh, q_of, q_oe, sk_h, q_hl, q_hr, q_hs, q_ht, q_hn, q_hc, q_ho, q_hh, q_hf, q_he, sk_f, q_fl, q_fr, q_fs, q_ft, q_fn, q_fc, q_fo, q_fh, q_ff, q_fe, sk_e, q_el, q_er, q_es, q_et, q_en, q_ec, q_eo, q_eh, q_ef, q_ee, $ls,*])
  | `(tactic| simp only [evsx]) => `(tactic| simp only [ev2x, sk_l, q_ll, q_lr, q_ls, q_lt, q_ln, q_lc, q_lo, q_lh, q_lf, q_le, sk_r, q_rl, q_rr, q_rs, q_rt, q_rn, q_rc, q_ro, q_rh, q_rf, q_re, sk_s, q_sl, q_sr, q_ss, q_st, q_sn, q_sc, q_so, q_sh, q_sf, q_se, sk_t, q_tl, q_tr, q_ts, q_tt, q_tn, q_tc, q_to, q_th, q_tf, q_te, sk_n, q_nl, q_nr, q_ns, q_nt, q_nn, q_nc, q_no, q_nh, q_nf, q_ne, sk_c, q_cl, q_cr, q_cs, q_ct, q_cn, q_cc, q_co, q_ch, q_cf, q_ce, sk_o, q_ol, q_or, q_os, q_ot, q_on, q_oc, q_oo, q_oh, q_of, q_oe, sk_h, q_hl, q_hr, q_hs, q_ht, q_hn, q_hc, q_ho, q_hh, q_hf, q_he, sk_f, q_fl, q_fr, q_fs, q_ft, q_fn, q_fc, q_fo, q_fh, q_ff, q_fe, sk_e, q_el, q_er, q_es, q_et, q_en, q_ec, q_eo, q_eh, q_ef, q_ee])
/-! ### numbers in words -/
def isI : DV → Bool
  | .int _ => true
  | _ => false
theorem ii_int (i : Int) : isI (.int i) = true := rfl
def fi_is_integer : FI := ⟨[false], fun ds k => match ds with
  | [d] => plainTop d = true ∧ k false (.bl (isI d)) []
  | _ => False⟩
theorem sp_is_integer (d : DV) (k : Bool → DV → List DV → Prop) : fi_is_integer.spec [d] k = (plainTop d = true ∧ k false (.bl (isI d)) []) := rfl
theorem md_is_integer : fi_is_integer.modes = [false] := rfl
theorem v_is_integer (G : Genv) : ∀ ds k, ds.length = fi_is_integer.modes.length → fi_is_integer.spec ds k → wpSs G b_is_integer (rhoI 1 fi_is_integer.modes ds) (finW (nref fi_is_integer.modes) k) := by
  intro ds k hl h
  match ds, hl, h with
  | [d], _, h =>
    rw [sp_is_integer] at h
    simp only [evix, md_is_integer]
    (try simp only [u_is_integer, wSs_nil, th_nx]); (try simp only [evsx])
    cases d <;> simp_all [isI, plainTop, branch, isIntD, isBlD]
def digs (w : Str) : Str := if (cutS w none (some 1) == "-") = true then cutS w (some 1) none else w
def inFig (c : Nat) : Bool := !(Builtin.Str.occurrences ("0123456789" : Str) (⟨#[c]⟩ : Str) 0 ("0123456789" : Str).length 1).isEmpty
def numB (w : Str) (i : Int) : Bool := decide (w.length ≤ 640) && PyData.strOk w && PyData.strOk (cutS w none (some 1)) && PyData.strOk (digs w) && !(digs w == "") && (digs w).cps.toList.all inFig && decide (0 < (digs w).cps.size) && decide ((digs w).length ≤ 640) &&
  (match (digs w).cps.toList with
    | [] => false
    | c :: _ => PyData.strOk (⟨#[c]⟩ : Str) && (!((⟨#[c]⟩ : Str) == "0") || w == "0")) && decide (intText? w = some i)
def fi_number_in : FI := ⟨[false], fun ds k => ∃ w i, ds = [.str w] ∧ numB w i = true ∧ k false (.int i) []⟩
theorem sp_number_in (ds : List DV) (k : Bool → DV → List DV → Prop) : fi_number_in.spec ds k = (∃ w i, ds = [.str w] ∧ numB w i = true ∧ k false (.int i) []) := rfl
theorem md_number_in : fi_number_in.modes = [false] := rfl
theorem nt_ok (G : Genv) (c1 : G.con "FIGURES" = some (.str "0123456789")) {w z : Str} {i : Int} {k : Bool → DV → List DV → Prop} (hw : w.length ≤ 640) (w1 : PyData.strOk w = true) (z1 : PyData.strOk z = true) (z2 : (z == "") = false) (z3 : z.cps.toList.all inFig = true) (z4 : z.length ≤ 640)
    (z5 : (match z.cps.toList with
      | [] => false
      | c :: _ => PyData.strOk (⟨#[c]⟩ : Str) && (!((⟨#[c]⟩ : Str) == "0") || w == "0")) = true) (hi : intText? w = some i) (h : k false (.int i) []) : wpSs G b_number_in_t_1 [.val (.str w), .val (.str z), .no] (finW 0 k) := by
  have k2 : PyData.strOk ("" : Str) = true := by decide +kernel
  have k3 : PyData.strOk ("0" : Str) = true := by decide +kernel
  have hz : z.length ≤ sizeLine := Nat.le_trans z4 (by decide)
  have hc : (charsD z).length ≤ sizeLine := by rw [ch_len]; exact hz
  simp only [u_number_in_t_1]
  simp only [evsx, z1, k2, z2, c1, hc]
  refine lcB_inv (I := fun j acc ρ => acc = List.replicate j (DV.bl true) ∧ ρ = [.val (.str w), .val (.str z), .no]) ⟨rfl, rfl⟩ ?_ ?_
  · rintro j d ρ acc K hd ⟨rfl, rfl⟩ hK
    obtain ⟨c, hc, rfl⟩ := ch_of hd
    have hf : inFig c = true := List.all_eq_true.mp z3 c hc
    unfold inFig at hf
    simp only [evsx, c1, hf]
    refine hK _ _ ⟨?_, rfl⟩
    rw [List.replicate_succ']; rfl
  · rintro acc ρ ⟨rfl, rfl⟩
    cases hz0 : z.cps.toList with
    | nil => rw [hz0] at z5; cases z5
    | cons c r =>
      rw [hz0] at z5
      simp only [Bool.and_eq_true] at z5
      obtain ⟨z6, z7⟩ := z5
      simp only [evsx, bls_rep, all_rep]
      simp only [th_nx, wSs_nil, u_number_in_t_2]
      simp only [evsx, hz0, z6, k3, hz, w1, hw, hi]
      cases q1 : ((⟨#[c]⟩ : Str) == "0") with
      | false =>
        rw [br_f]
        simp only [th_nx, wSs_nil, u_number_in_t_3]
        simp only [evsx, hw, hi]
        exact h
      | true =>
        rw [q1] at z7
        have z8 : (w == "0") = true := by simpa using z7
        rw [br_t, z8]
        simp only [Bool.not_true, br_f, th_nx, wSs_nil, u_number_in_t_3]
        simp only [evsx, hw, hi]
        exact h
theorem v_number_in (G : Genv) (c1 : G.con "FIGURES" = some (.str "0123456789")) : ∀ ds k, ds.length = fi_number_in.modes.length → fi_number_in.spec ds k → wpSs G b_number_in (rhoI 3 fi_number_in.modes ds) (finW (nref fi_number_in.modes) k) := by
  intro ds k hl h
  rw [sp_number_in] at h
  obtain ⟨w, i, rfl, hn, h⟩ := h
  unfold numB at hn
  simp only [Bool.and_eq_true, decide_eq_true_eq] at hn
  obtain ⟨⟨⟨⟨⟨⟨⟨⟨⟨n1, n2⟩, n3⟩, n4⟩, n5⟩, n6⟩, n7⟩, n8⟩, n9⟩, n10⟩ := hn
  have hsz : w.length ≤ sizeLine := Nat.le_trans n1 (by decide)
  have k1 : PyData.strOk ("-" : Str) = true := by decide +kernel
  have n5' : (digs w == "") = false := by simpa using n5
  generalize hdg : digs w = z at *
  have n8' : z.length ≤ 640 := n8
  have fin := nt_ok G c1 (k := k) n1 n2 n4 n5' n6 n8' n9 n10 h
  simp only [evix, md_number_in]
  cases hb : (cutS w none (some 1) == "-") with
  | true =>
    have hz : cutS w (some 1) none = z := by rw [← hdg]; unfold digs; rw [if_pos hb]
    (try simp only [u_number_in_t_3, u_number_in_t2a_0, u_number_in_t_2, u_number_in_t1a_0, u_number_in_t_1, u_number_in, wSs_nil, th_nx]); (try simp only [evsx, hsz, n2, n3, k1, hb, hz])
    exact fin
  | false =>
    have hz : w = z := by rw [← hdg]; unfold digs; rw [if_neg (by rw [hb]; decide)]
    (try simp only [u_number_in_t_3, u_number_in_t2a_0, u_number_in_t_2, u_number_in_t1a_0, u_number_in_t_1, u_number_in, wSs_nil, th_nx]); (try simp only [evsx, hsz, n2, n3, k1, hb])
    rw [← hz] at fin
    exact fin
/-! bounded -/
def fi_bounded : FI := ⟨[false, false, false], fun ds k => ∃ w i a b, ds = [.str w, .int a, .int b] ∧ numB w i = true ∧ a ≤ i ∧ i ≤ b ∧ k false (.int i) []⟩
theorem sp_bounded (ds : List DV) (k : Bool → DV → List DV → Prop) : fi_bounded.spec ds k = (∃ w i a b, ds = [.str w, .int a, .int b] ∧ numB w i = true ∧ a ≤ i ∧ i ≤ b ∧ k false (.int i) []) := rfl
theorem md_bounded : fi_bounded.modes = [false, false, false] := rfl
theorem v_bounded (G : Genv) (h1 : G.fns "number_in" = some fi_number_in) : ∀ ds k, ds.length = fi_bounded.modes.length → fi_bounded.spec ds k → wpSs G b_bounded (rhoI 4 fi_bounded.modes ds) (finW (nref fi_bounded.modes) k) := by
  intro ds k hl h
  rw [sp_bounded] at h
  obtain ⟨w, i, a, b, rfl, hn, g1, g2, h⟩ := h
  have e1 : decide (a ≤ i) = true := decide_eq_true g1
  have e2 : decide (i ≤ b) = true := decide_eq_true g2
  simp only [evix, md_bounded]
  (try simp only [u_bounded_t_1, u_bounded, wSs_nil, th_nx]); (try simp only [evsx, h1])
  rw [cw_e, md_number_in]
  (try simp only [evsx])
  refine ⟨w, i, rfl, hn, ?_⟩
  (try simp only [evsx])
  (try simp only [u_bounded_t_1, u_bounded, wSs_nil, th_nx]); (try simp only [evsx, e1, e2])
  exact h
/-! ### numbers as words -/
/-- an integer's text -/
def tS (i : Int) : Str := Str.ofString (toString i)
def nOk (i : Int) : Bool := numB (tS i) i && !((tS i).cps.toList.contains 32) && !((tS i).cps.toList.contains 10) && decide ((tS i).length ≤ 10) && PyData.strOk (tS i)
theorem n_pos : ((List.range 100).all fun j => nOk ((j : Nat) : Int)) = true := by decide +kernel
theorem n_neg : ((List.range 99).all fun j => nOk (Int.negSucc j)) = true := by decide +kernel
theorem nOk_of {p : Int} (p1 : -99 ≤ p) (p2 : p ≤ 99) : nOk p = true := by
  cases p with
  | ofNat j => exact List.all_eq_true.mp n_pos j (List.mem_range.mpr (by have e : Int.ofNat j = (j : Int) := rfl; omega))
  | negSucc j => exact List.all_eq_true.mp n_neg j (List.mem_range.mpr (by have e : Int.negSucc j = -((j : Int) + 1) := rfl; omega))
theorem nOk_num {p : Int} (h : nOk p = true) : numB (tS p) p = true := by
  unfold nOk at h; simp only [Bool.and_eq_true] at h; exact h.1.1.1.1
theorem nOk_sp {p : Int} (h : nOk p = true) : 32 ∉ TL.tl (tS p) := by
  unfold nOk at h; simp only [Bool.and_eq_true] at h
  have := h.1.1.1.2
  simpa using this
theorem nOk_nl {p : Int} (h : nOk p = true) : 10 ∉ TL.tl (tS p) := by
  unfold nOk at h; simp only [Bool.and_eq_true] at h
  have := h.1.1.2
  simpa using this
theorem nOk_len {p : Int} (h : nOk p = true) : (tS p).length ≤ 10 := by
  unfold nOk at h; simp only [Bool.and_eq_true, decide_eq_true_eq] at h; exact h.1.2
theorem nOk_ok {p : Int} (h : nOk p = true) : PyData.strOk (tS p) = true := by
  unfold nOk at h; simp only [Bool.and_eq_true, decide_eq_true_eq] at h; exact h.2
theorem num_int {w : Str} {i : Int} (h : numB w i = true) : intText? w = some i := by
  unfold numB at h
  simp only [Bool.and_eq_true, decide_eq_true_eq] at h
  exact h.2
/-! ### moves -/
inductive Mv where
  | lft (r p : Int)
  | rgt (r p : Int)
  | sm (p : Int)
  | on (l : Bool) (p : Int)
  | car (p : Int)
  | off (l : Bool)
def sdS : Bool → Str
  | true => "left"
  | false => "right"
def mvD : Mv → DV
  | .lft r p => .tup [.str "left", .int r, .int p]
  | .rgt r p => .tup [.str "right", .int r, .int p]
  | .sm p => .tup [.str "some", .str "to", .int p]
  | .on l p => .tup [.str "on", .str (sdS l), .int p]
  | .car p => .tup [.str "carry", .str "", .int p]
  | .off l => .tup [.str "off", .str (sdS l), .int 0]
def okMv : Mv → Prop
  | .lft r p => 1 ≤ r ∧ r ≤ 5 ∧ -99 ≤ p ∧ p ≤ 99
  | .rgt r p => 1 ≤ r ∧ r ≤ 5 ∧ -99 ≤ p ∧ p ≤ 99
  | .sm p => -99 ≤ p ∧ p ≤ 99
  | .on _ p => -99 ≤ p ∧ p ≤ 99
  | .car p => -99 ≤ p ∧ p ≤ 99
  | .off _ => True
def mvWords : Mv → List Str
  | .lft r p => ["left", tS r, "to", tS p]
  | .rgt r p => ["right", tS r, "to", tS p]
  | .sm p => ["some", "to", tS p]
  | .on l p => ["on", sdS l, tS p]
  | .car p => ["carry", tS p]
  | .off l => ["off", sdS l]
def mvRow (m : Mv) : Str := Txt.join " " (mvWords m)
/-- a word: no blank, no line feed, short -/
def wordOk (w : Str) : Bool := !((TL.tl w).contains 32) && !((TL.tl w).contains 10) && decide (w.length ≤ 10) && PyData.strOk w
theorem wordOk_n {p : Int} (h : nOk p = true) : wordOk (tS p) = true := by
  unfold wordOk
  have a := nOk_sp h
  have b := nOk_nl h
  have c := nOk_len h
  have d := nOk_ok h
  simp only [Bool.and_eq_true, decide_eq_true_eq]
  exact ⟨⟨⟨by simpa using a, by simpa using b⟩, c⟩, d⟩
theorem wordOk_sd (l : Bool) : wordOk (sdS l) = true := by cases l <;> decide +kernel
theorem words_ok {m : Mv} (h : okMv m) : ∀ w ∈ mvWords m, wordOk w = true := by
  have n5 : ∀ r : Int, 1 ≤ r → r ≤ 5 → wordOk (tS r) = true := fun r a b => wordOk_n (nOk_of (by omega) (by omega))
  have k : ∀ p : Int, -99 ≤ p → p ≤ 99 → wordOk (tS p) = true := fun p a b => wordOk_n (nOk_of a b)
  cases m with
  | lft r p =>
    obtain ⟨a, b, c, d⟩ := h
    intro w hw
    simp only [mvWords, List.mem_cons, List.not_mem_nil, or_false] at hw
    rcases hw with rfl | rfl | rfl | rfl
    · decide +kernel
    · exact n5 r a b
    · decide +kernel
    · exact k p c d
  | rgt r p =>
    obtain ⟨a, b, c, d⟩ := h
    intro w hw
    simp only [mvWords, List.mem_cons, List.not_mem_nil, or_false] at hw
    rcases hw with rfl | rfl | rfl | rfl
    · decide +kernel
    · exact n5 r a b
    · decide +kernel
    · exact k p c d
  | sm p =>
    intro w hw
    simp only [mvWords, List.mem_cons, List.not_mem_nil, or_false] at hw
    rcases hw with rfl | rfl | rfl
    · decide +kernel
    · decide +kernel
    · exact k p h.1 h.2
  | on l p =>
    intro w hw
    simp only [mvWords, List.mem_cons, List.not_mem_nil, or_false] at hw
    rcases hw with rfl | rfl | rfl
    · decide +kernel
    · exact wordOk_sd l
    · exact k p h.1 h.2
  | car p =>
    intro w hw
    simp only [mvWords, List.mem_cons, List.not_mem_nil, or_false] at hw
    rcases hw with rfl | rfl
    · decide +kernel
    · exact k p h.1 h.2
  | off l =>
    intro w hw
    simp only [mvWords, List.mem_cons, List.not_mem_nil, or_false] at hw
    rcases hw with rfl | rfl
    · decide +kernel
    · exact wordOk_sd l
theorem wordOk_sp {w : Str} (h : wordOk w = true) : 32 ∉ TL.tl w := by
  unfold wordOk at h; simp only [Bool.and_eq_true] at h
  have := h.1.1.1
  simpa using this
theorem wordOk_nl {w : Str} (h : wordOk w = true) : 10 ∉ TL.tl w := by
  unfold wordOk at h; simp only [Bool.and_eq_true] at h
  have := h.1.1.2
  simpa using this
theorem wordOk_len {w : Str} (h : wordOk w = true) : w.length ≤ 10 := by
  unfold wordOk at h; simp only [Bool.and_eq_true, decide_eq_true_eq] at h; exact h.1.2
theorem split_words {ws : List Str} (h : ∀ w ∈ ws, wordOk w = true) (h0 : ws ≠ []) : Txt.split (Txt.join " " ws) " " = ws :=
  TL.split_join (s := 32) (S := []) (by decide +kernel) (by decide +kernel) (by simpa using h0) fun w hw => wordOk_sp (h w hw)
theorem mvWords_ne (m : Mv) : mvWords m ≠ [] := by cases m <;> simp [mvWords]
theorem row_split {m : Mv} (h : okMv m) : Txt.split (mvRow m) " " = mvWords m := split_words (words_ok h) (mvWords_ne m)
theorem join_len : ∀ ws : List Str, (∀ w ∈ ws, w.length ≤ 10) → (Txt.join " " ws).length ≤ 11 * ws.length
  | [], _ => by decide +kernel
  | [w], h => by
    have := h w List.mem_cons_self
    rw [TL.join_eq]
    show w.length ≤ 11 * 1
    omega
  | w :: v :: ws, h => by
    have h1 := h w List.mem_cons_self
    have h2 := join_len (v :: ws) fun x hx => h x (List.mem_cons_of_mem _ hx)
    have e : Txt.join " " (w :: v :: ws) = w ++ " " ++ Txt.join " " (v :: ws) := by
      rw [TL.join_eq, TL.join_eq]; rfl
    have e2 : ((" " : Str)).length = 1 := by decide +kernel
    rw [e, app_len, app_len, e2]
    simp only [List.length_cons] at h2 ⊢
    omega
theorem mvRow_len {m : Mv} (h : okMv m) : (mvRow m).length ≤ 44 := by
  have := join_len (mvWords m) fun w hw => wordOk_len (words_ok h w hw)
  have e : (mvWords m).length ≤ 4 := by cases m <;> simp [mvWords]
  unfold mvRow
  omega
end T

set_option maxRecDepth 100000
set_option maxHeartbeats 4000000
set_option exponentiation.threshold 5000
namespace T
open PySem L2 EV
local macro_rules
  | `(tactic| simp only [ev2x, $ls,*]) => `(tactic| simp only [wE_var, wE_cst, wE_glb, wE_prim, wE_tup, wE_lst, wE_ife, wE_and2, wE_or2, wE_not1, wE_chain, wE_chain3, wE_call, wE_callK, wE_methK, wE_makeK, wE_fld, wE_meth, wE_make, wE_slc, wE_lc, wE_tm, wE_isC, wE_makeS, wE_makeV, wE_cmeth, wA_nil, wA_cons, wA_star, wO_no, wO_so, wT_tt, wT_and2, wT_or2, wT_not1, wT_val, wG_nm, wG_sub, wG_fld, wG_tp, wI_seq, wI_range1, wI_range2, wI_range3, wI_enum, wI_zip, wI_str, wS_asg, wS_setF, wS_par2, wS_par3, wS_aug, wS_app, wS_ext, wS_ins, wS_pop, wS_expr, wS_ife, wS_for, wS_while, wS_ret, wS_retN, wS_brk, wS_cnt, wS_pass, wS_never, lcB_nil, lcB_cons, lcF_e, th_rt, th_bk, th_ct, wGs_nil, wGs_cons, lk_nx, lk_ct, lk_bk, lk_rt, rhoI, rhoA, nos, nref, List.length_cons, List.length_nil, Nat.reduceAdd, Nat.reduceSub, Nat.sub_self, List.cons_append, List.nil_append, Nat.zero_add, ep0, ep1, ep2, ep3, ep4, ep5, ep6, ep7, ep8, ep9, ep10, ep11, ep12, ep13, ep14, ep15, ep16, ep17, ep18, ep19, ep20, ep21, ep22, ep23, ep24, ep25, ep26, ep27, ep28, ep29, ep30, ep31, ep32, ep33, ep34, ep35, ep36, ep37, ep38, ep39, ep40, ep41, ep42, ep43, ep44, ep45, ep46, ep47, ep48, ep49, ep50, ep51, ep52, ep53, ep54, ep55, ep56, es_lst, es_scr, es_tup, es_str, of_it, of_nw, sd_val, sd_own, ct_val, ct_tmp, ct_loc, cs_nil, cs_val, cs_tmp, cs_loc, cp_val, cp_tmp, cp_loc, g0, gs, bd_tmp, bd_val, bd_loc, st0, sts, ex_some, ob_map, ob_bind, br_t, br_f, br_not, fw_nx, fw_val, fw_tmp, fw_loc, rs_t, rs_f, oo_0, isa_obj, k_isNon_non, k_isNon_bl, k_isNon_int, k_isNon_str, k_isNon_tup, k_isNon_lst, k_isNon_obj, k_isIntD_non, k_isIntD_bl, k_isIntD_int, k_isIntD_str, k_isIntD_tup, k_isIntD_lst, k_isBlD_non, k_isBlD_bl, k_isBlD_int, k_isBlD_str, k_isBlD_tup, k_isBlD_lst, k_isTupD_non, k_isTupD_bl, k_isTupD_int, k_isTupD_str, k_isTupD_tup, k_isTupD_lst, k_isStrD_non, k_isStrD_bl, k_isStrD_int, k_isStrD_str, k_isStrD_tup, k_isStrD_lst, iso_obj, mk_outs, passL, refsOk, putOuts, capL, true_and, and_true, List.map_cons, List.map_nil, exists_eq_left, Option.some.injEq, flat, exists_const, exists_eq, exists_eq', exists_eq_left', and_self, DV.bl.injEq, DV.int.injEq, DV.str.injEq, DV.tup.injEq, DV.lst.injEq, cm_int, cm_bl, cm_non, cm_str, dq_int, dq_str, dq_bl, dq_nn, dq_in, dq_ni, exists_and_left, DV.obj.injEq, putN, putD, List.not_mem_nil, not_false_eq_true, or_false, false_or, exists_false, false_and, and_false, if_true, if_false, EV.Res.loc.injEq, EV.Slot.own.injEq, EV.Slot.val.injEq, and_assoc, r1_loc, r1_val, r1_tmp, b1_tmp, b1_val, n_0, n_1, n_2, n_3, n_4, n_5, n_6, n_7, Int.reduceBEq, Int.reduceBNe, Int.reduceLT, Int.reduceLE, Int.reduceEq, Int.reduceNeg, decide_true, decide_false, beq_self_eq_true, Bool.not_true, Bool.not_false, PR.it.injEq, PR.nw.injEq, reduceCtorEq, ne_eq, not_false_eq_true, implies_true, lc_nil, lc_cons, at_0, at_1, at_2, at_3, Option.toList_some, Option.toList_none, List.any_cons, List.any_nil, List.all_cons, List.all_nil, Bool.or_false, Bool.and_true, Bool.true_or, Bool.or_true, Bool.false_or, Bool.and_false, Bool.false_and, Bool.true_and, Bool.and_self, Bool.or_self, boolsD, tr_bl, tr_int, tr_non, tr_tup, tr_lst, bk_lst, bk_tup, sk_lst, sk_tup, sk_scr, sk_str, so_scr, lo_lst, to_tup, el_lst, et_tup, sy_val, sy_tmp, sy_loc, seqOf, itemsOf, Option.bind_some, tgN, wipeR, backR, Option.getD_some, plainSlots, List.mem_singleton, forall_eq, $ls,*])
  | `(tactic| simp only [ev2x]) => `(tactic| simp only [wE_var, wE_cst, wE_glb, wE_prim, wE_tup, wE_lst, wE_ife, wE_and2, wE_or2, wE_not1, wE_chain, wE_chain3, wE_call, wE_callK, wE_methK, wE_makeK, wE_fld, wE_meth, wE_make, wE_slc, wE_lc, wE_tm, wE_isC, wE_makeS, wE_makeV, wE_cmeth, wA_nil, wA_cons, wA_star, wO_no, wO_so, wT_tt, wT_and2, wT_or2, wT_not1, wT_val, wG_nm, wG_sub, wG_fld, wG_tp, wI_seq, wI_range1, wI_range2, wI_range3, wI_enum, wI_zip, wI_str, wS_asg, wS_setF, wS_par2, wS_par3, wS_aug, wS_app, wS_ext, wS_ins, wS_pop, wS_expr, wS_ife, wS_for, wS_while, wS_ret, wS_retN, wS_brk, wS_cnt, wS_pass, wS_never, lcB_nil, lcB_cons, lcF_e, th_rt, th_bk, th_ct, wGs_nil, wGs_cons, lk_nx, lk_ct, lk_bk, lk_rt, rhoI, rhoA, nos, nref, List.length_cons, List.length_nil, Nat.reduceAdd, Nat.reduceSub, Nat.sub_self, List.cons_append, List.nil_append, Nat.zero_add, ep0, ep1, ep2, ep3, ep4, ep5, ep6, ep7, ep8, ep9, ep10, ep11, ep12, ep13, ep14, ep15, ep16, ep17, ep18, ep19, ep20, ep21, ep22, ep23, ep24, ep25, ep26, ep27, ep28, ep29, ep30, ep31, ep32, ep33, ep34, ep35, ep36, ep37, ep38, ep39, ep40, ep41, ep42, ep43, ep44, ep45, ep46, ep47, ep48, ep49, ep50, ep51, ep52, ep53, ep54, ep55, ep56, es_lst, es_scr, es_tup, es_str, of_it, of_nw, sd_val, sd_own, ct_val, ct_tmp, ct_loc, cs_nil, cs_val, cs_tmp, cs_loc, cp_val, cp_tmp, cp_loc, g0, gs, bd_tmp, bd_val, bd_loc, st0, sts, ex_some, ob_map, ob_bind, br_t, br_f, br_not, fw_nx, fw_val, fw_tmp, fw_loc, rs_t, rs_f, oo_0, isa_obj, k_isNon_non, k_isNon_bl, k_isNon_int, k_isNon_str, k_isNon_tup, k_isNon_lst, k_isNon_obj, k_isIntD_non, k_isIntD_bl, k_isIntD_int, k_isIntD_str, k_isIntD_tup, k_isIntD_lst, k_isBlD_non, k_isBlD_bl, k_isBlD_int, k_isBlD_str, k_isBlD_tup, k_isBlD_lst, k_isTupD_non, k_isTupD_bl, k_isTupD_int, k_isTupD_str, k_isTupD_tup, k_isTupD_lst, k_isStrD_non, k_isStrD_bl, k_isStrD_int, k_isStrD_str, k_isStrD_tup, k_isStrD_lst, iso_obj, mk_outs, passL, refsOk, putOuts, capL, true_and, and_true, List.map_cons, List.map_nil, exists_eq_left, Option.some.injEq, flat, exists_const, exists_eq, exists_eq', exists_eq_left', and_self, DV.bl.injEq, DV.int.injEq, DV.str.injEq, DV.tup.injEq, DV.lst.injEq, cm_int, cm_bl, cm_non, cm_str, dq_int, dq_str, dq_bl, dq_nn, dq_in, dq_ni, exists_and_left, DV.obj.injEq, putN, putD, List.not_mem_nil, not_false_eq_true, or_false, false_or, exists_false, false_and, and_false, if_true, if_false, EV.Res.loc.injEq, EV.Slot.own.injEq, EV.Slot.val.injEq, and_assoc, r1_loc, r1_val, r1_tmp, b1_tmp, b1_val, n_0, n_1, n_2, n_3, n_4, n_5, n_6, n_7, Int.reduceBEq, Int.reduceBNe, Int.reduceLT, Int.reduceLE, Int.reduceEq, Int.reduceNeg, decide_true, decide_false, beq_self_eq_true, Bool.not_true, Bool.not_false, PR.it.injEq, PR.nw.injEq, reduceCtorEq, ne_eq, not_false_eq_true, implies_true, lc_nil, lc_cons, at_0, at_1, at_2, at_3, Option.toList_some, Option.toList_none, List.any_cons, List.any_nil, List.all_cons, List.all_nil, Bool.or_false, Bool.and_true, Bool.true_or, Bool.or_true, Bool.false_or, Bool.and_false, Bool.false_and, Bool.true_and, Bool.and_self, Bool.or_self, boolsD, tr_bl, tr_int, tr_non, tr_tup, tr_lst, bk_lst, bk_tup, sk_lst, sk_tup, sk_scr, sk_str, so_scr, lo_lst, to_tup, el_lst, et_tup, sy_val, sy_tmp, sy_loc, seqOf, itemsOf, Option.bind_some, tgN, wipeR, backR, Option.getD_some, plainSlots, List.mem_singleton, forall_eq])
  | `(tactic| simp only [evix, $ls,*]) => `(tactic| simp only [rhoI, rhoA, nos, nref, List.length_cons, List.length_nil, Nat.reduceAdd, Nat.reduceSub, Nat.sub_self, List.cons_append, List.nil_append, Nat.zero_add, $ls,*])
  | `(tactic| simp only [evix]) => `(tactic| simp only [rhoI, rhoA, nos, nref, List.length_cons, List.length_nil, Nat.reduceAdd, Nat.reduceSub, Nat.sub_self, List.cons_append, List.nil_append, Nat.zero_add])
local macro_rules
  | `(tactic| simp only [evsx, $ls,*]) => `(tactic| simp only [ev2x, sk_l, q_ll, q_lr, q_ls, q_lt, q_ln, q_lc, q_lo, q_lh, q_lf, q_le, sk_r, q_rl, q_rr, q_rs, q_rt, q_rn, q_rc, q_ro, q_rh, q_rf, q_re, sk_s, q_sl, q_sr, q_ss, q_st, q_sn, q_sc, q_so, q_sh, q_sf, q_se, sk_t, q_tl, q_tr, q_ts, q_tt, q_tn, q_tc, q_to, q_th, q_tf, q_te, sk_n, q_nl, q_nr, q_ns, q_nt, q_nn, q_nc, q_no, q_nh, q_nf, q_ne, sk_c, q_cl, q_cr, q_cs, q_ct, q_cn, q_cc, q_co, q_ch, q_cf, q_ce, sk_o, q_ol, q_or, q_os, q_ot, q_on, q_oc, q_oo, q_oh, q_of, q_oe, sk_h, q_hl, q_hr, q_hs, q_ht, q_hn, q_hc, q_ho, q_hh, q_hf, q_he, sk_f, q_fl, q_fr, q_fs, q_ft, q_fn, q_fc, q_fo, q_fh, q_ff, q_fe, sk_e, q_el, q_er, q_es, q_et, q_en, q_ec, q_eo, q_eh, q_ef, q_ee, $ls,*])
  | `(tactic| simp only [evsx]) => `(tactic| simp only [ev2x, sk_l, q_ll, q_lr, q_ls, q_lt, q_ln, q_lc, q_lo, q_lh, q_lf, q_le, sk_r, q_rl, q_rr, q_rs, q_rt, q_rn, q_rc, q_ro, q_rh, q_rf, q_re, sk_s, q_sl, q_sr, q_ss, q_st, q_sn, q_sc, q_so, q_sh, q_sf, q_se, sk_t, q_tl, q_tr, q_ts, q_tt, q_tn, q_tc, q_to, q_th, q_tf, q_te, sk_n, q_nl, q_nr, q_ns, q_nt, q_nn, q_nc, q_no, q_nh, q_nf, q_ne, sk_c, q_cl, q_cr, q_cs, q_ct, q_cn, q_cc, q_co, q_ch, q_cf, q_ce, sk_o, q_ol, q_or, q_os, q_ot, q_on, q_oc, q_oo, q_oh, q_of, q_oe, sk_h, q_hl, q_hr, q_hs, q_ht, q_hn, q_hc, q_ho, q_hh, q_hf, q_he, sk_f, q_fl, q_fr, q_fs, q_ft, q_fn, q_fc, q_fo, q_fh, q_ff, q_fe, sk_e, q_el, q_er, q_es, q_et, q_en, q_ec, q_eo, q_eh, q_ef, q_ee])
/-! ### rows: moves -/
theorem sides_con : (("left" : Str)) = sdS true ∧ (("right" : Str)) = sdS false := ⟨rfl, rfl⟩
theorem dq_l2 (a b c d : Str) : deq (.lst [.str a, .str b]) (.lst [.str c, .str d]) = (a == c && b == d) := by
  unfold deq toD PyData.eqv
  simp only [toDs, toD, PyData.eqvAll, PyData.eqv, Bool.and_true]
theorem cm_l2 (a b : Str) : cmpb (.lst [.str a, .str b]) = (PyData.strOk a && PyData.strOk b) := by
  unfold cmpb bare toD SeqAt.shaped PyData.canLay0 PyData.depth
  simp only [bares, bare, toDs, toD, PyData.canLayAll0, PyData.canLay0, PyData.depthAll, PyData.depth, Bool.and_true, Bool.true_and]
  cases PyData.strOk a <;> cases PyData.strOk b <;> rfl
theorem cut3_2 (a b c : DV) : cutD [a, b, c] none (some 2) = [a, b] := rfl
def fi_move_in : FI := ⟨[false], fun ds k => ∃ m, ds = [.str (mvRow m)] ∧ okMv m ∧ k false (mvD m) []⟩
theorem sp_move_in (ds : List DV) (k : Bool → DV → List DV → Prop) : fi_move_in.spec ds k = (∃ m, ds = [.str (mvRow m)] ∧ okMv m ∧ k false (mvD m) []) := rfl
theorem md_move_in : fi_move_in.modes = [false] := rfl
theorem v_move_in (G : Genv) (h1 : G.fns "bounded" = some fi_bounded) (c1 : G.con "SIDES" = some (.tup [.str "left", .str "right"])) (c2 : G.con "MOST_NAMED" = some (.int 5)) (c3 : G.con "MOST_PLACE" = some (.int 99)) : ∀ ds k, ds.length = fi_move_in.modes.length → fi_move_in.spec ds k → wpSs G b_move_in (rhoI 4 fi_move_in.modes ds) (finW (nref fi_move_in.modes) k) := by
  intro ds k hl h
  rw [sp_move_in] at h
  obtain ⟨m, rfl, ok, h⟩ := h
  have hs := row_split ok
  have hz : (mvRow m).length + 2 ≤ sizeLine := big_l (by have := mvRow_len ok; omega)
  have nn : ∀ p : Int, -99 ≤ p → p ≤ 99 → numB (tS p) p = true := fun p a b => nOk_num (nOk_of a b)
  simp only [evix, md_move_in]
  (try simp only [u_move_in_t_5, u_move_in_t4a_0, u_move_in_t_4, u_move_in_t3a_1, u_move_in_t3a_0, u_move_in_t_3, u_move_in_t2a_1, u_move_in_t2a_0, u_move_in_t_2, u_move_in_t1a_1, u_move_in_t1a_0, u_move_in_t_1, u_move_in, wSs_nil, th_nx]); (try simp only [evsx, pt_str, sp_ne, hz, hs])
  cases m with
  | lft r p =>
    obtain ⟨r1, r2, p1, p2⟩ := ok
    simp only [mvWords, mvD] at *
    (try simp only [u_move_in_t_5, u_move_in_t4a_0, u_move_in_t_4, u_move_in_t3a_1, u_move_in_t3a_0, u_move_in_t_3, u_move_in_t2a_1, u_move_in_t2a_0, u_move_in_t_2, u_move_in_t1a_1, u_move_in_t1a_0, u_move_in_t_1, u_move_in, wSs_nil, th_nx]); (try simp only [evsx, c1, c2, c3, h1])
    (try simp only [u_move_in_t_5, u_move_in_t4a_0, u_move_in_t_4, u_move_in_t3a_1, u_move_in_t3a_0, u_move_in_t_3, u_move_in_t2a_1, u_move_in_t2a_0, u_move_in_t_2, u_move_in_t1a_1, u_move_in_t1a_0, u_move_in_t_1, u_move_in, wSs_nil, th_nx]); (try simp only [evsx, c1, c2, c3, h1])
    rw [cw_e, md_bounded]
    (try simp only [evsx, c3])
    refine ⟨tS r, r, 1, 5, rfl, nn r (by omega) (by omega), r1, r2, ?_⟩
    (try simp only [evsx, c3])
    rw [cw_e, md_bounded]
    (try simp only [evsx, c3])
    refine ⟨tS p, p, -99, 99, rfl, nn p p1 p2, p1, p2, ?_⟩
    (try simp only [evsx, c3])
    (try simp only [u_move_in_t_5, u_move_in_t4a_0, u_move_in_t_4, u_move_in_t3a_1, u_move_in_t3a_0, u_move_in_t_3, u_move_in_t2a_1, u_move_in_t2a_0, u_move_in_t_2, u_move_in_t1a_1, u_move_in_t1a_0, u_move_in_t_1, u_move_in, wSs_nil, th_nx]); (try simp only [evsx, c1])
    exact ⟨by decide, h⟩
  | rgt r p =>
    obtain ⟨r1, r2, p1, p2⟩ := ok
    simp only [mvWords, mvD] at *
    (try simp only [u_move_in_t_5, u_move_in_t4a_0, u_move_in_t_4, u_move_in_t3a_1, u_move_in_t3a_0, u_move_in_t_3, u_move_in_t2a_1, u_move_in_t2a_0, u_move_in_t_2, u_move_in_t1a_1, u_move_in_t1a_0, u_move_in_t_1, u_move_in, wSs_nil, th_nx]); (try simp only [evsx, c1, c2, c3, h1])
    (try simp only [u_move_in_t_5, u_move_in_t4a_0, u_move_in_t_4, u_move_in_t3a_1, u_move_in_t3a_0, u_move_in_t_3, u_move_in_t2a_1, u_move_in_t2a_0, u_move_in_t_2, u_move_in_t1a_1, u_move_in_t1a_0, u_move_in_t_1, u_move_in, wSs_nil, th_nx]); (try simp only [evsx, c1, c2, c3, h1])
    rw [cw_e, md_bounded]
    (try simp only [evsx, c3])
    refine ⟨tS r, r, 1, 5, rfl, nn r (by omega) (by omega), r1, r2, ?_⟩
    (try simp only [evsx, c3])
    rw [cw_e, md_bounded]
    (try simp only [evsx, c3])
    refine ⟨tS p, p, -99, 99, rfl, nn p p1 p2, p1, p2, ?_⟩
    (try simp only [evsx, c3])
    (try simp only [u_move_in_t_5, u_move_in_t4a_0, u_move_in_t_4, u_move_in_t3a_1, u_move_in_t3a_0, u_move_in_t_3, u_move_in_t2a_1, u_move_in_t2a_0, u_move_in_t_2, u_move_in_t1a_1, u_move_in_t1a_0, u_move_in_t_1, u_move_in, wSs_nil, th_nx]); (try simp only [evsx, c1])
    exact ⟨by decide, h⟩
  | sm p =>
    obtain ⟨p1, p2⟩ := ok
    simp only [mvWords, mvD] at *
    (try simp only [u_move_in_t_5, u_move_in_t4a_0, u_move_in_t_4, u_move_in_t3a_1, u_move_in_t3a_0, u_move_in_t_3, u_move_in_t2a_1, u_move_in_t2a_0, u_move_in_t_2, u_move_in_t1a_1, u_move_in_t1a_0, u_move_in_t_1, u_move_in, wSs_nil, th_nx]); (try simp only [evsx, c1, c2, c3, h1])
    (try simp only [u_move_in_t_5, u_move_in_t4a_0, u_move_in_t_4, u_move_in_t3a_1, u_move_in_t3a_0, u_move_in_t_3, u_move_in_t2a_1, u_move_in_t2a_0, u_move_in_t_2, u_move_in_t1a_1, u_move_in_t1a_0, u_move_in_t_1, u_move_in, wSs_nil, th_nx]); (try simp only [evsx, c1, c2, c3, h1, cut3_2, cm_l2, dq_l2])
    refine ⟨by decide, ?_⟩
    (try simp only [u_move_in_t_5, u_move_in_t4a_0, u_move_in_t_4, u_move_in_t3a_1, u_move_in_t3a_0, u_move_in_t_3, u_move_in_t2a_1, u_move_in_t2a_0, u_move_in_t_2, u_move_in_t1a_1, u_move_in_t1a_0, u_move_in_t_1, u_move_in, wSs_nil, th_nx]); (try simp only [evsx, c1, c2, c3, h1])
    rw [cw_e, md_bounded]
    (try simp only [evsx])
    refine ⟨tS p, p, -99, 99, rfl, nn p p1 p2, p1, p2, ?_⟩
    (try simp only [evsx])
    (try simp only [u_move_in_t_5, u_move_in_t4a_0, u_move_in_t_4, u_move_in_t3a_1, u_move_in_t3a_0, u_move_in_t_3, u_move_in_t2a_1, u_move_in_t2a_0, u_move_in_t_2, u_move_in_t1a_1, u_move_in_t1a_0, u_move_in_t_1, u_move_in, wSs_nil, th_nx]); (try simp only [evsx, c1])
    exact ⟨by decide, h⟩
  | on l p =>
    obtain ⟨p1, p2⟩ := ok
    cases l with
    | true =>
      simp only [mvWords, mvD, sdS] at *
      (try simp only [u_move_in_t_5, u_move_in_t4a_0, u_move_in_t_4, u_move_in_t3a_1, u_move_in_t3a_0, u_move_in_t_3, u_move_in_t2a_1, u_move_in_t2a_0, u_move_in_t_2, u_move_in_t1a_1, u_move_in_t1a_0, u_move_in_t_1, u_move_in, wSs_nil, th_nx]); (try simp only [evsx, c1, c2, c3, h1])
      (try simp only [u_move_in_t_5, u_move_in_t4a_0, u_move_in_t_4, u_move_in_t3a_1, u_move_in_t3a_0, u_move_in_t_3, u_move_in_t2a_1, u_move_in_t2a_0, u_move_in_t_2, u_move_in_t1a_1, u_move_in_t1a_0, u_move_in_t_1, u_move_in, wSs_nil, th_nx]); (try simp only [evsx, c1, c2, c3, h1, cut3_2, cm_l2, dq_l2])
      refine ⟨by decide, ?_⟩
      (try simp only [u_move_in_t_5, u_move_in_t4a_0, u_move_in_t_4, u_move_in_t3a_1, u_move_in_t3a_0, u_move_in_t_3, u_move_in_t2a_1, u_move_in_t2a_0, u_move_in_t_2, u_move_in_t1a_1, u_move_in_t1a_0, u_move_in_t_1, u_move_in, wSs_nil, th_nx]); (try simp only [evsx, c1, c2, c3, h1])
      rw [cw_e, md_bounded]
      (try simp only [evsx])
      refine ⟨tS p, p, -99, 99, rfl, nn p p1 p2, p1, p2, ?_⟩
      (try simp only [evsx])
      (try simp only [u_move_in_t_5, u_move_in_t4a_0, u_move_in_t_4, u_move_in_t3a_1, u_move_in_t3a_0, u_move_in_t_3, u_move_in_t2a_1, u_move_in_t2a_0, u_move_in_t_2, u_move_in_t1a_1, u_move_in_t1a_0, u_move_in_t_1, u_move_in, wSs_nil, th_nx]); (try simp only [evsx, c1])
      exact ⟨by decide, h⟩
    | false =>
      simp only [mvWords, mvD, sdS] at *
      (try simp only [u_move_in_t_5, u_move_in_t4a_0, u_move_in_t_4, u_move_in_t3a_1, u_move_in_t3a_0, u_move_in_t_3, u_move_in_t2a_1, u_move_in_t2a_0, u_move_in_t_2, u_move_in_t1a_1, u_move_in_t1a_0, u_move_in_t_1, u_move_in, wSs_nil, th_nx]); (try simp only [evsx, c1, c2, c3, h1])
      (try simp only [u_move_in_t_5, u_move_in_t4a_0, u_move_in_t_4, u_move_in_t3a_1, u_move_in_t3a_0, u_move_in_t_3, u_move_in_t2a_1, u_move_in_t2a_0, u_move_in_t_2, u_move_in_t1a_1, u_move_in_t1a_0, u_move_in_t_1, u_move_in, wSs_nil, th_nx]); (try simp only [evsx, c1, c2, c3, h1, cut3_2, cm_l2, dq_l2])
      refine ⟨by decide, ?_⟩
      (try simp only [u_move_in_t_5, u_move_in_t4a_0, u_move_in_t_4, u_move_in_t3a_1, u_move_in_t3a_0, u_move_in_t_3, u_move_in_t2a_1, u_move_in_t2a_0, u_move_in_t_2, u_move_in_t1a_1, u_move_in_t1a_0, u_move_in_t_1, u_move_in, wSs_nil, th_nx]); (try simp only [evsx, c1, c2, c3, h1])
      rw [cw_e, md_bounded]
      (try simp only [evsx])
      refine ⟨tS p, p, -99, 99, rfl, nn p p1 p2, p1, p2, ?_⟩
      (try simp only [evsx])
      (try simp only [u_move_in_t_5, u_move_in_t4a_0, u_move_in_t_4, u_move_in_t3a_1, u_move_in_t3a_0, u_move_in_t_3, u_move_in_t2a_1, u_move_in_t2a_0, u_move_in_t_2, u_move_in_t1a_1, u_move_in_t1a_0, u_move_in_t_1, u_move_in, wSs_nil, th_nx]); (try simp only [evsx, c1])
      exact ⟨by decide, h⟩
  | car p =>
    obtain ⟨p1, p2⟩ := ok
    simp only [mvWords, mvD, sdS] at *
    (try simp only [u_move_in_t_5, u_move_in_t4a_0, u_move_in_t_4, u_move_in_t3a_1, u_move_in_t3a_0, u_move_in_t_3, u_move_in_t2a_1, u_move_in_t2a_0, u_move_in_t_2, u_move_in_t1a_1, u_move_in_t1a_0, u_move_in_t_1, u_move_in, wSs_nil, th_nx]); (try simp only [evsx, c1, c2, c3, h1]); (try simp only [u_move_in_t_5, u_move_in_t4a_0, u_move_in_t_4, u_move_in_t3a_1, u_move_in_t3a_0, u_move_in_t_3, u_move_in_t2a_1, u_move_in_t2a_0, u_move_in_t_2, u_move_in_t1a_1, u_move_in_t1a_0, u_move_in_t_1, u_move_in, wSs_nil, th_nx]); (try simp only [evsx, c1, c2, c3, h1]); (try simp only [u_move_in_t_5, u_move_in_t4a_0, u_move_in_t_4, u_move_in_t3a_1, u_move_in_t3a_0, u_move_in_t_3, u_move_in_t2a_1, u_move_in_t2a_0, u_move_in_t_2, u_move_in_t1a_1, u_move_in_t1a_0, u_move_in_t_1, u_move_in, wSs_nil, th_nx]); (try simp only [evsx, c1, c2, c3, h1])
    (try simp only [u_move_in_t_5, u_move_in_t4a_0, u_move_in_t_4, u_move_in_t3a_1, u_move_in_t3a_0, u_move_in_t_3, u_move_in_t2a_1, u_move_in_t2a_0, u_move_in_t_2, u_move_in_t1a_1, u_move_in_t1a_0, u_move_in_t_1, u_move_in, wSs_nil, th_nx]); (try simp only [evsx, c1, c2, c3, h1])
    rw [cw_e, md_bounded]
    (try simp only [evsx])
    refine ⟨tS p, p, -99, 99, rfl, nn p p1 p2, p1, p2, ?_⟩
    (try simp only [evsx])
    (try simp only [u_move_in_t_5, u_move_in_t4a_0, u_move_in_t_4, u_move_in_t3a_1, u_move_in_t3a_0, u_move_in_t_3, u_move_in_t2a_1, u_move_in_t2a_0, u_move_in_t_2, u_move_in_t1a_1, u_move_in_t1a_0, u_move_in_t_1, u_move_in, wSs_nil, th_nx]); (try simp only [evsx, c1])
    exact ⟨by decide, h⟩
  | off l =>
    cases l with
    | true =>
      simp only [mvWords, mvD, sdS] at *
      (try simp only [u_move_in_t_5, u_move_in_t4a_0, u_move_in_t_4, u_move_in_t3a_1, u_move_in_t3a_0, u_move_in_t_3, u_move_in_t2a_1, u_move_in_t2a_0, u_move_in_t_2, u_move_in_t1a_1, u_move_in_t1a_0, u_move_in_t_1, u_move_in, wSs_nil, th_nx]); (try simp only [evsx, c1, c2, c3, h1]); (try simp only [u_move_in_t_5, u_move_in_t4a_0, u_move_in_t_4, u_move_in_t3a_1, u_move_in_t3a_0, u_move_in_t_3, u_move_in_t2a_1, u_move_in_t2a_0, u_move_in_t_2, u_move_in_t1a_1, u_move_in_t1a_0, u_move_in_t_1, u_move_in, wSs_nil, th_nx]); (try simp only [evsx, c1, c2, c3, h1]); (try simp only [u_move_in_t_5, u_move_in_t4a_0, u_move_in_t_4, u_move_in_t3a_1, u_move_in_t3a_0, u_move_in_t_3, u_move_in_t2a_1, u_move_in_t2a_0, u_move_in_t_2, u_move_in_t1a_1, u_move_in_t1a_0, u_move_in_t_1, u_move_in, wSs_nil, th_nx]); (try simp only [evsx, c1, c2, c3, h1]); (try simp only [u_move_in_t_5, u_move_in_t4a_0, u_move_in_t_4, u_move_in_t3a_1, u_move_in_t3a_0, u_move_in_t_3, u_move_in_t2a_1, u_move_in_t2a_0, u_move_in_t_2, u_move_in_t1a_1, u_move_in_t1a_0, u_move_in_t_1, u_move_in, wSs_nil, th_nx]); (try simp only [evsx, c1, c2, c3, h1])
      (try simp only [u_move_in_t_5, u_move_in_t4a_0, u_move_in_t_4, u_move_in_t3a_1, u_move_in_t3a_0, u_move_in_t_3, u_move_in_t2a_1, u_move_in_t2a_0, u_move_in_t_2, u_move_in_t1a_1, u_move_in_t1a_0, u_move_in_t_1, u_move_in, wSs_nil, th_nx]); (try simp only [evsx, c1])
      exact ⟨by decide, h⟩
    | false =>
      simp only [mvWords, mvD, sdS] at *
      (try simp only [u_move_in_t_5, u_move_in_t4a_0, u_move_in_t_4, u_move_in_t3a_1, u_move_in_t3a_0, u_move_in_t_3, u_move_in_t2a_1, u_move_in_t2a_0, u_move_in_t_2, u_move_in_t1a_1, u_move_in_t1a_0, u_move_in_t_1, u_move_in, wSs_nil, th_nx]); (try simp only [evsx, c1, c2, c3, h1]); (try simp only [u_move_in_t_5, u_move_in_t4a_0, u_move_in_t_4, u_move_in_t3a_1, u_move_in_t3a_0, u_move_in_t_3, u_move_in_t2a_1, u_move_in_t2a_0, u_move_in_t_2, u_move_in_t1a_1, u_move_in_t1a_0, u_move_in_t_1, u_move_in, wSs_nil, th_nx]); (try simp only [evsx, c1, c2, c3, h1]); (try simp only [u_move_in_t_5, u_move_in_t4a_0, u_move_in_t_4, u_move_in_t3a_1, u_move_in_t3a_0, u_move_in_t_3, u_move_in_t2a_1, u_move_in_t2a_0, u_move_in_t_2, u_move_in_t1a_1, u_move_in_t1a_0, u_move_in_t_1, u_move_in, wSs_nil, th_nx]); (try simp only [evsx, c1, c2, c3, h1]); (try simp only [u_move_in_t_5, u_move_in_t4a_0, u_move_in_t_4, u_move_in_t3a_1, u_move_in_t3a_0, u_move_in_t_3, u_move_in_t2a_1, u_move_in_t2a_0, u_move_in_t_2, u_move_in_t1a_1, u_move_in_t1a_0, u_move_in_t_1, u_move_in, wSs_nil, th_nx]); (try simp only [evsx, c1, c2, c3, h1])
      (try simp only [u_move_in_t_5, u_move_in_t4a_0, u_move_in_t_4, u_move_in_t3a_1, u_move_in_t3a_0, u_move_in_t_3, u_move_in_t2a_1, u_move_in_t2a_0, u_move_in_t_2, u_move_in_t1a_1, u_move_in_t1a_0, u_move_in_t_1, u_move_in, wSs_nil, th_nx]); (try simp only [evsx, c1])
      exact ⟨by decide, h⟩
/-! ### rows: cloths -/
def clD (n f : Int) : Option Int → DV
  | none => .tup [.int n, .int f]
  | some e => .tup [.int n, .int f, .int e]
def okCl (n f : Int) (e : Option Int) : Prop := 1 ≤ n ∧ n < f ∧ f ≤ 9 ∧ ∀ x, e = some x → -99 ≤ x ∧ x ≤ 99
def clWords (n f : Int) : Option Int → List Str
  | none => ["cloth", tS n, tS f]
  | some e => ["cloth", tS n, tS f, "from", tS e]
def clRow (n f : Int) (e : Option Int) : Str := Txt.join " " (clWords n f e)
theorem clwords_ok {n f : Int} {e : Option Int} (h : okCl n f e) : ∀ w ∈ clWords n f e, wordOk w = true := by
  obtain ⟨a, b, c, d⟩ := h
  have k : ∀ p : Int, -99 ≤ p → p ≤ 99 → wordOk (tS p) = true := fun p a b => wordOk_n (nOk_of a b)
  cases e with
  | none =>
    intro w hw
    simp only [clWords, List.mem_cons, List.not_mem_nil, or_false] at hw
    rcases hw with rfl | rfl | rfl
    · decide +kernel
    · exact k n (by omega) (by omega)
    · exact k f (by omega) (by omega)
  | some x =>
    obtain ⟨x1, x2⟩ := d x rfl
    intro w hw
    simp only [clWords, List.mem_cons, List.not_mem_nil, or_false] at hw
    rcases hw with rfl | rfl | rfl | rfl | rfl
    · decide +kernel
    · exact k n (by omega) (by omega)
    · exact k f (by omega) (by omega)
    · decide +kernel
    · exact k x x1 x2
theorem clRow_split {n f : Int} {e : Option Int} (h : okCl n f e) : Txt.split (clRow n f e) " " = clWords n f e := split_words (clwords_ok h) (by cases e <;> simp [clWords])
theorem clRow_len {n f : Int} {e : Option Int} (h : okCl n f e) : (clRow n f e).length ≤ 55 := by
  have := join_len (clWords n f e) fun w hw => wordOk_len (clwords_ok h w hw)
  have e : (clWords n f e).length ≤ 5 := by cases e <;> simp [clWords]
  unfold clRow
  omega
def fi_is_cloth : FI := ⟨[false], fun ds k => ∃ n f e, ds = [clD n f e] ∧ okCl n f e ∧ k false (.bl true) []⟩
theorem sp_is_cloth (ds : List DV) (k : Bool → DV → List DV → Prop) : fi_is_cloth.spec ds k = (∃ n f e, ds = [clD n f e] ∧ okCl n f e ∧ k false (.bl true) []) := rfl
theorem md_is_cloth : fi_is_cloth.modes = [false] := rfl
theorem v_is_cloth (G : Genv) (h1 : G.fns "is_integer" = some fi_is_integer) (c1 : G.con "MOST_CLOTH" = some (.int 9)) (c2 : G.con "MOST_PLACE" = some (.int 99)) : ∀ ds k, ds.length = fi_is_cloth.modes.length → fi_is_cloth.spec ds k → wpSs G b_is_cloth (rhoI 2 fi_is_cloth.modes ds) (finW (nref fi_is_cloth.modes) k) := by
  intro ds k hl h
  rw [sp_is_cloth] at h
  obtain ⟨n, f, e, rfl, ⟨o1, o2, o3, o4⟩, h⟩ := h
  have e1 : decide (1 ≤ n) = true := decide_eq_true o1
  have e2 : decide (n < f) = true := decide_eq_true o2
  have e3 : decide (f ≤ 9) = true := decide_eq_true o3
  have z3 : (3 : Nat) ≤ sizeLine := by decide
  have z2 : (2 : Nat) ≤ sizeLine := by decide
  simp only [evix, md_is_cloth]
  cases e with
  | none =>
    simp only [clD]
    (try simp only [u_is_cloth_t_2, u_is_cloth_t1a_0, u_is_cloth_t_1, u_is_cloth_t0a_0, u_is_cloth, wSs_nil, th_nx]); (try simp only [evsx, h1, pt_tup, z2, callW, callX, sp_is_integer, md_is_integer, pt_int, ii_int, id])
    (try simp only [u_is_cloth_t_2, u_is_cloth_t1a_0, u_is_cloth_t_1, u_is_cloth_t0a_0, u_is_cloth, wSs_nil, th_nx]); (try simp only [evsx, c1, c2, e1, e2, e3]); (try simp only [u_is_cloth_t_2, u_is_cloth_t1a_0, u_is_cloth_t_1, u_is_cloth_t0a_0, u_is_cloth, wSs_nil, th_nx]); (try simp only [evsx, c1, c2, e1, e2, e3])
    exact h
  | some e =>
    obtain ⟨o5, o6⟩ := o4 e rfl
    have e4 : decide (-99 ≤ e) = true := decide_eq_true o5
    have e5 : decide (e ≤ 99) = true := decide_eq_true o6
    simp only [clD]
    (try simp only [u_is_cloth_t_2, u_is_cloth_t1a_0, u_is_cloth_t_1, u_is_cloth_t0a_0, u_is_cloth, wSs_nil, th_nx]); (try simp only [evsx, h1, pt_tup, z2, z3, callW, callX, sp_is_integer, md_is_integer, pt_int, ii_int, id])
    (try simp only [u_is_cloth_t_2, u_is_cloth_t1a_0, u_is_cloth_t_1, u_is_cloth_t0a_0, u_is_cloth, wSs_nil, th_nx]); (try simp only [evsx, c1, c2, e1, e2, e3, e4, e5]); (try simp only [u_is_cloth_t_2, u_is_cloth_t1a_0, u_is_cloth_t_1, u_is_cloth_t0a_0, u_is_cloth, wSs_nil, th_nx]); (try simp only [evsx, c1, c2, e1, e2, e3, e4, e5])
    exact h
theorem cut3_13 (a b c : DV) : cutD [a, b, c] (some 1) (some 3) = [b, c] := rfl
theorem cut5_13 (a b c d e : DV) : cutD [a, b, c, d, e] (some 1) (some 3) = [b, c] := rfl
theorem cut3_4 (a b c : DV) : cutD [a, b, c] (some 4) none = [] := rfl
theorem cut5_4 (a b c d e : DV) : cutD [a, b, c, d, e] (some 4) none = [e] := rfl
def fi_cloth_in : FI := ⟨[false], fun ds k => ∃ n f e, ds = [.str (clRow n f e)] ∧ okCl n f e ∧ k false (clD n f e) []⟩
theorem sp_cloth_in (ds : List DV) (k : Bool → DV → List DV → Prop) : fi_cloth_in.spec ds k = (∃ n f e, ds = [.str (clRow n f e)] ∧ okCl n f e ∧ k false (clD n f e) []) := rfl
theorem md_cloth_in : fi_cloth_in.modes = [false] := rfl
theorem v_cloth_in (G : Genv) (h1 : G.fns "number_in" = some fi_number_in) (h2 : G.fns "is_cloth" = some fi_is_cloth) : ∀ ds k, ds.length = fi_cloth_in.modes.length → fi_cloth_in.spec ds k → wpSs G b_cloth_in (rhoI 4 fi_cloth_in.modes ds) (finW (nref fi_cloth_in.modes) k) := by
  intro ds k hl h
  rw [sp_cloth_in] at h
  obtain ⟨n, f, e, rfl, o, h⟩ := h
  obtain ⟨o1, o2, o3, o4⟩ := id o
  have hs := clRow_split o
  have hz : (clRow n f e).length + 2 ≤ sizeLine := big_l (by have := clRow_len o; omega)
  have nn : ∀ p : Int, -99 ≤ p → p ≤ 99 → numB (tS p) p = true := fun p a b => nOk_num (nOk_of a b)
  have z3 : (3 : Nat) ≤ sizeLine := by decide
  have z2 : (2 : Nat) ≤ sizeLine := by decide
  simp only [evix, md_cloth_in]
  (try simp only [u_cloth_in_t_3, u_cloth_in_t_2, u_cloth_in_t1a_0, u_cloth_in_t_1, u_cloth_in, wSs_nil, th_nx]); (try simp only [evsx, pt_str, sp_ne, hz, hs])
  cases e with
  | none =>
    simp only [clWords] at *
    (try simp only [u_cloth_in_t_3, u_cloth_in_t_2, u_cloth_in_t1a_0, u_cloth_in_t_1, u_cloth_in, wSs_nil, th_nx]); (try simp only [evsx, z2])
    (try simp only [u_cloth_in_t_3, u_cloth_in_t_2, u_cloth_in_t1a_0, u_cloth_in_t_1, u_cloth_in, wSs_nil, th_nx]); (try simp only [evsx, h1, cut3_13, cut3_4, z2])
    rw [cw_e, md_number_in]
    (try simp only [evsx])
    refine ⟨tS n, n, rfl, nn n (by omega) (by omega), ?_⟩
    (try simp only [evsx])
    rw [cw_e, md_number_in]
    (try simp only [evsx])
    refine ⟨tS f, f, rfl, nn f (by omega) (by omega), ?_⟩
    (try simp only [evsx])
    (try simp only [u_cloth_in_t_3, u_cloth_in_t_2, u_cloth_in_t1a_0, u_cloth_in_t_1, u_cloth_in, wSs_nil, th_nx]); (try simp only [evsx, h2, flat, dq_in])
    rw [cw_e, md_is_cloth]
    (try simp only [evsx])
    refine ⟨n, f, none, rfl, o, ?_⟩
    (try simp only [evsx])
    exact h
  | some x =>
    obtain ⟨x1, x2⟩ := o4 x rfl
    simp only [clWords] at *
    (try simp only [u_cloth_in_t_3, u_cloth_in_t_2, u_cloth_in_t1a_0, u_cloth_in_t_1, u_cloth_in, wSs_nil, th_nx]); (try simp only [evsx, z2])
    (try simp only [u_cloth_in_t_3, u_cloth_in_t_2, u_cloth_in_t1a_0, u_cloth_in_t_1, u_cloth_in, wSs_nil, th_nx]); (try simp only [evsx, h1, cut5_13, cut5_4, z2, z3])
    rw [cw_e, md_number_in]
    (try simp only [evsx])
    refine ⟨tS n, n, rfl, nn n (by omega) (by omega), ?_⟩
    (try simp only [evsx])
    rw [cw_e, md_number_in]
    (try simp only [evsx])
    refine ⟨tS f, f, rfl, nn f (by omega) (by omega), ?_⟩
    (try simp only [evsx])
    rw [cw_e, md_number_in]
    (try simp only [evsx])
    refine ⟨tS x, x, rfl, nn x (by omega) (by omega), ?_⟩
    (try simp only [evsx])
    (try simp only [u_cloth_in_t_3, u_cloth_in_t_2, u_cloth_in_t1a_0, u_cloth_in_t_1, u_cloth_in, wSs_nil, th_nx]); (try simp only [evsx, h2, flat, dq_in])
    rw [cw_e, md_is_cloth]
    (try simp only [evsx])
    refine ⟨n, f, some x, rfl, o, ?_⟩
    (try simp only [evsx])
    exact h
end T

set_option maxRecDepth 100000
set_option maxHeartbeats 4000000
set_option exponentiation.threshold 5000
namespace T
open PySem L2 EV
local macro_rules
  | `(tactic| simp only [ev2x, $ls,*]) => `(tactic| simp only [wE_var, wE_cst, wE_glb, wE_prim, wE_tup, wE_lst, wE_ife, wE_and2, wE_or2, wE_not1, wE_chain, wE_chain3, wE_call, wE_callK, wE_methK, wE_makeK, wE_fld, wE_meth, wE_make, wE_slc, wE_lc, wE_tm, wE_isC, wE_makeS, wE_makeV, wE_cmeth, wA_nil, wA_cons, wA_star, wO_no, wO_so, wT_tt, wT_and2, wT_or2, wT_not1, wT_val, wG_nm, wG_sub, wG_fld, wG_tp, wI_seq, wI_range1, wI_range2, wI_range3, wI_enum, wI_zip, wI_str, wS_asg, wS_setF, wS_par2, wS_par3, wS_aug, wS_app, wS_ext, wS_ins, wS_pop, wS_expr, wS_ife, wS_for, wS_while, wS_ret, wS_retN, wS_brk, wS_cnt, wS_pass, wS_never, lcB_nil, lcB_cons, lcF_e, th_rt, th_bk, th_ct, wGs_nil, wGs_cons, lk_nx, lk_ct, lk_bk, lk_rt, rhoI, rhoA, nos, nref, List.length_cons, List.length_nil, Nat.reduceAdd, Nat.reduceSub, Nat.sub_self, List.cons_append, List.nil_append, Nat.zero_add, ep0, ep1, ep2, ep3, ep4, ep5, ep6, ep7, ep8, ep9, ep10, ep11, ep12, ep13, ep14, ep15, ep16, ep17, ep18, ep19, ep20, ep21, ep22, ep23, ep24, ep25, ep26, ep27, ep28, ep29, ep30, ep31, ep32, ep33, ep34, ep35, ep36, ep37, ep38, ep39, ep40, ep41, ep42, ep43, ep44, ep45, ep46, ep47, ep48, ep49, ep50, ep51, ep52, ep53, ep54, ep55, ep56, es_lst, es_scr, es_tup, es_str, of_it, of_nw, sd_val, sd_own, ct_val, ct_tmp, ct_loc, cs_nil, cs_val, cs_tmp, cs_loc, cp_val, cp_tmp, cp_loc, g0, gs, bd_tmp, bd_val, bd_loc, st0, sts, ex_some, ob_map, ob_bind, br_t, br_f, br_not, fw_nx, fw_val, fw_tmp, fw_loc, rs_t, rs_f, oo_0, isa_obj, k_isNon_non, k_isNon_bl, k_isNon_int, k_isNon_str, k_isNon_tup, k_isNon_lst, k_isNon_obj, k_isIntD_non, k_isIntD_bl, k_isIntD_int, k_isIntD_str, k_isIntD_tup, k_isIntD_lst, k_isBlD_non, k_isBlD_bl, k_isBlD_int, k_isBlD_str, k_isBlD_tup, k_isBlD_lst, k_isTupD_non, k_isTupD_bl, k_isTupD_int, k_isTupD_str, k_isTupD_tup, k_isTupD_lst, k_isStrD_non, k_isStrD_bl, k_isStrD_int, k_isStrD_str, k_isStrD_tup, k_isStrD_lst, iso_obj, mk_outs, passL, refsOk, putOuts, capL, true_and, and_true, List.map_cons, List.map_nil, exists_eq_left, Option.some.injEq, flat, exists_const, exists_eq, exists_eq', exists_eq_left', and_self, DV.bl.injEq, DV.int.injEq, DV.str.injEq, DV.tup.injEq, DV.lst.injEq, cm_int, cm_bl, cm_non, cm_str, dq_int, dq_str, dq_bl, dq_nn, dq_in, dq_ni, exists_and_left, DV.obj.injEq, putN, putD, List.not_mem_nil, not_false_eq_true, or_false, false_or, exists_false, false_and, and_false, if_true, if_false, EV.Res.loc.injEq, EV.Slot.own.injEq, EV.Slot.val.injEq, and_assoc, r1_loc, r1_val, r1_tmp, b1_tmp, b1_val, n_0, n_1, n_2, n_3, n_4, n_5, n_6, n_7, Int.reduceBEq, Int.reduceBNe, Int.reduceLT, Int.reduceLE, Int.reduceEq, Int.reduceNeg, decide_true, decide_false, beq_self_eq_true, Bool.not_true, Bool.not_false, PR.it.injEq, PR.nw.injEq, reduceCtorEq, ne_eq, not_false_eq_true, implies_true, lc_nil, lc_cons, at_0, at_1, at_2, at_3, Option.toList_some, Option.toList_none, List.any_cons, List.any_nil, List.all_cons, List.all_nil, Bool.or_false, Bool.and_true, Bool.true_or, Bool.or_true, Bool.false_or, Bool.and_false, Bool.false_and, Bool.true_and, Bool.and_self, Bool.or_self, boolsD, tr_bl, tr_int, tr_non, tr_tup, tr_lst, bk_lst, bk_tup, sk_lst, sk_tup, sk_scr, sk_str, so_scr, lo_lst, to_tup, el_lst, et_tup, sy_val, sy_tmp, sy_loc, seqOf, itemsOf, Option.bind_some, tgN, wipeR, backR, Option.getD_some, plainSlots, List.mem_singleton, forall_eq, $ls,*])
  | `(tactic| simp only [ev2x]) => `(tactic| simp only [wE_var, wE_cst, wE_glb, wE_prim, wE_tup, wE_lst, wE_ife, wE_and2, wE_or2, wE_not1, wE_chain, wE_chain3, wE_call, wE_callK, wE_methK, wE_makeK, wE_fld, wE_meth, wE_make, wE_slc, wE_lc, wE_tm, wE_isC, wE_makeS, wE_makeV, wE_cmeth, wA_nil, wA_cons, wA_star, wO_no, wO_so, wT_tt, wT_and2, wT_or2, wT_not1, wT_val, wG_nm, wG_sub, wG_fld, wG_tp, wI_seq, wI_range1, wI_range2, wI_range3, wI_enum, wI_zip, wI_str, wS_asg, wS_setF, wS_par2, wS_par3, wS_aug, wS_app, wS_ext, wS_ins, wS_pop, wS_expr, wS_ife, wS_for, wS_while, wS_ret, wS_retN, wS_brk, wS_cnt, wS_pass, wS_never, lcB_nil, lcB_cons, lcF_e, th_rt, th_bk, th_ct, wGs_nil, wGs_cons, lk_nx, lk_ct, lk_bk, lk_rt, rhoI, rhoA, nos, nref, List.length_cons, List.length_nil, Nat.reduceAdd, Nat.reduceSub, Nat.sub_self, List.cons_append, List.nil_append, Nat.zero_add, ep0, ep1, ep2, ep3, ep4, ep5, ep6, ep7, ep8, ep9, ep10, ep11, ep12, ep13, ep14, ep15, ep16, ep17, ep18, ep19, ep20, ep21, ep22, ep23, ep24, ep25, ep26, ep27, ep28, ep29, ep30, ep31, ep32, ep33, ep34, ep35, ep36, ep37, ep38, ep39, ep40, ep41, ep42, ep43, ep44, ep45, ep46, ep47, ep48, ep49, ep50, ep51, ep52, ep53, ep54, ep55, ep56, es_lst, es_scr, es_tup, es_str, of_it, of_nw, sd_val, sd_own, ct_val, ct_tmp, ct_loc, cs_nil, cs_val, cs_tmp, cs_loc, cp_val, cp_tmp, cp_loc, g0, gs, bd_tmp, bd_val, bd_loc, st0, sts, ex_some, ob_map, ob_bind, br_t, br_f, br_not, fw_nx, fw_val, fw_tmp, fw_loc, rs_t, rs_f, oo_0, isa_obj, k_isNon_non, k_isNon_bl, k_isNon_int, k_isNon_str, k_isNon_tup, k_isNon_lst, k_isNon_obj, k_isIntD_non, k_isIntD_bl, k_isIntD_int, k_isIntD_str, k_isIntD_tup, k_isIntD_lst, k_isBlD_non, k_isBlD_bl, k_isBlD_int, k_isBlD_str, k_isBlD_tup, k_isBlD_lst, k_isTupD_non, k_isTupD_bl, k_isTupD_int, k_isTupD_str, k_isTupD_tup, k_isTupD_lst, k_isStrD_non, k_isStrD_bl, k_isStrD_int, k_isStrD_str, k_isStrD_tup, k_isStrD_lst, iso_obj, mk_outs, passL, refsOk, putOuts, capL, true_and, and_true, List.map_cons, List.map_nil, exists_eq_left, Option.some.injEq, flat, exists_const, exists_eq, exists_eq', exists_eq_left', and_self, DV.bl.injEq, DV.int.injEq, DV.str.injEq, DV.tup.injEq, DV.lst.injEq, cm_int, cm_bl, cm_non, cm_str, dq_int, dq_str, dq_bl, dq_nn, dq_in, dq_ni, exists_and_left, DV.obj.injEq, putN, putD, List.not_mem_nil, not_false_eq_true, or_false, false_or, exists_false, false_and, and_false, if_true, if_false, EV.Res.loc.injEq, EV.Slot.own.injEq, EV.Slot.val.injEq, and_assoc, r1_loc, r1_val, r1_tmp, b1_tmp, b1_val, n_0, n_1, n_2, n_3, n_4, n_5, n_6, n_7, Int.reduceBEq, Int.reduceBNe, Int.reduceLT, Int.reduceLE, Int.reduceEq, Int.reduceNeg, decide_true, decide_false, beq_self_eq_true, Bool.not_true, Bool.not_false, PR.it.injEq, PR.nw.injEq, reduceCtorEq, ne_eq, not_false_eq_true, implies_true, lc_nil, lc_cons, at_0, at_1, at_2, at_3, Option.toList_some, Option.toList_none, List.any_cons, List.any_nil, List.all_cons, List.all_nil, Bool.or_false, Bool.and_true, Bool.true_or, Bool.or_true, Bool.false_or, Bool.and_false, Bool.false_and, Bool.true_and, Bool.and_self, Bool.or_self, boolsD, tr_bl, tr_int, tr_non, tr_tup, tr_lst, bk_lst, bk_tup, sk_lst, sk_tup, sk_scr, sk_str, so_scr, lo_lst, to_tup, el_lst, et_tup, sy_val, sy_tmp, sy_loc, seqOf, itemsOf, Option.bind_some, tgN, wipeR, backR, Option.getD_some, plainSlots, List.mem_singleton, forall_eq])
  | `(tactic| simp only [evix, $ls,*]) => `(tactic| simp only [rhoI, rhoA, nos, nref, List.length_cons, List.length_nil, Nat.reduceAdd, Nat.reduceSub, Nat.sub_self, List.cons_append, List.nil_append, Nat.zero_add, $ls,*])
  | `(tactic| simp only [evix]) => `(tactic| simp only [rhoI, rhoA, nos, nref, List.length_cons, List.length_nil, Nat.reduceAdd, Nat.reduceSub, Nat.sub_self, List.cons_append, List.nil_append, Nat.zero_add])
local macro_rules
  | `(tactic| simp only [evsx, $ls,*]) => `(tactic| simp only [ev2x, sk_l, q_ll, q_lr, q_ls, q_lt, q_ln, q_lc, q_lo, q_lh, q_lf, q_le, sk_r, q_rl, q_rr, q_rs, q_rt, q_rn, q_rc, q_ro, q_rh, q_rf, q_re, sk_s, q_sl, q_sr, q_ss, q_st, q_sn, q_sc, q_so, q_sh, q_sf, q_se, sk_t, q_tl, q_tr, q_ts, q_tt, q_tn, q_tc, q_to, q_th, q_tf, q_te, sk_n, q_nl, q_nr, q_ns, q_nt, q_nn, q_nc, q_no, q_nh, q_nf, q_ne, sk_c, q_cl, q_cr, q_cs, q_ct, q_cn, q_cc, q_co, q_ch, q_cf, q_ce, sk_o, q_ol, q_or, q_os, q_ot, q_on, q_oc, q_oo, q_oh, q_of, q_oe, sk_h, q_hl, q_hr, q_hs, q_ht, q_hn, q_hc, q_ho, q_hh, q_hf, q_he, sk_f, q_fl, q_fr, q_fs, q_ft, q_fn, q_fc, q_fo, q_fh, q_ff, q_fe, sk_e, q_el, q_er, q_es, q_et, q_en, q_ec, q_eo, q_eh, q_ef, q_ee, $ls,*])
  | `(tactic| simp only [evsx]) => `(tactic| simp only [ev2x, sk_l, q_ll, q_lr, q_ls, q_lt, q_ln, q_lc, q_lo, q_lh, q_lf, q_le, sk_r, q_rl, q_rr, q_rs, q_rt, q_rn, q_rc, q_ro, q_rh, q_rf, q_re, sk_s, q_sl, q_sr, q_ss, q_st, q_sn, q_sc, q_so, q_sh, q_sf, q_se, sk_t, q_tl, q_tr, q_ts, q_tt, q_tn, q_tc, q_to, q_th, q_tf, q_te, sk_n, q_nl, q_nr, q_ns, q_nt, q_nn, q_nc, q_no, q_nh, q_nf, q_ne, sk_c, q_cl, q_cr, q_cs, q_ct, q_cn, q_cc, q_co, q_ch, q_cf, q_ce, sk_o, q_ol, q_or, q_os, q_ot, q_on, q_oc, q_oo, q_oh, q_of, q_oe, sk_h, q_hl, q_hr, q_hs, q_ht, q_hn, q_hc, q_ho, q_hh, q_hf, q_he, sk_f, q_fl, q_fr, q_fs, q_ft, q_fn, q_fc, q_fo, q_fh, q_ff, q_fe, sk_e, q_el, q_er, q_es, q_et, q_en, q_ec, q_eo, q_eh, q_ef, q_ee])
/-! ### what moves ask -/
def moreOf : Mv → Int
  | .on _ _ => 1
  | .off _ => -1
  | _ => 0
def askOf : Mv → Int
  | .lft r _ => r
  | .rgt r _ => r
  | .off _ => 2
  | _ => 1
def mL (ms : List Mv) : List DV := ms.map mvD
theorem m_len (ms : List Mv) : (mL ms).length = ms.length := by simp [mL]
theorem m_get (ms : List Mv) (i : Nat) : (mL ms)[i]? = (ms[i]?).map mvD := by simp [mL]
theorem m_of {ms : List Mv} {i : Nat} {d : DV} (h : (mL ms)[i]? = some d) : ∃ m, ms[i]? = some m ∧ d = mvD m := by
  rw [m_get] at h
  cases q : ms[i]? with
  | none => rw [q] at h; cases h
  | some m => rw [q] at h; cases h; exact ⟨m, rfl, rfl⟩
def fi_more_by : FI := ⟨[false], fun ds k => ∃ m, ds = [mvD m] ∧ k false (.int (moreOf m)) []⟩
theorem sp_more_by (ds : List DV) (k : Bool → DV → List DV → Prop) : fi_more_by.spec ds k = (∃ m, ds = [mvD m] ∧ k false (.int (moreOf m)) []) := rfl
theorem md_more_by : fi_more_by.modes = [false] := rfl
theorem v_more_by (G : Genv) : ∀ ds k, ds.length = fi_more_by.modes.length → fi_more_by.spec ds k → wpSs G b_more_by (rhoI 1 fi_more_by.modes ds) (finW (nref fi_more_by.modes) k) := by
  intro ds k hl h
  rw [sp_more_by] at h
  obtain ⟨m, rfl, h⟩ := h
  simp only [evix, md_more_by]
  cases m <;> simp only [mvD, moreOf] at * <;> ((try simp only [u_more_by, wSs_nil, th_nx]); (try simp only [evsx])) <;> exact h
def fi_asked_by : FI := ⟨[false], fun ds k => ∃ m, ds = [mvD m] ∧ k false (.int (askOf m)) []⟩
theorem sp_asked_by (ds : List DV) (k : Bool → DV → List DV → Prop) : fi_asked_by.spec ds k = (∃ m, ds = [mvD m] ∧ k false (.int (askOf m)) []) := rfl
theorem md_asked_by : fi_asked_by.modes = [false] := rfl
theorem v_asked_by (G : Genv) (c1 : G.con "SIDES" = some (.tup [.str "left", .str "right"])) : ∀ ds k, ds.length = fi_asked_by.modes.length → fi_asked_by.spec ds k → wpSs G b_asked_by (rhoI 1 fi_asked_by.modes ds) (finW (nref fi_asked_by.modes) k) := by
  intro ds k hl h
  rw [sp_asked_by] at h
  obtain ⟨m, rfl, h⟩ := h
  simp only [evix, md_asked_by]
  cases m <;> simp only [mvD, askOf] at * <;> ((try simp only [u_asked_by_t_1, u_asked_by_t0a_0, u_asked_by, wSs_nil, th_nx]); (try simp only [evsx, c1]); (try simp only [u_asked_by_t_1, u_asked_by_t0a_0, u_asked_by, wSs_nil, th_nx]); (try simp only [evsx, c1])) <;> exact h
def leastStep (acc : Int × Int) (m : Mv) : Int × Int := (max acc.1 (askOf m - acc.2), acc.2 + moreOf m)
def leastFor (ms : List Mv) : Int := (ms.foldl leastStep (1, 0)).1
def fi_least_for : FI := ⟨[false], fun ds k => ∃ ms, ds = [.tup (mL ms)] ∧ k false (.int (leastFor ms)) []⟩
theorem sp_least_for (ds : List DV) (k : Bool → DV → List DV → Prop) : fi_least_for.spec ds k = (∃ ms, ds = [.tup (mL ms)] ∧ k false (.int (leastFor ms)) []) := rfl
theorem md_least_for : fi_least_for.modes = [false] := rfl
theorem fold_take {α β : Type} (f : β → α → β) (b : β) {l : List α} {i : Nat} {x : α} (h : l[i]? = some x) : (l.take (i + 1)).foldl f b = f ((l.take i).foldl f b) x := by
  rw [List.take_add_one, h, List.foldl_append]; rfl
theorem v_least_for (G : Genv) (h1 : G.fns "asked_by" = some fi_asked_by) (h2 : G.fns "more_by" = some fi_more_by) : ∀ ds k, ds.length = fi_least_for.modes.length → fi_least_for.spec ds k → wpSs G b_least_for (rhoI 4 fi_least_for.modes ds) (finW (nref fi_least_for.modes) k) := by
  intro ds k hl h
  rw [sp_least_for] at h
  obtain ⟨ms, rfl, h⟩ := h
  simp only [evix, md_least_for]
  (try simp only [u_least_for_t_2, u_least_for_t1b_1, u_least_for_t1b_0, u_least_for_t_1, u_least_for, wSs_nil, th_nx]); (try simp only [evsx])
  refine ⟨by decide, ?_⟩
  (try simp only [u_least_for_t_2, u_least_for_t1b_1, u_least_for_t1b_0, u_least_for_t_1, u_least_for, wSs_nil, th_nx]); (try simp only [evsx])
  refine forB_inv (I := fun i ρ => ∃ s, ρ = [.val (.tup (mL ms)), s, .val (.int ((ms.take i).foldl leastStep (1, 0)).1), .val (.int ((ms.take i).foldl leastStep (1, 0)).2)]) ⟨_, rfl⟩ ?_ ?_
  · rintro i d ρ K hd ⟨s, rfl⟩ hK
    obtain ⟨m, hm, rfl⟩ := m_of hd
    rw [forF_e]
    (try simp only [u_least_for_t_2, u_least_for_t1b_1, u_least_for_t1b_0, u_least_for_t_1, u_least_for, wSs_nil, th_nx]); (try simp only [evsx, h1])
    rw [cw_e, md_asked_by]
    (try simp only [evsx, mx_e])
    refine ⟨m, rfl, ?_⟩
    (try simp only [evsx, mx_e])
    (try simp only [u_least_for_t_2, u_least_for_t1b_1, u_least_for_t1b_0, u_least_for_t_1, u_least_for, wSs_nil, th_nx]); (try simp only [evsx, h2])
    rw [cw_e, md_more_by]
    (try simp only [evsx])
    refine ⟨m, rfl, ?_⟩
    (try simp only [evsx])
    exact hK _ ⟨_, by rw [fold_take _ _ hm]; rfl⟩
  · rintro ρ ⟨s, rfl⟩
    (try simp only [u_least_for_t_2, u_least_for_t1b_1, u_least_for_t1b_0, u_least_for_t_1, u_least_for, wSs_nil, th_nx]); (try simp only [evsx])
    rw [m_len, List.take_length]
    exact h
/-! ### rows of a script -/
def scRows (n f : Int) (e : Option Int) (ms : List Mv) : List Str := clRow n f e :: ms.map mvRow
theorem scRows_len (n f : Int) (e : Option Int) (ms : List Mv) : (scRows n f e ms).length = ms.length + 1 := by simp [scRows]
theorem scRows_get {n f : Int} {e : Option Int} {ms : List Mv} {i : Nat} {r : Str} (h : (scRows n f e ms)[i]? = some r) : (i = 0 ∧ r = clRow n f e) ∨ ∃ j m, i = j + 1 ∧ ms[j]? = some m ∧ r = mvRow m := by
  cases i with
  | zero => simp [scRows] at h; exact .inl ⟨rfl, h.symm⟩
  | succ j =>
    simp only [scRows, List.getElem?_cons_succ, List.getElem?_map] at h
    cases q : ms[j]? with
    | none => rw [q] at h; cases h
    | some m => rw [q] at h; cases h; exact .inr ⟨j, m, rfl, q, rfl⟩
def okMs (ms : List Mv) : Prop := ms.length ≤ 10 ∧ ∀ m ∈ ms, okMv m
def fi_wrong_rows : FI := ⟨[false], fun ds k => ∃ n f e ms d, ds = [d] ∧ (d = .tup (sL (scRows n f e ms)) ∨ d = .lst (sL (scRows n f e ms))) ∧ okCl n f e ∧ okMs ms ∧ k false (.tup []) []⟩
theorem sp_wrong_rows (ds : List DV) (k : Bool → DV → List DV → Prop) : fi_wrong_rows.spec ds k = (∃ n f e ms d, ds = [d] ∧ (d = .tup (sL (scRows n f e ms)) ∨ d = .lst (sL (scRows n f e ms))) ∧ okCl n f e ∧ okMs ms ∧ k false (.tup []) []) := rfl
theorem md_wrong_rows : fi_wrong_rows.modes = [false] := rfl
theorem ni_cl (n f : Int) (e : Option Int) : isNon (clD n f e) = false := by cases e <;> rfl
theorem ni_mv (m : Mv) : isNon (mvD m) = false := by cases m <;> rfl
theorem b_gt (i : Nat) : decide ((0 : Int) < ((i + 1 : Nat) : Int)) = true := decide_eq_true (by omega)
theorem wr_tail (G : Genv) (h1 : G.fns "move_in" = some fi_move_in) {n f : Int} {e : Option Int} {ms : List Mv} {d : DV} {k : Bool → DV → List DV → Prop} (o2 : okMs ms) (h : k false (.tup []) []) :
    forB G (.tp (.cons (.nm 1) (.cons (.nm 2) .nil))) b_wrong_rows_t2b_0 (pairsE (sL (scRows n f e ms))) [.val d, .no, .no] (thenW G b_wrong_rows_t_3 (finW 0 k)) := by
  refine forB_inv (I := fun i ρ => ∃ s t, ρ = [.val d, s, t]) ⟨_, _, rfl⟩ ?_ ?_
  · rintro i x ρ K hd ⟨s, t, rfl⟩ hK
    obtain ⟨d', hd', rfl⟩ := pe_of hd
    rw [s_get] at hd'
    cases hp : (scRows n f e ms)[i]? with
    | none => rw [hp] at hd'; cases hd'
    | some r =>
      rw [hp] at hd'
      cases hd'
      rw [forF_e]
      rcases scRows_get hp with ⟨rfl, rfl⟩ | ⟨j, m, rfl, hm, rfl⟩
      · simp only [evsx]
        simp only [u_wrong_rows_t2b_0]
        simp only [evsx]
        exact hK _ ⟨_, _, rfl⟩
      · simp only [evsx]
        simp only [u_wrong_rows_t2b_0]
        simp only [evsx, b_gt, h1]
        rw [cw_e, md_move_in]
        (try simp only [evsx, ni_mv])
        refine ⟨m, rfl, o2.2 m (List.mem_of_getElem? hm), ?_⟩
        (try simp only [evsx, ni_mv])
        exact hK _ ⟨_, _, rfl⟩
  · rintro ρ ⟨s, t, rfl⟩
    simp only [th_nx, u_wrong_rows_t_3]
    simp only [evsx]
    exact ⟨by decide, h⟩
theorem v_wrong_rows (G : Genv) (h1 : G.fns "move_in" = some fi_move_in) (h2 : G.fns "cloth_in" = some fi_cloth_in) (c1 : G.con "MOST_MOVES" = some (.int 10)) : ∀ ds k, ds.length = fi_wrong_rows.modes.length → fi_wrong_rows.spec ds k → wpSs G b_wrong_rows (rhoI 3 fi_wrong_rows.modes ds) (finW (nref fi_wrong_rows.modes) k) := by
  intro ds k hl h
  rw [sp_wrong_rows] at h
  obtain ⟨n, f, e, ms, d, rfl, hd, o, o2, h⟩ := h
  have e1 : decide ((1 : Int) ≤ (ms.length + 1 : Nat)) = true := decide_eq_true (by omega)
  have e2 : decide (((ms.length + 1 : Nat) : Int) ≤ 10 + 1) = true := decide_eq_true (by have := o2.1; omega)
  have a0 : atI (sL (scRows n f e ms)) 0 = some (.str (clRow n f e)) := at_0 _ _
  simp only [evix, md_wrong_rows]
  rcases hd with rfl | rfl
  · (try simp only [u_wrong_rows_t_3, u_wrong_rows_t2b0a_0, u_wrong_rows_t2b_0, u_wrong_rows_t_2, u_wrong_rows_t1a_0, u_wrong_rows_t_1, u_wrong_rows_t0a_0, u_wrong_rows, wSs_nil, th_nx]); (try simp only [evsx, c1, s_len, scRows_len, e1, e2])
    (try simp only [u_wrong_rows_t_3, u_wrong_rows_t2b0a_0, u_wrong_rows_t2b_0, u_wrong_rows_t_2, u_wrong_rows_t1a_0, u_wrong_rows_t_1, u_wrong_rows_t0a_0, u_wrong_rows, wSs_nil, th_nx]); (try simp only [evsx, h2, a0])
    rw [cw_e, md_cloth_in]
    (try simp only [evsx, ni_cl])
    refine ⟨n, f, e, rfl, o, ?_⟩
    (try simp only [evsx, ni_cl])
    (try simp only [u_wrong_rows_t_3, u_wrong_rows_t2b0a_0, u_wrong_rows_t2b_0, u_wrong_rows_t_2, u_wrong_rows_t1a_0, u_wrong_rows_t_1, u_wrong_rows_t0a_0, u_wrong_rows, wSs_nil, th_nx]); (try simp only [evsx])
    exact wr_tail G h1 o2 h
  · (try simp only [u_wrong_rows_t_3, u_wrong_rows_t2b0a_0, u_wrong_rows_t2b_0, u_wrong_rows_t_2, u_wrong_rows_t1a_0, u_wrong_rows_t_1, u_wrong_rows_t0a_0, u_wrong_rows, wSs_nil, th_nx]); (try simp only [evsx, c1, s_len, scRows_len, e1, e2])
    (try simp only [u_wrong_rows_t_3, u_wrong_rows_t2b0a_0, u_wrong_rows_t2b_0, u_wrong_rows_t_2, u_wrong_rows_t1a_0, u_wrong_rows_t_1, u_wrong_rows_t0a_0, u_wrong_rows, wSs_nil, th_nx]); (try simp only [evsx, h2, a0])
    rw [cw_e, md_cloth_in]
    (try simp only [evsx, ni_cl])
    refine ⟨n, f, e, rfl, o, ?_⟩
    (try simp only [evsx, ni_cl])
    (try simp only [u_wrong_rows_t_3, u_wrong_rows_t2b0a_0, u_wrong_rows_t2b_0, u_wrong_rows_t_2, u_wrong_rows_t1a_0, u_wrong_rows_t_1, u_wrong_rows_t0a_0, u_wrong_rows, wSs_nil, th_nx]); (try simp only [evsx])
    exact wr_tail G h1 o2 h
end T

set_option maxRecDepth 100000
set_option maxHeartbeats 4000000
set_option exponentiation.threshold 5000
namespace T
open PySem L2 EV
local macro_rules
  | `(tactic| simp only [ev2x, $ls,*]) => `(tactic| simp only [wE_var, wE_cst, wE_glb, wE_prim, wE_tup, wE_lst, wE_ife, wE_and2, wE_or2, wE_not1, wE_chain, wE_chain3, wE_call, wE_callK, wE_methK, wE_makeK, wE_fld, wE_meth, wE_make, wE_slc, wE_lc, wE_tm, wE_isC, wE_makeS, wE_makeV, wE_cmeth, wA_nil, wA_cons, wA_star, wO_no, wO_so, wT_tt, wT_and2, wT_or2, wT_not1, wT_val, wG_nm, wG_sub, wG_fld, wG_tp, wI_seq, wI_range1, wI_range2, wI_range3, wI_enum, wI_zip, wI_str, wS_asg, wS_setF, wS_par2, wS_par3, wS_aug, wS_app, wS_ext, wS_ins, wS_pop, wS_expr, wS_ife, wS_for, wS_while, wS_ret, wS_retN, wS_brk, wS_cnt, wS_pass, wS_never, lcB_nil, lcB_cons, lcF_e, th_rt, th_bk, th_ct, wGs_nil, wGs_cons, lk_nx, lk_ct, lk_bk, lk_rt, rhoI, rhoA, nos, nref, List.length_cons, List.length_nil, Nat.reduceAdd, Nat.reduceSub, Nat.sub_self, List.cons_append, List.nil_append, Nat.zero_add, ep0, ep1, ep2, ep3, ep4, ep5, ep6, ep7, ep8, ep9, ep10, ep11, ep12, ep13, ep14, ep15, ep16, ep17, ep18, ep19, ep20, ep21, ep22, ep23, ep24, ep25, ep26, ep27, ep28, ep29, ep30, ep31, ep32, ep33, ep34, ep35, ep36, ep37, ep38, ep39, ep40, ep41, ep42, ep43, ep44, ep45, ep46, ep47, ep48, ep49, ep50, ep51, ep52, ep53, ep54, ep55, ep56, es_lst, es_scr, es_tup, es_str, of_it, of_nw, sd_val, sd_own, ct_val, ct_tmp, ct_loc, cs_nil, cs_val, cs_tmp, cs_loc, cp_val, cp_tmp, cp_loc, g0, gs, bd_tmp, bd_val, bd_loc, st0, sts, ex_some, ob_map, ob_bind, br_t, br_f, br_not, fw_nx, fw_val, fw_tmp, fw_loc, rs_t, rs_f, oo_0, isa_obj, k_isNon_non, k_isNon_bl, k_isNon_int, k_isNon_str, k_isNon_tup, k_isNon_lst, k_isNon_obj, k_isIntD_non, k_isIntD_bl, k_isIntD_int, k_isIntD_str, k_isIntD_tup, k_isIntD_lst, k_isBlD_non, k_isBlD_bl, k_isBlD_int, k_isBlD_str, k_isBlD_tup, k_isBlD_lst, k_isTupD_non, k_isTupD_bl, k_isTupD_int, k_isTupD_str, k_isTupD_tup, k_isTupD_lst, k_isStrD_non, k_isStrD_bl, k_isStrD_int, k_isStrD_str, k_isStrD_tup, k_isStrD_lst, iso_obj, mk_outs, passL, refsOk, putOuts, capL, true_and, and_true, List.map_cons, List.map_nil, exists_eq_left, Option.some.injEq, flat, exists_const, exists_eq, exists_eq', exists_eq_left', and_self, DV.bl.injEq, DV.int.injEq, DV.str.injEq, DV.tup.injEq, DV.lst.injEq, cm_int, cm_bl, cm_non, cm_str, dq_int, dq_str, dq_bl, dq_nn, dq_in, dq_ni, exists_and_left, DV.obj.injEq, putN, putD, List.not_mem_nil, not_false_eq_true, or_false, false_or, exists_false, false_and, and_false, if_true, if_false, EV.Res.loc.injEq, EV.Slot.own.injEq, EV.Slot.val.injEq, and_assoc, r1_loc, r1_val, r1_tmp, b1_tmp, b1_val, n_0, n_1, n_2, n_3, n_4, n_5, n_6, n_7, Int.reduceBEq, Int.reduceBNe, Int.reduceLT, Int.reduceLE, Int.reduceEq, Int.reduceNeg, decide_true, decide_false, beq_self_eq_true, Bool.not_true, Bool.not_false, PR.it.injEq, PR.nw.injEq, reduceCtorEq, ne_eq, not_false_eq_true, implies_true, lc_nil, lc_cons, at_0, at_1, at_2, at_3, Option.toList_some, Option.toList_none, List.any_cons, List.any_nil, List.all_cons, List.all_nil, Bool.or_false, Bool.and_true, Bool.true_or, Bool.or_true, Bool.false_or, Bool.and_false, Bool.false_and, Bool.true_and, Bool.and_self, Bool.or_self, boolsD, tr_bl, tr_int, tr_non, tr_tup, tr_lst, bk_lst, bk_tup, sk_lst, sk_tup, sk_scr, sk_str, so_scr, lo_lst, to_tup, el_lst, et_tup, sy_val, sy_tmp, sy_loc, seqOf, itemsOf, Option.bind_some, tgN, wipeR, backR, Option.getD_some, plainSlots, List.mem_singleton, forall_eq, $ls,*])
  | `(tactic| simp only [ev2x]) => `(tactic| simp only [wE_var, wE_cst, wE_glb, wE_prim, wE_tup, wE_lst, wE_ife, wE_and2, wE_or2, wE_not1, wE_chain, wE_chain3, wE_call, wE_callK, wE_methK, wE_makeK, wE_fld, wE_meth, wE_make, wE_slc, wE_lc, wE_tm, wE_isC, wE_makeS, wE_makeV, wE_cmeth, wA_nil, wA_cons, wA_star, wO_no, wO_so, wT_tt, wT_and2, wT_or2, wT_not1, wT_val, wG_nm, wG_sub, wG_fld, wG_tp, wI_seq, wI_range1, wI_range2, wI_range3, wI_enum, wI_zip, wI_str, wS_asg, wS_setF, wS_par2, wS_par3, wS_aug, wS_app, wS_ext, wS_ins, wS_pop, wS_expr, wS_ife, wS_for, wS_while, wS_ret, wS_retN, wS_brk, wS_cnt, wS_pass, wS_never, lcB_nil, lcB_cons, lcF_e, th_rt, th_bk, th_ct, wGs_nil, wGs_cons, lk_nx, lk_ct, lk_bk, lk_rt, rhoI, rhoA, nos, nref, List.length_cons, List.length_nil, Nat.reduceAdd, Nat.reduceSub, Nat.sub_self, List.cons_append, List.nil_append, Nat.zero_add, ep0, ep1, ep2, ep3, ep4, ep5, ep6, ep7, ep8, ep9, ep10, ep11, ep12, ep13, ep14, ep15, ep16, ep17, ep18, ep19, ep20, ep21, ep22, ep23, ep24, ep25, ep26, ep27, ep28, ep29, ep30, ep31, ep32, ep33, ep34, ep35, ep36, ep37, ep38, ep39, ep40, ep41, ep42, ep43, ep44, ep45, ep46, ep47, ep48, ep49, ep50, ep51, ep52, ep53, ep54, ep55, ep56, es_lst, es_scr, es_tup, es_str, of_it, of_nw, sd_val, sd_own, ct_val, ct_tmp, ct_loc, cs_nil, cs_val, cs_tmp, cs_loc, cp_val, cp_tmp, cp_loc, g0, gs, bd_tmp, bd_val, bd_loc, st0, sts, ex_some, ob_map, ob_bind, br_t, br_f, br_not, fw_nx, fw_val, fw_tmp, fw_loc, rs_t, rs_f, oo_0, isa_obj, k_isNon_non, k_isNon_bl, k_isNon_int, k_isNon_str, k_isNon_tup, k_isNon_lst, k_isNon_obj, k_isIntD_non, k_isIntD_bl, k_isIntD_int, k_isIntD_str, k_isIntD_tup, k_isIntD_lst, k_isBlD_non, k_isBlD_bl, k_isBlD_int, k_isBlD_str, k_isBlD_tup, k_isBlD_lst, k_isTupD_non, k_isTupD_bl, k_isTupD_int, k_isTupD_str, k_isTupD_tup, k_isTupD_lst, k_isStrD_non, k_isStrD_bl, k_isStrD_int, k_isStrD_str, k_isStrD_tup, k_isStrD_lst, iso_obj, mk_outs, passL, refsOk, putOuts, capL, true_and, and_true, List.map_cons, List.map_nil, exists_eq_left, Option.some.injEq, flat, exists_const, exists_eq, exists_eq', exists_eq_left', and_self, DV.bl.injEq, DV.int.injEq, DV.str.injEq, DV.tup.injEq, DV.lst.injEq, cm_int, cm_bl, cm_non, cm_str, dq_int, dq_str, dq_bl, dq_nn, dq_in, dq_ni, exists_and_left, DV.obj.injEq, putN, putD, List.not_mem_nil, not_false_eq_true, or_false, false_or, exists_false, false_and, and_false, if_true, if_false, EV.Res.loc.injEq, EV.Slot.own.injEq, EV.Slot.val.injEq, and_assoc, r1_loc, r1_val, r1_tmp, b1_tmp, b1_val, n_0, n_1, n_2, n_3, n_4, n_5, n_6, n_7, Int.reduceBEq, Int.reduceBNe, Int.reduceLT, Int.reduceLE, Int.reduceEq, Int.reduceNeg, decide_true, decide_false, beq_self_eq_true, Bool.not_true, Bool.not_false, PR.it.injEq, PR.nw.injEq, reduceCtorEq, ne_eq, not_false_eq_true, implies_true, lc_nil, lc_cons, at_0, at_1, at_2, at_3, Option.toList_some, Option.toList_none, List.any_cons, List.any_nil, List.all_cons, List.all_nil, Bool.or_false, Bool.and_true, Bool.true_or, Bool.or_true, Bool.false_or, Bool.and_false, Bool.false_and, Bool.true_and, Bool.and_self, Bool.or_self, boolsD, tr_bl, tr_int, tr_non, tr_tup, tr_lst, bk_lst, bk_tup, sk_lst, sk_tup, sk_scr, sk_str, so_scr, lo_lst, to_tup, el_lst, et_tup, sy_val, sy_tmp, sy_loc, seqOf, itemsOf, Option.bind_some, tgN, wipeR, backR, Option.getD_some, plainSlots, List.mem_singleton, forall_eq])
  | `(tactic| simp only [evix, $ls,*]) => `(tactic| simp only [rhoI, rhoA, nos, nref, List.length_cons, List.length_nil, Nat.reduceAdd, Nat.reduceSub, Nat.sub_self, List.cons_append, List.nil_append, Nat.zero_add, $ls,*])
  | `(tactic| simp only [evix]) => `(tactic| simp only [rhoI, rhoA, nos, nref, List.length_cons, List.length_nil, Nat.reduceAdd, Nat.reduceSub, Nat.sub_self, List.cons_append, List.nil_append, Nat.zero_add])
local macro_rules
  | `(tactic| simp only [evsx, $ls,*]) => `(tactic| simp only [ev2x, sk_l, q_ll, q_lr, q_ls, q_lt, q_ln, q_lc, q_lo, q_lh, q_lf, q_le, sk_r, q_rl, q_rr, q_rs, q_rt, q_rn, q_rc, q_ro, q_rh, q_rf, q_re, sk_s, q_sl, q_sr, q_ss, q_st, q_sn, q_sc, q_so, q_sh, q_sf, q_se, sk_t, q_tl, q_tr, q_ts, q_tt, q_tn, q_tc, q_to, q_th, q_tf, q_te, sk_n, q_nl, q_nr, q_ns, q_nt, q_nn, q_nc, q_no, q_nh, q_nf, q_ne, sk_c, q_cl, q_cr, q_cs, q_ct, q_cn, q_cc, q_co, q_ch, q_cf, q_ce, sk_o, q_ol, q_or, q_os, q_ot, q_on, q_oc, q_oo, q_oh, q_of, q_oe, sk_h, q_hl, q_hr, q_hs, q_ht, q_hn, q_hc, q_ho, q_hh, q_hf, q_he, sk_f, q_fl, q_fr, q_fs, q_ft, q_fn, q_fc, q_fo, q_fh, q_ff, q_fe, sk_e, q_el, q_er, q_es, q_et, q_en, q_ec, q_eo, q_eh, q_ef, q_ee, $ls,*])
  | `(tactic| simp only [evsx]) => `(tactic| simp only [ev2x, sk_l, q_ll, q_lr, q_ls, q_lt, q_ln, q_lc, q_lo, q_lh, q_lf, q_le, sk_r, q_rl, q_rr, q_rs, q_rt, q_rn, q_rc, q_ro, q_rh, q_rf, q_re, sk_s, q_sl, q_sr, q_ss, q_st, q_sn, q_sc, q_so, q_sh, q_sf, q_se, sk_t, q_tl, q_tr, q_ts, q_tt, q_tn, q_tc, q_to, q_th, q_tf, q_te, sk_n, q_nl, q_nr, q_ns, q_nt, q_nn, q_nc, q_no, q_nh, q_nf, q_ne, sk_c, q_cl, q_cr, q_cs, q_ct, q_cn, q_cc, q_co, q_ch, q_cf, q_ce, sk_o, q_ol, q_or, q_os, q_ot, q_on, q_oc, q_oo, q_oh, q_of, q_oe, sk_h, q_hl, q_hr, q_hs, q_ht, q_hn, q_hc, q_ho, q_hh, q_hf, q_he, sk_f, q_fl, q_fr, q_fs, q_ft, q_fn, q_fc, q_fo, q_fh, q_ff, q_fe, sk_e, q_el, q_er, q_es, q_et, q_en, q_ec, q_eo, q_eh, q_ef, q_ee])
/-! ### scripts -/
def scD (n f : Int) (e : Option Int) (ms : List Mv) : DV := .obj "Script" ["told", "goods", "steps", "floor"] [.tup (sL (scRows n f e ms)), clD n f e, .tup (mL ms), .int (leastFor ms)]
theorem fe1 : (("told" : Str) = "goods") = False := eq_false (by decide +kernel)
theorem fe2 : (("told" : Str) = "steps") = False := eq_false (by decide +kernel)
theorem fe3 : (("told" : Str) = "floor") = False := eq_false (by decide +kernel)
theorem fe4 : (("goods" : Str) = "steps") = False := eq_false (by decide +kernel)
theorem fe5 : (("goods" : Str) = "floor") = False := eq_false (by decide +kernel)
theorem fe6 : (("steps" : Str) = "floor") = False := eq_false (by decide +kernel)
theorem lk_t (a b c d : DV) : List.lookup ("told" : Str) (([("told" : Str), "goods", "steps", "floor"] : List Str).zip [a, b, c, d]) = some a := by kernel_rfl
theorem lk_g (a b c d : DV) : List.lookup ("goods" : Str) (([("told" : Str), "goods", "steps", "floor"] : List Str).zip [a, b, c, d]) = some b := by kernel_rfl
theorem lk_s (a b c d : DV) : List.lookup ("steps" : Str) (([("told" : Str), "goods", "steps", "floor"] : List Str).zip [a, b, c, d]) = some c := by kernel_rfl
theorem lk_f (a b c d : DV) : List.lookup ("floor" : Str) (([("told" : Str), "goods", "steps", "floor"] : List Str).zip [a, b, c, d]) = some d := by kernel_rfl
theorem lk_s3 (a b c : DV) : List.lookup ("steps" : Str) (([("told" : Str), "goods", "steps"] : List Str).zip [a, b, c]) = some c := by kernel_rfl
theorem cut_tl (d : DV) (ds : List DV) : cutD (d :: ds) (some 1) none = ds := by
  unfold cutD HT.sIx
  simp
def fi_sinit : FI := ⟨[true, false], fun ds k => ∃ n f e ms, ds = [.obj "Script" [] [], .tup (sL (scRows n f e ms))] ∧ okCl n f e ∧ okMs ms ∧ k false .non [scD n f e ms]⟩
theorem sp_sinit (ds : List DV) (k : Bool → DV → List DV → Prop) : fi_sinit.spec ds k = (∃ n f e ms, ds = [.obj "Script" [] [], .tup (sL (scRows n f e ms))] ∧ okCl n f e ∧ okMs ms ∧ k false .non [scD n f e ms]) := rfl
theorem md_sinit : fi_sinit.modes = [true, false] := rfl
theorem v_sinit (G : Genv) (h1 : G.fns "wrong_rows" = some fi_wrong_rows) (h2 : G.fns "cloth_in" = some fi_cloth_in) (h3 : G.fns "move_in" = some fi_move_in) (h4 : G.fns "least_for" = some fi_least_for) (f1 : G.isFld "Script" "told" = true) (f2 : G.isFld "Script" "goods" = true) (f3 : G.isFld "Script" "steps" = true) (f4 : G.isFld "Script" "floor" = true) (p3 : G.prop "Script" "steps" = none) :
    ∀ ds k, ds.length = fi_sinit.modes.length → fi_sinit.spec ds k → wpSs G b_Script___init__ (rhoI 4 fi_sinit.modes ds) (finW (nref fi_sinit.modes) k) := by
  intro ds k hl h
  rw [sp_sinit] at h
  obtain ⟨n, f, e, ms, rfl, o, o2, h⟩ := h
  have a0 : atI (sL (scRows n f e ms)) 0 = some (.str (clRow n f e)) := at_0 _ _
  have ct : cutD (sL (scRows n f e ms)) (some 1) none = sL (ms.map mvRow) := cut_tl _ _
  have hz : (sL (ms.map mvRow)).length ≤ sizeLine := big_l (by rw [s_len, List.length_map]; have := o2.1; omega)
  simp only [evix, md_sinit]
  (try simp only [u_Script___init___t_5, u_Script___init___t_4, u_Script___init___t_3, u_Script___init___t_2, u_Script___init___t1a_0, u_Script___init___t_1, u_Script___init__, wSs_nil, th_nx]); (try simp only [evsx, h1])
  rw [cw_e, md_wrong_rows]
  (try simp only [evsx])
  refine ⟨n, f, e, ms, _, rfl, .inl rfl, o, o2, ?_⟩
  (try simp only [evsx])
  (try simp only [u_Script___init___t_5, u_Script___init___t_4, u_Script___init___t_3, u_Script___init___t_2, u_Script___init___t1a_0, u_Script___init___t_1, u_Script___init__, wSs_nil, th_nx]); (try simp only [evsx, f1, List.isEmpty_nil]); (try simp only [u_Script___init___t_5, u_Script___init___t_4, u_Script___init___t_3, u_Script___init___t_2, u_Script___init___t1a_0, u_Script___init___t_1, u_Script___init__, wSs_nil, th_nx]); (try simp only [evsx, f1, List.isEmpty_nil])
  refine ⟨by decide, ?_⟩
  (try simp only [u_Script___init___t_5, u_Script___init___t_4, u_Script___init___t_3, u_Script___init___t_2, u_Script___init___t1a_0, u_Script___init___t_1, u_Script___init__, wSs_nil, th_nx]); (try simp only [evsx, h2, a0])
  rw [cw_e, md_cloth_in]
  (try simp only [evsx, f2])
  refine ⟨n, f, e, rfl, o, ?_⟩
  (try simp only [evsx, f2])
  refine ⟨by decide, ?_⟩
  simp only [fe1, if_false]
  (try simp only [u_Script___init___t_5, u_Script___init___t_4, u_Script___init___t_3, u_Script___init___t_2, u_Script___init___t1a_0, u_Script___init___t_1, u_Script___init__, wSs_nil, th_nx]); (try simp only [evsx, h3, ct, hz])
  refine lcB_inv (I := fun j acc ρ => acc = mL (ms.take j) ∧ ρ = [.own (some 0) (.obj "Script" ["told", "goods"] [.tup (sL (scRows n f e ms)), clD n f e]), .val (.tup (sL (scRows n f e ms))), .val (.tup []), .no]) ⟨rfl, rfl⟩ ?_ ?_
  · rintro j d ρ acc K hd ⟨rfl, rfl⟩ hK
    rw [s_get, List.getElem?_map] at hd
    cases hm : ms[j]? with
    | none => rw [hm] at hd; cases hd
    | some m =>
      rw [hm] at hd
      cases hd
      simp only [evsx, h3]
      rw [cw_e, md_move_in]
      (try simp only [evsx])
      refine ⟨m, rfl, o2.2 m (List.mem_of_getElem? hm), ?_⟩
      (try simp only [evsx])
      refine hK _ _ ⟨?_, rfl⟩
      rw [List.take_add_one, hm]
      simp [mL]
  · rintro acc ρ ⟨rfl, rfl⟩
    have et : ms.take (sL (ms.map mvRow)).length = ms := by rw [s_len, List.length_map, List.take_length]
    simp only [evsx, f3, et]
    refine ⟨by decide, ?_⟩
    simp only [fe1, fe2, fe4, if_false]
    (try simp only [u_Script___init___t_5, u_Script___init___t_4, u_Script___init___t_3, u_Script___init___t_2, u_Script___init___t1a_0, u_Script___init___t_1, u_Script___init__, wSs_nil, th_nx]); (try simp only [evsx, h4, f3, p3, lk_s3])
    rw [cw_e, md_least_for]
    (try simp only [evsx, f4])
    refine ⟨ms, rfl, ?_⟩
    (try simp only [evsx, f4])
    refine ⟨by decide, ?_⟩
    simp only [fe1, fe2, fe3, fe4, fe5, fe6, if_false]
    (try simp only [u_Script___init___t_5, u_Script___init___t_4, u_Script___init___t_3, u_Script___init___t_2, u_Script___init___t1a_0, u_Script___init___t_1, u_Script___init__, wSs_nil, th_nx]); (try simp only [evsx])
    exact ⟨_, rfl, h⟩
def scText (n f : Int) (e : Option Int) (ms : List Mv) : Str := Txt.join "\n" (scRows n f e ms)
theorem nl_ne : (("\n" : Str).length == 0) = false := by decide +kernel
theorem join_nl : ∀ {ws : List Str}, (∀ w ∈ ws, 10 ∉ TL.tl w) → 10 ∉ TL.tl (Txt.join " " ws)
  | [], _ => by decide +kernel
  | [w], h => by
    rw [TL.join_eq]
    exact h w List.mem_cons_self
  | w :: v :: ws, h => by
    have e : Txt.join " " (w :: v :: ws) = w ++ " " ++ Txt.join " " (v :: ws) := by
      rw [TL.join_eq, TL.join_eq]; rfl
    have h1 := h w List.mem_cons_self
    have h2 := join_nl (ws := v :: ws) fun x hx => h x (List.mem_cons_of_mem _ hx)
    have h3 : 10 ∉ TL.tl (" " : Str) := by decide +kernel
    rw [e, TL.tl_append, TL.tl_append]
    simp only [List.mem_append, not_or]
    exact ⟨⟨h1, h3⟩, h2⟩
theorem row_nl {n f : Int} {e : Option Int} {ms : List Mv} (o : okCl n f e) (o2 : okMs ms) : ∀ r ∈ scRows n f e ms, 10 ∉ TL.tl r := by
  intro r hr
  rcases List.mem_cons.mp hr with rfl | hr
  · exact join_nl fun w hw => wordOk_nl (clwords_ok o w hw)
  · obtain ⟨m, hm, rfl⟩ := List.mem_map.mp hr
    exact join_nl fun w hw => wordOk_nl (words_ok (o2.2 m hm) w hw)
theorem scText_split {n f : Int} {e : Option Int} {ms : List Mv} (o : okCl n f e) (o2 : okMs ms) : Txt.split (scText n f e ms) "\n" = scRows n f e ms :=
  TL.split_join (s := 10) (S := []) (by decide +kernel) (by decide +kernel) (by simp [scRows]) fun w hw => row_nl o o2 w hw
theorem joinN_len : ∀ ws : List Str, (∀ w ∈ ws, w.length ≤ 60) → (Txt.join "\n" ws).length ≤ 61 * ws.length
  | [], _ => by decide +kernel
  | [w], h => by
    have := h w List.mem_cons_self
    rw [TL.join_eq]
    show w.length ≤ 61 * 1
    omega
  | w :: v :: ws, h => by
    have h1 := h w List.mem_cons_self
    have h2 := joinN_len (v :: ws) fun x hx => h x (List.mem_cons_of_mem _ hx)
    have e : Txt.join "\n" (w :: v :: ws) = w ++ "\n" ++ Txt.join "\n" (v :: ws) := by
      rw [TL.join_eq, TL.join_eq]; rfl
    have e2 : (("\n" : Str)).length = 1 := by decide +kernel
    rw [e, app_len, app_len, e2]
    simp only [List.length_cons] at h2 ⊢
    omega
theorem rows_len {n f : Int} {e : Option Int} {ms : List Mv} (o : okCl n f e) (o2 : okMs ms) : ∀ r ∈ scRows n f e ms, r.length ≤ 60 := by
  intro r hr
  rcases List.mem_cons.mp hr with rfl | hr
  · have := clRow_len o; omega
  · obtain ⟨m, hm, rfl⟩ := List.mem_map.mp hr
    have := mvRow_len (o2.2 m hm); omega
theorem scText_len {n f : Int} {e : Option Int} {ms : List Mv} (o : okCl n f e) (o2 : okMs ms) : (scText n f e ms).length + 2 ≤ 1000 := by
  have := joinN_len (scRows n f e ms) (rows_len o o2)
  have e : (scRows n f e ms).length ≤ 11 := by rw [scRows_len]; have := o2.1; omega
  unfold scText
  omega
def fi_read : FI := ⟨[false], fun ds k => ∃ n f e ms, ds = [.str (scText n f e ms)] ∧ okCl n f e ∧ okMs ms ∧ k true (scD n f e ms) []⟩
theorem sp_read (ds : List DV) (k : Bool → DV → List DV → Prop) : fi_read.spec ds k = (∃ n f e ms, ds = [.str (scText n f e ms)] ∧ okCl n f e ∧ okMs ms ∧ k true (scD n f e ms) []) := rfl
theorem md_read : fi_read.modes = [false] := rfl
theorem v_read (G : Genv) (h1 : G.fns "wrong_rows" = some fi_wrong_rows) (h2 : G.vmak "Script" = some fi_sinit) : ∀ ds k, ds.length = fi_read.modes.length → fi_read.spec ds k → wpSs G b_Script_read (.no :: rhoI 2 fi_read.modes ds) (finW (nref fi_read.modes) k) := by
  intro ds k hl h
  rw [sp_read] at h
  obtain ⟨n, f, e, ms, rfl, o, o2, h⟩ := h
  have hs := scText_split o o2
  have hz : (scText n f e ms).length + 2 ≤ sizeLine := big_l (scText_len o o2)
  have hz2 : (sL (scRows n f e ms)).length ≤ sizeLine := big_l (by rw [s_len, scRows_len]; have := o2.1; omega)
  simp only [evix, md_read]
  (try simp only [u_Script_read_t_2, u_Script_read_t1a_0, u_Script_read_t_1, u_Script_read, wSs_nil, th_nx]); (try simp only [evsx, pt_str, nl_ne, hz, hs])
  (try simp only [u_Script_read_t_2, u_Script_read_t1a_0, u_Script_read_t_1, u_Script_read, wSs_nil, th_nx]); (try simp only [evsx, h1])
  rw [cw_e, md_wrong_rows]
  (try simp only [evsx, List.isEmpty_nil])
  refine ⟨n, f, e, ms, _, rfl, .inr rfl, o, o2, ?_⟩
  (try simp only [evsx, List.isEmpty_nil])
  (try simp only [u_Script_read_t_2, u_Script_read_t1a_0, u_Script_read_t_1, u_Script_read, wSs_nil, th_nx]); (try simp only [evsx, h2, callX, md_sinit])
  refine ⟨hz2, n, f, e, ms, rfl, o, o2, ?_⟩
  simp only [evsx]
  exact h
def fi_scloth : FI := ⟨[false], fun ds k => ∃ n f e ms, ds = [scD n f e ms] ∧ k false (clD n f e) []⟩
theorem sp_scloth (ds : List DV) (k : Bool → DV → List DV → Prop) : fi_scloth.spec ds k = (∃ n f e ms, ds = [scD n f e ms] ∧ k false (clD n f e) []) := rfl
theorem md_scloth : fi_scloth.modes = [false] := rfl
theorem v_scloth (G : Genv) (hf : G.isFld "Script" "goods" = true) (hp : G.prop "Script" "goods" = none) : ∀ ds k, ds.length = fi_scloth.modes.length → fi_scloth.spec ds k → wpSs G b_Script_cloth (rhoI 1 fi_scloth.modes ds) (finW (nref fi_scloth.modes) k) := by
  intro ds k hl h
  rw [sp_scloth] at h
  obtain ⟨n, f, e, ms, rfl, h⟩ := h
  simp only [evix, md_scloth, scD]
  (try simp only [u_Script_cloth, wSs_nil, th_nx]); (try simp only [evsx, hf, hp, lk_g])
  exact h
end T

set_option maxRecDepth 100000
set_option maxHeartbeats 4000000
set_option exponentiation.threshold 5000
namespace T
open PySem L2 EV
local macro_rules
  | `(tactic| simp only [ev2x, $ls,*]) => `(tactic| simp only [wE_var, wE_cst, wE_glb, wE_prim, wE_tup, wE_lst, wE_ife, wE_and2, wE_or2, wE_not1, wE_chain, wE_chain3, wE_call, wE_callK, wE_methK, wE_makeK, wE_fld, wE_meth, wE_make, wE_slc, wE_lc, wE_tm, wE_isC, wE_makeS, wE_makeV, wE_cmeth, wA_nil, wA_cons, wA_star, wO_no, wO_so, wT_tt, wT_and2, wT_or2, wT_not1, wT_val, wG_nm, wG_sub, wG_fld, wG_tp, wI_seq, wI_range1, wI_range2, wI_range3, wI_enum, wI_zip, wI_str, wS_asg, wS_setF, wS_par2, wS_par3, wS_aug, wS_app, wS_ext, wS_ins, wS_pop, wS_expr, wS_ife, wS_for, wS_while, wS_ret, wS_retN, wS_brk, wS_cnt, wS_pass, wS_never, lcB_nil, lcB_cons, lcF_e, th_rt, th_bk, th_ct, wGs_nil, wGs_cons, lk_nx, lk_ct, lk_bk, lk_rt, rhoI, rhoA, nos, nref, List.length_cons, List.length_nil, Nat.reduceAdd, Nat.reduceSub, Nat.sub_self, List.cons_append, List.nil_append, Nat.zero_add, ep0, ep1, ep2, ep3, ep4, ep5, ep6, ep7, ep8, ep9, ep10, ep11, ep12, ep13, ep14, ep15, ep16, ep17, ep18, ep19, ep20, ep21, ep22, ep23, ep24, ep25, ep26, ep27, ep28, ep29, ep30, ep31, ep32, ep33, ep34, ep35, ep36, ep37, ep38, ep39, ep40, ep41, ep42, ep43, ep44, ep45, ep46, ep47, ep48, ep49, ep50, ep51, ep52, ep53, ep54, ep55, ep56, es_lst, es_scr, es_tup, es_str, of_it, of_nw, sd_val, sd_own, ct_val, ct_tmp, ct_loc, cs_nil, cs_val, cs_tmp, cs_loc, cp_val, cp_tmp, cp_loc, g0, gs, bd_tmp, bd_val, bd_loc, st0, sts, ex_some, ob_map, ob_bind, br_t, br_f, br_not, fw_nx, fw_val, fw_tmp, fw_loc, rs_t, rs_f, oo_0, isa_obj, k_isNon_non, k_isNon_bl, k_isNon_int, k_isNon_str, k_isNon_tup, k_isNon_lst, k_isNon_obj, k_isIntD_non, k_isIntD_bl, k_isIntD_int, k_isIntD_str, k_isIntD_tup, k_isIntD_lst, k_isBlD_non, k_isBlD_bl, k_isBlD_int, k_isBlD_str, k_isBlD_tup, k_isBlD_lst, k_isTupD_non, k_isTupD_bl, k_isTupD_int, k_isTupD_str, k_isTupD_tup, k_isTupD_lst, k_isStrD_non, k_isStrD_bl, k_isStrD_int, k_isStrD_str, k_isStrD_tup, k_isStrD_lst, iso_obj, mk_outs, passL, refsOk, putOuts, capL, true_and, and_true, List.map_cons, List.map_nil, exists_eq_left, Option.some.injEq, flat, exists_const, exists_eq, exists_eq', exists_eq_left', and_self, DV.bl.injEq, DV.int.injEq, DV.str.injEq, DV.tup.injEq, DV.lst.injEq, cm_int, cm_bl, cm_non, cm_str, dq_int, dq_str, dq_bl, dq_nn, dq_in, dq_ni, exists_and_left, DV.obj.injEq, putN, putD, List.not_mem_nil, not_false_eq_true, or_false, false_or, exists_false, false_and, and_false, if_true, if_false, EV.Res.loc.injEq, EV.Slot.own.injEq, EV.Slot.val.injEq, and_assoc, r1_loc, r1_val, r1_tmp, b1_tmp, b1_val, n_0, n_1, n_2, n_3, n_4, n_5, n_6, n_7, Int.reduceBEq, Int.reduceBNe, Int.reduceLT, Int.reduceLE, Int.reduceEq, Int.reduceNeg, decide_true, decide_false, beq_self_eq_true, Bool.not_true, Bool.not_false, PR.it.injEq, PR.nw.injEq, reduceCtorEq, ne_eq, not_false_eq_true, implies_true, lc_nil, lc_cons, at_0, at_1, at_2, at_3, Option.toList_some, Option.toList_none, List.any_cons, List.any_nil, List.all_cons, List.all_nil, Bool.or_false, Bool.and_true, Bool.true_or, Bool.or_true, Bool.false_or, Bool.and_false, Bool.false_and, Bool.true_and, Bool.and_self, Bool.or_self, boolsD, tr_bl, tr_int, tr_non, tr_tup, tr_lst, bk_lst, bk_tup, sk_lst, sk_tup, sk_scr, sk_str, so_scr, lo_lst, to_tup, el_lst, et_tup, sy_val, sy_tmp, sy_loc, seqOf, itemsOf, Option.bind_some, tgN, wipeR, backR, Option.getD_some, plainSlots, List.mem_singleton, forall_eq, $ls,*])
  | `(tactic| simp only [ev2x]) => `(tactic| simp only [wE_var, wE_cst, wE_glb, wE_prim, wE_tup, wE_lst, wE_ife, wE_and2, wE_or2, wE_not1, wE_chain, wE_chain3, wE_call, wE_callK, wE_methK, wE_makeK, wE_fld, wE_meth, wE_make, wE_slc, wE_lc, wE_tm, wE_isC, wE_makeS, wE_makeV, wE_cmeth, wA_nil, wA_cons, wA_star, wO_no, wO_so, wT_tt, wT_and2, wT_or2, wT_not1, wT_val, wG_nm, wG_sub, wG_fld, wG_tp, wI_seq, wI_range1, wI_range2, wI_range3, wI_enum, wI_zip, wI_str, wS_asg, wS_setF, wS_par2, wS_par3, wS_aug, wS_app, wS_ext, wS_ins, wS_pop, wS_expr, wS_ife, wS_for, wS_while, wS_ret, wS_retN, wS_brk, wS_cnt, wS_pass, wS_never, lcB_nil, lcB_cons, lcF_e, th_rt, th_bk, th_ct, wGs_nil, wGs_cons, lk_nx, lk_ct, lk_bk, lk_rt, rhoI, rhoA, nos, nref, List.length_cons, List.length_nil, Nat.reduceAdd, Nat.reduceSub, Nat.sub_self, List.cons_append, List.nil_append, Nat.zero_add, ep0, ep1, ep2, ep3, ep4, ep5, ep6, ep7, ep8, ep9, ep10, ep11, ep12, ep13, ep14, ep15, ep16, ep17, ep18, ep19, ep20, ep21, ep22, ep23, ep24, ep25, ep26, ep27, ep28, ep29, ep30, ep31, ep32, ep33, ep34, ep35, ep36, ep37, ep38, ep39, ep40, ep41, ep42, ep43, ep44, ep45, ep46, ep47, ep48, ep49, ep50, ep51, ep52, ep53, ep54, ep55, ep56, es_lst, es_scr, es_tup, es_str, of_it, of_nw, sd_val, sd_own, ct_val, ct_tmp, ct_loc, cs_nil, cs_val, cs_tmp, cs_loc, cp_val, cp_tmp, cp_loc, g0, gs, bd_tmp, bd_val, bd_loc, st0, sts, ex_some, ob_map, ob_bind, br_t, br_f, br_not, fw_nx, fw_val, fw_tmp, fw_loc, rs_t, rs_f, oo_0, isa_obj, k_isNon_non, k_isNon_bl, k_isNon_int, k_isNon_str, k_isNon_tup, k_isNon_lst, k_isNon_obj, k_isIntD_non, k_isIntD_bl, k_isIntD_int, k_isIntD_str, k_isIntD_tup, k_isIntD_lst, k_isBlD_non, k_isBlD_bl, k_isBlD_int, k_isBlD_str, k_isBlD_tup, k_isBlD_lst, k_isTupD_non, k_isTupD_bl, k_isTupD_int, k_isTupD_str, k_isTupD_tup, k_isTupD_lst, k_isStrD_non, k_isStrD_bl, k_isStrD_int, k_isStrD_str, k_isStrD_tup, k_isStrD_lst, iso_obj, mk_outs, passL, refsOk, putOuts, capL, true_and, and_true, List.map_cons, List.map_nil, exists_eq_left, Option.some.injEq, flat, exists_const, exists_eq, exists_eq', exists_eq_left', and_self, DV.bl.injEq, DV.int.injEq, DV.str.injEq, DV.tup.injEq, DV.lst.injEq, cm_int, cm_bl, cm_non, cm_str, dq_int, dq_str, dq_bl, dq_nn, dq_in, dq_ni, exists_and_left, DV.obj.injEq, putN, putD, List.not_mem_nil, not_false_eq_true, or_false, false_or, exists_false, false_and, and_false, if_true, if_false, EV.Res.loc.injEq, EV.Slot.own.injEq, EV.Slot.val.injEq, and_assoc, r1_loc, r1_val, r1_tmp, b1_tmp, b1_val, n_0, n_1, n_2, n_3, n_4, n_5, n_6, n_7, Int.reduceBEq, Int.reduceBNe, Int.reduceLT, Int.reduceLE, Int.reduceEq, Int.reduceNeg, decide_true, decide_false, beq_self_eq_true, Bool.not_true, Bool.not_false, PR.it.injEq, PR.nw.injEq, reduceCtorEq, ne_eq, not_false_eq_true, implies_true, lc_nil, lc_cons, at_0, at_1, at_2, at_3, Option.toList_some, Option.toList_none, List.any_cons, List.any_nil, List.all_cons, List.all_nil, Bool.or_false, Bool.and_true, Bool.true_or, Bool.or_true, Bool.false_or, Bool.and_false, Bool.false_and, Bool.true_and, Bool.and_self, Bool.or_self, boolsD, tr_bl, tr_int, tr_non, tr_tup, tr_lst, bk_lst, bk_tup, sk_lst, sk_tup, sk_scr, sk_str, so_scr, lo_lst, to_tup, el_lst, et_tup, sy_val, sy_tmp, sy_loc, seqOf, itemsOf, Option.bind_some, tgN, wipeR, backR, Option.getD_some, plainSlots, List.mem_singleton, forall_eq])
  | `(tactic| simp only [evix, $ls,*]) => `(tactic| simp only [rhoI, rhoA, nos, nref, List.length_cons, List.length_nil, Nat.reduceAdd, Nat.reduceSub, Nat.sub_self, List.cons_append, List.nil_append, Nat.zero_add, $ls,*])
  | `(tactic| simp only [evix]) => `(tactic| simp only [rhoI, rhoA, nos, nref, List.length_cons, List.length_nil, Nat.reduceAdd, Nat.reduceSub, Nat.sub_self, List.cons_append, List.nil_append, Nat.zero_add])
local macro_rules
  | `(tactic| simp only [evsx, $ls,*]) => `(tactic| simp only [ev2x, sk_l, q_ll, q_lr, q_ls, q_lt, q_ln, q_lc, q_lo, q_lh, q_lf, q_le, sk_r, q_rl, q_rr, q_rs, q_rt, q_rn, q_rc, q_ro, q_rh, q_rf, q_re, sk_s, q_sl, q_sr, q_ss, q_st, q_sn, q_sc, q_so, q_sh, q_sf, q_se, sk_t, q_tl, q_tr, q_ts, q_tt, q_tn, q_tc, q_to, q_th, q_tf, q_te, sk_n, q_nl, q_nr, q_ns, q_nt, q_nn, q_nc, q_no, q_nh, q_nf, q_ne, sk_c, q_cl, q_cr, q_cs, q_ct, q_cn, q_cc, q_co, q_ch, q_cf, q_ce, sk_o, q_ol, q_or, q_os, q_ot, q_on, q_oc, q_oo, q_oh, q_of, q_oe, sk_h, q_hl, q_hr, q_hs, q_ht, q_hn, q_hc, q_ho, q_hh, q_hf, q_he, sk_f, q_fl, q_fr, q_fs, q_ft, q_fn, q_fc, q_fo, q_fh, q_ff, q_fe, sk_e, q_el, q_er, q_es, q_et, q_en, q_ec, q_eo, q_eh, q_ef, q_ee, $ls,*])
  | `(tactic| simp only [evsx]) => `(tactic| simp only [ev2x, sk_l, q_ll, q_lr, q_ls, q_lt, q_ln, q_lc, q_lo, q_lh, q_lf, q_le, sk_r, q_rl, q_rr, q_rs, q_rt, q_rn, q_rc, q_ro, q_rh, q_rf, q_re, sk_s, q_sl, q_sr, q_ss, q_st, q_sn, q_sc, q_so, q_sh, q_sf, q_se, sk_t, q_tl, q_tr, q_ts, q_tt, q_tn, q_tc, q_to, q_th, q_tf, q_te, sk_n, q_nl, q_nr, q_ns, q_nt, q_nn, q_nc, q_no, q_nh, q_nf, q_ne, sk_c, q_cl, q_cr, q_cs, q_ct, q_cn, q_cc, q_co, q_ch, q_cf, q_ce, sk_o, q_ol, q_or, q_os, q_ot, q_on, q_oc, q_oo, q_oh, q_of, q_oe, sk_h, q_hl, q_hr, q_hs, q_ht, q_hn, q_hc, q_ho, q_hh, q_hf, q_he, sk_f, q_fl, q_fr, q_fs, q_ft, q_fn, q_fc, q_fo, q_fh, q_ff, q_fe, sk_e, q_el, q_er, q_es, q_et, q_en, q_ec, q_eo, q_eh, q_ef, q_ee])
/-! ### rails: places -/
def okSt (n f : Int) (e : Option Int) (ps : List Int) : Prop := (∀ x, e = some x → ∀ p, ps[0]? = some p → x ≤ p) ∧ ∀ (i : Nat) p q, ps[i]? = some p → ps[i + 1]? = some q → n ≤ q - p ∧ q - p ≤ f
def fi_wrong_place : FI := ⟨[false, false], fun ds k => ∃ n f e ps, ds = [clD n f e, .tup (iL ps)] ∧ okSt n f e ps ∧ k false .non []⟩
theorem sp_wrong_place (ds : List DV) (k : Bool → DV → List DV → Prop) : fi_wrong_place.spec ds k = (∃ n f e ps, ds = [clD n f e, .tup (iL ps)] ∧ okSt n f e ps ∧ k false .non []) := rfl
theorem md_wrong_place : fi_wrong_place.modes = [false, false] := rfl
theorem b_pos (i : Nat) : (((i + 1 : Nat) : Int) == 0) = false := by
  simp; omega
theorem v_wrong_place (G : Genv) (h1 : G.fns "is_integer" = some fi_is_integer) : ∀ ds k, ds.length = fi_wrong_place.modes.length → fi_wrong_place.spec ds k → wpSs G b_wrong_place (rhoI 4 fi_wrong_place.modes ds) (finW (nref fi_wrong_place.modes) k) := by
  intro ds k hl h
  rw [sp_wrong_place] at h
  obtain ⟨n, f, e, ps, rfl, ⟨o1, o2⟩, h⟩ := h
  simp only [evix, md_wrong_place]
  (try simp only [u_wrong_place_t_1, u_wrong_place_t0b1a_0, u_wrong_place_t0b_1, u_wrong_place_t0b0a_0, u_wrong_place_t0b_0, u_wrong_place, wSs_nil, th_nx]); (try simp only [evsx])
  refine forB_inv (I := fun i ρ => ∃ s t, ρ = [.val (clD n f e), .val (.tup (iL ps)), s, t]) ⟨_, _, rfl⟩ ?_ ?_
  · rintro i d ρ K hd ⟨s, t, rfl⟩ hK
    obtain ⟨d', hd', rfl⟩ := pe_of hd
    rw [in_get] at hd'
    cases hp : ps[i]? with
    | none => rw [hp] at hd'; cases hd'
    | some p =>
      rw [hp] at hd'
      cases hd'
      rw [forF_e]
      simp only [evsx]
      cases i with
      | zero =>
        cases e with
        | none =>
          simp only [clD]
          (try simp only [u_wrong_place_t_1, u_wrong_place_t0b1a_0, u_wrong_place_t0b_1, u_wrong_place_t0b0a_0, u_wrong_place_t0b_0, u_wrong_place, wSs_nil, th_nx]); (try simp only [evsx, h1, callW, callX, sp_is_integer, md_is_integer, ii_int, pt_int]); (try simp only [u_wrong_place_t_1, u_wrong_place_t0b1a_0, u_wrong_place_t0b_1, u_wrong_place_t0b0a_0, u_wrong_place_t0b_0, u_wrong_place, wSs_nil, th_nx]); (try simp only [evsx, h1, callW, callX, sp_is_integer, md_is_integer, ii_int, pt_int])
          exact hK _ ⟨_, _, rfl⟩
        | some x =>
          have hx := o1 x rfl p hp
          have e1 : decide (p < x) = false := decide_eq_false (by omega)
          simp only [clD]
          (try simp only [u_wrong_place_t_1, u_wrong_place_t0b1a_0, u_wrong_place_t0b_1, u_wrong_place_t0b0a_0, u_wrong_place_t0b_0, u_wrong_place, wSs_nil, th_nx]); (try simp only [evsx, h1, callW, callX, sp_is_integer, md_is_integer, ii_int, pt_int, e1]); (try simp only [u_wrong_place_t_1, u_wrong_place_t0b1a_0, u_wrong_place_t0b_1, u_wrong_place_t0b0a_0, u_wrong_place_t0b_0, u_wrong_place, wSs_nil, th_nx]); (try simp only [evsx, h1, callW, callX, sp_is_integer, md_is_integer, ii_int, pt_int, e1])
          exact hK _ ⟨_, _, rfl⟩
      | succ j =>
        have hj : ∃ q, ps[j]? = some q := by
          have := (List.getElem?_eq_some_iff.mp hp).1
          exact ⟨ps[j], List.getElem?_eq_getElem (by omega)⟩
        obtain ⟨q, hq⟩ := hj
        obtain ⟨g1, g2⟩ := o2 j q p hq hp
        have a1 : atI (iL ps) (((j + 1 : Nat) : Int) - 1) = some (.int q) := at_of (by rw [in_get, hq]; rfl) (by omega)
        have e1 : decide (n ≤ p - q) = true := decide_eq_true g1
        have e2 : decide (p - q ≤ f) = true := decide_eq_true g2
        cases e with
        | none =>
          simp only [clD]
          (try simp only [u_wrong_place_t_1, u_wrong_place_t0b1a_0, u_wrong_place_t0b_1, u_wrong_place_t0b0a_0, u_wrong_place_t0b_0, u_wrong_place, wSs_nil, th_nx]); (try simp only [evsx, h1, callW, callX, sp_is_integer, md_is_integer, ii_int, pt_int, b_pos, b_gt, a1, e1, e2]); (try simp only [u_wrong_place_t_1, u_wrong_place_t0b1a_0, u_wrong_place_t0b_1, u_wrong_place_t0b0a_0, u_wrong_place_t0b_0, u_wrong_place, wSs_nil, th_nx]); (try simp only [evsx, h1, callW, callX, sp_is_integer, md_is_integer, ii_int, pt_int, b_pos, b_gt, a1, e1, e2])
          exact hK _ ⟨_, _, rfl⟩
        | some x =>
          simp only [clD]
          (try simp only [u_wrong_place_t_1, u_wrong_place_t0b1a_0, u_wrong_place_t0b_1, u_wrong_place_t0b0a_0, u_wrong_place_t0b_0, u_wrong_place, wSs_nil, th_nx]); (try simp only [evsx, h1, callW, callX, sp_is_integer, md_is_integer, ii_int, pt_int, b_pos, b_gt, a1, e1, e2]); (try simp only [u_wrong_place_t_1, u_wrong_place_t0b1a_0, u_wrong_place_t0b_1, u_wrong_place_t0b0a_0, u_wrong_place_t0b_0, u_wrong_place, wSs_nil, th_nx]); (try simp only [evsx, h1, callW, callX, sp_is_integer, md_is_integer, ii_int, pt_int, b_pos, b_gt, a1, e1, e2])
          exact hK _ ⟨_, _, rfl⟩
  · rintro ρ ⟨s, t, rfl⟩
    (try simp only [u_wrong_place_t_1, u_wrong_place_t0b1a_0, u_wrong_place_t0b_1, u_wrong_place_t0b0a_0, u_wrong_place_t0b_0, u_wrong_place, wSs_nil, th_nx]); (try simp only [evsx])
    exact h
def fi_check_standing : FI := ⟨[false, false], fun ds k => ∃ n f e ps, ds = [clD n f e, .tup (iL ps)] ∧ okSt n f e ps ∧ ps ≠ [] ∧ k false .non []⟩
theorem sp_check_standing (ds : List DV) (k : Bool → DV → List DV → Prop) : fi_check_standing.spec ds k = (∃ n f e ps, ds = [clD n f e, .tup (iL ps)] ∧ okSt n f e ps ∧ ps ≠ [] ∧ k false .non []) := rfl
theorem md_check_standing : fi_check_standing.modes = [false, false] := rfl
theorem v_check_standing (G : Genv) (h2 : G.fns "wrong_place" = some fi_wrong_place) : ∀ ds k, ds.length = fi_check_standing.modes.length → fi_check_standing.spec ds k → wpSs G b_check_standing (rhoI 3 fi_check_standing.modes ds) (finW (nref fi_check_standing.modes) k) := by
  intro ds k hl h
  rw [sp_check_standing] at h
  obtain ⟨n, f, e, ps, rfl, o2, o3, h⟩ := h
  have e1 : decide (ps = []) = false := decide_eq_false o3
  simp only [evix, md_check_standing]
  (try simp only [u_check_standing_t2a_0, u_check_standing_t_2, u_check_standing_t_1, u_check_standing_t0a_0, u_check_standing, wSs_nil, th_nx]); (try simp only [evsx, pt_tup, cm_tints, cm_t0, dq_t0, e1])
  refine ⟨by decide, ?_⟩
  (try simp only [u_check_standing_t2a_0, u_check_standing_t_2, u_check_standing_t_1, u_check_standing_t0a_0, u_check_standing, wSs_nil, th_nx]); (try simp only [evsx, h2])
  rw [cw_e, md_wrong_place]
  (try simp only [evsx])
  refine ⟨n, f, e, ps, rfl, o2, ?_⟩
  (try simp only [evsx])
  (try simp only [u_check_standing_t2a_0, u_check_standing_t_2, u_check_standing_t_1, u_check_standing_t0a_0, u_check_standing, wSs_nil, th_nx]); (try simp only [evsx]); (try simp only [u_check_standing_t2a_0, u_check_standing_t_2, u_check_standing_t_1, u_check_standing_t0a_0, u_check_standing, wSs_nil, th_nx]); (try simp only [evsx])
  exact h
/-! clamped, goal_of, drawn -/
def clampI (v a b : Int) : Int := min (max v (min a b)) (max a b)
def fi_clamped : FI := ⟨[false, false, false], fun ds k => match ds with
  | [.int v, .int a, .int b] => k false (.int (clampI v a b)) []
  | _ => False⟩
theorem sp_clamped (v a b : Int) (k : Bool → DV → List DV → Prop) : fi_clamped.spec [.int v, .int a, .int b] k = k false (.int (clampI v a b)) [] := rfl
theorem md_clamped : fi_clamped.modes = [false, false, false] := rfl
theorem v_clamped (G : Genv) : ∀ ds k, ds.length = fi_clamped.modes.length → fi_clamped.spec ds k → wpSs G b_clamped (rhoI 3 fi_clamped.modes ds) (finW (nref fi_clamped.modes) k) := by
  intro ds k hl h
  match ds, hl, h with
  | [.int v, .int a, .int b], _, h =>
    rw [sp_clamped] at h
    simp only [evix, md_clamped]
    (try simp only [u_clamped, wSs_nil, th_nx]); (try simp only [evsx, mx_e, mn_e])
    exact h
def goalOf (n : Int) (e : Option Int) (i p : Int) : Int := match e with
  | none => p
  | some x => max p (x + i * n)
def fi_goal_of : FI := ⟨[false, false, false], fun ds k => ∃ n f e i p, ds = [clD n f e, .int i, .int p] ∧ 1 ≤ n ∧ n ≤ 18 ∧ k false (.int (goalOf n e i p)) []⟩
theorem sp_goal_of (ds : List DV) (k : Bool → DV → List DV → Prop) : fi_goal_of.spec ds k = (∃ n f e i p, ds = [clD n f e, .int i, .int p] ∧ 1 ≤ n ∧ n ≤ 18 ∧ k false (.int (goalOf n e i p)) []) := rfl
theorem md_goal_of : fi_goal_of.modes = [false, false, false] := rfl
theorem v_goal_of (G : Genv) : ∀ ds k, ds.length = fi_goal_of.modes.length → fi_goal_of.spec ds k → wpSs G b_goal_of (rhoI 3 fi_goal_of.modes ds) (finW (nref fi_goal_of.modes) k) := by
  intro ds k hl h
  rw [sp_goal_of] at h
  obtain ⟨n, f, e, i, p, rfl, g1, g2, h⟩ := h
  have cm : CMul i n := cmul_r (by omega) (by omega)
  simp only [evix, md_goal_of]
  cases e with
  | none =>
    simp only [clD]
    (try simp only [u_goal_of, wSs_nil, th_nx]); (try simp only [evsx])
    exact h
  | some x =>
    simp only [clD]
    (try simp only [u_goal_of, wSs_nil, th_nx]); (try simp only [evsx, cm, mx_e])
    exact h
def drawnL (n f g i : Int) (ps : List Int) : List Int := ps.zipIdx.map fun p => clampI p.1 (g + ((p.2 : Nat) - i) * n) (g + ((p.2 : Nat) - i) * f)
theorem drawn_get {n f g i : Int} {ps : List Int} {j : Nat} {p : Int} (h : ps[j]? = some p) : (drawnL n f g i ps)[j]? = some (clampI p (g + ((j : Nat) - i) * n) (g + ((j : Nat) - i) * f)) := by
  unfold drawnL
  rw [List.getElem?_map, List.getElem?_zipIdx, h]; simp
theorem drawn_take {n f g i : Int} {ps : List Int} {j : Nat} {p : Int} (h : ps[j]? = some p) : (drawnL n f g i ps).take j ++ [clampI p (g + ((j : Nat) - i) * n) (g + ((j : Nat) - i) * f)] = (drawnL n f g i ps).take (j + 1) := by
  rw [List.take_add_one, drawn_get h]; rfl
theorem drawn_len (n f g i : Int) (ps : List Int) : (drawnL n f g i ps).length = ps.length := by simp [drawnL]
theorem clD_ix0 (n f : Int) (e : Option Int) (k : PR → Prop) : evalP .ix [clD n f e, .int 0] k = k (.it (.int n)) := by
  cases e <;> simp [clD, evalP, at_0]
theorem clD_ix1 (n f : Int) (e : Option Int) (k : PR → Prop) : evalP .ix [clD n f e, .int 1] k = k (.it (.int f)) := by
  cases e <;> simp [clD, evalP, at_1]
def okNF (n f : Int) : Prop := 1 ≤ n ∧ n ≤ f ∧ f ≤ 18
def fi_drawn : FI := ⟨[false, false, false, false], fun ds k => ∃ n f e ps i p, ds = [clD n f e, .tup (iL ps), .int i, .int p] ∧ okNF n f ∧ ps.length ≤ 1000 ∧ k false (.tup (iL (drawnL n f (goalOf n e i p) i ps))) []⟩
theorem sp_drawn (ds : List DV) (k : Bool → DV → List DV → Prop) : fi_drawn.spec ds k = (∃ n f e ps i p, ds = [clD n f e, .tup (iL ps), .int i, .int p] ∧ okNF n f ∧ ps.length ≤ 1000 ∧ k false (.tup (iL (drawnL n f (goalOf n e i p) i ps))) []) := rfl
theorem md_drawn : fi_drawn.modes = [false, false, false, false] := rfl
theorem v_drawn (G : Genv) (h1 : G.fns "goal_of" = some fi_goal_of) (h2 : G.fns "clamped" = some fi_clamped) : ∀ ds k, ds.length = fi_drawn.modes.length → fi_drawn.spec ds k → wpSs G b_drawn (rhoI 9 fi_drawn.modes ds) (finW (nref fi_drawn.modes) k) := by
  intro ds k hl h
  rw [sp_drawn] at h
  obtain ⟨n, f, e, ps, i, p, rfl, ⟨g1, g2, g3⟩, g5, h⟩ := h
  simp only [evix, md_drawn]
  (try simp only [u_drawn_t_2, u_drawn_t1b_1, u_drawn_t1b_0, u_drawn_t_1, u_drawn, wSs_nil, th_nx]); (try simp only [evsx, h1])
  rw [cw_e, md_goal_of]
  (try simp only [evsx])
  refine ⟨n, f, e, i, p, rfl, by omega, by omega, ?_⟩
  (try simp only [evsx])
  refine ⟨by decide, ?_⟩
  (try simp only [u_drawn_t_2, u_drawn_t1b_1, u_drawn_t1b_0, u_drawn_t_1, u_drawn, wSs_nil, th_nx]); (try simp only [evsx])
  refine forB_inv (I := fun j ρ => ∃ s1 s2 s3, ρ = [.val (clD n f e), .val (.tup (iL ps)), .val (.int i), .val (.int p), .val (.int (goalOf n e i p)), .own none (.lst (iL ((drawnL n f (goalOf n e i p) i ps).take j))), s1, s2, s3]) ⟨_, _, _, rfl⟩ ?_ ?_
  · rintro j d ρ K hd ⟨s1, s2, s3, rfl⟩ hK
    obtain ⟨d', hd', rfl⟩ := pe_of hd
    rw [in_get] at hd'
    cases hp : ps[j]? with
    | none => rw [hp] at hd'; cases hd'
    | some q =>
      rw [hp] at hd'
      cases hd'
      have hj : j < ps.length := (List.getElem?_eq_some_iff.mp hp).1
      have c1 : ∀ z, CMul z n := fun z => cmul_r (by omega) (by omega)
      have c2 : ∀ z, CMul z f := fun z => cmul_r (by omega) (by omega)
      have hz : (iL ((drawnL n f (goalOf n e i p) i ps).take j)).length < sizeLine := big_z (by rw [in_len, List.length_take]; omega)
      have e5 : iL ((drawnL n f (goalOf n e i p) i ps).take j) ++ [DV.int (clampI q (goalOf n e i p + ((j : Nat) - i) * n) (goalOf n e i p + ((j : Nat) - i) * f))] = iL ((drawnL n f (goalOf n e i p) i ps).take (j + 1)) := by
        rw [in_app1, drawn_take hp]
      rw [forF_e]
      simp only [evsx]
      (try simp only [u_drawn_t_2, u_drawn_t1b_1, u_drawn_t1b_0, u_drawn_t_1, u_drawn, wSs_nil, th_nx]); (try simp only [evsx, clD_ix0, clD_ix1, h2, callW, callX, sp_clamped, md_clamped, c1, c2, hz]); (try simp only [u_drawn_t_2, u_drawn_t1b_1, u_drawn_t1b_0, u_drawn_t_1, u_drawn, wSs_nil, th_nx]); (try simp only [evsx, clD_ix0, clD_ix1, h2, callW, callX, sp_clamped, md_clamped, c1, c2, hz])
      exact hK _ ⟨_, _, _, by rw [← e5]⟩
  · rintro ρ ⟨s1, s2, s3, rfl⟩
    (try simp only [u_drawn_t_2, u_drawn_t1b_1, u_drawn_t1b_0, u_drawn_t_1, u_drawn, wSs_nil, th_nx]); (try simp only [evsx])
    rw [pe_len, in_len, List.take_of_length_le (by rw [drawn_len]; exact Nat.le_refl _)]
    exact h
end T

set_option maxRecDepth 100000
set_option maxHeartbeats 4000000
set_option exponentiation.threshold 5000
namespace T
open PySem L2 EV
local macro_rules
  | `(tactic| simp only [ev2x, $ls,*]) => `(tactic| simp only [wE_var, wE_cst, wE_glb, wE_prim, wE_tup, wE_lst, wE_ife, wE_and2, wE_or2, wE_not1, wE_chain, wE_chain3, wE_call, wE_callK, wE_methK, wE_makeK, wE_fld, wE_meth, wE_make, wE_slc, wE_lc, wE_tm, wE_isC, wE_makeS, wE_makeV, wE_cmeth, wA_nil, wA_cons, wA_star, wO_no, wO_so, wT_tt, wT_and2, wT_or2, wT_not1, wT_val, wG_nm, wG_sub, wG_fld, wG_tp, wI_seq, wI_range1, wI_range2, wI_range3, wI_enum, wI_zip, wI_str, wS_asg, wS_setF, wS_par2, wS_par3, wS_aug, wS_app, wS_ext, wS_ins, wS_pop, wS_expr, wS_ife, wS_for, wS_while, wS_ret, wS_retN, wS_brk, wS_cnt, wS_pass, wS_never, lcB_nil, lcB_cons, lcF_e, th_rt, th_bk, th_ct, wGs_nil, wGs_cons, lk_nx, lk_ct, lk_bk, lk_rt, rhoI, rhoA, nos, nref, List.length_cons, List.length_nil, Nat.reduceAdd, Nat.reduceSub, Nat.sub_self, List.cons_append, List.nil_append, Nat.zero_add, ep0, ep1, ep2, ep3, ep4, ep5, ep6, ep7, ep8, ep9, ep10, ep11, ep12, ep13, ep14, ep15, ep16, ep17, ep18, ep19, ep20, ep21, ep22, ep23, ep24, ep25, ep26, ep27, ep28, ep29, ep30, ep31, ep32, ep33, ep34, ep35, ep36, ep37, ep38, ep39, ep40, ep41, ep42, ep43, ep44, ep45, ep46, ep47, ep48, ep49, ep50, ep51, ep52, ep53, ep54, ep55, ep56, es_lst, es_scr, es_tup, es_str, of_it, of_nw, sd_val, sd_own, ct_val, ct_tmp, ct_loc, cs_nil, cs_val, cs_tmp, cs_loc, cp_val, cp_tmp, cp_loc, g0, gs, bd_tmp, bd_val, bd_loc, st0, sts, ex_some, ob_map, ob_bind, br_t, br_f, br_not, fw_nx, fw_val, fw_tmp, fw_loc, rs_t, rs_f, oo_0, isa_obj, k_isNon_non, k_isNon_bl, k_isNon_int, k_isNon_str, k_isNon_tup, k_isNon_lst, k_isNon_obj, k_isIntD_non, k_isIntD_bl, k_isIntD_int, k_isIntD_str, k_isIntD_tup, k_isIntD_lst, k_isBlD_non, k_isBlD_bl, k_isBlD_int, k_isBlD_str, k_isBlD_tup, k_isBlD_lst, k_isTupD_non, k_isTupD_bl, k_isTupD_int, k_isTupD_str, k_isTupD_tup, k_isTupD_lst, k_isStrD_non, k_isStrD_bl, k_isStrD_int, k_isStrD_str, k_isStrD_tup, k_isStrD_lst, iso_obj, mk_outs, passL, refsOk, putOuts, capL, true_and, and_true, List.map_cons, List.map_nil, exists_eq_left, Option.some.injEq, flat, exists_const, exists_eq, exists_eq', exists_eq_left', and_self, DV.bl.injEq, DV.int.injEq, DV.str.injEq, DV.tup.injEq, DV.lst.injEq, cm_int, cm_bl, cm_non, cm_str, dq_int, dq_str, dq_bl, dq_nn, dq_in, dq_ni, exists_and_left, DV.obj.injEq, putN, putD, List.not_mem_nil, not_false_eq_true, or_false, false_or, exists_false, false_and, and_false, if_true, if_false, EV.Res.loc.injEq, EV.Slot.own.injEq, EV.Slot.val.injEq, and_assoc, r1_loc, r1_val, r1_tmp, b1_tmp, b1_val, n_0, n_1, n_2, n_3, n_4, n_5, n_6, n_7, Int.reduceBEq, Int.reduceBNe, Int.reduceLT, Int.reduceLE, Int.reduceEq, Int.reduceNeg, decide_true, decide_false, beq_self_eq_true, Bool.not_true, Bool.not_false, PR.it.injEq, PR.nw.injEq, reduceCtorEq, ne_eq, not_false_eq_true, implies_true, lc_nil, lc_cons, at_0, at_1, at_2, at_3, Option.toList_some, Option.toList_none, List.any_cons, List.any_nil, List.all_cons, List.all_nil, Bool.or_false, Bool.and_true, Bool.true_or, Bool.or_true, Bool.false_or, Bool.and_false, Bool.false_and, Bool.true_and, Bool.and_self, Bool.or_self, boolsD, tr_bl, tr_int, tr_non, tr_tup, tr_lst, bk_lst, bk_tup, sk_lst, sk_tup, sk_scr, sk_str, so_scr, lo_lst, to_tup, el_lst, et_tup, sy_val, sy_tmp, sy_loc, seqOf, itemsOf, Option.bind_some, tgN, wipeR, backR, Option.getD_some, plainSlots, List.mem_singleton, forall_eq, $ls,*])
  | `(tactic| simp only [ev2x]) => `(tactic| simp only [wE_var, wE_cst, wE_glb, wE_prim, wE_tup, wE_lst, wE_ife, wE_and2, wE_or2, wE_not1, wE_chain, wE_chain3, wE_call, wE_callK, wE_methK, wE_makeK, wE_fld, wE_meth, wE_make, wE_slc, wE_lc, wE_tm, wE_isC, wE_makeS, wE_makeV, wE_cmeth, wA_nil, wA_cons, wA_star, wO_no, wO_so, wT_tt, wT_and2, wT_or2, wT_not1, wT_val, wG_nm, wG_sub, wG_fld, wG_tp, wI_seq, wI_range1, wI_range2, wI_range3, wI_enum, wI_zip, wI_str, wS_asg, wS_setF, wS_par2, wS_par3, wS_aug, wS_app, wS_ext, wS_ins, wS_pop, wS_expr, wS_ife, wS_for, wS_while, wS_ret, wS_retN, wS_brk, wS_cnt, wS_pass, wS_never, lcB_nil, lcB_cons, lcF_e, th_rt, th_bk, th_ct, wGs_nil, wGs_cons, lk_nx, lk_ct, lk_bk, lk_rt, rhoI, rhoA, nos, nref, List.length_cons, List.length_nil, Nat.reduceAdd, Nat.reduceSub, Nat.sub_self, List.cons_append, List.nil_append, Nat.zero_add, ep0, ep1, ep2, ep3, ep4, ep5, ep6, ep7, ep8, ep9, ep10, ep11, ep12, ep13, ep14, ep15, ep16, ep17, ep18, ep19, ep20, ep21, ep22, ep23, ep24, ep25, ep26, ep27, ep28, ep29, ep30, ep31, ep32, ep33, ep34, ep35, ep36, ep37, ep38, ep39, ep40, ep41, ep42, ep43, ep44, ep45, ep46, ep47, ep48, ep49, ep50, ep51, ep52, ep53, ep54, ep55, ep56, es_lst, es_scr, es_tup, es_str, of_it, of_nw, sd_val, sd_own, ct_val, ct_tmp, ct_loc, cs_nil, cs_val, cs_tmp, cs_loc, cp_val, cp_tmp, cp_loc, g0, gs, bd_tmp, bd_val, bd_loc, st0, sts, ex_some, ob_map, ob_bind, br_t, br_f, br_not, fw_nx, fw_val, fw_tmp, fw_loc, rs_t, rs_f, oo_0, isa_obj, k_isNon_non, k_isNon_bl, k_isNon_int, k_isNon_str, k_isNon_tup, k_isNon_lst, k_isNon_obj, k_isIntD_non, k_isIntD_bl, k_isIntD_int, k_isIntD_str, k_isIntD_tup, k_isIntD_lst, k_isBlD_non, k_isBlD_bl, k_isBlD_int, k_isBlD_str, k_isBlD_tup, k_isBlD_lst, k_isTupD_non, k_isTupD_bl, k_isTupD_int, k_isTupD_str, k_isTupD_tup, k_isTupD_lst, k_isStrD_non, k_isStrD_bl, k_isStrD_int, k_isStrD_str, k_isStrD_tup, k_isStrD_lst, iso_obj, mk_outs, passL, refsOk, putOuts, capL, true_and, and_true, List.map_cons, List.map_nil, exists_eq_left, Option.some.injEq, flat, exists_const, exists_eq, exists_eq', exists_eq_left', and_self, DV.bl.injEq, DV.int.injEq, DV.str.injEq, DV.tup.injEq, DV.lst.injEq, cm_int, cm_bl, cm_non, cm_str, dq_int, dq_str, dq_bl, dq_nn, dq_in, dq_ni, exists_and_left, DV.obj.injEq, putN, putD, List.not_mem_nil, not_false_eq_true, or_false, false_or, exists_false, false_and, and_false, if_true, if_false, EV.Res.loc.injEq, EV.Slot.own.injEq, EV.Slot.val.injEq, and_assoc, r1_loc, r1_val, r1_tmp, b1_tmp, b1_val, n_0, n_1, n_2, n_3, n_4, n_5, n_6, n_7, Int.reduceBEq, Int.reduceBNe, Int.reduceLT, Int.reduceLE, Int.reduceEq, Int.reduceNeg, decide_true, decide_false, beq_self_eq_true, Bool.not_true, Bool.not_false, PR.it.injEq, PR.nw.injEq, reduceCtorEq, ne_eq, not_false_eq_true, implies_true, lc_nil, lc_cons, at_0, at_1, at_2, at_3, Option.toList_some, Option.toList_none, List.any_cons, List.any_nil, List.all_cons, List.all_nil, Bool.or_false, Bool.and_true, Bool.true_or, Bool.or_true, Bool.false_or, Bool.and_false, Bool.false_and, Bool.true_and, Bool.and_self, Bool.or_self, boolsD, tr_bl, tr_int, tr_non, tr_tup, tr_lst, bk_lst, bk_tup, sk_lst, sk_tup, sk_scr, sk_str, so_scr, lo_lst, to_tup, el_lst, et_tup, sy_val, sy_tmp, sy_loc, seqOf, itemsOf, Option.bind_some, tgN, wipeR, backR, Option.getD_some, plainSlots, List.mem_singleton, forall_eq])
  | `(tactic| simp only [evix, $ls,*]) => `(tactic| simp only [rhoI, rhoA, nos, nref, List.length_cons, List.length_nil, Nat.reduceAdd, Nat.reduceSub, Nat.sub_self, List.cons_append, List.nil_append, Nat.zero_add, $ls,*])
  | `(tactic| simp only [evix]) => `(tactic| simp only [rhoI, rhoA, nos, nref, List.length_cons, List.length_nil, Nat.reduceAdd, Nat.reduceSub, Nat.sub_self, List.cons_append, List.nil_append, Nat.zero_add])
local macro_rules
  | `(tactic| simp only [evsx, $ls,*]) => `(tactic| simp only [ev2x, sk_l, q_ll, q_lr, q_ls, q_lt, q_ln, q_lc, q_lo, q_lh, q_lf, q_le, sk_r, q_rl, q_rr, q_rs, q_rt, q_rn, q_rc, q_ro, q_rh, q_rf, q_re, sk_s, q_sl, q_sr, q_ss, q_st, q_sn, q_sc, q_so, q_sh, q_sf, q_se, sk_t, q_tl, q_tr, q_ts, q_tt, q_tn, q_tc, q_to, q_th, q_tf, q_te, sk_n, q_nl, q_nr, q_ns, q_nt, q_nn, q_nc, q_no, q_nh, q_nf, q_ne, sk_c, q_cl, q_cr, q_cs, q_ct, q_cn, q_cc, q_co, q_ch, q_cf, q_ce, sk_o, q_ol, q_or, q_os, q_ot, q_on, q_oc, q_oo, q_oh, q_of, q_oe, sk_h, q_hl, q_hr, q_hs, q_ht, q_hn, q_hc, q_ho, q_hh, q_hf, q_he, sk_f, q_fl, q_fr, q_fs, q_ft, q_fn, q_fc, q_fo, q_fh, q_ff, q_fe, sk_e, q_el, q_er, q_es, q_et, q_en, q_ec, q_eo, q_eh, q_ef, q_ee, $ls,*])
  | `(tactic| simp only [evsx]) => `(tactic| simp only [ev2x, sk_l, q_ll, q_lr, q_ls, q_lt, q_ln, q_lc, q_lo, q_lh, q_lf, q_le, sk_r, q_rl, q_rr, q_rs, q_rt, q_rn, q_rc, q_ro, q_rh, q_rf, q_re, sk_s, q_sl, q_sr, q_ss, q_st, q_sn, q_sc, q_so, q_sh, q_sf, q_se, sk_t, q_tl, q_tr, q_ts, q_tt, q_tn, q_tc, q_to, q_th, q_tf, q_te, sk_n, q_nl, q_nr, q_ns, q_nt, q_nn, q_nc, q_no, q_nh, q_nf, q_ne, sk_c, q_cl, q_cr, q_cs, q_ct, q_cn, q_cc, q_co, q_ch, q_cf, q_ce, sk_o, q_ol, q_or, q_os, q_ot, q_on, q_oc, q_oo, q_oh, q_of, q_oe, sk_h, q_hl, q_hr, q_hs, q_ht, q_hn, q_hc, q_ho, q_hh, q_hf, q_he, sk_f, q_fl, q_fr, q_fs, q_ft, q_fn, q_fc, q_fo, q_fh, q_ff, q_fe, sk_e, q_el, q_er, q_es, q_et, q_en, q_ec, q_eo, q_eh, q_ef, q_ee])
/-! ### moved -/
theorem cut_all (ds : List DV) : cutD ds none none = ds := by
  unfold cutD HT.sIx
  simp
theorem cut_1 (ns : List Int) : cutD (iL ns) (some 1) none = iL (ns.drop 1) := by
  cases ns with
  | nil => rfl
  | cons n ns => rw [in_cons, cut_tl]; rfl
theorem cut_m1 (ns : List Int) : cutD (iL ns) none (some (-1)) = iL (ns.take (ns.length - 1)) := by
  unfold cutD HT.sIx iL
  have e : (if (-1 : Int) < 0 then ((-1 : Int) + ((ns.map DV.int).length : Int)).toNat else min (-1 : Int).toNat (ns.map DV.int).length) = ns.length - 1 := by
    rw [if_pos (by decide), List.length_map]; omega
  simp only [e]
  simp [List.map_take]
theorem capL_vals : ∀ (ds : List DV) (rs : List Res) (ρ : Rho) (k : List DV → Rho → Prop), capL (ds.map .val ++ rs) ρ k = capL rs ρ fun es ρ1 => k (ds ++ es) ρ1
  | [], rs, ρ, k => rfl
  | d :: ds, rs, ρ, k => by
    show (cap (.val d) ρ fun d' ρ1 => capL (ds.map .val ++ rs) ρ1 fun es ρ2 => k (d' :: es) ρ2) = _
    rw [cp_val, capL_vals ds rs]
    rfl
theorem capL_vals0 (ds : List DV) (ρ : Rho) (k : List DV → Rho → Prop) : capL (ds.map .val) ρ k = k ds ρ := by
  have := capL_vals ds [] ρ k
  rw [List.append_nil] at this
  rw [this]
  show k (ds ++ []) ρ = _
  rw [List.append_nil]
theorem capL_consV (d : DV) (rs : List Res) (ρ : Rho) (k : List DV → Rho → Prop) : capL (.val d :: rs) ρ k = capL rs ρ fun es ρ1 => k (d :: es) ρ1 := rfl
theorem capL_nil (ρ : Rho) (k : List DV → Rho → Prop) : capL [] ρ k = k [] ρ := rfl
def carE (e : Option Int) (p : Int) : Option Int := e.map (· + p)
def fi_carried : FI := ⟨[false, false], fun ds k => ∃ n f e p, ds = [clD n f e, .int p] ∧ k false (clD n f (carE e p)) []⟩
theorem sp_carried (ds : List DV) (k : Bool → DV → List DV → Prop) : fi_carried.spec ds k = (∃ n f e p, ds = [clD n f e, .int p] ∧ k false (clD n f (carE e p)) []) := rfl
theorem md_carried : fi_carried.modes = [false, false] := rfl
theorem v_carried (G : Genv) : ∀ ds k, ds.length = fi_carried.modes.length → fi_carried.spec ds k → wpSs G b_carried (rhoI 2 fi_carried.modes ds) (finW (nref fi_carried.modes) k) := by
  intro ds k hl h
  rw [sp_carried] at h
  obtain ⟨n, f, e, p, rfl, h⟩ := h
  simp only [evix, md_carried]
  cases e with
  | none =>
    simp only [clD]
    (try simp only [u_carried, wSs_nil, th_nx]); (try simp only [evsx])
    exact h
  | some x =>
    simp only [clD]
    (try simp only [u_carried, wSs_nil, th_nx]); (try simp only [evsx])
    exact ⟨by decide, h⟩
def isSm : Mv → Bool
  | .sm _ => true
  | _ => false
/-- the end of the rail and the places behind a move -/
def mvStep (n f : Int) (st : Option Int × List Int) : Mv → Option Int × List Int
  | .car p => (carE st.1 p, st.2.map (· + p))
  | .off true => (st.1, st.2.drop 1)
  | .off false => (st.1, st.2.take (st.2.length - 1))
  | .on true p => (st.1, drawnL n f (goalOf n st.1 0 p) 0 (p :: st.2))
  | .on false p => (st.1, drawnL n f (goalOf n st.1 st.2.length p) st.2.length (st.2 ++ [p]))
  | .lft r p => (st.1, drawnL n f (goalOf n st.1 (r - 1) p) (r - 1) st.2)
  | .rgt r p => (st.1, drawnL n f (goalOf n st.1 (st.2.length - r) p) (st.2.length - r) st.2)
  | .sm _ => st
theorem mvStep_len {n f : Int} {st : Option Int × List Int} {m : Mv} (h : askOf m ≤ st.2.length) : ((mvStep n f st m).2.length : Int) = st.2.length + moreOf m := by
  cases m with
  | on l p => cases l <;> simp [mvStep, moreOf, drawn_len]
  | off l =>
    have h : (2 : Int) ≤ st.2.length := h
    cases l <;> simp [mvStep, moreOf] <;> omega
  | _ => simp [mvStep, moreOf, drawn_len]
theorem mvStep_le {n f : Int} {st : Option Int × List Int} {m : Mv} : (mvStep n f st m).2.length ≤ st.2.length + 1 := by
  cases m with
  | on l p => cases l <;> simp [mvStep, drawn_len]
  | off l => cases l <;> simp [mvStep] <;> omega
  | _ => simp [mvStep, drawn_len]
def fi_moved : FI := ⟨[false, false, false], fun ds k => ∃ n f e ps m, ds = [clD n f e, .tup (iL ps), mvD m] ∧ isSm m = false ∧ okNF n f ∧ ps.length ≤ 900 ∧ k false (.tup [clD n f (mvStep n f (e, ps) m).1, .tup (iL (mvStep n f (e, ps) m).2)]) []⟩
theorem sp_moved (ds : List DV) (k : Bool → DV → List DV → Prop) : fi_moved.spec ds k = (∃ n f e ps m, ds = [clD n f e, .tup (iL ps), mvD m] ∧ isSm m = false ∧ okNF n f ∧ ps.length ≤ 900 ∧ k false (.tup [clD n f (mvStep n f (e, ps) m).1, .tup (iL (mvStep n f (e, ps) m).2)]) []) := rfl
theorem md_moved : fi_moved.modes = [false, false, false] := rfl
theorem v_moved (G : Genv) (h1 : G.fns "drawn" = some fi_drawn) (h2 : G.fns "carried" = some fi_carried) : ∀ ds k, ds.length = fi_moved.modes.length → fi_moved.spec ds k → wpSs G b_moved (rhoI 7 fi_moved.modes ds) (finW (nref fi_moved.modes) k) := by
  intro ds k hl h
  rw [sp_moved] at h
  obtain ⟨n, f, e, ps, m, rfl, hm, g, g5, h⟩ := h
  have z2 : (2 : Nat) ≤ sizeLine := by decide
  have hz : (iL ps).length ≤ sizeLine := big_l (by rw [in_len]; omega)
  simp only [evix, md_moved]
  cases m with
  | sm p => cases hm
  | lft r p =>
    simp only [mvD, mvStep] at *
    (try simp only [u_moved_t_4, u_moved_t3a_1, u_moved_t3a_0, u_moved_t_3, u_moved_t2a_0, u_moved_t_2, u_moved_t1a_0, u_moved_t_1, u_moved, wSs_nil, th_nx]); (try simp only [evsx, h1]); (try simp only [u_moved_t_4, u_moved_t3a_1, u_moved_t3a_0, u_moved_t_3, u_moved_t2a_0, u_moved_t_2, u_moved_t1a_0, u_moved_t_1, u_moved, wSs_nil, th_nx]); (try simp only [evsx, h1]); (try simp only [u_moved_t_4, u_moved_t3a_1, u_moved_t3a_0, u_moved_t_3, u_moved_t2a_0, u_moved_t_2, u_moved_t1a_0, u_moved_t_1, u_moved, wSs_nil, th_nx]); (try simp only [evsx, h1]); (try simp only [u_moved_t_4, u_moved_t3a_1, u_moved_t3a_0, u_moved_t_3, u_moved_t2a_0, u_moved_t_2, u_moved_t1a_0, u_moved_t_1, u_moved, wSs_nil, th_nx]); (try simp only [evsx, h1]); (try simp only [u_moved_t_4, u_moved_t3a_1, u_moved_t3a_0, u_moved_t_3, u_moved_t2a_0, u_moved_t_2, u_moved_t1a_0, u_moved_t_1, u_moved, wSs_nil, th_nx]); (try simp only [evsx, h1])
    rw [cw_e, md_drawn]
    (try simp only [evsx])
    refine ⟨n, f, e, ps, r - 1, p, rfl, g, by omega, ?_⟩
    (try simp only [evsx])
    exact ⟨z2, h⟩
  | rgt r p =>
    simp only [mvD, mvStep] at *
    (try simp only [u_moved_t_4, u_moved_t3a_1, u_moved_t3a_0, u_moved_t_3, u_moved_t2a_0, u_moved_t_2, u_moved_t1a_0, u_moved_t_1, u_moved, wSs_nil, th_nx]); (try simp only [evsx, h1, in_len]); (try simp only [u_moved_t_4, u_moved_t3a_1, u_moved_t3a_0, u_moved_t_3, u_moved_t2a_0, u_moved_t_2, u_moved_t1a_0, u_moved_t_1, u_moved, wSs_nil, th_nx]); (try simp only [evsx, h1, in_len]); (try simp only [u_moved_t_4, u_moved_t3a_1, u_moved_t3a_0, u_moved_t_3, u_moved_t2a_0, u_moved_t_2, u_moved_t1a_0, u_moved_t_1, u_moved, wSs_nil, th_nx]); (try simp only [evsx, h1, in_len]); (try simp only [u_moved_t_4, u_moved_t3a_1, u_moved_t3a_0, u_moved_t_3, u_moved_t2a_0, u_moved_t_2, u_moved_t1a_0, u_moved_t_1, u_moved, wSs_nil, th_nx]); (try simp only [evsx, h1, in_len]); (try simp only [u_moved_t_4, u_moved_t3a_1, u_moved_t3a_0, u_moved_t_3, u_moved_t2a_0, u_moved_t_2, u_moved_t1a_0, u_moved_t_1, u_moved, wSs_nil, th_nx]); (try simp only [evsx, h1, in_len])
    rw [cw_e, md_drawn]
    (try simp only [evsx])
    refine ⟨n, f, e, ps, ps.length - r, p, rfl, g, by omega, ?_⟩
    (try simp only [evsx])
    exact ⟨z2, h⟩
  | on l p =>
    cases l with
    | true =>
      simp only [mvD, mvStep, sdS] at *
      (try simp only [u_moved_t_4, u_moved_t3a_1, u_moved_t3a_0, u_moved_t_3, u_moved_t2a_0, u_moved_t_2, u_moved_t1a_0, u_moved_t_1, u_moved, wSs_nil, th_nx]); (try simp only [evsx, h1]); (try simp only [u_moved_t_4, u_moved_t3a_1, u_moved_t3a_0, u_moved_t_3, u_moved_t2a_0, u_moved_t_2, u_moved_t1a_0, u_moved_t_1, u_moved, wSs_nil, th_nx]); (try simp only [evsx, h1]); (try simp only [u_moved_t_4, u_moved_t3a_1, u_moved_t3a_0, u_moved_t_3, u_moved_t2a_0, u_moved_t_2, u_moved_t1a_0, u_moved_t_1, u_moved, wSs_nil, th_nx]); (try simp only [evsx, h1]); (try simp only [u_moved_t_4, u_moved_t3a_1, u_moved_t3a_0, u_moved_t_3, u_moved_t2a_0, u_moved_t_2, u_moved_t1a_0, u_moved_t_1, u_moved, wSs_nil, th_nx]); (try simp only [evsx, h1])
      have z3 : (iL ps).length + 1 ≤ sizeLine := big_l (by rw [in_len]; omega)
      (try simp only [u_moved_t_4, u_moved_t3a_1, u_moved_t3a_0, u_moved_t_3, u_moved_t2a_0, u_moved_t_2, u_moved_t1a_0, u_moved_t_1, u_moved, wSs_nil, th_nx]); (try simp only [evsx, capL_consV, capL_vals, capL_vals0, capL_nil, List.append_nil, z3])
      (try simp only [u_moved_t_4, u_moved_t3a_1, u_moved_t3a_0, u_moved_t_3, u_moved_t2a_0, u_moved_t_2, u_moved_t1a_0, u_moved_t_1, u_moved, wSs_nil, th_nx]); (try simp only [evsx, h1])
      rw [cw_e, md_drawn]
      (try simp only [evsx])
      refine ⟨n, f, e, p :: ps, 0, p, rfl, g, by rw [List.length_cons]; omega, ?_⟩
      (try simp only [evsx])
      exact ⟨z2, h⟩
    | false =>
      simp only [mvD, mvStep, sdS] at *
      (try simp only [u_moved_t_4, u_moved_t3a_1, u_moved_t3a_0, u_moved_t_3, u_moved_t2a_0, u_moved_t_2, u_moved_t1a_0, u_moved_t_1, u_moved, wSs_nil, th_nx]); (try simp only [evsx, h1]); (try simp only [u_moved_t_4, u_moved_t3a_1, u_moved_t3a_0, u_moved_t_3, u_moved_t2a_0, u_moved_t_2, u_moved_t1a_0, u_moved_t_1, u_moved, wSs_nil, th_nx]); (try simp only [evsx, h1]); (try simp only [u_moved_t_4, u_moved_t3a_1, u_moved_t3a_0, u_moved_t_3, u_moved_t2a_0, u_moved_t_2, u_moved_t1a_0, u_moved_t_1, u_moved, wSs_nil, th_nx]); (try simp only [evsx, h1]); (try simp only [u_moved_t_4, u_moved_t3a_1, u_moved_t3a_0, u_moved_t_3, u_moved_t2a_0, u_moved_t_2, u_moved_t1a_0, u_moved_t_1, u_moved, wSs_nil, th_nx]); (try simp only [evsx, h1])
      have z3 : (iL ps).length + 1 ≤ sizeLine := big_l (by rw [in_len]; omega)
      (try simp only [u_moved_t_4, u_moved_t3a_1, u_moved_t3a_0, u_moved_t_3, u_moved_t2a_0, u_moved_t_2, u_moved_t1a_0, u_moved_t_1, u_moved, wSs_nil, th_nx]); (try simp only [evsx, capL_consV, capL_vals, capL_vals0, capL_nil, List.append_nil, List.length_append, z3])
      (try simp only [u_moved_t_4, u_moved_t3a_1, u_moved_t3a_0, u_moved_t_3, u_moved_t2a_0, u_moved_t_2, u_moved_t1a_0, u_moved_t_1, u_moved, wSs_nil, th_nx]); (try simp only [evsx, h1, List.length_append, in_len])
      have eL : iL ps ++ [DV.int p] = iL (ps ++ [p]) := in_app1 ps p
      have eN : ((ps.length + 1 : Nat) : Int) - 1 = ps.length := by omega
      rw [eL, eN]
      rw [cw_e, md_drawn]
      (try simp only [evsx])
      refine ⟨n, f, e, ps ++ [p], ps.length, p, rfl, g, by rw [List.length_append, List.length_singleton]; omega, ?_⟩
      (try simp only [evsx])
      exact ⟨z2, h⟩
  | car p =>
    simp only [mvD, mvStep] at *
    (try simp only [u_moved_t_4, u_moved_t3a_1, u_moved_t3a_0, u_moved_t_3, u_moved_t2a_0, u_moved_t_2, u_moved_t1a_0, u_moved_t_1, u_moved, wSs_nil, th_nx]); (try simp only [evsx, h2]); (try simp only [u_moved_t_4, u_moved_t3a_1, u_moved_t3a_0, u_moved_t_3, u_moved_t2a_0, u_moved_t_2, u_moved_t1a_0, u_moved_t_1, u_moved, wSs_nil, th_nx]); (try simp only [evsx, h2])
    (try simp only [u_moved_t_4, u_moved_t3a_1, u_moved_t3a_0, u_moved_t_3, u_moved_t2a_0, u_moved_t_2, u_moved_t1a_0, u_moved_t_1, u_moved, wSs_nil, th_nx]); (try simp only [evsx, h2])
    rw [cw_e, md_carried]
    (try simp only [evsx, hz])
    refine ⟨n, f, e, p, rfl, ?_⟩
    (try simp only [evsx, hz])
    refine lcB_inv (I := fun j acc ρ => acc = iL ((ps.take j).map (· + p)) ∧ ρ = [.val (clD n f e), .val (.tup (iL ps)), .val (.tup [.str "carry", .str "", .int p]), .val (.str "carry"), .val (.str ""), .val (.int p), .no]) ⟨rfl, rfl⟩ ?_ ?_
    · rintro j d ρ acc K hd ⟨rfl, rfl⟩ hK
      rw [in_get] at hd
      cases hq : ps[j]? with
      | none => rw [hq] at hd; cases hd
      | some q =>
        rw [hq] at hd
        cases hd
        simp only [evsx]
        refine hK _ _ ⟨?_, rfl⟩
        rw [List.take_add_one, hq]
        simp [iL]
    · rintro acc ρ ⟨rfl, rfl⟩
      have et : ps.take (iL ps).length = ps := by rw [in_len, List.take_length]
      simp only [evsx, et]
      exact ⟨z2, h⟩
  | off l =>
    cases l with
    | true =>
      simp only [mvD, mvStep, sdS] at *
      (try simp only [u_moved_t_4, u_moved_t3a_1, u_moved_t3a_0, u_moved_t_3, u_moved_t2a_0, u_moved_t_2, u_moved_t1a_0, u_moved_t_1, u_moved, wSs_nil, th_nx]); (try simp only [evsx, cut_1]); (try simp only [u_moved_t_4, u_moved_t3a_1, u_moved_t3a_0, u_moved_t_3, u_moved_t2a_0, u_moved_t_2, u_moved_t1a_0, u_moved_t_1, u_moved, wSs_nil, th_nx]); (try simp only [evsx, cut_1]); (try simp only [u_moved_t_4, u_moved_t3a_1, u_moved_t3a_0, u_moved_t_3, u_moved_t2a_0, u_moved_t_2, u_moved_t1a_0, u_moved_t_1, u_moved, wSs_nil, th_nx]); (try simp only [evsx, cut_1])
      (try simp only [u_moved_t_4, u_moved_t3a_1, u_moved_t3a_0, u_moved_t_3, u_moved_t2a_0, u_moved_t_2, u_moved_t1a_0, u_moved_t_1, u_moved, wSs_nil, th_nx]); (try simp only [evsx, cut_1])
      exact ⟨z2, h⟩
    | false =>
      simp only [mvD, mvStep, sdS] at *
      (try simp only [u_moved_t_4, u_moved_t3a_1, u_moved_t3a_0, u_moved_t_3, u_moved_t2a_0, u_moved_t_2, u_moved_t1a_0, u_moved_t_1, u_moved, wSs_nil, th_nx]); (try simp only [evsx, cut_m1]); (try simp only [u_moved_t_4, u_moved_t3a_1, u_moved_t3a_0, u_moved_t_3, u_moved_t2a_0, u_moved_t_2, u_moved_t1a_0, u_moved_t_1, u_moved, wSs_nil, th_nx]); (try simp only [evsx, cut_m1]); (try simp only [u_moved_t_4, u_moved_t3a_1, u_moved_t3a_0, u_moved_t_3, u_moved_t2a_0, u_moved_t_2, u_moved_t1a_0, u_moved_t_1, u_moved, wSs_nil, th_nx]); (try simp only [evsx, cut_m1])
      (try simp only [u_moved_t_4, u_moved_t3a_1, u_moved_t3a_0, u_moved_t_3, u_moved_t2a_0, u_moved_t_2, u_moved_t1a_0, u_moved_t_1, u_moved, wSs_nil, th_nx]); (try simp only [evsx, cut_m1])
      exact ⟨z2, h⟩
end T

set_option maxRecDepth 100000
set_option maxHeartbeats 4000000
set_option exponentiation.threshold 5000
namespace T
open PySem L2 EV
local macro_rules
  | `(tactic| simp only [ev2x, $ls,*]) => `(tactic| simp only [wE_var, wE_cst, wE_glb, wE_prim, wE_tup, wE_lst, wE_ife, wE_and2, wE_or2, wE_not1, wE_chain, wE_chain3, wE_call, wE_callK, wE_methK, wE_makeK, wE_fld, wE_meth, wE_make, wE_slc, wE_lc, wE_tm, wE_isC, wE_makeS, wE_makeV, wE_cmeth, wA_nil, wA_cons, wA_star, wO_no, wO_so, wT_tt, wT_and2, wT_or2, wT_not1, wT_val, wG_nm, wG_sub, wG_fld, wG_tp, wI_seq, wI_range1, wI_range2, wI_range3, wI_enum, wI_zip, wI_str, wS_asg, wS_setF, wS_par2, wS_par3, wS_aug, wS_app, wS_ext, wS_ins, wS_pop, wS_expr, wS_ife, wS_for, wS_while, wS_ret, wS_retN, wS_brk, wS_cnt, wS_pass, wS_never, lcB_nil, lcB_cons, lcF_e, th_rt, th_bk, th_ct, wGs_nil, wGs_cons, lk_nx, lk_ct, lk_bk, lk_rt, rhoI, rhoA, nos, nref, List.length_cons, List.length_nil, Nat.reduceAdd, Nat.reduceSub, Nat.sub_self, List.cons_append, List.nil_append, Nat.zero_add, ep0, ep1, ep2, ep3, ep4, ep5, ep6, ep7, ep8, ep9, ep10, ep11, ep12, ep13, ep14, ep15, ep16, ep17, ep18, ep19, ep20, ep21, ep22, ep23, ep24, ep25, ep26, ep27, ep28, ep29, ep30, ep31, ep32, ep33, ep34, ep35, ep36, ep37, ep38, ep39, ep40, ep41, ep42, ep43, ep44, ep45, ep46, ep47, ep48, ep49, ep50, ep51, ep52, ep53, ep54, ep55, ep56, es_lst, es_scr, es_tup, es_str, of_it, of_nw, sd_val, sd_own, ct_val, ct_tmp, ct_loc, cs_nil, cs_val, cs_tmp, cs_loc, cp_val, cp_tmp, cp_loc, g0, gs, bd_tmp, bd_val, bd_loc, st0, sts, ex_some, ob_map, ob_bind, br_t, br_f, br_not, fw_nx, fw_val, fw_tmp, fw_loc, rs_t, rs_f, oo_0, isa_obj, k_isNon_non, k_isNon_bl, k_isNon_int, k_isNon_str, k_isNon_tup, k_isNon_lst, k_isNon_obj, k_isIntD_non, k_isIntD_bl, k_isIntD_int, k_isIntD_str, k_isIntD_tup, k_isIntD_lst, k_isBlD_non, k_isBlD_bl, k_isBlD_int, k_isBlD_str, k_isBlD_tup, k_isBlD_lst, k_isTupD_non, k_isTupD_bl, k_isTupD_int, k_isTupD_str, k_isTupD_tup, k_isTupD_lst, k_isStrD_non, k_isStrD_bl, k_isStrD_int, k_isStrD_str, k_isStrD_tup, k_isStrD_lst, iso_obj, mk_outs, passL, refsOk, putOuts, capL, true_and, and_true, List.map_cons, List.map_nil, exists_eq_left, Option.some.injEq, flat, exists_const, exists_eq, exists_eq', exists_eq_left', and_self, DV.bl.injEq, DV.int.injEq, DV.str.injEq, DV.tup.injEq, DV.lst.injEq, cm_int, cm_bl, cm_non, cm_str, dq_int, dq_str, dq_bl, dq_nn, dq_in, dq_ni, exists_and_left, DV.obj.injEq, putN, putD, List.not_mem_nil, not_false_eq_true, or_false, false_or, exists_false, false_and, and_false, if_true, if_false, EV.Res.loc.injEq, EV.Slot.own.injEq, EV.Slot.val.injEq, and_assoc, r1_loc, r1_val, r1_tmp, b1_tmp, b1_val, n_0, n_1, n_2, n_3, n_4, n_5, n_6, n_7, Int.reduceBEq, Int.reduceBNe, Int.reduceLT, Int.reduceLE, Int.reduceEq, Int.reduceNeg, decide_true, decide_false, beq_self_eq_true, Bool.not_true, Bool.not_false, PR.it.injEq, PR.nw.injEq, reduceCtorEq, ne_eq, not_false_eq_true, implies_true, lc_nil, lc_cons, at_0, at_1, at_2, at_3, Option.toList_some, Option.toList_none, List.any_cons, List.any_nil, List.all_cons, List.all_nil, Bool.or_false, Bool.and_true, Bool.true_or, Bool.or_true, Bool.false_or, Bool.and_false, Bool.false_and, Bool.true_and, Bool.and_self, Bool.or_self, boolsD, tr_bl, tr_int, tr_non, tr_tup, tr_lst, bk_lst, bk_tup, sk_lst, sk_tup, sk_scr, sk_str, so_scr, lo_lst, to_tup, el_lst, et_tup, sy_val, sy_tmp, sy_loc, seqOf, itemsOf, Option.bind_some, tgN, wipeR, backR, Option.getD_some, plainSlots, List.mem_singleton, forall_eq, $ls,*])
  | `(tactic| simp only [ev2x]) => `(tactic| simp only [wE_var, wE_cst, wE_glb, wE_prim, wE_tup, wE_lst, wE_ife, wE_and2, wE_or2, wE_not1, wE_chain, wE_chain3, wE_call, wE_callK, wE_methK, wE_makeK, wE_fld, wE_meth, wE_make, wE_slc, wE_lc, wE_tm, wE_isC, wE_makeS, wE_makeV, wE_cmeth, wA_nil, wA_cons, wA_star, wO_no, wO_so, wT_tt, wT_and2, wT_or2, wT_not1, wT_val, wG_nm, wG_sub, wG_fld, wG_tp, wI_seq, wI_range1, wI_range2, wI_range3, wI_enum, wI_zip, wI_str, wS_asg, wS_setF, wS_par2, wS_par3, wS_aug, wS_app, wS_ext, wS_ins, wS_pop, wS_expr, wS_ife, wS_for, wS_while, wS_ret, wS_retN, wS_brk, wS_cnt, wS_pass, wS_never, lcB_nil, lcB_cons, lcF_e, th_rt, th_bk, th_ct, wGs_nil, wGs_cons, lk_nx, lk_ct, lk_bk, lk_rt, rhoI, rhoA, nos, nref, List.length_cons, List.length_nil, Nat.reduceAdd, Nat.reduceSub, Nat.sub_self, List.cons_append, List.nil_append, Nat.zero_add, ep0, ep1, ep2, ep3, ep4, ep5, ep6, ep7, ep8, ep9, ep10, ep11, ep12, ep13, ep14, ep15, ep16, ep17, ep18, ep19, ep20, ep21, ep22, ep23, ep24, ep25, ep26, ep27, ep28, ep29, ep30, ep31, ep32, ep33, ep34, ep35, ep36, ep37, ep38, ep39, ep40, ep41, ep42, ep43, ep44, ep45, ep46, ep47, ep48, ep49, ep50, ep51, ep52, ep53, ep54, ep55, ep56, es_lst, es_scr, es_tup, es_str, of_it, of_nw, sd_val, sd_own, ct_val, ct_tmp, ct_loc, cs_nil, cs_val, cs_tmp, cs_loc, cp_val, cp_tmp, cp_loc, g0, gs, bd_tmp, bd_val, bd_loc, st0, sts, ex_some, ob_map, ob_bind, br_t, br_f, br_not, fw_nx, fw_val, fw_tmp, fw_loc, rs_t, rs_f, oo_0, isa_obj, k_isNon_non, k_isNon_bl, k_isNon_int, k_isNon_str, k_isNon_tup, k_isNon_lst, k_isNon_obj, k_isIntD_non, k_isIntD_bl, k_isIntD_int, k_isIntD_str, k_isIntD_tup, k_isIntD_lst, k_isBlD_non, k_isBlD_bl, k_isBlD_int, k_isBlD_str, k_isBlD_tup, k_isBlD_lst, k_isTupD_non, k_isTupD_bl, k_isTupD_int, k_isTupD_str, k_isTupD_tup, k_isTupD_lst, k_isStrD_non, k_isStrD_bl, k_isStrD_int, k_isStrD_str, k_isStrD_tup, k_isStrD_lst, iso_obj, mk_outs, passL, refsOk, putOuts, capL, true_and, and_true, List.map_cons, List.map_nil, exists_eq_left, Option.some.injEq, flat, exists_const, exists_eq, exists_eq', exists_eq_left', and_self, DV.bl.injEq, DV.int.injEq, DV.str.injEq, DV.tup.injEq, DV.lst.injEq, cm_int, cm_bl, cm_non, cm_str, dq_int, dq_str, dq_bl, dq_nn, dq_in, dq_ni, exists_and_left, DV.obj.injEq, putN, putD, List.not_mem_nil, not_false_eq_true, or_false, false_or, exists_false, false_and, and_false, if_true, if_false, EV.Res.loc.injEq, EV.Slot.own.injEq, EV.Slot.val.injEq, and_assoc, r1_loc, r1_val, r1_tmp, b1_tmp, b1_val, n_0, n_1, n_2, n_3, n_4, n_5, n_6, n_7, Int.reduceBEq, Int.reduceBNe, Int.reduceLT, Int.reduceLE, Int.reduceEq, Int.reduceNeg, decide_true, decide_false, beq_self_eq_true, Bool.not_true, Bool.not_false, PR.it.injEq, PR.nw.injEq, reduceCtorEq, ne_eq, not_false_eq_true, implies_true, lc_nil, lc_cons, at_0, at_1, at_2, at_3, Option.toList_some, Option.toList_none, List.any_cons, List.any_nil, List.all_cons, List.all_nil, Bool.or_false, Bool.and_true, Bool.true_or, Bool.or_true, Bool.false_or, Bool.and_false, Bool.false_and, Bool.true_and, Bool.and_self, Bool.or_self, boolsD, tr_bl, tr_int, tr_non, tr_tup, tr_lst, bk_lst, bk_tup, sk_lst, sk_tup, sk_scr, sk_str, so_scr, lo_lst, to_tup, el_lst, et_tup, sy_val, sy_tmp, sy_loc, seqOf, itemsOf, Option.bind_some, tgN, wipeR, backR, Option.getD_some, plainSlots, List.mem_singleton, forall_eq])
  | `(tactic| simp only [evix, $ls,*]) => `(tactic| simp only [rhoI, rhoA, nos, nref, List.length_cons, List.length_nil, Nat.reduceAdd, Nat.reduceSub, Nat.sub_self, List.cons_append, List.nil_append, Nat.zero_add, $ls,*])
  | `(tactic| simp only [evix]) => `(tactic| simp only [rhoI, rhoA, nos, nref, List.length_cons, List.length_nil, Nat.reduceAdd, Nat.reduceSub, Nat.sub_self, List.cons_append, List.nil_append, Nat.zero_add])
local macro_rules
  | `(tactic| simp only [evsx, $ls,*]) => `(tactic| simp only [ev2x, sk_l, q_ll, q_lr, q_ls, q_lt, q_ln, q_lc, q_lo, q_lh, q_lf, q_le, sk_r, q_rl, q_rr, q_rs, q_rt, q_rn, q_rc, q_ro, q_rh, q_rf, q_re, sk_s, q_sl, q_sr, q_ss, q_st, q_sn, q_sc, q_so, q_sh, q_sf, q_se, sk_t, q_tl, q_tr, q_ts, q_tt, q_tn, q_tc, q_to, q_th, q_tf, q_te, sk_n, q_nl, q_nr, q_ns, q_nt, q_nn, q_nc, q_no, q_nh, q_nf, q_ne, sk_c, q_cl, q_cr, q_cs, q_ct, q_cn, q_cc, q_co, q_ch, q_cf, q_ce, sk_o, q_ol, q_or, q_os, q_ot, q_on, q_oc, q_oo, q_oh, q_of, q_oe, sk_h, q_hl, q_hr, q_hs, q_ht, q_hn, q_hc, q_ho, q_hh, q_hf, q_he, sk_f, q_fl, q_fr, q_fs, q_ft, q_fn, q_fc, q_fo, q_fh, q_ff, q_fe, sk_e, q_el, q_er, q_es, q_et, q_en, q_ec, q_eo, q_eh, q_ef, q_ee, $ls,*])
  | `(tactic| simp only [evsx]) => `(tactic| simp only [ev2x, sk_l, q_ll, q_lr, q_ls, q_lt, q_ln, q_lc, q_lo, q_lh, q_lf, q_le, sk_r, q_rl, q_rr, q_rs, q_rt, q_rn, q_rc, q_ro, q_rh, q_rf, q_re, sk_s, q_sl, q_sr, q_ss, q_st, q_sn, q_sc, q_so, q_sh, q_sf, q_se, sk_t, q_tl, q_tr, q_ts, q_tt, q_tn, q_tc, q_to, q_th, q_tf, q_te, sk_n, q_nl, q_nr, q_ns, q_nt, q_nn, q_nc, q_no, q_nh, q_nf, q_ne, sk_c, q_cl, q_cr, q_cs, q_ct, q_cn, q_cc, q_co, q_ch, q_cf, q_ce, sk_o, q_ol, q_or, q_os, q_ot, q_on, q_oc, q_oo, q_oh, q_of, q_oe, sk_h, q_hl, q_hr, q_hs, q_ht, q_hn, q_hc, q_ho, q_hh, q_hf, q_he, sk_f, q_fl, q_fr, q_fs, q_ft, q_fn, q_fc, q_fo, q_fh, q_ff, q_fe, sk_e, q_el, q_er, q_es, q_et, q_en, q_ec, q_eo, q_eh, q_ef, q_ee])
/-! ### scripts led -/
def fi_check_script : FI := ⟨[false], fun ds k => ∃ n f e ms, ds = [scD n f e ms] ∧ k false .non []⟩
theorem sp_check_script (ds : List DV) (k : Bool → DV → List DV → Prop) : fi_check_script.spec ds k = (∃ n f e ms, ds = [scD n f e ms] ∧ k false .non []) := rfl
theorem md_check_script : fi_check_script.modes = [false] := rfl
theorem v_check_script (G : Genv) (h1 : G.isc "Script" = true) : ∀ ds k, ds.length = fi_check_script.modes.length → fi_check_script.spec ds k → wpSs G b_check_script (rhoI 1 fi_check_script.modes ds) (finW (nref fi_check_script.modes) k) := by
  intro ds k hl h
  rw [sp_check_script] at h
  obtain ⟨n, f, e, ms, rfl, h⟩ := h
  simp only [evix, md_check_script, scD]
  (try simp only [u_check_script_t0a_0, u_check_script, wSs_nil, th_nx]); (try simp only [evsx, h1])
  (try simp only [u_check_script_t0a_0, u_check_script, wSs_nil, th_nx]); (try simp only [evsx])
  exact h
def known (ms : List Mv) : Prop := ∀ m ∈ ms, isSm m = false
def fi_check_known : FI := ⟨[false], fun ds k => ∃ n f e ms, ds = [scD n f e ms] ∧ known ms ∧ k false .non []⟩
theorem sp_check_known (ds : List DV) (k : Bool → DV → List DV → Prop) : fi_check_known.spec ds k = (∃ n f e ms, ds = [scD n f e ms] ∧ known ms ∧ k false .non []) := rfl
theorem md_check_known : fi_check_known.modes = [false] := rfl
theorem v_check_known (G : Genv) (hf : G.isFld "Script" "steps" = true) (hp : G.prop "Script" "steps" = none) : ∀ ds k, ds.length = fi_check_known.modes.length → fi_check_known.spec ds k → wpSs G b_check_known (rhoI 3 fi_check_known.modes ds) (finW (nref fi_check_known.modes) k) := by
  intro ds k hl h
  rw [sp_check_known] at h
  obtain ⟨n, f, e, ms, rfl, hk, h⟩ := h
  simp only [evix, md_check_known]
  have hs : ∃ d, d = scD n f e ms := ⟨_, rfl⟩
  obtain ⟨sd, hsd⟩ := hs
  simp only [scD] at hsd ⊢
  (try simp only [u_check_known_t0b0a_0, u_check_known_t0b_0, u_check_known, wSs_nil, th_nx]); (try simp only [evsx, hf, hp, lk_s])
  refine forB_inv (I := fun i ρ => ∃ s t, ρ = [.val (scD n f e ms), s, t]) ⟨_, _, rfl⟩ ?_ ?_
  · rintro i d ρ K hd ⟨s, t, rfl⟩ hK
    obtain ⟨d', hd', rfl⟩ := pe_of hd
    obtain ⟨m, hm, rfl⟩ := m_of hd'
    have e1 := hk m (List.mem_of_getElem? hm)
    rw [forF_e]
    simp only [evsx]
    cases m with
    | sm p => cases e1
    | _ =>
      simp only [mvD]
      (try simp only [u_check_known_t0b0a_0, u_check_known_t0b_0, u_check_known, wSs_nil, th_nx]); (try simp only [evsx])
      exact hK _ ⟨_, _, rfl⟩
  · rintro ρ ⟨s, t, rfl⟩
    (try simp only [u_check_known_t0b0a_0, u_check_known_t0b_0, u_check_known, wSs_nil, th_nx]); (try simp only [evsx])
    exact h
/-- the moves can be done with so many rings -/
def doable : List Mv → Int → Prop
  | [], _ => True
  | m :: ms, c => askOf m ≤ c ∧ doable ms (c + moreOf m)
def chg (ms : List Mv) : Int := (ms.map moreOf).sum
theorem chg_cons (m : Mv) (ms : List Mv) : chg (m :: ms) = moreOf m + chg ms := by simp [chg]
theorem chg_take {ms : List Mv} {i : Nat} {m : Mv} (h : ms[i]? = some m) : chg (ms.take (i + 1)) = chg (ms.take i) + moreOf m := by
  rw [List.take_add_one, h]
  simp [chg]
theorem doable_at : ∀ {ms : List Mv} {c : Int} {i : Nat} {m : Mv}, doable ms c → ms[i]? = some m → askOf m ≤ c + chg (ms.take i)
  | [], _, _, _, _, h => by simp at h
  | m :: ms, c, 0, m', d, h => by
    simp at h; subst h
    have := d.1
    simp [chg]
    exact this
  | m :: ms, c, i + 1, m', d, h => by
    have := doable_at (i := i) d.2 (by simpa using h)
    rw [List.take_succ_cons, chg_cons]
    omega
def fi_first_too_few : FI := ⟨[false, false], fun ds k => ∃ n f e ms c, ds = [scD n f e ms, .int c] ∧ doable ms c ∧ k false .non []⟩
theorem sp_first_too_few (ds : List DV) (k : Bool → DV → List DV → Prop) : fi_first_too_few.spec ds k = (∃ n f e ms c, ds = [scD n f e ms, .int c] ∧ doable ms c ∧ k false .non []) := rfl
theorem md_first_too_few : fi_first_too_few.modes = [false, false] := rfl
theorem v_first_too_few (G : Genv) (h1 : G.fns "asked_by" = some fi_asked_by) (h2 : G.fns "more_by" = some fi_more_by) (hf : G.isFld "Script" "steps" = true) (hp : G.prop "Script" "steps" = none) : ∀ ds k, ds.length = fi_first_too_few.modes.length → fi_first_too_few.spec ds k → wpSs G b_first_too_few (rhoI 4 fi_first_too_few.modes ds) (finW (nref fi_first_too_few.modes) k) := by
  intro ds k hl h
  rw [sp_first_too_few] at h
  obtain ⟨n, f, e, ms, c, rfl, hd0, h⟩ := h
  simp only [evix, md_first_too_few, scD]
  (try simp only [u_first_too_few_t_1, u_first_too_few_t0b_1, u_first_too_few_t0b0a_0, u_first_too_few_t0b_0, u_first_too_few, wSs_nil, th_nx]); (try simp only [evsx, hf, hp, lk_s])
  refine forB_inv (I := fun i ρ => ∃ s t, ρ = [.val (scD n f e ms), .val (.int (c + chg (ms.take i))), s, t]) ⟨_, _, by rw [show chg (ms.take 0) = 0 from rfl, Int.add_zero]; rfl⟩ ?_ ?_
  · rintro i d ρ K hd ⟨s, t, rfl⟩ hK
    obtain ⟨d', hd', rfl⟩ := pe_of hd
    obtain ⟨m, hm, rfl⟩ := m_of hd'
    have e1 : decide (c + chg (ms.take i) < askOf m) = false := decide_eq_false (by have := doable_at hd0 hm; omega)
    rw [forF_e]
    simp only [evsx]
    (try simp only [u_first_too_few_t_1, u_first_too_few_t0b_1, u_first_too_few_t0b0a_0, u_first_too_few_t0b_0, u_first_too_few, wSs_nil, th_nx]); (try simp only [evsx, h1])
    rw [cw_e, md_asked_by]
    (try simp only [evsx, e1])
    refine ⟨m, rfl, ?_⟩
    (try simp only [evsx, e1])
    (try simp only [u_first_too_few_t_1, u_first_too_few_t0b_1, u_first_too_few_t0b0a_0, u_first_too_few_t0b_0, u_first_too_few, wSs_nil, th_nx]); (try simp only [evsx, h2])
    rw [cw_e, md_more_by]
    (try simp only [evsx])
    refine ⟨m, rfl, ?_⟩
    (try simp only [evsx])
    exact hK _ ⟨_, _, by rw [chg_take hm, Int.add_assoc]⟩
  · rintro ρ ⟨s, t, rfl⟩
    (try simp only [u_first_too_few_t_1, u_first_too_few_t0b_1, u_first_too_few_t0b0a_0, u_first_too_few_t0b_0, u_first_too_few, wSs_nil, th_nx]); (try simp only [evsx])
    exact h
def ledL (n f : Int) (st : Option Int × List Int) (ms : List Mv) : Option Int × List Int := ms.foldl (mvStep n f) st
theorem led_len {n f : Int} : ∀ {ms : List Mv} {st : Option Int × List Int}, doable ms st.2.length → ((ledL n f st ms).2.length : Int) = st.2.length + chg ms
  | [], st, _ => by simp [ledL, chg]
  | m :: ms, st, d => by
    have e := mvStep_len (n := n) (f := f) d.1
    have := led_len (n := n) (f := f) (ms := ms) (st := mvStep n f st m) (by rw [e]; exact d.2)
    show ((ledL n f (mvStep n f st m) ms).2.length : Int) = _
    rw [this, e, chg_cons]; omega
theorem led_le {n f : Int} : ∀ {ms : List Mv} {st : Option Int × List Int}, (ledL n f st ms).2.length ≤ st.2.length + ms.length
  | [], st => by simp [ledL]
  | m :: ms, st => by
    have := led_le (n := n) (f := f) (ms := ms) (st := mvStep n f st m)
    have e := mvStep_le (n := n) (f := f) (st := st) (m := m)
    show (ledL n f (mvStep n f st m) ms).2.length ≤ _
    rw [List.length_cons]; omega
theorem okCl_NF {n f : Int} {e : Option Int} (h : okCl n f e) : okNF n f := ⟨h.1, by have := h.2.1; omega, by have := h.2.2.1; omega⟩
def fi_led : FI := ⟨[false, false], fun ds k => ∃ n f e ms ps, ds = [scD n f e ms, .tup (iL ps)] ∧ okCl n f e ∧ ms.length ≤ 20 ∧ known ms ∧ okSt n f e ps ∧ ps ≠ [] ∧ ps.length ≤ 500 ∧ doable ms ps.length ∧ k false (.tup (iL (ledL n f (e, ps) ms).2)) []⟩
theorem sp_led (ds : List DV) (k : Bool → DV → List DV → Prop) : fi_led.spec ds k = (∃ n f e ms ps, ds = [scD n f e ms, .tup (iL ps)] ∧ okCl n f e ∧ ms.length ≤ 20 ∧ known ms ∧ okSt n f e ps ∧ ps ≠ [] ∧ ps.length ≤ 500 ∧ doable ms ps.length ∧ k false (.tup (iL (ledL n f (e, ps) ms).2)) []) := rfl
theorem md_led : fi_led.modes = [false, false] := rfl
theorem v_led (G : Genv) (h1 : G.fns "check_script" = some fi_check_script) (h2 : G.fns "check_known" = some fi_check_known) (h3 : G.fns "check_standing" = some fi_check_standing) (h4 : G.fns "first_too_few" = some fi_first_too_few) (h5 : G.fns "moved" = some fi_moved) (h6 : G.prop "Script" "cloth" = some fi_scloth) (f6 : G.isFld "Script" "cloth" = false) (hf : G.isFld "Script" "steps" = true) (hp : G.prop "Script" "steps" = none) :
    ∀ ds k, ds.length = fi_led.modes.length → fi_led.spec ds k → wpSs G b_led (rhoI 5 fi_led.modes ds) (finW (nref fi_led.modes) k) := by
  intro ds k hl h
  rw [sp_led] at h
  obtain ⟨n, f, e, ms, ps, rfl, o, hms, hkn, hst, hp0, hps, hdo, h⟩ := h
  simp only [evix, md_led]
  (try simp only [u_led_t_7, u_led_t6b_0, u_led_t_6, u_led_t_5, u_led_t4a_0, u_led_t_4, u_led_t_3, u_led_t_2, u_led_t_1, u_led, wSs_nil, th_nx]); (try simp only [evsx, h1])
  rw [cw_e, md_check_script]
  (try simp only [evsx])
  refine ⟨n, f, e, ms, rfl, ?_⟩
  (try simp only [evsx])
  (try simp only [u_led_t_7, u_led_t6b_0, u_led_t_6, u_led_t_5, u_led_t4a_0, u_led_t_4, u_led_t_3, u_led_t_2, u_led_t_1, u_led, wSs_nil, th_nx]); (try simp only [evsx, h2])
  rw [cw_e, md_check_known]
  (try simp only [evsx])
  refine ⟨n, f, e, ms, rfl, hkn, ?_⟩
  (try simp only [evsx])
  (try simp only [u_led_t_7, u_led_t6b_0, u_led_t_6, u_led_t_5, u_led_t4a_0, u_led_t_4, u_led_t_3, u_led_t_2, u_led_t_1, u_led, wSs_nil, th_nx]); (try simp only [evsx, h3, scD, h6, f6])
  rw [cw_e, md_scloth]
  (try simp only [evsx])
  refine ⟨n, f, e, ms, rfl, ?_⟩
  (try simp only [evsx])
  rw [cw_e, md_check_standing]
  (try simp only [evsx])
  refine ⟨n, f, e, ps, rfl, hst, hp0, ?_⟩
  (try simp only [evsx])
  (try simp only [u_led_t_7, u_led_t6b_0, u_led_t_6, u_led_t_5, u_led_t4a_0, u_led_t_4, u_led_t_3, u_led_t_2, u_led_t_1, u_led, wSs_nil, th_nx]); (try simp only [evsx, h4, in_len])
  rw [cw_e, md_first_too_few]
  (try simp only [evsx])
  refine ⟨n, f, e, ms, ps.length, rfl, hdo, ?_⟩
  (try simp only [evsx])
  (try simp only [u_led_t_7, u_led_t6b_0, u_led_t_6, u_led_t_5, u_led_t4a_0, u_led_t_4, u_led_t_3, u_led_t_2, u_led_t_1, u_led, wSs_nil, th_nx]); (try simp only [evsx])
  (try simp only [u_led_t_7, u_led_t6b_0, u_led_t_6, u_led_t_5, u_led_t4a_0, u_led_t_4, u_led_t_3, u_led_t_2, u_led_t_1, u_led, wSs_nil, th_nx]); (try simp only [evsx, h6, f6])
  rw [cw_e, md_scloth]
  (try simp only [evsx])
  refine ⟨n, f, e, ms, rfl, ?_⟩
  (try simp only [evsx])
  (try simp only [u_led_t_7, u_led_t6b_0, u_led_t_6, u_led_t_5, u_led_t4a_0, u_led_t_4, u_led_t_3, u_led_t_2, u_led_t_1, u_led, wSs_nil, th_nx]); (try simp only [evsx, hf, hp, lk_s])
  refine forB_inv (I := fun i ρ => ∃ s2 s4, ρ = [.val (scD n f e ms), .val (.tup (iL (ledL n f (e, ps) (ms.take i)).2)), s2, .val (clD n f (ledL n f (e, ps) (ms.take i)).1), s4]) ⟨_, _, rfl⟩ ?_ ?_
  · rintro i d ρ K hd ⟨s2, s4, rfl⟩ hK
    obtain ⟨m, hm, rfl⟩ := m_of hd
    have hl : (ledL n f (e, ps) (ms.take i)).2.length ≤ 900 := by
      have := led_le (n := n) (f := f) (ms := ms.take i) (st := (e, ps))
      rw [List.length_take] at this
      have hi := (List.getElem?_eq_some_iff.mp hm).1
      have : ((e, ps) : Option Int × List Int).2.length = ps.length := rfl
      omega
    rw [forF_e]
    simp only [evsx]
    (try simp only [u_led_t_7, u_led_t6b_0, u_led_t_6, u_led_t_5, u_led_t4a_0, u_led_t_4, u_led_t_3, u_led_t_2, u_led_t_1, u_led, wSs_nil, th_nx]); (try simp only [evsx, h5])
    rw [cw_e, md_moved]
    (try simp only [evsx])
    refine ⟨n, f, _, _, m, rfl, hkn m (List.mem_of_getElem? hm), okCl_NF o, hl, ?_⟩
    (try simp only [evsx])
    trace_state
    exact hK _ ⟨_, _, by unfold ledL; rw [fold_take _ _ hm]⟩
  · rintro ρ ⟨s2, s4, rfl⟩
    (try simp only [u_led_t_7, u_led_t6b_0, u_led_t_6, u_led_t_5, u_led_t4a_0, u_led_t_4, u_led_t_3, u_led_t_2, u_led_t_1, u_led, wSs_nil, th_nx]); (try simp only [evsx])
    rw [m_len, List.take_length]
    exact h
end T

set_option maxRecDepth 100000
set_option maxHeartbeats 4000000
set_option exponentiation.threshold 5000
namespace T
open PySem L2 EV
local macro_rules
  | `(tactic| simp only [ev2x, $ls,*]) => `(tactic| simp only [wE_var, wE_cst, wE_glb, wE_prim, wE_tup, wE_lst, wE_ife, wE_and2, wE_or2, wE_not1, wE_chain, wE_chain3, wE_call, wE_callK, wE_methK, wE_makeK, wE_fld, wE_meth, wE_make, wE_slc, wE_lc, wE_tm, wE_isC, wE_makeS, wE_makeV, wE_cmeth, wA_nil, wA_cons, wA_star, wO_no, wO_so, wT_tt, wT_and2, wT_or2, wT_not1, wT_val, wG_nm, wG_sub, wG_fld, wG_tp, wI_seq, wI_range1, wI_range2, wI_range3, wI_enum, wI_zip, wI_str, wS_asg, wS_setF, wS_par2, wS_par3, wS_aug, wS_app, wS_ext, wS_ins, wS_pop, wS_expr, wS_ife, wS_for, wS_while, wS_ret, wS_retN, wS_brk, wS_cnt, wS_pass, wS_never, lcB_nil, lcB_cons, lcF_e, th_rt, th_bk, th_ct, wGs_nil, wGs_cons, lk_nx, lk_ct, lk_bk, lk_rt, rhoI, rhoA, nos, nref, List.length_cons, List.length_nil, Nat.reduceAdd, Nat.reduceSub, Nat.sub_self, List.cons_append, List.nil_append, Nat.zero_add, ep0, ep1, ep2, ep3, ep4, ep5, ep6, ep7, ep8, ep9, ep10, ep11, ep12, ep13, ep14, ep15, ep16, ep17, ep18, ep19, ep20, ep21, ep22, ep23, ep24, ep25, ep26, ep27, ep28, ep29, ep30, ep31, ep32, ep33, ep34, ep35, ep36, ep37, ep38, ep39, ep40, ep41, ep42, ep43, ep44, ep45, ep46, ep47, ep48, ep49, ep50, ep51, ep52, ep53, ep54, ep55, ep56, es_lst, es_scr, es_tup, es_str, of_it, of_nw, sd_val, sd_own, ct_val, ct_tmp, ct_loc, cs_nil, cs_val, cs_tmp, cs_loc, cp_val, cp_tmp, cp_loc, g0, gs, bd_tmp, bd_val, bd_loc, st0, sts, ex_some, ob_map, ob_bind, br_t, br_f, br_not, fw_nx, fw_val, fw_tmp, fw_loc, rs_t, rs_f, oo_0, isa_obj, k_isNon_non, k_isNon_bl, k_isNon_int, k_isNon_str, k_isNon_tup, k_isNon_lst, k_isNon_obj, k_isIntD_non, k_isIntD_bl, k_isIntD_int, k_isIntD_str, k_isIntD_tup, k_isIntD_lst, k_isBlD_non, k_isBlD_bl, k_isBlD_int, k_isBlD_str, k_isBlD_tup, k_isBlD_lst, k_isTupD_non, k_isTupD_bl, k_isTupD_int, k_isTupD_str, k_isTupD_tup, k_isTupD_lst, k_isStrD_non, k_isStrD_bl, k_isStrD_int, k_isStrD_str, k_isStrD_tup, k_isStrD_lst, iso_obj, mk_outs, passL, refsOk, putOuts, capL, true_and, and_true, List.map_cons, List.map_nil, exists_eq_left, Option.some.injEq, flat, exists_const, exists_eq, exists_eq', exists_eq_left', and_self, DV.bl.injEq, DV.int.injEq, DV.str.injEq, DV.tup.injEq, DV.lst.injEq, cm_int, cm_bl, cm_non, cm_str, dq_int, dq_str, dq_bl, dq_nn, dq_in, dq_ni, exists_and_left, DV.obj.injEq, putN, putD, List.not_mem_nil, not_false_eq_true, or_false, false_or, exists_false, false_and, and_false, if_true, if_false, EV.Res.loc.injEq, EV.Slot.own.injEq, EV.Slot.val.injEq, and_assoc, r1_loc, r1_val, r1_tmp, b1_tmp, b1_val, n_0, n_1, n_2, n_3, n_4, n_5, n_6, n_7, Int.reduceBEq, Int.reduceBNe, Int.reduceLT, Int.reduceLE, Int.reduceEq, Int.reduceNeg, decide_true, decide_false, beq_self_eq_true, Bool.not_true, Bool.not_false, PR.it.injEq, PR.nw.injEq, reduceCtorEq, ne_eq, not_false_eq_true, implies_true, lc_nil, lc_cons, at_0, at_1, at_2, at_3, Option.toList_some, Option.toList_none, List.any_cons, List.any_nil, List.all_cons, List.all_nil, Bool.or_false, Bool.and_true, Bool.true_or, Bool.or_true, Bool.false_or, Bool.and_false, Bool.false_and, Bool.true_and, Bool.and_self, Bool.or_self, boolsD, tr_bl, tr_int, tr_non, tr_tup, tr_lst, bk_lst, bk_tup, sk_lst, sk_tup, sk_scr, sk_str, so_scr, lo_lst, to_tup, el_lst, et_tup, sy_val, sy_tmp, sy_loc, seqOf, itemsOf, Option.bind_some, tgN, wipeR, backR, Option.getD_some, plainSlots, List.mem_singleton, forall_eq, $ls,*])
  | `(tactic| simp only [ev2x]) => `(tactic| simp only [wE_var, wE_cst, wE_glb, wE_prim, wE_tup, wE_lst, wE_ife, wE_and2, wE_or2, wE_not1, wE_chain, wE_chain3, wE_call, wE_callK, wE_methK, wE_makeK, wE_fld, wE_meth, wE_make, wE_slc, wE_lc, wE_tm, wE_isC, wE_makeS, wE_makeV, wE_cmeth, wA_nil, wA_cons, wA_star, wO_no, wO_so, wT_tt, wT_and2, wT_or2, wT_not1, wT_val, wG_nm, wG_sub, wG_fld, wG_tp, wI_seq, wI_range1, wI_range2, wI_range3, wI_enum, wI_zip, wI_str, wS_asg, wS_setF, wS_par2, wS_par3, wS_aug, wS_app, wS_ext, wS_ins, wS_pop, wS_expr, wS_ife, wS_for, wS_while, wS_ret, wS_retN, wS_brk, wS_cnt, wS_pass, wS_never, lcB_nil, lcB_cons, lcF_e, th_rt, th_bk, th_ct, wGs_nil, wGs_cons, lk_nx, lk_ct, lk_bk, lk_rt, rhoI, rhoA, nos, nref, List.length_cons, List.length_nil, Nat.reduceAdd, Nat.reduceSub, Nat.sub_self, List.cons_append, List.nil_append, Nat.zero_add, ep0, ep1, ep2, ep3, ep4, ep5, ep6, ep7, ep8, ep9, ep10, ep11, ep12, ep13, ep14, ep15, ep16, ep17, ep18, ep19, ep20, ep21, ep22, ep23, ep24, ep25, ep26, ep27, ep28, ep29, ep30, ep31, ep32, ep33, ep34, ep35, ep36, ep37, ep38, ep39, ep40, ep41, ep42, ep43, ep44, ep45, ep46, ep47, ep48, ep49, ep50, ep51, ep52, ep53, ep54, ep55, ep56, es_lst, es_scr, es_tup, es_str, of_it, of_nw, sd_val, sd_own, ct_val, ct_tmp, ct_loc, cs_nil, cs_val, cs_tmp, cs_loc, cp_val, cp_tmp, cp_loc, g0, gs, bd_tmp, bd_val, bd_loc, st0, sts, ex_some, ob_map, ob_bind, br_t, br_f, br_not, fw_nx, fw_val, fw_tmp, fw_loc, rs_t, rs_f, oo_0, isa_obj, k_isNon_non, k_isNon_bl, k_isNon_int, k_isNon_str, k_isNon_tup, k_isNon_lst, k_isNon_obj, k_isIntD_non, k_isIntD_bl, k_isIntD_int, k_isIntD_str, k_isIntD_tup, k_isIntD_lst, k_isBlD_non, k_isBlD_bl, k_isBlD_int, k_isBlD_str, k_isBlD_tup, k_isBlD_lst, k_isTupD_non, k_isTupD_bl, k_isTupD_int, k_isTupD_str, k_isTupD_tup, k_isTupD_lst, k_isStrD_non, k_isStrD_bl, k_isStrD_int, k_isStrD_str, k_isStrD_tup, k_isStrD_lst, iso_obj, mk_outs, passL, refsOk, putOuts, capL, true_and, and_true, List.map_cons, List.map_nil, exists_eq_left, Option.some.injEq, flat, exists_const, exists_eq, exists_eq', exists_eq_left', and_self, DV.bl.injEq, DV.int.injEq, DV.str.injEq, DV.tup.injEq, DV.lst.injEq, cm_int, cm_bl, cm_non, cm_str, dq_int, dq_str, dq_bl, dq_nn, dq_in, dq_ni, exists_and_left, DV.obj.injEq, putN, putD, List.not_mem_nil, not_false_eq_true, or_false, false_or, exists_false, false_and, and_false, if_true, if_false, EV.Res.loc.injEq, EV.Slot.own.injEq, EV.Slot.val.injEq, and_assoc, r1_loc, r1_val, r1_tmp, b1_tmp, b1_val, n_0, n_1, n_2, n_3, n_4, n_5, n_6, n_7, Int.reduceBEq, Int.reduceBNe, Int.reduceLT, Int.reduceLE, Int.reduceEq, Int.reduceNeg, decide_true, decide_false, beq_self_eq_true, Bool.not_true, Bool.not_false, PR.it.injEq, PR.nw.injEq, reduceCtorEq, ne_eq, not_false_eq_true, implies_true, lc_nil, lc_cons, at_0, at_1, at_2, at_3, Option.toList_some, Option.toList_none, List.any_cons, List.any_nil, List.all_cons, List.all_nil, Bool.or_false, Bool.and_true, Bool.true_or, Bool.or_true, Bool.false_or, Bool.and_false, Bool.false_and, Bool.true_and, Bool.and_self, Bool.or_self, boolsD, tr_bl, tr_int, tr_non, tr_tup, tr_lst, bk_lst, bk_tup, sk_lst, sk_tup, sk_scr, sk_str, so_scr, lo_lst, to_tup, el_lst, et_tup, sy_val, sy_tmp, sy_loc, seqOf, itemsOf, Option.bind_some, tgN, wipeR, backR, Option.getD_some, plainSlots, List.mem_singleton, forall_eq])
  | `(tactic| simp only [evix, $ls,*]) => `(tactic| simp only [rhoI, rhoA, nos, nref, List.length_cons, List.length_nil, Nat.reduceAdd, Nat.reduceSub, Nat.sub_self, List.cons_append, List.nil_append, Nat.zero_add, $ls,*])
  | `(tactic| simp only [evix]) => `(tactic| simp only [rhoI, rhoA, nos, nref, List.length_cons, List.length_nil, Nat.reduceAdd, Nat.reduceSub, Nat.sub_self, List.cons_append, List.nil_append, Nat.zero_add])
local macro_rules
  | `(tactic| simp only [evsx, $ls,*]) => `(tactic| simp only [ev2x, sk_l, q_ll, q_lr, q_ls, q_lt, q_ln, q_lc, q_lo, q_lh, q_lf, q_le, sk_r, q_rl, q_rr, q_rs, q_rt, q_rn, q_rc, q_ro, q_rh, q_rf, q_re, sk_s, q_sl, q_sr, q_ss, q_st, q_sn, q_sc, q_so, q_sh, q_sf, q_se, sk_t, q_tl, q_tr, q_ts, q_tt, q_tn, q_tc, q_to, q_th, q_tf, q_te, sk_n, q_nl, q_nr, q_ns, q_nt, q_nn, q_nc, q_no, q_nh, q_nf, q_ne, sk_c, q_cl, q_cr, q_cs, q_ct, q_cn, q_cc, q_co, q_ch, q_cf, q_ce, sk_o, q_ol, q_or, q_os, q_ot, q_on, q_oc, q_oo, q_oh, q_of, q_oe, sk_h, q_hl, q_hr, q_hs, q_ht, q_hn, q_hc, q_ho, q_hh, q_hf, q_he, sk_f, q_fl, q_fr, q_fs, q_ft, q_fn, q_fc, q_fo, q_fh, q_ff, q_fe, sk_e, q_el, q_er, q_es, q_et, q_en, q_ec, q_eo, q_eh, q_ef, q_ee, $ls,*])
  | `(tactic| simp only [evsx]) => `(tactic| simp only [ev2x, sk_l, q_ll, q_lr, q_ls, q_lt, q_ln, q_lc, q_lo, q_lh, q_lf, q_le, sk_r, q_rl, q_rr, q_rs, q_rt, q_rn, q_rc, q_ro, q_rh, q_rf, q_re, sk_s, q_sl, q_sr, q_ss, q_st, q_sn, q_sc, q_so, q_sh, q_sf, q_se, sk_t, q_tl, q_tr, q_ts, q_tt, q_tn, q_tc, q_to, q_th, q_tf, q_te, sk_n, q_nl, q_nr, q_ns, q_nt, q_nn, q_nc, q_no, q_nh, q_nf, q_ne, sk_c, q_cl, q_cr, q_cs, q_ct, q_cn, q_cc, q_co, q_ch, q_cf, q_ce, sk_o, q_ol, q_or, q_os, q_ot, q_on, q_oc, q_oo, q_oh, q_of, q_oe, sk_h, q_hl, q_hr, q_hs, q_ht, q_hn, q_hc, q_ho, q_hh, q_hf, q_he, sk_f, q_fl, q_fr, q_fs, q_ft, q_fn, q_fc, q_fo, q_fh, q_ff, q_fe, sk_e, q_el, q_er, q_es, q_et, q_en, q_ec, q_eo, q_eh, q_ef, q_ee])
/-! ### family A: drawing -/
theorem ts_e (i : Int) : Str.ofString (toString i) = tS i := rfl
theorem ix3_0 : ixN 3 0 = some 0 := rfl
theorem ix3_1 : ixN 3 1 = some 1 := rfl
theorem ix3_2 : ixN 3 2 = some 2 := rfl
def spD (a b c : Int) : DV := .lst [.int a, .int b, .int c]
def okSp (a b c : Int) : Prop := 0 ≤ a ∧ 0 ≤ b ∧ b < 2147483647 ∧ 0 ≤ c
def fi_draw : FI := ⟨[true, false], fun ds k => ∃ a b c s, ds = [spD a b c, .int s] ∧ okSp a b c ∧ 0 < s ∧ s < 1073741824 ∧ ∀ a' b' c' r, okSp a' b' c' → 0 ≤ r → r < s → k false (.int r) [spD a' b' c']⟩
theorem sp_draw (ds : List DV) (k : Bool → DV → List DV → Prop) : fi_draw.spec ds k = (∃ a b c s, ds = [spD a b c, .int s] ∧ okSp a b c ∧ 0 < s ∧ s < 1073741824 ∧ ∀ a' b' c' r, okSp a' b' c' → 0 ≤ r → r < s → k false (.int r) [spD a' b' c']) := rfl
theorem md_draw : fi_draw.modes = [true, false] := rfl
theorem v_draw (G : Genv) : ∀ ds k, ds.length = fi_draw.modes.length → fi_draw.spec ds k → wpSs G b__law_draw (rhoI 5 fi_draw.modes ds) (finW (nref fi_draw.modes) k) := by
  intro ds k hl h
  rw [sp_draw] at h
  obtain ⟨a, b, c, s, rfl, ⟨a1, b1, b2, c1⟩, s1, s2, h⟩ := h
  have cd : CDiv a s := ⟨s1, s2⟩
  have cd2 : ∀ z, CDiv z 256 := fun z => ⟨by decide, by decide⟩
  have m1 : ∀ z, CMul z 69621 := fun z => .inr ⟨by decide, by decide⟩
  have m2 : ∀ z, CMul 40503 z := fun z => .inl ⟨by decide, by decide⟩
  have p1 : (0 : Int) < 2147483647 := by decide
  have p2 : (0 : Int) < 2147483629 := by decide
  simp only [evix, md_draw, spD]
  (try simp only [u__law_draw_t_5, u__law_draw_t_4, u__law_draw_t_3, u__law_draw_t2a_1, u__law_draw_t2a_0, u__law_draw_t_2, u__law_draw_t_1, u__law_draw, wSs_nil, th_nx]); (try simp only [evsx, m1, m2, p1, p2, ix3_0, ix3_1, ix3_2, List.set_cons_zero, List.set_cons_succ]); (try simp only [u__law_draw_t_5, u__law_draw_t_4, u__law_draw_t_3, u__law_draw_t2a_1, u__law_draw_t2a_0, u__law_draw_t_2, u__law_draw_t_1, u__law_draw, wSs_nil, th_nx]); (try simp only [evsx, m1, m2, p1, p2, ix3_0, ix3_1, ix3_2, List.set_cons_zero, List.set_cons_succ])
  have hb1 : 0 ≤ (b * 69621 + 40503 * (c + 1) + 1) % 2147483647 := Int.emod_nonneg _ (by decide)
  have hb2 : (b * 69621 + 40503 * (c + 1) + 1) % 2147483647 < 2147483647 := Int.emod_lt_of_pos _ (by decide)
  generalize (b * 69621 + 40503 * (c + 1) + 1) % 2147483647 = b' at *
  (try simp only [u__law_draw_t_5, u__law_draw_t_4, u__law_draw_t_3, u__law_draw_t2a_1, u__law_draw_t2a_0, u__law_draw_t_2, u__law_draw_t_1, u__law_draw, wSs_nil, th_nx]); (try simp only [evsx])
  refine branch_of (fun hb => ?_) (fun hb => ?_)
  · (try simp only [u__law_draw_t_5, u__law_draw_t_4, u__law_draw_t_3, u__law_draw_t2a_1, u__law_draw_t2a_0, u__law_draw_t_2, u__law_draw_t_1, u__law_draw, wSs_nil, th_nx]); (try simp only [evsx, cd, ix3_0, ix3_1, ix3_2, List.set_cons_zero, List.set_cons_succ]); (try simp only [u__law_draw_t_5, u__law_draw_t_4, u__law_draw_t_3, u__law_draw_t2a_1, u__law_draw_t2a_0, u__law_draw_t_2, u__law_draw_t_1, u__law_draw, wSs_nil, th_nx]); (try simp only [evsx, cd, ix3_0, ix3_1, ix3_2, List.set_cons_zero, List.set_cons_succ])
    refine ⟨_, rfl, ?_⟩
    exact h _ _ _ _ ⟨Int.ediv_nonneg a1 (by omega), hb1, hb2, by omega⟩ (Int.emod_nonneg _ (by omega)) (Int.emod_lt_of_pos _ s1)
  · have m3 : CMul (b' + 12345) b' := .inr ⟨by omega, by omega⟩
    (try simp only [u__law_draw_t_5, u__law_draw_t_4, u__law_draw_t_3, u__law_draw_t2a_1, u__law_draw_t2a_0, u__law_draw_t_2, u__law_draw_t_1, u__law_draw, wSs_nil, th_nx]); (try simp only [evsx, cd2, m3, p2, s1]); (try simp only [u__law_draw_t_5, u__law_draw_t_4, u__law_draw_t_3, u__law_draw_t2a_1, u__law_draw_t2a_0, u__law_draw_t_2, u__law_draw_t_1, u__law_draw, wSs_nil, th_nx]); (try simp only [evsx, cd2, m3, p2, s1]); (try simp only [u__law_draw_t_5, u__law_draw_t_4, u__law_draw_t_3, u__law_draw_t2a_1, u__law_draw_t2a_0, u__law_draw_t_2, u__law_draw_t_1, u__law_draw, wSs_nil, th_nx]); (try simp only [evsx, cd2, m3, p2, s1]); (try simp only [u__law_draw_t_5, u__law_draw_t_4, u__law_draw_t_3, u__law_draw_t2a_1, u__law_draw_t2a_0, u__law_draw_t_2, u__law_draw_t_1, u__law_draw, wSs_nil, th_nx]); (try simp only [evsx, cd2, m3, p2, s1])
    refine ⟨_, rfl, ?_⟩
    exact h _ _ _ _ ⟨a1, hb1, hb2, by omega⟩ (Int.emod_nonneg _ (by omega)) (Int.emod_lt_of_pos _ s1)
def fi_of : FI := ⟨[true, false], fun ds k => ∃ a b c xs, ds = [spD a b c, .lst xs] ∧ okSp a b c ∧ 0 < xs.length ∧ xs.length ≤ 1000 ∧ ∀ a' b' c' x, okSp a' b' c' → x ∈ xs → k false x [spD a' b' c']⟩
theorem sp_of (ds : List DV) (k : Bool → DV → List DV → Prop) : fi_of.spec ds k = (∃ a b c xs, ds = [spD a b c, .lst xs] ∧ okSp a b c ∧ 0 < xs.length ∧ xs.length ≤ 1000 ∧ ∀ a' b' c' x, okSp a' b' c' → x ∈ xs → k false x [spD a' b' c']) := rfl
theorem md_of : fi_of.modes = [true, false] := rfl
theorem v_of (G : Genv) (h1 : G.fns "_law_draw" = some fi_draw) : ∀ ds k, ds.length = fi_of.modes.length → fi_of.spec ds k → wpSs G b__law_of (rhoI 2 fi_of.modes ds) (finW (nref fi_of.modes) k) := by
  intro ds k hl h
  rw [sp_of] at h
  obtain ⟨a, b, c, xs, rfl, hc, x1, x2, h⟩ := h
  simp only [evix, md_of]
  (try simp only [u__law_of, wSs_nil, th_nx]); (try simp only [evsx, h1])
  rw [cw_e, md_draw]
  (try simp only [evsx])
  refine ⟨a, b, c, xs.length, rfl, hc, by omega, by omega, fun a' b' c' r hc' r1 r2 => ?_⟩
  (try simp only [evsx])
  have hr : r.toNat < xs.length := by omega
  have e1 : atI xs r = some xs[r.toNat] := at_of (List.getElem?_eq_getElem hr) (by omega)
  simp only [evsx, e1]
  exact ⟨_, rfl, h _ _ _ _ hc' (List.getElem_mem _)⟩
def fi_spring : FI := ⟨[false, false], fun ds k => ∃ (cs : List Int) (t : Int), ds = [.scr (iL cs), .int t] ∧ 0 ≤ t ∧ cs.length ≤ 100 ∧ ∀ a b, okSp a b 0 → k true (spD a b 0) []⟩
theorem sp_spring (ds : List DV) (k : Bool → DV → List DV → Prop) : fi_spring.spec ds k = (∃ (cs : List Int) (t : Int), ds = [.scr (iL cs), .int t] ∧ 0 ≤ t ∧ cs.length ≤ 100 ∧ ∀ a b, okSp a b 0 → k true (spD a b 0) []) := rfl
theorem md_spring : fi_spring.modes = [false, false] := rfl
theorem cut_int {cs : List Int} {l h : Option Int} {c : Int} {i : Nat} {d : DV} (hd : (cutD (iL cs) l h ++ [DV.int c])[i]? = some d) : ∃ z, d = .int z := by
  have := List.mem_of_getElem? hd
  rcases List.mem_append.mp this with q | q
  · unfold cutD at q
    have q := List.mem_of_mem_take q
    have q := List.mem_of_mem_drop q
    unfold iL at q
    obtain ⟨z, _, rfl⟩ := List.mem_map.mp q
    exact ⟨z, rfl⟩
  · exact ⟨c, by simpa using q⟩
theorem cut_len (cs : List Int) (l h : Option Int) : (cutD (iL cs) l h).length ≤ cs.length := by
  unfold cutD
  rw [List.length_take, List.length_drop, in_len]; omega
theorem sp_tail (G : Genv) {cs : List Int} {t : Int} {k : Bool → DV → List DV → Prop} (n1 : cs.length ≤ 100) (h : ∀ a b, okSp a b 0 → k true (spD a b 0) []) (c : Int) : wpSs G b__law_spring_t_1 [.val (.scr (iL cs)), .val (.int t), .val (.int c), .no, .no] (finW 0 k) := by
  have m2 : ∀ z, CMul 7919 z := fun z => .inl ⟨by decide, by decide⟩
  have m3 : ∀ z, CMul z 48271 := fun z => .inr ⟨by decide, by decide⟩
  have m4 : ∀ z, CMul 11 z := fun z => .inl ⟨by decide, by decide⟩
  have p1 : (0 : Int) < 2147483647 := by decide
  have m5 : CPow 10 18 := ⟨by decide, by decide, by decide⟩
  have hz : (cutD (iL cs) none (some 8)).length + 1 ≤ sizeLine := big_l (by have := cut_len cs none (some 8); omega)
  simp only [u__law_spring_t_1]
  simp only [evsx, m2]
  simp only [th_nx, u__law_spring_t_2]
  simp only [evsx, hz]
  refine ⟨by decide, ?_⟩
  refine forB_inv (I := fun i ρ => ∃ s p, ρ = [.val (.scr (iL cs)), .val (.int t), .val (.int c), .val (.int s), p] ∧ (0 < i → 0 ≤ s ∧ s < 2147483647)) ⟨_, _, rfl, fun z => by omega⟩ ?_ ?_
  · rintro i d ρ K hd ⟨s, p, rfl, _⟩ hK
    obtain ⟨z, rfl⟩ := cut_int hd
    rw [forF_e]
    simp only [evsx]
    simp only [u__law_spring_t2b_0]
    simp only [evsx, m3, m4, p1]
    simp only [th_nx, wSs_nil, lk_nx]
    exact hK _ ⟨_, _, rfl, fun _ => ⟨Int.emod_nonneg _ (by decide), Int.emod_lt_of_pos _ (by decide)⟩⟩
  · rintro ρ ⟨s, p, rfl, hs⟩
    have hs := hs (by rw [List.length_append, List.length_singleton]; omega)
    simp only [th_nx, u__law_spring_t_3]
    simp only [evsx, m5]
    have ab : 0 ≤ (if c < 0 then -c else c) := by split <;> omega
    refine branch_of (fun hb => ⟨by decide, h _ _ ⟨ab, hs.1, hs.2, by decide⟩⟩) (fun hb => branch_of (fun hb => ⟨by decide, h _ _ ⟨ab, hs.1, hs.2, by decide⟩⟩) (fun hb => ⟨by decide, h _ _ ⟨by decide, hs.1, hs.2, by decide⟩⟩))
theorem v_spring (G : Genv) : ∀ ds k, ds.length = fi_spring.modes.length → fi_spring.spec ds k → wpSs G b__law_spring (rhoI 5 fi_spring.modes ds) (finW (nref fi_spring.modes) k) := by
  intro ds k hl h
  rw [sp_spring] at h
  obtain ⟨cs, t, rfl, t1, n1, h⟩ := h
  have m1 : ∀ z, CMul 7 z := fun z => .inl ⟨by decide, by decide⟩
  simp only [evix, md_spring]
  (try simp only [u__law_spring_t_3, u__law_spring_t2b_0, u__law_spring_t_2, u__law_spring_t_1, u__law_spring, wSs_nil, th_nx]); (try simp only [evsx, m1, in_len])
  refine branch_of (fun hb => ?_) (fun hb => ?_)
  · have hb : t < cs.length := of_decide_eq_true hb
    have ht : t.toNat < cs.length := by omega
    have e1 : atI (iL cs) t = some (.int cs[t.toNat]) := at_of (by rw [in_get, List.getElem?_eq_getElem ht]; rfl) (by omega)
    refine ⟨_, e1, ?_⟩
    exact sp_tail G n1 h _
  · exact sp_tail G n1 h _
def fi_small_place : FI := ⟨[true], fun ds k => ∃ a b c, ds = [spD a b c] ∧ okSp a b c ∧ ∀ a' b' c' x, okSp a' b' c' → -12 ≤ x → x ≤ 12 → k false (.int x) [spD a' b' c']⟩
theorem sp_small_place (ds : List DV) (k : Bool → DV → List DV → Prop) : fi_small_place.spec ds k = (∃ a b c, ds = [spD a b c] ∧ okSp a b c ∧ ∀ a' b' c' x, okSp a' b' c' → -12 ≤ x → x ≤ 12 → k false (.int x) [spD a' b' c']) := rfl
theorem md_small_place : fi_small_place.modes = [true] := rfl
theorem v_small_place (G : Genv) (h1 : G.fns "_law_draw" = some fi_draw) : ∀ ds k, ds.length = fi_small_place.modes.length → fi_small_place.spec ds k → wpSs G b__law_small_place (rhoI 1 fi_small_place.modes ds) (finW (nref fi_small_place.modes) k) := by
  intro ds k hl h
  rw [sp_small_place] at h
  obtain ⟨a, b, c, rfl, hc, h⟩ := h
  simp only [evix, md_small_place]
  (try simp only [u__law_small_place, wSs_nil, th_nx]); (try simp only [evsx, h1])
  rw [cw_e, md_draw]
  (try simp only [evsx])
  refine ⟨a, b, c, 25, rfl, hc, by decide, by decide, fun a' b' c' r hc' r1 r2 => ?_⟩
  (try simp only [evsx])
  exact ⟨_, rfl, h _ _ _ _ hc' (by omega) (by omega)⟩
/-! rows made of words -/
theorem join2 (a b : Str) : Txt.join " " [a, b] = a ++ " " ++ b := by rw [TL.join_eq]; rfl
theorem join3 (a b c : Str) : Txt.join " " [a, b, c] = a ++ " " ++ (b ++ " " ++ c) := by rw [TL.join_eq]; rfl
theorem join4 (a b c d : Str) : Txt.join " " [a, b, c, d] = a ++ " " ++ (b ++ " " ++ (c ++ " " ++ d)) := by rw [TL.join_eq]; rfl
theorem join5 (a b c d e : Str) : Txt.join " " [a, b, c, d, e] = a ++ " " ++ (b ++ " " ++ (c ++ " " ++ (d ++ " " ++ e))) := by rw [TL.join_eq]; rfl
theorem tl_l : TL.tl "left " = TL.tl "left" ++ TL.tl " " := by decide +kernel
theorem tl_r : TL.tl "right " = TL.tl "right" ++ TL.tl " " := by decide +kernel
theorem tl_t : TL.tl " to " = TL.tl " " ++ (TL.tl "to" ++ TL.tl " ") := by decide +kernel
theorem tl_f : TL.tl " from " = TL.tl " " ++ (TL.tl "from" ++ TL.tl " ") := by decide +kernel
theorem tl_c : TL.tl "carry " = TL.tl "carry" ++ TL.tl " " := by decide +kernel
theorem tl_o : TL.tl "off " = TL.tl "off" ++ TL.tl " " := by decide +kernel
theorem tl_n : TL.tl "on " = TL.tl "on" ++ TL.tl " " := by decide +kernel
theorem tl_h : TL.tl "cloth " = TL.tl "cloth" ++ TL.tl " " := by decide +kernel
theorem cat_l (r p : Int) : ("left " : Str) ++ tS r ++ " to " ++ tS p = mvRow (.lft r p) := by
  unfold mvRow mvWords
  rw [join4]
  apply TL.ext_tl
  simp only [TL.tl_append, tl_l, tl_t, List.append_assoc]
theorem cat_r (r p : Int) : ("right " : Str) ++ tS r ++ " to " ++ tS p = mvRow (.rgt r p) := by
  unfold mvRow mvWords
  rw [join4]
  apply TL.ext_tl
  simp only [TL.tl_append, tl_r, tl_t, List.append_assoc]
theorem cat_c (p : Int) : ("carry " : Str) ++ tS p = mvRow (.car p) := by
  unfold mvRow mvWords
  rw [join2]
  apply TL.ext_tl
  simp only [TL.tl_append, tl_c, List.append_assoc]
theorem cat_o (l : Bool) : ("off " : Str) ++ sdS l = mvRow (.off l) := by
  unfold mvRow mvWords
  rw [join2]
  apply TL.ext_tl
  simp only [TL.tl_append, tl_o, List.append_assoc]
theorem cat_n (l : Bool) (p : Int) : ("on " : Str) ++ sdS l ++ " " ++ tS p = mvRow (.on l p) := by
  unfold mvRow mvWords
  rw [join3]
  apply TL.ext_tl
  simp only [TL.tl_append, tl_n, List.append_assoc]
theorem cat_h (n f : Int) : ("cloth " : Str) ++ tS n ++ " " ++ tS f = clRow n f none := by
  unfold clRow clWords
  rw [join3]
  apply TL.ext_tl
  simp only [TL.tl_append, tl_h, List.append_assoc]
theorem cat_hf (n f e : Int) : ("cloth " : Str) ++ tS n ++ " " ++ tS f ++ " from " ++ tS e = clRow n f (some e) := by
  unfold clRow clWords
  rw [join5]
  apply TL.ext_tl
  simp only [TL.tl_append, tl_h, tl_f, List.append_assoc]
theorem s_le {s : Str} {n : Nat} (h : s.length ≤ n) (hn : n ≤ 1000) : s.length ≤ sizeLine := big_l (Nat.le_trans h hn)
end T

set_option maxRecDepth 100000
set_option maxHeartbeats 4000000
set_option exponentiation.threshold 5000
namespace T
open PySem L2 EV
local macro_rules
  | `(tactic| simp only [ev2x, $ls,*]) => `(tactic| simp only [wE_var, wE_cst, wE_glb, wE_prim, wE_tup, wE_lst, wE_ife, wE_and2, wE_or2, wE_not1, wE_chain, wE_chain3, wE_call, wE_callK, wE_methK, wE_makeK, wE_fld, wE_meth, wE_make, wE_slc, wE_lc, wE_tm, wE_isC, wE_makeS, wE_makeV, wE_cmeth, wA_nil, wA_cons, wA_star, wO_no, wO_so, wT_tt, wT_and2, wT_or2, wT_not1, wT_val, wG_nm, wG_sub, wG_fld, wG_tp, wI_seq, wI_range1, wI_range2, wI_range3, wI_enum, wI_zip, wI_str, wS_asg, wS_setF, wS_par2, wS_par3, wS_aug, wS_app, wS_ext, wS_ins, wS_pop, wS_expr, wS_ife, wS_for, wS_while, wS_ret, wS_retN, wS_brk, wS_cnt, wS_pass, wS_never, lcB_nil, lcB_cons, lcF_e, th_rt, th_bk, th_ct, wGs_nil, wGs_cons, lk_nx, lk_ct, lk_bk, lk_rt, rhoI, rhoA, nos, nref, List.length_cons, List.length_nil, Nat.reduceAdd, Nat.reduceSub, Nat.sub_self, List.cons_append, List.nil_append, Nat.zero_add, ep0, ep1, ep2, ep3, ep4, ep5, ep6, ep7, ep8, ep9, ep10, ep11, ep12, ep13, ep14, ep15, ep16, ep17, ep18, ep19, ep20, ep21, ep22, ep23, ep24, ep25, ep26, ep27, ep28, ep29, ep30, ep31, ep32, ep33, ep34, ep35, ep36, ep37, ep38, ep39, ep40, ep41, ep42, ep43, ep44, ep45, ep46, ep47, ep48, ep49, ep50, ep51, ep52, ep53, ep54, ep55, ep56, es_lst, es_scr, es_tup, es_str, of_it, of_nw, sd_val, sd_own, ct_val, ct_tmp, ct_loc, cs_nil, cs_val, cs_tmp, cs_loc, cp_val, cp_tmp, cp_loc, g0, gs, bd_tmp, bd_val, bd_loc, st0, sts, ex_some, ob_map, ob_bind, br_t, br_f, br_not, fw_nx, fw_val, fw_tmp, fw_loc, rs_t, rs_f, oo_0, isa_obj, k_isNon_non, k_isNon_bl, k_isNon_int, k_isNon_str, k_isNon_tup, k_isNon_lst, k_isNon_obj, k_isIntD_non, k_isIntD_bl, k_isIntD_int, k_isIntD_str, k_isIntD_tup, k_isIntD_lst, k_isBlD_non, k_isBlD_bl, k_isBlD_int, k_isBlD_str, k_isBlD_tup, k_isBlD_lst, k_isTupD_non, k_isTupD_bl, k_isTupD_int, k_isTupD_str, k_isTupD_tup, k_isTupD_lst, k_isStrD_non, k_isStrD_bl, k_isStrD_int, k_isStrD_str, k_isStrD_tup, k_isStrD_lst, iso_obj, mk_outs, passL, refsOk, putOuts, capL, true_and, and_true, List.map_cons, List.map_nil, exists_eq_left, Option.some.injEq, flat, exists_const, exists_eq, exists_eq', exists_eq_left', and_self, DV.bl.injEq, DV.int.injEq, DV.str.injEq, DV.tup.injEq, DV.lst.injEq, cm_int, cm_bl, cm_non, cm_str, dq_int, dq_str, dq_bl, dq_nn, dq_in, dq_ni, exists_and_left, DV.obj.injEq, putN, putD, List.not_mem_nil, not_false_eq_true, or_false, false_or, exists_false, false_and, and_false, if_true, if_false, EV.Res.loc.injEq, EV.Slot.own.injEq, EV.Slot.val.injEq, and_assoc, r1_loc, r1_val, r1_tmp, b1_tmp, b1_val, n_0, n_1, n_2, n_3, n_4, n_5, n_6, n_7, Int.reduceBEq, Int.reduceBNe, Int.reduceLT, Int.reduceLE, Int.reduceEq, Int.reduceNeg, decide_true, decide_false, beq_self_eq_true, Bool.not_true, Bool.not_false, PR.it.injEq, PR.nw.injEq, reduceCtorEq, ne_eq, not_false_eq_true, implies_true, lc_nil, lc_cons, at_0, at_1, at_2, at_3, Option.toList_some, Option.toList_none, List.any_cons, List.any_nil, List.all_cons, List.all_nil, Bool.or_false, Bool.and_true, Bool.true_or, Bool.or_true, Bool.false_or, Bool.and_false, Bool.false_and, Bool.true_and, Bool.and_self, Bool.or_self, boolsD, tr_bl, tr_int, tr_non, tr_tup, tr_lst, bk_lst, bk_tup, sk_lst, sk_tup, sk_scr, sk_str, so_scr, lo_lst, to_tup, el_lst, et_tup, sy_val, sy_tmp, sy_loc, seqOf, itemsOf, Option.bind_some, tgN, wipeR, backR, Option.getD_some, plainSlots, List.mem_singleton, forall_eq, $ls,*])
  | `(tactic| simp only [ev2x]) => `(tactic| simp only [wE_var, wE_cst, wE_glb, wE_prim, wE_tup, wE_lst, wE_ife, wE_and2, wE_or2, wE_not1, wE_chain, wE_chain3, wE_call, wE_callK, wE_methK, wE_makeK, wE_fld, wE_meth, wE_make, wE_slc, wE_lc, wE_tm, wE_isC, wE_makeS, wE_makeV, wE_cmeth, wA_nil, wA_cons, wA_star, wO_no, wO_so, wT_tt, wT_and2, wT_or2, wT_not1, wT_val, wG_nm, wG_sub, wG_fld, wG_tp, wI_seq, wI_range1, wI_range2, wI_range3, wI_enum, wI_zip, wI_str, wS_asg, wS_setF, wS_par2, wS_par3, wS_aug, wS_app, wS_ext, wS_ins, wS_pop, wS_expr, wS_ife, wS_for, wS_while, wS_ret, wS_retN, wS_brk, wS_cnt, wS_pass, wS_never, lcB_nil, lcB_cons, lcF_e, th_rt, th_bk, th_ct, wGs_nil, wGs_cons, lk_nx, lk_ct, lk_bk, lk_rt, rhoI, rhoA, nos, nref, List.length_cons, List.length_nil, Nat.reduceAdd, Nat.reduceSub, Nat.sub_self, List.cons_append, List.nil_append, Nat.zero_add, ep0, ep1, ep2, ep3, ep4, ep5, ep6, ep7, ep8, ep9, ep10, ep11, ep12, ep13, ep14, ep15, ep16, ep17, ep18, ep19, ep20, ep21, ep22, ep23, ep24, ep25, ep26, ep27, ep28, ep29, ep30, ep31, ep32, ep33, ep34, ep35, ep36, ep37, ep38, ep39, ep40, ep41, ep42, ep43, ep44, ep45, ep46, ep47, ep48, ep49, ep50, ep51, ep52, ep53, ep54, ep55, ep56, es_lst, es_scr, es_tup, es_str, of_it, of_nw, sd_val, sd_own, ct_val, ct_tmp, ct_loc, cs_nil, cs_val, cs_tmp, cs_loc, cp_val, cp_tmp, cp_loc, g0, gs, bd_tmp, bd_val, bd_loc, st0, sts, ex_some, ob_map, ob_bind, br_t, br_f, br_not, fw_nx, fw_val, fw_tmp, fw_loc, rs_t, rs_f, oo_0, isa_obj, k_isNon_non, k_isNon_bl, k_isNon_int, k_isNon_str, k_isNon_tup, k_isNon_lst, k_isNon_obj, k_isIntD_non, k_isIntD_bl, k_isIntD_int, k_isIntD_str, k_isIntD_tup, k_isIntD_lst, k_isBlD_non, k_isBlD_bl, k_isBlD_int, k_isBlD_str, k_isBlD_tup, k_isBlD_lst, k_isTupD_non, k_isTupD_bl, k_isTupD_int, k_isTupD_str, k_isTupD_tup, k_isTupD_lst, k_isStrD_non, k_isStrD_bl, k_isStrD_int, k_isStrD_str, k_isStrD_tup, k_isStrD_lst, iso_obj, mk_outs, passL, refsOk, putOuts, capL, true_and, and_true, List.map_cons, List.map_nil, exists_eq_left, Option.some.injEq, flat, exists_const, exists_eq, exists_eq', exists_eq_left', and_self, DV.bl.injEq, DV.int.injEq, DV.str.injEq, DV.tup.injEq, DV.lst.injEq, cm_int, cm_bl, cm_non, cm_str, dq_int, dq_str, dq_bl, dq_nn, dq_in, dq_ni, exists_and_left, DV.obj.injEq, putN, putD, List.not_mem_nil, not_false_eq_true, or_false, false_or, exists_false, false_and, and_false, if_true, if_false, EV.Res.loc.injEq, EV.Slot.own.injEq, EV.Slot.val.injEq, and_assoc, r1_loc, r1_val, r1_tmp, b1_tmp, b1_val, n_0, n_1, n_2, n_3, n_4, n_5, n_6, n_7, Int.reduceBEq, Int.reduceBNe, Int.reduceLT, Int.reduceLE, Int.reduceEq, Int.reduceNeg, decide_true, decide_false, beq_self_eq_true, Bool.not_true, Bool.not_false, PR.it.injEq, PR.nw.injEq, reduceCtorEq, ne_eq, not_false_eq_true, implies_true, lc_nil, lc_cons, at_0, at_1, at_2, at_3, Option.toList_some, Option.toList_none, List.any_cons, List.any_nil, List.all_cons, List.all_nil, Bool.or_false, Bool.and_true, Bool.true_or, Bool.or_true, Bool.false_or, Bool.and_false, Bool.false_and, Bool.true_and, Bool.and_self, Bool.or_self, boolsD, tr_bl, tr_int, tr_non, tr_tup, tr_lst, bk_lst, bk_tup, sk_lst, sk_tup, sk_scr, sk_str, so_scr, lo_lst, to_tup, el_lst, et_tup, sy_val, sy_tmp, sy_loc, seqOf, itemsOf, Option.bind_some, tgN, wipeR, backR, Option.getD_some, plainSlots, List.mem_singleton, forall_eq])
  | `(tactic| simp only [evix, $ls,*]) => `(tactic| simp only [rhoI, rhoA, nos, nref, List.length_cons, List.length_nil, Nat.reduceAdd, Nat.reduceSub, Nat.sub_self, List.cons_append, List.nil_append, Nat.zero_add, $ls,*])
  | `(tactic| simp only [evix]) => `(tactic| simp only [rhoI, rhoA, nos, nref, List.length_cons, List.length_nil, Nat.reduceAdd, Nat.reduceSub, Nat.sub_self, List.cons_append, List.nil_append, Nat.zero_add])
local macro_rules
  | `(tactic| simp only [evsx, $ls,*]) => `(tactic| simp only [ev2x, sk_l, q_ll, q_lr, q_ls, q_lt, q_ln, q_lc, q_lo, q_lh, q_lf, q_le, sk_r, q_rl, q_rr, q_rs, q_rt, q_rn, q_rc, q_ro, q_rh, q_rf, q_re, sk_s, q_sl, q_sr, q_ss, q_st, q_sn, q_sc, q_so, q_sh, q_sf, q_se, sk_t, q_tl, q_tr, q_ts, q_tt, q_tn, q_tc, q_to, q_th, q_tf, q_te, sk_n, q_nl, q_nr, q_ns, q_nt, q_nn, q_nc, q_no, q_nh, q_nf, q_ne, sk_c, q_cl, q_cr, q_cs, q_ct, q_cn, q_cc, q_co, q_ch, q_cf, q_ce, sk_o, q_ol, q_or, q_os, q_ot, q_on, q_oc, q_oo, q_oh, q_of, q_oe, sk_h, q_hl, q_hr, q_hs, q_ht, q_hn, q_hc, q_ho, q_hh, q_hf, q_he, sk_f, q_fl, q_fr, q_fs, q_ft, q_fn, q_fc, q_fo, q_fh, q_ff, q_fe, sk_e, q_el, q_er, q_es, q_et, q_en, q_ec, q_eo, q_eh, q_ef, q_ee, $ls,*])
  | `(tactic| simp only [evsx]) => `(tactic| simp only [ev2x, sk_l, q_ll, q_lr, q_ls, q_lt, q_ln, q_lc, q_lo, q_lh, q_lf, q_le, sk_r, q_rl, q_rr, q_rs, q_rt, q_rn, q_rc, q_ro, q_rh, q_rf, q_re, sk_s, q_sl, q_sr, q_ss, q_st, q_sn, q_sc, q_so, q_sh, q_sf, q_se, sk_t, q_tl, q_tr, q_ts, q_tt, q_tn, q_tc, q_to, q_th, q_tf, q_te, sk_n, q_nl, q_nr, q_ns, q_nt, q_nn, q_nc, q_no, q_nh, q_nf, q_ne, sk_c, q_cl, q_cr, q_cs, q_ct, q_cn, q_cc, q_co, q_ch, q_cf, q_ce, sk_o, q_ol, q_or, q_os, q_ot, q_on, q_oc, q_oo, q_oh, q_of, q_oe, sk_h, q_hl, q_hr, q_hs, q_ht, q_hn, q_hc, q_ho, q_hh, q_hf, q_he, sk_f, q_fl, q_fr, q_fs, q_ft, q_fn, q_fc, q_fo, q_fh, q_ff, q_fe, sk_e, q_el, q_er, q_es, q_et, q_en, q_ec, q_eo, q_eh, q_ef, q_ee])
/-! ### family A: rows -/
/-- cloths that are drawn -/
def smCl (n f : Int) (e : Option Int) : Prop := 1 ≤ n ∧ n ≤ 3 ∧ n < f ∧ f ≤ n + 3 ∧ ∀ x, e = some x → -6 ≤ x ∧ x ≤ 2
theorem smCl.ok {n f : Int} {e : Option Int} (h : smCl n f e) : okCl n f e := ⟨h.1, h.2.2.1, by have := h.2.2.2.1; have := h.2.1; omega, fun x hx => by have := h.2.2.2.2 x hx; omega⟩
def fi_cloth_row : FI := ⟨[true], fun ds k => ∃ a b c, ds = [spD a b c] ∧ okSp a b c ∧ ∀ a' b' c' n f e, okSp a' b' c' → smCl n f e → k false (.str (clRow n f e)) [spD a' b' c']⟩
theorem sp_cloth_row (ds : List DV) (k : Bool → DV → List DV → Prop) : fi_cloth_row.spec ds k = (∃ a b c, ds = [spD a b c] ∧ okSp a b c ∧ ∀ a' b' c' n f e, okSp a' b' c' → smCl n f e → k false (.str (clRow n f e)) [spD a' b' c']) := rfl
theorem md_cloth_row : fi_cloth_row.modes = [true] := rfl
theorem z_h : (("cloth " : Str)).length = 6 := by decide +kernel
theorem z_f : ((" from " : Str)).length = 6 := by decide +kernel
theorem z_1 : ((" " : Str)).length = 1 := by decide +kernel
theorem z_l : (("left " : Str)).length = 5 := by decide +kernel
theorem z_r : (("right " : Str)).length = 6 := by decide +kernel
theorem z_t : ((" to " : Str)).length = 4 := by decide +kernel
theorem z_c : (("carry " : Str)).length = 6 := by decide +kernel
theorem z_o : (("off " : Str)).length = 4 := by decide +kernel
theorem z_n : (("on " : Str)).length = 3 := by decide +kernel
theorem z_sd (l : Bool) : (sdS l).length ≤ 5 := by cases l <;> decide +kernel
theorem ts_len {p : Int} (h1 : -99 ≤ p) (h2 : p ≤ 99) : (tS p).length ≤ 10 := nOk_len (nOk_of h1 h2)
theorem v_cloth_row (G : Genv) (h1 : G.fns "_law_draw" = some fi_draw) : ∀ ds k, ds.length = fi_cloth_row.modes.length → fi_cloth_row.spec ds k → wpSs G b__law_cloth_row (rhoI 4 fi_cloth_row.modes ds) (finW (nref fi_cloth_row.modes) k) := by
  intro ds k hl h
  rw [sp_cloth_row] at h
  obtain ⟨a, b, c, rfl, hc, h⟩ := h
  simp only [evix, md_cloth_row]
  (try simp only [u__law_cloth_row_t_3, u__law_cloth_row_t_2, u__law_cloth_row_t_1, u__law_cloth_row, wSs_nil, th_nx]); (try simp only [evsx, h1])
  rw [cw_e, md_draw]
  (try simp only [evsx])
  refine ⟨a, b, c, 3, rfl, hc, by decide, by decide, fun a1 b1 c1 n hc1 n1 n2 => ?_⟩
  (try simp only [evsx])
  (try simp only [u__law_cloth_row_t_3, u__law_cloth_row_t_2, u__law_cloth_row_t_1, u__law_cloth_row, wSs_nil, th_nx]); (try simp only [evsx, h1])
  rw [cw_e, md_draw]
  (try simp only [evsx])
  refine ⟨a1, b1, c1, 3, rfl, hc1, by decide, by decide, fun a2 b2 c2 f hc2 f1 f2 => ?_⟩
  (try simp only [evsx])
  obtain ⟨n', hn'⟩ : ∃ n', n' = 1 + n := ⟨_, rfl⟩
  obtain ⟨f', hf'⟩ : ∃ f', f' = 1 + n + 1 + f := ⟨_, rfl⟩
  have bb1 := ts_len (p := n') (by omega) (by omega)
  have bb2 := ts_len (p := f') (by omega) (by omega)
  rw [← hf', ← hn']
  have g1 : n'.natAbs.log2 < 1920 := lg_small (by omega) (by omega)
  have g2 : f'.natAbs.log2 < 1920 := lg_small (by omega) (by omega)
  have q1 : 6 + (tS n').length ≤ sizeLine := big_l (by omega)
  have q2 : 6 + (tS n').length + 1 ≤ sizeLine := big_l (by omega)
  have q3 : 6 + (tS n').length + 1 + (tS f').length ≤ sizeLine := big_l (by omega)
  (try simp only [u__law_cloth_row_t_3, u__law_cloth_row_t_2, u__law_cloth_row_t_1, u__law_cloth_row, wSs_nil, th_nx]); (try simp only [evsx, ts_e, app_len, z_h, z_1, g1, g2, q1, q2, q3])
  (try simp only [u__law_cloth_row_t_3, u__law_cloth_row_t_2, u__law_cloth_row_t_1, u__law_cloth_row, wSs_nil, th_nx]); (try simp only [evsx, h1])
  rw [cw_e, md_draw]
  (try simp only [evsx])
  refine ⟨a2, b2, c2, 3, rfl, hc2, by decide, by decide, fun a3 b3 c3 w hc3 w1 w2 => ?_⟩
  (try simp only [evsx])
  have q4 : 6 + (tS n').length + 1 + (tS f').length + 6 ≤ sizeLine := big_l (by omega)
  refine branch_of (fun hb => ?_) (fun hb => ?_)
  · simp only [evsx, ts_e, app_len, z_h, z_1, z_f, q4]
    rw [cw_e, md_draw]
    (try simp only [evsx])
    refine ⟨a3, b3, c3, 9, rfl, hc3, by decide, by decide, fun a4 b4 c4 x hc4 x1 x2 => ?_⟩
    (try simp only [evsx])
    have bb3 := ts_len (p := x - 6) (by omega) (by omega)
    have q5 : 6 + (tS n').length + 1 + (tS f').length + 6 + (tS (x - 6)).length ≤ sizeLine := big_l (by omega)
    (try simp only [evsx, ts_e, app_len, z_h, z_1, z_f, q5])
    refine ⟨lg_small (by omega) (by omega), ?_⟩
    have := h a4 b4 c4 n' f' (some (x - 6)) hc4 ⟨by omega, by omega, by omega, by omega, fun y hy => by cases hy; omega⟩
    rw [← cat_hf] at this
    exact ⟨_, rfl, this⟩
  · have := h a3 b3 c3 n' f' none hc3 ⟨by omega, by omega, by omega, by omega, fun y hy => by cases hy⟩
    rw [← cat_h] at this
    exact ⟨_, rfl, this⟩
/-- moves that are drawn -/
def fi_lmove : FI := ⟨[true, false], fun ds k => ∃ a b c p, ds = [spD a b c, .int p] ∧ okSp a b c ∧ -99 ≤ p ∧ p ≤ 99 ∧ ∀ a' b' c' m, okSp a' b' c' → okMv m → isSm m = false → k false (.str (mvRow m)) [spD a' b' c']⟩
theorem sp_lmove (ds : List DV) (k : Bool → DV → List DV → Prop) : fi_lmove.spec ds k = (∃ a b c p, ds = [spD a b c, .int p] ∧ okSp a b c ∧ -99 ≤ p ∧ p ≤ 99 ∧ ∀ a' b' c' m, okSp a' b' c' → okMv m → isSm m = false → k false (.str (mvRow m)) [spD a' b' c']) := rfl
theorem md_lmove : fi_lmove.modes = [true, false] := rfl
theorem v_lmove (G : Genv) (h1 : G.fns "_law_draw" = some fi_draw) (h2 : G.fns "_law_of" = some fi_of) : ∀ ds k, ds.length = fi_lmove.modes.length → fi_lmove.spec ds k → wpSs G b__law_move (rhoI 5 fi_lmove.modes ds) (finW (nref fi_lmove.modes) k) := by
  intro ds k hl h
  rw [sp_lmove] at h
  obtain ⟨a, b, c, p, rfl, hc, p1, p2, h⟩ := h
  have bp := ts_len p1 p2
  have gp : p.natAbs.log2 < 1920 := lg_small (by omega) (by omega)
  simp only [evix, md_lmove]
  (try simp only [u__law_move_t_5, u__law_move_t_4, u__law_move_t3a_0, u__law_move_t_3, u__law_move_t2a_0, u__law_move_t_2, u__law_move_t1a_0, u__law_move_t_1, u__law_move, wSs_nil, th_nx]); (try simp only [evsx, h1, h2])
  rw [cw_e, md_draw]
  (try simp only [evsx])
  refine ⟨a, b, c, 10, rfl, hc, by decide, by decide, fun a1 b1 c1 w hc1 w1 w2 => ?_⟩
  (try simp only [evsx])
  refine ⟨by decide, ?_⟩
  rw [cw_e, md_of]
  (try simp only [evsx])
  refine ⟨a1, b1, c1, _, rfl, hc1, by simp, by simp, fun a2 b2 c2 x hc2 hx => ?_⟩
  (try simp only [evsx])
  have hx : ∃ y, x = .int y ∧ 1 ≤ y ∧ y ≤ 3 := by
    simp only [List.mem_cons, List.not_mem_nil, or_false] at hx
    rcases hx with rfl | rfl | rfl | rfl | rfl <;> exact ⟨_, rfl, by omega, by omega⟩
  obtain ⟨r, rfl, r1, r2⟩ := hx
  have br := ts_len (p := r) (by omega) (by omega)
  have gr : r.natAbs.log2 < 1920 := lg_small (by omega) (by omega)
  simp only [evsx, ts_e, gr]
  have q1 : 5 + (tS r).length ≤ sizeLine := big_l (by omega)
  have q2 : 5 + (tS r).length + 4 ≤ sizeLine := big_l (by omega)
  have q3 : 5 + (tS r).length + 4 + (tS p).length ≤ sizeLine := big_l (by omega)
  have u1 : 6 + (tS r).length ≤ sizeLine := big_l (by omega)
  have u2 : 6 + (tS r).length + 4 ≤ sizeLine := big_l (by omega)
  have u3 : 6 + (tS r).length + 4 + (tS p).length ≤ sizeLine := big_l (by omega)
  have u4 : 6 + (tS p).length ≤ sizeLine := big_l (by omega)
  (try simp only [u__law_move_t_5, u__law_move_t_4, u__law_move_t3a_0, u__law_move_t_3, u__law_move_t2a_0, u__law_move_t_2, u__law_move_t1a_0, u__law_move_t_1, u__law_move, wSs_nil, th_nx]); (try simp only [evsx])
  refine branch_of (fun hb => ?_) (fun hb => ?_)
  · (try simp only [u__law_move_t_5, u__law_move_t_4, u__law_move_t3a_0, u__law_move_t_3, u__law_move_t2a_0, u__law_move_t_2, u__law_move_t1a_0, u__law_move_t_1, u__law_move, wSs_nil, th_nx]); (try simp only [evsx, ts_e, app_len, z_l, z_t, q1, q2, q3, gp, cat_l])
    exact ⟨_, rfl, h _ _ _ _ hc2 ⟨r1, by omega, p1, p2⟩ rfl⟩
  (try simp only [u__law_move_t_5, u__law_move_t_4, u__law_move_t3a_0, u__law_move_t_3, u__law_move_t2a_0, u__law_move_t_2, u__law_move_t1a_0, u__law_move_t_1, u__law_move, wSs_nil, th_nx]); (try simp only [evsx]); (try simp only [u__law_move_t_5, u__law_move_t_4, u__law_move_t3a_0, u__law_move_t_3, u__law_move_t2a_0, u__law_move_t_2, u__law_move_t1a_0, u__law_move_t_1, u__law_move, wSs_nil, th_nx]); (try simp only [evsx])
  refine branch_of (fun hb => ?_) (fun hb => ?_)
  · (try simp only [u__law_move_t_5, u__law_move_t_4, u__law_move_t3a_0, u__law_move_t_3, u__law_move_t2a_0, u__law_move_t_2, u__law_move_t1a_0, u__law_move_t_1, u__law_move, wSs_nil, th_nx]); (try simp only [evsx, ts_e, app_len, z_r, z_t, u1, u2, u3, gp, cat_r])
    exact ⟨_, rfl, h _ _ _ _ hc2 ⟨r1, by omega, p1, p2⟩ rfl⟩
  (try simp only [u__law_move_t_5, u__law_move_t_4, u__law_move_t3a_0, u__law_move_t_3, u__law_move_t2a_0, u__law_move_t_2, u__law_move_t1a_0, u__law_move_t_1, u__law_move, wSs_nil, th_nx]); (try simp only [evsx]); (try simp only [u__law_move_t_5, u__law_move_t_4, u__law_move_t3a_0, u__law_move_t_3, u__law_move_t2a_0, u__law_move_t_2, u__law_move_t1a_0, u__law_move_t_1, u__law_move, wSs_nil, th_nx]); (try simp only [evsx])
  refine branch_of (fun hb => ?_) (fun hb => ?_)
  · (try simp only [u__law_move_t_5, u__law_move_t_4, u__law_move_t3a_0, u__law_move_t_3, u__law_move_t2a_0, u__law_move_t_2, u__law_move_t1a_0, u__law_move_t_1, u__law_move, wSs_nil, th_nx]); (try simp only [evsx, ts_e, app_len, z_c, u4, gp, cat_c])
    exact ⟨_, rfl, h _ _ _ _ hc2 ⟨p1, p2⟩ rfl⟩
  (try simp only [u__law_move_t_5, u__law_move_t_4, u__law_move_t3a_0, u__law_move_t_3, u__law_move_t2a_0, u__law_move_t_2, u__law_move_t1a_0, u__law_move_t_1, u__law_move, wSs_nil, th_nx]); (try simp only [evsx, h2]); (try simp only [u__law_move_t_5, u__law_move_t_4, u__law_move_t3a_0, u__law_move_t_3, u__law_move_t2a_0, u__law_move_t_2, u__law_move_t1a_0, u__law_move_t_1, u__law_move, wSs_nil, th_nx]); (try simp only [evsx, h2])
  refine ⟨by decide, ?_⟩
  rw [cw_e, md_of]
  (try simp only [evsx])
  refine ⟨a2, b2, c2, _, rfl, hc2, by simp, by simp, fun a3 b3 c3 x hc3 hx => ?_⟩
  (try simp only [evsx])
  have hx : ∃ l, x = .str (sdS l) := by
    simp only [List.mem_cons, List.not_mem_nil, or_false] at hx
    rcases hx with rfl | rfl
    · exact ⟨true, rfl⟩
    · exact ⟨false, rfl⟩
  obtain ⟨l, rfl⟩ := hx
  have bs := z_sd l
  have v1 : 4 + (sdS l).length ≤ sizeLine := big_l (by omega)
  have v2 : 3 + (sdS l).length ≤ sizeLine := big_l (by omega)
  have v3 : 3 + (sdS l).length + 1 ≤ sizeLine := big_l (by omega)
  have v4 : 3 + (sdS l).length + 1 + (tS p).length ≤ sizeLine := big_l (by omega)
  (try simp only [u__law_move_t_5, u__law_move_t_4, u__law_move_t3a_0, u__law_move_t_3, u__law_move_t2a_0, u__law_move_t_2, u__law_move_t1a_0, u__law_move_t_1, u__law_move, wSs_nil, th_nx]); (try simp only [evsx])
  refine branch_of (fun hb => ?_) (fun hb => ?_)
  · simp only [evsx, app_len, z_o, v1, cat_o]
    exact ⟨_, rfl, h _ _ _ _ hc3 trivial rfl⟩
  · simp only [evsx, ts_e, app_len, z_n, z_1, v2, v3, v4, gp, cat_n]
    exact ⟨_, rfl, h _ _ _ _ hc3 ⟨p1, p2⟩ rfl⟩
def smMs (ms : List Mv) : Prop := ms.length ≤ 4 ∧ (∀ m ∈ ms, okMv m) ∧ known ms
theorem smMs.ok {ms : List Mv} (h : smMs ms) : okMs ms := ⟨by have := h.1; omega, h.2.1⟩
def fi_lrows : FI := ⟨[true], fun ds k => ∃ a b c, ds = [spD a b c] ∧ okSp a b c ∧ ∀ a' b' c' n f e ms, okSp a' b' c' → smCl n f e → smMs ms → k true (.lst (sL (scRows n f e ms))) [spD a' b' c']⟩
theorem sp_lrows (ds : List DV) (k : Bool → DV → List DV → Prop) : fi_lrows.spec ds k = (∃ a b c, ds = [spD a b c] ∧ okSp a b c ∧ ∀ a' b' c' n f e ms, okSp a' b' c' → smCl n f e → smMs ms → k true (.lst (sL (scRows n f e ms))) [spD a' b' c']) := rfl
theorem md_lrows : fi_lrows.modes = [true] := rfl
theorem v_lrows (G : Genv) (h1 : G.fns "_law_of" = some fi_of) (h2 : G.fns "_law_cloth_row" = some fi_cloth_row) (h3 : G.fns "_law_move" = some fi_lmove) (h4 : G.fns "_law_small_place" = some fi_small_place) : ∀ ds k, ds.length = fi_lrows.modes.length → fi_lrows.spec ds k → wpSs G b__law_rows (rhoI 3 fi_lrows.modes ds) (finW (nref fi_lrows.modes) k) := by
  intro ds k hl h
  rw [sp_lrows] at h
  obtain ⟨a, b, c, rfl, hc, h⟩ := h
  simp only [evix, md_lrows]
  (try simp only [u__law_rows_t_1, u__law_rows, wSs_nil, th_nx]); (try simp only [evsx, h1])
  refine ⟨by decide, ?_⟩
  rw [cw_e, md_of]
  (try simp only [evsx])
  refine ⟨a, b, c, _, rfl, hc, by simp, by simp, fun a1 b1 c1 x hc1 hx => ?_⟩
  (try simp only [evsx])
  have hx : ∃ y, x = .int y ∧ 0 ≤ y ∧ y ≤ 4 := by
    simp only [List.mem_cons, List.not_mem_nil, or_false] at hx
    rcases hx with rfl | rfl | rfl | rfl | rfl | rfl | rfl <;> exact ⟨_, rfl, by omega, by omega⟩
  obtain ⟨y, rfl, y1, y2⟩ := hx
  (try simp only [u__law_rows_t_1, u__law_rows, wSs_nil, th_nx]); (try simp only [evsx, h2, h3, h4])
  rw [cw_e, md_cloth_row]
  (try simp only [evsx, rd_len])
  refine ⟨a1, b1, c1, rfl, hc1, fun a2 b2 c2 n f e hc2 ho => ?_⟩
  (try simp only [evsx, rd_len])
  refine ⟨by decide, by omega, by omega, big_l (by omega), ?_⟩
  refine lcB_inv (I := fun j acc ρ => ∃ a b c ms, okSp a b c ∧ ms.length = j ∧ (∀ m ∈ ms, okMv m) ∧ known ms ∧ acc = sL (ms.map mvRow) ∧ ρ = [.own (some 0) (spD a b c), .val (.int y), .no]) ⟨a2, b2, c2, [], hc2, rfl, fun m hm => (nomatch hm), fun m hm => (nomatch hm), rfl, rfl⟩ ?_ ?_
  · rintro j d ρ acc K hd ⟨a, b, c, ms, hc, hj, o1, o2, rfl, rfl⟩ hK
    obtain ⟨hj2, rfl⟩ := rd_of hd
    simp only [evsx, h3, h4]
    rw [cw_e, md_small_place]
    (try simp only [evsx])
    refine ⟨a, b, c, rfl, hc, fun a3 b3 c3 x hc3 x1 x2 => ?_⟩
    (try simp only [evsx])
    rw [cw_e, md_lmove]
    (try simp only [evsx])
    refine ⟨a3, b3, c3, x, rfl, hc3, by omega, by omega, fun a4 b4 c4 m hc4 om sm => ?_⟩
    (try simp only [evsx])
    refine hK _ _ ⟨a4, b4, c4, ms ++ [m], hc4, by rw [List.length_append, hj]; rfl, fun m' hm' => ?_, fun m' hm' => ?_, ?_, rfl⟩
    · rcases List.mem_append.mp hm' with q | q
      · exact o1 m' q
      · rw [List.mem_singleton.mp q]; exact om
    · rcases List.mem_append.mp hm' with q | q
      · exact o2 m' q
      · rw [List.mem_singleton.mp q]; exact sm
    · simp [sL]
  · rintro acc ρ ⟨a, b, c, ms, hc, hj, o1, o2, rfl, rfl⟩
    rw [rd_len] at hj
    have hz : 1 + (sL (ms.map mvRow)).length ≤ sizeLine := big_l (by rw [s_len, List.length_map]; omega)
    simp only [evsx, hz]
    exact ⟨_, rfl, h a b c n f e ms hc ho ⟨by omega, o1, o2⟩⟩
def fi_made : FI := ⟨[false], fun ds k => ∃ n f e ms, ds = [.lst (sL (scRows n f e ms))] ∧ okCl n f e ∧ okMs ms ∧ k true (scD n f e ms) []⟩
theorem sp_made (ds : List DV) (k : Bool → DV → List DV → Prop) : fi_made.spec ds k = (∃ n f e ms, ds = [.lst (sL (scRows n f e ms))] ∧ okCl n f e ∧ okMs ms ∧ k true (scD n f e ms) []) := rfl
theorem md_made : fi_made.modes = [false] := rfl
theorem rows_sum {ws : List Str} (h : ∀ w ∈ ws, w.length ≤ 60) : (ws.map (·.length)).sum ≤ 60 * ws.length := by
  induction ws with
  | nil => simp
  | cons w ws ih =>
    have := h w List.mem_cons_self
    have := ih fun x hx => h x (List.mem_cons_of_mem _ hx)
    simp only [List.map_cons, List.sum_cons, List.length_cons]
    omega
theorem nl_1 : (("\n" : Str)).length = 1 := by decide +kernel
theorem v_made (G : Genv) (h1 : G.cmet "Script" "read" = some fi_read) : ∀ ds k, ds.length = fi_made.modes.length → fi_made.spec ds k → wpSs G b__law_made (rhoI 1 fi_made.modes ds) (finW (nref fi_made.modes) k) := by
  intro ds k hl h
  rw [sp_made] at h
  obtain ⟨n, f, e, ms, rfl, o, o2, h⟩ := h
  have hz : ((scRows n f e ms).map (·.length)).sum + (scRows n f e ms).length * 1 ≤ 16777216 := by
    have := rows_sum (rows_len o o2)
    have e1 := scRows_len n f e ms
    have := o2.1
    omega
  simp only [evix, md_made]
  (try simp only [u__law_made, wSs_nil, th_nx]); (try simp only [evsx, h1, s_strs, nl_1, hz])
  rw [cw_e, md_read]
  (try simp only [evsx])
  refine ⟨n, f, e, ms, rfl, o, o2, ?_⟩
  (try simp only [evsx])
  exact h
end T

set_option maxRecDepth 100000
set_option maxHeartbeats 4000000
set_option exponentiation.threshold 5000
namespace T
open PySem L2 EV
local macro_rules
  | `(tactic| simp only [ev2x, $ls,*]) => `(tactic| simp only [wE_var, wE_cst, wE_glb, wE_prim, wE_tup, wE_lst, wE_ife, wE_and2, wE_or2, wE_not1, wE_chain, wE_chain3, wE_call, wE_callK, wE_methK, wE_makeK, wE_fld, wE_meth, wE_make, wE_slc, wE_lc, wE_tm, wE_isC, wE_makeS, wE_makeV, wE_cmeth, wA_nil, wA_cons, wA_star, wO_no, wO_so, wT_tt, wT_and2, wT_or2, wT_not1, wT_val, wG_nm, wG_sub, wG_fld, wG_tp, wI_seq, wI_range1, wI_range2, wI_range3, wI_enum, wI_zip, wI_str, wS_asg, wS_setF, wS_par2, wS_par3, wS_aug, wS_app, wS_ext, wS_ins, wS_pop, wS_expr, wS_ife, wS_for, wS_while, wS_ret, wS_retN, wS_brk, wS_cnt, wS_pass, wS_never, lcB_nil, lcB_cons, lcF_e, th_rt, th_bk, th_ct, wGs_nil, wGs_cons, lk_nx, lk_ct, lk_bk, lk_rt, rhoI, rhoA, nos, nref, List.length_cons, List.length_nil, Nat.reduceAdd, Nat.reduceSub, Nat.sub_self, List.cons_append, List.nil_append, Nat.zero_add, ep0, ep1, ep2, ep3, ep4, ep5, ep6, ep7, ep8, ep9, ep10, ep11, ep12, ep13, ep14, ep15, ep16, ep17, ep18, ep19, ep20, ep21, ep22, ep23, ep24, ep25, ep26, ep27, ep28, ep29, ep30, ep31, ep32, ep33, ep34, ep35, ep36, ep37, ep38, ep39, ep40, ep41, ep42, ep43, ep44, ep45, ep46, ep47, ep48, ep49, ep50, ep51, ep52, ep53, ep54, ep55, ep56, es_lst, es_scr, es_tup, es_str, of_it, of_nw, sd_val, sd_own, ct_val, ct_tmp, ct_loc, cs_nil, cs_val, cs_tmp, cs_loc, cp_val, cp_tmp, cp_loc, g0, gs, bd_tmp, bd_val, bd_loc, st0, sts, ex_some, ob_map, ob_bind, br_t, br_f, br_not, fw_nx, fw_val, fw_tmp, fw_loc, rs_t, rs_f, oo_0, isa_obj, k_isNon_non, k_isNon_bl, k_isNon_int, k_isNon_str, k_isNon_tup, k_isNon_lst, k_isNon_obj, k_isIntD_non, k_isIntD_bl, k_isIntD_int, k_isIntD_str, k_isIntD_tup, k_isIntD_lst, k_isBlD_non, k_isBlD_bl, k_isBlD_int, k_isBlD_str, k_isBlD_tup, k_isBlD_lst, k_isTupD_non, k_isTupD_bl, k_isTupD_int, k_isTupD_str, k_isTupD_tup, k_isTupD_lst, k_isStrD_non, k_isStrD_bl, k_isStrD_int, k_isStrD_str, k_isStrD_tup, k_isStrD_lst, iso_obj, mk_outs, passL, refsOk, putOuts, capL, true_and, and_true, List.map_cons, List.map_nil, exists_eq_left, Option.some.injEq, flat, exists_const, exists_eq, exists_eq', exists_eq_left', and_self, DV.bl.injEq, DV.int.injEq, DV.str.injEq, DV.tup.injEq, DV.lst.injEq, cm_int, cm_bl, cm_non, cm_str, dq_int, dq_str, dq_bl, dq_nn, dq_in, dq_ni, exists_and_left, DV.obj.injEq, putN, putD, List.not_mem_nil, not_false_eq_true, or_false, false_or, exists_false, false_and, and_false, if_true, if_false, EV.Res.loc.injEq, EV.Slot.own.injEq, EV.Slot.val.injEq, and_assoc, r1_loc, r1_val, r1_tmp, b1_tmp, b1_val, n_0, n_1, n_2, n_3, n_4, n_5, n_6, n_7, Int.reduceBEq, Int.reduceBNe, Int.reduceLT, Int.reduceLE, Int.reduceEq, Int.reduceNeg, decide_true, decide_false, beq_self_eq_true, Bool.not_true, Bool.not_false, PR.it.injEq, PR.nw.injEq, reduceCtorEq, ne_eq, not_false_eq_true, implies_true, lc_nil, lc_cons, at_0, at_1, at_2, at_3, Option.toList_some, Option.toList_none, List.any_cons, List.any_nil, List.all_cons, List.all_nil, Bool.or_false, Bool.and_true, Bool.true_or, Bool.or_true, Bool.false_or, Bool.and_false, Bool.false_and, Bool.true_and, Bool.and_self, Bool.or_self, boolsD, tr_bl, tr_int, tr_non, tr_tup, tr_lst, bk_lst, bk_tup, sk_lst, sk_tup, sk_scr, sk_str, so_scr, lo_lst, to_tup, el_lst, et_tup, sy_val, sy_tmp, sy_loc, seqOf, itemsOf, Option.bind_some, tgN, wipeR, backR, Option.getD_some, plainSlots, List.mem_singleton, forall_eq, $ls,*])
  | `(tactic| simp only [ev2x]) => `(tactic| simp only [wE_var, wE_cst, wE_glb, wE_prim, wE_tup, wE_lst, wE_ife, wE_and2, wE_or2, wE_not1, wE_chain, wE_chain3, wE_call, wE_callK, wE_methK, wE_makeK, wE_fld, wE_meth, wE_make, wE_slc, wE_lc, wE_tm, wE_isC, wE_makeS, wE_makeV, wE_cmeth, wA_nil, wA_cons, wA_star, wO_no, wO_so, wT_tt, wT_and2, wT_or2, wT_not1, wT_val, wG_nm, wG_sub, wG_fld, wG_tp, wI_seq, wI_range1, wI_range2, wI_range3, wI_enum, wI_zip, wI_str, wS_asg, wS_setF, wS_par2, wS_par3, wS_aug, wS_app, wS_ext, wS_ins, wS_pop, wS_expr, wS_ife, wS_for, wS_while, wS_ret, wS_retN, wS_brk, wS_cnt, wS_pass, wS_never, lcB_nil, lcB_cons, lcF_e, th_rt, th_bk, th_ct, wGs_nil, wGs_cons, lk_nx, lk_ct, lk_bk, lk_rt, rhoI, rhoA, nos, nref, List.length_cons, List.length_nil, Nat.reduceAdd, Nat.reduceSub, Nat.sub_self, List.cons_append, List.nil_append, Nat.zero_add, ep0, ep1, ep2, ep3, ep4, ep5, ep6, ep7, ep8, ep9, ep10, ep11, ep12, ep13, ep14, ep15, ep16, ep17, ep18, ep19, ep20, ep21, ep22, ep23, ep24, ep25, ep26, ep27, ep28, ep29, ep30, ep31, ep32, ep33, ep34, ep35, ep36, ep37, ep38, ep39, ep40, ep41, ep42, ep43, ep44, ep45, ep46, ep47, ep48, ep49, ep50, ep51, ep52, ep53, ep54, ep55, ep56, es_lst, es_scr, es_tup, es_str, of_it, of_nw, sd_val, sd_own, ct_val, ct_tmp, ct_loc, cs_nil, cs_val, cs_tmp, cs_loc, cp_val, cp_tmp, cp_loc, g0, gs, bd_tmp, bd_val, bd_loc, st0, sts, ex_some, ob_map, ob_bind, br_t, br_f, br_not, fw_nx, fw_val, fw_tmp, fw_loc, rs_t, rs_f, oo_0, isa_obj, k_isNon_non, k_isNon_bl, k_isNon_int, k_isNon_str, k_isNon_tup, k_isNon_lst, k_isNon_obj, k_isIntD_non, k_isIntD_bl, k_isIntD_int, k_isIntD_str, k_isIntD_tup, k_isIntD_lst, k_isBlD_non, k_isBlD_bl, k_isBlD_int, k_isBlD_str, k_isBlD_tup, k_isBlD_lst, k_isTupD_non, k_isTupD_bl, k_isTupD_int, k_isTupD_str, k_isTupD_tup, k_isTupD_lst, k_isStrD_non, k_isStrD_bl, k_isStrD_int, k_isStrD_str, k_isStrD_tup, k_isStrD_lst, iso_obj, mk_outs, passL, refsOk, putOuts, capL, true_and, and_true, List.map_cons, List.map_nil, exists_eq_left, Option.some.injEq, flat, exists_const, exists_eq, exists_eq', exists_eq_left', and_self, DV.bl.injEq, DV.int.injEq, DV.str.injEq, DV.tup.injEq, DV.lst.injEq, cm_int, cm_bl, cm_non, cm_str, dq_int, dq_str, dq_bl, dq_nn, dq_in, dq_ni, exists_and_left, DV.obj.injEq, putN, putD, List.not_mem_nil, not_false_eq_true, or_false, false_or, exists_false, false_and, and_false, if_true, if_false, EV.Res.loc.injEq, EV.Slot.own.injEq, EV.Slot.val.injEq, and_assoc, r1_loc, r1_val, r1_tmp, b1_tmp, b1_val, n_0, n_1, n_2, n_3, n_4, n_5, n_6, n_7, Int.reduceBEq, Int.reduceBNe, Int.reduceLT, Int.reduceLE, Int.reduceEq, Int.reduceNeg, decide_true, decide_false, beq_self_eq_true, Bool.not_true, Bool.not_false, PR.it.injEq, PR.nw.injEq, reduceCtorEq, ne_eq, not_false_eq_true, implies_true, lc_nil, lc_cons, at_0, at_1, at_2, at_3, Option.toList_some, Option.toList_none, List.any_cons, List.any_nil, List.all_cons, List.all_nil, Bool.or_false, Bool.and_true, Bool.true_or, Bool.or_true, Bool.false_or, Bool.and_false, Bool.false_and, Bool.true_and, Bool.and_self, Bool.or_self, boolsD, tr_bl, tr_int, tr_non, tr_tup, tr_lst, bk_lst, bk_tup, sk_lst, sk_tup, sk_scr, sk_str, so_scr, lo_lst, to_tup, el_lst, et_tup, sy_val, sy_tmp, sy_loc, seqOf, itemsOf, Option.bind_some, tgN, wipeR, backR, Option.getD_some, plainSlots, List.mem_singleton, forall_eq])
  | `(tactic| simp only [evix, $ls,*]) => `(tactic| simp only [rhoI, rhoA, nos, nref, List.length_cons, List.length_nil, Nat.reduceAdd, Nat.reduceSub, Nat.sub_self, List.cons_append, List.nil_append, Nat.zero_add, $ls,*])
  | `(tactic| simp only [evix]) => `(tactic| simp only [rhoI, rhoA, nos, nref, List.length_cons, List.length_nil, Nat.reduceAdd, Nat.reduceSub, Nat.sub_self, List.cons_append, List.nil_append, Nat.zero_add])
local macro_rules
  | `(tactic| simp only [evsx, $ls,*]) => `(tactic| simp only [ev2x, sk_l, q_ll, q_lr, q_ls, q_lt, q_ln, q_lc, q_lo, q_lh, q_lf, q_le, sk_r, q_rl, q_rr, q_rs, q_rt, q_rn, q_rc, q_ro, q_rh, q_rf, q_re, sk_s, q_sl, q_sr, q_ss, q_st, q_sn, q_sc, q_so, q_sh, q_sf, q_se, sk_t, q_tl, q_tr, q_ts, q_tt, q_tn, q_tc, q_to, q_th, q_tf, q_te, sk_n, q_nl, q_nr, q_ns, q_nt, q_nn, q_nc, q_no, q_nh, q_nf, q_ne, sk_c, q_cl, q_cr, q_cs, q_ct, q_cn, q_cc, q_co, q_ch, q_cf, q_ce, sk_o, q_ol, q_or, q_os, q_ot, q_on, q_oc, q_oo, q_oh, q_of, q_oe, sk_h, q_hl, q_hr, q_hs, q_ht, q_hn, q_hc, q_ho, q_hh, q_hf, q_he, sk_f, q_fl, q_fr, q_fs, q_ft, q_fn, q_fc, q_fo, q_fh, q_ff, q_fe, sk_e, q_el, q_er, q_es, q_et, q_en, q_ec, q_eo, q_eh, q_ef, q_ee, $ls,*])
  | `(tactic| simp only [evsx]) => `(tactic| simp only [ev2x, sk_l, q_ll, q_lr, q_ls, q_lt, q_ln, q_lc, q_lo, q_lh, q_lf, q_le, sk_r, q_rl, q_rr, q_rs, q_rt, q_rn, q_rc, q_ro, q_rh, q_rf, q_re, sk_s, q_sl, q_sr, q_ss, q_st, q_sn, q_sc, q_so, q_sh, q_sf, q_se, sk_t, q_tl, q_tr, q_ts, q_tt, q_tn, q_tc, q_to, q_th, q_tf, q_te, sk_n, q_nl, q_nr, q_ns, q_nt, q_nn, q_nc, q_no, q_nh, q_nf, q_ne, sk_c, q_cl, q_cr, q_cs, q_ct, q_cn, q_cc, q_co, q_ch, q_cf, q_ce, sk_o, q_ol, q_or, q_os, q_ot, q_on, q_oc, q_oo, q_oh, q_of, q_oe, sk_h, q_hl, q_hr, q_hs, q_ht, q_hn, q_hc, q_ho, q_hh, q_hf, q_he, sk_f, q_fl, q_fr, q_fs, q_ft, q_fn, q_fc, q_fo, q_fh, q_ff, q_fe, sk_e, q_el, q_er, q_es, q_et, q_en, q_ec, q_eo, q_eh, q_ef, q_ee])
/-! ### family A: rows read by the law -/
def fi_lcloth : FI := ⟨[false], fun ds k => ∃ n f e, ds = [.str (clRow n f e)] ∧ okCl n f e ∧ k false (clD n f e) []⟩
theorem sp_lcloth (ds : List DV) (k : Bool → DV → List DV → Prop) : fi_lcloth.spec ds k = (∃ n f e, ds = [.str (clRow n f e)] ∧ okCl n f e ∧ k false (clD n f e) []) := rfl
theorem md_lcloth : fi_lcloth.modes = [false] := rfl
theorem it_of {p : Int} (h1 : -99 ≤ p) (h2 : p ≤ 99) : intText? (tS p) = some p := num_int (nOk_num (nOk_of h1 h2))
theorem v_lcloth (G : Genv) : ∀ ds k, ds.length = fi_lcloth.modes.length → fi_lcloth.spec ds k → wpSs G b__law_cloth (rhoI 3 fi_lcloth.modes ds) (finW (nref fi_lcloth.modes) k) := by
  intro ds k hl h
  rw [sp_lcloth] at h
  obtain ⟨n, f, e, rfl, o, h⟩ := h
  obtain ⟨o1, o2, o3, o4⟩ := id o
  have hs := clRow_split o
  have hz : (clRow n f e).length + 2 ≤ sizeLine := big_l (by have := clRow_len o; omega)
  have z3 : (3 : Nat) ≤ sizeLine := by decide
  have z2 : (2 : Nat) ≤ sizeLine := by decide
  have ln := ts_len (p := n) (by omega) (by omega)
  have lf := ts_len (p := f) (by omega) (by omega)
  have l1 : (tS n).length ≤ 640 := by omega
  have l2 : (tS f).length ≤ 640 := by omega
  have i1 := it_of (p := n) (by omega) (by omega)
  have i2 := it_of (p := f) (by omega) (by omega)
  simp only [evix, md_lcloth]
  (try simp only [u__law_cloth_t_1, u__law_cloth, wSs_nil, th_nx]); (try simp only [evsx, sp_ne, hz, hs])
  cases e with
  | none =>
    simp only [clWords] at *
    (try simp only [u__law_cloth_t_1, u__law_cloth, wSs_nil, th_nx]); (try simp only [evsx, cut3_13, cut3_4, z2, l1, l2, i1, i2])
    exact h
  | some x =>
    obtain ⟨x1, x2⟩ := o4 x rfl
    have lx := ts_len x1 x2
    have l3 : (tS x).length ≤ 640 := by omega
    have i3 := it_of x1 x2
    simp only [clWords] at *
    (try simp only [u__law_cloth_t_1, u__law_cloth, wSs_nil, th_nx]); (try simp only [evsx, cut5_13, cut5_4, z2, z3, l1, l2, l3, i1, i2, i3])
    exact h
/-! heads of rows -/
theorem beq_tl (a b : Str) : (a == b) = (TL.tl a == TL.tl b) := by
  by_cases h : a = b
  · subst h; simp
  · have h2 : TL.tl a ≠ TL.tl b := fun z => h (TL.ext_tl z)
    rw [beq_eq_false_iff_ne.mpr h, beq_eq_false_iff_ne.mpr h2]
theorem cut_tl_k (z : Str) (k : Nat) : TL.tl (cutS z none (some (k : Int))) = (TL.tl z).take (min k z.length) := by
  unfold cutS
  have e1 : HT.sIx z.length 0 none = 0 := rfl
  have e2 : HT.sIx z.length z.length (some (k : Int)) = min k z.length := HT.sIx_nat _ _ _
  rw [e1, e2]
  simp
theorem take_min (l : List Nat) (k n : Nat) (h : l.length = n) : l.take (min k n) = l.take k := by
  by_cases hk : k ≤ n
  · rw [Nat.min_eq_left hk]
  · rw [Nat.min_eq_right (by omega), List.take_of_length_le (by omega), List.take_of_length_le (by omega)]
theorem cut_tl' (z : Str) (k : Nat) : TL.tl (cutS z none (some (k : Int))) = (TL.tl z).take k := by
  rw [cut_tl_k, take_min _ _ _ (TL.len_tl z).symm]
theorem row_tl (m : Mv) : ∃ r, TL.tl (mvRow m) = (match m with
    | .lft _ _ => TL.tl "left "
    | .rgt _ _ => TL.tl "right "
    | .sm _ => TL.tl "some "
    | .on _ _ => TL.tl "on "
    | .car _ => TL.tl "carry "
    | .off _ => TL.tl "off ") ++ r := by
  cases m with
  | lft r p => exact ⟨TL.tl (tS r) ++ (TL.tl " to " ++ TL.tl (tS p)), by rw [← cat_l, TL.tl_append, TL.tl_append, TL.tl_append]; simp only [List.append_assoc]⟩
  | rgt r p => exact ⟨TL.tl (tS r) ++ (TL.tl " to " ++ TL.tl (tS p)), by rw [← cat_r, TL.tl_append, TL.tl_append, TL.tl_append]; simp only [List.append_assoc]⟩
  | sm p =>
    have e : TL.tl "some " = TL.tl "some" ++ TL.tl " " := by decide +kernel
    refine ⟨TL.tl "to" ++ (TL.tl " " ++ TL.tl (tS p)), ?_⟩
    unfold mvRow mvWords
    rw [join3]
    simp only [TL.tl_append, e, List.append_assoc]
  | on l p => exact ⟨TL.tl (sdS l) ++ (TL.tl " " ++ TL.tl (tS p)), by rw [← cat_n, TL.tl_append, TL.tl_append, TL.tl_append]; simp only [List.append_assoc]⟩
  | car p => exact ⟨TL.tl (tS p), by rw [← cat_c, TL.tl_append]⟩
  | off l => exact ⟨TL.tl (sdS l), by rw [← cat_o, TL.tl_append]⟩
theorem tlc_l : TL.tl "left " = [108, 101, 102, 116, 32] := by decide +kernel
theorem tlc_r : TL.tl "right " = [114, 105, 103, 104, 116, 32] := by decide +kernel
theorem tlc_s : TL.tl "some " = [115, 111, 109, 101, 32] := by decide +kernel
theorem tlc_n : TL.tl "on " = [111, 110, 32] := by decide +kernel
theorem tlc_c : TL.tl "carry " = [99, 97, 114, 114, 121, 32] := by decide +kernel
theorem tlc_o : TL.tl "off " = [111, 102, 102, 32] := by decide +kernel
def isOn : Mv → Bool
  | .on _ _ => true
  | _ => false
def isOff : Mv → Bool
  | .off _ => true
  | _ => false
theorem head_on (m : Mv) : (cutS (mvRow m) none (some 3) == "on ") = isOn m := by
  rw [beq_tl, show ((3 : Int)) = ((3 : Nat) : Int) from rfl, cut_tl']
  obtain ⟨r, hr⟩ := row_tl m
  rw [hr]
  cases m <;> simp only [tlc_l, tlc_r, tlc_s, tlc_n, tlc_c, tlc_o, List.cons_append, List.nil_append, List.take_succ_cons, List.take_zero, isOn] <;> decide
theorem head_off (m : Mv) : (cutS (mvRow m) none (some 4) == "off ") = isOff m := by
  rw [beq_tl, show ((4 : Int)) = ((4 : Nat) : Int) from rfl, cut_tl']
  obtain ⟨r, hr⟩ := row_tl m
  rw [hr]
  cases m with
  | on l p =>
    simp only [tlc_n, tlc_o, List.cons_append, List.nil_append, List.take_succ_cons, List.take_zero, isOff]
    cases r <;> simp
  | _ => simp only [tlc_l, tlc_r, tlc_s, tlc_n, tlc_c, tlc_o, List.cons_append, List.nil_append, List.take_succ_cons, List.take_zero, isOff] <;> decide
theorem okc_n : PyData.strOk ("on " : Str) = true := by decide +kernel
theorem okc_o : PyData.strOk ("off " : Str) = true := by decide +kernel
theorem strOk_tl (x : Str) : PyData.strOk x = (TL.tl x).all (· < 0x110000) := by
  unfold PyData.strOk TL.tl
  rw [Array.all_toList]
theorem strOk_cut {z : Str} (h : PyData.strOk z = true) (k : Nat) : PyData.strOk (cutS z none (some (k : Int))) = true := by
  rw [strOk_tl] at h ⊢
  rw [cut_tl']
  exact List.all_eq_true.mpr fun c hc => List.all_eq_true.mp h c (List.mem_of_mem_take hc)
theorem strOk_app {a b : Str} (h1 : PyData.strOk a = true) (h2 : PyData.strOk b = true) : PyData.strOk (a ++ b) = true := by
  rw [strOk_tl] at h1 h2 ⊢
  rw [TL.tl_append, List.all_append, h1, h2]; rfl
theorem strOk_join : ∀ {ws : List Str}, (∀ w ∈ ws, PyData.strOk w = true) → PyData.strOk (Txt.join " " ws) = true
  | [], _ => by decide +kernel
  | [w], h => by
    rw [TL.join_eq]
    exact h w List.mem_cons_self
  | w :: v :: ws, h => by
    have e : Txt.join " " (w :: v :: ws) = w ++ " " ++ Txt.join " " (v :: ws) := by
      rw [TL.join_eq, TL.join_eq]; rfl
    have h1 := h w List.mem_cons_self
    have h2 := strOk_join (ws := v :: ws) fun x hx => h x (List.mem_cons_of_mem _ hx)
    rw [e]
    exact strOk_app (strOk_app h1 (by decide +kernel)) h2
theorem wordOk_ok {w : Str} (h : wordOk w = true) : PyData.strOk w = true := by
  unfold wordOk at h; simp only [Bool.and_eq_true] at h; exact h.2
theorem mvRow_ok {m : Mv} (h : okMv m) : PyData.strOk (mvRow m) = true := strOk_join fun w hw => wordOk_ok (words_ok h w hw)
def fi_lmore : FI := ⟨[false], fun ds k => ∃ m, ds = [.str (mvRow m)] ∧ okMv m ∧ k false (.int (moreOf m)) []⟩
theorem sp_lmore (ds : List DV) (k : Bool → DV → List DV → Prop) : fi_lmore.spec ds k = (∃ m, ds = [.str (mvRow m)] ∧ okMv m ∧ k false (.int (moreOf m)) []) := rfl
theorem md_lmore : fi_lmore.modes = [false] := rfl
theorem v_lmore (G : Genv) : ∀ ds k, ds.length = fi_lmore.modes.length → fi_lmore.spec ds k → wpSs G b__law_more (rhoI 1 fi_lmore.modes ds) (finW (nref fi_lmore.modes) k) := by
  intro ds k hl h
  rw [sp_lmore] at h
  obtain ⟨m, rfl, o, h⟩ := h
  have hz : (mvRow m).length ≤ sizeLine := big_l (by have := mvRow_len o; omega)
  have k3 : PyData.strOk (cutS (mvRow m) none (some 3)) = true := strOk_cut (mvRow_ok o) 3
  have k4 : PyData.strOk (cutS (mvRow m) none (some 4)) = true := strOk_cut (mvRow_ok o) 4
  simp only [evix, md_lmore]
  cases m <;> simp only [moreOf] at h <;> ((try simp only [u__law_more, wSs_nil, th_nx]); (try simp only [evsx, hz, k3, k4, okc_n, okc_o, head_on, head_off, isOn, isOff])) <;> exact h
def fi_lasked : FI := ⟨[false], fun ds k => ∃ m, ds = [.str (mvRow m)] ∧ okMv m ∧ k false (.int (askOf m)) []⟩
theorem sp_lasked (ds : List DV) (k : Bool → DV → List DV → Prop) : fi_lasked.spec ds k = (∃ m, ds = [.str (mvRow m)] ∧ okMv m ∧ k false (.int (askOf m)) []) := rfl
theorem md_lasked : fi_lasked.modes = [false] := rfl
theorem v_lasked (G : Genv) : ∀ ds k, ds.length = fi_lasked.modes.length → fi_lasked.spec ds k → wpSs G b__law_asked (rhoI 2 fi_lasked.modes ds) (finW (nref fi_lasked.modes) k) := by
  intro ds k hl h
  rw [sp_lasked] at h
  obtain ⟨m, rfl, o, h⟩ := h
  have hz : (mvRow m).length + 2 ≤ sizeLine := big_l (by have := mvRow_len o; omega)
  have hs := row_split o
  have z2 : (2 : Nat) ≤ sizeLine := by decide
  simp only [evix, md_lasked]
  (try simp only [u__law_asked_t_2, u__law_asked_t1a_0, u__law_asked_t_1, u__law_asked, wSs_nil, th_nx]); (try simp only [evsx, sp_ne, hz, hs])
  cases m with
  | lft r p =>
    have i1 := it_of (p := r) (by have := o.1; omega) (by have := o.2.1; omega)
    have l1 : (tS r).length ≤ 640 := by have := ts_len (p := r) (by have := o.1; omega) (by have := o.2.1; omega); omega
    simp only [mvWords, askOf] at *
    (try simp only [u__law_asked_t_2, u__law_asked_t1a_0, u__law_asked_t_1, u__law_asked, wSs_nil, th_nx]); (try simp only [evsx, z2, i1, l1]); (try simp only [u__law_asked_t_2, u__law_asked_t1a_0, u__law_asked_t_1, u__law_asked, wSs_nil, th_nx]); (try simp only [evsx, z2, i1, l1])
    exact h
  | rgt r p =>
    have i1 := it_of (p := r) (by have := o.1; omega) (by have := o.2.1; omega)
    have l1 : (tS r).length ≤ 640 := by have := ts_len (p := r) (by have := o.1; omega) (by have := o.2.1; omega); omega
    simp only [mvWords, askOf] at *
    (try simp only [u__law_asked_t_2, u__law_asked_t1a_0, u__law_asked_t_1, u__law_asked, wSs_nil, th_nx]); (try simp only [evsx, z2, i1, l1]); (try simp only [u__law_asked_t_2, u__law_asked_t1a_0, u__law_asked_t_1, u__law_asked, wSs_nil, th_nx]); (try simp only [evsx, z2, i1, l1])
    exact h
  | _ =>
    simp only [mvWords, askOf] at *
    (try simp only [u__law_asked_t_2, u__law_asked_t1a_0, u__law_asked_t_1, u__law_asked, wSs_nil, th_nx]); (try simp only [evsx, z2]); (try simp only [u__law_asked_t_2, u__law_asked_t1a_0, u__law_asked_t_1, u__law_asked, wSs_nil, th_nx]); (try simp only [evsx, z2])
    exact h
theorem cut_rows (n f : Int) (e : Option Int) (ms : List Mv) : cutD (sL (scRows n f e ms)) (some 1) none = sL (ms.map mvRow) := cut_tl _ _
theorem r_of {ms : List Mv} {i : Nat} {d : DV} (h : (sL (ms.map mvRow))[i]? = some d) : ∃ m, ms[i]? = some m ∧ d = .str (mvRow m) := by
  rw [s_get, List.getElem?_map] at h
  cases q : ms[i]? with
  | none => rw [q] at h; cases h
  | some m => rw [q] at h; cases h; exact ⟨m, rfl, rfl⟩
def fi_lchange : FI := ⟨[false], fun ds k => ∃ n f e ms, ds = [.lst (sL (scRows n f e ms))] ∧ okMs ms ∧ k false (.int (chg ms)) []⟩
theorem sp_lchange (ds : List DV) (k : Bool → DV → List DV → Prop) : fi_lchange.spec ds k = (∃ n f e ms, ds = [.lst (sL (scRows n f e ms))] ∧ okMs ms ∧ k false (.int (chg ms)) []) := rfl
theorem md_lchange : fi_lchange.modes = [false] := rfl
theorem v_lchange (G : Genv) (h1 : G.fns "_law_more" = some fi_lmore) : ∀ ds k, ds.length = fi_lchange.modes.length → fi_lchange.spec ds k → wpSs G b__law_change (rhoI 2 fi_lchange.modes ds) (finW (nref fi_lchange.modes) k) := by
  intro ds k hl h
  rw [sp_lchange] at h
  obtain ⟨n, f, e, ms, rfl, o2, h⟩ := h
  have hz : (sL (ms.map mvRow)).length ≤ sizeLine := big_l (by rw [s_len, List.length_map]; have := o2.1; omega)
  simp only [evix, md_lchange]
  (try simp only [u__law_change, wSs_nil, th_nx]); (try simp only [evsx, cut_rows, hz])
  refine lcB_inv (I := fun j acc ρ => acc = iL ((ms.take j).map moreOf) ∧ ρ = [.val (.lst (sL (scRows n f e ms))), .no]) ⟨rfl, rfl⟩ ?_ ?_
  · rintro j d ρ acc K hd ⟨rfl, rfl⟩ hK
    obtain ⟨m, hm, rfl⟩ := r_of hd
    simp only [evsx, h1]
    rw [cw_e, md_lmore]
    (try simp only [evsx])
    refine ⟨m, rfl, o2.2 m (List.mem_of_getElem? hm), ?_⟩
    (try simp only [evsx])
    refine hK _ _ ⟨?_, rfl⟩
    rw [List.take_add_one, hm]
    simp [iL]
  · rintro acc ρ ⟨rfl, rfl⟩
    have et : ms.take (sL (ms.map mvRow)).length = ms := by rw [s_len, List.length_map, List.take_length]
    simp only [evsx, et, in_ints]
    exact h
def fi_lleast : FI := ⟨[false], fun ds k => ∃ n f e ms, ds = [.lst (sL (scRows n f e ms))] ∧ okMs ms ∧ k false (.int (leastFor ms)) []⟩
theorem sp_lleast (ds : List DV) (k : Bool → DV → List DV → Prop) : fi_lleast.spec ds k = (∃ n f e ms, ds = [.lst (sL (scRows n f e ms))] ∧ okMs ms ∧ k false (.int (leastFor ms)) []) := rfl
theorem md_lleast : fi_lleast.modes = [false] := rfl
theorem v_lleast (G : Genv) (h1 : G.fns "_law_more" = some fi_lmore) (h2 : G.fns "_law_asked" = some fi_lasked) : ∀ ds k, ds.length = fi_lleast.modes.length → fi_lleast.spec ds k → wpSs G b__law_least (rhoI 4 fi_lleast.modes ds) (finW (nref fi_lleast.modes) k) := by
  intro ds k hl h
  rw [sp_lleast] at h
  obtain ⟨n, f, e, ms, rfl, o2, h⟩ := h
  simp only [evix, md_lleast]
  (try simp only [u__law_least_t_2, u__law_least_t1b_1, u__law_least_t1b_0, u__law_least_t_1, u__law_least, wSs_nil, th_nx]); (try simp only [evsx])
  (try refine ⟨by decide, ?_⟩)
  (try simp only [u__law_least_t_2, u__law_least_t1b_1, u__law_least_t1b_0, u__law_least_t_1, u__law_least, wSs_nil, th_nx]); (try simp only [evsx, cut_rows])
  refine forB_inv (I := fun i ρ => ∃ s, ρ = [.val (.lst (sL (scRows n f e ms))), s, .val (.int ((ms.take i).foldl leastStep (1, 0)).1), .val (.int ((ms.take i).foldl leastStep (1, 0)).2)]) ⟨_, rfl⟩ ?_ ?_
  · rintro i d ρ K hd ⟨s, rfl⟩ hK
    obtain ⟨m, hm, rfl⟩ := r_of hd
    have om := o2.2 m (List.mem_of_getElem? hm)
    rw [forF_e]
    simp only [evsx]
    (try simp only [u__law_least_t_2, u__law_least_t1b_1, u__law_least_t1b_0, u__law_least_t_1, u__law_least, wSs_nil, th_nx]); (try simp only [evsx, h1, h2])
    rw [cw_e, md_lasked]
    (try simp only [evsx])
    refine ⟨m, rfl, om, ?_⟩
    (try simp only [evsx])
    refine branch_of (fun hb => ?_) (fun hb => ?_)
    · (try simp only [u__law_least_t_2, u__law_least_t1b_1, u__law_least_t1b_0, u__law_least_t_1, u__law_least, wSs_nil, th_nx]); (try simp only [evsx, h1])
      (try simp only [u__law_least_t_2, u__law_least_t1b_1, u__law_least_t1b_0, u__law_least_t_1, u__law_least, wSs_nil, th_nx]); (try simp only [evsx, h1])
      rw [cw_e, md_lmore]
      (try simp only [evsx])
      refine ⟨m, rfl, om, ?_⟩
      (try simp only [evsx])
      have hb := of_decide_eq_true hb
      refine hK _ ⟨_, by rw [fold_take _ _ hm]; simp only [leastStep]; rw [show max ((ms.take i).foldl leastStep (1, 0)).1 (askOf m - ((ms.take i).foldl leastStep (1, 0)).2) = ((ms.take i).foldl leastStep (1, 0)).1 by omega]⟩
    · skip
      rw [cw_e, md_lasked]
      (try simp only [evsx])
      refine ⟨m, rfl, om, ?_⟩
      (try simp only [evsx])
      (try simp only [u__law_least_t_2, u__law_least_t1b_1, u__law_least_t1b_0, u__law_least_t_1, u__law_least, wSs_nil, th_nx]); (try simp only [evsx, h1])
      (try simp only [u__law_least_t_2, u__law_least_t1b_1, u__law_least_t1b_0, u__law_least_t_1, u__law_least, wSs_nil, th_nx]); (try simp only [evsx, h1])
      rw [cw_e, md_lmore]
      (try simp only [evsx])
      refine ⟨m, rfl, om, ?_⟩
      (try simp only [evsx])
      have hb := of_decide_eq_false hb
      refine hK _ ⟨_, by rw [fold_take _ _ hm]; simp only [leastStep]; rw [show max ((ms.take i).foldl leastStep (1, 0)).1 (askOf m - ((ms.take i).foldl leastStep (1, 0)).2) = askOf m - ((ms.take i).foldl leastStep (1, 0)).2 by omega]⟩
  · rintro ρ ⟨s, rfl⟩
    (try simp only [u__law_least_t_2, u__law_least_t1b_1, u__law_least_t1b_0, u__law_least_t_1, u__law_least, wSs_nil, th_nx]); (try simp only [evsx])
    rw [s_len, List.length_map, List.take_length]
    exact h
/-! standings that are drawn -/
theorem okSt_one {n f : Int} {e : Option Int} {p : Int} (h : ∀ x, e = some x → x ≤ p) : okSt n f e [p] :=
  ⟨fun x hx q hq => by cases hq; exact h x hx, fun i p q _ hq => by simp at hq⟩
theorem okSt_app {n f : Int} {e : Option Int} {ps : List Int} {p g : Int} (h : okSt n f e ps) (hp : ps[ps.length - 1]? = some p) (hl : 0 < ps.length) (g1 : n ≤ g) (g2 : g ≤ f) : okSt n f e (ps ++ [p + g]) := by
  refine ⟨fun x hx q hq => ?_, fun i a b ha hb => ?_⟩
  · rw [List.getElem?_append_left hl] at hq
    exact h.1 x hx q hq
  · by_cases hi : i + 1 < ps.length
    · rw [List.getElem?_append_left (by omega)] at ha
      rw [List.getElem?_append_left hi] at hb
      exact h.2 i a b ha hb
    · have hb' := (List.getElem?_eq_some_iff.mp hb).1
      rw [List.length_append, List.length_singleton] at hb'
      have e1 : i = ps.length - 1 := by omega
      subst e1
      rw [List.getElem?_append_left (by omega), hp] at ha
      rw [List.getElem?_append_right (by omega)] at hb
      have : ps.length - 1 + 1 - ps.length = 0 := by omega
      rw [this] at hb
      cases ha
      cases hb
      omega
def fi_lstand : FI := ⟨[true, false, false], fun ds k => ∃ a b c n f e, ∃ many : Nat, ds = [spD a b c, clD n f e, .int many] ∧ okSp a b c ∧ okCl n f e ∧ 1 ≤ many ∧ many ≤ 400 ∧ ∀ a' b' c' ps, okSp a' b' c' → ps.length = many → okSt n f e ps → k true (.lst (iL ps)) [spD a' b' c']⟩
theorem sp_lstand (ds : List DV) (k : Bool → DV → List DV → Prop) : fi_lstand.spec ds k = (∃ a b c n f e, ∃ many : Nat, ds = [spD a b c, clD n f e, .int many] ∧ okSp a b c ∧ okCl n f e ∧ 1 ≤ many ∧ many ≤ 400 ∧ ∀ a' b' c' ps, okSp a' b' c' → ps.length = many → okSt n f e ps → k true (.lst (iL ps)) [spD a' b' c']) := rfl
theorem md_lstand : fi_lstand.modes = [true, false, false] := rfl
theorem v_lstand (G : Genv) (h1 : G.fns "_law_draw" = some fi_draw) : ∀ ds k, ds.length = fi_lstand.modes.length → fi_lstand.spec ds k → wpSs G b__law_standing (rhoI 6 fi_lstand.modes ds) (finW (nref fi_lstand.modes) k) := by
  intro ds k hl h
  rw [sp_lstand] at h
  obtain ⟨a, b, c, n, f, e, many, rfl, hc, ⟨o1, o2, o3, o4⟩, m1, m2, h⟩ := h
  have tail : ∀ a b c y y0, okSp a b c → (∀ x, e = some x → x ≤ y) → wpSs G b__law_standing_t_2 [.own (some 0) (spD a b c), .val (clD n f e), .val (.int many), .val (.int y0), .own none (.lst [.int y]), .no] (finW 1 k) := by
    intro a b c y y0 hc hy
    (try simp only [u__law_standing_t_3, u__law_standing_t2b_0, u__law_standing_t_2, u__law_standing_t_1, u__law_standing, wSs_nil, th_nx]); (try simp only [evsx])
    refine ⟨by omega, by omega, ?_⟩
    refine forB_inv (I := fun i ρ => ∃ a b c ps s5, okSp a b c ∧ ps.length = i + 1 ∧ okSt n f e ps ∧ ρ = [.own (some 0) (spD a b c), .val (clD n f e), .val (.int many), .val (.int y0), .own none (.lst (iL ps)), s5]) ?_ ?_ ?_
    · exact ⟨a, b, c, [y], _, hc, rfl, okSt_one hy, rfl⟩
    · rintro i d ρ K hd ⟨a, b, c, ps, s5, hc, hl', hst, rfl⟩ hK
      obtain ⟨hi, rfl⟩ := rd_of hd
      have hq : ∃ q, ps[ps.length - 1]? = some q := ⟨ps[ps.length - 1]'(by omega), List.getElem?_eq_getElem (by omega)⟩
      obtain ⟨q, hq⟩ := hq
      have e1 : atI (iL ps) (-1) = some (.int q) := at_neg (n := ps.length - 1) (by rw [in_get, hq]; rfl) (by rw [in_len]; omega) (by decide)
      have e2 : (iL ps).length < sizeLine := big_z (by rw [in_len]; omega)
      rw [forF_e]
      simp only [evsx]
      (try simp only [u__law_standing_t_3, u__law_standing_t2b_0, u__law_standing_t_2, u__law_standing_t_1, u__law_standing, wSs_nil, th_nx]); (try simp only [evsx, e1, clD_ix0, clD_ix1, h1])
      rw [cw_e, md_draw]
      (try simp only [evsx, e2])
      refine ⟨a, b, c, f - n + 1, rfl, hc, by omega, by omega, fun a1 b1 c1 r hc1 r1 r2 => ?_⟩
      (try simp only [evsx, e2])
      refine hK _ ⟨a1, b1, c1, ps ++ [q + (n + r)], _, hc1, by rw [List.length_append, hl']; rfl, okSt_app hst hq (by omega) (by omega) (by omega), by rw [show q + (n + r) = q + n + r by omega, ← in_app1]⟩
    · rintro ρ ⟨a, b, c, ps, s5, hc, hl', hst, rfl⟩
      rw [rd_len] at hl'
      (try simp only [u__law_standing_t_3, u__law_standing_t2b_0, u__law_standing_t_2, u__law_standing_t_1, u__law_standing, wSs_nil, th_nx]); (try simp only [evsx, h1]); (try simp only [u__law_standing_t_3, u__law_standing_t2b_0, u__law_standing_t_2, u__law_standing_t_1, u__law_standing, wSs_nil, th_nx]); (try simp only [evsx, h1])
      exact ⟨_, rfl, h a b c ps hc (by omega) hst⟩
  simp only [evix, md_lstand]
  (try simp only [u__law_standing_t_3, u__law_standing_t2b_0, u__law_standing_t_2, u__law_standing_t_1, u__law_standing, wSs_nil, th_nx]); (try simp only [evsx, h1])
  rw [cw_e, md_draw]
  (try simp only [evsx])
  refine ⟨a, b, c, 31, rfl, hc, by decide, by decide, fun a1 b1 c1 y hc1 y1 y2 => ?_⟩
  (try simp only [evsx])
  cases e with
  | none =>
    have tl := tail a1 b1 c1 (y - 15) (y - 15) hc1 (fun x hx => by cases hx)
    simp only [clD] at tl ⊢
    (try simp only [u__law_standing_t_3, u__law_standing_t2b_0, u__law_standing_t_2, u__law_standing_t_1, u__law_standing, wSs_nil, th_nx]); (try simp only [evsx, h1])
    exact ⟨by decide, tl⟩
  | some x =>
    have tl : ∀ a b c y y0, okSp a b c → x ≤ y → _ := fun a b c y y0 hc hy => tail a b c y y0 hc (fun x' hx => by cases hx; exact hy)
    simp only [clD] at tl ⊢
    (try simp only [u__law_standing_t_3, u__law_standing_t2b_0, u__law_standing_t_2, u__law_standing_t_1, u__law_standing, wSs_nil, th_nx]); (try simp only [evsx, h1])
    refine branch_of (fun hb => ?_) (fun hb => ?_)
    · have hb := of_decide_eq_true hb
      exact ⟨by decide, tl _ _ _ _ _ hc1 (by omega)⟩
    · skip
      rw [cw_e, md_draw]
      (try simp only [evsx])
      refine ⟨a1, b1, c1, 3, rfl, hc1, by decide, by decide, fun a2 b2 c2 z hc2 z1 z2 => ?_⟩
      (try simp only [evsx])
      exact ⟨by decide, tl _ _ _ _ _ hc2 (by omega)⟩
end T

set_option maxRecDepth 100000
set_option maxHeartbeats 4000000
set_option exponentiation.threshold 5000
namespace T
open PySem L2 EV
local macro_rules
  | `(tactic| simp only [ev2x, $ls,*]) => `(tactic| simp only [wE_var, wE_cst, wE_glb, wE_prim, wE_tup, wE_lst, wE_ife, wE_and2, wE_or2, wE_not1, wE_chain, wE_chain3, wE_call, wE_callK, wE_methK, wE_makeK, wE_fld, wE_meth, wE_make, wE_slc, wE_lc, wE_tm, wE_isC, wE_makeS, wE_makeV, wE_cmeth, wA_nil, wA_cons, wA_star, wO_no, wO_so, wT_tt, wT_and2, wT_or2, wT_not1, wT_val, wG_nm, wG_sub, wG_fld, wG_tp, wI_seq, wI_range1, wI_range2, wI_range3, wI_enum, wI_zip, wI_str, wS_asg, wS_setF, wS_par2, wS_par3, wS_aug, wS_app, wS_ext, wS_ins, wS_pop, wS_expr, wS_ife, wS_for, wS_while, wS_ret, wS_retN, wS_brk, wS_cnt, wS_pass, wS_never, lcB_nil, lcB_cons, lcF_e, th_rt, th_bk, th_ct, wGs_nil, wGs_cons, lk_nx, lk_ct, lk_bk, lk_rt, rhoI, rhoA, nos, nref, List.length_cons, List.length_nil, Nat.reduceAdd, Nat.reduceSub, Nat.sub_self, List.cons_append, List.nil_append, Nat.zero_add, ep0, ep1, ep2, ep3, ep4, ep5, ep6, ep7, ep8, ep9, ep10, ep11, ep12, ep13, ep14, ep15, ep16, ep17, ep18, ep19, ep20, ep21, ep22, ep23, ep24, ep25, ep26, ep27, ep28, ep29, ep30, ep31, ep32, ep33, ep34, ep35, ep36, ep37, ep38, ep39, ep40, ep41, ep42, ep43, ep44, ep45, ep46, ep47, ep48, ep49, ep50, ep51, ep52, ep53, ep54, ep55, ep56, es_lst, es_scr, es_tup, es_str, of_it, of_nw, sd_val, sd_own, ct_val, ct_tmp, ct_loc, cs_nil, cs_val, cs_tmp, cs_loc, cp_val, cp_tmp, cp_loc, g0, gs, bd_tmp, bd_val, bd_loc, st0, sts, ex_some, ob_map, ob_bind, br_t, br_f, br_not, fw_nx, fw_val, fw_tmp, fw_loc, rs_t, rs_f, oo_0, isa_obj, k_isNon_non, k_isNon_bl, k_isNon_int, k_isNon_str, k_isNon_tup, k_isNon_lst, k_isNon_obj, k_isIntD_non, k_isIntD_bl, k_isIntD_int, k_isIntD_str, k_isIntD_tup, k_isIntD_lst, k_isBlD_non, k_isBlD_bl, k_isBlD_int, k_isBlD_str, k_isBlD_tup, k_isBlD_lst, k_isTupD_non, k_isTupD_bl, k_isTupD_int, k_isTupD_str, k_isTupD_tup, k_isTupD_lst, k_isStrD_non, k_isStrD_bl, k_isStrD_int, k_isStrD_str, k_isStrD_tup, k_isStrD_lst, iso_obj, mk_outs, passL, refsOk, putOuts, capL, true_and, and_true, List.map_cons, List.map_nil, exists_eq_left, Option.some.injEq, flat, exists_const, exists_eq, exists_eq', exists_eq_left', and_self, DV.bl.injEq, DV.int.injEq, DV.str.injEq, DV.tup.injEq, DV.lst.injEq, cm_int, cm_bl, cm_non, cm_str, dq_int, dq_str, dq_bl, dq_nn, dq_in, dq_ni, exists_and_left, DV.obj.injEq, putN, putD, List.not_mem_nil, not_false_eq_true, or_false, false_or, exists_false, false_and, and_false, if_true, if_false, EV.Res.loc.injEq, EV.Slot.own.injEq, EV.Slot.val.injEq, and_assoc, r1_loc, r1_val, r1_tmp, b1_tmp, b1_val, n_0, n_1, n_2, n_3, n_4, n_5, n_6, n_7, Int.reduceBEq, Int.reduceBNe, Int.reduceLT, Int.reduceLE, Int.reduceEq, Int.reduceNeg, decide_true, decide_false, beq_self_eq_true, Bool.not_true, Bool.not_false, PR.it.injEq, PR.nw.injEq, reduceCtorEq, ne_eq, not_false_eq_true, implies_true, lc_nil, lc_cons, at_0, at_1, at_2, at_3, Option.toList_some, Option.toList_none, List.any_cons, List.any_nil, List.all_cons, List.all_nil, Bool.or_false, Bool.and_true, Bool.true_or, Bool.or_true, Bool.false_or, Bool.and_false, Bool.false_and, Bool.true_and, Bool.and_self, Bool.or_self, boolsD, tr_bl, tr_int, tr_non, tr_tup, tr_lst, bk_lst, bk_tup, sk_lst, sk_tup, sk_scr, sk_str, so_scr, lo_lst, to_tup, el_lst, et_tup, sy_val, sy_tmp, sy_loc, seqOf, itemsOf, Option.bind_some, tgN, wipeR, backR, Option.getD_some, plainSlots, List.mem_singleton, forall_eq, $ls,*])
  | `(tactic| simp only [ev2x]) => `(tactic| simp only [wE_var, wE_cst, wE_glb, wE_prim, wE_tup, wE_lst, wE_ife, wE_and2, wE_or2, wE_not1, wE_chain, wE_chain3, wE_call, wE_callK, wE_methK, wE_makeK, wE_fld, wE_meth, wE_make, wE_slc, wE_lc, wE_tm, wE_isC, wE_makeS, wE_makeV, wE_cmeth, wA_nil, wA_cons, wA_star, wO_no, wO_so, wT_tt, wT_and2, wT_or2, wT_not1, wT_val, wG_nm, wG_sub, wG_fld, wG_tp, wI_seq, wI_range1, wI_range2, wI_range3, wI_enum, wI_zip, wI_str, wS_asg, wS_setF, wS_par2, wS_par3, wS_aug, wS_app, wS_ext, wS_ins, wS_pop, wS_expr, wS_ife, wS_for, wS_while, wS_ret, wS_retN, wS_brk, wS_cnt, wS_pass, wS_never, lcB_nil, lcB_cons, lcF_e, th_rt, th_bk, th_ct, wGs_nil, wGs_cons, lk_nx, lk_ct, lk_bk, lk_rt, rhoI, rhoA, nos, nref, List.length_cons, List.length_nil, Nat.reduceAdd, Nat.reduceSub, Nat.sub_self, List.cons_append, List.nil_append, Nat.zero_add, ep0, ep1, ep2, ep3, ep4, ep5, ep6, ep7, ep8, ep9, ep10, ep11, ep12, ep13, ep14, ep15, ep16, ep17, ep18, ep19, ep20, ep21, ep22, ep23, ep24, ep25, ep26, ep27, ep28, ep29, ep30, ep31, ep32, ep33, ep34, ep35, ep36, ep37, ep38, ep39, ep40, ep41, ep42, ep43, ep44, ep45, ep46, ep47, ep48, ep49, ep50, ep51, ep52, ep53, ep54, ep55, ep56, es_lst, es_scr, es_tup, es_str, of_it, of_nw, sd_val, sd_own, ct_val, ct_tmp, ct_loc, cs_nil, cs_val, cs_tmp, cs_loc, cp_val, cp_tmp, cp_loc, g0, gs, bd_tmp, bd_val, bd_loc, st0, sts, ex_some, ob_map, ob_bind, br_t, br_f, br_not, fw_nx, fw_val, fw_tmp, fw_loc, rs_t, rs_f, oo_0, isa_obj, k_isNon_non, k_isNon_bl, k_isNon_int, k_isNon_str, k_isNon_tup, k_isNon_lst, k_isNon_obj, k_isIntD_non, k_isIntD_bl, k_isIntD_int, k_isIntD_str, k_isIntD_tup, k_isIntD_lst, k_isBlD_non, k_isBlD_bl, k_isBlD_int, k_isBlD_str, k_isBlD_tup, k_isBlD_lst, k_isTupD_non, k_isTupD_bl, k_isTupD_int, k_isTupD_str, k_isTupD_tup, k_isTupD_lst, k_isStrD_non, k_isStrD_bl, k_isStrD_int, k_isStrD_str, k_isStrD_tup, k_isStrD_lst, iso_obj, mk_outs, passL, refsOk, putOuts, capL, true_and, and_true, List.map_cons, List.map_nil, exists_eq_left, Option.some.injEq, flat, exists_const, exists_eq, exists_eq', exists_eq_left', and_self, DV.bl.injEq, DV.int.injEq, DV.str.injEq, DV.tup.injEq, DV.lst.injEq, cm_int, cm_bl, cm_non, cm_str, dq_int, dq_str, dq_bl, dq_nn, dq_in, dq_ni, exists_and_left, DV.obj.injEq, putN, putD, List.not_mem_nil, not_false_eq_true, or_false, false_or, exists_false, false_and, and_false, if_true, if_false, EV.Res.loc.injEq, EV.Slot.own.injEq, EV.Slot.val.injEq, and_assoc, r1_loc, r1_val, r1_tmp, b1_tmp, b1_val, n_0, n_1, n_2, n_3, n_4, n_5, n_6, n_7, Int.reduceBEq, Int.reduceBNe, Int.reduceLT, Int.reduceLE, Int.reduceEq, Int.reduceNeg, decide_true, decide_false, beq_self_eq_true, Bool.not_true, Bool.not_false, PR.it.injEq, PR.nw.injEq, reduceCtorEq, ne_eq, not_false_eq_true, implies_true, lc_nil, lc_cons, at_0, at_1, at_2, at_3, Option.toList_some, Option.toList_none, List.any_cons, List.any_nil, List.all_cons, List.all_nil, Bool.or_false, Bool.and_true, Bool.true_or, Bool.or_true, Bool.false_or, Bool.and_false, Bool.false_and, Bool.true_and, Bool.and_self, Bool.or_self, boolsD, tr_bl, tr_int, tr_non, tr_tup, tr_lst, bk_lst, bk_tup, sk_lst, sk_tup, sk_scr, sk_str, so_scr, lo_lst, to_tup, el_lst, et_tup, sy_val, sy_tmp, sy_loc, seqOf, itemsOf, Option.bind_some, tgN, wipeR, backR, Option.getD_some, plainSlots, List.mem_singleton, forall_eq])
  | `(tactic| simp only [evix, $ls,*]) => `(tactic| simp only [rhoI, rhoA, nos, nref, List.length_cons, List.length_nil, Nat.reduceAdd, Nat.reduceSub, Nat.sub_self, List.cons_append, List.nil_append, Nat.zero_add, $ls,*])
  | `(tactic| simp only [evix]) => `(tactic| simp only [rhoI, rhoA, nos, nref, List.length_cons, List.length_nil, Nat.reduceAdd, Nat.reduceSub, Nat.sub_self, List.cons_append, List.nil_append, Nat.zero_add])
local macro_rules
  | `(tactic| simp only [evsx, $ls,*]) => `(tactic| simp only [ev2x, sk_l, q_ll, q_lr, q_ls, q_lt, q_ln, q_lc, q_lo, q_lh, q_lf, q_le, sk_r, q_rl, q_rr, q_rs, q_rt, q_rn, q_rc, q_ro, q_rh, q_rf, q_re, sk_s, q_sl, q_sr, q_ss, q_st, q_sn, q_sc, q_so, q_sh, q_sf, q_se, sk_t, q_tl, q_tr, q_ts, q_tt, q_tn, q_tc, q_to, q_th, q_tf, q_te, sk_n, q_nl, q_nr, q_ns, q_nt, q_nn, q_nc, q_no, q_nh, q_nf, q_ne, sk_c, q_cl, q_cr, q_cs, q_ct, q_cn, q_cc, q_co, q_ch, q_cf, q_ce, sk_o, q_ol, q_or, q_os, q_ot, q_on, q_oc, q_oo, q_oh, q_of, q_oe, sk_h, q_hl, q_hr, q_hs, q_ht, q_hn, q_hc, q_ho, q_hh, q_hf, q_he, sk_f, q_fl, q_fr, q_fs, q_ft, q_fn, q_fc, q_fo, q_fh, q_ff, q_fe, sk_e, q_el, q_er, q_es, q_et, q_en, q_ec, q_eo, q_eh, q_ef, q_ee, $ls,*])
  | `(tactic| simp only [evsx]) => `(tactic| simp only [ev2x, sk_l, q_ll, q_lr, q_ls, q_lt, q_ln, q_lc, q_lo, q_lh, q_lf, q_le, sk_r, q_rl, q_rr, q_rs, q_rt, q_rn, q_rc, q_ro, q_rh, q_rf, q_re, sk_s, q_sl, q_sr, q_ss, q_st, q_sn, q_sc, q_so, q_sh, q_sf, q_se, sk_t, q_tl, q_tr, q_ts, q_tt, q_tn, q_tc, q_to, q_th, q_tf, q_te, sk_n, q_nl, q_nr, q_ns, q_nt, q_nn, q_nc, q_no, q_nh, q_nf, q_ne, sk_c, q_cl, q_cr, q_cs, q_ct, q_cn, q_cc, q_co, q_ch, q_cf, q_ce, sk_o, q_ol, q_or, q_os, q_ot, q_on, q_oc, q_oo, q_oh, q_of, q_oe, sk_h, q_hl, q_hr, q_hs, q_ht, q_hn, q_hc, q_ho, q_hh, q_hf, q_he, sk_f, q_fl, q_fr, q_fs, q_ft, q_fn, q_fc, q_fo, q_fh, q_ff, q_fe, sk_e, q_el, q_er, q_es, q_et, q_en, q_ec, q_eo, q_eh, q_ef, q_ee])
/-! ### what moves keep -/
def R3 (r : Int → Int → Int → Prop) (ps qs ss : List Int) : Prop := ps.length = qs.length ∧ ps.length = ss.length ∧ ∀ (i : Nat) (p q s : Int), ps[i]? = some p → qs[i]? = some q → ss[i]? = some s → r p q s
structure Kept (r : Int → Int → Int → Prop) : Prop where
  cl : ∀ p q s a b, r p q s → r (clampI p a b) (clampI q a b) (clampI s a b)
  add : ∀ p q s c, r p q s → r (p + c) (q + c) (s + c)
  rf : ∀ p, r p p p
theorem get_some {l m : List Int} (h : l.length = m.length) {i : Nat} {p : Int} (hp : l[i]? = some p) : ∃ q, m[i]? = some q := by
  have := (List.getElem?_eq_some_iff.mp hp).1
  exact ⟨m[i], List.getElem?_eq_getElem (by omega)⟩
theorem drawn_of {n f g i : Int} {ps : List Int} {j : Nat} {x : Int} (h : (drawnL n f g i ps)[j]? = some x) : ∃ p, ps[j]? = some p ∧ x = clampI p (g + ((j : Nat) - i) * n) (g + ((j : Nat) - i) * f) := by
  have hj : j < ps.length := by
    have := (List.getElem?_eq_some_iff.mp h).1
    rwa [drawn_len] at this
  have hp := List.getElem?_eq_getElem hj
  rw [drawn_get hp] at h
  exact ⟨_, hp, (Option.some.inj h).symm⟩
theorem R3.drawn {r : Int → Int → Int → Prop} (K : Kept r) {ps qs ss : List Int} (h : R3 r ps qs ss) (n f g i : Int) : R3 r (drawnL n f g i ps) (drawnL n f g i qs) (drawnL n f g i ss) := by
  obtain ⟨h1, h2, h3⟩ := h
  refine ⟨by rw [drawn_len, drawn_len, h1], by rw [drawn_len, drawn_len, h2], fun j x y z hx hy hz => ?_⟩
  obtain ⟨p, hp, rfl⟩ := drawn_of hx
  obtain ⟨q, hq, rfl⟩ := drawn_of hy
  obtain ⟨s, hs, rfl⟩ := drawn_of hz
  exact K.cl _ _ _ _ _ (h3 j p q s hp hq hs)
theorem R3.map {r : Int → Int → Int → Prop} (K : Kept r) {ps qs ss : List Int} (h : R3 r ps qs ss) (c : Int) : R3 r (ps.map (· + c)) (qs.map (· + c)) (ss.map (· + c)) := by
  obtain ⟨h1, h2, h3⟩ := h
  refine ⟨by simp [h1], by simp [h2], fun j x y z hx hy hz => ?_⟩
  rw [List.getElem?_map] at hx hy hz
  cases e1 : ps[j]? with
  | none => rw [e1] at hx; cases hx
  | some p =>
    cases e2 : qs[j]? with
    | none => rw [e2] at hy; cases hy
    | some q =>
      cases e3 : ss[j]? with
      | none => rw [e3] at hz; cases hz
      | some s =>
        rw [e1] at hx; rw [e2] at hy; rw [e3] at hz
        cases hx; cases hy; cases hz
        exact K.add _ _ _ _ (h3 j p q s e1 e2 e3)
theorem R3.drop {r : Int → Int → Int → Prop} {ps qs ss : List Int} (h : R3 r ps qs ss) : R3 r (ps.drop 1) (qs.drop 1) (ss.drop 1) := by
  obtain ⟨h1, h2, h3⟩ := h
  refine ⟨by simp [h1], by simp [h2], fun j x y z hx hy hz => ?_⟩
  rw [List.getElem?_drop] at hx hy hz
  exact h3 _ _ _ _ hx hy hz
theorem take_get {l : List Int} {k j : Nat} {x : Int} (h : (l.take k)[j]? = some x) : l[j]? = some x := by
  have hj : j < (l.take k).length := (List.getElem?_eq_some_iff.mp h).1
  rw [List.getElem?_take] at h
  split at h
  · exact h
  · cases h
theorem R3.take {r : Int → Int → Int → Prop} {ps qs ss : List Int} (h : R3 r ps qs ss) : R3 r (ps.take (ps.length - 1)) (qs.take (qs.length - 1)) (ss.take (ss.length - 1)) := by
  obtain ⟨h1, h2, h3⟩ := h
  refine ⟨by simp [h1], by simp [h2], fun j x y z hx hy hz => ?_⟩
  exact h3 j _ _ _ (take_get hx) (take_get hy) (take_get hz)
theorem R3.cons {r : Int → Int → Int → Prop} (K : Kept r) {ps qs ss : List Int} (h : R3 r ps qs ss) (c : Int) : R3 r (c :: ps) (c :: qs) (c :: ss) := by
  obtain ⟨h1, h2, h3⟩ := h
  refine ⟨by simp [h1], by simp [h2], fun j x y z hx hy hz => ?_⟩
  cases j with
  | zero => simp at hx hy hz; subst hx hy hz; exact K.rf _
  | succ j => exact h3 j _ _ _ (by simpa using hx) (by simpa using hy) (by simpa using hz)
theorem app_getE {l : List Int} {c x : Int} {j : Nat} (h : (l ++ [c])[j]? = some x) : (j < l.length ∧ l[j]? = some x) ∨ (j = l.length ∧ x = c) := by
  by_cases hj : j < l.length
  · rw [List.getElem?_append_left hj] at h; exact .inl ⟨hj, h⟩
  · have hl := (List.getElem?_eq_some_iff.mp h).1
    rw [List.length_append, List.length_singleton] at hl
    have e : j = l.length := by omega
    subst e
    rw [List.getElem?_append_right (Nat.le_refl _), Nat.sub_self] at h
    exact .inr ⟨rfl, (Option.some.inj h).symm⟩
theorem R3.snoc {r : Int → Int → Int → Prop} (K : Kept r) {ps qs ss : List Int} (h : R3 r ps qs ss) (c : Int) : R3 r (ps ++ [c]) (qs ++ [c]) (ss ++ [c]) := by
  obtain ⟨h1, h2, h3⟩ := h
  refine ⟨by simp [h1], by simp [h2], fun j x y z hx hy hz => ?_⟩
  rcases app_getE hx with ⟨l1, hx⟩ | ⟨l1, rfl⟩ <;> rcases app_getE hy with ⟨l2, hy⟩ | ⟨l2, rfl⟩ <;> rcases app_getE hz with ⟨l3, hz⟩ | ⟨l3, rfl⟩ <;> first | exact h3 _ _ _ _ hx hy hz | exact K.rf _ | omega
theorem step_e {n f : Int} {e : Option Int} {ps qs : List Int} {m : Mv} : (mvStep n f (e, ps) m).1 = (mvStep n f (e, qs) m).1 := by
  cases m with
  | on l p => cases l <;> rfl
  | off l => cases l <;> rfl
  | _ => rfl
theorem R3.step {r : Int → Int → Int → Prop} (K : Kept r) {ps qs ss : List Int} (h : R3 r ps qs ss) (n f : Int) (e : Option Int) (m : Mv) : R3 r (mvStep n f (e, ps) m).2 (mvStep n f (e, qs) m).2 (mvStep n f (e, ss) m).2 := by
  have h1 := h.1
  have h2 := h.2.1
  cases m with
  | sm p => exact h
  | car p => exact h.map K p
  | off l =>
    cases l with
    | true => exact h.drop
    | false => exact h.take
  | on l p =>
    cases l with
    | true => exact (h.cons K p).drawn K _ _ _ _
    | false =>
      have := (h.snoc K p).drawn K n f (goalOf n e ps.length p) ps.length
      simp only [mvStep]
      rw [← h1, ← h2]
      exact this
  | lft r p => exact h.drawn K _ _ _ _
  | rgt r p =>
    have := h.drawn K n f (goalOf n e (ps.length - r) p) (ps.length - r)
    simp only [mvStep]
    rw [← h1, ← h2]
    exact this
theorem R3.led {r : Int → Int → Int → Prop} (K : Kept r) : ∀ (ms : List Mv) {ps qs ss : List Int} (n f : Int) (e : Option Int), R3 r ps qs ss → R3 r (ledL n f (e, ps) ms).2 (ledL n f (e, qs) ms).2 (ledL n f (e, ss) ms).2
  | [], _, _, _, _, _, _, h => h
  | m :: ms, ps, qs, ss, n, f, e, h => by
    have h2 := h.step K n f e m
    have e1 : mvStep n f (e, qs) m = ((mvStep n f (e, ps) m).1, (mvStep n f (e, qs) m).2) := by rw [step_e (ps := ps) (qs := qs)]
    have e2 : mvStep n f (e, ss) m = ((mvStep n f (e, ps) m).1, (mvStep n f (e, ss) m).2) := by rw [step_e (ps := ps) (qs := ss)]
    have := R3.led K ms n f (mvStep n f (e, ps) m).1 h2
    show R3 r (ledL n f (mvStep n f (e, ps) m) ms).2 (ledL n f (mvStep n f (e, qs) m) ms).2 (ledL n f (mvStep n f (e, ss) m) ms).2
    rw [e1, e2]
    exact this
/-! ### numbers of rings -/
theorem fold_mono : ∀ (ms : List Mv) (a s : Int), a ≤ (ms.foldl leastStep (a, s)).1
  | [], a, s => Int.le_refl _
  | m :: ms, a, s => by
    have := fold_mono ms (max a (askOf m - s)) (s + moreOf m)
    show a ≤ (ms.foldl leastStep (max a (askOf m - s), s + moreOf m)).1
    omega
theorem doable_of : ∀ (ms : List Mv) (a s c : Int), (ms.foldl leastStep (a, s)).1 ≤ c → doable ms (c + s)
  | [], _, _, _, _ => trivial
  | m :: ms, a, s, c, h => by
    have h : (ms.foldl leastStep (max a (askOf m - s), s + moreOf m)).1 ≤ c := h
    have h1 := fold_mono ms (max a (askOf m - s)) (s + moreOf m)
    refine ⟨by omega, ?_⟩
    have := doable_of ms _ _ c h
    rwa [← Int.add_assoc] at this
theorem doable_least {ms : List Mv} {c : Int} (h : leastFor ms ≤ c) : doable ms c := by
  have := doable_of ms 1 0 c h
  rwa [Int.add_zero] at this
theorem least_pos (ms : List Mv) : 1 ≤ leastFor ms := fold_mono ms 1 0
theorem fold_le : ∀ (ms : List Mv) (a s : Int), (∀ m ∈ ms, okMv m) → (ms.foldl leastStep (a, s)).1 ≤ max a (5 - s + ms.length)
  | [], a, s, _ => by simp; omega
  | m :: ms, a, s, o => by
    have := fold_le ms (max a (askOf m - s)) (s + moreOf m) fun x hx => o x (List.mem_cons_of_mem _ hx)
    have om := o m List.mem_cons_self
    have h1 : askOf m ≤ 5 := by
      cases m with
      | lft r p => exact om.2.1
      | rgt r p => exact om.2.1
      | _ => simp [askOf]
    have h2 : -1 ≤ moreOf m := by cases m <;> simp [moreOf]
    show (ms.foldl leastStep (max a (askOf m - s), s + moreOf m)).1 ≤ _
    rw [List.length_cons]
    omega
theorem least_le {ms : List Mv} (o : ∀ m ∈ ms, okMv m) : leastFor ms ≤ 5 + ms.length := by
  have := fold_le ms 1 0 o
  unfold leastFor
  omega
theorem doable_pos : ∀ {ms : List Mv} {c : Int}, 1 ≤ c → doable ms c → 1 ≤ c + chg ms
  | [], c, h, _ => by simp [chg]; exact h
  | m :: ms, c, h, d => by
    have h1 : 1 ≤ c + moreOf m := by
      have := d.1
      cases m <;> simp [askOf, moreOf] at * <;> omega
    have := doable_pos h1 d.2
    rw [chg_cons]
    omega
/-! ### three that are kept -/
theorem kept_max : Kept fun p q s => s = max p q := ⟨fun p q s a b h => by subst h; unfold clampI; omega, fun p q s c h => by omega, fun p => by omega⟩
theorem kept_near (d : Int) (hd : 0 ≤ d) : Kept fun p q _ => p - q ≤ d ∧ q - p ≤ d := ⟨fun p q s a b h => by unfold clampI; omega, fun p q s c h => by omega, fun p => by omega⟩
theorem kept_up (d : Int) (hd : 0 ≤ d) : Kept fun p q _ => p ≤ q ∧ q ≤ p + d := ⟨fun p q s a b h => by unfold clampI; omega, fun p q s c h => by omega, fun p => by omega⟩
theorem okSt_max {n f : Int} {e : Option Int} {ps qs : List Int} (h1 : okSt n f e ps) (h2 : okSt n f e qs) : okSt n f e (ps.zipWith max qs) := by
  refine ⟨fun x hx p hp => ?_, fun i p q hp hq => ?_⟩
  · rw [List.getElem?_zipWith] at hp
    cases e1 : ps[0]? with
    | none => rw [e1] at hp; cases hp
    | some a =>
      cases e2 : qs[0]? with
      | none => rw [e1, e2] at hp; cases hp
      | some b =>
        rw [e1, e2] at hp
        cases hp
        have := h1.1 x hx a e1
        omega
  · rw [List.getElem?_zipWith] at hp hq
    cases e1 : ps[i]? with
    | none => rw [e1] at hp; cases hp
    | some a =>
      cases e2 : qs[i]? with
      | none => rw [e1, e2] at hp; cases hp
      | some b =>
        cases e3 : ps[i + 1]? with
        | none => rw [e3] at hq; cases hq
        | some a' =>
          cases e4 : qs[i + 1]? with
          | none => rw [e3, e4] at hq; cases hq
          | some b' =>
            rw [e1, e2] at hp
            rw [e3, e4] at hq
            cases hp
            cases hq
            have := h1.2 i a a' e1 e3
            have := h2.2 i b b' e2 e4
            omega
theorem okSt_add {n f c : Int} {e : Option Int} {ps : List Int} (h : okSt n f e ps) (hc : 0 ≤ c) : okSt n f e (ps.map (· + c)) := by
  refine ⟨fun x hx p hp => ?_, fun i p q hp hq => ?_⟩
  · rw [List.getElem?_map] at hp
    cases e1 : ps[0]? with
    | none => rw [e1] at hp; cases hp
    | some a =>
      rw [e1] at hp; cases hp
      have := h.1 x hx a e1
      show x ≤ a + c
      omega
  · rw [List.getElem?_map] at hp hq
    cases e1 : ps[i]? with
    | none => rw [e1] at hp; cases hp
    | some a =>
      cases e2 : ps[i + 1]? with
      | none => rw [e2] at hq; cases hq
      | some b =>
        rw [e1] at hp; rw [e2] at hq
        cases hp; cases hq
        have := h.2 i a b e1 e2
        show n ≤ (b + c) - (a + c) ∧ (b + c) - (a + c) ≤ f
        omega
end T

set_option maxRecDepth 100000
set_option maxHeartbeats 4000000
set_option exponentiation.threshold 5000
namespace T
open PySem L2 EV
local macro_rules
  | `(tactic| simp only [ev2x, $ls,*]) => `(tactic| simp only [wE_var, wE_cst, wE_glb, wE_prim, wE_tup, wE_lst, wE_ife, wE_and2, wE_or2, wE_not1, wE_chain, wE_chain3, wE_call, wE_callK, wE_methK, wE_makeK, wE_fld, wE_meth, wE_make, wE_slc, wE_lc, wE_tm, wE_isC, wE_makeS, wE_makeV, wE_cmeth, wA_nil, wA_cons, wA_star, wO_no, wO_so, wT_tt, wT_and2, wT_or2, wT_not1, wT_val, wG_nm, wG_sub, wG_fld, wG_tp, wI_seq, wI_range1, wI_range2, wI_range3, wI_enum, wI_zip, wI_str, wS_asg, wS_setF, wS_par2, wS_par3, wS_aug, wS_app, wS_ext, wS_ins, wS_pop, wS_expr, wS_ife, wS_for, wS_while, wS_ret, wS_retN, wS_brk, wS_cnt, wS_pass, wS_never, lcB_nil, lcB_cons, lcF_e, th_rt, th_bk, th_ct, wGs_nil, wGs_cons, lk_nx, lk_ct, lk_bk, lk_rt, rhoI, rhoA, nos, nref, List.length_cons, List.length_nil, Nat.reduceAdd, Nat.reduceSub, Nat.sub_self, List.cons_append, List.nil_append, Nat.zero_add, ep0, ep1, ep2, ep3, ep4, ep5, ep6, ep7, ep8, ep9, ep10, ep11, ep12, ep13, ep14, ep15, ep16, ep17, ep18, ep19, ep20, ep21, ep22, ep23, ep24, ep25, ep26, ep27, ep28, ep29, ep30, ep31, ep32, ep33, ep34, ep35, ep36, ep37, ep38, ep39, ep40, ep41, ep42, ep43, ep44, ep45, ep46, ep47, ep48, ep49, ep50, ep51, ep52, ep53, ep54, ep55, ep56, es_lst, es_scr, es_tup, es_str, of_it, of_nw, sd_val, sd_own, ct_val, ct_tmp, ct_loc, cs_nil, cs_val, cs_tmp, cs_loc, cp_val, cp_tmp, cp_loc, g0, gs, bd_tmp, bd_val, bd_loc, st0, sts, ex_some, ob_map, ob_bind, br_t, br_f, br_not, fw_nx, fw_val, fw_tmp, fw_loc, rs_t, rs_f, oo_0, isa_obj, k_isNon_non, k_isNon_bl, k_isNon_int, k_isNon_str, k_isNon_tup, k_isNon_lst, k_isNon_obj, k_isIntD_non, k_isIntD_bl, k_isIntD_int, k_isIntD_str, k_isIntD_tup, k_isIntD_lst, k_isBlD_non, k_isBlD_bl, k_isBlD_int, k_isBlD_str, k_isBlD_tup, k_isBlD_lst, k_isTupD_non, k_isTupD_bl, k_isTupD_int, k_isTupD_str, k_isTupD_tup, k_isTupD_lst, k_isStrD_non, k_isStrD_bl, k_isStrD_int, k_isStrD_str, k_isStrD_tup, k_isStrD_lst, iso_obj, mk_outs, passL, refsOk, putOuts, capL, true_and, and_true, List.map_cons, List.map_nil, exists_eq_left, Option.some.injEq, flat, exists_const, exists_eq, exists_eq', exists_eq_left', and_self, DV.bl.injEq, DV.int.injEq, DV.str.injEq, DV.tup.injEq, DV.lst.injEq, cm_int, cm_bl, cm_non, cm_str, dq_int, dq_str, dq_bl, dq_nn, dq_in, dq_ni, exists_and_left, DV.obj.injEq, putN, putD, List.not_mem_nil, not_false_eq_true, or_false, false_or, exists_false, false_and, and_false, if_true, if_false, EV.Res.loc.injEq, EV.Slot.own.injEq, EV.Slot.val.injEq, and_assoc, r1_loc, r1_val, r1_tmp, b1_tmp, b1_val, n_0, n_1, n_2, n_3, n_4, n_5, n_6, n_7, Int.reduceBEq, Int.reduceBNe, Int.reduceLT, Int.reduceLE, Int.reduceEq, Int.reduceNeg, decide_true, decide_false, beq_self_eq_true, Bool.not_true, Bool.not_false, PR.it.injEq, PR.nw.injEq, reduceCtorEq, ne_eq, not_false_eq_true, implies_true, lc_nil, lc_cons, at_0, at_1, at_2, at_3, Option.toList_some, Option.toList_none, List.any_cons, List.any_nil, List.all_cons, List.all_nil, Bool.or_false, Bool.and_true, Bool.true_or, Bool.or_true, Bool.false_or, Bool.and_false, Bool.false_and, Bool.true_and, Bool.and_self, Bool.or_self, boolsD, tr_bl, tr_int, tr_non, tr_tup, tr_lst, bk_lst, bk_tup, sk_lst, sk_tup, sk_scr, sk_str, so_scr, lo_lst, to_tup, el_lst, et_tup, sy_val, sy_tmp, sy_loc, seqOf, itemsOf, Option.bind_some, tgN, wipeR, backR, Option.getD_some, plainSlots, List.mem_singleton, forall_eq, $ls,*])
  | `(tactic| simp only [ev2x]) => `(tactic| simp only [wE_var, wE_cst, wE_glb, wE_prim, wE_tup, wE_lst, wE_ife, wE_and2, wE_or2, wE_not1, wE_chain, wE_chain3, wE_call, wE_callK, wE_methK, wE_makeK, wE_fld, wE_meth, wE_make, wE_slc, wE_lc, wE_tm, wE_isC, wE_makeS, wE_makeV, wE_cmeth, wA_nil, wA_cons, wA_star, wO_no, wO_so, wT_tt, wT_and2, wT_or2, wT_not1, wT_val, wG_nm, wG_sub, wG_fld, wG_tp, wI_seq, wI_range1, wI_range2, wI_range3, wI_enum, wI_zip, wI_str, wS_asg, wS_setF, wS_par2, wS_par3, wS_aug, wS_app, wS_ext, wS_ins, wS_pop, wS_expr, wS_ife, wS_for, wS_while, wS_ret, wS_retN, wS_brk, wS_cnt, wS_pass, wS_never, lcB_nil, lcB_cons, lcF_e, th_rt, th_bk, th_ct, wGs_nil, wGs_cons, lk_nx, lk_ct, lk_bk, lk_rt, rhoI, rhoA, nos, nref, List.length_cons, List.length_nil, Nat.reduceAdd, Nat.reduceSub, Nat.sub_self, List.cons_append, List.nil_append, Nat.zero_add, ep0, ep1, ep2, ep3, ep4, ep5, ep6, ep7, ep8, ep9, ep10, ep11, ep12, ep13, ep14, ep15, ep16, ep17, ep18, ep19, ep20, ep21, ep22, ep23, ep24, ep25, ep26, ep27, ep28, ep29, ep30, ep31, ep32, ep33, ep34, ep35, ep36, ep37, ep38, ep39, ep40, ep41, ep42, ep43, ep44, ep45, ep46, ep47, ep48, ep49, ep50, ep51, ep52, ep53, ep54, ep55, ep56, es_lst, es_scr, es_tup, es_str, of_it, of_nw, sd_val, sd_own, ct_val, ct_tmp, ct_loc, cs_nil, cs_val, cs_tmp, cs_loc, cp_val, cp_tmp, cp_loc, g0, gs, bd_tmp, bd_val, bd_loc, st0, sts, ex_some, ob_map, ob_bind, br_t, br_f, br_not, fw_nx, fw_val, fw_tmp, fw_loc, rs_t, rs_f, oo_0, isa_obj, k_isNon_non, k_isNon_bl, k_isNon_int, k_isNon_str, k_isNon_tup, k_isNon_lst, k_isNon_obj, k_isIntD_non, k_isIntD_bl, k_isIntD_int, k_isIntD_str, k_isIntD_tup, k_isIntD_lst, k_isBlD_non, k_isBlD_bl, k_isBlD_int, k_isBlD_str, k_isBlD_tup, k_isBlD_lst, k_isTupD_non, k_isTupD_bl, k_isTupD_int, k_isTupD_str, k_isTupD_tup, k_isTupD_lst, k_isStrD_non, k_isStrD_bl, k_isStrD_int, k_isStrD_str, k_isStrD_tup, k_isStrD_lst, iso_obj, mk_outs, passL, refsOk, putOuts, capL, true_and, and_true, List.map_cons, List.map_nil, exists_eq_left, Option.some.injEq, flat, exists_const, exists_eq, exists_eq', exists_eq_left', and_self, DV.bl.injEq, DV.int.injEq, DV.str.injEq, DV.tup.injEq, DV.lst.injEq, cm_int, cm_bl, cm_non, cm_str, dq_int, dq_str, dq_bl, dq_nn, dq_in, dq_ni, exists_and_left, DV.obj.injEq, putN, putD, List.not_mem_nil, not_false_eq_true, or_false, false_or, exists_false, false_and, and_false, if_true, if_false, EV.Res.loc.injEq, EV.Slot.own.injEq, EV.Slot.val.injEq, and_assoc, r1_loc, r1_val, r1_tmp, b1_tmp, b1_val, n_0, n_1, n_2, n_3, n_4, n_5, n_6, n_7, Int.reduceBEq, Int.reduceBNe, Int.reduceLT, Int.reduceLE, Int.reduceEq, Int.reduceNeg, decide_true, decide_false, beq_self_eq_true, Bool.not_true, Bool.not_false, PR.it.injEq, PR.nw.injEq, reduceCtorEq, ne_eq, not_false_eq_true, implies_true, lc_nil, lc_cons, at_0, at_1, at_2, at_3, Option.toList_some, Option.toList_none, List.any_cons, List.any_nil, List.all_cons, List.all_nil, Bool.or_false, Bool.and_true, Bool.true_or, Bool.or_true, Bool.false_or, Bool.and_false, Bool.false_and, Bool.true_and, Bool.and_self, Bool.or_self, boolsD, tr_bl, tr_int, tr_non, tr_tup, tr_lst, bk_lst, bk_tup, sk_lst, sk_tup, sk_scr, sk_str, so_scr, lo_lst, to_tup, el_lst, et_tup, sy_val, sy_tmp, sy_loc, seqOf, itemsOf, Option.bind_some, tgN, wipeR, backR, Option.getD_some, plainSlots, List.mem_singleton, forall_eq])
  | `(tactic| simp only [evix, $ls,*]) => `(tactic| simp only [rhoI, rhoA, nos, nref, List.length_cons, List.length_nil, Nat.reduceAdd, Nat.reduceSub, Nat.sub_self, List.cons_append, List.nil_append, Nat.zero_add, $ls,*])
  | `(tactic| simp only [evix]) => `(tactic| simp only [rhoI, rhoA, nos, nref, List.length_cons, List.length_nil, Nat.reduceAdd, Nat.reduceSub, Nat.sub_self, List.cons_append, List.nil_append, Nat.zero_add])
local macro_rules
  | `(tactic| simp only [evsx, $ls,*]) => `(tactic| simp only [ev2x, sk_l, q_ll, q_lr, q_ls, q_lt, q_ln, q_lc, q_lo, q_lh, q_lf, q_le, sk_r, q_rl, q_rr, q_rs, q_rt, q_rn, q_rc, q_ro, q_rh, q_rf, q_re, sk_s, q_sl, q_sr, q_ss, q_st, q_sn, q_sc, q_so, q_sh, q_sf, q_se, sk_t, q_tl, q_tr, q_ts, q_tt, q_tn, q_tc, q_to, q_th, q_tf, q_te, sk_n, q_nl, q_nr, q_ns, q_nt, q_nn, q_nc, q_no, q_nh, q_nf, q_ne, sk_c, q_cl, q_cr, q_cs, q_ct, q_cn, q_cc, q_co, q_ch, q_cf, q_ce, sk_o, q_ol, q_or, q_os, q_ot, q_on, q_oc, q_oo, q_oh, q_of, q_oe, sk_h, q_hl, q_hr, q_hs, q_ht, q_hn, q_hc, q_ho, q_hh, q_hf, q_he, sk_f, q_fl, q_fr, q_fs, q_ft, q_fn, q_fc, q_fo, q_fh, q_ff, q_fe, sk_e, q_el, q_er, q_es, q_et, q_en, q_ec, q_eo, q_eh, q_ef, q_ee, $ls,*])
  | `(tactic| simp only [evsx]) => `(tactic| simp only [ev2x, sk_l, q_ll, q_lr, q_ls, q_lt, q_ln, q_lc, q_lo, q_lh, q_lf, q_le, sk_r, q_rl, q_rr, q_rs, q_rt, q_rn, q_rc, q_ro, q_rh, q_rf, q_re, sk_s, q_sl, q_sr, q_ss, q_st, q_sn, q_sc, q_so, q_sh, q_sf, q_se, sk_t, q_tl, q_tr, q_ts, q_tt, q_tn, q_tc, q_to, q_th, q_tf, q_te, sk_n, q_nl, q_nr, q_ns, q_nt, q_nn, q_nc, q_no, q_nh, q_nf, q_ne, sk_c, q_cl, q_cr, q_cs, q_ct, q_cn, q_cc, q_co, q_ch, q_cf, q_ce, sk_o, q_ol, q_or, q_os, q_ot, q_on, q_oc, q_oo, q_oh, q_of, q_oe, sk_h, q_hl, q_hr, q_hs, q_ht, q_hn, q_hc, q_ho, q_hh, q_hf, q_he, sk_f, q_fl, q_fr, q_fs, q_ft, q_fn, q_fc, q_fo, q_fh, q_ff, q_fe, sk_e, q_el, q_er, q_es, q_et, q_en, q_ec, q_eo, q_eh, q_ef, q_ee])
/-! ### law k31 -/
def isSq (d : DV) (ps : List Int) : Prop := d = .lst (iL ps) ∨ d = .tup (iL ps)
def fi_greatest : FI := ⟨[false, false], fun ds k => ∃ d1 d2 ps qs, ds = [d1, d2] ∧ isSq d1 ps ∧ isSq d2 qs ∧ ps.length = qs.length ∧ 1 ≤ ps.length ∧ ps.length ≤ 1000 ∧
  ∀ g, (∃ (i : Nat) (p q : Int), ps[i]? = some p ∧ qs[i]? = some q ∧ (g = p - q ∨ g = q - p)) → (∀ (i : Nat) (p q : Int), ps[i]? = some p → qs[i]? = some q → p - q ≤ g ∧ q - p ≤ g) → k false (.int g) []⟩
theorem sp_greatest (ds : List DV) (k : Bool → DV → List DV → Prop) : fi_greatest.spec ds k = (∃ d1 d2 ps qs, ds = [d1, d2] ∧ isSq d1 ps ∧ isSq d2 qs ∧ ps.length = qs.length ∧ 1 ≤ ps.length ∧ ps.length ≤ 1000 ∧
  ∀ g, (∃ (i : Nat) (p q : Int), ps[i]? = some p ∧ qs[i]? = some q ∧ (g = p - q ∨ g = q - p)) → (∀ (i : Nat) (p q : Int), ps[i]? = some p → qs[i]? = some q → p - q ≤ g ∧ q - p ≤ g) → k false (.int g) []) := rfl
theorem md_greatest : fi_greatest.modes = [false, false] := rfl
def absI (x : Int) : Int := if x < 0 then -x else x
theorem abs_e (x : Int) : (if x < 0 then -x else x) = absI x := rfl
/-- of a sequence by its kind -/
theorem ix_sq {d : DV} {ps : List Int} (h : isSq d ps) (i : Int) (k : PR → Prop) : evalP .ix [d, .int i] k = ∃ x, atI (iL ps) i = some x ∧ k (.it x) := by
  rcases h with rfl | rfl <;> rfl
theorem len_sq {d : DV} {ps : List Int} (h : isSq d ps) (k : PR → Prop) : evalP .len [d] k = k (.it (.int ps.length)) := by
  rcases h with rfl | rfl
  · rw [ep24, in_len]
  · rw [ep25, in_len]
def diffs (ps qs : List Int) : List Int := ps.zipWith (fun p q => absI (p - q)) qs
theorem diffs_get {ps qs : List Int} {i : Nat} {p q : Int} (h1 : ps[i]? = some p) (h2 : qs[i]? = some q) : (diffs ps qs)[i]? = some (absI (p - q)) := by
  unfold diffs
  rw [List.getElem?_zipWith, h1, h2]
theorem zip_take {f : Int → Int → Int} {ps qs : List Int} {i : Nat} {p q : Int} (h1 : ps[i]? = some p) (h2 : qs[i]? = some q) : (ps.zipWith f qs).take (i + 1) = (ps.zipWith f qs).take i ++ [f p q] := by
  rw [List.take_add_one, List.getElem?_zipWith, h1, h2]; rfl
theorem v_greatest (G : Genv) : ∀ ds k, ds.length = fi_greatest.modes.length → fi_greatest.spec ds k → wpSs G b__law_greatest (rhoI 3 fi_greatest.modes ds) (finW (nref fi_greatest.modes) k) := by
  intro ds k hl h
  rw [sp_greatest] at h
  obtain ⟨d1, d2, ps, qs, rfl, q1, q2, hle, l1, l2, h⟩ := h
  have hz : ps.length ≤ sizeLine := big_l l2
  simp only [evix, md_greatest]
  (try simp only [u__law_greatest, wSs_nil, th_nx]); (try simp only [evsx, len_sq q1, rd_len, hz])
  refine ⟨by omega, by omega, by rw [Int.toNat_natCast]; exact hz, ?_⟩
  refine lcB_inv (I := fun j acc ρ => acc = iL ((diffs ps qs).take j) ∧ ρ = [.val d1, .val d2, .no]) ⟨rfl, rfl⟩ ?_ ?_
  · rintro j d ρ acc K hd ⟨rfl, rfl⟩ hK
    obtain ⟨hj, rfl⟩ := rd_of hd
    rw [Int.toNat_natCast] at hj
    have e1 := List.getElem?_eq_getElem hj
    have e2 := List.getElem?_eq_getElem (l := qs) (i := j) (by omega)
    have a1 : atI (iL ps) (0 + (j : Nat)) = some (.int ps[j]) := at_of (by rw [in_get, e1]; rfl) (by omega)
    have a2 : atI (iL qs) (0 + (j : Nat)) = some (.int qs[j]) := at_of (by rw [in_get, e2]; rfl) (by omega)
    simp only [evsx, ix_sq q1, ix_sq q2, a1, a2, abs_e]
    refine hK _ _ ⟨?_, rfl⟩
    rw [diffs, zip_take e1 e2]
    simp [iL]
  · rintro acc ρ ⟨rfl, rfl⟩
    have hdl : (diffs ps qs).length = ps.length := by simp [diffs, hle]
    have et : (diffs ps qs).take (rangeD 0 (ps.length : Int).toNat).length = diffs ps qs := by rw [rd_len, Int.toNat_natCast, ← hdl, List.take_length]
    simp only [evsx, et, in_ints]
    refine ⟨by omega, fun m hm hle2 => ?_⟩
    obtain ⟨i, hi⟩ := List.getElem?_of_mem hm
    have hi' := (List.getElem?_eq_some_iff.mp hi).1
    have e1 := List.getElem?_eq_getElem (l := ps) (i := i) (by omega)
    have e2 := List.getElem?_eq_getElem (l := qs) (i := i) (by omega)
    rw [diffs_get e1 e2] at hi
    cases hi
    refine h _ ⟨i, _, _, e1, e2, ?_⟩ fun i' p q hp hq => ?_
    · unfold absI; split <;> omega
    · have := hle2 _ (List.mem_of_getElem? (diffs_get hp hq))
      revert this
      generalize absI (ps[i] - qs[i]) = z
      unfold absI
      split <;> omega
def fi_over : FI := ⟨[false, false], fun ds k => ∃ ps qs, ds = [.lst (iL ps), .lst (iL qs)] ∧ ps.length = qs.length ∧ ps.length ≤ 1000 ∧ k true (.lst (iL (ps.zipWith max qs))) []⟩
theorem sp_over (ds : List DV) (k : Bool → DV → List DV → Prop) : fi_over.spec ds k = (∃ ps qs, ds = [.lst (iL ps), .lst (iL qs)] ∧ ps.length = qs.length ∧ ps.length ≤ 1000 ∧ k true (.lst (iL (ps.zipWith max qs))) []) := rfl
theorem md_over : fi_over.modes = [false, false] := rfl
theorem v_over (G : Genv) : ∀ ds k, ds.length = fi_over.modes.length → fi_over.spec ds k → wpSs G b__law_over (rhoI 3 fi_over.modes ds) (finW (nref fi_over.modes) k) := by
  intro ds k hl h
  rw [sp_over] at h
  obtain ⟨ps, qs, rfl, hle, l2, h⟩ := h
  have hz : ps.length ≤ sizeLine := big_l l2
  simp only [evix, md_over]
  (try simp only [u__law_over, wSs_nil, th_nx]); (try simp only [evsx, in_len, rd_len])
  refine ⟨by omega, by omega, by rw [Int.toNat_natCast]; exact hz, ?_⟩
  refine lcB_inv (I := fun j acc ρ => acc = iL ((ps.zipWith max qs).take j) ∧ ρ = [.val (.lst (iL ps)), .val (.lst (iL qs)), .no]) ⟨rfl, rfl⟩ ?_ ?_
  · rintro j d ρ acc K hd ⟨rfl, rfl⟩ hK
    obtain ⟨hj, rfl⟩ := rd_of hd
    rw [Int.toNat_natCast] at hj
    have e1 := List.getElem?_eq_getElem hj
    have e2 := List.getElem?_eq_getElem (l := qs) (i := j) (by omega)
    have a1 : atI (iL ps) (0 + (j : Nat)) = some (.int ps[j]) := at_of (by rw [in_get, e1]; rfl) (by omega)
    have a2 : atI (iL qs) (0 + (j : Nat)) = some (.int qs[j]) := at_of (by rw [in_get, e2]; rfl) (by omega)
    simp only [evsx, a1, a2]
    refine branch_of (fun hb => ?_) (fun hb => ?_)
    · have hb := of_decide_eq_true hb
      refine hK _ _ ⟨?_, rfl⟩
      rw [zip_take e1 e2, show max ps[j] qs[j] = ps[j] by omega]
      simp [iL]
    · have hb := of_decide_eq_false hb
      refine hK _ _ ⟨?_, rfl⟩
      rw [zip_take e1 e2, show max ps[j] qs[j] = qs[j] by omega]
      simp [iL]
  · rintro acc ρ ⟨rfl, rfl⟩
    have et : (ps.zipWith max qs).take (rangeD 0 (ps.length : Int).toNat).length = ps.zipWith max qs := by
      rw [rd_len, Int.toNat_natCast, List.take_of_length_le]
      simp; omega
    simp only [evsx, et]
    exact h
def fi_right : FI := ⟨[true], fun ds k => ∃ a b c, ds = [spD a b c] ∧ okSp a b c ∧ ∀ a' b' c', okSp a' b' c' → k false (.bl true) [spD a' b' c']⟩
theorem sp_right (ds : List DV) (k : Bool → DV → List DV → Prop) : fi_right.spec ds k = (∃ a b c, ds = [spD a b c] ∧ okSp a b c ∧ ∀ a' b' c', okSp a' b' c' → k false (.bl true) [spD a' b' c']) := rfl
theorem md_right : fi_right.modes = [true] := rfl
theorem v_right (G : Genv) (h1 : G.fns "_law_draw" = some fi_draw) (h2 : G.fns "_law_rows" = some fi_lrows) (h3 : G.fns "_law_made" = some fi_made) (h4 : G.fns "_law_cloth" = some fi_lcloth) (h5 : G.fns "_law_least" = some fi_lleast) (h6 : G.fns "_law_change" = some fi_lchange) (h7 : G.fns "_law_standing" = some fi_lstand)
    (h8 : G.fns "_law_over" = some fi_over) (h9 : G.fns "led" = some fi_led) (h10 : G.fns "_law_greatest" = some fi_greatest) : ∀ ds k, ds.length = fi_right.modes.length → fi_right.spec ds k → wpSs G b__law_right (rhoI 15 fi_right.modes ds) (finW (nref fi_right.modes) k) := by
  intro ds k hl h
  rw [sp_right] at h
  obtain ⟨a, b, c, rfl, hc, h⟩ := h
  simp only [evix, md_right]
  (try simp only [u__law_right_t_5, u__law_right_t4b6a_0, u__law_right_t4b_6, u__law_right_t4b_5, u__law_right_t4b4a_0, u__law_right_t4b_4, u__law_right_t4b3b0a_0, u__law_right_t4b3b_0, u__law_right_t4b_3, u__law_right_t4b_2, u__law_right_t4b_1, u__law_right_t4b_0, u__law_right_t_4, u__law_right_t_3, u__law_right_t_2, u__law_right_t_1, u__law_right, wSs_nil, th_nx]); (try simp only [evsx, h2])
  rw [cw_e, md_lrows]
  (try simp only [evsx])
  refine ⟨a, b, c, rfl, hc, fun a1 b1 c1 n f e ms hc1 ho hms => ?_⟩
  (try simp only [evsx])
  have a0 : atI (sL (scRows n f e ms)) 0 = some (.str (clRow n f e)) := at_0 _ _
  (try simp only [u__law_right_t_5, u__law_right_t4b6a_0, u__law_right_t4b_6, u__law_right_t4b_5, u__law_right_t4b4a_0, u__law_right_t4b_4, u__law_right_t4b3b0a_0, u__law_right_t4b3b_0, u__law_right_t4b_3, u__law_right_t4b_2, u__law_right_t4b_1, u__law_right_t4b_0, u__law_right_t_4, u__law_right_t_3, u__law_right_t_2, u__law_right_t_1, u__law_right, wSs_nil, th_nx]); (try simp only [evsx, h3, h4])
  rw [cw_e, md_made]
  (try simp only [evsx, a0])
  refine ⟨n, f, e, ms, rfl, ho.ok, hms.ok, ?_⟩
  (try simp only [evsx, a0])
  rw [cw_e, md_lcloth]
  (try simp only [evsx])
  refine ⟨n, f, e, rfl, ho.ok, ?_⟩
  (try simp only [evsx])
  refine ⟨by decide, ?_⟩
  (try simp only [u__law_right_t_5, u__law_right_t4b6a_0, u__law_right_t4b_6, u__law_right_t4b_5, u__law_right_t4b4a_0, u__law_right_t4b_4, u__law_right_t4b3b0a_0, u__law_right_t4b3b_0, u__law_right_t4b_3, u__law_right_t4b_2, u__law_right_t4b_1, u__law_right_t4b_0, u__law_right_t_4, u__law_right_t_3, u__law_right_t_2, u__law_right_t_1, u__law_right, wSs_nil, th_nx]); (try simp only [evsx, h5, h1])
  rw [cw_e, md_lleast]
  (try simp only [evsx])
  refine ⟨n, f, e, ms, rfl, hms.ok, ?_⟩
  (try simp only [evsx])
  rw [cw_e, md_draw]
  (try simp only [evsx])
  refine ⟨a1, b1, c1, 7, rfl, hc1, by decide, by decide, fun a2 b2 c2 r hc2 r1 r2 => ?_⟩
  (try simp only [evsx])
  (try simp only [u__law_right_t_5, u__law_right_t4b6a_0, u__law_right_t4b_6, u__law_right_t4b_5, u__law_right_t4b4a_0, u__law_right_t4b_4, u__law_right_t4b3b0a_0, u__law_right_t4b3b_0, u__law_right_t4b_3, u__law_right_t4b_2, u__law_right_t4b_1, u__law_right_t4b_0, u__law_right_t_4, u__law_right_t_3, u__law_right_t_2, u__law_right_t_1, u__law_right, wSs_nil, th_nx]); (try simp only [evsx, h6])
  rw [cw_e, md_lchange]
  (try simp only [evsx])
  refine ⟨n, f, e, ms, rfl, hms.ok, ?_⟩
  (try simp only [evsx])
  have lp := least_pos ms
  have ll := least_le hms.2.1
  have hd : doable ms (leastFor ms + r) := doable_least (by omega)
  obtain ⟨nn, hnn⟩ : ∃ nn : Nat, leastFor ms + r = nn := ⟨(leastFor ms + r).toNat, by omega⟩
  rw [hnn] at hd ⊢
  have hml := hms.1
  have cp := doable_pos (by omega) hd
  (try simp only [u__law_right_t_5, u__law_right_t4b6a_0, u__law_right_t4b_6, u__law_right_t4b_5, u__law_right_t4b4a_0, u__law_right_t4b_4, u__law_right_t4b3b0a_0, u__law_right_t4b3b_0, u__law_right_t4b_3, u__law_right_t4b_2, u__law_right_t4b_1, u__law_right_t4b_0, u__law_right_t_4, u__law_right_t_3, u__law_right_t_2, u__law_right_t_1, u__law_right, wSs_nil, th_nx]); (try simp only [evsx])
  refine ⟨by decide, by decide, ?_⟩
  refine forB_inv (I := fun i ρ => ∃ a b c s4 s7 s8 s9 s10 s11 s12, okSp a b c ∧ (∀ t d, ¬ s9 = EV.Slot.own t d) ∧ ρ = [.own (some 0) (spD a b c), .val (.lst (sL (scRows n f e ms))), .val (.int nn), .val (.int (nn + chg ms)), s4, .val (scD n f e ms), .val (clD n f e), s7, s8, s9, s10, s11, s12, .no, .no]) ?_ ?_ ?_
  · exact ⟨a2, b2, c2, _, _, _, .no, _, _, _, hc2, (fun t d z => by cases z), rfl⟩
  · rintro i0 d ρ K hd' ⟨a, b, c, s4, s7, s8, s9, s10, s11, s12, hc, hs9, rfl⟩ hK
    obtain ⟨_, rfl⟩ := rd_of hd'
    rw [forF_e]
    simp only [evsx]
    (try simp only [u__law_right_t_5, u__law_right_t4b6a_0, u__law_right_t4b_6, u__law_right_t4b_5, u__law_right_t4b4a_0, u__law_right_t4b_4, u__law_right_t4b3b0a_0, u__law_right_t4b3b_0, u__law_right_t4b_3, u__law_right_t4b_2, u__law_right_t4b_1, u__law_right_t4b_0, u__law_right_t_4, u__law_right_t_3, u__law_right_t_2, u__law_right_t_1, u__law_right, wSs_nil, th_nx]); (try simp only [evsx, h7])
    rw [cw_e, md_lstand]
    (try simp only [evsx])
    refine ⟨a, b, c, n, f, e, nn, rfl, hc, ho.ok, by omega, by omega, fun a1 b1 c1 ps hc1 hps hst1 => ?_⟩
    (try simp only [evsx])
    rw [cw_e, md_lstand]
    (try simp only [evsx])
    refine ⟨a1, b1, c1, n, f, e, nn, rfl, hc1, ho.ok, by omega, by omega, fun a2 b2 c2 qs hc2 hqs hst2 => ?_⟩
    (try simp only [evsx])
    (try simp only [u__law_right_t_5, u__law_right_t4b6a_0, u__law_right_t4b_6, u__law_right_t4b_5, u__law_right_t4b4a_0, u__law_right_t4b_4, u__law_right_t4b3b0a_0, u__law_right_t4b3b_0, u__law_right_t4b_3, u__law_right_t4b_2, u__law_right_t4b_1, u__law_right_t4b_0, u__law_right_t_4, u__law_right_t_3, u__law_right_t_2, u__law_right_t_1, u__law_right, wSs_nil, th_nx]); (try simp only [evsx, h8])
    rw [cw_e, md_over]
    (try simp only [evsx])
    refine ⟨ps, qs, rfl, by omega, by omega, ?_⟩
    (try simp only [evsx])
    have hov : (ps.zipWith max qs).length = nn := by simp [hps, hqs]
    have ne1 : ps ≠ [] := by rintro rfl; simp at hps; omega
    have ne2 : qs ≠ [] := by rintro rfl; simp at hqs; omega
    have ne3 : ps.zipWith max qs ≠ [] := by intro z; rw [z] at hov; simp at hov; omega
    have r3 : R3 (fun p q s => s = max p q) ps qs (ps.zipWith max qs) := ⟨by omega, by omega, fun i p q s h1 h2 h3 => by
      rw [List.getElem?_zipWith, h1, h2] at h3
      exact (Option.some.inj h3).symm⟩
    (try simp only [u__law_right_t_5, u__law_right_t4b6a_0, u__law_right_t4b_6, u__law_right_t4b_5, u__law_right_t4b4a_0, u__law_right_t4b_4, u__law_right_t4b3b0a_0, u__law_right_t4b3b_0, u__law_right_t4b_3, u__law_right_t4b_2, u__law_right_t4b_1, u__law_right_t4b_0, u__law_right_t_4, u__law_right_t_3, u__law_right_t_2, u__law_right_t_1, u__law_right, wSs_nil, th_nx]); (try simp only [evsx, h9])
    refine ⟨by decide, by decide, ?_⟩
    rw [cw_e, md_led]
    (try simp only [evsx])
    refine ⟨n, f, e, ms, ps, rfl, ho.ok, by omega, hms.2.2, hst1, ne1, by omega, by rw [hps]; exact hd, ?_⟩
    (try simp only [evsx])
    rw [cw_e, md_led]
    (try simp only [evsx])
    refine ⟨n, f, e, ms, qs, rfl, ho.ok, by omega, hms.2.2, hst2, ne2, by omega, by rw [hqs]; exact hd, ?_⟩
    (try simp only [evsx])
    rw [cw_e, md_led]
    (try simp only [evsx])
    refine ⟨n, f, e, ms, _, rfl, ho.ok, by omega, hms.2.2, okSt_max hst1 hst2, ne3, by omega, by rw [hov]; exact hd, ?_⟩
    (try simp only [evsx])
    have L3 := r3.led kept_max ms n f e
    have lA := led_len (n := n) (f := f) (ms := ms) (st := (e, ps)) (by show doable ms ps.length; rw [hps]; exact hd)
    have lA : ((ledL n f (e, ps) ms).2.length : Int) = nn + chg ms := by rw [lA]; show (ps.length : Int) + _ = _; rw [hps]
    have le1 := led_le (n := n) (f := f) (ms := ms) (st := (e, ps))
    have le1 : (ledL n f (e, ps) ms).2.length ≤ nn + ms.length := by have z : ((e, ps) : Option Int × List Int).2.length = ps.length := rfl; omega
    obtain ⟨l1, l2, l3⟩ := L3
    generalize hA : (ledL n f (e, ps) ms).2 = A at *
    generalize hB : (ledL n f (e, qs) ms).2 = B at *
    generalize hC : (ledL n f (e, ps.zipWith max qs) ms).2 = C at *
    obtain ⟨cn, hcn⟩ : ∃ cn : Nat, (nn : Int) + chg ms = cn := ⟨A.length, lA.symm⟩
    have hA2 : A.length = cn := by omega
    (try simp only [u__law_right_t_5, u__law_right_t4b6a_0, u__law_right_t4b_6, u__law_right_t4b_5, u__law_right_t4b4a_0, u__law_right_t4b_4, u__law_right_t4b3b0a_0, u__law_right_t4b3b_0, u__law_right_t4b_3, u__law_right_t4b_2, u__law_right_t4b_1, u__law_right_t4b_0, u__law_right_t_4, u__law_right_t_3, u__law_right_t_2, u__law_right_t_1, u__law_right, wSs_nil, th_nx]); (try simp only [evsx, hcn])
    refine ⟨by omega, by omega, ?_⟩
    refine forB_inv (I := fun i ρ => ∃ s9, (∀ t d, ¬ s9 = EV.Slot.own t d) ∧ ρ = [.own (some 0) (spD a2 b2 c2), .val (.lst (sL (scRows n f e ms))), .val (.int nn), .val (.int cn), .val (.int (0 + (i0 : Nat))), .val (scD n f e ms), .val (clD n f e), .val (.lst (iL (ps.zipWith max qs))), .own none (.lst [.tup (iL A), .tup (iL B), .tup (iL C)]), s9, s10, .val (.lst (iL ps)), .val (.lst (iL qs)), .no, .no]) ?_ ?_ ?_
    · exact ⟨s9, hs9, rfl⟩
    · rintro j d ρ K2 hd2 ⟨s9, hs9, rfl⟩ hK2
      obtain ⟨hj, rfl⟩ := rd_of hd2
      rw [Int.toNat_natCast] at hj
      have e1 := List.getElem?_eq_getElem (l := A) (i := j) (by omega)
      have e2 := List.getElem?_eq_getElem (l := B) (i := j) (by omega)
      have e3 := List.getElem?_eq_getElem (l := C) (i := j) (by omega)
      have b1 : atI (iL A) (0 + (j : Nat)) = some (.int A[j]) := at_of (by rw [in_get, e1]; rfl) (by omega)
      have b2 : atI (iL B) (0 + (j : Nat)) = some (.int B[j]) := at_of (by rw [in_get, e2]; rfl) (by omega)
      have b3 : atI (iL C) (0 + (j : Nat)) = some (.int C[j]) := at_of (by rw [in_get, e3]; rfl) (by omega)
      have g := l3 j _ _ _ e1 e2 e3
      have f1 : decide (C[j] < A[j]) = false := decide_eq_false (by omega)
      have f2 : decide (C[j] < B[j]) = false := decide_eq_false (by omega)
      have f3 : (C[j] == max A[j] B[j]) = true := by rw [g]; exact beq_self_eq_true _
      rw [forF_e]
      simp only [evsx]
      (try simp only [u__law_right_t_5, u__law_right_t4b6a_0, u__law_right_t4b_6, u__law_right_t4b_5, u__law_right_t4b4a_0, u__law_right_t4b_4, u__law_right_t4b3b0a_0, u__law_right_t4b3b_0, u__law_right_t4b_3, u__law_right_t4b_2, u__law_right_t4b_1, u__law_right_t4b_0, u__law_right_t_4, u__law_right_t_3, u__law_right_t_2, u__law_right_t_1, u__law_right, wSs_nil, th_nx]); (try simp only [evsx, b1, b2, b3, f1, f2, f3, mx_e])
      exact hK2 _ ⟨_, (fun t d z => by cases z), rfl⟩
    · rintro ρ ⟨s9, hs9, rfl⟩
      have z1 : 1 ≤ ps.length := by omega
      (try simp only [u__law_right_t_5, u__law_right_t4b6a_0, u__law_right_t4b_6, u__law_right_t4b_5, u__law_right_t4b4a_0, u__law_right_t4b_4, u__law_right_t4b3b0a_0, u__law_right_t4b3b_0, u__law_right_t4b_3, u__law_right_t4b_2, u__law_right_t4b_1, u__law_right_t4b_0, u__law_right_t_4, u__law_right_t_3, u__law_right_t_2, u__law_right_t_1, u__law_right, wSs_nil, th_nx]); (try simp only [evsx, h10])
      rw [cw_e, md_greatest]
      (try simp only [evsx, h10])
      refine ⟨_, _, A, B, rfl, .inr rfl, .inr rfl, l1, by omega, by omega, fun g1 ⟨i1, p1, q1, hp1, hq1, hg1⟩ hle1 => ?_⟩
      (try simp only [evsx, h10])
      rw [cw_e, md_greatest]
      (try simp only [evsx])
      refine ⟨_, _, ps, qs, rfl, .inl rfl, .inl rfl, by omega, z1, by omega, fun g2 ⟨i2, p2, q2, hp2, hq2, hg2⟩ hle2 => ?_⟩
      (try simp only [evsx])
      have near : R3 (fun p q _ => p - q ≤ g2 ∧ q - p ≤ g2) ps qs qs := ⟨by omega, by omega, fun i p q s h1 h2 h3 => hle2 i p q h1 h2⟩
      have hg0 : 0 ≤ g2 := by have := hle2 i2 p2 q2 hp2 hq2; omega
      have near2 := near.led (kept_near g2 hg0) ms n f e
      rw [hA, hB] at near2
      have f4 : decide (g2 < g1) = false := decide_eq_false (by
        obtain ⟨q', hq'⟩ := get_some near2.1 hp1
        have := near2.2.2 i1 p1 q1 q1 hp1 hq1 hq1
        omega)
      simp only [evsx, f4]
      (try simp only [u__law_right_t_5, u__law_right_t4b6a_0, u__law_right_t4b_6, u__law_right_t4b_5, u__law_right_t4b4a_0, u__law_right_t4b_4, u__law_right_t4b3b0a_0, u__law_right_t4b3b_0, u__law_right_t4b_3, u__law_right_t4b_2, u__law_right_t4b_1, u__law_right_t4b_0, u__law_right_t_4, u__law_right_t_3, u__law_right_t_2, u__law_right_t_1, u__law_right, wSs_nil, th_nx]); (try simp only [evsx, h9])
      refine ⟨big_l (by rw [in_len]; omega), ?_⟩
      refine lcB_inv (I := fun j acc ρ => acc = iL ((ps.take j).map (· + 3)) ∧ ρ = [.own (some 0) (spD a2 b2 c2), .val (.lst (sL (scRows n f e ms))), .val (.int nn), .val (.int cn), .val (.int (0 + (i0 : Nat))), .val (scD n f e ms), .val (clD n f e), .val (.lst (iL (ps.zipWith max qs))), .own none (.lst [.tup (iL A), .tup (iL B), .tup (iL C)]), s9, s10, .val (.lst (iL ps)), .val (.lst (iL qs)), .no, .no]) ⟨rfl, rfl⟩ ?_ ?_
      · rintro j d ρ acc K2 hd2 ⟨rfl, rfl⟩ hK2
        rw [in_get] at hd2
        cases hq : ps[j]? with
        | none => rw [hq] at hd2; cases hd2
        | some q =>
          rw [hq] at hd2
          cases hd2
          simp only [evsx]
          refine hK2 _ _ ⟨?_, rfl⟩
          rw [List.take_add_one, hq]
          simp [iL]
      · rintro acc ρ ⟨rfl, rfl⟩
        have et : ps.take (iL ps).length = ps := by rw [in_len, List.take_length]
        have hup : R3 (fun p q _ => p ≤ q ∧ q ≤ p + 3) ps (ps.map (· + 3)) ps := ⟨by simp, rfl, fun i p q s h1 h2 h3 => by
          rw [List.getElem?_map, h1] at h2
          have := Option.some.inj h2
          dsimp only at this
          omega⟩
        have up2 := hup.led (kept_up 3 (by decide)) ms n f e
        rw [hA] at up2
        simp only [evsx, et]
        rw [cw_e, md_led]
        (try simp only [evsx])
        refine ⟨n, f, e, ms, ps.map (· + 3), rfl, ho.ok, by omega, hms.2.2, okSt_add hst1 (by decide), by simpa using ne1, by rw [List.length_map]; omega, by rw [List.length_map, hps]; exact hd, ?_⟩
        (try simp only [evsx])
        generalize hD : (ledL n f (e, ps.map (· + 3)) ms).2 = D at *
        obtain ⟨m1, m2, m3⟩ := up2
        (try simp only [u__law_right_t_5, u__law_right_t4b6a_0, u__law_right_t4b_6, u__law_right_t4b_5, u__law_right_t4b4a_0, u__law_right_t4b_4, u__law_right_t4b3b0a_0, u__law_right_t4b3b_0, u__law_right_t4b_3, u__law_right_t4b_2, u__law_right_t4b_1, u__law_right_t4b_0, u__law_right_t_4, u__law_right_t_3, u__law_right_t_2, u__law_right_t_1, u__law_right, wSs_nil, th_nx]); (try simp only [evsx, in_len, rd_len, hs9])
        refine ⟨by omega, by omega, big_l (by omega), ?_⟩
        refine lcB_inv (I := fun j acc ρ => acc = List.replicate j (DV.bl true) ∧ ρ = [.own (some 0) (spD a2 b2 c2), .val (.lst (sL (scRows n f e ms))), .val (.int nn), .val (.int cn), .val (.int (0 + (i0 : Nat))), .val (scD n f e ms), .val (clD n f e), .val (.lst (iL (ps.zipWith max qs))), .own none (.lst [.tup (iL A), .tup (iL B), .tup (iL C)]), .no, .val (.tup (iL D)), .val (.lst (iL ps)), .val (.lst (iL qs)), .no, .no]) ⟨rfl, rfl⟩ ?_ ?_
        · rintro j d ρ acc K2 hd2 ⟨rfl, rfl⟩ hK2
          obtain ⟨hj, rfl⟩ := rd_of hd2
          rw [Int.toNat_natCast] at hj
          have e1 := List.getElem?_eq_getElem (l := A) (i := j) (by omega)
          have e2 := List.getElem?_eq_getElem (l := D) (i := j) (by omega)
          have b1 : atI (iL A) (0 + (j : Nat)) = some (.int A[j]) := at_of (by rw [in_get, e1]; rfl) (by omega)
          have b2 : atI (iL D) (0 + (j : Nat)) = some (.int D[j]) := at_of (by rw [in_get, e2]; rfl) (by omega)
          have g := m3 j _ _ _ e1 e2 e1
          have f1 : decide (A[j] ≤ D[j]) = true := decide_eq_true (by omega)
          have f2 : decide (D[j] ≤ A[j] + 3) = true := decide_eq_true (by omega)
          simp only [evsx, b1, b2, f1, f2]
          refine hK2 _ _ ⟨?_, rfl⟩
          rw [List.replicate_succ']; rfl
        · rintro acc ρ ⟨rfl, rfl⟩
          simp only [evsx, bls_rep, all_rep]
          (try simp only [u__law_right_t_5, u__law_right_t4b6a_0, u__law_right_t4b_6, u__law_right_t4b_5, u__law_right_t4b4a_0, u__law_right_t4b_4, u__law_right_t4b3b0a_0, u__law_right_t4b3b_0, u__law_right_t4b_3, u__law_right_t4b_2, u__law_right_t4b_1, u__law_right_t4b_0, u__law_right_t_4, u__law_right_t_3, u__law_right_t_2, u__law_right_t_1, u__law_right, wSs_nil, th_nx]); (try simp only [evsx])
          refine hK _ ⟨a2, b2, c2, _, _, _, _, _, _, _, hc2, ?_, by rw [hcn]⟩
          exact hs9
  · rintro ρ ⟨a, b, c, s4, s7, s8, s9, s10, s11, s12, hc, hs9, rfl⟩
    (try simp only [u__law_right_t_5, u__law_right_t4b6a_0, u__law_right_t4b_6, u__law_right_t4b_5, u__law_right_t4b4a_0, u__law_right_t4b_4, u__law_right_t4b3b0a_0, u__law_right_t4b3b_0, u__law_right_t4b_3, u__law_right_t4b_2, u__law_right_t4b_1, u__law_right_t4b_0, u__law_right_t_4, u__law_right_t_3, u__law_right_t_2, u__law_right_t_1, u__law_right, wSs_nil, th_nx]); (try simp only [evsx])
    exact ⟨_, rfl, h _ _ _ hc⟩
theorem v_law (G : Genv) (h1 : G.fns "_law_spring" = some fi_spring) (h2 : G.fns "_law_right" = some fi_right) : ∀ ds k, ds.length = fi_law.modes.length → fi_law.spec ds k → wpSs G b_law (rhoI 2 fi_law.modes ds) (finW (nref fi_law.modes) k) := by
  rintro ds k hl ⟨cs, rfl, hlen, h⟩
  have md : fi_law.modes = [false] := rfl
  simp only [evix, md]
  (try simp only [u_law, wSs_nil, th_nx]); (try simp only [evsx, h1, h2, in_len, mx_e, mn_e, rd_len])
  refine ⟨by omega, by omega, big_l (by omega), ?_⟩
  refine lcB_inv (I := fun j acc ρ => acc = List.replicate j (DV.bl true) ∧ ρ = [.val (.scr (iL cs)), .no]) ⟨rfl, rfl⟩ ?_ ?_
  · rintro j d ρ acc K hd ⟨rfl, rfl⟩ hK
    obtain ⟨hj, rfl⟩ := rd_of hd
    simp only [evsx, h1, h2]
    rw [cw_e, md_spring]
    (try simp only [evsx])
    refine ⟨cs, _, rfl, by omega, by omega, fun a b hc => ?_⟩
    (try simp only [evsx])
    rw [cw_e, md_right]
    (try simp only [evsx])
    refine ⟨a, b, 0, rfl, hc, fun a' b' c' hc' => ?_⟩
    (try simp only [evsx])
    refine hK _ _ ⟨?_, rfl⟩
    rw [List.replicate_succ']; rfl
  · rintro acc ρ ⟨rfl, rfl⟩
    simp only [evsx, bls_rep, all_rep]
    exact h
end T

set_option maxRecDepth 100000
set_option maxHeartbeats 4000000
namespace T
open PySem L2 EV
abbrev s_is_integer : Stmt := (top 17)
theorem sc_is_integer : FnScope ["value"] ["value"] (defScope s_is_integer) := ⟨rfl, rfl, rfl, by decide +kernel, rfl, by decide +kernel, by decide +kernel⟩
abbrev s_number_in : Stmt := (top 18)
theorem sc_number_in : FnScope ["word", "digits", "sign"] ["word"] (defScope s_number_in) := ⟨rfl, rfl, rfl, by decide +kernel, rfl, by decide +kernel, by decide +kernel⟩
abbrev s_bounded : Stmt := (top 19)
theorem sc_bounded : FnScope ["word", "least", "most", "value"] ["word", "least", "most"] (defScope s_bounded) := ⟨rfl, rfl, rfl, by decide +kernel, rfl, by decide +kernel, by decide +kernel⟩
abbrev s_is_cloth : Stmt := (top 20)
theorem sc_is_cloth : FnScope ["value", "part"] ["value"] (defScope s_is_cloth) := ⟨rfl, rfl, rfl, by decide +kernel, rfl, by decide +kernel, by decide +kernel⟩
abbrev s_cloth_in : Stmt := (top 21)
theorem sc_cloth_in : FnScope ["row", "words", "parts", "word"] ["row"] (defScope s_cloth_in) := ⟨rfl, rfl, rfl, by decide +kernel, rfl, by decide +kernel, by decide +kernel⟩
abbrev s_move_in : Stmt := (top 22)
theorem sc_move_in : FnScope ["row", "words", "place", "ring"] ["row"] (defScope s_move_in) := ⟨rfl, rfl, rfl, by decide +kernel, rfl, by decide +kernel, by decide +kernel⟩
abbrev s_wrong_rows : Stmt := (top 23)
theorem sc_wrong_rows : FnScope ["rows", "index", "row"] ["rows"] (defScope s_wrong_rows) := ⟨rfl, rfl, rfl, by decide +kernel, rfl, by decide +kernel, by decide +kernel⟩
abbrev s_more_by : Stmt := (top 24)
theorem sc_more_by : FnScope ["step"] ["step"] (defScope s_more_by) := ⟨rfl, rfl, rfl, by decide +kernel, rfl, by decide +kernel, by decide +kernel⟩
abbrev s_asked_by : Stmt := (top 25)
theorem sc_asked_by : FnScope ["step"] ["step"] (defScope s_asked_by) := ⟨rfl, rfl, rfl, by decide +kernel, rfl, by decide +kernel, by decide +kernel⟩
abbrev s_least_for : Stmt := (top 26)
theorem sc_least_for : FnScope ["steps", "step", "found", "more"] ["steps"] (defScope s_least_for) := ⟨rfl, rfl, rfl, by decide +kernel, rfl, by decide +kernel, by decide +kernel⟩
abbrev s_Script___init__ : Stmt := (inClass (top 27) 0)
theorem sc_Script___init__ : FnScope ["self", "rows", "wrong", "row"] ["self", "rows"] (defScope s_Script___init__) := ⟨rfl, rfl, rfl, by decide +kernel, rfl, by decide +kernel, by decide +kernel⟩
abbrev s_Script_read : Stmt := (inClass (top 27) 1)
theorem sc_Script_read : FnScope ["cls", "text", "rows"] ["cls", "text"] (defScope s_Script_read) := ⟨rfl, rfl, rfl, by decide +kernel, rfl, by decide +kernel, by decide +kernel⟩
abbrev s_Script_cloth : Stmt := (inClass (top 27) 4)
theorem sc_Script_cloth : FnScope ["self"] ["self"] (defScope s_Script_cloth) := ⟨rfl, rfl, rfl, by decide +kernel, rfl, by decide +kernel, by decide +kernel⟩
abbrev s_check_script : Stmt := (top 28)
theorem sc_check_script : FnScope ["value"] ["value"] (defScope s_check_script) := ⟨rfl, rfl, rfl, by decide +kernel, rfl, by decide +kernel, by decide +kernel⟩
abbrev s_check_known : Stmt := (top 29)
theorem sc_check_known : FnScope ["script", "index", "step"] ["script"] (defScope s_check_known) := ⟨rfl, rfl, rfl, by decide +kernel, rfl, by decide +kernel, by decide +kernel⟩
abbrev s_wrong_place : Stmt := (top 31)
theorem sc_wrong_place : FnScope ["cloth", "places", "index", "place"] ["cloth", "places"] (defScope s_wrong_place) := ⟨rfl, rfl, rfl, by decide +kernel, rfl, by decide +kernel, by decide +kernel⟩
abbrev s_check_standing : Stmt := (top 32)
theorem sc_check_standing : FnScope ["cloth", "places", "index"] ["cloth", "places"] (defScope s_check_standing) := ⟨rfl, rfl, rfl, by decide +kernel, rfl, by decide +kernel, by decide +kernel⟩
abbrev s_clamped : Stmt := (top 33)
theorem sc_clamped : FnScope ["value", "one", "two"] ["value", "one", "two"] (defScope s_clamped) := ⟨rfl, rfl, rfl, by decide +kernel, rfl, by decide +kernel, by decide +kernel⟩
abbrev s_goal_of : Stmt := (top 34)
theorem sc_goal_of : FnScope ["cloth", "index", "place"] ["cloth", "index", "place"] (defScope s_goal_of) := ⟨rfl, rfl, rfl, by decide +kernel, rfl, by decide +kernel, by decide +kernel⟩
abbrev s_drawn : Stmt := (top 35)
theorem sc_drawn : FnScope ["cloth", "places", "index", "place", "goal", "found", "at", "old", "far"] ["cloth", "places", "index", "place"] (defScope s_drawn) := ⟨rfl, rfl, rfl, by decide +kernel, rfl, by decide +kernel, by decide +kernel⟩
abbrev s_carried : Stmt := (top 36)
theorem sc_carried : FnScope ["cloth", "by"] ["cloth", "by"] (defScope s_carried) := ⟨rfl, rfl, rfl, by decide +kernel, rfl, by decide +kernel, by decide +kernel⟩
abbrev s_moved : Stmt := (top 37)
theorem sc_moved : FnScope ["cloth", "places", "step", "word", "side", "place", "old"] ["cloth", "places", "step"] (defScope s_moved) := ⟨rfl, rfl, rfl, by decide +kernel, rfl, by decide +kernel, by decide +kernel⟩
abbrev s_first_too_few : Stmt := (top 38)
theorem sc_first_too_few : FnScope ["script", "count", "index", "step"] ["script", "count"] (defScope s_first_too_few) := ⟨rfl, rfl, rfl, by decide +kernel, rfl, by decide +kernel, by decide +kernel⟩
abbrev s_led : Stmt := (top 39)
theorem sc_led : FnScope ["script", "places", "index", "cloth", "step"] ["script", "places"] (defScope s_led) := ⟨rfl, rfl, rfl, by decide +kernel, rfl, by decide +kernel, by decide +kernel⟩
abbrev s__law_spring : Stmt := (top 41)
theorem sc__law_spring : FnScope ["cells", "k", "cell", "mixed", "number"] ["cells", "k"] (defScope s__law_spring) := ⟨rfl, rfl, rfl, by decide +kernel, rfl, by decide +kernel, by decide +kernel⟩
abbrev s__law_draw : Stmt := (top 42)
theorem sc__law_draw : FnScope ["spring", "size", "far", "mixed", "digit"] ["spring", "size"] (defScope s__law_draw) := ⟨rfl, rfl, rfl, by decide +kernel, rfl, by decide +kernel, by decide +kernel⟩
abbrev s__law_of : Stmt := (top 43)
theorem sc__law_of : FnScope ["spring", "menu"] ["spring", "menu"] (defScope s__law_of) := ⟨rfl, rfl, rfl, by decide +kernel, rfl, by decide +kernel, by decide +kernel⟩
abbrev s__law_small_place : Stmt := (top 44)
theorem sc__law_small_place : FnScope ["spring"] ["spring"] (defScope s__law_small_place) := ⟨rfl, rfl, rfl, by decide +kernel, rfl, by decide +kernel, by decide +kernel⟩
abbrev s__law_cloth_row : Stmt := (top 45)
theorem sc__law_cloth_row : FnScope ["spring", "near", "far", "row_now"] ["spring"] (defScope s__law_cloth_row) := ⟨rfl, rfl, rfl, by decide +kernel, rfl, by decide +kernel, by decide +kernel⟩
abbrev s__law_move : Stmt := (top 46)
theorem sc__law_move : FnScope ["spring", "place", "side", "way_now", "ring"] ["spring", "place"] (defScope s__law_move) := ⟨rfl, rfl, rfl, by decide +kernel, rfl, by decide +kernel, by decide +kernel⟩
abbrev s__law_rows : Stmt := (top 47)
theorem sc__law_rows : FnScope ["spring", "many_now", "k"] ["spring"] (defScope s__law_rows) := ⟨rfl, rfl, rfl, by decide +kernel, rfl, by decide +kernel, by decide +kernel⟩
abbrev s__law_made : Stmt := (top 48)
theorem sc__law_made : FnScope ["rows_now"] ["rows_now"] (defScope s__law_made) := ⟨rfl, rfl, rfl, by decide +kernel, rfl, by decide +kernel, by decide +kernel⟩
abbrev s__law_cloth : Stmt := (top 49)
theorem sc__law_cloth : FnScope ["row_now", "words", "each"] ["row_now"] (defScope s__law_cloth) := ⟨rfl, rfl, rfl, by decide +kernel, rfl, by decide +kernel, by decide +kernel⟩
abbrev s__law_more : Stmt := (top 50)
theorem sc__law_more : FnScope ["move_now"] ["move_now"] (defScope s__law_more) := ⟨rfl, rfl, rfl, by decide +kernel, rfl, by decide +kernel, by decide +kernel⟩
abbrev s__law_asked : Stmt := (top 51)
theorem sc__law_asked : FnScope ["move_now", "words"] ["move_now"] (defScope s__law_asked) := ⟨rfl, rfl, rfl, by decide +kernel, rfl, by decide +kernel, by decide +kernel⟩
abbrev s__law_change : Stmt := (top 52)
theorem sc__law_change : FnScope ["rows_now", "move_now"] ["rows_now"] (defScope s__law_change) := ⟨rfl, rfl, rfl, by decide +kernel, rfl, by decide +kernel, by decide +kernel⟩
abbrev s__law_least : Stmt := (top 53)
theorem sc__law_least : FnScope ["rows_now", "move_now", "found", "more"] ["rows_now"] (defScope s__law_least) := ⟨rfl, rfl, rfl, by decide +kernel, rfl, by decide +kernel, by decide +kernel⟩
abbrev s__law_standing : Stmt := (top 54)
theorem sc__law_standing : FnScope ["spring", "cloth_now", "n_now", "begin", "spots", "k"] ["spring", "cloth_now", "n_now"] (defScope s__law_standing) := ⟨rfl, rfl, rfl, by decide +kernel, rfl, by decide +kernel, by decide +kernel⟩
abbrev s__law_greatest : Stmt := (top 55)
theorem sc__law_greatest : FnScope ["spots", "mates", "k"] ["spots", "mates"] (defScope s__law_greatest) := ⟨rfl, rfl, rfl, by decide +kernel, rfl, by decide +kernel, by decide +kernel⟩
abbrev s__law_over : Stmt := (top 56)
theorem sc__law_over : FnScope ["spots", "mates", "k"] ["spots", "mates"] (defScope s__law_over) := ⟨rfl, rfl, rfl, by decide +kernel, rfl, by decide +kernel, by decide +kernel⟩
abbrev s__law_right : Stmt := (top 57)
theorem sc__law_right : FnScope ["spring", "rows_now", "n_now", "count", "turn", "mine", "cloth_now", "over", "told", "k", "moved_v", "spots", "mates", "each", "spot"] ["spring"] (defScope s__law_right) := ⟨rfl, rfl, rfl, by decide +kernel, rfl, by decide +kernel, by decide +kernel⟩
abbrev s_law : Stmt := (top 58)
theorem sc_law : FnScope ["script", "k"] ["script"] (defScope s_law) := ⟨rfl, rfl, rfl, by decide +kernel, rfl, by decide +kernel, by decide +kernel⟩
def con0 (x : Str) : Option DV := if x = "MOST_CLOTH" then some (.int 9) else if x = "MOST_PLACE" then some (.int 99) else if x = "MOST_NAMED" then some (.int 5) else if x = "MOST_MOVES" then some (.int 10) else if x = "FIGURES" then some (.str "0123456789") else if x = "SIDES" then some (.tup [.str "left", .str "right"]) else none
def fld0 (c f : Str) : Bool := (decide (c = "Script") && decide (f = "told")) || (decide (c = "Script") && decide (f = "goods")) || (decide (c = "Script") && decide (f = "steps")) || (decide (c = "Script") && decide (f = "floor"))
def kwo0 (f : Str) (ks : List Str) : Option (List Nat) := none
def isc0 (c : Str) : Bool := decide (c = "Script")
def G_0 : Genv := ⟨fun _ => none, con0, fld0, fun _ _ => none, fun _ _ => none, fun _ => none, kwo0, isc0, fun _ => none, fun _ _ => none⟩
def G_1 : Genv := G_0.addFn "is_integer" fi_is_integer
theorem vg_1 : ∀ ds k, ds.length = fi_is_integer.modes.length → fi_is_integer.spec ds k → wpSs G_0 b_is_integer (rhoI 1 fi_is_integer.modes ds) (finW (nref fi_is_integer.modes) k) := by
  apply v_is_integer <;> kernel_rfl
def G_2 : Genv := G_1.addFn "number_in" fi_number_in
theorem vg_2 : ∀ ds k, ds.length = fi_number_in.modes.length → fi_number_in.spec ds k → wpSs G_1 b_number_in (rhoI 3 fi_number_in.modes ds) (finW (nref fi_number_in.modes) k) := by
  apply v_number_in <;> kernel_rfl
def G_3 : Genv := G_2.addFn "bounded" fi_bounded
theorem vg_3 : ∀ ds k, ds.length = fi_bounded.modes.length → fi_bounded.spec ds k → wpSs G_2 b_bounded (rhoI 4 fi_bounded.modes ds) (finW (nref fi_bounded.modes) k) := by
  apply v_bounded <;> kernel_rfl
def G_4 : Genv := G_3.addFn "is_cloth" fi_is_cloth
theorem vg_4 : ∀ ds k, ds.length = fi_is_cloth.modes.length → fi_is_cloth.spec ds k → wpSs G_3 b_is_cloth (rhoI 2 fi_is_cloth.modes ds) (finW (nref fi_is_cloth.modes) k) := by
  apply v_is_cloth <;> kernel_rfl
def G_5 : Genv := G_4.addFn "cloth_in" fi_cloth_in
theorem vg_5 : ∀ ds k, ds.length = fi_cloth_in.modes.length → fi_cloth_in.spec ds k → wpSs G_4 b_cloth_in (rhoI 4 fi_cloth_in.modes ds) (finW (nref fi_cloth_in.modes) k) := by
  apply v_cloth_in <;> kernel_rfl
def G_6 : Genv := G_5.addFn "move_in" fi_move_in
theorem vg_6 : ∀ ds k, ds.length = fi_move_in.modes.length → fi_move_in.spec ds k → wpSs G_5 b_move_in (rhoI 4 fi_move_in.modes ds) (finW (nref fi_move_in.modes) k) := by
  apply v_move_in <;> kernel_rfl
def G_7 : Genv := G_6.addFn "wrong_rows" fi_wrong_rows
theorem vg_7 : ∀ ds k, ds.length = fi_wrong_rows.modes.length → fi_wrong_rows.spec ds k → wpSs G_6 b_wrong_rows (rhoI 3 fi_wrong_rows.modes ds) (finW (nref fi_wrong_rows.modes) k) := by
  apply v_wrong_rows <;> kernel_rfl
def G_8 : Genv := G_7.addFn "more_by" fi_more_by
theorem vg_8 : ∀ ds k, ds.length = fi_more_by.modes.length → fi_more_by.spec ds k → wpSs G_7 b_more_by (rhoI 1 fi_more_by.modes ds) (finW (nref fi_more_by.modes) k) := by
  apply v_more_by <;> kernel_rfl
def G_9 : Genv := G_8.addFn "asked_by" fi_asked_by
theorem vg_9 : ∀ ds k, ds.length = fi_asked_by.modes.length → fi_asked_by.spec ds k → wpSs G_8 b_asked_by (rhoI 1 fi_asked_by.modes ds) (finW (nref fi_asked_by.modes) k) := by
  apply v_asked_by <;> kernel_rfl
def G_10 : Genv := G_9.addFn "least_for" fi_least_for
theorem vg_10 : ∀ ds k, ds.length = fi_least_for.modes.length → fi_least_for.spec ds k → wpSs G_9 b_least_for (rhoI 4 fi_least_for.modes ds) (finW (nref fi_least_for.modes) k) := by
  apply v_least_for <;> kernel_rfl
def G_11 : Genv := G_10.addV "Script" fi_sinit
theorem vg_11 : ∀ ds k, ds.length = fi_sinit.modes.length → fi_sinit.spec ds k → wpSs G_10 b_Script___init__ (rhoI 4 fi_sinit.modes ds) (finW (nref fi_sinit.modes) k) := by
  apply v_sinit <;> kernel_rfl
def G_12 : Genv := G_11.addCm "Script" "read" fi_read
theorem vg_12 : ∀ ds k, ds.length = fi_read.modes.length → fi_read.spec ds k → wpSs G_11 b_Script_read (.no :: rhoI 2 fi_read.modes ds) (finW (nref fi_read.modes) k) := by
  apply v_read <;> kernel_rfl
def G_13 : Genv := G_12.addProp "Script" "cloth" fi_scloth
theorem vg_13 : ∀ ds k, ds.length = fi_scloth.modes.length → fi_scloth.spec ds k → wpSs G_12 b_Script_cloth (rhoI 1 fi_scloth.modes ds) (finW (nref fi_scloth.modes) k) := by
  apply v_scloth <;> kernel_rfl
def G_14 : Genv := G_13.addFn "check_script" fi_check_script
theorem vg_14 : ∀ ds k, ds.length = fi_check_script.modes.length → fi_check_script.spec ds k → wpSs G_13 b_check_script (rhoI 1 fi_check_script.modes ds) (finW (nref fi_check_script.modes) k) := by
  apply v_check_script <;> kernel_rfl
def G_15 : Genv := G_14.addFn "check_known" fi_check_known
theorem vg_15 : ∀ ds k, ds.length = fi_check_known.modes.length → fi_check_known.spec ds k → wpSs G_14 b_check_known (rhoI 3 fi_check_known.modes ds) (finW (nref fi_check_known.modes) k) := by
  apply v_check_known <;> kernel_rfl
def G_16 : Genv := G_15.addFn "wrong_place" fi_wrong_place
theorem vg_16 : ∀ ds k, ds.length = fi_wrong_place.modes.length → fi_wrong_place.spec ds k → wpSs G_15 b_wrong_place (rhoI 4 fi_wrong_place.modes ds) (finW (nref fi_wrong_place.modes) k) := by
  apply v_wrong_place <;> kernel_rfl
def G_17 : Genv := G_16.addFn "check_standing" fi_check_standing
theorem vg_17 : ∀ ds k, ds.length = fi_check_standing.modes.length → fi_check_standing.spec ds k → wpSs G_16 b_check_standing (rhoI 3 fi_check_standing.modes ds) (finW (nref fi_check_standing.modes) k) := by
  apply v_check_standing <;> kernel_rfl
def G_18 : Genv := G_17.addFn "clamped" fi_clamped
theorem vg_18 : ∀ ds k, ds.length = fi_clamped.modes.length → fi_clamped.spec ds k → wpSs G_17 b_clamped (rhoI 3 fi_clamped.modes ds) (finW (nref fi_clamped.modes) k) := by
  apply v_clamped <;> kernel_rfl
def G_19 : Genv := G_18.addFn "goal_of" fi_goal_of
theorem vg_19 : ∀ ds k, ds.length = fi_goal_of.modes.length → fi_goal_of.spec ds k → wpSs G_18 b_goal_of (rhoI 3 fi_goal_of.modes ds) (finW (nref fi_goal_of.modes) k) := by
  apply v_goal_of <;> kernel_rfl
def G_20 : Genv := G_19.addFn "drawn" fi_drawn
theorem vg_20 : ∀ ds k, ds.length = fi_drawn.modes.length → fi_drawn.spec ds k → wpSs G_19 b_drawn (rhoI 9 fi_drawn.modes ds) (finW (nref fi_drawn.modes) k) := by
  apply v_drawn <;> kernel_rfl
def G_21 : Genv := G_20.addFn "carried" fi_carried
theorem vg_21 : ∀ ds k, ds.length = fi_carried.modes.length → fi_carried.spec ds k → wpSs G_20 b_carried (rhoI 2 fi_carried.modes ds) (finW (nref fi_carried.modes) k) := by
  apply v_carried <;> kernel_rfl
def G_22 : Genv := G_21.addFn "moved" fi_moved
theorem vg_22 : ∀ ds k, ds.length = fi_moved.modes.length → fi_moved.spec ds k → wpSs G_21 b_moved (rhoI 7 fi_moved.modes ds) (finW (nref fi_moved.modes) k) := by
  apply v_moved <;> kernel_rfl
def G_23 : Genv := G_22.addFn "first_too_few" fi_first_too_few
theorem vg_23 : ∀ ds k, ds.length = fi_first_too_few.modes.length → fi_first_too_few.spec ds k → wpSs G_22 b_first_too_few (rhoI 4 fi_first_too_few.modes ds) (finW (nref fi_first_too_few.modes) k) := by
  apply v_first_too_few <;> kernel_rfl
def G_24 : Genv := G_23.addFn "led" fi_led
theorem vg_24 : ∀ ds k, ds.length = fi_led.modes.length → fi_led.spec ds k → wpSs G_23 b_led (rhoI 5 fi_led.modes ds) (finW (nref fi_led.modes) k) := by
  apply v_led <;> kernel_rfl
def G_25 : Genv := G_24.addFn "_law_spring" fi_spring
theorem vg_25 : ∀ ds k, ds.length = fi_spring.modes.length → fi_spring.spec ds k → wpSs G_24 b__law_spring (rhoI 5 fi_spring.modes ds) (finW (nref fi_spring.modes) k) := by
  apply v_spring <;> kernel_rfl
def G_26 : Genv := G_25.addFn "_law_draw" fi_draw
theorem vg_26 : ∀ ds k, ds.length = fi_draw.modes.length → fi_draw.spec ds k → wpSs G_25 b__law_draw (rhoI 5 fi_draw.modes ds) (finW (nref fi_draw.modes) k) := by
  apply v_draw <;> kernel_rfl
def G_27 : Genv := G_26.addFn "_law_of" fi_of
theorem vg_27 : ∀ ds k, ds.length = fi_of.modes.length → fi_of.spec ds k → wpSs G_26 b__law_of (rhoI 2 fi_of.modes ds) (finW (nref fi_of.modes) k) := by
  apply v_of <;> kernel_rfl
def G_28 : Genv := G_27.addFn "_law_small_place" fi_small_place
theorem vg_28 : ∀ ds k, ds.length = fi_small_place.modes.length → fi_small_place.spec ds k → wpSs G_27 b__law_small_place (rhoI 1 fi_small_place.modes ds) (finW (nref fi_small_place.modes) k) := by
  apply v_small_place <;> kernel_rfl
def G_29 : Genv := G_28.addFn "_law_cloth_row" fi_cloth_row
theorem vg_29 : ∀ ds k, ds.length = fi_cloth_row.modes.length → fi_cloth_row.spec ds k → wpSs G_28 b__law_cloth_row (rhoI 4 fi_cloth_row.modes ds) (finW (nref fi_cloth_row.modes) k) := by
  apply v_cloth_row <;> kernel_rfl
def G_30 : Genv := G_29.addFn "_law_move" fi_lmove
theorem vg_30 : ∀ ds k, ds.length = fi_lmove.modes.length → fi_lmove.spec ds k → wpSs G_29 b__law_move (rhoI 5 fi_lmove.modes ds) (finW (nref fi_lmove.modes) k) := by
  apply v_lmove <;> kernel_rfl
def G_31 : Genv := G_30.addFn "_law_rows" fi_lrows
theorem vg_31 : ∀ ds k, ds.length = fi_lrows.modes.length → fi_lrows.spec ds k → wpSs G_30 b__law_rows (rhoI 3 fi_lrows.modes ds) (finW (nref fi_lrows.modes) k) := by
  apply v_lrows <;> kernel_rfl
def G_32 : Genv := G_31.addFn "_law_made" fi_made
theorem vg_32 : ∀ ds k, ds.length = fi_made.modes.length → fi_made.spec ds k → wpSs G_31 b__law_made (rhoI 1 fi_made.modes ds) (finW (nref fi_made.modes) k) := by
  apply v_made <;> kernel_rfl
def G_33 : Genv := G_32.addFn "_law_cloth" fi_lcloth
theorem vg_33 : ∀ ds k, ds.length = fi_lcloth.modes.length → fi_lcloth.spec ds k → wpSs G_32 b__law_cloth (rhoI 3 fi_lcloth.modes ds) (finW (nref fi_lcloth.modes) k) := by
  apply v_lcloth <;> kernel_rfl
def G_34 : Genv := G_33.addFn "_law_more" fi_lmore
theorem vg_34 : ∀ ds k, ds.length = fi_lmore.modes.length → fi_lmore.spec ds k → wpSs G_33 b__law_more (rhoI 1 fi_lmore.modes ds) (finW (nref fi_lmore.modes) k) := by
  apply v_lmore <;> kernel_rfl
def G_35 : Genv := G_34.addFn "_law_asked" fi_lasked
theorem vg_35 : ∀ ds k, ds.length = fi_lasked.modes.length → fi_lasked.spec ds k → wpSs G_34 b__law_asked (rhoI 2 fi_lasked.modes ds) (finW (nref fi_lasked.modes) k) := by
  apply v_lasked <;> kernel_rfl
def G_36 : Genv := G_35.addFn "_law_change" fi_lchange
theorem vg_36 : ∀ ds k, ds.length = fi_lchange.modes.length → fi_lchange.spec ds k → wpSs G_35 b__law_change (rhoI 2 fi_lchange.modes ds) (finW (nref fi_lchange.modes) k) := by
  apply v_lchange <;> kernel_rfl
def G_37 : Genv := G_36.addFn "_law_least" fi_lleast
theorem vg_37 : ∀ ds k, ds.length = fi_lleast.modes.length → fi_lleast.spec ds k → wpSs G_36 b__law_least (rhoI 4 fi_lleast.modes ds) (finW (nref fi_lleast.modes) k) := by
  apply v_lleast <;> kernel_rfl
def G_38 : Genv := G_37.addFn "_law_standing" fi_lstand
theorem vg_38 : ∀ ds k, ds.length = fi_lstand.modes.length → fi_lstand.spec ds k → wpSs G_37 b__law_standing (rhoI 6 fi_lstand.modes ds) (finW (nref fi_lstand.modes) k) := by
  apply v_lstand <;> kernel_rfl
def G_39 : Genv := G_38.addFn "_law_greatest" fi_greatest
theorem vg_39 : ∀ ds k, ds.length = fi_greatest.modes.length → fi_greatest.spec ds k → wpSs G_38 b__law_greatest (rhoI 3 fi_greatest.modes ds) (finW (nref fi_greatest.modes) k) := by
  apply v_greatest <;> kernel_rfl
def G_40 : Genv := G_39.addFn "_law_over" fi_over
theorem vg_40 : ∀ ds k, ds.length = fi_over.modes.length → fi_over.spec ds k → wpSs G_39 b__law_over (rhoI 3 fi_over.modes ds) (finW (nref fi_over.modes) k) := by
  apply v_over <;> kernel_rfl
def G_41 : Genv := G_40.addFn "_law_right" fi_right
theorem vg_41 : ∀ ds k, ds.length = fi_right.modes.length → fi_right.spec ds k → wpSs G_40 b__law_right (rhoI 15 fi_right.modes ds) (finW (nref fi_right.modes) k) := by
  apply v_right <;> kernel_rfl
def G_42 : Genv := G_41
theorem vg_42 : ∀ ds k, ds.length = fi_law.modes.length → fi_law.spec ds k → wpSs G_41 b_law (rhoI 2 fi_law.modes ds) (finW (nref fi_law.modes) k) := by
  apply v_law <;> kernel_rfl
def cls0 (C_Script : Addr) (x : Str) : Option Addr := if x = "Script" then some C_Script else none
theorem all_mk {l : PySem.W.OpenLaw} {w : World} {K : PySem.W.Frag} {h : Heap} {mg : Str → Option Value} {fa : Addr} (X : K.In h) (G : h.Ns mainGlobals mg) (hfa : mg "law" = some (.ref fa))
    {C_Script f1 f2 f3 f4 f5 f6 f7 f8 f9 f10 f11 f12 p12 f13 p13 f14 f15 f16 f17 f18 f19 f20 f21 f22 f23 f24 f25 f26 f27 f28 f29 f30 f31 f32 f33 f34 f35 f36 f37 f38 f39 f40 f41 f42 : Addr} {od1 an1 od2 an2 od3 an3 od4 an4 od5 an5 od6 an6 od7 an7 od8 an8 od9 an9 od10 an10 od11 an11 od12 an12 od13 an13 od14 an14 od15 an15 od16 an16 od17 an17 od18 an18 od19 an19 od20 an20 od21 an21 od22 an22 od23 an23 od24 an24 od25 an25 od26 an26 od27 an27 od28 an28 od29 an29 od30 an30 od31 an31 od32 an32 od33 an33 od34 an34 od35 an35 od36 an36 od37 an37 od38 an38 od39 an39 od40 an40 od41 an41 od42 an42 : Option Addr} {sl1 sl2 sl3 sl4 sl5 sl6 sl7 sl8 sl9 sl10 sl11 sl12 sl13 sl14 sl15 sl16 sl17 sl18 sl19 sl20 sl21 sl22 sl23 sl24 sl25 sl26 sl27 sl28 sl29 sl30 sl31 sl32 sl33 sl34 sl35 sl36 sl37 sl38 sl39 sl40 sl41 sl42 : Array (Option Value)} {oc1 kV1 dc1 pm1 cd1 ct1 oc2 kV2 dc2 pm2 cd2 ct2 oc3 kV3 dc3 pm3 cd3 ct3 oc4 kV4 dc4 pm4 cd4 ct4 oc5 kV5 dc5 pm5 cd5 ct5 oc6 kV6 dc6 pm6 cd6 ct6 oc7 kV7 dc7 pm7 cd7 ct7 oc8 kV8 dc8 pm8 cd8 ct8 oc9 kV9 dc9 pm9 cd9 ct9 oc10 kV10 dc10 pm10 cd10 ct10 oc11 kV11 dc11 pm11 cd11 ct11 oc12 kV12 dc12 pm12 cd12 ct12 oc13 kV13 dc13 pm13 cd13 ct13 oc14 kV14 dc14 pm14 cd14 ct14 oc15 kV15 dc15 pm15 cd15 ct15 oc16 kV16 dc16 pm16 cd16 ct16 oc17 kV17 dc17 pm17 cd17 ct17 oc18 kV18 dc18 pm18 cd18 ct18 oc19 kV19 dc19 pm19 cd19 ct19 oc20 kV20 dc20 pm20 cd20 ct20 oc21 kV21 dc21 pm21 cd21 ct21 oc22 kV22 dc22 pm22 cd22 ct22 oc23 kV23 dc23 pm23 cd23 ct23 oc24 kV24 dc24 pm24 cd24 ct24 oc25 kV25 dc25 pm25 cd25 ct25 oc26 kV26 dc26 pm26 cd26 ct26 oc27 kV27 dc27 pm27 cd27 ct27 oc28 kV28 dc28 pm28 cd28 ct28 oc29 kV29 dc29 pm29 cd29 ct29 oc30 kV30 dc30 pm30 cd30 ct30 oc31 kV31 dc31 pm31 cd31 ct31 oc32 kV32 dc32 pm32 cd32 ct32 oc33 kV33 dc33 pm33 cd33 ct33 oc34 kV34 dc34 pm34 cd34 ct34 oc35 kV35 dc35 pm35 cd35 ct35 oc36 kV36 dc36 pm36 cd36 ct36 oc37 kV37 dc37 pm37 cd37 ct37 oc38 kV38 dc38 pm38 cd38 ct38 oc39 kV39 dc39 pm39 cd39 ct39 oc40 kV40 dc40 pm40 cd40 ct40 oc41 kV41 dc41 pm41 cd41 ct41 oc42 kV42 dc42 pm42 cd42 ct42 : Value} {re12 re13 : List Value} {cs0 : Tok} {cs1 : Tok} {cs2 : Tok} {cs3 : Tok} {cs4 : Tok} {ca5 : Addr} {co5 : Obj} {cn5 : Nat} {ct5_0 : Tok} {ct5_1 : Tok}
    (z0 : PySem.W.nsIn K mainGlobals "len" = some none)
    (z1 : PySem.W.nsIn K mainGlobals "abs" = some none)
    (z2 : PySem.W.nsIn K mainGlobals "int" = some none)
    (z3 : PySem.W.nsIn K mainGlobals "str" = some none)
    (z4 : PySem.W.nsIn K mainGlobals "tuple" = some none)
    (z5 : PySem.W.nsIn K mainGlobals "list" = some none)
    (z6 : PySem.W.nsIn K mainGlobals "sum" = some none)
    (z7 : PySem.W.nsIn K mainGlobals "all" = some none)
    (z8 : PySem.W.nsIn K mainGlobals "any" = some none)
    (z9 : PySem.W.nsIn K mainGlobals "max" = some none)
    (z10 : PySem.W.nsIn K mainGlobals "min" = some none)
    (z11 : PySem.W.nsIn K mainGlobals "divmod" = some none)
    (z12 : PySem.W.nsIn K mainGlobals "isinstance" = some none)
    (z13 : PySem.W.nsIn K mainGlobals "bool" = some none)
    (z14 : PySem.W.nsIn K mainGlobals "range" = some none)
    (z15 : PySem.W.nsIn K mainGlobals "enumerate" = some none)
    (z16 : PySem.W.nsIn K mainGlobals "sorted" = some none)
    (z17 : PySem.W.nsIn K mainGlobals "zip" = some none)
    (z18 : PySem.W.nsIn K mainGlobals "repr" = some none)
    (cv0 : PySem.W.nsIn K mainGlobals "MOST_CLOTH" = some (some (.int 9 cs0)))
    (cv1 : PySem.W.nsIn K mainGlobals "MOST_PLACE" = some (some (.int 99 cs1)))
    (cv2 : PySem.W.nsIn K mainGlobals "MOST_NAMED" = some (some (.int 5 cs2)))
    (cv3 : PySem.W.nsIn K mainGlobals "MOST_MOVES" = some (some (.int 10 cs3)))
    (cv4 : PySem.W.nsIn K mainGlobals "FIGURES" = some (some (.str "0123456789" cs4)))
    (cv5 : PySem.W.nsIn K mainGlobals "SIDES" = some (some (.ref ca5)))
    (cob5 : K.lookup ca5 = some co5)
    (coc5 : co5.cls = .type "tuple")
    (cod5 : co5.data = .seq #[.str "left" ct5_0, .str "right" ct5_1] cn5)
    (g_Script : PySem.W.nsIn K mainGlobals "Script" = some (some (.ref C_Script)))
    (pg_Script : PySem.W.plainGet K C_Script Str.empty = true)
    (hd_Script : PySem.W.hasDictIn K C_Script = true)
    (po_Script : PySem.W.plainOver K C_Script = true)
    (sa_Script : PySem.W.findIn K (.ref C_Script) "__setattr__" = some (some (.builtin "object.__setattr__")))
    (nf0 : PySem.W.findIn K (.ref C_Script) "told" = some none)
    (nf1 : PySem.W.findIn K (.ref C_Script) "goods" = some none)
    (nf2 : PySem.W.findIn K (.ref C_Script) "steps" = some none)
    (nf3 : PySem.W.findIn K (.ref C_Script) "floor" = some none)
    (tn : PySem.W.specialIn K (.builtin "object.__class__") "__get__" = some (some (.builtin "getset_descriptor.__get__")))
    (tt : PySem.W.takesIn K (.builtin "object.__class__") = some true)
    (th_Script : PySem.W.findIn K (.ref C_Script) "__class__" = some (some (.builtin "object.__class__")))
    (tm_Script : PySem.W.mroIn K C_Script (.type "object") = some true)
    (ic_Script : PySem.W.isClsIn K C_Script = true)
    (ty_Script : PySem.W.typeIn K (.ref C_Script) = some (.type "type"))
    (a1 : PySem.W.nsIn K mainGlobals "is_integer" = some (some (.ref f1)))
    (l1 : K.lookup f1 = some ⟨oc1, od1, .func (PySem.W.fnOf "is_integer" "is_integer" (defArgs s_is_integer) (defBody s_is_integer) (defScope s_is_integer) .none kV1 dc1 pm1 an1 cd1 ct1), sl1⟩)
    (c1 : PySem.W.codeIn K cd1 "is_integer" = true)
    (k1 : PySem.W.keepIn K (.ref f1) = true)
    (a2 : PySem.W.nsIn K mainGlobals "number_in" = some (some (.ref f2)))
    (l2 : K.lookup f2 = some ⟨oc2, od2, .func (PySem.W.fnOf "number_in" "number_in" (defArgs s_number_in) (defBody s_number_in) (defScope s_number_in) .none kV2 dc2 pm2 an2 cd2 ct2), sl2⟩)
    (c2 : PySem.W.codeIn K cd2 "number_in" = true)
    (k2 : PySem.W.keepIn K (.ref f2) = true)
    (a3 : PySem.W.nsIn K mainGlobals "bounded" = some (some (.ref f3)))
    (l3 : K.lookup f3 = some ⟨oc3, od3, .func (PySem.W.fnOf "bounded" "bounded" (defArgs s_bounded) (defBody s_bounded) (defScope s_bounded) .none kV3 dc3 pm3 an3 cd3 ct3), sl3⟩)
    (c3 : PySem.W.codeIn K cd3 "bounded" = true)
    (k3 : PySem.W.keepIn K (.ref f3) = true)
    (a4 : PySem.W.nsIn K mainGlobals "is_cloth" = some (some (.ref f4)))
    (l4 : K.lookup f4 = some ⟨oc4, od4, .func (PySem.W.fnOf "is_cloth" "is_cloth" (defArgs s_is_cloth) (defBody s_is_cloth) (defScope s_is_cloth) .none kV4 dc4 pm4 an4 cd4 ct4), sl4⟩)
    (c4 : PySem.W.codeIn K cd4 "is_cloth" = true)
    (k4 : PySem.W.keepIn K (.ref f4) = true)
    (a5 : PySem.W.nsIn K mainGlobals "cloth_in" = some (some (.ref f5)))
    (l5 : K.lookup f5 = some ⟨oc5, od5, .func (PySem.W.fnOf "cloth_in" "cloth_in" (defArgs s_cloth_in) (defBody s_cloth_in) (defScope s_cloth_in) .none kV5 dc5 pm5 an5 cd5 ct5), sl5⟩)
    (c5 : PySem.W.codeIn K cd5 "cloth_in" = true)
    (k5 : PySem.W.keepIn K (.ref f5) = true)
    (a6 : PySem.W.nsIn K mainGlobals "move_in" = some (some (.ref f6)))
    (l6 : K.lookup f6 = some ⟨oc6, od6, .func (PySem.W.fnOf "move_in" "move_in" (defArgs s_move_in) (defBody s_move_in) (defScope s_move_in) .none kV6 dc6 pm6 an6 cd6 ct6), sl6⟩)
    (c6 : PySem.W.codeIn K cd6 "move_in" = true)
    (k6 : PySem.W.keepIn K (.ref f6) = true)
    (a7 : PySem.W.nsIn K mainGlobals "wrong_rows" = some (some (.ref f7)))
    (l7 : K.lookup f7 = some ⟨oc7, od7, .func (PySem.W.fnOf "wrong_rows" "wrong_rows" (defArgs s_wrong_rows) (defBody s_wrong_rows) (defScope s_wrong_rows) .none kV7 dc7 pm7 an7 cd7 ct7), sl7⟩)
    (c7 : PySem.W.codeIn K cd7 "wrong_rows" = true)
    (k7 : PySem.W.keepIn K (.ref f7) = true)
    (a8 : PySem.W.nsIn K mainGlobals "more_by" = some (some (.ref f8)))
    (l8 : K.lookup f8 = some ⟨oc8, od8, .func (PySem.W.fnOf "more_by" "more_by" (defArgs s_more_by) (defBody s_more_by) (defScope s_more_by) .none kV8 dc8 pm8 an8 cd8 ct8), sl8⟩)
    (c8 : PySem.W.codeIn K cd8 "more_by" = true)
    (k8 : PySem.W.keepIn K (.ref f8) = true)
    (a9 : PySem.W.nsIn K mainGlobals "asked_by" = some (some (.ref f9)))
    (l9 : K.lookup f9 = some ⟨oc9, od9, .func (PySem.W.fnOf "asked_by" "asked_by" (defArgs s_asked_by) (defBody s_asked_by) (defScope s_asked_by) .none kV9 dc9 pm9 an9 cd9 ct9), sl9⟩)
    (c9 : PySem.W.codeIn K cd9 "asked_by" = true)
    (k9 : PySem.W.keepIn K (.ref f9) = true)
    (a10 : PySem.W.nsIn K mainGlobals "least_for" = some (some (.ref f10)))
    (l10 : K.lookup f10 = some ⟨oc10, od10, .func (PySem.W.fnOf "least_for" "least_for" (defArgs s_least_for) (defBody s_least_for) (defScope s_least_for) .none kV10 dc10 pm10 an10 cd10 ct10), sl10⟩)
    (c10 : PySem.W.codeIn K cd10 "least_for" = true)
    (k10 : PySem.W.keepIn K (.ref f10) = true)
    (a11 : PySem.W.findIn K (.ref C_Script) "__init__" = some (some (.ref f11)))
    (i11 : PySem.W.isFn K (.ref f11) = true)
    (mk11 : PySem.W.makesIn K C_Script = true)
    (kc11 : PySem.W.keepIn K (.ref C_Script) = true)
    (l11 : K.lookup f11 = some ⟨oc11, od11, .func (PySem.W.fnOf "__init__" "Script.__init__" (defArgs s_Script___init__) (defBody s_Script___init__) (defScope s_Script___init__) .none kV11 dc11 pm11 an11 cd11 ct11), sl11⟩)
    (c11 : PySem.W.codeIn K cd11 "Script.__init__" = true)
    (k11 : PySem.W.keepIn K (.ref f11) = true)
    (rd12 : PySem.W.readsIn K C_Script (.type "type") = true)
    (ga12 : PySem.W.specialIn K (.ref C_Script) "__getattribute__" = some (some (.builtin "type.__getattribute__")))
    (a12 : PySem.W.findCls K (.ref C_Script) (.type "type") "read" = some (.get (.builtin "classmethod.__get__") (.ref p12) .none (.ref C_Script)))
    (rc12 : PySem.W.recIn K p12 "classmethod" = some (.ref f12 :: re12))
    (fi12 : PySem.W.fnIn K f12 = true)
    (l12 : K.lookup f12 = some ⟨oc12, od12, .func (PySem.W.fnOf "read" "Script.read" (defArgs s_Script_read) (defBody s_Script_read) (defScope s_Script_read) .none kV12 dc12 pm12 an12 cd12 ct12), sl12⟩)
    (c12 : PySem.W.codeIn K cd12 "Script.read" = true)
    (k12 : PySem.W.keepIn K (.ref f12) = true)
    (a13 : PySem.W.findIn K (.ref C_Script) "cloth" = some (some (.ref p13)))
    (ge13 : PySem.W.specialIn K (.ref p13) "__get__" = some (some (.builtin "property.__get__")))
    (tk13 : PySem.W.takesIn K (.ref p13) = some true)
    (rc13 : PySem.W.recIn K p13 "property" = some (.ref f13 :: re13))
    (l13 : K.lookup f13 = some ⟨oc13, od13, .func (PySem.W.fnOf "cloth" "Script.cloth" (defArgs s_Script_cloth) (defBody s_Script_cloth) (defScope s_Script_cloth) .none kV13 dc13 pm13 an13 cd13 ct13), sl13⟩)
    (c13 : PySem.W.codeIn K cd13 "Script.cloth" = true)
    (k13 : PySem.W.keepIn K (.ref f13) = true)
    (a14 : PySem.W.nsIn K mainGlobals "check_script" = some (some (.ref f14)))
    (l14 : K.lookup f14 = some ⟨oc14, od14, .func (PySem.W.fnOf "check_script" "check_script" (defArgs s_check_script) (defBody s_check_script) (defScope s_check_script) .none kV14 dc14 pm14 an14 cd14 ct14), sl14⟩)
    (c14 : PySem.W.codeIn K cd14 "check_script" = true)
    (k14 : PySem.W.keepIn K (.ref f14) = true)
    (a15 : PySem.W.nsIn K mainGlobals "check_known" = some (some (.ref f15)))
    (l15 : K.lookup f15 = some ⟨oc15, od15, .func (PySem.W.fnOf "check_known" "check_known" (defArgs s_check_known) (defBody s_check_known) (defScope s_check_known) .none kV15 dc15 pm15 an15 cd15 ct15), sl15⟩)
    (c15 : PySem.W.codeIn K cd15 "check_known" = true)
    (k15 : PySem.W.keepIn K (.ref f15) = true)
    (a16 : PySem.W.nsIn K mainGlobals "wrong_place" = some (some (.ref f16)))
    (l16 : K.lookup f16 = some ⟨oc16, od16, .func (PySem.W.fnOf "wrong_place" "wrong_place" (defArgs s_wrong_place) (defBody s_wrong_place) (defScope s_wrong_place) .none kV16 dc16 pm16 an16 cd16 ct16), sl16⟩)
    (c16 : PySem.W.codeIn K cd16 "wrong_place" = true)
    (k16 : PySem.W.keepIn K (.ref f16) = true)
    (a17 : PySem.W.nsIn K mainGlobals "check_standing" = some (some (.ref f17)))
    (l17 : K.lookup f17 = some ⟨oc17, od17, .func (PySem.W.fnOf "check_standing" "check_standing" (defArgs s_check_standing) (defBody s_check_standing) (defScope s_check_standing) .none kV17 dc17 pm17 an17 cd17 ct17), sl17⟩)
    (c17 : PySem.W.codeIn K cd17 "check_standing" = true)
    (k17 : PySem.W.keepIn K (.ref f17) = true)
    (a18 : PySem.W.nsIn K mainGlobals "clamped" = some (some (.ref f18)))
    (l18 : K.lookup f18 = some ⟨oc18, od18, .func (PySem.W.fnOf "clamped" "clamped" (defArgs s_clamped) (defBody s_clamped) (defScope s_clamped) .none kV18 dc18 pm18 an18 cd18 ct18), sl18⟩)
    (c18 : PySem.W.codeIn K cd18 "clamped" = true)
    (k18 : PySem.W.keepIn K (.ref f18) = true)
    (a19 : PySem.W.nsIn K mainGlobals "goal_of" = some (some (.ref f19)))
    (l19 : K.lookup f19 = some ⟨oc19, od19, .func (PySem.W.fnOf "goal_of" "goal_of" (defArgs s_goal_of) (defBody s_goal_of) (defScope s_goal_of) .none kV19 dc19 pm19 an19 cd19 ct19), sl19⟩)
    (c19 : PySem.W.codeIn K cd19 "goal_of" = true)
    (k19 : PySem.W.keepIn K (.ref f19) = true)
    (a20 : PySem.W.nsIn K mainGlobals "drawn" = some (some (.ref f20)))
    (l20 : K.lookup f20 = some ⟨oc20, od20, .func (PySem.W.fnOf "drawn" "drawn" (defArgs s_drawn) (defBody s_drawn) (defScope s_drawn) .none kV20 dc20 pm20 an20 cd20 ct20), sl20⟩)
    (c20 : PySem.W.codeIn K cd20 "drawn" = true)
    (k20 : PySem.W.keepIn K (.ref f20) = true)
    (a21 : PySem.W.nsIn K mainGlobals "carried" = some (some (.ref f21)))
    (l21 : K.lookup f21 = some ⟨oc21, od21, .func (PySem.W.fnOf "carried" "carried" (defArgs s_carried) (defBody s_carried) (defScope s_carried) .none kV21 dc21 pm21 an21 cd21 ct21), sl21⟩)
    (c21 : PySem.W.codeIn K cd21 "carried" = true)
    (k21 : PySem.W.keepIn K (.ref f21) = true)
    (a22 : PySem.W.nsIn K mainGlobals "moved" = some (some (.ref f22)))
    (l22 : K.lookup f22 = some ⟨oc22, od22, .func (PySem.W.fnOf "moved" "moved" (defArgs s_moved) (defBody s_moved) (defScope s_moved) .none kV22 dc22 pm22 an22 cd22 ct22), sl22⟩)
    (c22 : PySem.W.codeIn K cd22 "moved" = true)
    (k22 : PySem.W.keepIn K (.ref f22) = true)
    (a23 : PySem.W.nsIn K mainGlobals "first_too_few" = some (some (.ref f23)))
    (l23 : K.lookup f23 = some ⟨oc23, od23, .func (PySem.W.fnOf "first_too_few" "first_too_few" (defArgs s_first_too_few) (defBody s_first_too_few) (defScope s_first_too_few) .none kV23 dc23 pm23 an23 cd23 ct23), sl23⟩)
    (c23 : PySem.W.codeIn K cd23 "first_too_few" = true)
    (k23 : PySem.W.keepIn K (.ref f23) = true)
    (a24 : PySem.W.nsIn K mainGlobals "led" = some (some (.ref f24)))
    (l24 : K.lookup f24 = some ⟨oc24, od24, .func (PySem.W.fnOf "led" "led" (defArgs s_led) (defBody s_led) (defScope s_led) .none kV24 dc24 pm24 an24 cd24 ct24), sl24⟩)
    (c24 : PySem.W.codeIn K cd24 "led" = true)
    (k24 : PySem.W.keepIn K (.ref f24) = true)
    (a25 : PySem.W.nsIn K mainGlobals "_law_spring" = some (some (.ref f25)))
    (l25 : K.lookup f25 = some ⟨oc25, od25, .func (PySem.W.fnOf "_law_spring" "_law_spring" (defArgs s__law_spring) (defBody s__law_spring) (defScope s__law_spring) .none kV25 dc25 pm25 an25 cd25 ct25), sl25⟩)
    (c25 : PySem.W.codeIn K cd25 "_law_spring" = true)
    (k25 : PySem.W.keepIn K (.ref f25) = true)
    (a26 : PySem.W.nsIn K mainGlobals "_law_draw" = some (some (.ref f26)))
    (l26 : K.lookup f26 = some ⟨oc26, od26, .func (PySem.W.fnOf "_law_draw" "_law_draw" (defArgs s__law_draw) (defBody s__law_draw) (defScope s__law_draw) .none kV26 dc26 pm26 an26 cd26 ct26), sl26⟩)
    (c26 : PySem.W.codeIn K cd26 "_law_draw" = true)
    (k26 : PySem.W.keepIn K (.ref f26) = true)
    (a27 : PySem.W.nsIn K mainGlobals "_law_of" = some (some (.ref f27)))
    (l27 : K.lookup f27 = some ⟨oc27, od27, .func (PySem.W.fnOf "_law_of" "_law_of" (defArgs s__law_of) (defBody s__law_of) (defScope s__law_of) .none kV27 dc27 pm27 an27 cd27 ct27), sl27⟩)
    (c27 : PySem.W.codeIn K cd27 "_law_of" = true)
    (k27 : PySem.W.keepIn K (.ref f27) = true)
    (a28 : PySem.W.nsIn K mainGlobals "_law_small_place" = some (some (.ref f28)))
    (l28 : K.lookup f28 = some ⟨oc28, od28, .func (PySem.W.fnOf "_law_small_place" "_law_small_place" (defArgs s__law_small_place) (defBody s__law_small_place) (defScope s__law_small_place) .none kV28 dc28 pm28 an28 cd28 ct28), sl28⟩)
    (c28 : PySem.W.codeIn K cd28 "_law_small_place" = true)
    (k28 : PySem.W.keepIn K (.ref f28) = true)
    (a29 : PySem.W.nsIn K mainGlobals "_law_cloth_row" = some (some (.ref f29)))
    (l29 : K.lookup f29 = some ⟨oc29, od29, .func (PySem.W.fnOf "_law_cloth_row" "_law_cloth_row" (defArgs s__law_cloth_row) (defBody s__law_cloth_row) (defScope s__law_cloth_row) .none kV29 dc29 pm29 an29 cd29 ct29), sl29⟩)
    (c29 : PySem.W.codeIn K cd29 "_law_cloth_row" = true)
    (k29 : PySem.W.keepIn K (.ref f29) = true)
    (a30 : PySem.W.nsIn K mainGlobals "_law_move" = some (some (.ref f30)))
    (l30 : K.lookup f30 = some ⟨oc30, od30, .func (PySem.W.fnOf "_law_move" "_law_move" (defArgs s__law_move) (defBody s__law_move) (defScope s__law_move) .none kV30 dc30 pm30 an30 cd30 ct30), sl30⟩)
    (c30 : PySem.W.codeIn K cd30 "_law_move" = true)
    (k30 : PySem.W.keepIn K (.ref f30) = true)
    (a31 : PySem.W.nsIn K mainGlobals "_law_rows" = some (some (.ref f31)))
    (l31 : K.lookup f31 = some ⟨oc31, od31, .func (PySem.W.fnOf "_law_rows" "_law_rows" (defArgs s__law_rows) (defBody s__law_rows) (defScope s__law_rows) .none kV31 dc31 pm31 an31 cd31 ct31), sl31⟩)
    (c31 : PySem.W.codeIn K cd31 "_law_rows" = true)
    (k31 : PySem.W.keepIn K (.ref f31) = true)
    (a32 : PySem.W.nsIn K mainGlobals "_law_made" = some (some (.ref f32)))
    (l32 : K.lookup f32 = some ⟨oc32, od32, .func (PySem.W.fnOf "_law_made" "_law_made" (defArgs s__law_made) (defBody s__law_made) (defScope s__law_made) .none kV32 dc32 pm32 an32 cd32 ct32), sl32⟩)
    (c32 : PySem.W.codeIn K cd32 "_law_made" = true)
    (k32 : PySem.W.keepIn K (.ref f32) = true)
    (a33 : PySem.W.nsIn K mainGlobals "_law_cloth" = some (some (.ref f33)))
    (l33 : K.lookup f33 = some ⟨oc33, od33, .func (PySem.W.fnOf "_law_cloth" "_law_cloth" (defArgs s__law_cloth) (defBody s__law_cloth) (defScope s__law_cloth) .none kV33 dc33 pm33 an33 cd33 ct33), sl33⟩)
    (c33 : PySem.W.codeIn K cd33 "_law_cloth" = true)
    (k33 : PySem.W.keepIn K (.ref f33) = true)
    (a34 : PySem.W.nsIn K mainGlobals "_law_more" = some (some (.ref f34)))
    (l34 : K.lookup f34 = some ⟨oc34, od34, .func (PySem.W.fnOf "_law_more" "_law_more" (defArgs s__law_more) (defBody s__law_more) (defScope s__law_more) .none kV34 dc34 pm34 an34 cd34 ct34), sl34⟩)
    (c34 : PySem.W.codeIn K cd34 "_law_more" = true)
    (k34 : PySem.W.keepIn K (.ref f34) = true)
    (a35 : PySem.W.nsIn K mainGlobals "_law_asked" = some (some (.ref f35)))
    (l35 : K.lookup f35 = some ⟨oc35, od35, .func (PySem.W.fnOf "_law_asked" "_law_asked" (defArgs s__law_asked) (defBody s__law_asked) (defScope s__law_asked) .none kV35 dc35 pm35 an35 cd35 ct35), sl35⟩)
    (c35 : PySem.W.codeIn K cd35 "_law_asked" = true)
    (k35 : PySem.W.keepIn K (.ref f35) = true)
    (a36 : PySem.W.nsIn K mainGlobals "_law_change" = some (some (.ref f36)))
    (l36 : K.lookup f36 = some ⟨oc36, od36, .func (PySem.W.fnOf "_law_change" "_law_change" (defArgs s__law_change) (defBody s__law_change) (defScope s__law_change) .none kV36 dc36 pm36 an36 cd36 ct36), sl36⟩)
    (c36 : PySem.W.codeIn K cd36 "_law_change" = true)
    (k36 : PySem.W.keepIn K (.ref f36) = true)
    (a37 : PySem.W.nsIn K mainGlobals "_law_least" = some (some (.ref f37)))
    (l37 : K.lookup f37 = some ⟨oc37, od37, .func (PySem.W.fnOf "_law_least" "_law_least" (defArgs s__law_least) (defBody s__law_least) (defScope s__law_least) .none kV37 dc37 pm37 an37 cd37 ct37), sl37⟩)
    (c37 : PySem.W.codeIn K cd37 "_law_least" = true)
    (k37 : PySem.W.keepIn K (.ref f37) = true)
    (a38 : PySem.W.nsIn K mainGlobals "_law_standing" = some (some (.ref f38)))
    (l38 : K.lookup f38 = some ⟨oc38, od38, .func (PySem.W.fnOf "_law_standing" "_law_standing" (defArgs s__law_standing) (defBody s__law_standing) (defScope s__law_standing) .none kV38 dc38 pm38 an38 cd38 ct38), sl38⟩)
    (c38 : PySem.W.codeIn K cd38 "_law_standing" = true)
    (k38 : PySem.W.keepIn K (.ref f38) = true)
    (a39 : PySem.W.nsIn K mainGlobals "_law_greatest" = some (some (.ref f39)))
    (l39 : K.lookup f39 = some ⟨oc39, od39, .func (PySem.W.fnOf "_law_greatest" "_law_greatest" (defArgs s__law_greatest) (defBody s__law_greatest) (defScope s__law_greatest) .none kV39 dc39 pm39 an39 cd39 ct39), sl39⟩)
    (c39 : PySem.W.codeIn K cd39 "_law_greatest" = true)
    (k39 : PySem.W.keepIn K (.ref f39) = true)
    (a40 : PySem.W.nsIn K mainGlobals "_law_over" = some (some (.ref f40)))
    (l40 : K.lookup f40 = some ⟨oc40, od40, .func (PySem.W.fnOf "_law_over" "_law_over" (defArgs s__law_over) (defBody s__law_over) (defScope s__law_over) .none kV40 dc40 pm40 an40 cd40 ct40), sl40⟩)
    (c40 : PySem.W.codeIn K cd40 "_law_over" = true)
    (k40 : PySem.W.keepIn K (.ref f40) = true)
    (a41 : PySem.W.nsIn K mainGlobals "_law_right" = some (some (.ref f41)))
    (l41 : K.lookup f41 = some ⟨oc41, od41, .func (PySem.W.fnOf "_law_right" "_law_right" (defArgs s__law_right) (defBody s__law_right) (defScope s__law_right) .none kV41 dc41 pm41 an41 cd41 ct41), sl41⟩)
    (c41 : PySem.W.codeIn K cd41 "_law_right" = true)
    (k41 : PySem.W.keepIn K (.ref f41) = true)
    (a42 : PySem.W.nsIn K mainGlobals "law" = some (some (.ref f42)))
    (l42 : K.lookup f42 = some ⟨oc42, od42, .func (PySem.W.fnOf "law" "law" (defArgs s_law) (defBody s_law) (defScope s_law) .none kV42 dc42 pm42 an42 cd42 ct42), sl42⟩)
    (c42 : PySem.W.codeIn K cd42 "law" = true)
    (k42 : PySem.W.keepIn K (.ref f42) = true)
    : ∃ fd : FuncData, (∀ (s : Shared) (v : Value), BindsTo s fd ⟨[v], []⟩ [("script", v)]) ∧ ∀ base : Heap, K.In base → base.Ns mainGlobals mg → FnOk l.prog w K mg base CX0 84 fa fd ["script"] (lawSp K) := by
  have e := hfa.symm.trans (PySem.W.mg_of X G a42)
  cases e
  have F1 := fun_mk (st := s_is_integer) l1 c1 k1
  have B1 := F1.binds (ps := ["value"]) fun _ _ _ _ _ _ us hl => match us, hl with | [_], _ => rfl
  have F2 := fun_mk (st := s_number_in) l2 c2 k2
  have B2 := F2.binds (ps := ["word"]) fun _ _ _ _ _ _ us hl => match us, hl with | [_], _ => rfl
  have F3 := fun_mk (st := s_bounded) l3 c3 k3
  have B3 := F3.binds (ps := ["word", "least", "most"]) fun _ _ _ _ _ _ us hl => match us, hl with | [_, _, _], _ => rfl
  have F4 := fun_mk (st := s_is_cloth) l4 c4 k4
  have B4 := F4.binds (ps := ["value"]) fun _ _ _ _ _ _ us hl => match us, hl with | [_], _ => rfl
  have F5 := fun_mk (st := s_cloth_in) l5 c5 k5
  have B5 := F5.binds (ps := ["row"]) fun _ _ _ _ _ _ us hl => match us, hl with | [_], _ => rfl
  have F6 := fun_mk (st := s_move_in) l6 c6 k6
  have B6 := F6.binds (ps := ["row"]) fun _ _ _ _ _ _ us hl => match us, hl with | [_], _ => rfl
  have F7 := fun_mk (st := s_wrong_rows) l7 c7 k7
  have B7 := F7.binds (ps := ["rows"]) fun _ _ _ _ _ _ us hl => match us, hl with | [_], _ => rfl
  have F8 := fun_mk (st := s_more_by) l8 c8 k8
  have B8 := F8.binds (ps := ["step"]) fun _ _ _ _ _ _ us hl => match us, hl with | [_], _ => rfl
  have F9 := fun_mk (st := s_asked_by) l9 c9 k9
  have B9 := F9.binds (ps := ["step"]) fun _ _ _ _ _ _ us hl => match us, hl with | [_], _ => rfl
  have F10 := fun_mk (st := s_least_for) l10 c10 k10
  have B10 := F10.binds (ps := ["steps"]) fun _ _ _ _ _ _ us hl => match us, hl with | [_], _ => rfl
  have F11 := fun_mk (st := s_Script___init__) l11 c11 k11
  have F12 := fun_mk (st := s_Script_read) l12 c12 k12
  have B12 := F12.binds (ps := ["cls", "text"]) fun _ _ _ _ _ _ us hl => match us, hl with | [_, _], _ => rfl
  have F13 := fun_mk (st := s_Script_cloth) l13 c13 k13
  have B13 := F13.binds (ps := ["self"]) fun _ _ _ _ _ _ us hl => match us, hl with | [_], _ => rfl
  have F14 := fun_mk (st := s_check_script) l14 c14 k14
  have B14 := F14.binds (ps := ["value"]) fun _ _ _ _ _ _ us hl => match us, hl with | [_], _ => rfl
  have F15 := fun_mk (st := s_check_known) l15 c15 k15
  have B15 := F15.binds (ps := ["script"]) fun _ _ _ _ _ _ us hl => match us, hl with | [_], _ => rfl
  have F16 := fun_mk (st := s_wrong_place) l16 c16 k16
  have B16 := F16.binds (ps := ["cloth", "places"]) fun _ _ _ _ _ _ us hl => match us, hl with | [_, _], _ => rfl
  have F17 := fun_mk (st := s_check_standing) l17 c17 k17
  have B17 := F17.binds (ps := ["cloth", "places"]) fun _ _ _ _ _ _ us hl => match us, hl with | [_, _], _ => rfl
  have F18 := fun_mk (st := s_clamped) l18 c18 k18
  have B18 := F18.binds (ps := ["value", "one", "two"]) fun _ _ _ _ _ _ us hl => match us, hl with | [_, _, _], _ => rfl
  have F19 := fun_mk (st := s_goal_of) l19 c19 k19
  have B19 := F19.binds (ps := ["cloth", "index", "place"]) fun _ _ _ _ _ _ us hl => match us, hl with | [_, _, _], _ => rfl
  have F20 := fun_mk (st := s_drawn) l20 c20 k20
  have B20 := F20.binds (ps := ["cloth", "places", "index", "place"]) fun _ _ _ _ _ _ us hl => match us, hl with | [_, _, _, _], _ => rfl
  have F21 := fun_mk (st := s_carried) l21 c21 k21
  have B21 := F21.binds (ps := ["cloth", "by"]) fun _ _ _ _ _ _ us hl => match us, hl with | [_, _], _ => rfl
  have F22 := fun_mk (st := s_moved) l22 c22 k22
  have B22 := F22.binds (ps := ["cloth", "places", "step"]) fun _ _ _ _ _ _ us hl => match us, hl with | [_, _, _], _ => rfl
  have F23 := fun_mk (st := s_first_too_few) l23 c23 k23
  have B23 := F23.binds (ps := ["script", "count"]) fun _ _ _ _ _ _ us hl => match us, hl with | [_, _], _ => rfl
  have F24 := fun_mk (st := s_led) l24 c24 k24
  have B24 := F24.binds (ps := ["script", "places"]) fun _ _ _ _ _ _ us hl => match us, hl with | [_, _], _ => rfl
  have F25 := fun_mk (st := s__law_spring) l25 c25 k25
  have B25 := F25.binds (ps := ["cells", "k"]) fun _ _ _ _ _ _ us hl => match us, hl with | [_, _], _ => rfl
  have F26 := fun_mk (st := s__law_draw) l26 c26 k26
  have B26 := F26.binds (ps := ["spring", "size"]) fun _ _ _ _ _ _ us hl => match us, hl with | [_, _], _ => rfl
  have F27 := fun_mk (st := s__law_of) l27 c27 k27
  have B27 := F27.binds (ps := ["spring", "menu"]) fun _ _ _ _ _ _ us hl => match us, hl with | [_, _], _ => rfl
  have F28 := fun_mk (st := s__law_small_place) l28 c28 k28
  have B28 := F28.binds (ps := ["spring"]) fun _ _ _ _ _ _ us hl => match us, hl with | [_], _ => rfl
  have F29 := fun_mk (st := s__law_cloth_row) l29 c29 k29
  have B29 := F29.binds (ps := ["spring"]) fun _ _ _ _ _ _ us hl => match us, hl with | [_], _ => rfl
  have F30 := fun_mk (st := s__law_move) l30 c30 k30
  have B30 := F30.binds (ps := ["spring", "place"]) fun _ _ _ _ _ _ us hl => match us, hl with | [_, _], _ => rfl
  have F31 := fun_mk (st := s__law_rows) l31 c31 k31
  have B31 := F31.binds (ps := ["spring"]) fun _ _ _ _ _ _ us hl => match us, hl with | [_], _ => rfl
  have F32 := fun_mk (st := s__law_made) l32 c32 k32
  have B32 := F32.binds (ps := ["rows_now"]) fun _ _ _ _ _ _ us hl => match us, hl with | [_], _ => rfl
  have F33 := fun_mk (st := s__law_cloth) l33 c33 k33
  have B33 := F33.binds (ps := ["row_now"]) fun _ _ _ _ _ _ us hl => match us, hl with | [_], _ => rfl
  have F34 := fun_mk (st := s__law_more) l34 c34 k34
  have B34 := F34.binds (ps := ["move_now"]) fun _ _ _ _ _ _ us hl => match us, hl with | [_], _ => rfl
  have F35 := fun_mk (st := s__law_asked) l35 c35 k35
  have B35 := F35.binds (ps := ["move_now"]) fun _ _ _ _ _ _ us hl => match us, hl with | [_], _ => rfl
  have F36 := fun_mk (st := s__law_change) l36 c36 k36
  have B36 := F36.binds (ps := ["rows_now"]) fun _ _ _ _ _ _ us hl => match us, hl with | [_], _ => rfl
  have F37 := fun_mk (st := s__law_least) l37 c37 k37
  have B37 := F37.binds (ps := ["rows_now"]) fun _ _ _ _ _ _ us hl => match us, hl with | [_], _ => rfl
  have F38 := fun_mk (st := s__law_standing) l38 c38 k38
  have B38 := F38.binds (ps := ["spring", "cloth_now", "n_now"]) fun _ _ _ _ _ _ us hl => match us, hl with | [_, _, _], _ => rfl
  have F39 := fun_mk (st := s__law_greatest) l39 c39 k39
  have B39 := F39.binds (ps := ["spots", "mates"]) fun _ _ _ _ _ _ us hl => match us, hl with | [_, _], _ => rfl
  have F40 := fun_mk (st := s__law_over) l40 c40 k40
  have B40 := F40.binds (ps := ["spots", "mates"]) fun _ _ _ _ _ _ us hl => match us, hl with | [_, _], _ => rfl
  have F41 := fun_mk (st := s__law_right) l41 c41 k41
  have B41 := F41.binds (ps := ["spring"]) fun _ _ _ _ _ _ us hl => match us, hl with | [_], _ => rfl
  have F42 := fun_mk (st := s_law) l42 c42 k42
  have B42 := F42.binds (ps := ["script"]) fun _ _ _ _ _ _ us hl => match us, hl with | [_], _ => rfl
  refine ⟨PySem.W.fnOf "law" "law" (defArgs s_law) (defBody s_law) (defScope s_law) .none kV42 dc42 pm42 an42 cd42 ct42, fun s v => .of_eq rfl, fun base _ _ => ?_⟩
  have S0 : Stat G_0 (⟨K, cls0 C_Script⟩ : Wd) 0 l.prog w K mg base := by
    refine ⟨rfl, ?_, ?_, (fun f fi e => (nomatch (show (none : Option FI) = some fi from e))), ?_, ?_, (fun _ _ _ fi _ e => (nomatch (show (none : Option FI) = some fi from e))), (fun _ _ fi e => (nomatch (show (none : Option FI) = some fi from e))), (fun _ fi e => (nomatch (show (none : Option FI) = some fi from e))), ?_, (fun _ fi e => (nomatch (show (none : Option FI) = some fi from e))), (fun _ _ fi e => (nomatch (show (none : Option FI) = some fi from e)))⟩
    · intro x hx
      simp only [bltNames, List.mem_cons, List.not_mem_nil, or_false] at hx
      rcases hx with rfl | rfl | rfl | rfl | rfl | rfl | rfl | rfl | rfl | rfl | rfl | rfl | rfl | rfl | rfl | rfl | rfl | rfl | rfl
      · exact PySem.W.mg_none_of X G z0
      · exact PySem.W.mg_none_of X G z1
      · exact PySem.W.mg_none_of X G z2
      · exact PySem.W.mg_none_of X G z3
      · exact PySem.W.mg_none_of X G z4
      · exact PySem.W.mg_none_of X G z5
      · exact PySem.W.mg_none_of X G z6
      · exact PySem.W.mg_none_of X G z7
      · exact PySem.W.mg_none_of X G z8
      · exact PySem.W.mg_none_of X G z9
      · exact PySem.W.mg_none_of X G z10
      · exact PySem.W.mg_none_of X G z11
      · exact PySem.W.mg_none_of X G z12
      · exact PySem.W.mg_none_of X G z13
      · exact PySem.W.mg_none_of X G z14
      · exact PySem.W.mg_none_of X G z15
      · exact PySem.W.mg_none_of X G z16
      · exact PySem.W.mg_none_of X G z17
      · exact PySem.W.mg_none_of X G z18
    · intro x d e
      have e : con0 x = some d := e
      unfold con0 at e
      split at e
      · rename_i q; subst q; cases e; exact ⟨.int 9, _, PySem.W.mg_of X G cv0, ⟨_, rfl⟩, fun _ => .int _⟩
      split at e
      · rename_i q; subst q; cases e; exact ⟨.int 99, _, PySem.W.mg_of X G cv1, ⟨_, rfl⟩, fun _ => .int _⟩
      split at e
      · rename_i q; subst q; cases e; exact ⟨.int 5, _, PySem.W.mg_of X G cv2, ⟨_, rfl⟩, fun _ => .int _⟩
      split at e
      · rename_i q; subst q; cases e; exact ⟨.int 10, _, PySem.W.mg_of X G cv3, ⟨_, rfl⟩, fun _ => .int _⟩
      split at e
      · rename_i q; subst q; cases e; exact ⟨.str "0123456789", _, PySem.W.mg_of X G cv4, ⟨_, rfl⟩, fun _ => .str _⟩
      split at e
      · rename_i q; subst q; cases e; exact ⟨.ref ca5, _, PySem.W.mg_of X G cv5, rfl, fun Hs => .tup (xs := [V.str "left", V.str "right"]) (.inr ⟨co5, _, cn5, cob5, coc5, cod5, (show (2 : Nat) ≤ sizeLine by decide), .cons ⟨_, rfl⟩ (.cons ⟨_, rfl⟩ (.nil))⟩) (.cons (.str _) (.cons (.str _) (.nil)))⟩
      cases e
    · intro c C e
      have e : cls0 C_Script c = some C := e
      unfold cls0 at e
      split at e
      · cases e; exact ⟨pg_Script, hd_Script, po_Script, sa_Script⟩
      cases e
    · intro c C f e e2
      have e : cls0 C_Script c = some C := e
      have e2 : fld0 c f = true := e2
      unfold fld0 at e2
      simp only [Bool.or_eq_true, Bool.and_eq_true, decide_eq_true_eq] at e2
      rcases e2 with (((⟨rfl, rfl⟩) | ⟨rfl, rfl⟩) | ⟨rfl, rfl⟩) | ⟨rfl, rfl⟩
      · have e3 : cls0 C_Script "Script" = some C_Script := by unfold cls0; rfl
        rw [e3] at e; cases e; exact nf0
      · have e3 : cls0 C_Script "Script" = some C_Script := by unfold cls0; rfl
        rw [e3] at e; cases e; exact nf1
      · have e3 : cls0 C_Script "Script" = some C_Script := by unfold cls0; rfl
        rw [e3] at e; cases e; exact nf2
      · have e3 : cls0 C_Script "Script" = some C_Script := by unfold cls0; rfl
        rw [e3] at e; cases e; exact nf3
    · intro c e
      have e : isc0 c = true := e
      unfold isc0 at e
      simp only [Bool.or_eq_true, decide_eq_true_eq] at e
      rcases e with rfl
      · refine ⟨C_Script, (by show cls0 C_Script "Script" = some C_Script; unfold cls0; rfl), PySem.W.mg_of X G g_Script, ?_, ?_⟩
        · intro T hT
          simp only [isaTys, List.mem_cons, List.not_mem_nil, or_false] at hT
          rcases hT with rfl | rfl | rfl | rfl | rfl | rfl
          · exact kit_bt ic_Script ty_Script (by kernel_rfl)
          · exact kit_bt ic_Script ty_Script (by kernel_rfl)
          · exact kit_bt ic_Script ty_Script (by kernel_rfl)
          · exact kit_bt ic_Script ty_Script (by kernel_rfl)
          · exact kit_bt ic_Script ty_Script (by kernel_rfl)
          · exact kit_bt ic_Script ty_Script (by kernel_rfl)
        · intro c2 C2 e
          have e : cls0 C_Script c2 = some C2 := e
          unfold cls0 at e
          split at e
          · rename_i q; subst q; cases e; exact ⟨⟨th_Script, tn, tt, tm_Script⟩, kit_self.trans (by decide +kernel)⟩
          cases e
  have S1 := S0.addFn F1 (PySem.W.mg_of X G a1) sc_is_integer rfl (by decide) c_is_integer vg_1 B1 (fun ks ord e => by have e : kwo0 "is_integer" ks = some ord := e; unfold kwo0 at e; skip; cases e)
  have S2 := S1.addFn F2 (PySem.W.mg_of X G a2) sc_number_in rfl (by decide) c_number_in vg_2 B2 (fun ks ord e => by have e : kwo0 "number_in" ks = some ord := e; unfold kwo0 at e; skip; cases e)
  have S3 := S2.addFn F3 (PySem.W.mg_of X G a3) sc_bounded rfl (by decide) c_bounded vg_3 B3 (fun ks ord e => by have e : kwo0 "bounded" ks = some ord := e; unfold kwo0 at e; skip; cases e)
  have S4 := S3.addFn F4 (PySem.W.mg_of X G a4) sc_is_cloth rfl (by decide) c_is_cloth vg_4 B4 (fun ks ord e => by have e : kwo0 "is_cloth" ks = some ord := e; unfold kwo0 at e; skip; cases e)
  have S5 := S4.addFn F5 (PySem.W.mg_of X G a5) sc_cloth_in rfl (by decide) c_cloth_in vg_5 B5 (fun ks ord e => by have e : kwo0 "cloth_in" ks = some ord := e; unfold kwo0 at e; skip; cases e)
  have S6 := S5.addFn F6 (PySem.W.mg_of X G a6) sc_move_in rfl (by decide) c_move_in vg_6 B6 (fun ks ord e => by have e : kwo0 "move_in" ks = some ord := e; unfold kwo0 at e; skip; cases e)
  have S7 := S6.addFn F7 (PySem.W.mg_of X G a7) sc_wrong_rows rfl (by decide) c_wrong_rows vg_7 B7 (fun ks ord e => by have e : kwo0 "wrong_rows" ks = some ord := e; unfold kwo0 at e; skip; cases e)
  have S8 := S7.addFn F8 (PySem.W.mg_of X G a8) sc_more_by rfl (by decide) c_more_by vg_8 B8 (fun ks ord e => by have e : kwo0 "more_by" ks = some ord := e; unfold kwo0 at e; skip; cases e)
  have S9 := S8.addFn F9 (PySem.W.mg_of X G a9) sc_asked_by rfl (by decide) c_asked_by vg_9 B9 (fun ks ord e => by have e : kwo0 "asked_by" ks = some ord := e; unfold kwo0 at e; skip; cases e)
  have S10 := S9.addFn F10 (PySem.W.mg_of X G a10) sc_least_for rfl (by decide) c_least_for vg_10 B10 (fun ks ord e => by have e : kwo0 "least_for" ks = some ord := e; unfold kwo0 at e; skip; cases e)
  have S11 := S10.addV (cn := "Script") (C := C_Script) F11 rfl (PySem.W.mg_of X G g_Script) ⟨mk11, a11, i11, kc11⟩ rfl sc_Script___init__ rfl (by decide) c_Script___init__ vg_11 (fun kV doc pm an cdv ct => StX.bind_star1 (B := fun l => bindArgs (PySem.W.fnOf "__init__" "Script.__init__" (defArgs s_Script___init__) (defBody s_Script___init__) (defScope s_Script___init__) .none kV doc pm an cdv ct) ⟨l, []⟩) (fun a => rfl) (fun a r rs => rfl))
  have S12 := S11.addCm (cn := "Script") (C := C_Script) F12 (PySem.W.mg_of X G g_Script) ⟨rd12, ga12⟩ ⟨a12, ⟨_, rc12⟩, fi12⟩ sc_Script_read rfl (by decide) c_Script_read vg_12 B12
  have S13 := S12.addProp (cn := "Script") F13 (p := p13) (fun C e => by have e : some C_Script = some C := e; cases e; exact ⟨a13, ge13, tk13, _, rc13⟩) sc_Script_cloth rfl (by decide) c_Script_cloth vg_13 B13
  have S14 := S13.addFn F14 (PySem.W.mg_of X G a14) sc_check_script rfl (by decide) c_check_script vg_14 B14 (fun ks ord e => by have e : kwo0 "check_script" ks = some ord := e; unfold kwo0 at e; skip; cases e)
  have S15 := S14.addFn F15 (PySem.W.mg_of X G a15) sc_check_known rfl (by decide) c_check_known vg_15 B15 (fun ks ord e => by have e : kwo0 "check_known" ks = some ord := e; unfold kwo0 at e; skip; cases e)
  have S16 := S15.addFn F16 (PySem.W.mg_of X G a16) sc_wrong_place rfl (by decide) c_wrong_place vg_16 B16 (fun ks ord e => by have e : kwo0 "wrong_place" ks = some ord := e; unfold kwo0 at e; skip; cases e)
  have S17 := S16.addFn F17 (PySem.W.mg_of X G a17) sc_check_standing rfl (by decide) c_check_standing vg_17 B17 (fun ks ord e => by have e : kwo0 "check_standing" ks = some ord := e; unfold kwo0 at e; skip; cases e)
  have S18 := S17.addFn F18 (PySem.W.mg_of X G a18) sc_clamped rfl (by decide) c_clamped vg_18 B18 (fun ks ord e => by have e : kwo0 "clamped" ks = some ord := e; unfold kwo0 at e; skip; cases e)
  have S19 := S18.addFn F19 (PySem.W.mg_of X G a19) sc_goal_of rfl (by decide) c_goal_of vg_19 B19 (fun ks ord e => by have e : kwo0 "goal_of" ks = some ord := e; unfold kwo0 at e; skip; cases e)
  have S20 := S19.addFn F20 (PySem.W.mg_of X G a20) sc_drawn rfl (by decide) c_drawn vg_20 B20 (fun ks ord e => by have e : kwo0 "drawn" ks = some ord := e; unfold kwo0 at e; skip; cases e)
  have S21 := S20.addFn F21 (PySem.W.mg_of X G a21) sc_carried rfl (by decide) c_carried vg_21 B21 (fun ks ord e => by have e : kwo0 "carried" ks = some ord := e; unfold kwo0 at e; skip; cases e)
  have S22 := S21.addFn F22 (PySem.W.mg_of X G a22) sc_moved rfl (by decide) c_moved vg_22 B22 (fun ks ord e => by have e : kwo0 "moved" ks = some ord := e; unfold kwo0 at e; skip; cases e)
  have S23 := S22.addFn F23 (PySem.W.mg_of X G a23) sc_first_too_few rfl (by decide) c_first_too_few vg_23 B23 (fun ks ord e => by have e : kwo0 "first_too_few" ks = some ord := e; unfold kwo0 at e; skip; cases e)
  have S24 := S23.addFn F24 (PySem.W.mg_of X G a24) sc_led rfl (by decide) c_led vg_24 B24 (fun ks ord e => by have e : kwo0 "led" ks = some ord := e; unfold kwo0 at e; skip; cases e)
  have S25 := S24.addFn F25 (PySem.W.mg_of X G a25) sc__law_spring rfl (by decide) c__law_spring vg_25 B25 (fun ks ord e => by have e : kwo0 "_law_spring" ks = some ord := e; unfold kwo0 at e; skip; cases e)
  have S26 := S25.addFn F26 (PySem.W.mg_of X G a26) sc__law_draw rfl (by decide) c__law_draw vg_26 B26 (fun ks ord e => by have e : kwo0 "_law_draw" ks = some ord := e; unfold kwo0 at e; skip; cases e)
  have S27 := S26.addFn F27 (PySem.W.mg_of X G a27) sc__law_of rfl (by decide) c__law_of vg_27 B27 (fun ks ord e => by have e : kwo0 "_law_of" ks = some ord := e; unfold kwo0 at e; skip; cases e)
  have S28 := S27.addFn F28 (PySem.W.mg_of X G a28) sc__law_small_place rfl (by decide) c__law_small_place vg_28 B28 (fun ks ord e => by have e : kwo0 "_law_small_place" ks = some ord := e; unfold kwo0 at e; skip; cases e)
  have S29 := S28.addFn F29 (PySem.W.mg_of X G a29) sc__law_cloth_row rfl (by decide) c__law_cloth_row vg_29 B29 (fun ks ord e => by have e : kwo0 "_law_cloth_row" ks = some ord := e; unfold kwo0 at e; skip; cases e)
  have S30 := S29.addFn F30 (PySem.W.mg_of X G a30) sc__law_move rfl (by decide) c__law_move vg_30 B30 (fun ks ord e => by have e : kwo0 "_law_move" ks = some ord := e; unfold kwo0 at e; skip; cases e)
  have S31 := S30.addFn F31 (PySem.W.mg_of X G a31) sc__law_rows rfl (by decide) c__law_rows vg_31 B31 (fun ks ord e => by have e : kwo0 "_law_rows" ks = some ord := e; unfold kwo0 at e; skip; cases e)
  have S32 := S31.addFn F32 (PySem.W.mg_of X G a32) sc__law_made rfl (by decide) c__law_made vg_32 B32 (fun ks ord e => by have e : kwo0 "_law_made" ks = some ord := e; unfold kwo0 at e; skip; cases e)
  have S33 := S32.addFn F33 (PySem.W.mg_of X G a33) sc__law_cloth rfl (by decide) c__law_cloth vg_33 B33 (fun ks ord e => by have e : kwo0 "_law_cloth" ks = some ord := e; unfold kwo0 at e; skip; cases e)
  have S34 := S33.addFn F34 (PySem.W.mg_of X G a34) sc__law_more rfl (by decide) c__law_more vg_34 B34 (fun ks ord e => by have e : kwo0 "_law_more" ks = some ord := e; unfold kwo0 at e; skip; cases e)
  have S35 := S34.addFn F35 (PySem.W.mg_of X G a35) sc__law_asked rfl (by decide) c__law_asked vg_35 B35 (fun ks ord e => by have e : kwo0 "_law_asked" ks = some ord := e; unfold kwo0 at e; skip; cases e)
  have S36 := S35.addFn F36 (PySem.W.mg_of X G a36) sc__law_change rfl (by decide) c__law_change vg_36 B36 (fun ks ord e => by have e : kwo0 "_law_change" ks = some ord := e; unfold kwo0 at e; skip; cases e)
  have S37 := S36.addFn F37 (PySem.W.mg_of X G a37) sc__law_least rfl (by decide) c__law_least vg_37 B37 (fun ks ord e => by have e : kwo0 "_law_least" ks = some ord := e; unfold kwo0 at e; skip; cases e)
  have S38 := S37.addFn F38 (PySem.W.mg_of X G a38) sc__law_standing rfl (by decide) c__law_standing vg_38 B38 (fun ks ord e => by have e : kwo0 "_law_standing" ks = some ord := e; unfold kwo0 at e; skip; cases e)
  have S39 := S38.addFn F39 (PySem.W.mg_of X G a39) sc__law_greatest rfl (by decide) c__law_greatest vg_39 B39 (fun ks ord e => by have e : kwo0 "_law_greatest" ks = some ord := e; unfold kwo0 at e; skip; cases e)
  have S40 := S39.addFn F40 (PySem.W.mg_of X G a40) sc__law_over rfl (by decide) c__law_over vg_40 B40 (fun ks ord e => by have e : kwo0 "_law_over" ks = some ord := e; unfold kwo0 at e; skip; cases e)
  have S41 := S40.addFn F41 (PySem.W.mg_of X G a41) sc__law_right rfl (by decide) c__law_right vg_41 B41 (fun ks ord e => by have e : kwo0 "_law_right" ks = some ord := e; unfold kwo0 at e; skip; cases e)
  exact (fn_ev (fi := fi_law) S41 F42 sc_law rfl (by decide) c_law vg_42).imp fun vs H Q E h => law_end h
theorem walk {l : PySem.W.OpenLaw} {q : Program} {loose : List Str} {XP : (Str → Option Value) → Heap → Prop} {YP : World → Heap → Prop} {d : DefRec} {K : Params → PySem.W.Frag} (hn : l.most = some 63) (hdf : d.params.defaults = [])
    (hY : ∀ (w : World) (h : Heap), YP w h → (K w.params).In h)
    (F : ∀ (w : World) (mg : Str → Option Value) (fa : Addr) (h : Heap), (K w.params).In h → h.Ns mainGlobals mg → mg d.name = some (.ref fa) →
      ∃ fd : FuncData, (∀ (s : Shared) (u : Value), BindsTo s fd ⟨[u], []⟩ [("script", u)]) ∧ ∀ base : Heap, (K w.params).In base → base.Ns mainGlobals mg → FnOk l.prog w (K w.params) mg base CX0 84 fa fd ["script"] (lawSp (K w.params))) :
    PySem.W.WalkO q loose XP YP l.row.toRowW d [] (fun f vs => PySem.call f vs) :=
  L2.walk_of (n := 63) (k := 84) (x := "script") (CX := fun _ => CX0) (sp := fun w => lawSp (K w.params)) hn (by decide) hdf ⟨rfl, by decide, by decide⟩ hY F (fun _ _ a ns hl _ hS => ⟨a, ns, rfl, hS, hl, fun _ => rfl⟩) fun _ _ _ _ _ z => z
end T

set_option maxRecDepth 100000
open PySem PySem.W PyProof.Rows in
set_option maxRecDepth 100000 in
set_option maxHeartbeats 0 in
theorem PySem.Challenge.cw_drawnrings_k31_whole_order_and_nearness_holds : PySem.Challenge.rw_drawnrings_k31_whole_order_and_nearness.Holds := by
  w_on; o_law; k_head; (case hw => w_witness2)
  k_fill
  refine T.walk (l := PySem.Challenge.rw_drawnrings_k31_whole_order_and_nearness) rfl rfl (fun w h Y => PySem.W.kIn_of Y) ?F
  case F =>
    intro w mg fa h KX G hmg
    refine' T.all_mk KX G hmg ?z0 ?z1 ?z2 ?z3 ?z4 ?z5 ?z6 ?z7 ?z8 ?z9 ?z10 ?z11 ?z12 ?z13 ?z14 ?z15 ?z16 ?z17 ?z18 ?cv0 ?cv1 ?cv2 ?cv3 ?cv4 ?cv5 ?cob5 ?coc5 ?cod5 ?g_Script ?pg_Script ?hd_Script ?po_Script ?sa_Script ?nf0 ?nf1 ?nf2 ?nf3 ?tn ?tt ?th_Script ?tm_Script ?ic_Script ?ty_Script ?a1 ?l1 ?c1 ?k1 ?a2 ?l2 ?c2 ?k2 ?a3 ?l3 ?c3 ?k3 ?a4 ?l4 ?c4 ?k4 ?a5 ?l5 ?c5 ?k5 ?a6 ?l6 ?c6 ?k6 ?a7 ?l7 ?c7 ?k7 ?a8 ?l8 ?c8 ?k8 ?a9 ?l9 ?c9 ?k9 ?a10 ?l10 ?c10 ?k10 ?a11 ?i11 ?mk11 ?kc11 ?l11 ?c11 ?k11 ?rd12 ?ga12 ?a12 ?rc12 ?fi12 ?l12 ?c12 ?k12 ?a13 ?ge13 ?tk13 ?rc13 ?l13 ?c13 ?k13 ?a14 ?l14 ?c14 ?k14 ?a15 ?l15 ?c15 ?k15 ?a16 ?l16 ?c16 ?k16 ?a17 ?l17 ?c17 ?k17 ?a18 ?l18 ?c18 ?k18 ?a19 ?l19 ?c19 ?k19 ?a20 ?l20 ?c20 ?k20 ?a21 ?l21 ?c21 ?k21 ?a22 ?l22 ?c22 ?k22 ?a23 ?l23 ?c23 ?k23 ?a24 ?l24 ?c24 ?k24 ?a25 ?l25 ?c25 ?k25 ?a26 ?l26 ?c26 ?k26 ?a27 ?l27 ?c27 ?k27 ?a28 ?l28 ?c28 ?k28 ?a29 ?l29 ?c29 ?k29 ?a30 ?l30 ?c30 ?k30 ?a31 ?l31 ?c31 ?k31 ?a32 ?l32 ?c32 ?k32 ?a33 ?l33 ?c33 ?k33 ?a34 ?l34 ?c34 ?k34 ?a35 ?l35 ?c35 ?k35 ?a36 ?l36 ?c36 ?k36 ?a37 ?l37 ?c37 ?k37 ?a38 ?l38 ?c38 ?k38 ?a39 ?l39 ?c39 ?k39 ?a40 ?l40 ?c40 ?k40 ?a41 ?l41 ?c41 ?k41 ?a42 ?l42 ?c42 ?k42
    (case z0 => k_is)
    (case z1 => k_is)
    (case z2 => k_is)
    (case z3 => k_is)
    (case z4 => k_is)
    (case z5 => k_is)
    (case z6 => k_is)
    (case z7 => k_is)
    (case z8 => k_is)
    (case z9 => k_is)
    (case z10 => k_is)
    (case z11 => k_is)
    (case z12 => k_is)
    (case z13 => k_is)
    (case z14 => k_is)
    (case z15 => k_is)
    (case z16 => k_is)
    (case z17 => k_is)
    (case z18 => k_is)
    (case cv0 => k_is)
    (case cv1 => k_is)
    (case cv2 => k_is)
    (case cv3 => k_is)
    (case cv4 => k_is)
    (case cv5 => k_is)
    (case cob5 => k_is)
    (case coc5 => rfl)
    (case cod5 => rfl)
    (case g_Script => k_is)
    (case pg_Script => k_is)
    (case hd_Script => k_is)
    (case po_Script => k_is)
    (case sa_Script => k_is)
    (case nf0 => k_is)
    (case nf1 => k_is)
    (case nf2 => k_is)
    (case nf3 => k_is)
    (case tn => k_is)
    (case tt => k_is)
    (case th_Script => k_is)
    (case tm_Script => k_is)
    (case ic_Script => k_is)
    (case ty_Script => k_is)
    (case a1 => k_is)
    (case l1 => k_is)
    (case c1 => k_is)
    (case k1 => k_is)
    (case a2 => k_is)
    (case l2 => k_is)
    (case c2 => k_is)
    (case k2 => k_is)
    (case a3 => k_is)
    (case l3 => k_is)
    (case c3 => k_is)
    (case k3 => k_is)
    (case a4 => k_is)
    (case l4 => k_is)
    (case c4 => k_is)
    (case k4 => k_is)
    (case a5 => k_is)
    (case l5 => k_is)
    (case c5 => k_is)
    (case k5 => k_is)
    (case a6 => k_is)
    (case l6 => k_is)
    (case c6 => k_is)
    (case k6 => k_is)
    (case a7 => k_is)
    (case l7 => k_is)
    (case c7 => k_is)
    (case k7 => k_is)
    (case a8 => k_is)
    (case l8 => k_is)
    (case c8 => k_is)
    (case k8 => k_is)
    (case a9 => k_is)
    (case l9 => k_is)
    (case c9 => k_is)
    (case k9 => k_is)
    (case a10 => k_is)
    (case l10 => k_is)
    (case c10 => k_is)
    (case k10 => k_is)
    (case a11 => k_is)
    (case i11 => k_is)
    (case mk11 => k_is)
    (case kc11 => k_is)
    (case l11 => k_is)
    (case c11 => k_is)
    (case k11 => k_is)
    (case rd12 => k_is)
    (case ga12 => k_is)
    (case a12 => k_is)
    (case rc12 => k_is)
    (case fi12 => k_is)
    (case l12 => k_is)
    (case c12 => k_is)
    (case k12 => k_is)
    (case a13 => k_is)
    (case ge13 => k_is)
    (case tk13 => k_is)
    (case rc13 => k_is)
    (case l13 => k_is)
    (case c13 => k_is)
    (case k13 => k_is)
    (case a14 => k_is)
    (case l14 => k_is)
    (case c14 => k_is)
    (case k14 => k_is)
    (case a15 => k_is)
    (case l15 => k_is)
    (case c15 => k_is)
    (case k15 => k_is)
    (case a16 => k_is)
    (case l16 => k_is)
    (case c16 => k_is)
    (case k16 => k_is)
    (case a17 => k_is)
    (case l17 => k_is)
    (case c17 => k_is)
    (case k17 => k_is)
    (case a18 => k_is)
    (case l18 => k_is)
    (case c18 => k_is)
    (case k18 => k_is)
    (case a19 => k_is)
    (case l19 => k_is)
    (case c19 => k_is)
    (case k19 => k_is)
    (case a20 => k_is)
    (case l20 => k_is)
    (case c20 => k_is)
    (case k20 => k_is)
    (case a21 => k_is)
    (case l21 => k_is)
    (case c21 => k_is)
    (case k21 => k_is)
    (case a22 => k_is)
    (case l22 => k_is)
    (case c22 => k_is)
    (case k22 => k_is)
    (case a23 => k_is)
    (case l23 => k_is)
    (case c23 => k_is)
    (case k23 => k_is)
    (case a24 => k_is)
    (case l24 => k_is)
    (case c24 => k_is)
    (case k24 => k_is)
    (case a25 => k_is)
    (case l25 => k_is)
    (case c25 => k_is)
    (case k25 => k_is)
    (case a26 => k_is)
    (case l26 => k_is)
    (case c26 => k_is)
    (case k26 => k_is)
    (case a27 => k_is)
    (case l27 => k_is)
    (case c27 => k_is)
    (case k27 => k_is)
    (case a28 => k_is)
    (case l28 => k_is)
    (case c28 => k_is)
    (case k28 => k_is)
    (case a29 => k_is)
    (case l29 => k_is)
    (case c29 => k_is)
    (case k29 => k_is)
    (case a30 => k_is)
    (case l30 => k_is)
    (case c30 => k_is)
    (case k30 => k_is)
    (case a31 => k_is)
    (case l31 => k_is)
    (case c31 => k_is)
    (case k31 => k_is)
    (case a32 => k_is)
    (case l32 => k_is)
    (case c32 => k_is)
    (case k32 => k_is)
    (case a33 => k_is)
    (case l33 => k_is)
    (case c33 => k_is)
    (case k33 => k_is)
    (case a34 => k_is)
    (case l34 => k_is)
    (case c34 => k_is)
    (case k34 => k_is)
    (case a35 => k_is)
    (case l35 => k_is)
    (case c35 => k_is)
    (case k35 => k_is)
    (case a36 => k_is)
    (case l36 => k_is)
    (case c36 => k_is)
    (case k36 => k_is)
    (case a37 => k_is)
    (case l37 => k_is)
    (case c37 => k_is)
    (case k37 => k_is)
    (case a38 => k_is)
    (case l38 => k_is)
    (case c38 => k_is)
    (case k38 => k_is)
    (case a39 => k_is)
    (case l39 => k_is)
    (case c39 => k_is)
    (case k39 => k_is)
    (case a40 => k_is)
    (case l40 => k_is)
    (case c40 => k_is)
    (case k40 => k_is)
    (case a41 => k_is)
    (case l41 => k_is)
    (case c41 => k_is)
    (case k41 => k_is)
    (case a42 => k_is)
    (case l42 => k_is)
    (case c42 => k_is)
    (case k42 => k_is)

