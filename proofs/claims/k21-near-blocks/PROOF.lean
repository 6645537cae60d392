import PyProof.Rows.All
import Wide.All
import OpenK.AllK
import Wide.FinOn
import HandS.ForMost
import HandS.ForExc
import HandS.Defaults
import HandS.Deep
import HandS.IsInst
import HandS.Style
import HandS.Flow
import HandS.Lambda
import HandS.ExcIs
import HandS.HeadHook1
import HandS.HeadHook2
import HandS.CallSlots
import HandS.HeadHook4
import HandS.Comp
import HandS.Dict
import HandS.SortInts
import HandS.TupSets
import HandS.Strs
import HandS.SetFor
import OpenK.KOps
import HandS.Exc
import HandS.HeadWalk
import HandS.EndTab
import KE.KStateDown
import HandS.Head0
import HandS.Head1
import HandS.Head2
import HandS.HeadEnd
import HandS.HeadHook3
import PySem.Challenge.RW_gapstairs_k21_near_blocks
set_option Elab.async false
set_option linter.all false
set_option maxRecDepth 100000
set_option maxHeartbeats 0
/-! VS1: data, slots, the relation between a pure environment and the layer's slots and heap. -/
namespace VS
open PySem PySem.Spec PyProof.Rows L2

/-- pure data -/
inductive D where
  | non | bl (b : Bool) | int (i : Int) | str (x : Str)
  | tup (xs : List D) | lst (xs : List D) | dic (kvs : List (Key × D))
  | ins (c : Str) (fs : List (Str × D)) | exc (c : Str)

/-- the drawn numbers of a law -/
structure Draw where
  great : List Int
  cells : List Int
  left : Int
  turn : Int

/-- what a slot holds: data that stands still, or a mutable thing that this slot alone knows -/
inductive SV where
  | d (x : D) | ol (xs : List D) | od (kvs : List (Key × D)) | dr (s : Draw) | sc (ns : List Int) | oi (c : Str) (fs : List (Str × D))

abbrev En := List (Option SV)

structure VC where
  K : PySem.W.Frag
  mg : Str → Option Value
  T : List (Addr × Str)
  P : Program
  w : World

/-- an exception object of the class cls, kept as a value -/
def ExV (cls : Value) (a : Addr) : HO := .ext fun h => ∃ (oe : Obj) (vs : Array Value), h.get? a = some oe ∧ Zc cls none oe ∧ oe.data = .fields vs

mutual
inductive Rp (C : VC) (G : Hp) : V → D → Prop
  | non : Rp C G .non .non
  | bl (b : Bool) : Rp C G (.bl b) (.bl b)
  | int (i : Int) : Rp C G (.int i) (.int i)
  | str (x : Str) : Rp C G (.str x) (.str x)
  | tup {a : Addr} {xs : List V} {ds : List D} : SqT C.K G a xs → RpL C G xs ds → Rp C G (.ref a) (.tup ds)
  | lst {a : Addr} {xs : List V} {ds : List D} : G a = some (.lst xs) → RpL C G xs ds → Rp C G (.ref a) (.lst ds)
  | dic {a : Addr} {kvs : List (Key × V)} {ds : List (Key × D)} : G a = some (.dK kvs) → RpK C G kvs ds → Rp C G (.ref a) (.dic ds)
  | ins {a Ca dx : Addr} {c : Str} {fs : List (Str × V)} {gs : List (Str × D)} : C.mg c = some (.ref Ca) → G a = some (.ins Ca dx fs) → G dx = some (.own a) → RpF C G fs gs → Rp C G (.ref a) (.ins c gs)
  | exc {a Ca : Addr} {c : Str} : C.mg c = some (.ref Ca) → G a = some (ExV (.ref Ca) a) → Rp C G (.ref a) (.exc c)
inductive RpL (C : VC) (G : Hp) : List V → List D → Prop
  | nil : RpL C G [] []
  | cons {v : V} {vs : List V} {d : D} {ds : List D} : Rp C G v d → RpL C G vs ds → RpL C G (v :: vs) (d :: ds)
inductive RpK (C : VC) (G : Hp) : List (Key × V) → List (Key × D) → Prop
  | nil : RpK C G [] []
  | cons {k : Key} {v : V} {vs : List (Key × V)} {d : D} {ds : List (Key × D)} : Rp C G v d → RpK C G vs ds → RpK C G ((k, v) :: vs) ((k, d) :: ds)
inductive RpF (C : VC) (G : Hp) : List (Str × V) → List (Str × D) → Prop
  | nil : RpF C G [] []
  | cons {k : Str} {v : V} {vs : List (Str × V)} {d : D} {ds : List (Str × D)} : Rp C G v d → RpF C G vs ds → RpF C G ((k, v) :: vs) ((k, d) :: ds)
end

theorem Same.sqt {K : PySem.W.Frag} {H H' : Hp} {a : Addr} {xs : List V} (e : Same H H') (h : SqT K H a xs) : SqT K H' a xs := by
  rcases h with (h | ⟨o, h⟩) | h
  · exact .inl (.inl (e _ _ h))
  · exact .inl (.inr ⟨o, e _ _ h⟩)
  · exact .inr h

section
variable {C : VC} {G G' : Hp}
mutual
theorem Rp.mono (e : Same G G') : ∀ {v : V} {d : D}, Rp C G v d → Rp C G' v d
  | _, _, .non => .non
  | _, _, .bl b => .bl b
  | _, _, .int i => .int i
  | _, _, .str x => .str x
  | _, _, .tup h r => .tup (VS.Same.sqt e h) (RpL.mono e r)
  | _, _, .lst h r => .lst (e _ _ h) (RpL.mono e r)
  | _, _, .dic h r => .dic (e _ _ h) (RpK.mono e r)
  | _, _, .ins m h o r => .ins m (e _ _ h) (e _ _ o) (RpF.mono e r)
  | _, _, .exc m h => .exc m (e _ _ h)
theorem RpL.mono (e : Same G G') : ∀ {v : List V} {d : List D}, RpL C G v d → RpL C G' v d
  | _, _, .nil => .nil
  | _, _, .cons h t => .cons (Rp.mono e h) (RpL.mono e t)
theorem RpK.mono (e : Same G G') : ∀ {v : List (Key × V)} {d : List (Key × D)}, RpK C G v d → RpK C G' v d
  | _, _, .nil => .nil
  | _, _, .cons h t => .cons (Rp.mono e h) (RpK.mono e t)
theorem RpF.mono (e : Same G G') : ∀ {v : List (Str × V)} {d : List (Str × D)}, RpF C G v d → RpF C G' v d
  | _, _, .nil => .nil
  | _, _, .cons h t => .cons (Rp.mono e h) (RpF.mono e t)
end
theorem RpL.length : ∀ {v : List V} {d : List D}, RpL C G v d → v.length = d.length
  | _, _, .nil => rfl
  | _, _, .cons _ t => congrArg Nat.succ (RpL.length t)
theorem RpL.get : ∀ {vs : List V} {ds : List D} {i : Nat} {d : D}, RpL C G vs ds → ds[i]? = some d → ∃ v, vs[i]? = some v ∧ Rp C G v d
  | _, _, _, _, .nil, h => by simp at h
  | _, _, 0, _, .cons r _, h => by simp at h; subst h; exact ⟨_, rfl, r⟩
  | _, _, i + 1, _, .cons _ t, h => by
    obtain ⟨v, h1, h2⟩ := RpL.get (i := i) t (by simpa using h)
    exact ⟨v, by simpa using h1, h2⟩
theorem RpL.getV : ∀ {vs : List V} {ds : List D} {i : Nat} {v : V}, RpL C G vs ds → vs[i]? = some v → ∃ d, ds[i]? = some d ∧ Rp C G v d
  | _, _, _, _, .nil, h => by simp at h
  | _, _, 0, _, .cons r _, h => by simp at h; subst h; exact ⟨_, rfl, r⟩
  | _, _, i + 1, _, .cons _ t, h => by
    obtain ⟨d, h1, h2⟩ := RpL.getV (i := i) t (by simpa using h)
    exact ⟨d, by simpa using h1, h2⟩
theorem RpL.app : ∀ {vs us : List V} {ds es : List D}, RpL C G vs ds → RpL C G us es → RpL C G (vs ++ us) (ds ++ es)
  | _, _, _, _, .nil, s => s
  | _, _, _, _, .cons r t, s => .cons r (RpL.app t s)
theorem RpL.set {v : V} {d : D} (r : Rp C G v d) : ∀ {vs : List V} {ds : List D} (i : Nat), RpL C G vs ds → RpL C G (vs.set i v) (ds.set i d)
  | _, _, _, .nil => .nil
  | _, _, 0, .cons _ t => .cons r t
  | _, _, i + 1, .cons q t => .cons q (RpL.set r i t)
theorem RpL.take : ∀ {vs : List V} {ds : List D} (n : Nat), RpL C G vs ds → RpL C G (vs.take n) (ds.take n)
  | _, _, 0, _ => .nil
  | _, _, _ + 1, .nil => .nil
  | _, _, n + 1, .cons r t => .cons r (RpL.take n t)
theorem RpL.drop : ∀ {vs : List V} {ds : List D} (n : Nat), RpL C G vs ds → RpL C G (vs.drop n) (ds.drop n)
  | _, _, 0, r => r
  | _, _, _ + 1, .nil => .nil
  | _, _, n + 1, .cons _ t => RpL.drop n t
theorem RpL.rev : ∀ {vs : List V} {ds : List D}, RpL C G vs ds → RpL C G vs.reverse ds.reverse
  | _, _, .nil => .nil
  | _, _, .cons r t => by
    rw [List.reverse_cons, List.reverse_cons]
    exact RpL.app (RpL.rev t) (.cons r .nil)
theorem RpL.erase : ∀ {vs : List V} {ds : List D} (i : Nat), RpL C G vs ds → RpL C G (vs.eraseIdx i) (ds.eraseIdx i)
  | _, _, _, .nil => .nil
  | _, _, 0, .cons _ t => t
  | _, _, i + 1, .cons r t => .cons r (RpL.erase i t)
end

/-- the slot's thing at v; fp: the addresses that it alone knows -/
def Own (C : VC) (G H : Hp) : SV → V → List Addr → Prop
  | .d x, v, fp => fp = [] ∧ Rp C G v x
  | .ol xs, v, fp => ∃ p vs, v = .ref p ∧ fp = [p] ∧ H p = some (.lst vs) ∧ RpL C G vs xs
  | .od kvs, v, fp => ∃ p vs, v = .ref p ∧ fp = [p] ∧ H p = some (.dK vs) ∧ RpK C G vs kvs
  | .dr s, v, fp => ∃ a g c, v = .ref a ∧ fp = [a, g] ∧ a ≠ g ∧ H a = some (.dK [(.inr "great", .ref g), (.inr "cells", .ref c), (.inr "left", .int s.left), (.inr "turn", .int s.turn)]) ∧
      H g = some (.lst (s.great.map V.int)) ∧ G c = some (.lst (s.cells.map V.int))
  | .sc ns, v, fp => fp = [] ∧ ∃ a, v = .ref a ∧ SqL C.K G a (ns.map V.int)
  | .oi c fs, v, fp => ∃ a Ca dx vs, v = .ref a ∧ fp = [a] ∧ C.mg c = some (.ref Ca) ∧ H a = some (.ins Ca dx vs) ∧ G dx = some (.own a) ∧ RpF C G vs fs

section
variable {C : VC} {G G' H H' : Hp} {s : SV} {v : V} {fp : List Addr}
theorem Own.mono (o : Own C G H s v fp) (e : Same G G') (k : ∀ p ∈ fp, H' p = H p) : Own C G' H' s v fp := by
  cases s with
  | d x => exact ⟨o.1, o.2.mono e⟩
  | ol xs =>
    obtain ⟨p, vs, h1, h2, h3, h4⟩ := o
    subst h2
    exact ⟨p, vs, h1, rfl, (k p (by simp)).trans h3, h4.mono e⟩
  | od xs =>
    obtain ⟨p, vs, h1, h2, h3, h4⟩ := o
    subst h2
    exact ⟨p, vs, h1, rfl, (k p (by simp)).trans h3, h4.mono e⟩
  | dr s =>
    obtain ⟨a, g, c, h1, h2, h3, h4, h5, h6⟩ := o
    subst h2
    exact ⟨a, g, c, h1, rfl, h3, (k a (by simp)).trans h4, (k g (by simp)).trans h5, e _ _ h6⟩
  | sc ns =>
    obtain ⟨h1, a, h2, h3⟩ := o
    exact ⟨h1, a, h2, e.seq h3⟩
  | oi c fs =>
    obtain ⟨a, Ca, dx, vs, h1, h2, h3, h4, h5, h6⟩ := o
    subst h2
    exact ⟨a, Ca, dx, vs, h1, rfl, h3, (k a (by simp)).trans h4, e _ _ h5, h6.mono e⟩
/-- what is owned is tracked, and no table, no code object -/
def Plain (o : HO) : Prop := (∀ ps, o ≠ .tbl ps) ∧ (∀ φ, o ≠ .ext φ)
theorem Own.there (o : Own C G H s v fp) {p : Addr} (hp : p ∈ fp) : ∃ u, H p = some u ∧ Plain u := by
  cases s with
  | d x => rw [o.1] at hp; cases hp
  | ol xs =>
    obtain ⟨q, vs, h1, h2, h3, h4⟩ := o
    subst h2
    rw [List.mem_singleton.mp hp]
    exact ⟨_, h3, (fun _ z => nomatch z), fun _ z => nomatch z⟩
  | od xs =>
    obtain ⟨q, vs, h1, h2, h3, h4⟩ := o
    subst h2
    rw [List.mem_singleton.mp hp]
    exact ⟨_, h3, (fun _ z => nomatch z), fun _ z => nomatch z⟩
  | dr s =>
    obtain ⟨a, g, c, h1, h2, h3, h4, h5, h6⟩ := o
    subst h2
    rcases List.mem_cons.mp hp with e | hp
    · rw [e]
      exact ⟨_, h4, (fun _ z => nomatch z), fun _ z => nomatch z⟩
    · rw [List.mem_singleton.mp hp]
      exact ⟨_, h5, (fun _ z => nomatch z), fun _ z => nomatch z⟩
  | sc ns => rw [o.1] at hp; cases hp
  | oi c fs =>
    obtain ⟨a, Ca, dx, vs, h1, h2, h3, h4, h5, h6⟩ := o
    subst h2
    rw [List.mem_singleton.mp hp]
    exact ⟨_, h4, (fun _ z => nomatch z), fun _ z => nomatch z⟩
end

/-- the ground of a frame: heap and still heap at its entry, what it may change besides new things, the pinned slots' values -/
structure Bd where
  H0 : Hp
  G0 : Hp
  S : Addr → Prop
  pv : Nat → V
/-- p is none of the ground's kept things -/
def Bd.Fr (B : Bd) (p : Addr) : Prop := ∀ o, B.H0 p = some o → (∀ ps, o ≠ .tbl ps) → B.S p

abbrev Slot := Option SV × Option V
def SlotOk (C : VC) (G H : Hp) : Slot → List Addr → Prop
  | (none, _), fp => fp = []
  | (some s, x), fp => ∃ v, x = some v ∧ Own C G H s v fp

structure FR (C : VC) (B : Bd) (vw : Option Nat → Slot) (G H : Hp) : Prop where
  ex : ∃ fp : Option Nat → List Addr, (∀ i, SlotOk C G H (vw i) (fp i)) ∧ (∀ i j p, i ≠ j → p ∈ fp i → p ∉ fp j) ∧ ∀ i p, p ∈ fp i → G p = none ∧ B.Fr p
  gh : Same G H
  g0 : Same B.G0 G
  gf : ∀ a, G a ≠ none → B.G0 a ≠ none ∨ B.Fr a
  kp : ∀ b o, B.H0 b = some o → (∀ ps, o ≠ .tbl ps) → ¬ B.S b → H b = some o
  nt : ∀ a ps, G a ≠ some (.tbl ps)
  tb : LamX.Tabs C.T H

section
variable {C : VC} {B : Bd} {vw vw' : Option Nat → Slot} {G G' H H' : Hp} {p : Addr} {o : HO}

theorem SlotOk.mono {x : Slot} {fp : List Addr} (h : SlotOk C G H x fp) (e : Same G G') (k : ∀ p ∈ fp, H' p = H p) : SlotOk C G' H' x fp := by
  obtain ⟨a, b⟩ := x
  cases a with
  | none => exact h
  | some s =>
    obtain ⟨v, h1, h2⟩ := h
    exact ⟨v, h1, h2.mono e k⟩
theorem SlotOk.there {x : Slot} {fp : List Addr} (h : SlotOk C G H x fp) {p : Addr} (hp : p ∈ fp) : ∃ u, H p = some u ∧ Plain u := by
  obtain ⟨a, b⟩ := x
  cases a with
  | none => rw [show fp = [] from h] at hp; cases hp
  | some s =>
    obtain ⟨v, h1, h2⟩ := h
    exact h2.there hp

/-- slots moved, dropped, or filled with data -/
theorem FR.remap (F : FR C B vw G H) (π : Option Nat → Option (Option Nat)) (inj : ∀ i j k, π i = some k → π j = some k → i = j)
    (h : ∀ i, (∃ j, π i = some j ∧ vw' i = vw j) ∨ (π i = none ∧ ((vw' i).1 = none ∨ ∃ x v, vw' i = (some (.d x), some v) ∧ Rp C G v x))) : FR C B vw' G H := by
  obtain ⟨fp, h1, h2, h3⟩ := F.ex
  refine ⟨⟨fun i => match π i with | some j => fp j | none => [], fun i => ?_, fun i j p hij hp => ?_, fun i p hp => ?_⟩, F.gh, F.g0, F.gf, F.kp, F.nt, F.tb⟩
  · rcases h i with ⟨j, e1, e2⟩ | ⟨e1, e2⟩
    · simp only [e1, e2]
      exact h1 j
    · simp only [e1]
      rcases e2 with e2 | ⟨x, v, e2, r⟩
      · cases q : vw' i with
        | mk a b =>
          rw [q] at e2
          have e3 : a = none := e2
          subst e3
          rfl
      · rw [e2]
        exact ⟨v, rfl, rfl, r⟩
  · dsimp only at hp ⊢
    cases e1 : π i with
    | none => rw [e1] at hp; cases hp
    | some k =>
      rw [e1] at hp
      cases e2 : π j with
      | none => exact List.not_mem_nil
      | some l =>
        refine h2 k l p (fun z => hij (inj i j k e1 (by rw [e2, z]))) hp
  · dsimp only at hp
    cases e1 : π i with
    | none => rw [e1] at hp; cases hp
    | some k => rw [e1] at hp; exact h3 k p hp

def upS (vw : Option Nat → Slot) (i : Option Nat) (s : Slot) : Option Nat → Slot := fun j => if j = i then s else vw j
theorem upS_same {i : Option Nat} {s : Slot} : upS vw i s i = s := by unfold upS; rw [if_pos rfl]
theorem upS_ne {i j : Option Nat} {s : Slot} (h : j ≠ i) : upS vw i s j = vw j := by unfold upS; rw [if_neg h]

/-- a slot forgotten -/
theorem FR.drop (F : FR C B vw G H) (i : Option Nat) (x : Option V) : FR C B (upS vw i (none, x)) G H :=
  F.remap (fun j => if j = i then none else some j) (fun a b k h1 h2 => by
    by_cases ha : a = i
    · rw [if_pos ha] at h1; cases h1
    · by_cases hb : b = i
      · rw [if_pos hb] at h2; cases h2
      · rw [if_neg ha] at h1; rw [if_neg hb] at h2; rw [Option.some.inj h1, Option.some.inj h2]) fun j => by
    by_cases hj : j = i
    · right
      refine ⟨if_pos hj, .inl ?_⟩
      rw [hj, upS_same]
    · left
      exact ⟨j, if_neg hj, upS_ne hj⟩
/-- a slot filled with data -/
theorem FR.put (F : FR C B vw G H) (i : Option Nat) {x : D} {v : V} (r : Rp C G v x) : FR C B (upS vw i (some (.d x), some v)) G H :=
  F.remap (fun j => if j = i then none else some j) (fun a b k h1 h2 => by
    by_cases ha : a = i
    · rw [if_pos ha] at h1; cases h1
    · by_cases hb : b = i
      · rw [if_pos hb] at h2; cases h2
      · rw [if_neg ha] at h1; rw [if_neg hb] at h2; rw [Option.some.inj h1, Option.some.inj h2]) fun j => by
    by_cases hj : j = i
    · right
      refine ⟨if_pos hj, .inr ⟨x, v, ?_, r⟩⟩
      rw [hj, upS_same]
    · left
      exact ⟨j, if_neg hj, upS_ne hj⟩
/-- slot j moved to slot i -/
theorem FR.move (F : FR C B vw G H) (i j : Option Nat) (hij : i ≠ j) (x : Option V) : FR C B (upS (upS vw i (vw j)) j (none, x)) G H :=
  F.remap (fun k => if k = j then none else if k = i then some j else some k) (fun a b k h1 h2 => by
    by_cases ha : a = j
    · rw [if_pos ha] at h1; cases h1
    · by_cases hb : b = j
      · rw [if_pos hb] at h2; cases h2
      · rw [if_neg ha] at h1; rw [if_neg hb] at h2
        by_cases ha2 : a = i
        · rw [if_pos ha2] at h1
          by_cases hb2 : b = i
          · rw [ha2, hb2]
          · rw [if_neg hb2] at h2
            exact absurd ((Option.some.inj h2).trans (Option.some.inj h1).symm) hb
        · rw [if_neg ha2] at h1
          by_cases hb2 : b = i
          · rw [if_pos hb2] at h2
            exact absurd ((Option.some.inj h1).trans (Option.some.inj h2).symm) ha
          · rw [if_neg hb2] at h2
            rw [Option.some.inj h1, Option.some.inj h2]) fun k => by
    by_cases hk : k = j
    · right
      refine ⟨if_pos hk, .inl ?_⟩
      rw [hk, upS_same]
    · left
      by_cases hk2 : k = i
      · refine ⟨j, by rw [if_neg hk, if_pos hk2], ?_⟩
        rw [upS_ne hk, hk2, upS_same]
      · refine ⟨k, by rw [if_neg hk, if_neg hk2], ?_⟩
        rw [upS_ne hk, upS_ne hk2]

theorem tabs_upd {T : List (Addr × Str)} (t : LamX.Tabs T H) (h : ∀ u, H p = some u → Plain u) : LamX.Tabs T (upd H p o) := fun q hq => by
  obtain ⟨ps, h1, h2, h3⟩ := t q hq
  have n1 : q.1 ≠ p := fun z => by
    rw [z] at h1
    exact (h _ h1).1 ps rfl
  refine ⟨ps, by rw [upd_ne n1]; exact h1, h2, fun pos cv hc => ?_⟩
  obtain ⟨c, e1, e2⟩ := h3 pos cv hc
  refine ⟨c, e1, ?_⟩
  have n2 : c ≠ p := fun z => by
    rw [z] at e2
    exact (h _ e2).2 _ rfl
  rw [upd_ne n2]
  exact e2
theorem same_up {H : Hp} {p : Addr} {o : HO} (h : H p = none) : Same H (upd H p o) := fun b u e => by
  rw [upd_ne (ne_of_none e h)]
  exact e

/-- a new thing is laid -/
theorem FR.alloc (F : FR C B vw G H) (hp : H p = none) : FR C B vw G (upd H p o) := by
  obtain ⟨fp, h1, h2, h3⟩ := F.ex
  have keep : ∀ i, ∀ q ∈ fp i, (upd H p o) q = H q := fun i q hq => by
    obtain ⟨u, e, _⟩ := (h1 i).there hq
    rw [upd_ne (ne_of_none e hp)]
  refine ⟨⟨fp, fun i => (h1 i).mono (Same.refl _) (keep i), h2, h3⟩, F.gh.trans (same_up hp), F.g0, F.gf, fun b u e n ns => same_up hp _ _ (F.kp b u e n ns), F.nt, tabs_upd F.tb fun u e => by rw [hp] at e; cases e⟩
/-- a new address is none of the ground's -/
theorem FR.newAddr (F : FR C B vw G H) (hp : H p = none) : B.Fr p := fun u e n => by
  by_cases hs : B.S p
  · exact hs
  · have z := F.kp p u e n hs
    rw [hp] at z
    cases z
/-- a thing that no slot owns stands still from now on -/
theorem FR.still (F : FR C B vw G H) (hg : G p = none) (hh : H p = some o) (ho : ∀ ps, o ≠ .tbl ps) (hn : B.Fr p)
    (hf : ∃ fp : Option Nat → List Addr, (∀ i, SlotOk C G H (vw i) (fp i)) ∧ (∀ i j p, i ≠ j → p ∈ fp i → p ∉ fp j) ∧ (∀ i p, p ∈ fp i → G p = none ∧ B.Fr p) ∧ ∀ i, p ∉ fp i) : FR C B vw (upd G p o) H := by
  obtain ⟨fp, h1, h2, h3, h4⟩ := hf
  refine ⟨⟨fp, fun i => (h1 i).mono (same_up hg) (fun _ _ => rfl), h2, fun i q hq => ⟨?_, (h3 i q hq).2⟩⟩, fun b u e => ?_, F.g0.trans (same_up hg), fun a ha => ?_, F.kp, fun a ps e => ?_, F.tb⟩
  · rw [upd_ne (fun z => by rw [z] at hq; exact h4 i hq)]
    exact (h3 i q hq).1
  · by_cases hb : b = p
    · subst hb
      rw [upd_same] at e
      rw [hh]
      exact e
    · rw [upd_ne hb] at e
      exact F.gh _ _ e
  · by_cases hb : a = p
    · subst hb
      exact .inr hn
    · rw [upd_ne hb] at ha
      exact F.gf a ha
  · by_cases hb : a = p
    · subst hb
      rw [upd_same] at e
      exact ho ps (Option.some.inj e)
    · rw [upd_ne hb] at e
      exact F.nt a ps e
/-- .. laid and still at once -/
theorem FR.lay (F : FR C B vw G H) (hp : H p = none) (ho : ∀ ps, o ≠ .tbl ps) : FR C B vw (upd G p o) (upd H p o) := by
  have hg : G p = none := by
    cases e : G p with
    | none => rfl
    | some u => rw [F.gh _ _ e] at hp; cases hp
  have hn := F.newAddr hp
  have old : ∀ fp : Option Nat → List Addr, (∀ i, SlotOk C G H (vw i) (fp i)) → ∀ i, p ∉ fp i := fun fp h i hi => by
    obtain ⟨u, e, _⟩ := (h i).there hi
    rw [hp] at e
    cases e
  obtain ⟨fp, h1, h2, h3⟩ := F.ex
  have keep : ∀ i, ∀ q ∈ fp i, (upd H p o) q = H q := fun i q hq => upd_ne fun z => by
    rw [z] at hq
    exact old fp h1 i hq
  exact (F.alloc hp).still hg upd_same ho hn ⟨fp, fun i => (h1 i).mono (Same.refl _) (keep i), h2, h3, old fp h1⟩
/-- an owned thing is laid: the slot i has it -/
theorem FR.layOwn (F : FR C B vw G H) (hp : H p = none) (hpl : Plain o) (i : Option Nat) {s : SV} {v : V} (hs : Own C G (upd H p o) s v [p]) : FR C B (upS vw i (some s, some v)) G (upd H p o) := by
  have hg : G p = none := by
    cases e : G p with
    | none => rfl
    | some u => rw [F.gh _ _ e] at hp; cases hp
  have hn := F.newAddr hp
  have F2 := F.alloc (o := o) hp
  obtain ⟨fp, h1, h2, h3⟩ := F.ex
  have old : ∀ j, p ∉ fp j := fun j hj => by
    obtain ⟨u, e, _⟩ := (h1 j).there hj
    rw [hp] at e
    cases e
  have keep : ∀ j, ∀ q ∈ fp j, (upd H p o) q = H q := fun j q hq => upd_ne fun z => by
    rw [z] at hq
    exact old j hq
  refine ⟨⟨fun j => if j = i then [p] else fp j, fun j => ?_, fun j k q hjk hq => ?_, fun j q hq => ?_⟩, F2.gh, F2.g0, F2.gf, F2.kp, F2.nt, F2.tb⟩
  · dsimp only
    by_cases hj : j = i
    · rw [hj, upS_same, if_pos rfl]
      exact ⟨v, rfl, hs⟩
    · rw [upS_ne hj, if_neg hj]
      exact (h1 j).mono (Same.refl _) (keep j)
  · dsimp only at hq ⊢
    by_cases hj : j = i
    · rw [if_pos hj] at hq
      rw [if_neg (fun z => hjk (hj.trans z.symm)), List.mem_singleton.mp hq]
      exact old k
    · rw [if_neg hj] at hq
      by_cases hk : k = i
      · rw [if_pos hk]
        intro z
        rw [List.mem_singleton.mp z] at hq
        exact old j hq
      · rw [if_neg hk]
        exact h2 j k q hjk hq
  · dsimp only at hq
    by_cases hj : j = i
    · rw [if_pos hj] at hq
      rw [List.mem_singleton.mp hq]
      exact ⟨hg, hn⟩
    · rw [if_neg hj] at hq
      exact h3 j q hq
/-- an owned list is changed -/
theorem FR.chg {i : Option Nat} {s : SV} {v : V} (F : FR C B vw G H) (hi : vw i = (some s, some v)) (hl : (∃ xs, s = .ol xs) ∨ (∃ xs, s = .od xs) ∨ ∃ c fs, s = .oi c fs) :
    ∃ p u, v = .ref p ∧ H p = some u ∧ Own C G H s v [p] ∧ ∀ s' o', Plain o' → Own C G (upd H p o') s' v [p] → FR C B (upS vw i (some s', some v)) G (upd H p o') := by
  obtain ⟨fp, h1, h2, h3⟩ := F.ex
  have a := h1 i
  rw [hi] at a
  obtain ⟨v2, e1, o1⟩ := a
  have ev : v = v2 := Option.some.inj e1
  subst ev
  have key : ∃ p u, v = .ref p ∧ fp i = [p] ∧ H p = some u ∧ Plain u := by
    rcases hl with ⟨xs, rfl⟩ | ⟨xs, rfl⟩ | ⟨c, fs, rfl⟩
    · obtain ⟨p, vs, a1, a2, a3, a4⟩ := o1
      exact ⟨p, _, a1, a2, a3, (fun _ z => nomatch z), fun _ z => nomatch z⟩
    · obtain ⟨p, vs, a1, a2, a3, a4⟩ := o1
      exact ⟨p, _, a1, a2, a3, (fun _ z => nomatch z), fun _ z => nomatch z⟩
    · obtain ⟨p, Ca, dx, vs, a1, a2, a3, a4, _⟩ := o1
      exact ⟨p, _, a1, a2, a4, (fun _ z => nomatch z), fun _ z => nomatch z⟩
  obtain ⟨p, u, rfl, ef, hp, pl⟩ := key
  rw [ef] at o1
  refine ⟨p, u, rfl, hp, o1, fun s' o' _ hs => ?_⟩
  have pi : p ∈ fp i := by rw [ef]; exact List.mem_singleton.mpr rfl
  have hg : G p = none := (h3 i p pi).1
  have nj : ∀ j, j ≠ i → p ∉ fp j := fun j hj => h2 i j p (Ne.symm hj) pi
  refine ⟨⟨fp, fun j => ?_, h2, h3⟩, fun b w e => ?_, F.g0, F.gf, fun b w e n ns => ?_, F.nt, tabs_upd F.tb fun w e => by rw [hp] at e; cases e; exact pl⟩
  · by_cases hj : j = i
    · rw [hj, upS_same, ef]
      exact ⟨_, rfl, hs⟩
    · rw [upS_ne hj]
      exact (h1 j).mono (Same.refl _) fun q hq => upd_ne fun z => by
        rw [z] at hq
        exact nj j hj hq
  · rw [upd_ne (fun z => by rw [z, hg] at e; cases e)]
    exact F.gh _ _ e
  · by_cases hb : b = p
    · subst hb
      exact absurd ((h3 i b pi).2 w e n) ns
    · rw [upd_ne hb]
      exact F.kp b w e n ns
/-- an owned thing is from now on data that stands still -/
theorem FR.freeze {i : Option Nat} {s : SV} {v : V} {x : D} (F : FR C B vw G H) (hi : vw i = (some s, some v)) (hl : (∃ xs, s = .ol xs ∧ x = .lst xs) ∨ (∃ xs, s = .od xs ∧ x = .dic xs) ∨ (∃ c fs, s = .oi c fs ∧ x = .ins c fs) ∨ s = .d x) :
    ∃ G', Same G G' ∧ FR C B (upS vw i (some (.d x), some v)) G' H ∧ Rp C G' v x := by
  obtain ⟨fp, h1, h2, h3⟩ := F.ex
  have a := h1 i
  rw [hi] at a
  obtain ⟨v2, e1, o1⟩ := a
  have ev : v = v2 := Option.some.inj e1
  subst ev
  have go : ∀ p o, v = .ref p → fp i = [p] → H p = some o → Plain o → Rp C (upd G p o) v x → ∃ G', Same G G' ∧ FR C B (upS vw i (some (.d x), some v)) G' H ∧ Rp C G' v x := by
    intro p o _ ef hp pl r
    have pi : p ∈ fp i := by rw [ef]; exact List.mem_singleton.mpr rfl
    have hg : G p = none := (h3 i p pi).1
    have F2 : FR C B (upS vw i (none, none)) (upd G p o) H := by
      refine (F.drop i none).still hg hp pl.1 (h3 i p pi).2 ⟨fun j => if j = i then [] else fp j, fun j => ?_, fun j k q hjk hq => ?_, fun j q hq => ?_, fun j hq => ?_⟩
      · dsimp only
        by_cases hj : j = i
        · rw [hj, upS_same, if_pos rfl]
          rfl
        · rw [upS_ne hj, if_neg hj]
          exact h1 j
      · dsimp only at hq ⊢
        by_cases hj : j = i
        · rw [if_pos hj] at hq; cases hq
        · rw [if_neg hj] at hq
          by_cases hk : k = i
          · rw [if_pos hk]; exact List.not_mem_nil
          · rw [if_neg hk]; exact h2 j k q hjk hq
      · dsimp only at hq
        by_cases hj : j = i
        · rw [if_pos hj] at hq; cases hq
        · rw [if_neg hj] at hq; exact h3 j q hq
      · dsimp only at hq
        by_cases hj : j = i
        · rw [if_pos hj] at hq; cases hq
        · rw [if_neg hj] at hq
          exact h2 i j p (Ne.symm hj) pi hq
    refine ⟨upd G p o, same_up hg, ?_, r⟩
    have F3 := F2.put i r
    have e : upS (upS vw i (none, none)) i (some (.d x), some v) = upS vw i (some (.d x), some v) := by
      funext j
      unfold upS
      split <;> rfl
    rw [e] at F3
    exact F3
  rcases hl with ⟨xs, rfl, rfl⟩ | ⟨xs, rfl, rfl⟩ | ⟨c, fs, rfl, rfl⟩ | rfl
  · obtain ⟨p, vs, a1, a2, a3, a4⟩ := o1
    have hg : G p = none := (h3 i p (by rw [a2]; exact List.mem_singleton.mpr rfl)).1
    refine go p _ a1 a2 a3 ⟨(fun _ z => nomatch z), fun _ z => nomatch z⟩ ?_
    rw [a1]
    exact .lst upd_same (a4.mono (same_up hg))
  · obtain ⟨p, vs, a1, a2, a3, a4⟩ := o1
    have hg : G p = none := (h3 i p (by rw [a2]; exact List.mem_singleton.mpr rfl)).1
    refine go p _ a1 a2 a3 ⟨(fun _ z => nomatch z), fun _ z => nomatch z⟩ ?_
    rw [a1]
    exact .dic upd_same (a4.mono (same_up hg))
  · obtain ⟨p, Ca, dx, vs, a1, a2, a3, a4, a5, a6⟩ := o1
    have hg : G p = none := (h3 i p (by rw [a2]; exact List.mem_singleton.mpr rfl)).1
    refine go p _ a1 a2 a4 ⟨(fun _ z => nomatch z), fun _ z => nomatch z⟩ ?_
    rw [a1]
    exact .ins a3 upd_same (same_up hg _ _ a5) (a6.mono (same_up hg))
  · refine ⟨G, Same.refl _, ?_, o1.2⟩
    exact F.put i o1.2
end
end VS

/-! VS2: pure computations over environments; what it means that a reading follows one. -/
namespace VS
open PySem PySem.Spec PyProof.Rows L2

inductive Rs (α : Type) where
  | ok (a : α) (ρ : En) | err (c : Str) (ρ : En) | stuck
abbrev M (α : Type) := En → Rs α
def Rs.bind {α β : Type} (r : Rs α) (f : α → M β) : Rs β := match r with
  | .ok a ρ => f a ρ
  | .err c ρ => .err c ρ
  | .stuck => .stuck
def M.bind {α β : Type} (m : M α) (f : α → M β) : M β := fun ρ => (m ρ).bind f
def M.ret {α : Type} (a : α) : M α := fun ρ => .ok a ρ
def M.opt {α : Type} : Option α → M α
  | some a => M.ret a
  | none => fun _ => .stuck
@[simp] theorem bind_ok {α β : Type} (a : α) (ρ : En) (f : α → M β) : (Rs.ok a ρ).bind f = f a ρ := (rfl)
@[simp] theorem bind_err {α β : Type} (c : Str) (ρ : En) (f : α → M β) : (Rs.err c ρ : Rs α).bind f = .err c ρ := (rfl)
@[simp] theorem bind_stuck {α β : Type} (f : α → M β) : (Rs.stuck : Rs α).bind f = .stuck := (rfl)
@[simp] theorem mbind {α β : Type} (m : M α) (f : α → M β) (ρ : En) : M.bind m f ρ = (m ρ).bind f := (rfl)
@[simp] theorem mret {α : Type} (a : α) (ρ : En) : M.ret a ρ = .ok a ρ := (rfl)
@[simp] theorem mopt_some {α : Type} (a : α) : M.opt (some a) = M.ret a := (rfl)
@[simp] theorem mopt_none {α : Type} (ρ : En) : M.opt (none : Option α) ρ = .stuck := (rfl)

/-- what an expression gives: a value, or the thing that a name's slot holds -/
inductive Ref where
  | sv (s : SV) | loc (i : Nat)
/-- an operand: data, or a name's thing -/
inductive Opd where
  | d (x : D) | loc (i : Nat)
def SV.frz : SV → Option D
  | .d x => some x
  | .ol xs => some (.lst xs)
  | .od k => some (.dic k)
  | .oi c fs => some (.ins c fs)
  | _ => none
@[simp] theorem frz_d (x : D) : (SV.d x).frz = some x := (rfl)
@[simp] theorem frz_ol (x : List D) : (SV.ol x).frz = some (.lst x) := (rfl)
@[simp] theorem frz_oi (c : Str) (x : List (Str × D)) : (SV.oi c x).frz = some (.ins c x) := (rfl)
@[simp] theorem frz_od (x : List (Key × D)) : (SV.od x).frz = some (.dic x) := (rfl)
def opd (m : M Ref) : M Opd := M.bind m fun r => match r with
  | .loc i => M.ret (.loc i)
  | .sv s => M.bind (M.opt s.frz) fun x => M.ret (.d x)
/-- the data behind an operand, as the environment is now -/
def vwO (ρ : En) : Opd → Option D
  | .d x => some x
  | .loc i => (ρ.getD i none).bind SV.frz
@[simp] theorem vwO_d (ρ : En) (x : D) : vwO ρ (.d x) = some x := (rfl)
@[simp] theorem vwO_loc (ρ : En) (i : Nat) : vwO ρ (.loc i) = (ρ.getD i none).bind SV.frz := (rfl)
def look (o : Opd) : M D := fun ρ => M.opt (vwO ρ o) ρ
def val (m : M Ref) : M D := M.bind (opd m) look
def val2 (a b : M Ref) : M (D × D) := M.bind (opd a) fun x => M.bind (opd b) fun y => M.bind (look x) fun d => M.bind (look y) fun e => M.ret (d, e)

def view (ρ : En) (σ : L2.St) (x : Option (SV × V)) : Option Nat → Slot
  | some i => (ρ.getD i none, σ.getD i none)
  | none => (x.map (·.1), x.map (·.2))
structure EnvR (C : VC) (B : Bd) (ρ : En) (σ : L2.St) (x : Option (SV × V)) (G H : Hp) : Prop where
  fr : FR C B (view ρ σ x) G H
  len : ρ.length = σ.length

def OpdR (C : VC) (σ : L2.St) (G : Hp) : Opd → V → Prop
  | .d x, v => Rp C G v x
  | .loc i, v => σ[i]? = some (some v)
/-- data as it is to be read now: an outer list or dict may be one that changes later -/
def RpS (C : VC) (G H : Hp) (v : V) : D → Prop
  | .lst xs => ∃ a vs, v = .ref a ∧ H a = some (.lst vs) ∧ RpL C G vs xs
  | .dic k => ∃ a vs, v = .ref a ∧ H a = some (.dK vs) ∧ RpK C G vs k
  | .ins c fs => ∃ a Ca dx vs, v = .ref a ∧ C.mg c = some (.ref Ca) ∧ H a = some (.ins Ca dx vs) ∧ G dx = some (.own a) ∧ RpF C G vs fs
  | x => Rp C G v x
section
variable {C : VC} {B : Bd} {G G' H H' : Hp} {v : V} {x : D} {ρ : En} {σ : L2.St}
theorem Rp.toS (r : Rp C G v x) (e : Same G H) : RpS C G H v x := by
  cases r with
  | lst h r => exact ⟨_, _, rfl, e _ _ h, r⟩
  | dic h r => exact ⟨_, _, rfl, e _ _ h, r⟩
  | non => exact .non
  | bl b => exact .bl b
  | int b => exact .int b
  | str b => exact .str b
  | tup h r => exact .tup h r
  | ins a b c d => exact ⟨_, _, _, _, rfl, a, e _ _ b, c, d⟩
  | exc a b => exact .exc a b
theorem RpS.toH (r : RpS C G H v x) (e : Same G H) : Rp C H v x := by
  cases x with
  | lst xs =>
    obtain ⟨a, vs, rfl, h, r⟩ := r
    exact .lst h (r.mono e)
  | dic xs =>
    obtain ⟨a, vs, rfl, h, r⟩ := r
    exact .dic h (r.mono e)
  | ins c fs =>
    obtain ⟨a, Ca, dx, vs, rfl, m, h, o, r⟩ := r
    exact .ins m h (e _ _ o) (r.mono e)
  | _ => exact Rp.mono e (show Rp C G v _ from r)
theorem EnvR.slot {i : Nat} {x : Option (SV × V)} {s : SV} (E : EnvR C B ρ σ x G H) (hi : ρ.getD i none = some s) : ∃ v, σ[i]? = some (some v) ∧ view ρ σ x (some i) = (some s, some v) := by
  obtain ⟨fp, h1, _⟩ := E.fr.ex
  have a := h1 (some i)
  have e : view ρ σ x (some i) = (some s, σ.getD i none) := by
    show (ρ.getD i none, σ.getD i none) = _
    rw [hi]
  rw [e] at a
  obtain ⟨v, e1, _⟩ := a
  refine ⟨v, ?_, by rw [e, e1]⟩
  rw [List.getD_eq_getElem?_getD] at e1
  cases q : σ[i]? with
  | none => rw [q] at e1; cases e1
  | some y =>
    rw [q] at e1
    have e1' : y = some v := e1
    rw [e1']
theorem EnvR.own {i : Nat} {x : Option (SV × V)} {s : SV} (E : EnvR C B ρ σ x G H) (hi : ρ.getD i none = some s) : ∃ v fp, σ[i]? = some (some v) ∧ Own C G H s v fp := by
  obtain ⟨v, e1, e2⟩ := E.slot hi
  obtain ⟨fp, h1, _⟩ := E.fr.ex
  have a := h1 (some i)
  rw [e2] at a
  obtain ⟨w, e3, o⟩ := a
  cases e3
  exact ⟨_, _, e1, o⟩
theorem vw_rp {o : Opd} (E : EnvR C B ρ σ none G H) (r : OpdR C σ G o v) (h : vwO ρ o = some x) : RpS C G H v x := by
  cases o with
  | d y =>
    cases h
    exact Rp.toS r E.fr.gh
  | loc i =>
    have h : (ρ.getD i none).bind SV.frz = some x := h
    cases q : ρ.getD i none with
    | none => rw [q] at h; cases h
    | some s =>
      rw [q] at h
      obtain ⟨w, fp, e1, o⟩ := E.own q
      have e2 : some (some w) = some (some v) := e1.symm.trans r
      cases e2
      cases s with
      | d y =>
        cases h
        exact o.2.toS E.fr.gh
      | ol xs =>
        cases h
        obtain ⟨p, vs, a1, a2, a3, a4⟩ := o
        exact ⟨p, vs, a1, a3, a4⟩
      | od xs =>
        cases h
        obtain ⟨p, vs, a1, a2, a3, a4⟩ := o
        exact ⟨p, vs, a1, a3, a4⟩
      | dr s => cases h
      | sc s => cases h
      | oi c fs =>
        cases h
        obtain ⟨a, Ca, dx, vs, a1, a2, a3, a4, a5, a6⟩ := o
        exact ⟨a, Ca, dx, vs, a1, a3, a4, a5, a6⟩
theorem OpdR.mono {o : Opd} (r : OpdR C σ G o v) (e : Same G G') : OpdR C σ G' o v := by
  cases o with
  | d y => exact Rp.mono e r
  | loc i => exact r
theorem upS_view_none (a : Option (SV × V)) (b : Option (SV × V)) : upS (view ρ σ a) none (b.map (·.1), b.map (·.2)) = view ρ σ b := by
  funext i
  cases i with
  | none => exact upS_same
  | some i => exact upS_ne (by simp)
/-- the result forgotten -/
theorem EnvR.nox {x : Option (SV × V)} (E : EnvR C B ρ σ x G H) : EnvR C B ρ σ none G H := by
  refine ⟨?_, E.len⟩
  have h := E.fr.drop none none
  rw [show ((none, none) : Slot) = ((none : Option (SV × V)).map (·.1), (none : Option (SV × V)).map (·.2)) from rfl, upS_view_none] at h
  exact h
/-- a result that is data -/
theorem EnvR.res {y : D} (E : EnvR C B ρ σ none G H) (r : Rp C G v y) : EnvR C B ρ σ (some (.d y, v)) G H := by
  refine ⟨?_, E.len⟩
  have h := E.fr.put none r
  rw [show ((some (SV.d y), some v) : Slot) = ((some (SV.d y, v)).map (·.1), (some (SV.d y, v)).map (·.2)) from rfl, upS_view_none] at h
  exact h
theorem EnvR.resOf {y : D} (E : EnvR C B ρ σ (some (.d y, v)) G H) : Rp C G v y := by
  obtain ⟨fp, h1, _⟩ := E.fr.ex
  obtain ⟨w, e, o⟩ := h1 none
  cases e
  exact o.2
/-- a result that is fresh becomes data -/
theorem EnvR.frzRes {s : SV} {y : D} (E : EnvR C B ρ σ (some (s, v)) G H) (h : s.frz = some y) : ∃ G', Same G G' ∧ EnvR C B ρ σ none G' H ∧ Rp C G' v y := by
  have hl : (∃ xs, s = .ol xs ∧ y = .lst xs) ∨ (∃ xs, s = .od xs ∧ y = .dic xs) ∨ (∃ c fs, s = .oi c fs ∧ y = .ins c fs) ∨ s = .d y := by
    cases s with
    | d z => cases h; exact .inr (.inr (.inr rfl))
    | ol z => cases h; exact .inl ⟨_, rfl, rfl⟩
    | od z => cases h; exact .inr (.inl ⟨_, rfl, rfl⟩)
    | dr z => cases h
    | sc z => cases h
    | oi c z => cases h; exact .inr (.inr (.inl ⟨_, _, rfl, rfl⟩))
  obtain ⟨G', a, b, c⟩ := E.fr.freeze (i := none) (s := s) (v := v) rfl hl
  refine ⟨G', a, ⟨?_, E.len⟩, c⟩
  rw [show ((some (SV.d y), some v) : Slot) = ((some (SV.d y, v)).map (·.1), (some (SV.d y, v)).map (·.2)) from rfl, upS_view_none] at b
  exact EnvR.fr (EnvR.nox ⟨b, E.len⟩)
end

/-! ### readings that follow computations -/
def PostE (C : VC) (B : Bd) (W : WX) (σ : L2.St) (G : Hp) (Q : VK) : Rs Ref → Prop
  | .ok (.sv s) ρ => ∀ v G' H', EnvR C B ρ σ (some (s, v)) G' H' → Same G G' → Q v H'
  | .ok (.loc i) ρ => ∀ v G' H', EnvR C B ρ σ none G' H' → Same G G' → σ[i]? = some (some v) → Q v H'
  | .err c ρ => ∀ G' H' Ca, EnvR C B ρ σ none G' H' → C.mg c = some (.ref Ca) → W (.ref Ca) none σ H'
  | .stuck => False
def SndE (C : VC) (W : WX) (t : TE) (m : M Ref) : Prop := ∀ B ρ σ G H Q, EnvR C B ρ σ none G H → PostE C B W σ G Q (m ρ) → t σ H Q
def PostO (C : VC) (B : Bd) (W : WX) (σ : L2.St) (G : Hp) (Q : VK) : Rs Opd → Prop
  | .ok o ρ => ∀ v G' H', EnvR C B ρ σ none G' H' → Same G G' → OpdR C σ G' o v → Q v H'
  | .err c ρ => ∀ G' H' Ca, EnvR C B ρ σ none G' H' → C.mg c = some (.ref Ca) → W (.ref Ca) none σ H'
  | .stuck => False
def SndO (C : VC) (W : WX) (t : TE) (m : M Opd) : Prop := ∀ B ρ σ G H Q, EnvR C B ρ σ none G H → PostO C B W σ G Q (m ρ) → t σ H Q
def PostD (C : VC) (B : Bd) (W : WX) (σ : L2.St) (G : Hp) (Q : VK) : Rs D → Prop
  | .ok x ρ => ∀ v G' H', EnvR C B ρ σ none G' H' → Same G G' → RpS C G' H' v x → Q v H'
  | .err c ρ => ∀ G' H' Ca, EnvR C B ρ σ none G' H' → C.mg c = some (.ref Ca) → W (.ref Ca) none σ H'
  | .stuck => False
def SndD (C : VC) (W : WX) (t : TE) (m : M D) : Prop := ∀ B ρ σ G H Q, EnvR C B ρ σ none G H → PostD C B W σ G Q (m ρ) → t σ H Q
def PostD2 (C : VC) (B : Bd) (W : WX) (σ : L2.St) (G : Hp) (Q : V → V → Hp → Prop) : Rs (D × D) → Prop
  | .ok x ρ => ∀ v w G' H', EnvR C B ρ σ none G' H' → Same G G' → RpS C G' H' v x.1 → RpS C G' H' w x.2 → Q v w H'
  | .err c ρ => ∀ G' H' Ca, EnvR C B ρ σ none G' H' → C.mg c = some (.ref Ca) → W (.ref Ca) none σ H'
  | .stuck => False
def PostT (C : VC) (B : Bd) (W : WX) (σ : L2.St) (G : Hp) (Q : Bool → Hp → Prop) : Rs Bool → Prop
  | .ok b ρ => ∀ G' H', EnvR C B ρ σ none G' H' → Same G G' → Q b H'
  | .err c ρ => ∀ G' H' Ca, EnvR C B ρ σ none G' H' → C.mg c = some (.ref Ca) → W (.ref Ca) none σ H'
  | .stuck => False
def SndT (C : VC) (W : WX) (t : TT) (m : M Bool) : Prop := ∀ B ρ σ G H Q, EnvR C B ρ σ none G H → PostT C B W σ G Q (m ρ) → t σ H Q

section
variable {C : VC} {W : WX} {ta tb : TE} {a b : M Ref}
theorem SndE.o (h : SndE C W ta a) : SndO C W ta (opd a) := by
  intro B ρ σ G H Q E P
  refine h B ρ σ G H Q E ?_
  unfold opd at P
  rw [mbind] at P
  cases q : a ρ with
  | stuck => rw [q] at P; exact P
  | err c ρ' => rw [q] at P; exact P
  | ok r ρ' =>
    rw [q, bind_ok] at P
    cases r with
    | loc i => exact P
    | sv s =>
      intro v G' H' E' S'
      dsimp only at P
      cases q2 : s.frz with
      | none => rw [q2] at P; exact P.elim
      | some x =>
        rw [q2] at P
        obtain ⟨G2, S2, E2, r⟩ := E'.frzRes q2
        exact P v G2 H' E2 (S'.trans S2) r
theorem SndO.d {m : M Opd} (h : SndO C W ta m) : SndD C W ta (M.bind m look) := by
  intro B ρ σ G H Q E P
  refine h B ρ σ G H Q E ?_
  rw [mbind] at P
  cases q : m ρ with
  | stuck => rw [q] at P; exact P
  | err c ρ' => rw [q] at P; exact P
  | ok o ρ' =>
    rw [q, bind_ok] at P
    intro v G' H' E' S' r
    unfold look at P
    cases q2 : vwO ρ' o with
    | none => rw [q2] at P; exact P.elim
    | some x =>
      rw [q2] at P
      exact P v G' H' E' S' (vw_rp E' r q2)
theorem SndE.v (h : SndE C W ta a) : SndD C W ta (val a) := h.o.d
/-- two operands, both looked at behind the second -/
theorem SndE.two (ha : SndE C W ta a) (hb : SndE C W tb b) {B : Bd} {ρ : En} {σ : L2.St} {G H : Hp} {Q : V → V → Hp → Prop} (E : EnvR C B ρ σ none G H) (P : PostD2 C B W σ G Q (val2 a b ρ)) :
    ta σ H fun x H1 => tb σ H1 fun y H2 => Q x y H2 := by
  refine ha.o B ρ σ G H _ E ?_
  unfold val2 at P
  rw [mbind] at P
  cases q : opd a ρ with
  | stuck => rw [q] at P; exact P
  | err c ρ' => rw [q] at P; exact P
  | ok o ρ1 =>
    rw [q, bind_ok, mbind] at P
    intro v G1 H1 E1 S1 r1
    refine hb.o B ρ1 σ G1 H1 _ E1 ?_
    cases q2 : opd b ρ1 with
    | stuck => rw [q2] at P; exact P
    | err c ρ' => rw [q2] at P; exact P
    | ok o2 ρ2 =>
      rw [q2, bind_ok, mbind] at P
      intro w G2 H2 E2 S2 r2
      unfold look at P
      cases q3 : vwO ρ2 o with
      | none => rw [q3] at P; exact P.elim
      | some x =>
        rw [q3] at P
        simp only [mopt_some, mret, bind_ok, mbind] at P
        cases q4 : vwO ρ2 o2 with
        | none => rw [q4] at P; exact P.elim
        | some y =>
          rw [q4] at P
          simp only [mopt_some, mret, bind_ok] at P
          exact P v w G2 H2 E2 (S1.trans S2) (vw_rp E2 (r1.mono S2) q3) (vw_rp E2 r2 q4)
end

/-! ### scalars -/
inductive Sc where
  | non | bl (b : Bool) | int (i : Int) | str (x : Str)
def Sc.d : Sc → D
  | .non => .non | .bl b => .bl b | .int i => .int i | .str x => .str x
def Sc.v : Sc → V
  | .non => .non | .bl b => .bl b | .int i => .int i | .str x => .str x
theorem Sc.rp {C : VC} {G : Hp} (s : Sc) : Rp C G s.v s.d := by
  cases s with
  | non => exact .non
  | bl b => exact .bl b
  | int i => exact .int i
  | str x => exact .str x
@[simp] theorem sc_non : Sc.non.d = .non := (rfl)
@[simp] theorem sc_bl (b : Bool) : (Sc.bl b).d = .bl b := (rfl)
@[simp] theorem sc_int (b : Int) : (Sc.int b).d = .int b := (rfl)
@[simp] theorem sc_str (b : Str) : (Sc.str b).d = .str b := (rfl)
def rSc (s : Sc) : Ref := .sv (.d s.d)

/-- an expression in a context, its reading, what it computes -/
structure SE (C : VC) (X : Cx) (W : WX) (e : Expr) (t : TE) (m : M Ref) : Prop where
  pe : PE X e t
  snd : SndE C W t m
structure ST (C : VC) (X : Cx) (W : WX) (e : Expr) (t : TT) (m : M Bool) : Prop where
  pt : PT X e t
  snd : SndT C W t m
structure SW (C : VC) (X : Cx) (W : WX) (e : Expr) (t : TT) (m : M Bool) : Prop where
  pw : PW X e t
  snd : SndT C W t m

section
variable {C : VC} {X : Cx} {W : WX} {e a b c : Expr} {ta tb tc : TE} {ma mb mc : M Ref} {pos : Pos}
theorem snd_const {C : VC} (s : Sc) : SndE C W (tC s.v) (M.ret (rSc s)) := by
  intro B ρ σ G H Q E P
  exact P _ G H (E.res s.rp) (Same.refl _)
theorem se_int {i : Int} {j} : SE C X W (.Constant (.int i) j pos) (tC (.int i)) (M.ret (rSc (.int i))) := ⟨pe_int, snd_const (.int i)⟩
theorem se_bl {i : Bool} {j} : SE C X W (.Constant (.bool i) j pos) (tC (.bl i)) (M.ret (rSc (.bl i))) := ⟨pe_bl, snd_const (.bl i)⟩
theorem se_non {j} : SE C X W (.Constant .none j pos) (tC .non) (M.ret (rSc .non)) := ⟨pe_non, snd_const .non⟩
theorem se_str {i : Str} {j} : SE C X W (.Constant (.str i) j pos) (tC (.str i)) (M.ret (rSc (.str i))) := ⟨pe_str, snd_const (.str i)⟩
/-- a name of the def -/
def mVar (i : Nat) : M Ref := fun ρ => match ρ.getD i none with
  | some _ => .ok (.loc i) ρ
  | none => .stuck
theorem se_var (i : Nat) {x : Str} (h : PE X (.Name x pos) (tVar i)) : SE C X W (.Name x pos) (tVar i) (mVar i) := by
  refine ⟨h, fun B ρ σ G H Q E P => ?_⟩
  unfold mVar at P
  cases q : ρ.getD i none with
  | none => rw [q] at P; exact P.elim
  | some s =>
    rw [q] at P
    obtain ⟨v, e1, _⟩ := E.slot q
    exact ⟨v, e1, P v G H E (Same.refl _) e1⟩

/-- what an operation gives: a scalar, a new list, a new tuple, a thing that was there -/
inductive Rv where
  | sc (s : Sc) | nl (xs : List D) | nt (xs : List D) | it (x : D)
def Rv.ref : Rv → Ref
  | .sc s => .sv (.d s.d)
  | .nl xs => .sv (.ol xs)
  | .nt xs => .sv (.d (.tup xs))
  | .it x => .sv (.d x)
@[simp] theorem rv_sc (s : Sc) : (Rv.sc s).ref = .sv (.d s.d) := (rfl)
@[simp] theorem rv_nl (xs : List D) : (Rv.nl xs).ref = .sv (.ol xs) := (rfl)
@[simp] theorem rv_nt (xs : List D) : (Rv.nt xs).ref = .sv (.d (.tup xs)) := (rfl)
@[simp] theorem rv_it (x : D) : (Rv.it x).ref = .sv (.d x) := (rfl)
def Fin (C : VC) (G H : Hp) (Q : VK) : Rv → Prop
  | .sc s => Q s.v H
  | .nl xs => ∀ vs p, RpL C G vs xs → H p = none → Q (.ref p) (upd H p (.lst vs))
  | .nt xs => ∀ vs p, RpL C G vs xs → H p = none → Q (.ref p) (upd H p (.tup vs))
  | .it x => ∀ v, Rp C G v x → Q v H
theorem EnvR.newL {C : VC} {B : Bd} {ρ : En} {σ : L2.St} {G H : Hp} {p : Addr} {vs : List V} {xs : List D} (E : EnvR C B ρ σ none G H) (hp : H p = none) (r : RpL C G vs xs) : EnvR C B ρ σ (some (.ol xs, .ref p)) G (upd H p (.lst vs)) := by
  refine ⟨?_, E.len⟩
  have h := E.fr.layOwn (o := .lst vs) hp ⟨(fun _ z => nomatch z), fun _ z => nomatch z⟩ none (s := .ol xs) (v := .ref p) ⟨p, vs, rfl, rfl, upd_same, r⟩
  rw [show ((some (SV.ol xs), some (V.ref p)) : Slot) = ((some (SV.ol xs, V.ref p)).map (·.1), (some (SV.ol xs, V.ref p)).map (·.2)) from rfl, upS_view_none] at h
  exact h
theorem EnvR.newD {C : VC} {B : Bd} {ρ : En} {σ : L2.St} {G H : Hp} {p : Addr} {vs : List (Key × V)} {xs : List (Key × D)} (E : EnvR C B ρ σ none G H) (hp : H p = none) (r : RpK C G vs xs) : EnvR C B ρ σ (some (.od xs, .ref p)) G (upd H p (.dK vs)) := by
  refine ⟨?_, E.len⟩
  have h := E.fr.layOwn (o := .dK vs) hp ⟨(fun _ z => nomatch z), fun _ z => nomatch z⟩ none (s := .od xs) (v := .ref p) ⟨p, vs, rfl, rfl, upd_same, r⟩
  rw [show ((some (SV.od xs), some (V.ref p)) : Slot) = ((some (SV.od xs, V.ref p)).map (·.1), (some (SV.od xs, V.ref p)).map (·.2)) from rfl, upS_view_none] at h
  exact h
theorem EnvR.newT {C : VC} {B : Bd} {ρ : En} {σ : L2.St} {G H : Hp} {p : Addr} {vs : List V} {xs : List D} (E : EnvR C B ρ σ none G H) (hp : H p = none) (r : RpL C G vs xs) : EnvR C B ρ σ (some (.d (.tup xs), .ref p)) (upd G p (.tup vs)) (upd H p (.tup vs)) ∧ Same G (upd G p (.tup vs)) := by
  have hg : G p = none := E.fr.gh.free hp
  have E2 : EnvR C B ρ σ none (upd G p (.tup vs)) (upd H p (.tup vs)) := ⟨E.fr.lay hp (fun _ z => nomatch z), E.len⟩
  exact ⟨E2.res (.tup (.of upd_same) (r.mono (same_up hg))), same_up hg⟩
theorem fin_of {C : VC} {B : Bd} {ρ : En} {σ : L2.St} {G G1 H1 : Hp} {Q : VK} {r : Rv} (E1 : EnvR C B ρ σ none G1 H1) (S1 : Same G G1) (P : PostE C B W σ G Q (.ok r.ref ρ)) : Fin C G1 H1 Q r := by
  cases r with
  | sc s => exact P _ G1 H1 (E1.res s.rp) S1
  | nl xs => exact fun vs p r hp => P _ G1 _ (E1.newL hp r) S1
  | nt xs => exact fun vs p r hp => P _ _ _ (E1.newT hp r).1 (S1.trans (E1.newT hp r).2)
  | it x => exact fun v r => P v G1 H1 (E1.res r) S1

/-- an operation of two values -/
def mBin (f : D → D → Option Rv) (a b : M Ref) : M Ref := M.bind (val2 a b) fun p => M.bind (M.opt (f p.1 p.2)) fun r => M.ret r.ref
def RuleB (C : VC) (rr : R2) (f : D → D → Option Rv) : Prop := ∀ G H v w x y r Q, Same G H → RpS C G H v x → RpS C G H w y → f x y = some r → Fin C G H Q r → rr v w H Q
theorem snd_bin {C : VC} {rr : R2} {f : D → D → Option Rv} (hr : RuleB C rr f) (ha : SndE C W ta ma) (hb : SndE C W tb mb) : SndE C W (tOp rr ta tb) (mBin f ma mb) := by
  intro B ρ σ G H Q E P
  refine SndE.two (Q := fun x y H2 => rr x y H2 Q) ha hb E ?_
  unfold mBin at P
  rw [mbind] at P
  cases q : val2 ma mb ρ with
  | stuck => rw [q] at P; exact P
  | err c ρ' => rw [q] at P; exact P
  | ok p ρ1 =>
    rw [q, bind_ok, mbind] at P
    intro v w G1 H1 E1 S1 r1 r2
    cases q2 : f p.1 p.2 with
    | none => rw [q2] at P; exact P.elim
    | some s =>
      rw [q2] at P
      exact hr G1 H1 v w _ _ s Q E1.fr.gh r1 r2 q2 (fin_of E1 S1 P)
theorem se_bin {op : Operator} {rr : R2} {f : D → D → Option Rv} (ho : OpR X (binaryOp op) rr) (hr : RuleB C rr f) (ha : SE C X W a ta ma) (hb : SE C X W b tb mb) :
    SE C X W (.BinOp a op b pos) (tOp rr ta tb) (mBin f ma mb) := ⟨pe_op ho ha.pe hb.pe, snd_bin hr ha.snd hb.snd⟩
theorem se_cmp {op : CmpOp} {rr : R2} {f : D → D → Option Rv} (ho : OpR X (compareOp op) rr) (hr : RuleB C rr f) (ha : SE C X W a ta ma) (hb : SE C X W b tb mb) (hm : behindInMarks op b = false) :
    SE C X W (.Compare a [op] [b] pos) (tOp rr ta tb) (mBin f ma mb) := ⟨pe_cmpR ho ha.pe hb.pe hm, snd_bin hr ha.snd hb.snd⟩
/-- a subscript -/
theorem se_ix {rr : R2} {f : D → D → Option Rv} (ho : IxR X rr) (hr : RuleB C rr f) (ha : SE C X W a ta ma) (hb : SE C X W b tb mb) (hs : PlainIx b) :
    SE C X W (.Subscript a b pos) (tOp rr ta tb) (mBin f ma mb) := ⟨pe_ix ho ha.pe hb.pe hs, snd_bin hr ha.snd hb.snd⟩
/-- a value that is True or False -/
def mB (m : M Ref) : M Bool := M.bind (val m) fun x => match x with
  | .bl b => M.ret b
  | _ => fun _ => .stuck
theorem snd_test {C : VC} (ha : SndE C W ta ma) : SndT C W (tTest ta) (mB ma) := by
  intro B ρ σ G H Q E P
  refine ha.v B ρ σ G H _ E ?_
  unfold mB at P
  rw [mbind] at P
  cases q : val ma ρ with
  | stuck => rw [q] at P; exact P
  | err c ρ' => rw [q] at P; exact P
  | ok x ρ1 =>
    rw [q, bind_ok] at P
    intro v G1 H1 E1 S1 r1
    cases x with
    | bl b =>
      cases (show Rp _ G1 v (.bl b) from r1)
      exact ⟨b, rfl, P G1 H1 E1 S1⟩
    | _ => exact P.elim
theorem st_val (h : SE C X W e ta ma) (he : ∀ whole, isTrue e X.env whole = (do let v ← whole; standAt e.pos; holding [v] (truthy v)) := by intro _; rfl) : ST C X W e (tTest ta) (mB ma) :=
  ⟨pt_val h.pe he, snd_test h.snd⟩
theorem st_cmp {op : CmpOp} {rr : R2} {f : D → D → Option Rv} (ho : OpR X (compareOp op) rr) (hr : RuleB C rr f) (ha : SE C X W a ta ma) (hb : SE C X W b tb mb) (hm : behindInMarks op b = false) :
    ST C X W (.Compare a [op] [b] pos) (tTest (tOp rr ta tb)) (mB (mBin f ma mb)) := ⟨pt_cmpR ho ha.pe hb.pe hm, snd_test (snd_bin hr ha.snd hb.snd)⟩

/-! ### and, or, not -/
def mAndT (a b : M Bool) : M Bool := M.bind a fun c => if c = true then b else M.ret false
def mOrT (a b : M Bool) : M Bool := M.bind a fun c => if c = true then M.ret true else b
def mNotT (a : M Bool) : M Bool := M.bind a fun c => M.ret (!c)
variable {ua ub : TT} {na nb : M Bool}
theorem snd_and {C : VC} (ha : SndT C W ua na) (hb : SndT C W ub nb) : SndT C W (tAnd ua ub) (mAndT na nb) := by
  intro B ρ σ G H Q E P
  refine ha B ρ σ G H _ E ?_
  unfold mAndT at P
  rw [mbind] at P
  cases q : na ρ with
  | stuck => rw [q] at P; exact P
  | err c ρ' => rw [q] at P; exact P
  | ok x ρ1 =>
    rw [q, bind_ok] at P
    intro G1 H1 E1 S1
    cases x with
    | true =>
      rw [if_pos rfl] at P ⊢
      refine hb B ρ1 σ G1 H1 Q E1 ?_
      cases q2 : nb ρ1 with
      | stuck => rw [q2] at P; exact P
      | err c ρ' => rw [q2] at P; exact P
      | ok y ρ2 => rw [q2] at P; exact fun G2 H2 E2 S2 => P G2 H2 E2 (S1.trans S2)
    | false =>
      rw [if_neg Bool.false_ne_true] at P ⊢
      exact P G1 H1 E1 S1
theorem snd_or {C : VC} (ha : SndT C W ua na) (hb : SndT C W ub nb) : SndT C W (tOr ua ub) (mOrT na nb) := by
  intro B ρ σ G H Q E P
  refine ha B ρ σ G H _ E ?_
  unfold mOrT at P
  rw [mbind] at P
  cases q : na ρ with
  | stuck => rw [q] at P; exact P
  | err c ρ' => rw [q] at P; exact P
  | ok x ρ1 =>
    rw [q, bind_ok] at P
    intro G1 H1 E1 S1
    cases x with
    | false =>
      rw [if_neg Bool.false_ne_true] at P ⊢
      refine hb B ρ1 σ G1 H1 Q E1 ?_
      cases q2 : nb ρ1 with
      | stuck => rw [q2] at P; exact P
      | err c ρ' => rw [q2] at P; exact P
      | ok y ρ2 => rw [q2] at P; exact fun G2 H2 E2 S2 => P G2 H2 E2 (S1.trans S2)
    | true =>
      rw [if_pos rfl] at P ⊢
      exact P G1 H1 E1 S1
theorem snd_not {C : VC} (ha : SndT C W ua na) : SndT C W (tNot ua) (mNotT na) := by
  intro B ρ σ G H Q E P
  refine ha B ρ σ G H _ E ?_
  unfold mNotT at P
  rw [mbind] at P
  cases q : na ρ with
  | stuck => rw [q] at P; exact P
  | err c ρ' => rw [q] at P; exact P
  | ok x ρ1 => rw [q, bind_ok] at P; exact P
variable {rest : List Expr}
theorem sw_and1 (ha : ST C X W a ua na) : SW C X W (.BoolOp .And [a] pos) ua na := ⟨pw_and1 ha.pt, ha.snd⟩
theorem sw_or1 (ha : ST C X W a ua na) : SW C X W (.BoolOp .Or [a] pos) ua na := ⟨pw_or1 ha.pt, ha.snd⟩
theorem sw_and (ha : ST C X W a ua na) (hb : SW C X W (.BoolOp .And (b :: rest) pos) ub nb) : SW C X W (.BoolOp .And (a :: b :: rest) pos) (tAnd ua ub) (mAndT na nb) := ⟨pw_and ha.pt hb.pw, snd_and ha.snd hb.snd⟩
theorem sw_or (ha : ST C X W a ua na) (hb : SW C X W (.BoolOp .Or (b :: rest) pos) ub nb) : SW C X W (.BoolOp .Or (a :: b :: rest) pos) (tOr ua ub) (mOrT na nb) := ⟨pw_or ha.pt hb.pw, snd_or ha.snd hb.snd⟩
theorem SW.t (h : SW C X W e ua na) : ST C X W e ua na := ⟨h.pw.pt, h.snd⟩
theorem st_not (ha : ST C X W a ua na) : ST C X W (.UnaryOp .Not a pos) (tNot ua) (mNotT na) := ⟨pt_not ha.pt, snd_not ha.snd⟩
/-- .. as values: all but the last True or False -/
def mAndV (a b : M Ref) : M Ref := M.bind (mB a) fun c => if c = true then b else M.ret (rSc (.bl false))
def mOrV (a b : M Ref) : M Ref := M.bind (mB a) fun c => if c = true then M.ret (rSc (.bl true)) else b
def mNotV (a : M Ref) : M Ref := M.bind (mB a) fun c => M.ret (rSc (.bl (!c)))
theorem PostE.same {C : VC} {B : Bd} {σ : L2.St} {G G1 : Hp} {Q : VK} {r : Rs Ref} (P : PostE C B W σ G Q r) (S : Same G G1) : PostE C B W σ G1 Q r := by
  cases r with
  | stuck => exact P
  | err c ρ => exact P
  | ok x ρ =>
    cases x with
    | sv s => exact fun v G' H' E S' => P v G' H' E (S.trans S')
    | loc i => exact fun v G' H' E S' => P v G' H' E (S.trans S')
theorem snd_andV {C : VC} (ha : SndE C W ta ma) (hb : SndE C W tb mb) : SndE C W (tAndV ta tb) (mAndV ma mb) := by
  intro B ρ σ G H Q E P
  refine (snd_test ha) B ρ σ G H (fun c H1 => if c = true then tb σ H1 Q else Q (.bl false) H1) E ?_
  unfold mAndV at P
  rw [mbind] at P
  cases q : mB ma ρ with
  | stuck => rw [q] at P; exact P
  | err c ρ' => rw [q] at P; exact P
  | ok x ρ1 =>
    rw [q, bind_ok] at P
    intro G1 H1 E1 S1
    cases x with
    | true =>
      rw [if_pos rfl] at P ⊢
      exact hb B ρ1 σ G1 H1 Q E1 (P.same S1)
    | false =>
      rw [if_neg Bool.false_ne_true] at P ⊢
      exact P _ G1 H1 (E1.res (Sc.rp (.bl false))) S1
theorem snd_orV {C : VC} (ha : SndE C W ta ma) (hb : SndE C W tb mb) : SndE C W (tOrV ta tb) (mOrV ma mb) := by
  intro B ρ σ G H Q E P
  refine (snd_test ha) B ρ σ G H (fun c H1 => if c = true then Q (.bl true) H1 else tb σ H1 Q) E ?_
  unfold mOrV at P
  rw [mbind] at P
  cases q : mB ma ρ with
  | stuck => rw [q] at P; exact P
  | err c ρ' => rw [q] at P; exact P
  | ok x ρ1 =>
    rw [q, bind_ok] at P
    intro G1 H1 E1 S1
    cases x with
    | false =>
      rw [if_neg Bool.false_ne_true] at P ⊢
      exact hb B ρ1 σ G1 H1 Q E1 (P.same S1)
    | true =>
      rw [if_pos rfl] at P ⊢
      exact P _ G1 H1 (E1.res (Sc.rp (.bl true))) S1
theorem snd_notV {C : VC} (ha : SndE C W ta ma) : SndE C W (tNotV ta) (mNotV ma) := by
  intro B ρ σ G H Q E P
  refine (snd_test ha) B ρ σ G H (fun c H1 => Q (.bl (!c)) H1) E ?_
  unfold mNotV at P
  rw [mbind] at P
  cases q : mB ma ρ with
  | stuck => rw [q] at P; exact P
  | err c ρ' => rw [q] at P; exact P
  | ok x ρ1 =>
    rw [q, bind_ok] at P
    exact fun G1 H1 E1 S1 => P _ G1 H1 (E1.res (Sc.rp (.bl (!x)))) S1
theorem se_one {op} (ha : SE C X W a ta ma) : SE C X W (.BoolOp op [a] pos) ta ma := ⟨pe_one ha.pe, ha.snd⟩
theorem se_and (ha : SE C X W a ta ma) (hb : SE C X W (.BoolOp .And (b :: rest) pos) tb mb) : SE C X W (.BoolOp .And (a :: b :: rest) pos) (tAndV ta tb) (mAndV ma mb) := ⟨pe_and ha.pe hb.pe, snd_andV ha.snd hb.snd⟩
theorem se_or (ha : SE C X W a ta ma) (hb : SE C X W (.BoolOp .Or (b :: rest) pos) tb mb) : SE C X W (.BoolOp .Or (a :: b :: rest) pos) (tOrV ta tb) (mOrV ma mb) := ⟨pe_or ha.pe hb.pe, snd_orV ha.snd hb.snd⟩
theorem se_not (ha : SE C X W a ta ma) : SE C X W (.UnaryOp .Not a pos) (tNotV ta) (mNotV ma) := ⟨pe_not ha.pe, snd_notV ha.snd⟩
/-- a if c else b -/
def mIfE (c : M Bool) (a b : M Ref) : M Ref := M.bind c fun k => if k = true then a else b
theorem snd_ifE {C : VC} (hc : SndT C W ua na) (ha : SndE C W ta ma) (hb : SndE C W tb mb) : SndE C W (tIf ua ta tb) (mIfE na ma mb) := by
  intro B ρ σ G H Q E P
  refine hc B ρ σ G H _ E ?_
  unfold mIfE at P
  rw [mbind] at P
  cases q : na ρ with
  | stuck => rw [q] at P; exact P
  | err c ρ' => rw [q] at P; exact P
  | ok x ρ1 =>
    rw [q, bind_ok] at P
    intro G1 H1 E1 S1
    cases x with
    | true =>
      rw [if_pos rfl] at P ⊢
      exact ha B ρ1 σ G1 H1 Q E1 (P.same S1)
    | false =>
      rw [if_neg Bool.false_ne_true] at P ⊢
      exact hb B ρ1 σ G1 H1 Q E1 (P.same S1)
theorem se_ifE (hc : ST C X W c ua na) (ha : SE C X W a ta ma) (hb : SE C X W b tb mb) : SE C X W (.IfExp c a b pos) (tIf ua ta tb) (mIfE na ma mb) := ⟨pe_ifExp hc.pt ha.pe hb.pe, snd_ifE hc.snd ha.snd hb.snd⟩
end
end VS

/-! VS3: statements. -/
namespace VS
open PySem PySem.Spec PyProof.Rows L2

inductive Fl where
  | nx | bk | ct | rt (s : SV)

def PinOk (P : List Nat) (B : Bd) (σ : L2.St) : Prop := ∀ j ∈ P, σ[j]? = some (some (B.pv j))
def PostS (C : VC) (B : Bd) (P : List Nat) (W : WX) (G : Hp) (D : Ends) : Rs Fl → Prop
  | .ok .nx ρ => ∀ σ' G' H', EnvR C B ρ σ' none G' H' → Same G G' → PinOk P B σ' → D.nx σ' H'
  | .ok .bk ρ => ∀ σ' G' H', EnvR C B ρ σ' none G' H' → Same G G' → PinOk P B σ' → D.bk σ' H'
  | .ok .ct ρ => ∀ σ' G' H', EnvR C B ρ σ' none G' H' → Same G G' → PinOk P B σ' → D.ct σ' H'
  | .ok (.rt s) ρ => ∀ v σ' G' H', EnvR C B ρ σ' (some (s, v)) G' H' → Same G G' → PinOk P B σ' → D.rt v H'
  | .err c ρ => ∀ σ' G' H' Ca, EnvR C B ρ σ' none G' H' → PinOk P B σ' → C.mg c = some (.ref Ca) → W (.ref Ca) none σ' H'
  | .stuck => False
def SndS (C : VC) (P : List Nat) (W : WX) (t : TS) (m : M Fl) : Prop := ∀ B ρ σ G H D, EnvR C B ρ σ none G H → PinOk P B σ → PostS C B P W G D (m ρ) → t D σ H
theorem PostS.same {C : VC} {B : Bd} {P : List Nat} {W : WX} {G G1 : Hp} {D : Ends} {r : Rs Fl} (h : PostS C B P W G D r) (S : Same G G1) : PostS C B P W G1 D r := by
  cases r with
  | stuck => exact h
  | err c ρ => exact h
  | ok f ρ =>
    cases f with
    | nx => exact fun σ' G' H' E S' => h σ' G' H' E (S.trans S')
    | bk => exact fun σ' G' H' E S' => h σ' G' H' E (S.trans S')
    | ct => exact fun σ' G' H' E S' => h σ' G' H' E (S.trans S')
    | rt s => exact fun v σ' G' H' E S' => h v σ' G' H' E (S.trans S')

structure S1 (C : VC) (P : List Nat) (X : Cx) (W : WX) (st : Stmt) (t : TS) (m : M Fl) : Prop where
  ps : PS X st t
  snd : SndS C P W t m
structure SS (C : VC) (P : List Nat) (X : Cx) (W : WX) (st : List Stmt) (t : TS) (m : M Fl) : Prop where
  ps : PSs X st t
  snd : SndS C P W t m

theorem getD_set_eq {α : Type} {l : List (Option α)} {i : Nat} {a : Option α} (h : i < l.length) : (l.set i a).getD i none = a := by
  rw [List.getD_eq_getElem?_getD, List.getElem?_set_self h]
  rfl
theorem getD_set_ne {α : Type} {l : List (Option α)} {i j : Nat} {a : Option α} (h : j ≠ i) : (l.set i a).getD j none = l.getD j none := by
  rw [List.getD_eq_getElem?_getD, List.getElem?_set_ne (Ne.symm h), List.getD_eq_getElem?_getD]

section
variable {C : VC} {B : Bd} {P : List Nat} {W : WX} {ρ : En} {σ : L2.St} {G H : Hp} {v : V} {s : SV}
theorem view_set {x : Option (SV × V)} {i : Nat} {a : Option SV} {b : Option V} (h1 : i < ρ.length) (h2 : i < σ.length) : view (ρ.set i a) (σ.set i b) x = upS (view ρ σ x) (some i) (a, b) := by
  funext j
  cases j with
  | none => exact (upS_ne (by simp)).symm
  | some j =>
    by_cases hj : j = i
    · subst hj
      rw [upS_same]
      show ((ρ.set j a).getD j none, (σ.set j b).getD j none) = _
      rw [getD_set_eq h1, getD_set_eq h2]
    · rw [upS_ne (by simpa using hj)]
      show ((ρ.set i a).getD j none, (σ.set i b).getD j none) = _
      rw [getD_set_ne hj, getD_set_ne hj] <;> rfl
theorem view_set1 {x : Option (SV × V)} {i : Nat} {a : Option SV} {b : Option V} (h1 : i < ρ.length) (h2 : σ.getD i none = b) : view (ρ.set i a) σ x = upS (view ρ σ x) (some i) (a, b) := by
  funext j
  cases j with
  | none => exact (upS_ne (by simp)).symm
  | some j =>
    by_cases hj : j = i
    · subst hj
      rw [upS_same]
      show ((ρ.set j a).getD j none, σ.getD j none) = _
      rw [getD_set_eq h1, h2]
    · rw [upS_ne (by simpa using hj)]
      show ((ρ.set i a).getD j none, σ.getD j none) = _
      rw [getD_set_ne hj] <;> rfl
/-- the result is stored in slot i -/
theorem EnvR.store (E : EnvR C B ρ σ (some (s, v)) G H) (i : Nat) : EnvR C B (ρ.set i (some s)) (σ.set i (some v)) none G H := by
  refine ⟨?_, by simp [E.len]⟩
  by_cases h : i < ρ.length
  · have h2 : i < σ.length := by rw [← E.len]; exact h
    have m := E.fr.move (some i) none (by simp) none
    rw [view_set h h2]
    have e : upS (upS (view ρ σ (some (s, v))) (some i) (view ρ σ (some (s, v)) none)) none (none, none) = upS (view ρ σ none) (some i) (some s, some v) := by
      funext j
      cases j with
      | none => rw [upS_same, upS_ne (by simp)] <;> rfl
      | some j =>
        rw [upS_ne (by simp)]
        by_cases hj : j = i
        · subst hj
          rw [upS_same, upS_same] <;> rfl
        · rw [upS_ne (by simpa using hj), upS_ne (by simpa using hj)] <;> rfl
    rw [e] at m
    exact m
  · have h2 : ¬ i < σ.length := by rw [← E.len]; exact h
    rw [List.set_eq_of_length_le (by omega), List.set_eq_of_length_le (by omega)]
    exact E.nox.fr
/-- slot i's thing is the result, the slot is empty -/
theorem EnvR.take {i : Nat} (E : EnvR C B ρ σ none G H) (hi : ρ.getD i none = some s) (hv : σ[i]? = some (some v)) : EnvR C B (ρ.set i none) σ (some (s, v)) G H := by
  refine ⟨?_, by simp [E.len]⟩
  have h1 : i < ρ.length := by
    by_cases h : i < ρ.length
    · exact h
    · rw [List.getD_eq_getElem?_getD, List.getElem?_eq_none (by omega)] at hi
      cases hi
  have hs : σ.getD i none = some v := by
    rw [List.getD_eq_getElem?_getD, hv] <;> rfl
  have m := E.fr.move none (some i) (by simp) (some v)
  rw [view_set1 h1 hs]
  have e : upS (upS (view ρ σ none) none (view ρ σ none (some i))) (some i) (none, some v) = upS (view ρ σ (some (s, v))) (some i) (none, some v) := by
    funext j
    by_cases hj : j = some i
    · rw [hj, upS_same, upS_same]
    · rw [upS_ne hj, upS_ne hj]
      cases j with
      | none =>
        rw [upS_same]
        show (ρ.getD i none, σ.getD i none) = (some s, some v)
        rw [hi, hs]
      | some j => exact upS_ne (by simp)
  rw [e] at m
  exact m
/-- slot i's thing becomes data -/
theorem EnvR.frz {i : Nat} {x : D} (E : EnvR C B ρ σ none G H) (hi : ρ.getD i none = some s) (hx : s.frz = some x) (hv : σ[i]? = some (some v)) : ∃ G', Same G G' ∧ EnvR C B (ρ.set i (some (.d x))) σ none G' H ∧ Rp C G' v x := by
  obtain ⟨G', S, E2, r⟩ := (E.take hi hv).frzRes hx
  refine ⟨G', S, ?_, r⟩
  have E3 := (E2.res r).store i
  have e1 : (ρ.set i none).set i (some (SV.d x)) = ρ.set i (some (.d x)) := List.set_set ..
  have e2 : σ.set i (some v) = σ := by
    apply List.ext_getElem?
    intro j
    by_cases hj : i = j
    · subst hj
      rw [List.getElem?_set_self (by
        rcases List.getElem?_eq_some_iff.mp hv with ⟨h, _⟩
        exact h), hv]
    · rw [List.getElem?_set_ne hj]
  rw [e1, e2] at E3
  exact E3
theorem PinOk.set {i : Nat} {x : Option V} (p : PinOk P B σ) (hi : i ∉ P) : PinOk P B (σ.set i x) := fun j hj => by
  have hne : i ≠ j := fun z => hi (z ▸ hj)
  rw [List.getElem?_set_ne hne]
  exact p j hj
end

/-! ### sequences -/
def mSeq (a b : M Fl) : M Fl := M.bind a fun f => match f with
  | .nx => b
  | f => M.ret f
section
variable {C : VC} {P : List Nat} {X : Cx} {W : WX} {st : Stmt} {rest : List Stmt} {t u : TS} {m n : M Fl} {pos : Pos} {e : Expr} {te : TE} {me : M Ref}
theorem snd_seq {C : VC} (h1 : SndS C P W t m) (h2 : SndS C P W u n) : SndS C P W (tSeq t u) (mSeq m n) := by
  intro B ρ σ G H D E pn Q
  refine h1 B ρ σ G H _ E pn ?_
  unfold mSeq at Q
  rw [mbind] at Q
  cases q : m ρ with
  | stuck => rw [q] at Q; exact Q
  | err c ρ' => rw [q] at Q; exact Q
  | ok f ρ1 =>
    rw [q, bind_ok] at Q
    cases f with
    | nx => exact fun σ1 G1 H1 E1 S1 p1 => h2 B ρ1 σ1 G1 H1 D E1 p1 (Q.same S1)
    | bk => exact Q
    | ct => exact Q
    | rt s => exact Q
theorem snd_nx {C : VC} : SndS C P W tNext (M.ret .nx) := fun B ρ σ G H D E pn Q => Q σ G H E (Same.refl _) pn
theorem ss_nil : SS C P X W [] tNext (M.ret .nx) := ⟨pss_nil, snd_nx⟩
theorem ss_cons (h1 : S1 C P X W st t m) (h2 : SS C P X W rest u n) : SS C P X W (st :: rest) (tSeq t u) (mSeq m n) := ⟨pss_cons h1.ps h2.ps, snd_seq h1.snd h2.snd⟩
theorem ss_one (h1 : S1 C P X W st t m) : SS C P X W [st] t m := ⟨pss_one h1.ps, h1.snd⟩
theorem s_pass : S1 C P X W (.Pass pos) tNext (M.ret .nx) := ⟨ps_pass, snd_nx⟩
theorem s_break : S1 C P X W (.Break pos) tBreak (M.ret .bk) := ⟨ps_break, fun B ρ σ G H D E pn Q => Q σ G H E (Same.refl _) pn⟩
theorem s_continue : S1 C P X W (.Continue pos) tCont (M.ret .ct) := ⟨ps_continue, fun B ρ σ G H D E pn Q => Q σ G H E (Same.refl _) pn⟩
/-- an expression alone -/
def mDrop (a : M Ref) : M Fl := M.bind a fun _ => M.ret .nx
theorem snd_drop {C : VC} (h : SndE C W te me) : SndS C P W (tDrop te) (mDrop me) := by
  intro B ρ σ G H D E pn Q
  refine h B ρ σ G H _ E ?_
  unfold mDrop at Q
  rw [mbind] at Q
  cases q : me ρ with
  | stuck => rw [q] at Q; exact Q
  | err c ρ' => rw [q] at Q; exact fun G' H' Ca E' hc => Q σ G' H' Ca E' pn hc
  | ok r ρ1 =>
    rw [q, bind_ok] at Q
    cases r with
    | sv s => exact fun v G' H' E' S' => Q σ G' H' E'.nox S' pn
    | loc i => exact fun v G' H' E' S' _ => Q σ G' H' E' S' pn
theorem s_expr (h : SE C X W e te me) (hs : swapsWith e none pos.line X.env = pure false := by rfl) : S1 C P X W (.Expr e pos) (tDrop te) (mDrop me) := ⟨ps_expr h.pe hs, snd_drop h.snd⟩
/-- return e: a name's own thing leaves with it -/
def mRet (P : List Nat) (a : M Ref) : M Fl := M.bind a fun r => match r with
  | .sv s => M.ret (.rt s)
  | .loc i => fun ρ => match ρ.getD i none with
    | some (.d x) => .ok (.rt (.d x)) ρ
    | some s => if i ∈ P then .stuck else .ok (.rt s) (ρ.set i none)
    | none => .stuck
theorem snd_ret {C : VC} (h : SndE C W te me) : SndS C P W (tRet te) (mRet P me) := by
  intro B ρ σ G H D E pn Q
  refine h B ρ σ G H _ E ?_
  unfold mRet at Q
  rw [mbind] at Q
  cases q : me ρ with
  | stuck => rw [q] at Q; exact Q
  | err c ρ' => rw [q] at Q; exact fun G' H' Ca E' hc => Q σ G' H' Ca E' pn hc
  | ok r ρ1 =>
    rw [q, bind_ok] at Q
    cases r with
    | sv s => exact fun v G' H' E' S' => Q v σ G' H' E' S' pn
    | loc i =>
      intro v G' H' E' S' hv
      dsimp only at Q
      cases q2 : ρ1.getD i none with
      | none => rw [q2] at Q; exact Q.elim
      | some s =>
        rw [q2] at Q
        have go : ∀ s', ρ1.getD i none = some s' → PostS C B P W G D (if i ∈ P then Rs.stuck else .ok (.rt s') (ρ1.set i none)) → D.rt v H' := by
          intro s' e z
          by_cases hp : i ∈ P
          · rw [if_pos hp] at z; exact z.elim
          · rw [if_neg hp] at z
            exact z v σ G' H' (E'.take e hv) S' pn
        cases s with
        | d x =>
          obtain ⟨w, fp, e1, o⟩ := E'.own q2
          have e2 : some (some w) = some (some v) := e1.symm.trans hv
          cases e2
          exact Q v σ G' H' (E'.res o.2) S' pn
        | ol x => exact go _ q2 Q
        | od x => exact go _ q2 Q
        | dr x => exact go _ q2 Q
        | sc x => exact go _ q2 Q
        | oi c x => exact go _ q2 Q
theorem s_ret (h : SE C X W e te me) : S1 C P X W (.Return (some e) pos) (tRet te) (mRet P me) := ⟨ps_ret h.pe, snd_ret h.snd⟩
theorem s_retN : S1 C P X W (.Return none pos) tRetN (M.ret (.rt (.d .non))) := ⟨ps_retN, fun B ρ σ G H D E pn Q => Q .non σ G H (E.res .non) (Same.refl _) pn⟩
/-- if -/
def mIf (c : M Bool) (a b : M Fl) : M Fl := M.bind c fun k => if k = true then a else b
variable {c : Expr} {sa sb : List Stmt} {uc : TT} {nc : M Bool}
theorem snd_if {C : VC} (hc : SndT C W uc nc) (ha : SndS C P W t m) (hb : SndS C P W u n) : SndS C P W (tIfS uc t u) (mIf nc m n) := by
  intro B ρ σ G H D E pn Q
  refine hc B ρ σ G H _ E ?_
  unfold mIf at Q
  rw [mbind] at Q
  cases q : nc ρ with
  | stuck => rw [q] at Q; exact Q
  | err c ρ' => rw [q] at Q; exact fun G' H' Ca E' hc => Q σ G' H' Ca E' pn hc
  | ok k ρ1 =>
    rw [q, bind_ok] at Q
    intro G1 H1 E1 S1
    cases k with
    | true =>
      rw [if_pos rfl] at Q ⊢
      exact ha B ρ1 σ G1 H1 D E1 pn (Q.same S1)
    | false =>
      rw [if_neg Bool.false_ne_true] at Q ⊢
      exact hb B ρ1 σ G1 H1 D E1 pn (Q.same S1)
theorem s_if (hc : ST C X W c uc nc) (ha : SS C P X W sa t m) (hb : SS C P X W sb u n) : S1 C P X W (.If c sa sb pos) (tIfS uc t u) (mIf nc m n) := ⟨ps_if hc.pt ha.ps hb.ps, snd_if hc.snd ha.snd hb.snd⟩
/-- x = e: another name's own thing stands still from then on -/
def stRef (i : Nat) : Ref → M Fl
  | .sv s => fun ρ => .ok .nx (ρ.set i (some s))
  | .loc j => fun ρ => match (ρ.getD j none).bind SV.frz with
    | some x => .ok .nx ((ρ.set j (some (.d x))).set i (some (.d x)))
    | none => .stuck
def mSet (i : Nat) (a : M Ref) : M Fl := M.bind a (stRef i)
theorem snd_set {C : VC} {i : Nat} (hi : i ∉ P) (h : SndE C W te me) : SndS C P W (tAsg te (gName i)) (mSet i me) := by
  intro B ρ σ G H D E pn Q
  refine h B ρ σ G H _ E ?_
  unfold mSet at Q
  rw [mbind] at Q
  cases q : me ρ with
  | stuck => rw [q] at Q; exact Q
  | err c ρ' => rw [q] at Q; exact fun G' H' Ca E' hc => Q σ G' H' Ca E' pn hc
  | ok r ρ1 =>
    rw [q, bind_ok] at Q
    cases r with
    | sv s => exact fun v G' H' E' S' => Q (σ.set i (some v)) G' H' (E'.store i) S' (pn.set hi)
    | loc j =>
      intro v G' H' E' S' hv
      unfold stRef at Q
      dsimp only at Q
      cases q2 : ρ1.getD j none with
      | none => rw [q2] at Q; exact Q.elim
      | some s =>
        rw [q2] at Q
        have Q : PostS C B P W G D (match s.frz with | some x => .ok .nx ((ρ1.set j (some (.d x))).set i (some (.d x))) | none => .stuck) := Q
        cases q3 : s.frz with
        | none => rw [q3] at Q; exact Q.elim
        | some x =>
          rw [q3] at Q
          obtain ⟨G2, S2, E2, r⟩ := E'.frz q2 q3 hv
          exact Q (σ.set i (some v)) G2 H' ((E2.res r).store i) (S'.trans S2) (pn.set hi)
theorem s_set {i : Nat} {x : Str} {pos' : Pos} (hN : X.N.Nodup) (hx : X.N[i]? = some x) (hl : Loc X.env.scope x) (h : SE C X W e te me) (hi : i ∉ P := by decide)
    (hs : swapsWith e (some (.Name x pos')) pos.line X.env = pure false := by rfl) (hf : X.fn x = true ∨ X.env.scope.names.lookup x = some .local := by first | exact .inl rfl | exact .inr rfl | assumption) :
    S1 C P X W (.Assign [.Name x pos'] e pos) (tAsg te (gName i)) (mSet i me) := ⟨ps_set hN hx hl h.pe hs hf, snd_set hi h.snd⟩

/-! ### raise of an own class with a text -/
def mRaise (c : Str) : M Fl := fun ρ => .err c ρ
/-- an own exception class: what K says of it -/
structure EO (C : VC) (x : Str) (Ca : Addr) : Prop where
  hx : PySem.W.excIn C.K Ca He.veBase "ValueError.__new__" = true
  g : C.mg x = some (.ref Ca)
  k : PySem.W.keepIn C.K (.ref Ca) = true
theorem s_raise {x ms : Str} {j : Nat} {p p2 cp : Pos} {Ca : Addr} (hc : X.calm = true) (tk : Takes X W) (hg : Gl X x) (E : EO C x Ca) (hr : Raises X (.ref Ca)) (hK : X.K = C.K := by rfl) (hm : X.mg = C.mg := by rfl) (hdb : (x == ("__debug__" : Str)) = false := by decide) :
    S1 C P X W (.Raise (some (.Call (.Name x p) [.Constant (.str ms) j p2] [] cp)) none pos) (fun _ σ H => W (.ref Ca) none σ H) (mRaise x) :=
  ⟨ps_raise hc tk (pmk_own PySem.F.excBase_ValueError (by rw [hK]; exact E.hx) (by rw [hm]; exact E.g) (by rw [hK]; exact E.k) hr hg hdb), fun B ρ σ G H D F pn Q => Q σ G H Ca F pn E.g⟩
end
end VS

/-! VS4: argument lists, defs, calls. -/
namespace VS
open PySem PySem.Spec PyProof.Rows L2

/-! ### argument lists -/
inductive OpdsR (C : VC) (σ : L2.St) (G : Hp) : List Opd → List V → Prop
  | nil : OpdsR C σ G [] []
  | cons {o : Opd} {v : V} {os : List Opd} {vs : List V} : OpdR C σ G o v → OpdsR C σ G os vs → OpdsR C σ G (o :: os) (v :: vs)
section
variable {C : VC} {σ : L2.St} {G G' : Hp}
theorem OpdsR.mono (S : Same G G') : ∀ {os : List Opd} {vs : List V}, OpdsR C σ G os vs → OpdsR C σ G' os vs
  | _, _, .nil => .nil
  | _, _, .cons h t => .cons (h.mono S) (OpdsR.mono S t)
theorem OpdsR.length : ∀ {os : List Opd} {vs : List V}, OpdsR C σ G os vs → os.length = vs.length
  | _, _, .nil => rfl
  | _, _, .cons h t => congrArg Nat.succ (OpdsR.length t)
theorem OpdsR.get : ∀ {os : List Opd} {vs : List V} {j : Nat} {o : Opd}, OpdsR C σ G os vs → os[j]? = some o → ∃ v, vs[j]? = some v ∧ OpdR C σ G o v
  | _, _, _, _, .nil, h => by simp at h
  | _, _, 0, _, .cons r _, h => by simp at h; subst h; exact ⟨_, rfl, r⟩
  | _, _, j + 1, _, .cons _ t, h => by
    obtain ⟨v, h1, h2⟩ := OpdsR.get (j := j) t (by simpa using h)
    exact ⟨v, by simpa using h1, h2⟩
end
def PostA (C : VC) (B : Bd) (W : WX) (σ : L2.St) (G : Hp) (Q : List V → Hp → Prop) : Rs (List Opd) → Prop
  | .ok os ρ => ∀ vs G' H', EnvR C B ρ σ none G' H' → Same G G' → OpdsR C σ G' os vs → Q vs H'
  | .err c ρ => ∀ G' H' Ca, EnvR C B ρ σ none G' H' → C.mg c = some (.ref Ca) → W (.ref Ca) none σ H'
  | .stuck => False
def SndA (C : VC) (W : WX) (t : TA) (m : M (List Opd)) : Prop := ∀ B ρ σ G H Q, EnvR C B ρ σ none G H → PostA C B W σ G Q (m ρ) → t σ H Q
structure SA (C : VC) (X : Cx) (W : WX) (es : List Expr) (t : TA) (m : M (List Opd)) : Prop where
  pa : PA X es t
  snd : SndA C W t m
def mCons (a : M Ref) (r : M (List Opd)) : M (List Opd) := M.bind (opd a) fun o => M.bind r fun os => M.ret (o :: os)
section
variable {C : VC} {X : Cx} {W : WX} {e : Expr} {es : List Expr} {te : TE} {t : TA} {me : M Ref} {m : M (List Opd)}
theorem snd_nil {C : VC} : SndA C W tNil (M.ret []) := fun B ρ σ G H Q E P => P [] G H E (Same.refl _) .nil
theorem snd_cons {C : VC} (h : SndE C W te me) (r : SndA C W t m) : SndA C W (tCons te t) (mCons me m) := by
  intro B ρ σ G H Q E P
  refine h.o B ρ σ G H _ E ?_
  unfold mCons at P
  rw [mbind] at P
  cases q : opd me ρ with
  | stuck => rw [q] at P; exact P
  | err c ρ' => rw [q] at P; exact P
  | ok o ρ1 =>
    rw [q, bind_ok, mbind] at P
    intro v G1 H1 E1 S1 r1
    refine r B ρ1 σ G1 H1 _ E1 ?_
    cases q2 : m ρ1 with
    | stuck => rw [q2] at P; exact P
    | err c ρ' => rw [q2] at P; exact P
    | ok os ρ2 =>
      rw [q2, bind_ok] at P
      exact fun vs G2 H2 E2 S2 r2 => P (v :: vs) G2 H2 E2 (S1.trans S2) (.cons (r1.mono S2) r2)
theorem sa_nil : SA C X W [] tNil (M.ret []) := ⟨pa_nil, snd_nil⟩
theorem sa_cons (h : SE C X W e te me) (r : SA C X W es t m) (hs : starEach (e :: es) X.env = (false, eval e X.env) :: starEach es X.env := by rfl) : SA C X W (e :: es) (tCons te t) (mCons me m) := ⟨pa_cons h.pe r.pa hs, snd_cons h.snd r.snd⟩
end

/-- how many arguments there are -/
def Len (m : M (List Opd)) (n : Nat) : Prop := ∀ ρ os ρ', m ρ = .ok os ρ' → os.length = n
theorem len_nil : Len (M.ret []) 0 := fun ρ os ρ' h => by cases h; rfl
theorem len_cons {a : M Ref} {m : M (List Opd)} {n : Nat} (h : Len m n) : Len (mCons a m) (n + 1) := fun ρ os ρ' e => by
  unfold mCons at e
  rw [mbind] at e
  cases q : opd a ρ with
  | stuck => rw [q] at e; cases e
  | err c ρ1 => rw [q] at e; cases e
  | ok o ρ1 =>
    rw [q, bind_ok, mbind] at e
    cases q2 : m ρ1 with
    | stuck => rw [q2] at e; cases e
    | err c ρ1 => rw [q2] at e; cases e
    | ok os' ρ2 =>
      rw [q2, bind_ok] at e
      cases e
      exact congrArg Nat.succ (h _ _ _ q2)
/-! ### promises -/
abbrev Den := List SV → Rs SV
def PostC (C : VC) (B : Bd) (vs : List V) (Q : VK) (E : XK) : Rs SV → Prop
  | .ok s outs => ∀ v G' H', EnvR C B outs (vs.map some) (some (s, v)) G' H' → Q v H'
  | .err c outs => ∀ G' H' Ca, EnvR C B outs (vs.map some) none G' H' → C.mg c = some (.ref Ca) → E (.ref Ca) none H'
  | .stuck => False
def spD (C : VC) (n : Nat) (den : Den) : Sp := fun vs H Q E => vs.length = n ∧ ∃ (B : Bd) (args : List SV), B.H0 = H ∧ (∀ j, j < n → vs[j]? = some (B.pv j)) ∧ EnvR C B (args.map some) (vs.map some) none B.G0 H ∧ PostC C B vs Q E (den args)
structure FV (C : VC) (P : Program) (w : World) (base : Heap) (k : Nat) (x : Str) (st : Stmt) (ps : List Str) (den : Den) : Prop where
  fn : ∃ fd, FnOk P w C.K C.mg base (L2.CX P w) k (He.ga C.K x) fd ps (spD C ps.length den) ∧ ∃ (kV doc pm : Value) (an : Option Addr) (cdv ct : Value), fd = PySem.W.fnOf x x (defArgs st) (defBody st) (defScope st) .none kV doc pm an cdv ct
  kp : PySem.W.keepIn C.K (.ref (He.ga C.K x)) = true
  gl : C.mg x = some (.ref (He.ga C.K x))
theorem FV.mono {C : VC} {P : Program} {w : World} {base : Heap} {k k' : Nat} {x : Str} {st : Stmt} {ps : List Str} {den : Den} (F : FV C P w base k x st ps den) (h : k ≤ k') : FV C P w base k' x st ps den := by
  obtain ⟨⟨fd, a, b⟩, c, d⟩ := F
  exact ⟨⟨fd, a.mono h, b⟩, c, d⟩
theorem FV.den {C : VC} {P : Program} {w : World} {base : Heap} {k : Nat} {x : Str} {st : Stmt} {ps : List Str} {den den' : Den} (F : FV C P w base k x st ps den) (h : ∀ args, den' args ≠ .stuck → den args = den' args) : FV C P w base k x st ps den' := by
  obtain ⟨⟨fd, a, b⟩, c, d⟩ := F
  refine ⟨⟨fd, a.imp fun vs H Q E z => ?_, b⟩, c, d⟩
  obtain ⟨h1, B, args, h2, h3, h4, h5⟩ := z
  refine ⟨h1, B, args, h2, h3, h4, ?_⟩
  rw [h args (fun z => by rw [z] at h5; exact h5)]
  exact h5

def mask (n : Nat) (pin : List Nat) (ρ : En) : En := (List.range n).map fun j => if j ∈ pin then ρ.getD j none else none
def denOf (n l : Nat) (pin : List Nat) (m : M Fl) : Den := fun args => match m (args.map some ++ List.replicate l none) with
  | .ok (.rt s) ρ => .ok s (mask n pin ρ)
  | .ok .nx ρ => .ok (.d .non) (mask n pin ρ)
  | .ok _ _ => .stuck
  | .err c ρ => .err c (mask n pin ρ)
  | .stuck => .stuck

theorem getD_some {α : Type} (vs : List α) (j : Nat) : (vs.map some).getD j none = vs[j]? := by
  rw [List.getD_eq_getElem?_getD, List.getElem?_map]
  cases vs[j]? <;> rfl
theorem getD_st {σ : L2.St} {i : Nat} {v : V} (h : σ[i]? = some (some v)) : σ.getD i none = some v := by
  rw [List.getD_eq_getElem?_getD, h] <;> rfl
theorem mask_get {n : Nat} {pin : List Nat} {ρ : En} {j : Nat} : (mask n pin ρ).getD j none = if j < n ∧ j ∈ pin then ρ.getD j none else none := by
  unfold mask
  rw [List.getD_eq_getElem?_getD, List.getElem?_map]
  by_cases h : j < n
  · rw [List.getElem?_range h]
    by_cases h2 : j ∈ pin
    · rw [if_pos ⟨h, h2⟩]
      show (if j ∈ pin then ρ.getD j none else none) = _
      rw [if_pos h2]
    · rw [if_neg (fun z => h2 z.2)]
      show (if j ∈ pin then ρ.getD j none else none) = _
      rw [if_neg h2]
  · rw [if_neg (fun z => h z.1), List.getElem?_eq_none (by simpa using h)] <;> rfl
theorem EnvR.mask {C : VC} {B : Bd} {ρ : En} {σ : L2.St} {x : Option (SV × V)} {G H : Hp} {n : Nat} {pin : List Nat} {vs : List V} (E : EnvR C B ρ σ x G H) (pn : PinOk pin B σ) (hn : vs.length = n) (hv : ∀ j, j < n → vs[j]? = some (B.pv j)) :
    EnvR C B (mask n pin ρ) (vs.map some) x G H := by
  refine ⟨?_, by simp [VS.mask, hn]⟩
  refine E.fr.remap (fun i => match i with | none => some none | some j => if j < n ∧ j ∈ pin then some (some j) else none) (fun i j k h1 h2 => ?_) fun i => ?_
  · cases i with
    | none =>
      cases j with
      | none => rfl
      | some j =>
        dsimp only at h1 h2
        split at h2
        · cases h1; cases h2
        · cases h2
    | some i =>
      cases j with
      | none =>
        dsimp only at h1 h2
        split at h1
        · cases h1; cases h2
        · cases h1
      | some j =>
        dsimp only at h1 h2
        split at h1
        · split at h2
          · cases h1; cases h2; rfl
          · cases h2
        · cases h1
  · cases i with
    | none => exact .inl ⟨none, rfl, rfl⟩
    | some j =>
      by_cases h : j < n ∧ j ∈ pin
      · refine .inl ⟨some j, if_pos h, ?_⟩
        show ((VS.mask n pin ρ).getD j none, (vs.map some).getD j none) = (ρ.getD j none, σ.getD j none)
        rw [mask_get, if_pos h, getD_some, hv j h.1, getD_st (pn j h.2)]
      · refine .inr ⟨if_neg h, .inl ?_⟩
        show (VS.mask n pin ρ).getD j none = none
        rw [mask_get, if_neg h]

section
variable {C : VC} {P : Program} {w : World} {base : Heap}
theorem getD_append_left {α : Type} {l r : List (Option α)} {i : Nat} (h : i < l.length) : (l ++ r).getD i none = l.getD i none := by
  rw [List.getD_eq_getElem?_getD, List.getElem?_append_left h, List.getD_eq_getElem?_getD]
theorem getD_append_rep {α : Type} {l : List (Option α)} {k i : Nat} : (l ++ List.replicate k none).getD i none = l.getD i none := by
  by_cases h : i < l.length
  · exact getD_append_left h
  · have e1 : l.getD i none = none := by
      rw [List.getD_eq_getElem?_getD, List.getElem?_eq_none (by omega)] <;> rfl
    rw [e1, List.getD_eq_getElem?_getD, List.getElem?_append_right (by omega), List.getElem?_replicate]
    split <;> rfl
/-- THE RULE for a def -/
theorem fd_ofF {N ps : List Str} {k : Nat} {x qual : Str} {f : Addr} {st : Stmt} {fd : FuncData} {pin : List Nat} {m : M Fl} (F : FunD C.K x qual (defArgs st) (defBody st) (defScope st) [] [] f fd) (S : FnScope N ps (defScope st)) (hp : ∀ j ∈ pin, j < ps.length)
    (hbody : ∀ (cdv : Value), (∃ oc od osl fd', C.K.lookup f = some ⟨oc, od, .func fd', osl⟩ ∧ fd'.code = cdv ∧ PySem.W.codeIn C.K cdv qual = true) → ∀ (A : Around) (outer : List Env) (s : Shared) (H : Hp) (E : XK), Room k (A.deeper (envOfC qual (defScope st) s.heap.objs.size f cdv)) →
      ∃ t, SS C pin (cxOf (L2.CX P w) P w C.K C.mg base N qual (defScope st) f cdv A outer s H E) (fun cls d _ H => E cls d H) (defBody st) t m) :
    FnOk P w C.K C.mg base (L2.CX P w) (k + 1) f fd ps (spD C ps.length (denOf ps.length (N.length - ps.length) pin m)) ∧ ∃ (kV doc pm : Value) (an : Option Addr) (cdv ct : Value), fd = PySem.W.fnOf x qual (defArgs st) (defBody st) (defScope st) .none kV doc pm an cdv ct := by
  have e := F.ex
  obtain ⟨oc, od, dV, kV, doc, pm, an, cdv, ct, osl, e1, lk, hcd, hD, hK⟩ := e
  have hdV : dV = .none := by
    rcases hD with ⟨_, h⟩ | ⟨h, _⟩
    · exact h
    · exact absurd rfl h
  subst hdV
  refine ⟨?_, kV, doc, pm, an, cdv, ct, e1⟩
  subst e1
  refine fn_of lk hcd S (fun vs H Q E h => h.1) (fun A outer s H vs Q E hr h => ?_)
  obtain ⟨hl, B, args, hB, hv, EV, P0⟩ := h
  obtain ⟨t, ht⟩ := hbody cdv ⟨_, _, _, _, lk, rfl, hcd⟩ A outer s H E hr
  refine ⟨t, ht.ps, ?_⟩
  have hal : args.length = vs.length := by have := EV.len; simpa using this
  have E0 : EnvR C B (args.map some ++ List.replicate (N.length - ps.length) none) (L2.start N vs) none B.G0 H := by
    refine ⟨?_, ?_⟩
    · have e2 : view (args.map some ++ List.replicate (N.length - ps.length) none) (L2.start N vs) none = view (args.map some) (vs.map some) none := by
        funext i
        cases i with
        | none => rfl
        | some i =>
          show ((args.map some ++ List.replicate (N.length - ps.length) none).getD i none, (L2.start N vs).getD i none) = ((args.map some).getD i none, (vs.map some).getD i none)
          unfold L2.start
          rw [getD_append_rep, getD_append_rep]
      rw [e2]
      exact EV.fr
    · unfold L2.start
      simp [hal, hl]
  have p0 : PinOk pin B (L2.start N vs) := fun j hj => by
    have hjl : j < ps.length := hp j hj
    unfold L2.start
    rw [List.getElem?_append_left (by simp [hl, hjl]), List.getElem?_map, hv j hjl] <;> rfl
  refine ht.snd B _ _ _ _ _ E0 p0 ?_
  have hm : (args.map some ++ List.replicate (N.length - ps.length) none : En) = args.map some ++ List.replicate (N.length - ps.length) none := rfl
  unfold denOf at P0
  cases q : m (args.map some ++ List.replicate (N.length - ps.length) none) with
  | stuck => rw [q] at P0; exact P0
  | err c ρ' =>
    rw [q] at P0
    exact fun σ' G' H' Ca E' pn hc => P0 G' H' Ca (E'.mask pn hl hv) hc
  | ok f ρ' =>
    rw [q] at P0
    cases f with
    | nx => exact fun σ' G' H' E' _ pn => P0 .non G' H' ((E'.res .non).mask pn hl hv)
    | bk => exact P0.elim
    | ct => exact P0.elim
    | rt s => exact fun v σ' G' H' E' _ pn => P0 v G' H' (E'.mask pn hl hv)
theorem fd_of {N ps : List Str} {k : Nat} {x qual : Str} {f : Addr} {st : Stmt} {fd : FuncData} {pin : List Nat} {m : M Fl} (F : FunD C.K x qual (defArgs st) (defBody st) (defScope st) [] [] f fd) (S : FnScope N ps (defScope st)) (hp : ∀ j ∈ pin, j < ps.length)
    (hbody : ∀ (cdv : Value), (∃ oc od osl fd', C.K.lookup f = some ⟨oc, od, .func fd', osl⟩ ∧ fd'.code = cdv ∧ PySem.W.codeIn C.K cdv qual = true) → ∀ (A : Around) (outer : List Env) (s : Shared) (H : Hp) (E : XK), Room k (A.deeper (envOfC qual (defScope st) s.heap.objs.size f cdv)) →
      ∃ t, SS C pin (cxOf (L2.CX P w) P w C.K C.mg base N qual (defScope st) f cdv A outer s H E) (fun cls d _ H => E cls d H) (defBody st) t m) :
    ∃ fd, FnOk P w C.K C.mg base (L2.CX P w) (k + 1) f fd ps (spD C ps.length (denOf ps.length (N.length - ps.length) pin m)) ∧ ∃ (kV doc pm : Value) (an : Option Addr) (cdv ct : Value), fd = PySem.W.fnOf x qual (defArgs st) (defBody st) (defScope st) .none kV doc pm an cdv ct := ⟨fd, fd_ofF F S hp hbody⟩
theorem fv_of {N ps : List Str} {k : Nat} {x : Str} {st : Stmt} {fd : FuncData} {pin : List Nat} {m : M Fl} (F : FunD C.K x x (defArgs st) (defBody st) (defScope st) [] [] (He.ga C.K x) fd) (S : FnScope N ps (defScope st)) (gl : C.mg x = some (.ref (He.ga C.K x))) (hp : ∀ j ∈ pin, j < ps.length)
    (hbody : ∀ (cdv : Value) (A : Around) (outer : List Env) (s : Shared) (H : Hp) (E : XK), Room k (A.deeper (envOfC x (defScope st) s.heap.objs.size (He.ga C.K x) cdv)) →
      ∃ t, SS C pin (cxOf (L2.CX P w) P w C.K C.mg base N x (defScope st) (He.ga C.K x) cdv A outer s H E) (fun cls d _ H => E cls d H) (defBody st) t m) :
    FV C P w base (k + 1) x st ps (denOf ps.length (N.length - ps.length) pin m) := ⟨fd_of F S hp fun cdv _ => hbody cdv, F.kp, gl⟩
/-- a def that makes lambdas: its code object is known -/
theorem fv_ofL {N ps : List Str} {k : Nat} {x : Str} {st : Stmt} {fd : FuncData} {pin : List Nat} {m : M Fl} (F : FunD C.K x x (defArgs st) (defBody st) (defScope st) [] [] (He.ga C.K x) fd) (S : FnScope N ps (defScope st)) (gl : C.mg x = some (.ref (He.ga C.K x))) (hp : ∀ j ∈ pin, j < ps.length)
    (hbody : ∀ (A : Around) (outer : List Env) (s : Shared) (H : Hp) (E : XK), Room k (A.deeper (envOfC x (defScope st) s.heap.objs.size (He.ga C.K x) (.ref (He.cT C.K (x, none)).1))) →
      ∃ t, SS C pin (cxOf (L2.CX P w) P w C.K C.mg base N x (defScope st) (He.ga C.K x) (.ref (He.cT C.K (x, none)).1) A outer s H E) (fun cls d _ H => E cls d H) (defBody st) t m) :
    FV C P w base (k + 1) x st ps (denOf ps.length (N.length - ps.length) pin m) := ⟨fd_of F S hp fun cdv hc => by
      obtain ⟨oc, od, osl, fd', lk, e, hcd⟩ := hc
      obtain ⟨c, hc⟩ := He.codeIn_ref hcd
      have e2 : He.codeOf C.K (x, none) = c := He.codeOf_eq (p := (x, none)) lk (by rw [e, hc])
      rw [hc, ← e2]
      exact hbody, F.kp, gl⟩
theorem fm_of {N ps : List Str} {k : Nat} {f : Addr} {qual x : Str} {st : Stmt} {fd : FuncData} {pin : List Nat} {m : M Fl} (F : FunD C.K x qual (defArgs st) (defBody st) (defScope st) [] [] f fd) (S : FnScope N ps (defScope st)) (hp : ∀ j ∈ pin, j < ps.length)
    (hbody : ∀ (cdv : Value) (A : Around) (outer : List Env) (s : Shared) (H : Hp) (E : XK), Room k (A.deeper (envOfC qual (defScope st) s.heap.objs.size f cdv)) →
      ∃ t, SS C pin (cxOf (L2.CX P w) P w C.K C.mg base N qual (defScope st) f cdv A outer s H E) (fun cls d _ H => E cls d H) (defBody st) t m) :
    ∃ fd, FnOk P w C.K C.mg base (L2.CX P w) (k + 1) f fd ps (spD C ps.length (denOf ps.length (N.length - ps.length) pin m)) ∧ ∃ (kV doc pm : Value) (an : Option Addr) (cdv ct : Value), fd = PySem.W.fnOf x qual (defArgs st) (defBody st) (defScope st) .none kV doc pm an cdv ct := fd_of F S hp fun cdv _ => hbody cdv
/-- a method's function -/
structure FM (C : VC) (P : Program) (w : World) (base : Heap) (k : Nat) (f : Addr) (qual x : Str) (st : Stmt) (ps : List Str) (den : Den) : Prop where
  fn : ∃ fd, FnOk P w C.K C.mg base (L2.CX P w) k f fd ps (spD C ps.length den) ∧ ∃ (kV doc pm : Value) (an : Option Addr) (cdv ct : Value), fd = PySem.W.fnOf x qual (defArgs st) (defBody st) (defScope st) .none kV doc pm an cdv ct
theorem FM.mono {k k' : Nat} {f : Addr} {qual x : Str} {st : Stmt} {ps : List Str} {den : Den} (F : FM C P w base k f qual x st ps den) (h : k ≤ k') : FM C P w base k' f qual x st ps den := by
  obtain ⟨fd, a, b⟩ := F.fn
  exact ⟨fd, a.mono h, b⟩
end

/-! ### calls -/
/-- the slot holds a thing that may change -/
def isOwn : Option SV → Bool
  | some (.ol _) => true
  | some (.od _) => true
  | some (.dr _) => true
  | some (.oi _ _) => true
  | _ => false
def ownIx (ρ : En) : List Opd → List Nat
  | [] => []
  | .d _ :: os => ownIx ρ os
  | .loc i :: os => if isOwn (ρ.getD i none) = true then i :: ownIx ρ os else ownIx ρ os
def argSV (ρ : En) : List Opd → Option (List SV)
  | [] => some []
  | .d x :: os => (argSV ρ os).map (SV.d x :: ·)
  | .loc i :: os => (ρ.getD i none).bind fun s => (argSV ρ os).map (s :: ·)
def wb (ρ : En) : List Opd → En → En
  | [], _ => ρ
  | .d _ :: os, outs => wb ρ os outs.tail
  | .loc i :: os, outs => if isOwn (ρ.getD i none) = true then (wb ρ os outs.tail).set i (outs.getD 0 none) else wb ρ os outs.tail
def callD (den : Den) (os : List Opd) : M Ref := fun ρ => match argSV ρ os with
  | none => .stuck
  | some args => if (ownIx ρ os).Nodup then (match den args with
    | .ok s outs => .ok (.sv s) (wb ρ os outs)
    | .err c outs => .err c (wb ρ os outs)
    | .stuck => .stuck) else .stuck
def mCall (den : Den) (a : M (List Opd)) : M Ref := M.bind a (callD den)

section
variable {C : VC} {B : Bd} {ρ : En} {σ : L2.St} {G H : Hp}
theorem argSV_get : ∀ {os : List Opd} {args : List SV} {j : Nat}, argSV ρ os = some args → (∀ x, os[j]? = some (Opd.d x) → args[j]? = some (SV.d x)) ∧ (∀ i, os[j]? = some (Opd.loc i) → ∃ s, ρ.getD i none = some s ∧ args[j]? = some s) ∧ (os[j]? = none → args[j]? = none)
  | [], args, j, h => by
    cases h
    exact ⟨fun x h => by simp at h, fun i h => by simp at h, fun _ => by simp⟩
  | .d y :: os, args, j, h => by
    unfold argSV at h
    cases q : argSV ρ os with
    | none => rw [q] at h; cases h
    | some r =>
      rw [q] at h
      cases h
      cases j with
      | zero => exact ⟨fun x h => by simpa using h, fun i h => by simp at h, fun h => by simp at h⟩
      | succ j =>
        obtain ⟨a, b, c⟩ := argSV_get (j := j) q
        exact ⟨fun x h => by simpa using a x (by simpa using h), fun i h => by simpa using b i (by simpa using h), fun h => by simpa using c (by simpa using h)⟩
  | .loc y :: os, args, j, h => by
    unfold argSV at h
    cases q0 : ρ.getD y none with
    | none => rw [q0] at h; cases h
    | some s =>
      rw [q0] at h
      have h : (argSV ρ os).map (s :: ·) = some args := h
      cases q : argSV ρ os with
      | none => rw [q] at h; cases h
      | some r =>
        rw [q] at h
        cases h
        cases j with
        | zero => exact ⟨fun x h => by simp at h, fun i h => by simp at h; subst h; exact ⟨s, q0, rfl⟩, fun h => by simp at h⟩
        | succ j =>
          obtain ⟨a, b, c⟩ := argSV_get (j := j) q
          exact ⟨fun x h => by simpa using a x (by simpa using h), fun i h => by simpa using b i (by simpa using h), fun h => by simpa using c (by simpa using h)⟩
theorem mem_ownIx {i : Nat} : ∀ {os : List Opd}, i ∈ ownIx ρ os ↔ isOwn (ρ.getD i none) = true ∧ ∃ j : Nat, os[j]? = some (Opd.loc i)
  | [] => by simp [ownIx]
  | .d y :: os => by
    unfold ownIx
    rw [mem_ownIx]
    constructor
    · rintro ⟨h, j, e⟩
      exact ⟨h, j + 1, by simpa using e⟩
    · rintro ⟨h, j, e⟩
      cases j with
      | zero => simp at e
      | succ j => exact ⟨h, j, by simpa using e⟩
  | .loc y :: os => by
    unfold ownIx
    by_cases hy : isOwn (ρ.getD y none) = true
    · rw [if_pos hy, List.mem_cons, mem_ownIx]
      constructor
      · rintro (h | ⟨h, j, e⟩)
        · subst h
          exact ⟨hy, 0, rfl⟩
        · exact ⟨h, j + 1, by simpa using e⟩
      · rintro ⟨h, j, e⟩
        cases j with
        | zero =>
          simp at e
          exact .inl e.symm
        | succ j => exact .inr ⟨h, j, by simpa using e⟩
    · rw [if_neg hy, mem_ownIx]
      constructor
      · rintro ⟨h, j, e⟩
        exact ⟨h, j + 1, by simpa using e⟩
      · rintro ⟨h, j, e⟩
        cases j with
        | zero =>
          simp at e
          subst e
          exact absurd h hy
        | succ j => exact ⟨h, j, by simpa using e⟩
/-- an owned slot is passed once -/
theorem own_once {i : Nat} : ∀ {os : List Opd} {j k : Nat}, (ownIx ρ os).Nodup → isOwn (ρ.getD i none) = true → os[j]? = some (Opd.loc i) → os[k]? = some (Opd.loc i) → j = k
  | [], j, k, _, _, h, _ => by simp at h
  | .d y :: os, j, k, nd, ho, h1, h2 => by
    cases j with
    | zero => simp at h1
    | succ j =>
      cases k with
      | zero => simp at h2
      | succ k =>
        have := own_once (os := os) (j := j) (k := k) (by simpa [ownIx] using nd) ho (by simpa using h1) (by simpa using h2)
        omega
  | .loc y :: os, j, k, nd, ho, h1, h2 => by
    have nd2 : (ownIx ρ os).Nodup := by
      unfold ownIx at nd
      split at nd
      · exact (List.nodup_cons.mp nd).2
      · exact nd
    have no0 : ∀ l : Nat, y = i → os[l]? = some (Opd.loc i) → False := fun l e hl => by
      subst e
      unfold ownIx at nd
      rw [if_pos ho] at nd
      exact (List.nodup_cons.mp nd).1 (mem_ownIx.mpr ⟨ho, l, hl⟩)
    cases j with
    | zero =>
      cases k with
      | zero => rfl
      | succ k =>
        simp at h1
        exact (no0 k h1 (by simpa using h2)).elim
    | succ j =>
      cases k with
      | zero =>
        simp at h2
        exact (no0 j h2 (by simpa using h1)).elim
      | succ k =>
        have := own_once (os := os) (j := j) (k := k) nd2 ho (by simpa using h1) (by simpa using h2)
        omega
theorem getD_tail {outs : En} {j : Nat} : outs.tail.getD j none = outs.getD (j + 1) none := by
  cases outs with
  | nil => simp
  | cons a r => simp
theorem wb_len : ∀ {os : List Opd} {outs : En}, (wb ρ os outs).length = ρ.length
  | [], _ => rfl
  | .d y :: os, outs => wb_len (os := os)
  | .loc y :: os, outs => by
    unfold wb
    split
    · rw [List.length_set]
      exact wb_len (os := os)
    · exact wb_len (os := os)
theorem wb_get {i : Nat} : ∀ {os : List Opd} {outs : En}, (ownIx ρ os).Nodup → (∀ j, isOwn (ρ.getD i none) = true → os[j]? = some (Opd.loc i) → (wb ρ os outs).getD i none = outs.getD j none) ∧ (i ∉ ownIx ρ os → (wb ρ os outs).getD i none = ρ.getD i none)
  | [], outs, _ => ⟨fun j _ h => by simp at h, fun _ => rfl⟩
  | .d y :: os, outs, nd => by
    obtain ⟨a, b⟩ := wb_get (i := i) (os := os) (outs := outs.tail) (by simpa [ownIx] using nd)
    refine ⟨fun j ho h => ?_, fun h => b (by simpa [ownIx] using h)⟩
    cases j with
    | zero => simp at h
    | succ j =>
      have := a j ho (by simpa using h)
      rw [getD_tail] at this
      exact this
  | .loc y :: os, outs, nd => by
    have nd2 : (ownIx ρ os).Nodup := by
      unfold ownIx at nd
      split at nd
      · exact (List.nodup_cons.mp nd).2
      · exact nd
    obtain ⟨a, b⟩ := wb_get (i := i) (os := os) (outs := outs.tail) nd2
    by_cases hy : isOwn (ρ.getD y none) = true
    · have e0 : wb ρ (.loc y :: os) outs = (wb ρ os outs.tail).set y (outs.getD 0 none) := if_pos hy
      have e1 : ownIx ρ (.loc y :: os) = y :: ownIx ρ os := if_pos hy
      rw [e0]
      by_cases hiy : i = y
      · subst hiy
        have hl : i < (wb ρ os outs.tail).length := by
          rw [wb_len]
          by_cases h : i < ρ.length
          · exact h
          · rw [List.getD_eq_getElem?_getD, List.getElem?_eq_none (by omega)] at hy
            cases hy
        refine ⟨fun j ho h => ?_, fun h => ?_⟩
        · rw [getD_set_eq hl]
          have := own_once (ρ := ρ) (i := i) (os := .loc i :: os) (j := j) (k := 0) nd ho h rfl
          rw [this]
        · rw [e1] at h
          exact absurd List.mem_cons_self h
      · rw [getD_set_ne hiy]
        refine ⟨fun j ho h => ?_, fun h => b fun z => h (by rw [e1]; exact List.mem_cons_of_mem _ z)⟩
        cases j with
        | zero =>
          simp at h
          exact absurd h.symm hiy
        | succ j =>
          have := a j ho (by simpa using h)
          rw [getD_tail] at this
          exact this
    · have e0 : wb ρ (.loc y :: os) outs = wb ρ os outs.tail := if_neg hy
      have e1 : ownIx ρ (.loc y :: os) = ownIx ρ os := if_neg hy
      rw [e0]
      refine ⟨fun j ho h => ?_, fun h => b (by rw [e1] at h; exact h)⟩
      cases j with
      | zero =>
        simp at h
        subst h
        exact absurd ho hy
      | succ j =>
        have := a j ho (by simpa using h)
        rw [getD_tail] at this
        exact this

theorem SlotOk.noOwn {x : Slot} {fp : List Addr} (h : SlotOk C G H x fp) (n : isOwn x.1 = false) : fp = [] := by
  obtain ⟨a, b⟩ := x
  cases a with
  | none => exact h
  | some s =>
    obtain ⟨v, e, o⟩ := h
    cases s with
    | d y => exact o.1
    | sc y => exact o.1
    | oi c y => cases n
    | ol y => cases n
    | od y => cases n
    | dr y => cases n

/-- the callee's environment, and back -/
theorem call_env {os : List Opd} {vs : List V} {args : List SV} (E : EnvR C B ρ σ none G H) (r : OpdsR C σ G os vs) (ha : argSV ρ os = some args) (nd : (ownIx ρ os).Nodup) :
    ∃ B' : Bd, B'.H0 = H ∧ B'.G0 = G ∧ (∀ j, j < vs.length → vs[j]? = some (B'.pv j)) ∧ EnvR C B' (args.map some) (vs.map some) none G H ∧
      ∀ outs x G2 H2, EnvR C B' outs (vs.map some) x G2 H2 → EnvR C B (wb ρ os outs) σ x G2 H2 ∧ Same G G2 := by
  obtain ⟨fp, h1, h2, h3⟩ := E.fr.ex
  have hvl := r.length
  have hal : args.length = os.length := by
    have hz : ∀ j, args[j]? = none ↔ os[j]? = none := fun j => by
      obtain ⟨a, b, c⟩ := argSV_get (j := j) ha
      refine ⟨fun h => ?_, c⟩
      cases q : os[j]? with
      | none => rfl
      | some o =>
        cases o with
        | d x => rw [a x q] at h; cases h
        | loc i =>
          obtain ⟨s, _, e⟩ := b i q
          rw [e] at h; cases h
    have z1 := (hz os.length).mpr (by simp)
    have z2 := (hz args.length).mp (by simp)
    rw [List.getElem?_eq_none_iff] at z1 z2
    omega
  -- slot i's own position
  have tracked : ∀ i p, p ∈ fp i → ∃ u, H p = some u ∧ Plain u := fun i p hp => (h1 i).there hp
  let S' : Addr → Prop := fun p => ∃ i, i ∈ ownIx ρ os ∧ p ∈ fp (some i)
  let B' : Bd := ⟨H, G, S', fun j => (vs[j]?).getD .non⟩
  let fq : Option Nat → List Addr := fun i => match i with
    | none => []
    | some j => (match os[j]? with
      | some (.loc i) => if isOwn (ρ.getD i none) = true then fp (some i) else []
      | _ => [])
  have fq_mem : ∀ j p, p ∈ fq (some j) → ∃ i, os[j]? = some (Opd.loc i) ∧ isOwn (ρ.getD i none) = true ∧ p ∈ fp (some i) := fun j p hp => by
    have hp : p ∈ (match os[j]? with
      | some (.loc i) => if isOwn (ρ.getD i none) = true then fp (some i) else []
      | _ => []) := hp
    cases q : os[j]? with
    | none => rw [q] at hp; cases hp
    | some o =>
      rw [q] at hp
      cases o with
      | d x => cases hp
      | loc i =>
        dsimp only at hp
        split at hp
        · rename_i z
          exact ⟨i, rfl, z, hp⟩
        · cases hp
  refine ⟨B', rfl, rfl, fun j hj => ?_, ⟨⟨⟨fq, fun i => ?_, fun i j p hij hp hp2 => ?_, fun i p hp => ?_⟩, E.fr.gh, Same.refl _, fun a h => .inl h, fun b o e _ _ => e, E.fr.nt, E.fr.tb⟩, by simp [hal, hvl]⟩, fun outs x G2 H2 E2 => ?_⟩
  · show vs[j]? = some ((vs[j]?).getD .non)
    rw [List.getElem?_eq_getElem hj] <;> rfl
  · cases i with
    | none => rfl
    | some j =>
      show SlotOk C G H ((args.map some).getD j none, (vs.map some).getD j none) (fq (some j))
      obtain ⟨a, b, c⟩ := argSV_get (j := j) ha
      cases q : os[j]? with
      | none =>
        have e : (args.map some).getD j none = none := by
          rw [getD_some, c q]
        rw [e]
        show fq (some j) = []
        show (match os[j]? with
          | some (.loc i) => if isOwn (ρ.getD i none) = true then fp (some i) else []
          | _ => []) = []
        rw [q]
      | some o =>
        obtain ⟨v, hv, ro⟩ := r.get q
        have ev : (vs.map some).getD j none = some v := by
          rw [getD_some, hv]
        rw [ev]
        cases o with
        | d y =>
          have e : (args.map some).getD j none = some (.d y) := by
            rw [getD_some, a y q]
          rw [e]
          refine ⟨v, rfl, ?_, ro⟩
          show (match os[j]? with
            | some (.loc i) => if isOwn (ρ.getD i none) = true then fp (some i) else []
            | _ => []) = []
          rw [q]
        | loc i =>
          obtain ⟨s, hs, e1⟩ := b i q
          have e : (args.map some).getD j none = some s := by
            rw [getD_some, e1]
          rw [e]
          have ok := h1 (some i)
          have eview : view ρ σ none (some i) = (some s, some v) := by
            show (ρ.getD i none, σ.getD i none) = _
            rw [hs, getD_st ro]
          rw [eview] at ok
          have efq : fq (some j) = fp (some i) := by
            show (match os[j]? with
              | some (.loc i) => if isOwn (ρ.getD i none) = true then fp (some i) else []
              | _ => []) = fp (some i)
            rw [q]
            dsimp only
            by_cases hown : isOwn (ρ.getD i none) = true
            · rw [if_pos hown]
            · rw [if_neg hown]
              have hz : isOwn (some s) = false := by
                rw [← hs]
                exact Bool.eq_false_iff.mpr hown
              exact (ok.noOwn hz).symm
          rw [efq]
          exact ok
  · cases i with
    | none => cases hp
    | some i =>
      cases j with
      | none => cases hp2
      | some j =>
        obtain ⟨a, q1, o1, m1⟩ := fq_mem i p hp
        obtain ⟨b, q2, o2, m2⟩ := fq_mem j p hp2
        by_cases hab : a = b
        · subst hab
          exact hij (congrArg some (own_once nd o1 q1 q2))
        · exact h2 (some a) (some b) p (by simpa using hab) m1 m2
  · cases i with
    | none => cases hp
    | some j =>
      obtain ⟨a, q1, o1, m1⟩ := fq_mem j p hp
      exact ⟨(h3 _ p m1).1, fun _ _ _ => ⟨a, mem_ownIx.mpr ⟨o1, j, q1⟩, m1⟩⟩
  · -- back
    obtain ⟨fz, k1, k2, k3⟩ := E2.fr.ex
    have notS : ∀ i p, i ∉ ownIx ρ os → p ∈ fp (some i) → ¬ S' p := fun i p hi hp ⟨i', hi', hp'⟩ => by
      by_cases e : i = i'
      · subst e; exact hi hi'
      · exact h2 (some i) (some i') p (by simpa using e) hp hp'
    have keepO : ∀ i p, i ∉ ownIx ρ os → p ∈ fp (some i) → H2 p = H p := fun i p hi hp => by
      obtain ⟨u, hu, pl⟩ := tracked _ p hp
      rw [E2.fr.kp p u hu pl.1 (notS i p hi hp), hu]
    have old : ∀ i p, i ∉ ownIx ρ os → p ∈ fp (some i) → ∀ j, p ∉ fz j := fun i p hi hp j hj => by
      obtain ⟨u, hu, pl⟩ := tracked _ p hp
      exact notS i p hi hp ((k3 j p hj).2 u hu pl.1)
    have findJ : ∀ i, i ∈ ownIx ρ os → ∃ j : Nat, os[j]? = some (Opd.loc i) := fun i hi => (mem_ownIx.mp hi).2
    have pick : ∃ pos : Nat → Nat, ∀ i, i ∈ ownIx ρ os → os[pos i]? = some (Opd.loc i) := ⟨fun i => if h : i ∈ ownIx ρ os then (findJ i h).choose else 0, fun i hi => by
      dsimp only
      rw [dif_pos hi]
      exact (findJ i hi).choose_spec⟩
    obtain ⟨pos, hpos⟩ := pick
    have SG : Same G G2 := E2.fr.g0
    have frOf : ∀ {p}, B'.Fr p → B.Fr p := fun {p} z o e n => by
      by_cases hs : B.S p
      · exact hs
      · obtain ⟨i', _, hp'⟩ := z o (E.fr.kp p o e n hs) n
        exact (h3 _ p hp').2 o e n
    refine ⟨⟨⟨⟨fun i => match i with
      | none => fz none
      | some i => if i ∈ ownIx ρ os then fz (some (pos i)) else fp (some i), fun i => ?_, fun i j p hij hp hp2 => ?_, fun i p hp => ?_⟩, E2.fr.gh, E.fr.g0.trans SG, fun a ha => ?_, fun b o e n ns => ?_, E2.fr.nt, E2.fr.tb⟩, by rw [wb_len]; exact E.len⟩, SG⟩
    · cases i with
      | none => exact k1 none
      | some i =>
        show SlotOk C G2 H2 ((wb ρ os outs).getD i none, σ.getD i none) (if i ∈ ownIx ρ os then fz (some (pos i)) else fp (some i))
        obtain ⟨w1, w2⟩ := wb_get (i := i) (outs := outs) nd
        by_cases hi : i ∈ ownIx ρ os
        · rw [if_pos hi]
          have ho := (mem_ownIx.mp hi).1
          rw [w1 (pos i) ho (hpos i hi)]
          have z := k1 (some (pos i))
          obtain ⟨v, hv, ro⟩ := r.get (hpos i hi)
          have e1 : view outs (vs.map some) x (some (pos i)) = (outs.getD (pos i) none, σ.getD i none) := by
            show (outs.getD (pos i) none, (vs.map some).getD (pos i) none) = _
            rw [getD_some, hv, getD_st ro]
          rw [e1] at z
          exact z
        · rw [if_neg hi, w2 hi]
          exact (h1 (some i)).mono SG fun p hp => keepO i p hi hp
    · cases i with
      | none =>
        cases j with
        | none => exact hij rfl
        | some j =>
          dsimp only at hp hp2
          by_cases hj : j ∈ ownIx ρ os
          · rw [if_pos hj] at hp2
            exact k2 none (some (pos j)) p (by simp) hp hp2
          · rw [if_neg hj] at hp2
            exact old j p hj hp2 none hp
      | some i =>
        dsimp only at hp
        cases j with
        | none =>
          dsimp only at hp2
          by_cases hi : i ∈ ownIx ρ os
          · rw [if_pos hi] at hp
            exact k2 (some (pos i)) none p (by simp) hp hp2
          · rw [if_neg hi] at hp
            exact old i p hi hp none hp2
        | some j =>
          dsimp only at hp2
          by_cases hi : i ∈ ownIx ρ os
          · rw [if_pos hi] at hp
            by_cases hj : j ∈ ownIx ρ os
            · rw [if_pos hj] at hp2
              refine k2 (some (pos i)) (some (pos j)) p (fun z => hij ?_) hp hp2
              have z2 : pos i = pos j := by simpa using z
              have a1 := hpos i hi
              rw [z2, hpos j hj] at a1
              cases a1
              rfl
            · rw [if_neg hj] at hp2
              exact old j p hj hp2 _ hp
          · rw [if_neg hi] at hp
            by_cases hj : j ∈ ownIx ρ os
            · rw [if_pos hj] at hp2
              exact old i p hi hp _ hp2
            · rw [if_neg hj] at hp2
              exact h2 (some i) (some j) p hij hp hp2
    · have fresh : ∀ q, p ∈ fz q → G2 p = none ∧ B.Fr p := fun q hq => by
        obtain ⟨z1, z2⟩ := k3 q p hq
        exact ⟨z1, frOf z2⟩
      cases i with
      | none => exact fresh none hp
      | some i =>
        dsimp only at hp
        by_cases hi : i ∈ ownIx ρ os
        · rw [if_pos hi] at hp
          exact fresh _ hp
        · rw [if_neg hi] at hp
          refine ⟨?_, (h3 _ p hp).2⟩
          cases q : G2 p with
          | none => rfl
          | some u =>
            exfalso
            obtain ⟨u', hu, pl⟩ := tracked _ p hp
            rcases E2.fr.gf p (by rw [q]; simp) with z | z
            · exact z (h3 _ p hp).1
            · exact notS i p hi hp (z u' hu pl.1)
    · rcases E2.fr.gf a ha with z | z
      · exact E.fr.gf a z
      · exact .inr (frOf z)
    · exact E2.fr.kp b o (E.fr.kp b o e n ns) n fun ⟨i', _, hp'⟩ => ns ((h3 _ b hp').2 o e n)
end

section
variable {C : VC} {X : Cx} {W : WX} {k : Nat} {x : Str} {st : Stmt} {ps : List Str} {den : Den} {e : Expr} {es : List Expr} {t : TA} {ma : M (List Opd)} {p pos : Pos} {fd : FuncData}
theorem post_call {C : VC} {B : Bd} {ρ : En} {σ : L2.St} {G H : Hp} {Q : VK} {os : List Opd} {vs : List V} {n : Nat} (hn : vs.length = n) (E : EnvR C B ρ σ none G H) (r : OpdsR C σ G os vs) (P : PostE C B W σ G Q (callD den os ρ)) : spD C n den vs H Q (WE W σ) := by
  unfold callD at P
  cases q : argSV ρ os with
  | none => rw [q] at P; exact P.elim
  | some args =>
    rw [q] at P
    dsimp only at P
    by_cases nd : (ownIx ρ os).Nodup
    · rw [if_pos nd] at P
      obtain ⟨B', b1, b2, b3, b4, b5⟩ := call_env E r q nd
      refine ⟨hn, B', args, b1, fun j hj => b3 j (by omega), by rw [b2]; exact b4, ?_⟩
      cases q2 : den args with
      | stuck => rw [q2] at P; exact P
      | err c outs =>
        rw [q2] at P
        exact fun G' H' Ca E' hc => P G' H' Ca (b5 outs none G' H' E').1 hc
      | ok s outs =>
        rw [q2] at P
        exact fun v G' H' E' => P v G' H' (b5 outs _ G' H' E').1 (b5 outs _ G' H' E').2
    · rw [if_neg nd] at P
      exact P.elim
def tCallV (C : VC) (n : Nat) (den : Den) (W : WX) (t : TA) : TE := fun σ H Q => t σ H fun vs H1 => vs.length = n ∧ spD C n den vs H1 Q (WE W σ)
theorem snd_call {C : VC} {n : Nat} (ha : SndA C W t ma) (hl : ∀ ρ os ρ', ma ρ = .ok os ρ' → os.length = n) : SndE C W (tCallS (spD C n den) (WE W) t) (mCall den ma) := by
  intro B ρ σ G H Q E P
  refine ha B ρ σ G H _ E ?_
  unfold mCall at P
  rw [mbind] at P
  cases q : ma ρ with
  | stuck => rw [q] at P; exact P
  | err c ρ' => rw [q] at P; exact P
  | ok os ρ1 =>
    rw [q, bind_ok] at P
    exact fun vs G1 H1 E1 S1 r1 => post_call (r1.length.symm.trans (hl _ _ _ q)) E1 r1 (P.same S1)
/-- f(e, ..) -/
theorem se_call (F : FV C X.prog X.w X.base k x st ps den) (tk : Takes X W) (hr : Room k X.A) (hg : Gl X x) (ha : SA C X W (e :: es) t ma)
    (hb : ∀ (kV doc pm : Value) (an : Option Addr) (cdv ct : Value) (us : List Value), us.length = ps.length → bindArgs (PySem.W.fnOf x x (defArgs st) (defBody st) (defScope st) .none kV doc pm an cdv ct) ⟨us, []⟩ = pure (ps.zip us))
    (hl : Len ma ps.length) (hK : X.K = C.K := by rfl) (hm : X.mg = C.mg := by rfl)
    (hdb : (x == ("__debug__" : Str)) = false := by decide) (he : starEach (e :: es) X.env = (false, eval e X.env) :: starEach es X.env := by rfl) (hpl : (backTo pos (starEach es X.env)).any (·.1) = false := by rfl) :
    SE C X W (.Call (.Name x p) (e :: es) [] pos) (tCallS (spD C ps.length den) (WE W) t) (mCall den ma) := by
  refine ⟨?_, snd_call ha.snd hl⟩
  obtain ⟨fd, G, kV, doc, pm, an, cdv, ct, e1⟩ := F.fn
  rw [← hK, ← hm] at G
  refine pe_callS G hr hg (by rw [hm, hK]; exact F.gl) (by rw [hK]; exact F.kp) (.all fun us h => ?_) (passAt tk) ha.pa hdb he hpl
  rw [e1]
  exact hb kV doc pm an cdv ct us h
end
end VS

/-! VS5: operators, comparisons, subscripts, built-in functions. -/
namespace VS
open PySem PySem.Spec PyProof.Rows L2

section
variable {X : Cx}
theorem opOr {f : Value → Value → Sem Value} {r r' : R2} (h : OpR X f r) (h' : OpR X f r') : OpR X f (fun x y H Q => r x y H Q ∨ r' x y H Q) := by
  intro pins s σ H x y v u Q I rx ry z
  rcases z with z | z
  · exact h pins s σ H x y v u Q I rx ry z
  · exact h' pins s σ H x y v u Q I rx ry z
theorem callOr {f : Value} {r r' : List V → Hp → VK → Prop} (h : CallR X f r) (h' : CallR X f r') : CallR X f (fun x H Q => r x H Q ∨ r' x H Q) := by
  intro pins s σ H x v Q I rx z
  rcases z with z | z
  · exact h pins s σ H x v Q I rx z
  · exact h' pins s σ H x v Q I rx z
end

theorem opK {X : Cx} {f : Value → Value → Sem Value} {r : PySem.W.Frag → R2} {K : PySem.W.Frag} (h : OpR X f (r X.K)) (e : X.K = K := by rfl) : OpR X f (r K) := by rw [← e]; exact h
theorem crK {X : Cx} {f : Value} {r : PySem.W.Frag → List V → Hp → VK → Prop} {K : PySem.W.Frag} (h : CallR X f (r X.K)) (e : X.K = K := by rfl) : CallR X f (r K) := by rw [← e]; exact h
theorem ixK {X : Cx} {r : PySem.W.Frag → R2} {K : PySem.W.Frag} (h : IxR X (r X.K)) (e : X.K = K := by rfl) : IxR X (r K) := by rw [← e]; exact h
theorem pgK {X : Cx} {tg : Expr} {g : PySem.W.Frag → TG} {K : PySem.W.Frag} (h : PG X tg (g X.K)) (e : X.K = K := by rfl) : PG X tg (g K) := by rw [← e]; exact h
section
variable {C : VC} {G H : Hp} {v : V}
theorem rs_int {i : Int} (r : RpS C G H v (.int i)) : v = .int i := by cases (show Rp C G v (.int i) from r); rfl
theorem rs_bl {b : Bool} (r : RpS C G H v (.bl b)) : v = .bl b := by cases (show Rp C G v (.bl b) from r); rfl
theorem rs_str {x : Str} (r : RpS C G H v (.str x)) : v = .str x := by cases (show Rp C G v (.str x) from r); rfl
theorem rs_non (r : RpS C G H v .non) : v = .non := by cases (show Rp C G v .non from r); rfl
theorem rs_tup {xs : List D} (r : RpS C G H v (.tup xs)) (S : Same G H) : ∃ a vs, v = .ref a ∧ SqT C.K H a vs ∧ RpL C G vs xs := by
  cases (show Rp C G v (.tup xs) from r) with
  | tup h q => exact ⟨_, _, rfl, VS.Same.sqt S h, q⟩
theorem rs_lst {xs : List D} (r : RpS C G H v (.lst xs)) : ∃ a vs, v = .ref a ∧ H a = some (.lst vs) ∧ RpL C G vs xs := r
theorem rs_dic {xs : List (Key × D)} (r : RpS C G H v (.dic xs)) : ∃ a vs, v = .ref a ∧ H a = some (.dK vs) ∧ RpK C G vs xs := r
end

/-! ### arithmetic -/
def dAdd : D → D → Option Rv
  | .int i, .int j => some (.sc (.int (i + j)))
  | .lst xs, .lst ys => if xs.length + ys.length ≤ sizeLine then some (.nl (xs ++ ys)) else none
  | .tup xs, .tup ys => if xs ≠ [] ∧ ys ≠ [] ∧ xs.length + ys.length ≤ sizeLine then some (.nt (xs ++ ys)) else none
  | .str x, .str y => if x.length + y.length ≤ sizeLine then some (.sc (.str (x ++ y))) else none
  | _, _ => none
def dSub : D → D → Option Rv
  | .int i, .int j => some (.sc (.int (i - j)))
  | _, _ => none
noncomputable def dMul : D → D → Option Rv
  | .int i, .int j => @ite _ ((-(2 ^ 64) < i ∧ i < 2 ^ 64) ∨ (-(2 ^ 64) < j ∧ j < 2 ^ 64)) (Classical.propDecidable _) (some (.sc (.int (i * j)))) none
  | _, _ => none
def dMod : D → D → Option Rv
  | .int i, .int j => if j ≠ 0 then some (.sc (.int (i.fmod j))) else none
  | _, _ => none
noncomputable def dDiv : D → D → Option Rv
  | .int i, .int j => @ite _ (j ≠ 0 ∧ j.natAbs < 1073741824) (Classical.propDecidable _) (some (.sc (.int (i.fdiv j)))) none
  | _, _ => none
noncomputable def dPow : D → D → Option Rv
  | .int i, .int j => @ite _ (0 ≤ j ∧ j ≤ 1000000 ∧ i.natAbs < 2 ^ 64) (Classical.propDecidable _) (some (.sc (.int (i ^ j.toNat)))) none
  | _, _ => none
def dCmp (p : Int → Int → Bool) : D → D → Option Rv
  | .int i, .int j => some (.sc (.bl (p i j)))
  | _, _ => none
abbrev rAdd (K : PySem.W.Frag) : R2 := fun x y H Q => rI0 (fun i j => V.int (i + j)) x y H Q ∨ rCat x y H Q ∨ rCatT K x y H Q ∨ (∃ i j, x = .str i ∧ y = .str j ∧ i.length + j.length ≤ sizeLine ∧ Q (.str (i ++ j)) H)
section
variable {X : Cx} {C : VC}
theorem op_addX : OpR X (binaryOp .Add) (rAdd X.K) := opOr op_add (opOr op_cat (opOr op_catT op_add_str))
theorem rule_add : RuleB C (rAdd C.K) dAdd := by
  intro G H v w x y r Q S h1 h2 e q
  cases x <;> cases y <;> (try (cases e; done))
  · rename_i i j
    cases e
    exact .inl ⟨i, j, rs_int h1, rs_int h2, q⟩
  · rename_i i j
    dsimp only [dAdd] at e
    split at e
    · rename_i hs
      cases e
      exact .inr (.inr (.inr ⟨i, j, rs_str h1, rs_str h2, hs, q⟩))
    · cases e
  · rename_i xs ys
    dsimp only [dAdd] at e
    split at e
    · rename_i hs
      cases e
      obtain ⟨a, vs, rfl, b1, b2⟩ := rs_tup h1 S
      obtain ⟨b, us, rfl, c1, c2⟩ := rs_tup h2 S
      have l1 := b2.length
      have l2 := c2.length
      refine .inr (.inr (.inl ⟨a, b, vs, us, rfl, rfl, b1, c1, fun z => ?_, by rw [l1, l2]; exact hs.2.2, fun z => ?_, fun _ p hp => q _ p (b2.app c2) hp⟩))
      · rw [z] at l1
        exact hs.1 (List.length_eq_zero_iff.mp l1.symm)
      · rw [z] at l2
        exact (hs.2.1 (List.length_eq_zero_iff.mp l2.symm)).elim
    · cases e
  · rename_i xs ys
    dsimp only [dAdd] at e
    split at e
    · rename_i hs
      cases e
      obtain ⟨a, vs, rfl, b1, b2⟩ := rs_lst h1
      obtain ⟨b, us, rfl, c1, c2⟩ := rs_lst h2
      exact .inr (.inl ⟨a, b, vs, us, rfl, rfl, b1, c1, by rw [b2.length, c2.length]; exact hs, fun p hp => q _ p (b2.app c2) hp⟩)
    · cases e
theorem rule_sub : RuleB C (rI0 fun i j => .int (i - j)) dSub := by
  intro G H v w x y r Q S h1 h2 e q
  cases x <;> cases y <;> (try (cases e; done))
  cases e
  exact ⟨_, _, rs_int h1, rs_int h2, q⟩
theorem rule_mul : RuleB C (rI CMul fun i j => .int (i * j)) dMul := by
  intro G H v w x y r Q S h1 h2 e q
  cases x <;> cases y <;> (try (cases e; done))
  dsimp only [dMul] at e
  split at e
  · rename_i hs
    cases e
    exact ⟨_, _, rs_int h1, rs_int h2, hs, q⟩
  · cases e
theorem rule_mod : RuleB C (rI (fun _ j => j ≠ 0) fun i j => .int (i.fmod j)) dMod := by
  intro G H v w x y r Q S h1 h2 e q
  cases x <;> cases y <;> (try (cases e; done))
  dsimp only [dMod] at e
  split at e
  · rename_i hs
    cases e
    exact ⟨_, _, rs_int h1, rs_int h2, hs, q⟩
  · cases e
theorem rule_div : RuleB C (rI CDivN fun i j => .int (i.fdiv j)) dDiv := by
  intro G H v w x y r Q S h1 h2 e q
  cases x <;> cases y <;> (try (cases e; done))
  dsimp only [dDiv] at e
  split at e
  · rename_i hs
    cases e
    exact ⟨_, _, rs_int h1, rs_int h2, hs, q⟩
  · cases e
theorem rule_pow : RuleB C (rI CPow fun i j => .int (i ^ j.toNat)) dPow := by
  intro G H v w x y r Q S h1 h2 e q
  cases x <;> cases y <;> (try (cases e; done))
  dsimp only [dPow] at e
  split at e
  · rename_i hs
    cases e
    exact ⟨_, _, rs_int h1, rs_int h2, hs, q⟩
  · cases e
theorem rule_cmp {p : Int → Int → Bool} : RuleB C (rI0 fun i j => .bl (p i j)) (dCmp p) := by
  intro G H v w x y r Q S h1 h2 e q
  cases x <;> cases y <;> (try (cases e; done))
  cases e
  exact ⟨_, _, rs_int h1, rs_int h2, q⟩
end
abbrev dLt := dCmp fun i j => decide (i < j)
abbrev dLe := dCmp fun i j => decide (i ≤ j)
abbrev dGt := dCmp fun i j => decide (j < i)
abbrev dGe := dCmp fun i j => decide (j ≤ i)

/-! ### is -/
def isNon : D → Bool
  | .non => true
  | _ => false
def dIs (neg : Bool) : D → D → Option Rv
  | x, .non => some (.sc (.bl (neg ^^ isNon x)))
  | .bl a, .bl b => some (.sc (.bl (neg ^^ decide (a = b))))
  | _, _ => none
abbrev rIs : R2 := fun x y H Q => (y = .non ∧ Q (.bl (decide (x = .non))) H) ∨ rIsB x y H Q
abbrev rIsNot : R2 := fun x y H Q => (y = .non ∧ Q (.bl (!decide (x = .non))) H) ∨ rNotB x y H Q
section
variable {X : Cx} {C : VC} {G H : Hp} {v : V} {x : D}
theorem rs_isNon (r : RpS C G H v x) : decide (v = .non) = isNon x := by
  cases x with
  | non => rw [rs_non r]; rfl
  | bl b => rw [rs_bl r]; rfl
  | int b => rw [rs_int r]; rfl
  | str b => rw [rs_str r]; rfl
  | lst b => obtain ⟨a, vs, rfl, _⟩ := rs_lst r; rfl
  | dic b => obtain ⟨a, vs, rfl, _⟩ := rs_dic r; rfl
  | tup b => cases (show Rp C G v (.tup b) from r); rfl
  | ins a b =>
    obtain ⟨_, _, _, _, rfl, _⟩ := r
    rfl
  | exc a => cases (show Rp C G v (.exc a) from r); rfl
theorem op_isX : OpR X (compareOp .Is) rIs := opOr op_isN op_isBl
theorem op_isNotX : OpR X (compareOp .IsNot) rIsNot := opOr op_notN op_notBl
theorem rule_is : RuleB C rIs (dIs false) := by
  intro G H v w x y r Q S h1 h2 e q
  cases y with
  | non =>
    have e : some (Rv.sc (.bl (false ^^ isNon x))) = some r := by cases x <;> exact e
    cases e
    refine .inl ⟨rs_non h2, ?_⟩
    rw [rs_isNon h1]
    rw [Bool.false_xor] at q
    exact q
  | bl b =>
    cases x with
    | bl a =>
      cases e
      rw [Bool.false_xor] at q
      exact .inr ⟨a, b, rs_bl h1, rs_bl h2, q⟩
    | _ => cases e
  | _ => cases x <;> cases e
theorem rule_isNot : RuleB C rIsNot (dIs true) := by
  intro G H v w x y r Q S h1 h2 e q
  cases y with
  | non =>
    have e : some (Rv.sc (.bl (true ^^ isNon x))) = some r := by cases x <;> exact e
    cases e
    refine .inl ⟨rs_non h2, ?_⟩
    rw [rs_isNon h1]
    rw [Bool.true_xor] at q
    exact q
  | bl b =>
    cases x with
    | bl a =>
      cases e
      rw [Bool.true_xor] at q
      exact .inr ⟨a, b, rs_bl h1, rs_bl h2, q⟩
    | _ => cases e
  | _ => cases x <;> cases e
end

/-! ### ==, in -/
mutual
def toPy : D → Option PyData
  | .non => some .none
  | .bl b => some (.bool b)
  | .int i => some (.int i)
  | .str x => some (.str x)
  | .tup xs => (toPys xs).map .tuple
  | .lst xs => (toPys xs).map .list
  | _ => none
def toPys : List D → Option (List PyData)
  | [] => some []
  | x :: xs => (toPy x).bind fun d => (toPys xs).map (d :: ·)
end
section
variable {C : VC} {H : Hp}
mutual
theorem dp_of : ∀ {v : V} {x : D} {d : PyData}, Rp C H v x → toPy x = some d → Dp C.K H v d
  | _, _, _, .non, h => by simp only [toPy] at h; cases h; exact .non
  | _, _, _, .bl b, h => by simp only [toPy] at h; cases h; exact .bl b
  | _, _, _, .int b, h => by simp only [toPy] at h; cases h; exact .int b
  | _, _, _, .str b, h => by simp only [toPy] at h; cases h; exact .str b
  | _, _, _, .tup (ds := ds) a r, h => by
    simp only [toPy] at h
    cases q : toPys ds with
    | none => rw [q] at h; cases h
    | some es =>
      rw [q] at h
      cases h
      exact .tup a (dp_ofs r q)
  | _, _, _, .lst (ds := ds) a r, h => by
    simp only [toPy] at h
    cases q : toPys ds with
    | none => rw [q] at h; cases h
    | some es =>
      rw [q] at h
      cases h
      exact .lst (.of a) (dp_ofs r q)
  | _, _, _, .dic a r, h => by simp only [toPy] at h; cases h
  | _, _, _, .ins a b c r, h => by simp only [toPy] at h; cases h
  | _, _, _, .exc a r, h => by simp only [toPy] at h; cases h
theorem dp_ofs : ∀ {vs : List V} {xs : List D} {ds : List PyData}, RpL C H vs xs → toPys xs = some ds → DpAll C.K H vs ds
  | _, _, _, .nil, h => by simp only [toPys] at h; cases h; exact .nil
  | _, _, _, .cons (d := d) (ds := ds) r t, h => by
    simp only [toPys] at h
    cases q : toPy d with
    | none => rw [q] at h; cases h
    | some e =>
      rw [q] at h
      have h : (toPys ds).map (e :: ·) = some _ := h
      cases q2 : toPys ds with
      | none => rw [q2] at h; cases h
      | some es =>
        rw [q2] at h
        cases h
        exact .cons (dp_of r q) (dp_ofs t q2)
end
end
/-- the data of x, if it may be compared -/
def cmpD (x : D) : Option PyData := (toPy x).bind fun d => if SeqAt.shaped d = true then some d else none
theorem cmpD_some {x : D} {d : PyData} (h : cmpD x = some d) : toPy x = some d ∧ SeqAt.shaped d = true := by
  unfold cmpD at h
  cases q : toPy x with
  | none => rw [q] at h; cases h
  | some e =>
    rw [q] at h
    have h : (if SeqAt.shaped e = true then some e else none) = some d := h
    by_cases hs : SeqAt.shaped e = true
    · rw [if_pos hs] at h
      cases h
      exact ⟨rfl, hs⟩
    · rw [if_neg hs] at h
      cases h
def dEq (neg : Bool) (x y : D) : Option Rv := (cmpD x).bind fun d => (cmpD y).bind fun e => some (.sc (.bl (neg ^^ PyData.eqv d e)))
def dIn (neg : Bool) : D → D → Option Rv
  | x, .lst ys => (cmpD x).bind fun d => (cmpD (.lst ys)).bind fun e => match e with
    | .list es => some (.sc (.bl (neg ^^ es.any fun z => PyData.eqv z d)))
    | _ => none
  | _, _ => none
section
variable {X : Cx} {C : VC} {G H : Hp} {v : V} {x : D}
theorem rule_eqG {rr : R2} (neg : Bool) (hrr : ∀ x y H Q d e, Dp C.K H x d → Dp C.K H y e → SeqAt.shaped d = true → SeqAt.shaped e = true → Q (.bl (neg ^^ PyData.eqv d e)) H → rr x y H Q) : RuleB C rr (dEq neg) := by
  intro G H v w x y r Q S h1 h2 e q
  unfold dEq at e
  cases q1 : cmpD x with
  | none => rw [q1] at e; cases e
  | some d =>
    rw [q1] at e
    cases q2 : cmpD y with
    | none => rw [q2] at e; cases e
    | some d' =>
      rw [q2] at e
      cases e
      obtain ⟨a1, a2⟩ := cmpD_some q1
      obtain ⟨b1, b2⟩ := cmpD_some q2
      exact hrr v w H Q d d' (dp_of (h1.toH S) a1) (dp_of (h2.toH S) b1) a2 b2 q
theorem rule_eq : RuleB C (rEqD C.K) (dEq false) := rule_eqG false fun x y H Q d e h1 h2 h3 h4 q => ⟨d, e, h1, h2, h3, h4, by rw [Bool.false_xor] at q; exact q⟩
theorem rule_ne : RuleB C (rNeD C.K) (dEq true) := rule_eqG true fun x y H Q d e h1 h2 h3 h4 q => ⟨d, e, h1, h2, h3, h4, by rw [Bool.true_xor] at q; exact q⟩
theorem rule_inG {rr : R2} (neg : Bool) (hrr : ∀ x y H Q d es, Dp C.K H x d → Dp C.K H y (.list es) → SeqAt.shaped d = true → SeqAt.shaped (.list es) = true → Q (.bl (neg ^^ es.any fun z => PyData.eqv z d)) H → rr x y H Q) : RuleB C rr (dIn neg) := by
  intro G H v w x y r Q S h1 h2 e q
  cases y with
  | lst ys =>
    have e : ((cmpD x).bind fun d => (cmpD (.lst ys)).bind fun e => match e with
      | .list es => some (Rv.sc (.bl (neg ^^ es.any fun z => PyData.eqv z d)))
      | _ => none) = some r := by cases x <;> exact e
    cases q1 : cmpD x with
    | none => rw [q1] at e; cases e
    | some d =>
      rw [q1] at e
      cases q2 : cmpD (.lst ys) with
      | none => rw [q2] at e; cases e
      | some d' =>
        rw [q2] at e
        obtain ⟨a1, a2⟩ := cmpD_some q1
        obtain ⟨b1, b2⟩ := cmpD_some q2
        cases d' with
        | list es =>
          cases e
          exact hrr v w H Q d es (dp_of (h1.toH S) a1) (dp_of (h2.toH S) b1) a2 b2 q
        | _ => cases e
  | _ => cases x <;> cases e
theorem rule_in : RuleB C (rInD C.K) (dIn false) := rule_inG false fun x y H Q d e h1 h2 h3 h4 q => ⟨d, e, h1, h2, h3, h4, by rw [Bool.false_xor] at q; exact q⟩
theorem rule_notIn : RuleB C (rNotInD C.K) (dIn true) := rule_inG true fun x y H Q d e h1 h2 h3 h4 q => ⟨d, e, h1, h2, h3, h4, by rw [Bool.true_xor] at q; exact q⟩
end

/-! ### subscripts -/
def dIx : D → D → Option Rv
  | .lst xs, .int i => (atI xs i).map .it
  | .tup xs, .int i => (atI xs i).map .it
  | .str z, .int i => if z.length ≤ sizeLine then (atI z.cps.toList i).map fun c => .sc (.str ⟨#[c]⟩) else none
  | _, _ => none
section
variable {C : VC} {G H : Hp}
theorem RpL.at {vs : List V} {xs : List D} {i : Int} {x : D} (r : RpL C G vs xs) (h : atI xs i = some x) : ∃ v, atI vs i = some v ∧ Rp C G v x := by
  unfold atI at h ⊢
  rw [r.length]
  cases q : ixN xs.length i with
  | none => rw [q] at h; cases h
  | some j =>
    rw [q] at h
    exact r.get h
theorem rule_ix : RuleB C (rIx C.K) dIx := by
  intro G H v w x y r Q S h1 h2 e q
  cases y with
  | int i =>
    have ew := rs_int h2
    subst ew
    cases x with
    | lst xs =>
      obtain ⟨a, vs, rfl, b1, b2⟩ := rs_lst h1
      have e : (atI xs i).map Rv.it = some r := e
      cases q2 : atI xs i with
      | none => rw [q2] at e; cases e
      | some x =>
        rw [q2] at e
        cases e
        obtain ⟨u, c1, c2⟩ := b2.at q2
        exact .inl ⟨a, vs, i, u, rfl, rfl, .of b1, c1, q u c2⟩
    | tup xs =>
      obtain ⟨a, vs, rfl, b1, b2⟩ := rs_tup h1 S
      have e : (atI xs i).map Rv.it = some r := e
      cases q2 : atI xs i with
      | none => rw [q2] at e; cases e
      | some x =>
        rw [q2] at e
        cases e
        obtain ⟨u, c1, c2⟩ := b2.at q2
        exact .inr (.inl ⟨a, vs, i, u, rfl, rfl, b1, c1, q u c2⟩)
    | str z =>
      have ev := rs_str h1
      subst ev
      have e : (if z.length ≤ sizeLine then (atI z.cps.toList i).map fun c => Rv.sc (.str ⟨#[c]⟩) else none) = some r := e
      split at e
      · rename_i hz
        cases q2 : atI z.cps.toList i with
        | none => rw [q2] at e; cases e
        | some c =>
          rw [q2] at e
          cases e
          exact .inr (.inr ⟨z, i, c, rfl, rfl, hz, q2, q⟩)
      · cases e
    | _ => cases e
  | _ => cases x <;> cases e
end

/-! ### built-in functions -/
inductive RpSL (C : VC) (G H : Hp) : List V → List D → Prop
  | nil : RpSL C G H [] []
  | cons {v : V} {x : D} {vs : List V} {xs : List D} : RpS C G H v x → RpSL C G H vs xs → RpSL C G H (v :: vs) (x :: xs)
def lookAll (ρ : En) : List Opd → Option (List D)
  | [] => some []
  | o :: os => (vwO ρ o).bind fun x => (lookAll ρ os).map (x :: ·)
@[simp] theorem lookAll_nil (ρ : En) : lookAll ρ [] = some [] := (rfl)
@[simp] theorem lookAll_cons (ρ : En) (o : Opd) (os : List Opd) : lookAll ρ (o :: os) = (vwO ρ o).bind fun x => (lookAll ρ os).map (x :: ·) := (rfl)
/-- a function of the arguments' data -/
def mFn (f : List D → Option Rv) (a : M (List Opd)) : M Ref := M.bind a fun os ρ => (M.opt ((lookAll ρ os).bind f)).bind (fun r => M.ret r.ref) ρ
def RuleC (C : VC) (rr : List V → Hp → VK → Prop) (f : List D → Option Rv) : Prop := ∀ G H vs xs r Q, Same G H → RpSL C G H vs xs → f xs = some r → Fin C G H Q r → rr vs H Q
section
variable {C : VC} {X : Cx} {W : WX} {C : VC} {B : Bd} {ρ : En} {σ : L2.St} {G H : Hp} {e : Expr} {es : List Expr} {t : TA} {ma : M (List Opd)} {x : Str} {p pos : Pos} {id T' : String} {rr : List V → Hp → VK → Prop} {f : List D → Option Rv}
theorem lookAll_rp (E : EnvR C B ρ σ none G H) : ∀ {os : List Opd} {vs : List V} {xs : List D}, OpdsR C σ G os vs → lookAll ρ os = some xs → RpSL C G H vs xs
  | _, _, _, .nil, h => by cases h; exact .nil
  | _, _, _, .cons (o := o) (os := os) r t, h => by
    unfold lookAll at h
    cases q : vwO ρ o with
    | none => rw [q] at h; cases h
    | some y =>
      rw [q] at h
      have h : (lookAll ρ os).map (y :: ·) = some _ := h
      cases q2 : lookAll ρ os with
      | none => rw [q2] at h; cases h
      | some ys =>
        rw [q2] at h
        cases h
        exact .cons (vw_rp E r q) (lookAll_rp E t q2)
theorem snd_fn (hr : RuleC C rr f) (ha : SndA C W t ma) : SndE C W (tCB rr t) (mFn f ma) := by
  intro B ρ σ G H Q E P
  refine ha B ρ σ G H _ E ?_
  unfold mFn at P
  rw [mbind] at P
  cases q : ma ρ with
  | stuck => rw [q] at P; exact P
  | err c ρ' => rw [q] at P; exact P
  | ok os ρ1 =>
    rw [q, bind_ok] at P
    intro vs G1 H1 E1 S1 r1
    cases q2 : lookAll ρ1 os with
    | none => rw [q2] at P; exact P.elim
    | some xs =>
      rw [q2] at P
      cases q3 : f xs with
      | none =>
        rw [show (some xs).bind f = none from q3] at P
        exact P.elim
      | some r =>
        rw [show (some xs).bind f = some r from q3] at P
        exact hr G1 H1 vs xs r Q E1.fr.gh (lookAll_rp E1 r1 q2) q3 (fin_of E1 S1 P)
theorem se_fnB (hc : CallR X (.builtin id) rr) (hr : RuleC C rr f) (hg : Gl X x) (hm : X.mg x = none) (hv : bootBuiltins x = some (.builtin id)) (ha : SA C X W (e :: es) t ma)
    (hn : x ≠ "__name__" := by decide) (hdb : (x == ("__debug__" : Str)) = false := by decide) (he : starEach (e :: es) X.env = (false, eval e X.env) :: starEach es X.env := by rfl) (hpl : (backTo pos (starEach es X.env)).any (·.1) = false := by rfl) :
    SE C X W (.Call (.Name x p) (e :: es) [] pos) (tCB rr t) (mFn f ma) := ⟨pe_callB hc hg hm hv ha.pa hn hdb he hpl, snd_fn hr ha.snd⟩
theorem se_fnT (hc : CallR X (.type T') rr) (hr : RuleC C rr f) (hg : Gl X x) (hm : X.mg x = none) (hv : bootBuiltins x = some (.type T')) (ha : SA C X W (e :: es) t ma)
    (hn : x ≠ "__name__" := by decide) (hdb : (x == ("__debug__" : Str)) = false := by decide) (he : starEach (e :: es) X.env = (false, eval e X.env) :: starEach es X.env := by rfl) (hpl : (backTo pos (starEach es X.env)).any (·.1) = false := by rfl) :
    SE C X W (.Call (.Name x p) (e :: es) [] pos) (tCB rr t) (mFn f ma) := ⟨pe_callTy hc hg hm hv ha.pa hn hdb he hpl, snd_fn hr ha.snd⟩
end
def fLen : List D → Option Rv
  | [.lst xs] => some (.sc (.int xs.length))
  | [.tup xs] => some (.sc (.int xs.length))
  | [.dic xs] => some (.sc (.int xs.length))
  | [.str z] => if z.length ≤ sizeLine then some (.sc (.int z.length)) else none
  | _ => none
def fAbs : List D → Option Rv
  | [.int i] => some (.sc (.int (if i < 0 then -i else i)))
  | _ => none
def fMax : List D → Option Rv
  | [.int i, .int j] => some (.sc (.int (if j > i then j else i)))
  | _ => none
def fMin : List D → Option Rv
  | [.int i, .int j] => some (.sc (.int (if j < i then j else i)))
  | _ => none
def fInt : List D → Option Rv
  | [.int i] => some (.sc (.int i))
  | [.bl k] => some (.sc (.int (if k then 1 else 0)))
  | _ => none
def fList : List D → Option Rv
  | [.lst xs] => some (.nl xs)
  | [.tup xs] => some (.nl xs)
  | _ => none
def fTuple : List D → Option Rv
  | [.lst xs] => some (.nt xs)
  | [.tup xs] => some (.it (.tup xs))
  | _ => none
def bools : List D → Option (List Bool)
  | [] => some []
  | .bl b :: xs => (bools xs).map (b :: ·)
  | _ => none
def fAll : List D → Option Rv
  | [.lst xs] => (bools xs).map fun bs => .sc (.bl (bs.all id))
  | _ => none
def fAny : List D → Option Rv
  | [.lst xs] => (bools xs).map fun bs => .sc (.bl (bs.any id))
  | _ => none
def fStr : List D → Option Rv
  | [.int i] => if i.natAbs.log2 < 1920 then some (.sc (.str (toString i))) else none
  | _ => none
abbrev rLenX (K : PySem.W.Frag) : List V → Hp → VK → Prop := fun xs H Q => (∃ p ys, xs = [.ref p] ∧ (SqL K H p ys ∨ SqT K H p ys) ∧ Q (.int ys.length) H) ∨ (∃ a kvs, xs = [V.ref a] ∧ H a = some (.dK kvs) ∧ Q (.int kvs.length) H) ∨ (∃ z, xs = [.str z] ∧ z.length ≤ sizeLine ∧ Q (.int z.length) H)
section
variable {X : Cx} {C : VC} {G H : Hp}
theorem RpSL.one {vs : List V} {x : D} (r : RpSL C G H vs [x]) : ∃ v, vs = [v] ∧ RpS C G H v x := by
  cases r with
  | cons a t => cases t; exact ⟨_, rfl, a⟩
theorem RpSL.two {vs : List V} {x y : D} (r : RpSL C G H vs [x, y]) : ∃ v w, vs = [v, w] ∧ RpS C G H v x ∧ RpS C G H w y := by
  cases r with
  | cons a t =>
    cases t with
    | cons b t => cases t; exact ⟨_, _, rfl, a, b⟩
theorem RpK.length : ∀ {v : List (Key × V)} {d : List (Key × D)}, RpK C G v d → v.length = d.length
  | _, _, .nil => rfl
  | _, _, .cons _ t => congrArg Nat.succ (RpK.length t)
theorem cr_lenX : CallR X (.builtin "len") (rLenX X.K) := callOr call_len_seq (callOr call_lenD call_len_str)
theorem rule_len : RuleC C (rLenX C.K) fLen := by
  intro G H vs xs r Q S h e q
  unfold fLen at e
  split at e
  · obtain ⟨v, rfl, hv⟩ := h.one
    obtain ⟨a, us, rfl, b1, b2⟩ := rs_lst hv
    cases e
    refine .inl ⟨a, us, rfl, .inl (.of b1), ?_⟩
    rw [b2.length]
    exact q
  · obtain ⟨v, rfl, hv⟩ := h.one
    obtain ⟨a, us, rfl, b1, b2⟩ := rs_tup hv S
    cases e
    refine .inl ⟨a, us, rfl, .inr b1, ?_⟩
    rw [b2.length]
    exact q
  · obtain ⟨v, rfl, hv⟩ := h.one
    obtain ⟨a, us, rfl, b1, b2⟩ := rs_dic hv
    cases e
    refine .inr (.inl ⟨a, us, rfl, b1, ?_⟩)
    rw [b2.length]
    exact q
  · obtain ⟨v, rfl, hv⟩ := h.one
    have ev := rs_str hv
    subst ev
    split at e
    · rename_i hz
      cases e
      exact .inr (.inr ⟨_, rfl, hz, q⟩)
    · cases e
  · cases e
theorem rule_abs : RuleC C (fun xs H Q => ∃ i, xs = [.int i] ∧ Q (.int (if i < 0 then -i else i)) H) fAbs := by
  intro G H vs xs r Q S h e q
  unfold fAbs at e
  split at e
  · obtain ⟨v, rfl, hv⟩ := h.one
    cases e
    rw [rs_int hv]
    exact ⟨_, rfl, q⟩
  · cases e
theorem rule_max : RuleC C (fun xs H Q => ∃ i j, xs = [.int i, .int j] ∧ Q (.int (if j > i then j else i)) H) fMax := by
  intro G H vs xs r Q S h e q
  unfold fMax at e
  split at e
  · obtain ⟨v, w, rfl, h1, h2⟩ := h.two
    cases e
    rw [rs_int h1, rs_int h2]
    exact ⟨_, _, rfl, q⟩
  · cases e
theorem rule_min : RuleC C (fun xs H Q => ∃ i j, xs = [.int i, .int j] ∧ Q (.int (if j < i then j else i)) H) fMin := by
  intro G H vs xs r Q S h e q
  unfold fMin at e
  split at e
  · obtain ⟨v, w, rfl, h1, h2⟩ := h.two
    cases e
    rw [rs_int h1, rs_int h2]
    exact ⟨_, _, rfl, q⟩
  · cases e
theorem rule_int : RuleC C (fun xs H Q => (∃ i, xs = [.int i] ∧ Q (.int i) H) ∨ ∃ k, xs = [.bl k] ∧ Q (.int (if k then 1 else 0)) H) fInt := by
  intro G H vs xs r Q S h e q
  unfold fInt at e
  split at e
  · obtain ⟨v, rfl, hv⟩ := h.one
    cases e
    rw [rs_int hv]
    exact .inl ⟨_, rfl, q⟩
  · obtain ⟨v, rfl, hv⟩ := h.one
    cases e
    rw [rs_bl hv]
    exact .inr ⟨_, rfl, q⟩
  · cases e
theorem rule_list : RuleC C (fun xs H Q => ∃ p ys, xs = [.ref p] ∧ (SqL C.K H p ys ∨ SqT C.K H p ys) ∧ ∀ l, H l = none → Q (.ref l) (upd H l (.lst ys))) fList := by
  intro G H vs xs r Q S h e q
  unfold fList at e
  split at e
  · obtain ⟨v, rfl, hv⟩ := h.one
    obtain ⟨a, us, rfl, b1, b2⟩ := rs_lst hv
    cases e
    exact ⟨a, us, rfl, .inl (.of b1), fun l hl => q us l b2 hl⟩
  · obtain ⟨v, rfl, hv⟩ := h.one
    obtain ⟨a, us, rfl, b1, b2⟩ := rs_tup hv S
    cases e
    exact ⟨a, us, rfl, .inr b1, fun l hl => q us l b2 hl⟩
  · cases e
theorem rule_tuple : RuleC C (fun xs H Q => ∃ p ys, xs = [.ref p] ∧ ((SqL C.K H p ys ∧ ∀ l, H l = none → Q (.ref l) (upd H l (.tup ys))) ∨ (SqT C.K H p ys ∧ Q (.ref p) H))) fTuple := by
  intro G H vs xs r Q S h e q
  unfold fTuple at e
  split at e
  · obtain ⟨v, rfl, hv⟩ := h.one
    obtain ⟨a, us, rfl, b1, b2⟩ := rs_lst hv
    cases e
    exact ⟨a, us, rfl, .inl ⟨.of b1, fun l hl => q us l b2 hl⟩⟩
  · obtain ⟨v, rfl, hv⟩ := h.one
    obtain ⟨a, us, rfl, b1, b2⟩ := rs_tup hv S
    cases e
    exact ⟨a, us, rfl, .inr ⟨b1, q _ hv⟩⟩
  · cases e
theorem rpl_bools : ∀ {vs : List V} {xs : List D} {bs : List Bool}, RpL C G vs xs → bools xs = some bs → vs = bs.map V.bl
  | _, _, _, .nil, h => by cases h; rfl
  | _, _, _, .cons (d := d) (ds := ds) r t, h => by
    cases d with
    | bl b =>
      have h : (bools ds).map (b :: ·) = some _ := h
      cases q : bools ds with
      | none => rw [q] at h; cases h
      | some cs =>
        rw [q] at h
        cases h
        cases r
        rw [rpl_bools t q]
        rfl
    | _ => cases h
theorem rule_all : RuleC C (rAll C.K) fAll := by
  intro G H vs xs r Q S h e q
  unfold fAll at e
  split at e
  · obtain ⟨v, rfl, hv⟩ := h.one
    obtain ⟨a, us, rfl, b1, b2⟩ := rs_lst hv
    rename_i ys
    cases q2 : bools ys with
    | none => rw [q2] at e; cases e
    | some bs =>
      rw [q2] at e
      cases e
      refine ⟨a, bs, rfl, ?_, q⟩
      rw [← rpl_bools b2 q2]
      exact .of b1
  · cases e
theorem rule_any : RuleC C (rAny C.K) fAny := by
  intro G H vs xs r Q S h e q
  unfold fAny at e
  split at e
  · obtain ⟨v, rfl, hv⟩ := h.one
    obtain ⟨a, us, rfl, b1, b2⟩ := rs_lst hv
    rename_i ys
    cases q2 : bools ys with
    | none => rw [q2] at e; cases e
    | some bs =>
      rw [q2] at e
      cases e
      refine ⟨a, bs, rfl, ?_, q⟩
      rw [← rpl_bools b2 q2]
      exact .of b1
  · cases e
theorem rule_str : RuleC C (fun xs H Q => ∃ i, xs = [.int i] ∧ i.natAbs.log2 < 1920 ∧ Q (.str (toString i)) H) fStr := by
  intro G H vs xs r Q S h e q
  unfold fStr at e
  split at e
  · obtain ⟨v, rfl, hv⟩ := h.one
    split at e
    · rename_i hz
      cases e
      rw [rs_int hv]
      exact ⟨_, rfl, hz, q⟩
    · cases e
  · cases e
end
/-! ### -x -/
def dNeg : D → Option Rv
  | .int i => some (.sc (.int (-i)))
  | _ => none
def mUn (f : D → Option Rv) (a : M Ref) : M Ref := M.bind (val a) fun x => M.bind (M.opt (f x)) fun r => M.ret r.ref
section
variable {C : VC} {X : Cx} {W : WX} {e : Expr} {te : TE} {me : M Ref} {pos : Pos}
theorem snd_neg {C : VC} (h : SndE C W te me) : SndE C W (tUn (rU fun i => .int (-i)) te) (mUn dNeg me) := by
  intro B ρ σ G H Q E P
  refine h.v B ρ σ G H _ E ?_
  unfold mUn at P
  rw [mbind] at P
  cases q : val me ρ with
  | stuck => rw [q] at P; exact P
  | err c ρ' => rw [q] at P; exact P
  | ok x ρ1 =>
    rw [q, bind_ok, mbind] at P
    intro v G1 H1 E1 S1 r1
    cases x with
    | int i => exact ⟨i, rs_int r1, P _ G1 H1 (E1.res (Sc.rp (.int (-i)))) S1⟩
    | _ => exact P.elim
theorem se_neg (h : SE C X W e te me) : SE C X W (.UnaryOp .USub e pos) (tUn (rU fun i => .int (-i)) te) (mUn dNeg me) := ⟨pe_un un_neg h.pe, snd_neg h.snd⟩
end
end VS

/-! VS6: displays, targets, for loops, list comprehensions. -/
namespace VS
open PySem PySem.Spec PyProof.Rows L2

/-! ### a thing held aside -/
theorem FR.frame {C : VC} {B : Bd} {vw : Option Nat → Slot} {s : SV} {v : V} {G H : Hp} {j0 : Option Nat} (F : FR C B vw G H) (hx : vw j0 = (some s, some v)) :
    ∃ B' : Bd, B'.pv = B.pv ∧ FR C B' (upS vw j0 (none, none)) G H ∧ ∀ vw2 G2 H2, FR C B' vw2 G2 H2 → Same G G2 ∧ ∀ i, FR C B (upS vw2 i (some s, some v)) G2 H2 := by
  obtain ⟨fp, h1, h2, h3⟩ := F.ex
  let S' : Addr → Prop := fun p => ∃ i, i ≠ j0 ∧ p ∈ fp i
  let B' : Bd := ⟨H, G, S', B.pv⟩
  have E0 : FR C B' (upS vw j0 (none, none)) G H := by
    refine ⟨⟨fun i => if i = j0 then [] else fp i, fun i => ?_, fun i j p hij hp => ?_, fun i p hp => ?_⟩, F.gh, Same.refl _, fun a h => .inl h, fun b o e _ _ => e, F.nt, F.tb⟩
    · dsimp only
      by_cases hi : i = j0
      · rw [hi, upS_same, if_pos rfl]
        rfl
      · rw [upS_ne hi, if_neg hi]
        exact h1 i
    · dsimp only at hp ⊢
      by_cases hi : i = j0
      · rw [if_pos hi] at hp; cases hp
      · rw [if_neg hi] at hp
        by_cases hj : j = j0
        · rw [if_pos hj]; exact List.not_mem_nil
        · rw [if_neg hj]; exact h2 _ _ p hij hp
    · dsimp only at hp
      by_cases hi : i = j0
      · rw [if_pos hi] at hp; cases hp
      · rw [if_neg hi] at hp
        exact ⟨(h3 _ p hp).1, fun _ _ _ => ⟨i, hi, hp⟩⟩
  refine ⟨B', rfl, E0, fun vw2 G2 H2 E2 => ?_⟩
  obtain ⟨fz, k1, k2, k3⟩ := E2.ex
  have notS : ∀ p, p ∈ fp j0 → ¬ S' p := fun p hp ⟨i, hn, hi⟩ => h2 j0 i p (Ne.symm hn) hp hi
  have trk : ∀ p, p ∈ fp j0 → ∃ u, H p = some u ∧ Plain u := fun p hp => (h1 j0).there hp
  have keepO : ∀ p, p ∈ fp j0 → H2 p = H p := fun p hp => by
    obtain ⟨u, hu, pl⟩ := trk p hp
    rw [E2.kp p u hu pl.1 (notS p hp), hu]
  have old : ∀ p, p ∈ fp j0 → ∀ j, p ∉ fz j := fun p hp j hj => by
    obtain ⟨u, hu, pl⟩ := trk p hp
    exact notS p hp ((k3 j p hj).2 u hu pl.1)
  have SG : Same G G2 := E2.g0
  have frOf : ∀ {p}, B'.Fr p → B.Fr p := fun {p} z o e n => by
    by_cases hs : B.S p
    · exact hs
    · obtain ⟨i', _, hp'⟩ := z o (F.kp p o e n hs) n
      exact (h3 _ p hp').2 o e n
  refine ⟨SG, fun i0 => ⟨⟨fun i => if i = i0 then fp j0 else fz i, fun i => ?_, fun i j p hij hp => ?_, fun i p hp => ?_⟩, E2.gh, F.g0.trans SG, fun a ha => ?_, fun b o e n ns => ?_, E2.nt, E2.tb⟩⟩
  · dsimp only
    by_cases hi : i = i0
    · rw [hi, upS_same, if_pos rfl]
      have z := h1 j0
      rw [hx] at z
      exact z.mono SG fun p hp => keepO p hp
    · rw [upS_ne hi, if_neg hi]
      exact k1 i
  · dsimp only at hp ⊢
    by_cases hi : i = i0
    · rw [if_pos hi] at hp
      rw [if_neg (fun z => hij (hi.trans z.symm))]
      exact old p hp j
    · rw [if_neg hi] at hp
      by_cases hj : j = i0
      · rw [if_pos hj]; exact fun z => old p z i hp
      · rw [if_neg hj]; exact k2 _ _ p hij hp
  · dsimp only at hp
    by_cases hi : i = i0
    · rw [if_pos hi] at hp
      refine ⟨?_, (h3 _ p hp).2⟩
      cases q : G2 p with
      | none => rfl
      | some u =>
        exfalso
        obtain ⟨u', hu, pl⟩ := trk p hp
        rcases E2.gf p (by rw [q]; simp) with z | z
        · exact z (h3 _ p hp).1
        · exact notS p hp (z u' hu pl.1)
    · rw [if_neg hi] at hp
      exact ⟨(k3 _ p hp).1, frOf (k3 _ p hp).2⟩
  · rcases E2.gf a ha with z | z
    · exact F.gf a z
    · exact .inr (frOf z)
  · exact E2.kp b o (F.kp b o e n ns) n fun ⟨i', _, hi'⟩ => ns ((h3 _ b hi').2 o e n)
theorem EnvR.frame {C : VC} {B : Bd} {ρ : En} {σ : L2.St} {s : SV} {v : V} {G H : Hp} (E : EnvR C B ρ σ (some (s, v)) G H) :
    ∃ B' : Bd, B'.pv = B.pv ∧ EnvR C B' ρ σ none G H ∧ (∀ ρ' σ' G2 H2, EnvR C B' ρ' σ' none G2 H2 → EnvR C B ρ' σ' (some (s, v)) G2 H2 ∧ Same G G2) ∧
      ∀ ρ' σ' x G2 H2 i, i < ρ'.length → EnvR C B' ρ' σ' x G2 H2 → EnvR C B (ρ'.set i (some s)) (σ'.set i (some v)) x G2 H2 ∧ Same G G2 := by
  obtain ⟨B', b1, b2, b3⟩ := E.fr.frame (j0 := none) rfl
  refine ⟨B', b1, ⟨?_, E.len⟩, fun ρ' σ' G2 H2 E2 => ?_, fun ρ' σ' x G2 H2 i hi E2 => ?_⟩
  · rw [show ((none, none) : Slot) = ((none : Option (SV × V)).map (·.1), (none : Option (SV × V)).map (·.2)) from rfl, upS_view_none] at b2
    exact b2
  · obtain ⟨S, z⟩ := b3 _ G2 H2 E2.fr
    have z := z none
    rw [show ((some s, some v) : Slot) = ((some (s, v)).map (·.1), (some (s, v)).map (·.2)) from rfl, upS_view_none] at z
    exact ⟨⟨z, E2.len⟩, S⟩
  · obtain ⟨S, z⟩ := b3 _ G2 H2 E2.fr
    have z := z (some i)
    rw [← view_set hi (by rw [← E2.len]; exact hi)] at z
    exact ⟨⟨z, by simp [E2.len]⟩, S⟩

/-! ### operands that go into a container -/
def frz1 (i : Nat) (ρ : En) : Option (D × En) := match ρ.getD i none with
  | some (.d x) => some (x, ρ)
  | some s => s.frz.map fun x => (x, ρ.set i (some (.d x)))
  | none => none
def frzAll : List Opd → M (List D)
  | [] => M.ret []
  | .d x :: os => M.bind (frzAll os) fun xs => M.ret (x :: xs)
  | .loc i :: os => fun ρ => match frz1 i ρ with
    | some (x, ρ') => M.bind (frzAll os) (fun xs => M.ret (x :: xs)) ρ'
    | none => .stuck
section
variable {C : VC} {B : Bd} {σ : L2.St} {H : Hp}
theorem frz1_ok {i : Nat} {ρ ρ' : En} {x : D} {v : V} {G : Hp} (E : EnvR C B ρ σ none G H) (h : frz1 i ρ = some (x, ρ')) (hv : σ[i]? = some (some v)) : ∃ G', Same G G' ∧ EnvR C B ρ' σ none G' H ∧ Rp C G' v x := by
  unfold frz1 at h
  cases q : ρ.getD i none with
  | none => rw [q] at h; cases h
  | some s =>
    rw [q] at h
    have go : s.frz.map (fun x => (x, ρ.set i (some (SV.d x)))) = some (x, ρ') → ∃ G', Same G G' ∧ EnvR C B ρ' σ none G' H ∧ Rp C G' v x := by
      intro h
      cases q2 : s.frz with
      | none => rw [q2] at h; cases h
      | some y =>
        rw [q2] at h
        cases h
        exact E.frz q q2 hv
    cases s with
    | d y =>
      cases h
      obtain ⟨w, fp, e1, o⟩ := E.own q
      have e2 : some (some w) = some (some v) := e1.symm.trans hv
      cases e2
      exact ⟨G, Same.refl _, E, o.2⟩
    | ol y => exact go h
    | od y => exact go h
    | dr y => exact go h
    | sc y => exact go h
    | oi c y => exact go h
theorem frzAll_ok : ∀ {os : List Opd} {vs : List V} {ρ ρ' : En} {xs : List D} {G : Hp}, EnvR C B ρ σ none G H → OpdsR C σ G os vs → frzAll os ρ = .ok xs ρ' → ∃ G', Same G G' ∧ EnvR C B ρ' σ none G' H ∧ RpL C G' vs xs
  | [], vs, ρ, ρ', xs, G, E, r, h => by
    cases r
    cases h
    exact ⟨G, Same.refl _, E, .nil⟩
  | .d y :: os, vs, ρ, ρ', xs, G, E, r, h => by
    cases r with
    | cons r1 r2 =>
      unfold frzAll at h
      rw [mbind] at h
      cases q : frzAll os ρ with
      | stuck => rw [q] at h; cases h
      | err c ρ1 => rw [q] at h; cases h
      | ok ys ρ1 =>
        rw [q, bind_ok] at h
        cases h
        obtain ⟨G', S, E', r'⟩ := frzAll_ok E r2 q
        exact ⟨G', S, E', .cons (Rp.mono S r1) r'⟩
  | .loc i :: os, vs, ρ, ρ', xs, G, E, r, h => by
    cases r with
    | cons r1 r2 =>
      unfold frzAll at h
      cases q0 : frz1 i ρ with
      | none => rw [q0] at h; cases h
      | some p =>
        obtain ⟨y, ρ0⟩ := p
        rw [q0] at h
        have h : M.bind (frzAll os) (fun xs => M.ret (y :: xs)) ρ0 = .ok xs ρ' := h
        rw [mbind] at h
        obtain ⟨G0, S0, E0, ry⟩ := frz1_ok E q0 r1
        cases q : frzAll os ρ0 with
        | stuck => rw [q] at h; cases h
        | err c ρ1 => rw [q] at h; cases h
        | ok ys ρ1 =>
          rw [q, bind_ok] at h
          cases h
          obtain ⟨G', S, E', r'⟩ := frzAll_ok E0 (r2.mono S0) q
          exact ⟨G', S0.trans S, E', .cons (Rp.mono S ry) r'⟩
theorem frzAll_noErr : ∀ {os : List Opd} {ρ : En} {c : Str} {ρ' : En}, frzAll os ρ ≠ .err c ρ'
  | [], ρ, c, ρ', h => by cases h
  | .d y :: os, ρ, c, ρ', h => by
    unfold frzAll at h
    rw [mbind] at h
    cases q : frzAll os ρ with
    | stuck => rw [q] at h; cases h
    | err c ρ1 => exact frzAll_noErr q
    | ok ys ρ1 => rw [q, bind_ok] at h; cases h
  | .loc i :: os, ρ, c, ρ', h => by
    unfold frzAll at h
    cases q0 : frz1 i ρ with
    | none => rw [q0] at h; cases h
    | some p =>
      obtain ⟨y, ρ0⟩ := p
      rw [q0] at h
      have h : M.bind (frzAll os) (fun xs => M.ret (y :: xs)) ρ0 = .err c ρ' := h
      rw [mbind] at h
      cases q : frzAll os ρ0 with
      | stuck => rw [q] at h; cases h
      | err c ρ1 => exact frzAll_noErr q
      | ok ys ρ1 => rw [q, bind_ok] at h; cases h
end
def mTup (a : M (List Opd)) : M Ref := M.bind a fun os => M.bind (frzAll os) fun xs => M.ret (.sv (.d (.tup xs)))
def mLst (a : M (List Opd)) : M Ref := M.bind a fun os => M.bind (frzAll os) fun xs => M.ret (.sv (.ol xs))
section
variable {C : VC} {X : Cx} {W : WX} {es : List Expr} {t : TA} {m : M (List Opd)} {pos : Pos} {n : Nat}
theorem snd_disp {C : VC} {B : Bd} {ρ : En} {σ : L2.St} {G H : Hp} {Q : List V → Hp → Prop} {k : List D → M Ref} {Qv : VK} (h : SndA C W t m) (E : EnvR C B ρ σ none G H) (P : PostE C B W σ G Qv (M.bind m (fun os => M.bind (frzAll os) k) ρ))
    (hk : ∀ vs xs ρ' G' H', EnvR C B ρ' σ none G' H' → Same G G' → RpL C G' vs xs → (∃ os ρ1, m ρ = .ok os ρ1 ∧ os.length = vs.length) → PostE C B W σ G' Qv (k xs ρ') → Q vs H') : t σ H Q := by
  refine h B ρ σ G H _ E ?_
  rw [mbind] at P
  cases q : m ρ with
  | stuck => rw [q] at P; exact P
  | err c ρ' => rw [q] at P; exact P
  | ok os ρ1 =>
    rw [q, bind_ok, mbind] at P
    intro vs G1 H1 E1 S1 r1
    cases q2 : frzAll os ρ1 with
    | stuck => rw [q2] at P; exact P.elim
    | err c ρ' => exact absurd q2 frzAll_noErr
    | ok xs ρ2 =>
      rw [q2, bind_ok] at P
      obtain ⟨G2, S2, E2, r2⟩ := frzAll_ok E1 r1 q2
      exact hk vs xs ρ2 G2 H1 E2 (S1.trans S2) r2 ⟨os, ρ1, q, r1.length⟩ (P.same (S1.trans S2))
theorem snd_tup {C : VC} (h : SndA C W t m) (hn : Len m n) (hz : n ≤ sizeLine) : SndE C W (tTup t) (mTup m) := by
  intro B ρ σ G H Q E P
  refine snd_disp (Q := fun xs H1 => xs.length ≤ sizeLine ∧ ∀ p, H1 p = none → Q (.ref p) (upd H1 p (.tup xs))) h E P fun vs xs ρ' G' H' E' S' r hl P' => ⟨?_, fun p hp => ?_⟩
  · obtain ⟨os, ρ1, e, l⟩ := hl
    rw [← l, hn _ _ _ e]
    exact hz
  · exact P' _ _ _ (E'.newT hp r).1 (E'.newT hp r).2
theorem snd_lst {C : VC} (h : SndA C W t m) (hn : Len m n) (hz : n ≤ sizeLine) : SndE C W (tLst t) (mLst m) := by
  intro B ρ σ G H Q E P
  refine snd_disp (Q := fun xs H1 => xs.length ≤ sizeLine ∧ ∀ p, H1 p = none → Q (.ref p) (upd H1 p (.lst xs))) h E P fun vs xs ρ' G' H' E' S' r hl P' => ⟨?_, fun p hp => ?_⟩
  · obtain ⟨os, ρ1, e, l⟩ := hl
    rw [← l, hn _ _ _ e]
    exact hz
  · exact P' _ _ _ (E'.newL hp r) (Same.refl _)
theorem se_tup {x1} (h : SA C X W es t m) (hn : Len m n) (hz : n ≤ sizeLine := by decide) : SE C X W (.Tuple es x1 pos) (tTup t) (mTup m) := ⟨pe_tup h.pa, snd_tup h.snd hn hz⟩
theorem se_lst (h : SA C X W es t m) (hn : Len m n) (hz : n ≤ sizeLine := by decide) : SE C X W (.List es pos) (tLst t) (mLst m) := ⟨pe_lst h.pa, snd_lst h.snd hn hz⟩
end

/-! ### targets -/
abbrev Tg := D → En → Option En
/-- the slots but those of is are as they were -/
def Off (is : List Nat) (σ σ' : L2.St) : Prop := σ'.length = σ.length ∧ ∀ j, j ∉ is → σ'[j]? = σ[j]?
theorem Off.refl {is : List Nat} {σ : L2.St} : Off is σ σ := ⟨rfl, fun _ _ => rfl⟩
theorem Off.trans {is : List Nat} {σ σ' σ2 : L2.St} (a : Off is σ σ') (b : Off is σ' σ2) : Off is σ σ2 := ⟨b.1.trans a.1, fun j h => (b.2 j h).trans (a.2 j h)⟩
theorem Off.mono {is js : List Nat} {σ σ' : L2.St} (a : Off is σ σ') (h : ∀ i ∈ is, i ∈ js) : Off js σ σ' := ⟨a.1, fun j hj => a.2 j fun z => hj (h j z)⟩
theorem Off.set {is : List Nat} {σ : L2.St} {i : Nat} {x : Option V} (h : i ∈ is) : Off is σ (σ.set i x) := ⟨by simp, fun j hj => List.getElem?_set_ne (fun z => hj (by rw [← z]; exact h))⟩
def SndG (C : VC) (P is : List Nat) (g : TG) (mg : Tg) : Prop := ∀ B ρ σ G H (Q : L2.St → Hp → Prop) x v ρ', EnvR C B ρ σ none G H → PinOk P B σ → Rp C G v x → mg x ρ = some ρ' →
  (∀ σ', EnvR C B ρ' σ' none G H → PinOk P B σ' → Off is σ σ' → Q σ' H) → g v σ H Q
def tgName (i : Nat) : Tg := fun x ρ => some (ρ.set i (some (.d x)))
def tgNames : List Nat → List D → En → Option En
  | [], [], ρ => some ρ
  | i :: is, x :: xs, ρ => tgNames is xs (ρ.set i (some (.d x)))
  | _, _, _ => none
def tgTup (is : List Nat) : Tg := fun x ρ => match x with
  | .tup xs => tgNames is xs ρ
  | _ => none
def gNames : List Nat → TGs
  | [] => gNil
  | i :: is => gCons (gName i) (gNames is)
section
variable {C : VC} {P : List Nat}
theorem sg_name {i : Nat} (hi : i ∉ P) : SndG C P [i] (gName i) (tgName i) := fun B ρ σ G H Q x v ρ' E pn r e h => by
  cases e
  exact h (σ.set i (some v)) ((E.res r).store i) (pn.set hi) (.set (by simp))
theorem sg_names : ∀ {is : List Nat}, (∀ i ∈ is, i ∉ P) → ∀ B ρ σ G H (Q : L2.St → Hp → Prop) xs vs ρ', EnvR C B ρ σ none G H → PinOk P B σ → RpL C G vs xs → tgNames is xs ρ = some ρ' →
    (∀ σ', EnvR C B ρ' σ' none G H → PinOk P B σ' → Off is σ σ' → Q σ' H) → gNames is vs σ H Q
  | [], _, B, ρ, σ, G, H, Q, xs, vs, ρ', E, pn, r, e, h => by
    cases r with
    | nil => cases e; exact ⟨rfl, h σ E pn .refl⟩
    | cons a b => cases e
  | i :: is, hi, B, ρ, σ, G, H, Q, xs, vs, ρ', E, pn, r, e, h => by
    cases r with
    | nil => cases e
    | cons a b => exact ⟨_, _, rfl, sg_names (fun j hj => hi j (List.mem_cons_of_mem _ hj)) B _ _ G H Q _ _ ρ' ((E.res a).store i) (pn.set (hi i List.mem_cons_self)) b e fun σ' E' pn' o => h σ' E' pn' ((Off.set (by simp)).trans (o.mono fun j hj => List.mem_cons_of_mem _ hj))⟩
theorem tgNames_len : ∀ {is : List Nat} {ds : List D} {ρ ρ' : En}, tgNames is ds ρ = some ρ' → ds.length = is.length
  | [], [], _, _, _ => rfl
  | [], _ :: _, _, _, h => by cases h
  | _ :: _, [], _, _, h => by cases h
  | i :: is, x :: xs, ρ, ρ', h => congrArg Nat.succ (tgNames_len (is := is) (ds := xs) h)
theorem sg_tup {is : List Nat} {n : Nat} (hi : ∀ i ∈ is, i ∉ P) (hn : is.length = n) : SndG C P is (gTup C.K n (gNames is)) (tgTup is) := by
  intro B ρ σ G H Q x v ρ' E pn r e h
  cases r with
  | tup ha rl =>
    have e : tgNames is _ ρ = some ρ' := e
    exact ⟨_, _, rfl, VS.Same.sqt E.fr.gh ha, by rw [rl.length, tgNames_len e, hn], sg_names hi B ρ σ G H Q _ _ ρ' E pn rl e h⟩
  | _ => cases e
end

/-! ### what is walked -/
structure Walks (C : VC) (J : It) (xs : List D) (Kp : Hp → Hp → Prop) : Prop where
  stop : ∀ G1 H1, Kp G1 H1 → J.stop xs.length H1
  go : ∀ i y G1 H1, xs[i]? = some y → Kp G1 H1 → J.go i H1
  yld : ∀ i y v H2 {B : Bd} {ρ : En} {σ : L2.St} G1 H1, xs[i]? = some y → Kp G1 H1 → EnvR C B ρ σ none G1 H1 → J.yld i H1 v H2 → ∃ G2, Same G1 G2 ∧ EnvR C B ρ σ none G2 H2 ∧ Rp C G2 v y
/-- the walked thing stands still -/
def KStill (G : Hp) : Hp → Hp → Prop := fun G1 H1 => Same G G1 ∧ Same G1 H1
def PostI (C : VC) (B : Bd) (W : WX) (σ : L2.St) (G : Hp) (R : It → Hp → Prop) : Rs (List D) → Prop
  | .ok xs ρ => ∀ J G' H', EnvR C B ρ σ none G' H' → Same G G' → Walks C J xs (KStill G') → R J H'
  | .err c ρ => ∀ G' H' Ca, EnvR C B ρ σ none G' H' → C.mg c = some (.ref Ca) → W (.ref Ca) none σ H'
  | .stuck => False
def SndI (C : VC) (W : WX) (wi : TI) (m : M (List D)) : Prop := ∀ B ρ σ G H R, EnvR C B ρ σ none G H → PostI C B W σ G R (m ρ) → wi σ H R
structure SI (C : VC) (X : Cx) (W : WX) (tg iter : Expr) (wi : TI) (m : M (List D)) : Prop where
  pi : PI X tg iter wi
  snd : SndI C W wi m
theorem piOr {X : Cx} {tg iter : Expr} {w w' : TI} (h : PI X tg iter w) (h' : PI X tg iter w') : PI X tg iter (fun σ H R => w σ H R ∨ w' σ H R) := by
  refine ⟨fun pins s σ H R I z => ?_⟩
  rcases z with z | z
  · exact h.run pins s σ H R I z
  · exact h'.run pins s σ H R I z
abbrev iSeq (K : PySem.W.Frag) (tl : TE) : TI := fun σ H R => iList K tl σ H R ∨ iTup K tl σ H R
/-- data's items, a thing of its own standing still from then on -/
def seqOf : D → Option (List D)
  | .lst xs => some xs
  | .tup xs => some xs
  | _ => none
/-- an operand as data that stands still -/
def frzO : Opd → M D
  | .d x => M.ret x
  | .loc i => fun ρ => match frz1 i ρ with
    | some (x, ρ') => .ok x ρ'
    | none => .stuck
def mFrz (a : M Ref) : M D := M.bind (opd a) frzO
def mSeqI (a : M Ref) : M (List D) := M.bind (mFrz a) fun x => M.opt (seqOf x)
def PostF (C : VC) (B : Bd) (W : WX) (σ : L2.St) (G : Hp) (Q : VK) : Rs D → Prop
  | .ok x ρ => ∀ v G' H', EnvR C B ρ σ none G' H' → Same G G' → Rp C G' v x → Q v H'
  | .err c ρ => ∀ G' H' Ca, EnvR C B ρ σ none G' H' → C.mg c = some (.ref Ca) → W (.ref Ca) none σ H'
  | .stuck => False
section
variable {C : VC} {B : Bd} {σ : L2.St} {G H : Hp}
theorem frzO_ok {o : Opd} {ρ ρ' : En} {x : D} {v : V} (E : EnvR C B ρ σ none G H) (h : frzO o ρ = .ok x ρ') (r : OpdR C σ G o v) : ∃ G', Same G G' ∧ EnvR C B ρ' σ none G' H ∧ Rp C G' v x := by
  cases o with
  | d y => cases h; exact ⟨G, Same.refl _, E, r⟩
  | loc i =>
    have h : (match frz1 i ρ with | some (x, ρ') => Rs.ok x ρ' | none => .stuck) = .ok x ρ' := h
    cases q : frz1 i ρ with
    | none => rw [q] at h; cases h
    | some p =>
      obtain ⟨y, ρ0⟩ := p
      rw [q] at h
      cases h
      exact frz1_ok E q r
theorem frzO_noErr {o : Opd} {ρ ρ' : En} {c : Str} (h : frzO o ρ = .err c ρ') : False := by
  cases o with
  | d y => cases h
  | loc i =>
    have h : (match frz1 i ρ with | some (x, ρ') => Rs.ok x ρ' | none => .stuck) = .err c ρ' := h
    cases q : frz1 i ρ with
    | none => rw [q] at h; cases h
    | some p => rw [q] at h; cases h
theorem walks_list {a : Addr} {vs : List V} {xs : List D} (ha : G a = some (.lst vs)) (r : RpL C G vs xs) : Walks C (Itl C.K a) xs (KStill G) where
  stop := fun G1 H1 k => ⟨vs, .of (k.2 _ _ (k.1 _ _ ha)), by rw [r.length]; simp⟩
  go := fun i y G1 H1 hy k => by
    obtain ⟨v, hv, _⟩ := r.get hy
    exact ⟨vs, v, .of (k.2 _ _ (k.1 _ _ ha)), hv⟩
  yld := fun i y v H2 B ρ σ G1 H1 hy k E q => by
    obtain ⟨u, hu, ru⟩ := r.get hy
    obtain ⟨e1, e2⟩ := q
    subst e1
    have e3 := e2 vs (.of (k.2 _ _ (k.1 _ _ ha)))
    rw [hu] at e3
    cases e3
    exact ⟨G1, Same.refl _, E, ru.mono k.1⟩
theorem walks_tup {a : Addr} {vs : List V} {xs : List D} (ha : SqT C.K G a vs) (r : RpL C G vs xs) : Walks C (Itt C.K a) xs (KStill G) where
  stop := fun G1 H1 k => ⟨vs, VS.Same.sqt k.2 (VS.Same.sqt k.1 ha), by rw [r.length]; simp⟩
  go := fun i y G1 H1 hy k => by
    obtain ⟨v, hv, _⟩ := r.get hy
    exact ⟨vs, v, VS.Same.sqt k.2 (VS.Same.sqt k.1 ha), hv⟩
  yld := fun i y v H2 B ρ σ G1 H1 hy k E q => by
    obtain ⟨u, hu, ru⟩ := r.get hy
    obtain ⟨e1, e2⟩ := q
    subst e1
    have e3 := e2 vs (VS.Same.sqt k.2 (VS.Same.sqt k.1 ha))
    rw [hu] at e3
    cases e3
    exact ⟨G1, Same.refl _, E, ru.mono k.1⟩
end
section
variable {C : VC} {X : Cx} {W : WX} {e tg : Expr} {te : TE} {me : M Ref} {pos p : Pos} {x : Str}
theorem SndE.f {C : VC} (h : SndE C W te me) {B : Bd} {ρ : En} {σ : L2.St} {G H : Hp} {Q : VK} (E : EnvR C B ρ σ none G H) (P : PostF C B W σ G Q (mFrz me ρ)) : te σ H Q := by
  refine h.o B ρ σ G H Q E ?_
  unfold mFrz at P
  rw [mbind] at P
  cases q : opd me ρ with
  | stuck => rw [q] at P; exact P
  | err c ρ' => rw [q] at P; exact P
  | ok o ρ1 =>
    rw [q, bind_ok] at P
    intro v G1 H1 E1 S1 r1
    cases q2 : frzO o ρ1 with
    | stuck => rw [q2] at P; exact P.elim
    | err c ρ' => exact (frzO_noErr q2).elim
    | ok x ρ2 =>
      rw [q2] at P
      obtain ⟨G2, S2, E2, r2⟩ := frzO_ok E1 q2 r1
      exact P v G2 H1 E2 (S1.trans S2) r2
theorem snd_seqI {C : VC} (h : SndE C W te me) : SndI C W (iSeq C.K te) (mSeqI me) := by
  intro B ρ σ G H R E P
  unfold mSeqI at P
  rw [mbind] at P
  cases q : mFrz me ρ with
  | stuck => rw [q] at P; exact P.elim
  | err c ρ' =>
    rw [q] at P
    exact .inl (h.f E (by rw [q]; exact P))
  | ok x ρ1 =>
    rw [q, bind_ok] at P
    cases x with
    | lst xs =>
      refine .inl (h.f E ?_)
      rw [q]
      intro v G1 H1 E1 S1 r1
      cases r1 with
      | lst a b => exact ⟨_, rfl, ⟨_, .of (E1.fr.gh _ _ a)⟩, P _ G1 H1 E1 S1 (walks_list a b)⟩
    | tup xs =>
      refine .inr (h.f E ?_)
      rw [q]
      intro v G1 H1 E1 S1 r1
      cases r1 with
      | tup a b => exact ⟨_, rfl, ⟨_, VS.Same.sqt E1.fr.gh a⟩, P _ G1 H1 E1 S1 (walks_tup a b)⟩
    | _ => exact P.elim
theorem si_seq (h : SE C X W e te me) (hK : X.K = C.K := by rfl) : SI C X W tg e (iSeq C.K te) (mSeqI me) := ⟨by rw [← hK]; exact piOr (pi_list h.pe) (pi_tup h.pe), snd_seqI h.snd⟩
/-- range -/
def intsD (lo : Int) (n : Nat) : List D := (List.range n).map fun i => .int (lo + (i : Nat))
noncomputable def rng1 : List D → Option (List D)
  | [.int j] => @ite _ (-(2 ^ 62) ≤ j ∧ j < 2 ^ 62) (Classical.propDecidable _) (some (intsD 0 j.toNat)) none
  | _ => none
noncomputable def rng2 : List D → Option (List D)
  | [.int i, .int j] => @ite _ (-(2 ^ 62) ≤ i ∧ i < 2 ^ 62 ∧ -(2 ^ 62) ≤ j ∧ j < 2 ^ 62) (Classical.propDecidable _) (some (intsD i (j - i).toNat)) none
  | _ => none
def mRng (f : List D → Option (List D)) (a : M (List Opd)) : M (List D) := M.bind a fun os ρ => M.opt ((lookAll ρ os).bind f) ρ
theorem intsD_get {lo : Int} {n i : Nat} {y : D} (h : (intsD lo n)[i]? = some y) : i < n ∧ y = .int (lo + (i : Nat)) := by
  unfold intsD at h
  rw [List.getElem?_map] at h
  by_cases hi : i < n
  · rw [List.getElem?_range hi] at h
    exact ⟨hi, (Option.some.inj h).symm⟩
  · rw [List.getElem?_eq_none (by simpa using hi)] at h
    cases h
theorem intsD_len {lo : Int} {n : Nat} : (intsD lo n).length = n := by simp [intsD]
theorem walks_rng {C : VC} {G : Hp} {lo : Int} {n : Nat} : Walks C (Itr lo n) (intsD lo n) (KStill G) where
  stop := fun G1 H1 k => by rw [intsD_len]; exact Nat.le_refl n
  go := fun i y G1 H1 hy k => (intsD_get hy).1
  yld := fun i y v H2 B ρ σ G1 H1 hy k E q => by
    obtain ⟨e1, e2⟩ := q
    subst e1 e2
    rw [(intsD_get hy).2]
    exact ⟨G1, Same.refl _, E, .int _⟩
variable {a : Expr} {ta : TA} {ma : M (List Opd)}
theorem snd_rng1 {C : VC} (h : SndA C W ta ma) : SndI C W (iRng1 ta) (mRng rng1 ma) := by
  intro B ρ σ G H R E P
  refine h B ρ σ G H _ E ?_
  unfold mRng at P
  rw [mbind] at P
  cases q : ma ρ with
  | stuck => rw [q] at P; exact P
  | err c ρ' => rw [q] at P; exact P
  | ok os ρ1 =>
    rw [q, bind_ok] at P
    intro vs G1 H1 E1 S1 r1
    cases q2 : lookAll ρ1 os with
    | none => rw [q2] at P; exact P.elim
    | some xs =>
      rw [q2] at P
      replace P : PostI C B W σ G R (M.opt (rng1 xs) ρ1) := P
      have rr := lookAll_rp E1 r1 q2
      unfold rng1 at P
      split at P
      · obtain ⟨v, rfl, hv⟩ := rr.one
        rename_i j
        by_cases hb : -(2 ^ 62) ≤ j ∧ j < 2 ^ 62
        · rw [if_pos hb] at P
          rw [rs_int hv]
          exact ⟨j, rfl, hb.1, hb.2, P _ G1 H1 E1 S1 walks_rng⟩
        · rw [if_neg hb] at P
          exact P.elim
      · exact P.elim
theorem snd_rng2 {C : VC} (h : SndA C W ta ma) : SndI C W (iRng2 ta) (mRng rng2 ma) := by
  intro B ρ σ G H R E P
  refine h B ρ σ G H _ E ?_
  unfold mRng at P
  rw [mbind] at P
  cases q : ma ρ with
  | stuck => rw [q] at P; exact P
  | err c ρ' => rw [q] at P; exact P
  | ok os ρ1 =>
    rw [q, bind_ok] at P
    intro vs G1 H1 E1 S1 r1
    cases q2 : lookAll ρ1 os with
    | none => rw [q2] at P; exact P.elim
    | some xs =>
      rw [q2] at P
      replace P : PostI C B W σ G R (M.opt (rng2 xs) ρ1) := P
      have rr := lookAll_rp E1 r1 q2
      unfold rng2 at P
      split at P
      · obtain ⟨v, w, rfl, hv, hw⟩ := rr.two
        rename_i i j
        by_cases hb : -(2 ^ 62) ≤ i ∧ i < 2 ^ 62 ∧ -(2 ^ 62) ≤ j ∧ j < 2 ^ 62
        · rw [if_pos hb] at P
          rw [rs_int hv, rs_int hw]
          exact ⟨i, j, rfl, hb, P _ G1 H1 E1 S1 walks_rng⟩
        · rw [if_neg hb] at P
          exact P.elim
      · exact P.elim
theorem si_rng1 (hg : Gl X "range") (hm : X.mg "range" = none) (h : SA C X W [a] ta ma) (hs : starEach [a] X.env = [(false, eval a X.env)] := by rfl) :
    SI C X W tg (.Call (.Name "range" p) [a] [] pos) (iRng1 ta) (mRng rng1 ma) := ⟨pi_range1 hg hm h.pa hs, snd_rng1 h.snd⟩
theorem si_rng2 {b : Expr} (hg : Gl X "range") (hm : X.mg "range" = none) (h : SA C X W [a, b] ta ma) (hs : starEach [a, b] X.env = [(false, eval a X.env), (false, eval b X.env)] := by rfl) (hs2 : starEach [b] X.env = [(false, eval b X.env)] := by rfl) :
    SI C X W tg (.Call (.Name "range" p) [a, b] [] pos) (iRng2 ta) (mRng rng2 ma) := ⟨pi_range2 hg hm h.pa hs hs2, snd_rng2 h.snd⟩
end

/-! ### for -/
def forR (mg : Tg) (b : M Fl) : List D → M Fl
  | [] => M.ret .nx
  | x :: xs => fun ρ => match mg x ρ with
    | none => .stuck
    | some ρ' => (b ρ').bind fun f => match f with
      | .nx => forR mg b xs
      | .ct => forR mg b xs
      | .bk => M.ret .nx
      | .rt s => M.ret (.rt s)
def mFor (mi : M (List D)) (mg : Tg) (b : M Fl) : M Fl := M.bind mi (forR mg b)
section
variable {C : VC} {P is : List Nat} {X : Cx} {W : WX} {tg iter : Expr} {body : List Stmt} {wi : TI} {g : TG} {tb : TS} {mi : M (List D)} {mg : Tg} {m : M Fl} {pos : Pos}
theorem snd_for {C : VC} (hi : SndI C W wi mi) (hg : SndG C P is g mg) (hb : SndS C P W tb m) : SndS C P W (tFor wi g tb) (mFor mi mg m) := by
  intro B ρ σ G H D E pn Q
  refine hi B ρ σ G H _ E ?_
  unfold mFor at Q
  rw [mbind] at Q
  cases q : mi ρ with
  | stuck => rw [q] at Q; exact Q
  | err c ρ' => rw [q] at Q; exact fun G' H' Ca E' hc => Q σ G' H' Ca E' pn hc
  | ok xs ρ1 =>
    rw [q, bind_ok] at Q
    intro J G1 H1 E1 S1 wk
    have Q := Q.same S1
    refine ⟨fun i m' σ' H' => i + m' = xs.length ∧ ∃ ρ' G', Same G1 G' ∧ EnvR C B ρ' σ' none G' H' ∧ PinOk P B σ' ∧ PostS C B P W G1 D (forR mg m (xs.drop i) ρ'), ⟨xs.length, by simp, ρ1, G1, Same.refl _, E1, pn, by rw [List.drop_zero]; exact Q⟩, ?_⟩
    rintro i m' σ2 H2 ⟨him, ρ2, G2, S2, E2, pn2, Q2⟩
    by_cases hil : i < xs.length
    · refine .inr ⟨wk.go i xs[i] G2 H2 (by simp [hil]) ⟨S2, E2.fr.gh⟩, fun σ' H' => i + 1 + (m' - 1) = xs.length ∧ ∃ ρ' G', Same G1 G' ∧ EnvR C B ρ' σ' none G' H' ∧ PinOk P B σ' ∧ PostS C B P W G1 D (forR mg m (xs.drop (i + 1)) ρ'), fun σ' H' h => ⟨m' - 1, by omega, h⟩, fun x H3 hy => ?_⟩
      obtain ⟨G3, S3, E3, r3⟩ := wk.yld i xs[i] x H3 G2 H2 (by simp [hil]) ⟨S2, E2.fr.gh⟩ E2 hy
      rw [List.drop_eq_getElem_cons hil] at Q2
      unfold forR at Q2
      cases q3 : mg xs[i] ρ2 with
      | none => rw [q3] at Q2; exact Q2.elim
      | some ρ3 =>
        rw [q3] at Q2
        dsimp only at Q2
        refine hg B ρ2 σ2 G3 H3 _ xs[i] x ρ3 E3 pn2 r3 q3 fun σ4 E4 pn4 _ => ?_
        refine hb B ρ3 σ4 G3 H3 _ E4 pn4 ?_
        have S13 : Same G1 G3 := S2.trans S3
        have nxt : ∀ ρ', PostS C B P W G1 D (forR mg m (xs.drop (i + 1)) ρ') → ∀ σ' G' H', EnvR C B ρ' σ' none G' H' → Same G3 G' → PinOk P B σ' → (i + 1 + (m' - 1) = xs.length ∧ ∃ ρ' G', Same G1 G' ∧ EnvR C B ρ' σ' none G' H' ∧ PinOk P B σ' ∧ PostS C B P W G1 D (forR mg m (xs.drop (i + 1)) ρ')) := fun ρ' z σ' G' H' E' S' pn' => ⟨by omega, ρ', G', S13.trans S', E', pn', z⟩
        cases q4 : m ρ3 with
        | stuck => rw [q4] at Q2; exact Q2
        | err c ρ' => rw [q4] at Q2; exact Q2
        | ok f ρ4 =>
          rw [q4] at Q2
          cases f with
          | nx => exact fun σ' G' H' E' S' pn' => nxt ρ4 Q2 σ' G' H' E' S' pn'
          | ct => exact fun σ' G' H' E' S' pn' => nxt ρ4 Q2 σ' G' H' E' S' pn'
          | bk => exact fun σ' G' H' E' S' pn' => Q2 σ' G' H' E' (S13.trans S') pn'
          | rt s => exact fun v σ' G' H' E' S' pn' => Q2 v σ' G' H' E' (S13.trans S') pn'
    · have hi2 : i = xs.length := by omega
      subst hi2
      rw [List.drop_length] at Q2
      exact .inl ⟨wk.stop G2 H2 ⟨S2, E2.fr.gh⟩, Q2 σ2 G2 H2 E2 S2 pn2⟩
theorem s_for (hc : X.calm = true) (hp : PassesOwn (model X.prog X.w) X.A X.env X.xe) (hi : SI C X W tg iter wi mi) (hg : PG X tg g) (sg : SndG C P is g mg) (hb : SS C P X W body tb m)
    (hs : ∀ x, foldedSetIterable iter X.env x = pure x := by intro _; rfl) :
    S1 C P X W (.For tg iter body [] pos) (tFor wi g tb) (mFor mi mg m) := ⟨ps_for hp hc hi.pi hg hb.ps hs, snd_for hi.snd sg hb.snd⟩
end
end VS

/-! VS7: owned results, parallel assignment, methods of owned lists and dicts, comprehensions, isinstance. -/
namespace VS
open PySem PySem.Spec PyProof.Rows L2

/-! ### a result with what it owns -/
def PostV (C : VC) (B : Bd) (W : WX) (σ : L2.St) (G : Hp) (Q : VK) : Rs SV → Prop
  | .ok s ρ => ∀ v G' H', EnvR C B ρ σ (some (s, v)) G' H' → Same G G' → Q v H'
  | .err c ρ => ∀ G' H' Ca, EnvR C B ρ σ none G' H' → C.mg c = some (.ref Ca) → W (.ref Ca) none σ H'
  | .stuck => False
def ownO : Ref → M SV
  | .sv s => M.ret s
  | .loc i => fun ρ => match frz1 i ρ with
    | some (x, ρ') => .ok (.d x) ρ'
    | none => .stuck
def mOwn (a : M Ref) : M SV := M.bind a ownO
section
variable {C : VC} {B : Bd} {W : WX} {ρ : En} {σ : L2.St} {G G1 H : Hp} {Q : VK} {te : TE} {me : M Ref}
theorem PostV.same {r : Rs SV} (P : PostV C B W σ G Q r) (S : Same G G1) : PostV C B W σ G1 Q r := by
  cases r with
  | stuck => exact P
  | err c ρ => exact P
  | ok s ρ => exact fun v G' H' E S' => P v G' H' E (S.trans S')
theorem PostF.same {r : Rs D} (P : PostF C B W σ G Q r) (S : Same G G1) : PostF C B W σ G1 Q r := by
  cases r with
  | stuck => exact P
  | err c ρ => exact P
  | ok s ρ => exact fun v G' H' E S' => P v G' H' E (S.trans S')
theorem SndE.own (h : SndE C W te me) (E : EnvR C B ρ σ none G H) (P : PostV C B W σ G Q (mOwn me ρ)) : te σ H Q := by
  refine h B ρ σ G H Q E ?_
  unfold mOwn at P
  rw [mbind] at P
  cases q : me ρ with
  | stuck => rw [q] at P; exact P
  | err c ρ' => rw [q] at P; exact P
  | ok r ρ1 =>
    rw [q, bind_ok] at P
    cases r with
    | sv s => exact P
    | loc i =>
      intro v G1 H1 E1 S1 hv
      replace P : PostV C B W σ G Q (match frz1 i ρ1 with | some (x, ρ') => .ok (.d x) ρ' | none => .stuck) := P
      cases q2 : frz1 i ρ1 with
      | none => rw [q2] at P; exact P.elim
      | some p =>
        obtain ⟨x, ρ2⟩ := p
        rw [q2] at P
        obtain ⟨G2, S2, E2, r2⟩ := frz1_ok E1 q2 hv
        exact P v G2 H1 (E2.res r2) (S1.trans S2)
/-- a thing held aside goes to slot i -/
theorem EnvR.frame' {s : SV} {v : V} (E : EnvR C B ρ σ (some (s, v)) G H) :
    ∃ B' : Bd, B'.pv = B.pv ∧ EnvR C B' ρ σ none G H ∧ (∀ ρ' σ' G2 H2, EnvR C B' ρ' σ' none G2 H2 → EnvR C B ρ' σ' (some (s, v)) G2 H2 ∧ Same G G2) ∧
      ∀ ρ' σ' G2 H2 i, EnvR C B' ρ' σ' none G2 H2 → EnvR C B (ρ'.set i (some s)) (σ'.set i (some v)) none G2 H2 := by
  obtain ⟨B', b1, b2, b3, b4⟩ := E.frame
  refine ⟨B', b1, b2, b3, fun ρ' σ' G2 H2 i E2 => ?_⟩
  by_cases hi : i < ρ'.length
  · exact (b4 ρ' σ' none G2 H2 i hi E2).1
  · rw [List.set_eq_of_length_le (by omega), List.set_eq_of_length_le (by rw [← E2.len]; omega)]
    exact (b3 ρ' σ' G2 H2 E2).1.nox
end

/-! ### a, b = e, f -/
def mPar (i j : Nat) (a b : M Ref) : M Fl := M.bind (mOwn a) fun x => M.bind (mOwn b) fun y => fun ρ => .ok .nx ((ρ.set i (some x)).set j (some y))
def mPar3 (i j l : Nat) (a b c : M Ref) : M Fl := M.bind (mOwn a) fun x => M.bind (mOwn b) fun y => M.bind (mOwn c) fun z => fun ρ => .ok .nx (((ρ.set i (some x)).set j (some y)).set l (some z))
section
variable {C : VC} {P : List Nat} {W : WX} {ta tb tc : TE} {ma mb mc : M Ref} {i j l : Nat}
theorem snd_par (hij : i ≠ j) (hi : i ∉ P) (hj : j ∉ P) (ha : SndE C W ta ma) (hb : SndE C W tb mb) : SndS C P W (tPar i j (tCons ta (tCons tb tNil))) (mPar i j ma mb) := by
  intro B ρ σ G H D E pn Q
  refine ha.own E ?_
  unfold mPar at Q
  rw [mbind] at Q
  cases q : mOwn ma ρ with
  | stuck => rw [q] at Q; exact Q
  | err c ρ' => rw [q] at Q; exact fun G' H' Ca E' hc => Q σ G' H' Ca E' pn hc
  | ok s1 ρ1 =>
    rw [q, bind_ok, mbind] at Q
    intro v1 G1 H1 E1 S1
    obtain ⟨B', b1, b2, b3, b4⟩ := E1.frame'
    refine hb.own b2 ?_
    cases q2 : mOwn mb ρ1 with
    | stuck => rw [q2] at Q; exact Q
    | err c ρ' => rw [q2] at Q; exact fun G' H' Ca E' hc => Q σ G' H' Ca (b3 _ _ _ _ E').1.nox pn hc
    | ok s2 ρ2 =>
      rw [q2] at Q
      intro v2 G2 H2 E2 S2
      refine ⟨v1, v2, rfl, Q _ G2 H2 ?_ (S1.trans S2) ((pn.set hi).set hj)⟩
      have z := b4 _ _ G2 H2 i (E2.store j)
      rw [List.set_comm _ _ (Ne.symm hij), List.set_comm (some v2) (some v1) (Ne.symm hij)] at z
      exact z
theorem snd_par3 (hij : i ≠ j) (hil : i ≠ l) (hjl : j ≠ l) (hi : i ∉ P) (hj : j ∉ P) (hl : l ∉ P) (ha : SndE C W ta ma) (hb : SndE C W tb mb) (hc : SndE C W tc mc) : SndS C P W (tPar3 i j l (tCons ta (tCons tb (tCons tc tNil)))) (mPar3 i j l ma mb mc) := by
  intro B ρ σ G H D E pn Q
  refine ha.own E ?_
  unfold mPar3 at Q
  rw [mbind] at Q
  cases q : mOwn ma ρ with
  | stuck => rw [q] at Q; exact Q
  | err c ρ' => rw [q] at Q; exact fun G' H' Ca E' hc => Q σ G' H' Ca E' pn hc
  | ok s1 ρ1 =>
    rw [q, bind_ok, mbind] at Q
    intro v1 G1 H1 E1 S1
    obtain ⟨B', b1, b2, b3, b4⟩ := E1.frame'
    refine hb.own b2 ?_
    cases q2 : mOwn mb ρ1 with
    | stuck => rw [q2] at Q; exact Q
    | err c ρ' => rw [q2] at Q; exact fun G' H' Ca E' hc => Q σ G' H' Ca (b3 _ _ _ _ E').1.nox pn hc
    | ok s2 ρ2 =>
      rw [q2, bind_ok, mbind] at Q
      intro v2 G2 H2 E2 S2
      obtain ⟨B2, d1, d2, d3, d4⟩ := E2.frame'
      refine hc.own d2 ?_
      cases q3 : mOwn mc ρ2 with
      | stuck => rw [q3] at Q; exact Q
      | err c ρ' => rw [q3] at Q; exact fun G' H' Ca E' hc => Q σ G' H' Ca (b3 _ _ _ _ (d3 _ _ _ _ E').1.nox).1.nox pn hc
      | ok s3 ρ3 =>
        rw [q3] at Q
        intro v3 G3 H3 E3 S3
        refine ⟨v1, v2, v3, rfl, Q _ G3 H3 ?_ ((S1.trans S2).trans S3) (((pn.set hi).set hj).set hl)⟩
        have z := b4 _ _ G3 H3 i (d4 _ _ G3 H3 j (E3.store l))
        rw [List.set_comm _ _ (Ne.symm hjl), List.set_comm (some v3) (some v2) (Ne.symm hjl)] at z
        rw [List.set_comm _ _ (Ne.symm hil), List.set_comm (some v3) (some v1) (Ne.symm hil)] at z
        rw [List.set_comm _ _ (Ne.symm hij), List.set_comm (some v2) (some v1) (Ne.symm hij)] at z
        exact z
variable {X : Cx} {x y z : Str} {a b c : Expr} {px py pz pt pos pt2 : Pos} {kt k2 : Nat}
theorem s_par (hc : X.calm = true) (hN : X.N.Nodup) (hxi : X.N[i]? = some x) (hyj : X.N[j]? = some y) (ha : SE C X W a ta ma) (hb : SE C X W b tb mb)
    (hw : swappedStores [.Tuple [.Name x px, .Name y py] kt pt] (.Tuple [a, b] k2 pt2) X.env = pure (some [x, y])) (hij : i ≠ j := by decide) (hi : i ∉ P := by decide) (hj : j ∉ P := by decide)
    (hx : X.env.scope.names.lookup x = some .local := by rfl) (hy : X.env.scope.names.lookup y = some .local := by rfl)
    (h1 : starEach [a, b] X.env = (false, eval a X.env) :: starEach [b] X.env := by rfl) (h2 : starEach [b] X.env = (false, eval b X.env) :: starEach [] X.env := by rfl)
    (hs : swapsWithSole [.Tuple [.Name x px, .Name y py] kt pt] (.Tuple [a, b] k2 pt2) pos.line X.env = pure false := by rfl) :
    S1 C P X W (.Assign [.Tuple [.Name x px, .Name y py] kt pt] (.Tuple [a, b] k2 pt2) pos) (tPar i j (tCons ta (tCons tb tNil))) (mPar i j ma mb) :=
  ⟨ps_par hc hN hxi hyj hij hx hy (pa_cons ha.pe (pa_cons hb.pe pa_nil h2) h1) hw hs, snd_par hij hi hj ha.snd hb.snd⟩
theorem s_par3 (hc : X.calm = true) (hN : X.N.Nodup) (hxi : X.N[i]? = some x) (hyj : X.N[j]? = some y) (hzl : X.N[l]? = some z) (ha : SE C X W a ta ma) (hb : SE C X W b tb mb) (hcc : SE C X W c tc mc)
    (hw : swappedStores [.Tuple [.Name x px, .Name y py, .Name z pz] kt pt] (.Tuple [a, b, c] k2 pt2) X.env = pure (some [x, y, z])) (hij : i ≠ j := by decide) (hil : i ≠ l := by decide) (hjl : j ≠ l := by decide) (hi : i ∉ P := by decide) (hj : j ∉ P := by decide) (hl : l ∉ P := by decide)
    (hx : X.env.scope.names.lookup x = some .local := by rfl) (hy : X.env.scope.names.lookup y = some .local := by rfl) (hz : X.env.scope.names.lookup z = some .local := by rfl)
    (h1 : starEach [a, b, c] X.env = (false, eval a X.env) :: starEach [b, c] X.env := by rfl) (h2 : starEach [b, c] X.env = (false, eval b X.env) :: starEach [c] X.env := by rfl) (h3 : starEach [c] X.env = (false, eval c X.env) :: starEach [] X.env := by rfl)
    (hs : swapsWithSole [.Tuple [.Name x px, .Name y py, .Name z pz] kt pt] (.Tuple [a, b, c] k2 pt2) pos.line X.env = pure false := by rfl) :
    S1 C P X W (.Assign [.Tuple [.Name x px, .Name y py, .Name z pz] kt pt] (.Tuple [a, b, c] k2 pt2) pos) (tPar3 i j l (tCons ta (tCons tb (tCons tc tNil)))) (mPar3 i j l ma mb mc) :=
  ⟨ps_par3 hc hN hxi hyj hzl hij hil hjl hx hy hz (pa_cons ha.pe (pa_cons hb.pe (pa_cons hcc.pe pa_nil h3) h2) h1) hw hs, snd_par3 hij hil hjl hi hj hl ha.snd hb.snd hcc.snd⟩
/-- target = e, data -/
def mAsg (a : M Ref) (mg : Tg) : M Fl := M.bind (mFrz a) fun x ρ => match mg x ρ with
  | some ρ' => .ok .nx ρ'
  | none => .stuck
variable {is : List Nat} {g : TG} {mg : Tg} {tg e : Expr}
theorem snd_asg (ha : SndE C W ta ma) (hg : SndG C P is g mg) : SndS C P W (tAsg ta g) (mAsg ma mg) := by
  intro B ρ σ G H D E pn Q
  refine ha.f E ?_
  unfold mAsg at Q
  rw [mbind] at Q
  cases q : mFrz ma ρ with
  | stuck => rw [q] at Q; exact Q
  | err c ρ' => rw [q] at Q; exact fun G' H' Ca E' hc => Q σ G' H' Ca E' pn hc
  | ok x ρ1 =>
    rw [q, bind_ok] at Q
    intro v G1 H1 E1 S1 r1
    cases q2 : mg x ρ1 with
    | none => rw [q2] at Q; exact Q.elim
    | some ρ2 =>
      rw [q2] at Q
      exact hg B ρ1 σ G1 H1 D.nx x v ρ2 E1 pn r1 q2 fun σ' E' pn' _ => Q σ' G1 H1 E' S1 pn'
end
/-! ### an owned list or dict changes -/
section
variable {C : VC} {B : Bd} {ρ : En} {σ : L2.St} {G H : Hp} {i : Nat} {v : V}
theorem slot_lt {s : SV} (hi : ρ.getD i none = some s) : i < ρ.length := by
  by_cases h : i < ρ.length
  · exact h
  · rw [List.getD_eq_getElem?_getD, List.getElem?_eq_none (by omega)] at hi
    cases hi
theorem EnvR.chgL {xs : List D} (E : EnvR C B ρ σ none G H) (hi : ρ.getD i none = some (.ol xs)) (hv : σ[i]? = some (some v)) :
    ∃ p vs, v = .ref p ∧ H p = some (.lst vs) ∧ RpL C G vs xs ∧ ∀ xs' vs', RpL C G vs' xs' → EnvR C B (ρ.set i (some (.ol xs'))) σ none G (upd H p (.lst vs')) := by
  have hs : view ρ σ none (some i) = (some (.ol xs), some v) := by
    show (ρ.getD i none, σ.getD i none) = _
    rw [hi, getD_st hv]
  obtain ⟨p, u, rfl, hp, ow, k⟩ := E.fr.chg hs (.inl ⟨xs, rfl⟩)
  obtain ⟨p', vs, a1, a2, a3, a4⟩ := ow
  cases a1
  refine ⟨p, vs, rfl, a3, a4, fun xs' vs' r => ⟨?_, by simp [E.len]⟩⟩
  have z := k (.ol xs') (.lst vs') ⟨(fun _ z => nomatch z), fun _ z => nomatch z⟩ ⟨p, vs', rfl, rfl, upd_same, r⟩
  rw [view_set1 (slot_lt hi) (getD_st hv)]
  exact z
theorem EnvR.chgD {xs : List (Key × D)} (E : EnvR C B ρ σ none G H) (hi : ρ.getD i none = some (.od xs)) (hv : σ[i]? = some (some v)) :
    ∃ p vs, v = .ref p ∧ H p = some (.dK vs) ∧ RpK C G vs xs ∧ ∀ xs' vs', RpK C G vs' xs' → EnvR C B (ρ.set i (some (.od xs'))) σ none G (upd H p (.dK vs')) := by
  have hs : view ρ σ none (some i) = (some (.od xs), some v) := by
    show (ρ.getD i none, σ.getD i none) = _
    rw [hi, getD_st hv]
  obtain ⟨p, u, rfl, hp, ow, k⟩ := E.fr.chg hs (.inr (.inl ⟨xs, rfl⟩))
  obtain ⟨p', vs, a1, a2, a3, a4⟩ := ow
  cases a1
  refine ⟨p, vs, rfl, a3, a4, fun xs' vs' r => ⟨?_, by simp [E.len]⟩⟩
  have z := k (.od xs') (.dK vs') ⟨(fun _ z => nomatch z), fun _ z => nomatch z⟩ ⟨p, vs', rfl, rfl, upd_same, r⟩
  rw [view_set1 (slot_lt hi) (getD_st hv)]
  exact z
/-- .. the result itself -/
theorem EnvR.chgX {xs : List D} (E : EnvR C B ρ σ (some (.ol xs, v)) G H) :
    ∃ p vs, v = .ref p ∧ H p = some (.lst vs) ∧ RpL C G vs xs ∧ ∀ xs' vs', RpL C G vs' xs' → EnvR C B ρ σ (some (.ol xs', v)) G (upd H p (.lst vs')) := by
  obtain ⟨p, u, rfl, hp, ow, k⟩ := E.fr.chg (i := none) (s := .ol xs) (v := v) rfl (.inl ⟨xs, rfl⟩)
  obtain ⟨p', vs, a1, a2, a3, a4⟩ := ow
  cases a1
  refine ⟨p, vs, rfl, a3, a4, fun xs' vs' r => ⟨?_, E.len⟩⟩
  have z := k (.ol xs') (.lst vs') ⟨(fun _ z => nomatch z), fun _ z => nomatch z⟩ ⟨p, vs', rfl, rfl, upd_same, r⟩
  rw [show ((some (SV.ol xs'), some (V.ref p)) : Slot) = ((some (SV.ol xs', V.ref p)).map (·.1), (some (SV.ol xs', V.ref p)).map (·.2)) from rfl, upS_view_none] at z
  exact z
end
/-- arguments as data -/
def mFrzs (a : M (List Opd)) : M (List D) := M.bind a frzAll
/-- a method of an owned list in slot i: what it gives, the list behind -/
def methD (i : Nat) (f : List D → List D → Option (D × List D)) (ys : List D) : M Ref := fun ρ => match ρ.getD i none with
  | some (.ol xs) => (match f xs ys with
    | some (r, xs') => .ok (.sv (.d r)) (ρ.set i (some (.ol xs')))
    | none => .stuck)
  | _ => .stuck
def isOl : Option SV → Bool
  | some (.ol _) => true
  | _ => false
def mMeth (i : Nat) (f : List D → List D → Option (D × List D)) (a : M (List Opd)) : M Ref := fun ρ => if isOl (ρ.getD i none) = true then M.bind (mFrzs a) (methD i f) ρ else .stuck
def PostAF (C : VC) (B : Bd) (W : WX) (σ : L2.St) (G : Hp) (Q : List V → Hp → Prop) : Rs (List D) → Prop
  | .ok xs ρ => ∀ vs G' H', EnvR C B ρ σ none G' H' → Same G G' → RpL C G' vs xs → Q vs H'
  | .err c ρ => ∀ G' H' Ca, EnvR C B ρ σ none G' H' → C.mg c = some (.ref Ca) → W (.ref Ca) none σ H'
  | .stuck => False
/-- the method's rule: the list at p, the arguments, the result -/
def RuleM (C : VC) (r : V → List V → Hp → VK → Prop) (f : List D → List D → Option (D × List D)) : Prop := ∀ G H p vs xs us ys z xs' Q, Same G H → H p = some (.lst vs) → RpL C G vs xs → RpL C G us ys → f xs ys = some (z, xs') →
  (∀ v vs', Rp C G v z → RpL C G vs' xs' → Q v (upd H p (.lst vs'))) → r (.ref p) us H Q
section
variable {C : VC} {P : List Nat} {W : WX} {i : Nat} {t : TA} {m : M (List Opd)} {r : V → List V → Hp → VK → Prop} {f : List D → List D → Option (D × List D)}
theorem SndA.frz (h : SndA C W t m) {B : Bd} {ρ : En} {σ : L2.St} {G H : Hp} {Q : List V → Hp → Prop} (E : EnvR C B ρ σ none G H) (P : PostAF C B W σ G Q (mFrzs m ρ)) : t σ H Q := by
  refine h B ρ σ G H Q E ?_
  unfold mFrzs at P
  rw [mbind] at P
  cases q : m ρ with
  | stuck => rw [q] at P; exact P
  | err c ρ' => rw [q] at P; exact P
  | ok os ρ1 =>
    rw [q, bind_ok] at P
    intro vs G1 H1 E1 S1 r1
    cases q2 : frzAll os ρ1 with
    | stuck => rw [q2] at P; exact P.elim
    | err c ρ' => exact absurd q2 frzAll_noErr
    | ok xs ρ2 =>
      rw [q2] at P
      obtain ⟨G2, S2, E2, r2⟩ := frzAll_ok E1 r1 q2
      exact P vs G2 H1 E2 (S1.trans S2) r2
theorem isOl_some {o : Option SV} (h : isOl o = true) : ∃ xs, o = some (.ol xs) := by
  unfold isOl at h
  split at h
  · exact ⟨_, rfl⟩
  · cases h
theorem post_meth (hr : RuleM C r f) {B : Bd} {ρ : En} {σ : L2.St} {G G0 H : Hp} {Q : VK} {v : V} {us : List V} {ys : List D} (E : EnvR C B ρ σ none G H) (S : Same G0 G) (hv : σ[i]? = some (some v)) (ru : RpL C G us ys) (P : PostE C B W σ G0 Q (methD i f ys ρ)) : r v us H Q := by
  unfold methD at P
  cases q : ρ.getD i none with
  | none => rw [q] at P; exact P.elim
  | some s =>
    rw [q] at P
    cases s with
    | ol xs =>
      dsimp only at P
      cases q2 : f xs ys with
      | none => rw [q2] at P; exact P.elim
      | some z =>
        obtain ⟨z, xs'⟩ := z
        rw [q2] at P
        obtain ⟨p, vs, rfl, hp, rl, k⟩ := E.chgL q hv
        exact hr G H p vs xs us ys z xs' Q E.fr.gh hp rl ru q2 fun v vs' rz rl' => P v G _ ((k xs' vs' rl').res rz) S
    | d x => exact P.elim
    | od x => exact P.elim
    | dr x => exact P.elim
    | sc x => exact P.elim
    | oi c x => exact P.elim
theorem snd_meth (hr : RuleM C r f) (h : SndA C W t m) : SndE C W (tBM C.K "list" r (tVar i) t) (mMeth i f m) := by
  intro B ρ σ G H Q E P
  unfold mMeth at P
  split at P
  · rename_i ho
    obtain ⟨xs, hx⟩ := isOl_some ho
    obtain ⟨v, hv, _⟩ := E.slot hx
    obtain ⟨p, vs, rfl, hp, _, _⟩ := E.chgL hx hv
    refine ⟨_, hv, .inl ⟨rfl, vs, .of hp⟩, h.frz E ?_⟩
    rw [mbind] at P
    cases q : mFrzs m ρ with
    | stuck => rw [q] at P; exact P
    | err c ρ' => rw [q] at P; exact P
    | ok ys ρ1 =>
      rw [q, bind_ok] at P
      exact fun us G1 H1 E1 S1 ru => post_meth hr E1 S1 hv ru P
  · exact P.elim
theorem snd_meth0 (hr : RuleM C r f) : SndE C W (tBM0 C.K "list" r (tVar i)) (mMeth i f (M.ret [])) := by
  intro B ρ σ G H Q E P
  unfold mMeth at P
  split at P
  · rename_i ho
    obtain ⟨xs, hx⟩ := isOl_some ho
    obtain ⟨v, hv, _⟩ := E.slot hx
    obtain ⟨p, vs, rfl, hp, _, _⟩ := E.chgL hx hv
    exact ⟨_, hv, .inl ⟨rfl, vs, .of hp⟩, post_meth hr E (Same.refl _) hv .nil P⟩
  · exact P.elim
variable {X : Cx} {x name : Str} {id : String} {p apos cpos : Pos} {e : Expr} {es : List Expr}
theorem se_meth (slot : PySem.Slot "list" name id) (hty : typeOf (.builtin id) = pure (.type "method_descriptor")) (hm : MtR X id r) (hr : RuleM C r f) (hv : PE X (.Name x p) (tVar i)) (h : SA C X W (e :: es) t m) (hK : X.K = C.K := by rfl)
    (hbase : attributeBase (.Name x p) name X.env (eval (.Name x p) X.env) = eval (.Name x p) X.env := by rfl)
    (hfew : ((backTo cpos (starEach (e :: es) X.env)).all (fun x => !x.1) && (backToKw cpos (keywordEach [] X.env)).all (fun x => x.1.isSome)
      && decide ((e :: es).length + ([] : List Keyword).length + (if ([] : List Keyword).isEmpty then 0 else 1) < 30)) = true := by rfl)
    (hline : (apos.endLine == cpos.line) = true := by rfl) (hs : starEach (e :: es) X.env = (false, eval e X.env) :: starEach es X.env := by rfl) (hplain : (backTo cpos (starEach es X.env)).any (·.1) = false := by rfl) :
    SE C X W (.Call (.Attribute (.Name x p) name apos) (e :: es) [] cpos) (tBM C.K "list" r (tVar i) t) (mMeth i f m) :=
  ⟨by rw [← hK]; exact pe_bm PySem.F.plainAttrs_list slot hty hm hv h.pa hbase hfew hline hs hplain, snd_meth hr h.snd⟩
theorem se_meth0 (slot : PySem.Slot "list" name id) (hty : typeOf (.builtin id) = pure (.type "method_descriptor")) (hm : MtR X id r) (hr : RuleM C r f) (hv : PE X (.Name x p) (tVar i)) (hK : X.K = C.K := by rfl)
    (hbase : attributeBase (.Name x p) name X.env (eval (.Name x p) X.env) = eval (.Name x p) X.env := by rfl) (hline : (apos.endLine == cpos.line) = true := by rfl) :
    SE C X W (.Call (.Attribute (.Name x p) name apos) [] [] cpos) (tBM0 C.K "list" r (tVar i)) (mMeth i f (M.ret [])) :=
  ⟨by rw [← hK]; exact pe_bm0 PySem.F.plainAttrs_list slot hty hm hv hbase hline, snd_meth0 hr⟩
end
def gAppend : List D → List D → Option (D × List D)
  | xs, [y] => if xs.length < sizeLine then some (.non, xs ++ [y]) else none
  | _, _ => none
def gExtend : List D → List D → Option (D × List D)
  | xs, [.lst ys] => if xs.length + ys.length ≤ sizeLine then some (.non, xs ++ ys) else none
  | _, _ => none
def gPop : List D → List D → Option (D × List D)
  | xs, [] => (xs[xs.length - 1]?).map fun y => (y, xs.dropLast)
  | _, _ => none
noncomputable def gPopAt : List D → List D → Option (D × List D)
  | xs, [.int i] => @ite _ (-(2 ^ 63) ≤ i ∧ i < 2 ^ 63) (Classical.propDecidable _) ((seqIndex? i xs.length).bind fun k => (xs[k]?).map fun y => (y, xs.eraseIdx k)) none
  | _, _ => none
section
variable {C : VC} {G H : Hp}
theorem RpL.dropLast : ∀ {vs : List V} {xs : List D}, RpL C G vs xs → RpL C G vs.dropLast xs.dropLast := fun {vs xs} r => by
  rw [List.dropLast_eq_take, List.dropLast_eq_take, r.length]
  exact r.take _
theorem rule_append : RuleM C rAppend gAppend := by
  intro G H p vs xs us ys z xs' Q S hp rl ru e q
  unfold gAppend at e
  split at e
  · cases ru with
    | cons r1 t =>
      cases t
      split at e
      · rename_i hl
        cases e
        exact ⟨p, vs, _, rfl, rfl, hp, by rw [rl.length]; exact hl, q _ _ .non (rl.app (.cons r1 .nil))⟩
      · cases e
  · cases e
theorem rule_extend : RuleM C rExtend gExtend := by
  intro G H p vs xs us ys z xs' Q S hp rl ru e q
  unfold gExtend at e
  split at e
  · cases ru with
    | cons r1 t =>
      cases t
      split at e
      · rename_i hl
        cases e
        cases r1 with
        | lst ha rb => exact ⟨p, _, vs, _, rfl, rfl, hp, S _ _ ha, by rw [rl.length, rb.length]; exact hl, q _ _ .non (rl.app rb)⟩
      · cases e
  · cases e
theorem rule_pop : RuleM C rPop gPop := by
  intro G H p vs xs us ys z xs' Q S hp rl ru e q
  unfold gPop at e
  split at e
  · cases ru
    cases q1 : xs[xs.length - 1]? with
    | none => rw [q1] at e; cases e
    | some y =>
      rw [q1] at e
      cases e
      obtain ⟨v, hv, rv⟩ := rl.get q1
      refine ⟨p, vs, v, rfl, rfl, hp, by rw [rl.length]; exact hv, q v _ rv rl.dropLast⟩
  · cases e
theorem rule_popAt : RuleM C rPopAt gPopAt := by
  intro G H p vs xs us ys z xs' Q S hp rl ru e q
  unfold gPopAt at e
  split at e
  · rename_i i
    cases ru with
    | cons r1 t =>
      cases t
      cases r1
      split at e
      · rename_i hb
        cases q1 : seqIndex? i xs.length with
        | none => rw [q1] at e; cases e
        | some k =>
          rw [q1] at e
          replace e : (xs[k]?).map (fun y => (y, xs.eraseIdx k)) = some (z, xs') := e
          cases q2 : xs[k]? with
          | none => rw [q2] at e; cases e
          | some y =>
            rw [q2] at e
            cases e
            obtain ⟨v, hv, rv⟩ := rl.get q2
            exact ⟨p, vs, i, k, v, rfl, rfl, hp, hb.1, hb.2, by rw [rl.length]; exact q1, hv, q v _ rv (rl.erase k)⟩
      · cases e
  · cases e
end
end VS

/-! VS8: list comprehensions. -/
namespace VS
open PySem PySem.Spec PyProof.Rows L2

def wipeE (ρ : En) : List Nat → En
  | [] => ρ
  | v :: vs => (wipeE ρ vs).set v none
def isData : Option SV → Bool
  | none => true
  | some (.d _) => true
  | _ => false
def restE (ρ0 ρ : En) : List Nat → En
  | [] => ρ
  | v :: vs => (restE ρ0 ρ vs).set v (ρ0.getD v none)
def lcR (ρ0 : En) (vs : List Nat) (mg : Tg) (mt : M Bool) (me : M Ref) : List D → List D → M (List D)
  | [], acc => M.ret acc
  | x :: xs, acc => fun ρ => match mg x (wipeE ρ vs) with
    | none => .stuck
    | some ρ1 => match mt ρ1 with
      | .ok false ρ2 => lcR ρ0 vs mg mt me xs acc (restE ρ0 ρ2 vs)
      | .ok true ρ2 => (match mFrz me ρ2 with
        | .ok y ρ3 => if acc.length < sizeLine then lcR ρ0 vs mg mt me xs (acc ++ [y]) (restE ρ0 ρ3 vs) else .stuck
        | _ => .stuck)
      | _ => .stuck
def mLc (mi : M (List D)) (vs : List Nat) (mg : Tg) (mt : M Bool) (me : M Ref) : M Ref := M.bind mi fun xs ρ => if (vs.all fun v => isData (ρ.getD v none)) = true then M.bind (lcR ρ vs mg mt me xs []) (fun ys => M.ret (.sv (.ol ys))) ρ else .stuck

theorem wipe_get {α : Type} (f : List Nat → List (Option α) → List (Option α)) : True := trivial
theorem wipe_at {σ : L2.St} {j : Nat} : ∀ {vs : List Nat}, (wipe σ vs)[j]? = if j ∈ vs then (σ[j]?).map (fun _ => none) else σ[j]?
  | [] => by simp [wipe]
  | v :: vs => by
    unfold wipe
    by_cases hj : j = v
    · subst hj
      rw [if_pos List.mem_cons_self, List.getElem?_set]
      rw [if_pos rfl, wipe_length]
      by_cases h : j < σ.length
      · rw [if_pos h, List.getElem?_eq_getElem h] <;> rfl
      · rw [if_neg h, List.getElem?_eq_none (by omega)] <;> rfl
    · rw [List.getElem?_set_ne (Ne.symm hj), wipe_at]
      have e : (j ∈ v :: vs) = (j ∈ vs) := by simp [hj]
      simp only [e]
theorem rest_at {ρ0 ρ : En} {j : Nat} (hl : ρ0.length = ρ.length) : ∀ {vs : List Nat}, (restE ρ0 ρ vs).getD j none = if j ∈ vs then ρ0.getD j none else ρ.getD j none
  | [] => by simp [restE]
  | v :: vs => by
    have len : ∀ ws : List Nat, (restE ρ0 ρ ws).length = ρ.length := fun ws => by
      induction ws with
      | nil => rfl
      | cons a b ih => unfold restE; rw [List.length_set, ih]
    unfold restE
    by_cases hj : j = v
    · subst hj
      rw [if_pos List.mem_cons_self]
      by_cases h : j < ρ.length
      · exact getD_set_eq (by rw [len]; exact h)
      · rw [List.getD_eq_getElem?_getD, List.getElem?_eq_none (by rw [List.length_set, len]; omega), List.getD_eq_getElem?_getD, List.getElem?_eq_none (by omega)]
    · rw [getD_set_ne hj, rest_at hl]
      have e : (j ∈ v :: vs) = (j ∈ vs) := by simp [hj]
      simp only [e]
theorem rest_len {ρ0 ρ : En} : ∀ {vs : List Nat}, (restE ρ0 ρ vs).length = ρ.length
  | [] => rfl
  | v :: vs => by unfold restE; rw [List.length_set, rest_len]
theorem wipe_eq {σ σ2 : L2.St} {vs is : List Nat} (o : Off is (wipe σ vs) σ2) (hs : ∀ i ∈ is, i ∈ vs) : wipe σ2 vs = wipe σ vs := by
  apply List.ext_getElem?
  intro j
  rw [wipe_at, wipe_at]
  have hl : σ2.length = σ.length := by rw [o.1, wipe_length]
  by_cases hj : j ∈ vs
  · rw [if_pos hj, if_pos hj]
    by_cases h : j < σ.length
    · rw [List.getElem?_eq_getElem h, List.getElem?_eq_getElem (by omega)] <;> rfl
    · rw [List.getElem?_eq_none (by omega), List.getElem?_eq_none (by omega)]
  · rw [if_neg hj, if_neg hj, o.2 j (fun z => hj (hs j z)), wipe_at, if_neg hj]
section
variable {C : VC} {B : Bd} {W : WX} {ρ ρ0 : En} {σ σ2 : L2.St} {G G1 H : Hp}
theorem EnvR.clear (E : EnvR C B ρ σ none G H) (i : Nat) : EnvR C B (ρ.set i none) (σ.set i none) none G H := by
  refine ⟨?_, by simp [E.len]⟩
  by_cases h : i < ρ.length
  · rw [view_set h (by rw [← E.len]; exact h)]
    exact E.fr.drop (some i) none
  · rw [List.set_eq_of_length_le (by omega), List.set_eq_of_length_le (by rw [← E.len]; omega)]
    exact E.fr
theorem EnvR.wipe (E : EnvR C B ρ σ none G H) : ∀ vs : List Nat, EnvR C B (wipeE ρ vs) (L2.wipe σ vs) none G H
  | [] => E
  | v :: vs => (E.wipe vs).clear v
/-- the block's own slots are as ahead of it -/
theorem EnvR.rest {vs : List Nat} (E : EnvR C B ρ σ2 none G H) (hl : ρ0.length = σ.length) (hl2 : σ2.length = σ.length) (hσ : ∀ j, j ∉ vs → σ2[j]? = σ[j]?)
    (hd : ∀ j ∈ vs, isData (ρ0.getD j none) = true) (hr : ∀ j x, ρ0.getD j none = some (.d x) → ∃ v, σ[j]? = some (some v) ∧ Rp C G v x) : EnvR C B (restE ρ0 ρ vs) σ none G H := by
  have hl3 : ρ0.length = ρ.length := by rw [E.len, hl, hl2]
  refine ⟨?_, by rw [rest_len, E.len, hl2]⟩
  refine E.fr.remap (fun i => match i with | none => some none | some j => if j ∈ vs then none else some (some j)) (fun i j k h1 h2 => ?_) fun i => ?_
  · cases i with
    | none =>
      cases j with
      | none => rfl
      | some j =>
        dsimp only at h1 h2
        split at h2
        · cases h2
        · cases h1; cases h2
    | some i =>
      cases j with
      | none =>
        dsimp only at h1 h2
        split at h1
        · cases h1
        · cases h1; cases h2
      | some j =>
        dsimp only at h1 h2
        split at h1
        · cases h1
        · split at h2
          · cases h2
          · cases h1; cases h2; rfl
  · cases i with
    | none => exact .inl ⟨none, rfl, rfl⟩
    | some j =>
      by_cases h : j ∈ vs
      · refine .inr ⟨if_pos h, ?_⟩
        have e0 : view (restE ρ0 ρ vs) σ none (some j) = (ρ0.getD j none, σ.getD j none) := by
          show ((restE ρ0 ρ vs).getD j none, σ.getD j none) = _
          rw [rest_at hl3, if_pos h]
        rw [e0]
        have hdj := hd j h
        cases q : ρ0.getD j none with
        | none => exact .inl rfl
        | some s =>
          rw [q] at hdj
          cases s with
          | d x =>
            obtain ⟨v, e1, r⟩ := hr j x q
            exact .inr ⟨x, v, by rw [getD_st e1], r⟩
          | ol x => cases hdj
          | od x => cases hdj
          | dr x => cases hdj
          | sc x => cases hdj
          | oi c x => cases hdj
      · refine .inl ⟨some j, if_neg h, ?_⟩
        show ((restE ρ0 ρ vs).getD j none, σ.getD j none) = (ρ.getD j none, σ2.getD j none)
        rw [rest_at hl3, if_neg h, List.getD_eq_getElem?_getD, List.getD_eq_getElem?_getD, List.getD_eq_getElem?_getD, hσ j h]
end

/-! ### the loop -/
structure SQ (C : VC) (X : Cx) (W : WX) (ifs : List Expr) (t : TT) (m : M Bool) : Prop where
  pts : PTs X ifs t
  snd : SndT C W t m
abbrev W0 : WX := fun _ _ _ _ => False
theorem sq_nil {C : VC} {X : Cx} {W : WX} : SQ C X W [] tYes (M.ret true) := ⟨pts_nil, fun B ρ σ G H Q E P => P G H E (Same.refl _)⟩
theorem sq_one {C : VC} {X : Cx} {W : WX} {c : Expr} {t : TT} {m : M Bool} (h : ST C X W c t m) : SQ C X W [c] t m := ⟨pts_one h.pt, h.snd⟩
section
variable {C : VC} {B : Bd} {σ : L2.St} {is vs : List Nat} {g : TG} {tt : TT} {te : TE} {mg : Tg} {mt : M Bool} {me : M Ref}
/-- the invariant ahead of turn i -/
def LcI (C : VC) (B : Bd) (σ : L2.St) (vs : List Nat) (ρ0 : En) (G0 : Hp) (Dd : Addr) (R : List D → En → Prop) (acc : List D) (H : Hp) : Prop := ∃ ρ G, EnvR C B ρ σ (some (.ol acc, .ref Dd)) G H ∧ Same G0 G ∧ R acc ρ
/-- one turn -/
theorem lc_turn {ρ ρ0 : En} {G0 G H : Hp} {Dd : Addr} {acc : List D} {x : D} {J : It} {i : Nat} {xs : List D} (sg : SndG C [] is g mg) (ht : SndT C W0 tt mt) (he : SndE C W0 te me) (hsub : ∀ i ∈ is, i ∈ vs) (wk : Walks C J xs (KStill G0)) (hx : xs[i]? = some x)
    (hl0 : ρ0.length = σ.length) (hd : ∀ j ∈ vs, isData (ρ0.getD j none) = true) (hr : ∀ j x, ρ0.getD j none = some (.d x) → ∃ v, σ[j]? = some (some v) ∧ Rp C G0 v x) (E : EnvR C B ρ σ (some (.ol acc, .ref Dd)) G H) (S : Same G0 G) {Nx : Hp → Prop} {rest : List D}
    (nx : ∀ acc' ρ' G' H', EnvR C B ρ' σ (some (.ol acc', .ref Dd)) G' H' → Same G0 G' → lcR ρ0 vs mg mt me rest acc' ρ' ≠ .stuck → lcR ρ0 vs mg mt me (x :: rest) acc ρ = lcR ρ0 vs mg mt me rest acc' ρ' → Nx H') (hn : lcR ρ0 vs mg mt me (x :: rest) acc ρ ≠ .stuck) :
    ∀ v H', J.yld i H v H' → g v (wipe σ vs) H' fun σ2 H2 => wipe σ2 vs = wipe σ vs ∧ tt σ2 H2 fun b H3 => if b = true then te σ2 H3 fun y H4 => ∃ acc, H4 Dd = some (.lst acc) ∧ acc.length < sizeLine ∧ Nx (upd H4 Dd (.lst (acc ++ [y]))) else Nx H3 := by
  intro v H' hy
  obtain ⟨B', b1, b2, b3, _⟩ := E.frame
  obtain ⟨G2, S2, E2, r2⟩ := wk.yld i x v H' G H hx ⟨S, E.fr.gh⟩ b2 hy
  have e0 : lcR ρ0 vs mg mt me (x :: rest) acc ρ = (match mg x (wipeE ρ vs) with
    | none => .stuck
    | some ρ1 => match mt ρ1 with
      | .ok false ρ2 => lcR ρ0 vs mg mt me rest acc (restE ρ0 ρ2 vs)
      | .ok true ρ2 => (match mFrz me ρ2 with
        | .ok y ρ3 => if acc.length < sizeLine then lcR ρ0 vs mg mt me rest (acc ++ [y]) (restE ρ0 ρ3 vs) else .stuck
        | _ => .stuck)
      | _ => .stuck) := rfl
  rw [e0] at hn
  cases q1 : mg x (wipeE ρ vs) with
  | none => rw [q1] at hn; exact absurd rfl hn
  | some ρ1 =>
    rw [q1] at hn e0
    dsimp only at hn e0
    refine sg B' _ _ G2 H' _ x v ρ1 (E2.wipe vs) (fun j hj => absurd hj (by simp)) r2 q1 fun σ2 E3 _ off => ⟨wipe_eq off hsub, ?_⟩
    have hlen : σ2.length = σ.length := by rw [off.1, wipe_length]
    have hσ : ∀ j, j ∉ vs → σ2[j]? = σ[j]? := fun j hj => by rw [off.2 j (fun z => hj (hsub j z)), wipe_at, if_neg hj]
    refine ht B' ρ1 σ2 G2 H' _ E3 ?_
    cases q2 : mt ρ1 with
    | stuck => rw [q2] at hn; exact absurd rfl hn
    | err c ρ' => rw [q2] at hn; exact absurd rfl hn
    | ok b ρ2 =>
      rw [q2] at hn e0
      intro G3 H3 E4 S3
      have S03 : Same G0 G3 := (S.trans S2).trans S3
      cases b with
      | false =>
        rw [if_neg Bool.false_ne_true]
        have E5 := E4.rest hl0 hlen hσ hd fun j x e => by
          obtain ⟨v, h1, h2⟩ := hr j x e
          exact ⟨v, h1, h2.mono S03⟩
        exact nx acc _ G3 H3 (b3 _ _ _ _ E5).1 S03 hn e0
      | true =>
        rw [if_pos rfl]
        dsimp only at hn e0
        refine he.f E4 ?_
        cases q3 : mFrz me ρ2 with
        | stuck => rw [q3] at hn; exact absurd rfl hn
        | err c ρ' => rw [q3] at hn; exact absurd rfl hn
        | ok y ρ3 =>
          rw [q3] at hn e0
          dsimp only at hn e0
          intro w G4 H4 E5 S4 rw
          by_cases hz : acc.length < sizeLine
          · rw [if_pos hz] at hn e0
            have S04 : Same G0 G4 := S03.trans S4
            have E6 := E5.rest hl0 hlen hσ hd fun j x e => by
              obtain ⟨v, h1, h2⟩ := hr j x e
              exact ⟨v, h1, h2.mono S04⟩
            obtain ⟨p, us, e1, hp, rl, k⟩ := (b3 _ _ _ _ E6).1.chgX
            cases e1
            exact ⟨us, hp, by rw [rl.length]; exact hz, nx (acc ++ [y]) _ G4 _ (k _ _ (rl.app (.cons rw .nil))) S04 hn e0⟩
          · rw [if_neg hz] at hn
            exact absurd rfl hn
/-- all turns -/
theorem lc_loop {ρ ρ0 : En} {G0 H : Hp} {Dd : Addr} {acc : List D} {J : It} {xs : List D} (sg : SndG C [] is g mg) (ht : SndT C W0 tt mt) (he : SndE C W0 te me) (hsub : ∀ i ∈ is, i ∈ vs) (wk : Walks C J xs (KStill G0))
    (hl0 : ρ0.length = σ.length) (hd : ∀ j ∈ vs, isData (ρ0.getD j none) = true) (hr : ∀ j x, ρ0.getD j none = some (.d x) → ∃ v, σ[j]? = some (some v) ∧ Rp C G0 v x) (E : EnvR C B ρ σ (some (.ol acc, .ref Dd)) G0 H) {Kf : Hp → Prop}
    (hn : lcR ρ0 vs mg mt me xs acc ρ ≠ .stuck) (fin : ∀ acc' ρ' G' H', lcR ρ0 vs mg mt me xs acc ρ = .ok acc' ρ' → EnvR C B ρ' σ (some (.ol acc', .ref Dd)) G' H' → Same G0 G' → Kf H') :
    ∃ Wn : Nat → Nat → Hp → Prop, (∃ m, Wn 0 m H) ∧ ∀ i m H, Wn i m H → (J.stop i H ∧ Kf H) ∨ (J.go i H ∧ ∃ Nx : Hp → Prop, (∀ H', Nx H' → ∃ m', m' < m ∧ Wn (i + 1) m' H') ∧ ∀ x H', J.yld i H x H' →
      g x (wipe σ vs) H' fun σ2 H2 => wipe σ2 vs = wipe σ vs ∧ tt σ2 H2 fun b H3 => if b = true then te σ2 H3 fun y H4 => ∃ acc, H4 Dd = some (.lst acc) ∧ acc.length < sizeLine ∧ Nx (upd H4 Dd (.lst (acc ++ [y]))) else Nx H3) := by
  refine ⟨fun i m H' => i + m = xs.length ∧ ∃ acc' ρ' G', EnvR C B ρ' σ (some (.ol acc', .ref Dd)) G' H' ∧ Same G0 G' ∧ lcR ρ0 vs mg mt me (xs.drop i) acc' ρ' ≠ .stuck ∧ lcR ρ0 vs mg mt me xs acc ρ = lcR ρ0 vs mg mt me (xs.drop i) acc' ρ',
    ⟨xs.length, by simp, acc, ρ, G0, E, Same.refl _, by rw [List.drop_zero]; exact hn, by rw [List.drop_zero]⟩, ?_⟩
  rintro i m H1 ⟨him, acc1, ρ1, G1, E1, S1, n1, e1⟩
  by_cases hil : i < xs.length
  · have ed := List.drop_eq_getElem_cons hil
    rw [ed] at n1 e1
    refine .inr ⟨wk.go i xs[i] G1 H1 (by simp [hil]) ⟨S1, E1.fr.gh⟩, fun H' => i + 1 + (m - 1) = xs.length ∧ ∃ acc' ρ' G', EnvR C B ρ' σ (some (.ol acc', .ref Dd)) G' H' ∧ Same G0 G' ∧ lcR ρ0 vs mg mt me (xs.drop (i + 1)) acc' ρ' ≠ .stuck ∧ lcR ρ0 vs mg mt me xs acc ρ = lcR ρ0 vs mg mt me (xs.drop (i + 1)) acc' ρ',
      fun H' h => ⟨m - 1, by omega, h⟩, lc_turn sg ht he hsub wk (by simp [hil]) hl0 hd hr E1 S1 (fun acc' ρ' G' H' E' S' n' e' => ⟨by omega, acc', ρ', G', E', S', n', e1.trans e'⟩) n1⟩
  · have hi2 : i = xs.length := by omega
    subst hi2
    rw [List.drop_length] at e1
    exact .inl ⟨wk.stop G1 H1 ⟨S1, E1.fr.gh⟩, fin acc1 ρ1 G1 H1 e1 E1 S1⟩
theorem lcR_noErr {ρ0 : En} {vs : List Nat} {mg : Tg} {mt : M Bool} {me : M Ref} : ∀ {xs acc : List D} {ρ : En} {c : Str} {ρ' : En}, lcR ρ0 vs mg mt me xs acc ρ ≠ .err c ρ'
  | [], acc, ρ, c, ρ', h => by cases h
  | x :: xs, acc, ρ, c, ρ', h => by
    unfold lcR at h
    split at h
    · cases h
    · split at h
      · exact lcR_noErr h
      · split at h
        · split at h
          · exact lcR_noErr h
          · cases h
        · cases h
      · cases h
variable {W : WX} {wi : TI} {mi : M (List D)}
theorem snd_lc (hi : SndI C W wi mi) (sg : SndG C [] is g mg) (ht : SndT C W0 tt mt) (he : SndE C W0 te me) (hsub : ∀ i ∈ is, i ∈ vs) : SndE C W (tLc wi g tt te vs) (mLc mi vs mg mt me) := by
  intro B ρ σ G H Q E P
  refine hi B ρ σ G H _ E ?_
  unfold mLc at P
  rw [mbind] at P
  cases q : mi ρ with
  | stuck => rw [q] at P; exact P
  | err c ρ' => rw [q] at P; exact P
  | ok xs ρ1 =>
    rw [q, bind_ok] at P
    by_cases hd : (vs.all fun v => isData (ρ1.getD v none)) = true
    · rw [if_pos hd, mbind] at P
      intro J G1 H1 E1 S1 wk Dd hD
      refine lc_loop (ρ0 := ρ1) sg ht he hsub wk E1.len (fun j hj => List.all_eq_true.mp hd j hj) (fun j x e => ?_) (E1.newL hD .nil) (fun z => ?_) fun acc' ρ' G' H' e E' S' => ?_
      · obtain ⟨v, fp, h1, o⟩ := E1.own e
        exact ⟨v, h1, o.2⟩
      · rw [z] at P; exact P
      · rw [e, bind_ok] at P
        exact P _ G' H' E' (S1.trans S')
    · rw [if_neg hd] at P
      exact P.elim
variable {X : Cx} {tg iter elt : Expr} {ifs : List Expr} {scope : Scope} {own : List (Str × Nat)} {pos spos py : Pos} {i : Nat} {y : Str} {P : List Nat}
theorem se_lc (hc : X.calm = true) (hN : X.N.Nodup) (hi : SI C X W tg iter wi mi) (ok : BlkOk X.N X.env.scope scope own) (hg : ∀ (s : Shared) (H : Hp) (A : Addr) (cl : List (Str × Addr)) (fp : List Addr), PG (X.blk s H scope (compEnvC scope cl A X.env) fp) tg g) (sg : SndG C [] is g mg)
    (hq : ∀ (s : Shared) (H : Hp) (A : Addr) (cl : List (Str × Addr)) (fp : List Addr), SQ C (X.blk s H scope (compEnvC scope cl A X.env) fp) W0 ifs tt mt)
    (he : ∀ (s : Shared) (H : Hp) (A : Addr) (cl : List (Str × Addr)) (fp : List Addr), SE C (X.blk s H scope (compEnvC scope cl A X.env) fp) W0 elt te me) (hsub : ∀ i ∈ is, i ∈ own.map (·.2) := by decide)
    (hs : ∀ x, foldedSetIterable iter X.env x = pure x := by intro _; rfl) : SE C X W (.ListComp elt [⟨tg, iter, ifs, 0⟩] scope pos) (tLc wi g tt te (own.map (·.2))) (mLc mi (own.map (·.2)) mg mt me) :=
  ⟨pe_lc hc hN hi.pi ok hg (fun s H A cl fp => (hq s H A cl fp).pts) (fun s H A cl fp => (he s H A cl fp).pe) hs, snd_lc hi.snd sg (hq X.s_0 X.H_0 0 [] []).snd (he X.s_0 X.H_0 0 [] []).snd hsub⟩
theorem s_setLc (hc : X.calm = true) (hN : X.N.Nodup) (hy : X.N[i]? = some y) (hi : SI C X W tg iter wi mi) (ok : BlkOk X.N X.env.scope scope own) (hg : ∀ (s : Shared) (H : Hp) (A : Addr) (cl : List (Str × Addr)) (fp : List Addr), PG (X.blk s H scope (compEnvC scope cl A X.env) fp) tg g) (sg : SndG C [] is g mg)
    (hq : ∀ (s : Shared) (H : Hp) (A : Addr) (cl : List (Str × Addr)) (fp : List Addr), SQ C (X.blk s H scope (compEnvC scope cl A X.env) fp) W0 ifs tt mt)
    (he : ∀ (s : Shared) (H : Hp) (A : Addr) (cl : List (Str × Addr)) (fp : List Addr), SE C (X.blk s H scope (compEnvC scope cl A X.env) fp) W0 elt te me)
    (hsw : swapsWith (.ListComp elt [⟨tg, iter, ifs, 0⟩] scope pos) (some (.Name y py)) spos.line X.env = pure true) (hip : i ∉ P := by decide) (hsub : ∀ i ∈ is, i ∈ own.map (·.2) := by decide) (hyl : X.env.scope.names.lookup y = some .local := by rfl)
    (hs : ∀ x, foldedSetIterable iter X.env x = pure x := by intro _; rfl) : S1 C P X W (.Assign [.Name y py] (.ListComp elt [⟨tg, iter, ifs, 0⟩] scope pos) spos) (tAsg (tLc wi g tt te (own.map (·.2))) (gName i)) (mSet i (mLc mi (own.map (·.2)) mg mt me)) :=
  ⟨ps_setLc hc hN hy hyl hsw hi.pi ok hg (fun s H A cl fp => (hq s H A cl fp).pts) (fun s H A cl fp => (he s H A cl fp).pe) hs, snd_set hip (snd_lc hi.snd sg (hq X.s_0 X.H_0 0 [] []).snd (he X.s_0 X.H_0 0 [] []).snd hsub)⟩
end
end VS

/-! VS9: comprehensions with two for, chains, dicts. -/
namespace VS
open PySem PySem.Spec PyProof.Rows L2

/-! ### [e for .. for ..] -/
def lcR2 (ρ0 : En) (vs : List Nat) (mg : Tg) (mt : M Bool) (mi1 : M (List D)) (vs1 : List Nat) (mg1 : Tg) (mt1 : M Bool) (me : M Ref) : List D → List D → M (List D)
  | [], acc => M.ret acc
  | x :: xs, acc => fun ρ => match mg x (wipeE ρ vs) with
    | none => .stuck
    | some ρ1 => match mt ρ1 with
      | .ok false ρ2 => lcR2 ρ0 vs mg mt mi1 vs1 mg1 mt1 me xs acc (restE ρ0 ρ2 vs)
      | .ok true ρ2 => (match mi1 ρ2 with
        | .ok ys ρ3 => if (vs1.all fun v => isData (ρ3.getD v none)) = true then (match lcR ρ3 vs1 mg1 mt1 me ys acc ρ3 with
          | .ok acc' ρ4 => lcR2 ρ0 vs mg mt mi1 vs1 mg1 mt1 me xs acc' (restE ρ0 ρ4 vs)
          | _ => .stuck) else .stuck
        | _ => .stuck)
      | _ => .stuck
def mLc2 (mi : M (List D)) (vs : List Nat) (mg : Tg) (mt : M Bool) (mi1 : M (List D)) (vs1 : List Nat) (mg1 : Tg) (mt1 : M Bool) (me : M Ref) : M Ref := M.bind mi fun xs ρ => if (vs.all fun v => isData (ρ.getD v none)) = true then M.bind (lcR2 ρ vs mg mt mi1 vs1 mg1 mt1 me xs []) (fun ys => M.ret (.sv (.ol ys))) ρ else .stuck
section
variable {C : VC} {B : Bd} {σ : L2.St} {is vs is1 vs1 : List Nat} {g g1 : TG} {tt tt1 : TT} {te : TE} {wi wi1 : TI} {mg mg1 : Tg} {mt mt1 : M Bool} {me : M Ref} {mi mi1 : M (List D)} {W : WX}
theorem snd_lc2 (hi : SndI C W wi mi) (sg : SndG C [] is g mg) (ht : SndT C W0 tt mt) (hi1 : SndI C W0 wi1 mi1) (sg1 : SndG C [] is1 g1 mg1) (ht1 : SndT C W0 tt1 mt1) (he : SndE C W0 te me) (hsub : ∀ i ∈ is, i ∈ vs) (hsub1 : ∀ i ∈ is1, i ∈ vs1) :
    SndE C W (tLc2 wi g tt wi1 g1 tt1 te vs vs1) (mLc2 mi vs mg mt mi1 vs1 mg1 mt1 me) := by
  intro B ρ σ G H Q E P
  refine hi B ρ σ G H _ E ?_
  unfold mLc2 at P
  rw [mbind] at P
  cases q : mi ρ with
  | stuck => rw [q] at P; exact P
  | err c ρ' => rw [q] at P; exact P
  | ok xs ρ0 =>
    rw [q, bind_ok] at P
    by_cases hd0 : (vs.all fun v => isData (ρ0.getD v none)) = true
    · rw [if_pos hd0, mbind] at P
      intro J G0 H0 E0 S0 wk Dd hD
      have hd : ∀ j ∈ vs, isData (ρ0.getD j none) = true := fun j hj => List.all_eq_true.mp hd0 j hj
      have hr : ∀ j x, ρ0.getD j none = some (.d x) → ∃ v, σ[j]? = some (some v) ∧ Rp C G0 v x := fun j x e => by
        obtain ⟨v, fp, h1, o⟩ := E0.own e
        exact ⟨v, h1, o.2⟩
      refine ⟨fun i m H' => i + m = xs.length ∧ ∃ acc' ρ' G', EnvR C B ρ' σ (some (.ol acc', .ref Dd)) G' H' ∧ Same G0 G' ∧ PostE C B W σ G Q ((lcR2 ρ0 vs mg mt mi1 vs1 mg1 mt1 me (xs.drop i) acc' ρ').bind fun ys => M.ret (.sv (.ol ys))),
        ⟨xs.length, by simp, [], ρ0, G0, E0.newL hD .nil, Same.refl _, by rw [List.drop_zero]; exact P⟩, ?_⟩
      rintro i m H1 ⟨him, acc1, ρ1, G1, E1, S1, P1⟩
      by_cases hil : i < xs.length
      · rw [List.drop_eq_getElem_cons hil] at P1
        refine .inr ⟨wk.go i xs[i] G1 H1 (by simp [hil]) ⟨S1, E1.fr.gh⟩, fun H' => i + 1 + (m - 1) = xs.length ∧ ∃ acc' ρ' G', EnvR C B ρ' σ (some (.ol acc', .ref Dd)) G' H' ∧ Same G0 G' ∧ PostE C B W σ G Q ((lcR2 ρ0 vs mg mt mi1 vs1 mg1 mt1 me (xs.drop (i + 1)) acc' ρ').bind fun ys => M.ret (.sv (.ol ys))),
          fun H' h => ⟨m - 1, by omega, h⟩, fun v H2 hy => ?_⟩
        obtain ⟨B', b1, b2, b3, _⟩ := E1.frame
        obtain ⟨G2, S2, E2, r2⟩ := wk.yld i xs[i] v H2 G1 H1 (by simp [hil]) ⟨S1, E1.fr.gh⟩ b2 hy
        unfold lcR2 at P1
        cases q1 : mg xs[i] (wipeE ρ1 vs) with
        | none => rw [q1] at P1; exact P1.elim
        | some ρa =>
          rw [q1] at P1
          dsimp only at P1
          refine sg B' _ _ G2 H2 _ xs[i] v ρa (E2.wipe vs) (fun j hj => absurd hj (by simp)) r2 q1 fun σ2 E3 _ off => ⟨wipe_eq off hsub, ?_⟩
          have hlen : σ2.length = σ.length := by rw [off.1, wipe_length]
          have hσ : ∀ j, j ∉ vs → σ2[j]? = σ[j]? := fun j hj => by rw [off.2 j (fun z => hj (hsub j z)), wipe_at, if_neg hj]
          have hrG : ∀ {G'}, Same G0 G' → ∀ j x, ρ0.getD j none = some (.d x) → ∃ v, σ[j]? = some (some v) ∧ Rp C G' v x := fun S j x e => by
            obtain ⟨v, h1, h2⟩ := hr j x e
            exact ⟨v, h1, h2.mono S⟩
          refine ht B' ρa σ2 G2 H2 _ E3 ?_
          cases q2 : mt ρa with
          | stuck => rw [q2] at P1; exact P1.elim
          | err c ρ' => rw [q2] at P1; exact P1.elim
          | ok b ρb =>
            rw [q2] at P1
            intro G3 H3 E4 S3
            have S03 : Same G0 G3 := (S1.trans S2).trans S3
            cases b with
            | false =>
              rw [if_neg Bool.false_ne_true]
              exact ⟨by omega, acc1, _, G3, (b3 _ _ _ _ (E4.rest E0.len hlen hσ hd (hrG S03))).1, S03, P1⟩
            | true =>
              rw [if_pos rfl]
              dsimp only at P1
              refine hi1 B' ρb σ2 G3 H3 _ E4 ?_
              cases q3 : mi1 ρb with
              | stuck => rw [q3] at P1; exact P1.elim
              | err c ρ' => rw [q3] at P1; exact P1.elim
              | ok ys ρc =>
                rw [q3] at P1
                dsimp only at P1
                intro J1 G4 H4 E5 S4 wk1
                have S04 : Same G0 G4 := S03.trans S4
                by_cases hd1 : (vs1.all fun v => isData (ρc.getD v none)) = true
                · rw [if_pos hd1] at P1
                  refine lc_loop (ρ0 := ρc) (Dd := Dd) sg1 ht1 he hsub1 wk1 E5.len (fun j hj => List.all_eq_true.mp hd1 j hj) (fun j x e => ?_) (b3 _ _ _ _ E5).1 (fun z => ?_) fun acc' ρ' G' H' e E' S' => ?_
                  · obtain ⟨v, fp, h1, o⟩ := E5.own e
                    exact ⟨v, h1, o.2⟩
                  · rw [z] at P1; exact P1
                  · rw [e] at P1
                    obtain ⟨B2, d1, d2, d3, _⟩ := E'.frame
                    have S05 : Same G0 G' := S04.trans S'
                    exact ⟨by omega, acc', _, G', (d3 _ _ _ _ (d2.rest E0.len hlen hσ hd (hrG S05))).1, S05, P1⟩
                · rw [if_neg hd1] at P1
                  exact P1.elim
      · have hi2 : i = xs.length := by omega
        subst hi2
        rw [List.drop_length] at P1
        exact .inl ⟨wk.stop G1 H1 ⟨S1, E1.fr.gh⟩, P1 _ G1 H1 E1 (S0.trans S1)⟩
    · rw [if_neg hd0] at P
      exact P.elim
variable {X : Cx} {tg iter elt tg1 iter1 : Expr} {ifs ifs1 : List Expr} {scope : Scope} {own : List (Str × Nat)} {pos spos py : Pos} {i : Nat} {y : Str} {P : List Nat}
abbrev Blk (X : Cx) (scope : Scope) (p : Cx → Prop) : Prop := ∀ (s : Shared) (H : Hp) (A : Addr) (cl : List (Str × Addr)) (fp : List Addr), p (X.blk s H scope (compEnvC scope cl A X.env) fp)
theorem se_lc2 (hc : X.calm = true) (hN : X.N.Nodup) (hi : SI C X W tg iter wi mi) (ok : BlkOk X.N X.env.scope scope own) (hv : ∀ i ∈ vs1, i ∈ own.map (·.2)) (hg : Blk X scope fun Y => PG Y tg g) (sg : SndG C [] is g mg) (hq : Blk X scope fun Y => SQ C Y W0 ifs tt mt)
    (hi1 : Blk X scope fun Y => SI C Y W0 tg1 iter1 wi1 mi1) (hg1 : Blk X scope fun Y => PG Y tg1 g1) (sg1 : SndG C [] is1 g1 mg1) (hq1 : Blk X scope fun Y => SQ C Y W0 ifs1 tt1 mt1) (he : Blk X scope fun Y => SE C Y W0 elt te me)
    (hsub : ∀ i ∈ is, i ∈ own.map (·.2) := by decide) (hsub1 : ∀ i ∈ is1, i ∈ vs1 := by decide) (hs : ∀ x, foldedSetIterable iter X.env x = pure x := by intro _; rfl) (hs1 : ∀ env x, foldedSetIterable iter1 env x = pure x := by intro _ _; rfl) :
    SE C X W (.ListComp elt [⟨tg, iter, ifs, 0⟩, ⟨tg1, iter1, ifs1, 0⟩] scope pos) (tLc2 wi g tt wi1 g1 tt1 te (own.map (·.2)) vs1) (mLc2 mi (own.map (·.2)) mg mt mi1 vs1 mg1 mt1 me) :=
  ⟨pe_lc2 hc hN hi.pi ok hv hg (fun s H A cl fp => (hq s H A cl fp).pts) (fun s H A cl fp => (hi1 s H A cl fp).pi) hg1 (fun s H A cl fp => (hq1 s H A cl fp).pts) (fun s H A cl fp => (he s H A cl fp).pe) hs hs1,
    snd_lc2 hi.snd sg (hq X.s_0 X.H_0 0 [] []).snd (hi1 X.s_0 X.H_0 0 [] []).snd sg1 (hq1 X.s_0 X.H_0 0 [] []).snd (he X.s_0 X.H_0 0 [] []).snd hsub hsub1⟩
end

/-! ### a < b < c -/
def mChain (f f' : D → D → Option Rv) (a b c : M Ref) : M Ref := M.bind (opd a) fun x => M.bind (opd b) fun y => M.bind (look x) fun d => M.bind (look y) fun e => M.bind (M.opt (f d e)) fun r => match r with
  | .sc (.bl true) => M.bind (opd c) fun z => M.bind (look y) fun e2 => M.bind (look z) fun d2 => M.bind (M.opt (f' e2 d2)) fun r' => M.ret r'.ref
  | .sc (.bl false) => M.ret (rSc (.bl false))
  | _ => fun _ => .stuck
section
variable {C : VC} {X : Cx} {W : WX} {a b c : Expr} {ta tb tc : TE} {ma mb mc : M Ref} {pos : Pos} {r r' : R2} {f f' : D → D → Option Rv}
theorem snd_chain (hr : RuleB C r f) (hr' : RuleB C r' f') (ha : SndE C W ta ma) (hb : SndE C W tb mb) (hc : SndE C W tc mc) : SndE C W (tChain r r' ta tb tc) (mChain f f' ma mb mc) := by
  intro B ρ σ G H Q E P
  refine ha.o B ρ σ G H _ E ?_
  unfold mChain at P
  rw [mbind] at P
  cases q1 : opd ma ρ with
  | stuck => rw [q1] at P; exact P
  | err c ρ' => rw [q1] at P; exact P
  | ok o1 ρ1 =>
    rw [q1, bind_ok, mbind] at P
    intro v G1 H1 E1 S1 r1
    refine hb.o B ρ1 σ G1 H1 _ E1 ?_
    cases q2 : opd mb ρ1 with
    | stuck => rw [q2] at P; exact P
    | err c ρ' => rw [q2] at P; exact P
    | ok o2 ρ2 =>
      rw [q2, bind_ok, mbind] at P
      intro w G2 H2 E2 S2 r2
      have S12 := S1.trans S2
      unfold look at P
      cases q3 : vwO ρ2 o1 with
      | none => rw [q3] at P; exact P.elim
      | some d =>
        rw [q3, mopt_some, mret, bind_ok, mbind] at P
        cases q4 : vwO ρ2 o2 with
        | none => rw [q4] at P; exact P.elim
        | some e =>
          rw [q4, mopt_some, mret, bind_ok, mbind] at P
          cases q5 : f d e with
          | none => rw [q5] at P; exact P.elim
          | some z =>
            rw [q5, mopt_some, mret, bind_ok] at P
            refine hr G2 H2 v w d e z _ E2.fr.gh (vw_rp E2 (r1.mono S2) q3) (vw_rp E2 r2 q4) q5 ?_
            cases z with
            | sc s =>
              cases s with
              | bl k =>
                refine ⟨k, rfl, ?_⟩
                cases k with
                | true =>
                  rw [if_pos rfl]
                  replace P : PostE C B W σ G Q (M.bind (opd mc) (fun z => M.bind (look o2) fun e2 => M.bind (look z) fun d2 => M.bind (M.opt (f' e2 d2)) fun r' => M.ret r'.ref) ρ2) := P
                  rw [mbind] at P
                  refine hc.o B ρ2 σ G2 H2 _ E2 ?_
                  cases q6 : opd mc ρ2 with
                  | stuck => rw [q6] at P; exact P
                  | err c ρ' => rw [q6] at P; exact P
                  | ok o3 ρ3 =>
                    rw [q6, bind_ok, mbind] at P
                    intro u G3 H3 E3 S3 r3
                    unfold look at P
                    cases q7 : vwO ρ3 o2 with
                    | none => rw [q7] at P; exact P.elim
                    | some e2 =>
                      rw [q7, mopt_some, mret, bind_ok, mbind] at P
                      cases q8 : vwO ρ3 o3 with
                      | none => rw [q8] at P; exact P.elim
                      | some d2 =>
                        rw [q8, mopt_some, mret, bind_ok, mbind] at P
                        cases q9 : f' e2 d2 with
                        | none => rw [q9] at P; exact P.elim
                        | some z' =>
                          rw [q9, mopt_some, mret, bind_ok] at P
                          exact hr' G3 H3 w u e2 d2 z' _ E3.fr.gh (vw_rp E3 (r2.mono S3) q7) (vw_rp E3 r3 q8) q9 (fin_of E3 (S12.trans S3) P)
                | false =>
                  rw [if_neg Bool.false_ne_true]
                  exact P _ G2 H2 (E2.res (Sc.rp (.bl false))) S12
              | _ => exact P.elim
            | _ => exact P.elim
theorem se_chain {op op' : CmpOp} (ho : OpR X (compareOp op) r) (ho' : OpR X (compareOp op') r') (hr : RuleB C r f) (hr' : RuleB C r' f') (ha : SE C X W a ta ma) (hb : SE C X W b tb mb) (hcc : SE C X W c tc mc)
    (hm : lastMarks [op, op'] [b, c] = false := by with_unfolding_all rfl) : SE C X W (.Compare a [op, op'] [b, c] pos) (tChain r r' ta tb tc) (mChain f f' ma mb mc) :=
  ⟨pe_chain ho ho' ha.pe hb.pe hcc.pe hm, snd_chain hr hr' ha.snd hb.snd hcc.snd⟩
end
end VS

/-! VR: sorted lists of tuples of whole numbers of any sign, sets. -/
namespace VR
open PySem PySem.Spec PyProof.Rows L2

def lexI : List Int → List Int → Bool
  | [], [] => false
  | [], _ :: _ => true
  | _ :: _, [] => false
  | x :: xs, y :: ys => if x = y then lexI xs ys else decide (x < y)
theorem lexI_asym : ∀ {a b : List Int}, lexI a b = true → lexI b a = false
  | [], [], h => by cases h
  | [], _ :: _, _ => rfl
  | _ :: _, [], h => by cases h
  | x :: xs, y :: ys, h => by
    unfold lexI at h ⊢
    by_cases e : x = y
    · rw [if_pos e] at h
      rw [if_pos e.symm]
      exact lexI_asym h
    · rw [if_neg e] at h
      rw [if_neg (Ne.symm e)]
      have := of_decide_eq_true h
      exact decide_eq_false (by omega)
theorem lexI_tr : ∀ {a b c : List Int}, lexI b a = false → lexI c b = false → lexI c a = false
  | [], [], c, _, h2 => h2
  | [], b :: bs, c, h1, h2 => by
    cases c with
    | nil => cases h2
    | cons c cs => rfl
  | a :: as, [], c, h1, h2 => by cases h1
  | a :: as, b :: bs, [], h1, h2 => by cases h2
  | a :: as, b :: bs, c :: cs, h1, h2 => by
    unfold lexI at h1 h2 ⊢
    by_cases e1 : b = a
    · rw [if_pos e1] at h1
      by_cases e2 : c = b
      · rw [if_pos e2] at h2
        rw [if_pos (e2.trans e1)]
        exact lexI_tr h1 h2
      · rw [if_neg e2] at h2
        rw [if_neg (by omega)]
        have := of_decide_eq_false h2
        exact decide_eq_false (by omega)
    · rw [if_neg e1] at h1
      have k1 := of_decide_eq_false h1
      by_cases e2 : c = b
      · rw [if_neg (by omega)]
        exact decide_eq_false (by omega)
      · rw [if_neg e2] at h2
        have k2 := of_decide_eq_false h2
        rw [if_neg (by omega)]
        exact decide_eq_false (by omega)
theorem lexI_eq : ∀ {a b : List Int}, lexI a b = false → lexI b a = false → a = b
  | [], [], _, _ => rfl
  | [], _ :: _, h, _ => by cases h
  | _ :: _, [], _, h => by cases h
  | x :: xs, y :: ys, h1, h2 => by
    unfold lexI at h1 h2
    by_cases e : x = y
    · rw [if_pos e] at h1
      rw [if_pos e.symm] at h2
      rw [e, lexI_eq h1 h2]
    · rw [if_neg e] at h1
      rw [if_neg (Ne.symm e)] at h2
      have k1 := of_decide_eq_false h1
      have k2 := of_decide_eq_false h2
      omega
section
variable {pr : Program} {wd : World} {Ar : Around} {st : Shared}
theorem walk_lex {R : Bool → Shared → Prop} {b fin : Bool} : ∀ {us ws : List Value} {as bs : List Int} (i : Nat), IntsAre us as → IntsAre ws bs → fin = decide (as.length < bs.length) → R (lexI as bs) st → PySem.W.KatLex pr wd Ar b fin R (us.zip ws) i st
  | _, _, _, _, i, .nil, .nil, e, h => by
    subst e
    exact PySem.W.kat_nil h
  | _, _, _, _, i, .nil, .cons n t r, e, h => by
    subst e
    exact PySem.W.kat_nil (by simpa [lexI] using h)
  | _, _, _, _, i, .cons n t r, .nil, e, h => by
    subst e
    exact PySem.W.kat_nil (by simpa [lexI] using h)
  | _, _, _, _, i, .cons (ns := as) n t r, .cons (ns := bs) m u q, e, h => by
    refine PySem.W.kat_cons (wpAny_eqBool_int ?_)
    unfold lexI at h
    by_cases hnm : n = m
    · rw [if_pos hnm] at h
      rw [show (n == m) = true from beq_iff_eq.mpr hnm]
      exact PySem.W.kat_yes (walk_lex (i + 1) r q (by rw [e]; simp) h)
    · rw [if_neg hnm] at h
      rw [show (n == m) = false from beq_eq_false_iff_ne.mpr hnm]
      exact PySem.W.kat_no (TS.oneLt_ints _ h)
/-- tuples with at least one whole number -/
def TupsAny (hp : Heap) (vs : List Value) : Prop := ∀ v ∈ vs, ∃ ns, TS.TupInts hp v ns ∧ ns ≠ []
theorem firsts_any {hp : Heap} : ∀ {vs : List Value}, TupsAny hp vs → ∃ fs, PySem.W.KatTups hp vs fs ∧ fs.length = vs.length ∧ ∀ f ∈ fs, ∃ n t, f = Value.int n t
  | [], _ => ⟨[], .nil, rfl, fun f hf => by cases hf⟩
  | v :: vs, x => by
    obtain ⟨fs, k, hl, hi⟩ := firsts_any (vs := vs) fun u hu => x u (List.mem_cons_of_mem _ hu)
    obtain ⟨ns, ⟨a, xs, rfl, ⟨o, ho, hc, n, hd⟩, i⟩, hn⟩ := x v List.mem_cons_self
    obtain ⟨xl⟩ := xs
    cases i with
    | nil => exact absurd rfl hn
    | cons m t r =>
      refine ⟨.int m t :: fs, .cons ho hc hd rfl k, congrArg Nat.succ hl, fun f hf => ?_⟩
      rcases List.mem_cons.mp hf with rfl | hf
      · exact ⟨m, t, rfl⟩
      · exact hi f hf
abbrev ltT (hp : Heap) (v u : Value) : Bool := lexI (TS.intsOf hp v) (TS.intsOf hp u)
theorem swo_T (hp : Heap) : SrtO.Swo (ltT hp) := ⟨fun _ _ h => lexI_asym h, fun _ _ _ h1 h2 => lexI_tr h1 h2⟩
theorem tups_sortable {a : Addr} {vs : List Value} (h0 : 0 < vs.length) (x : TupsAny st.heap vs) (hl : ∀ o, st.heap.get? a = some o → o.cls ≠ .type "tuple") : SrtO.SortableO pr wd Ar st a vs (ltT st.heap) := by
  intro h' keep
  have kt : ∀ b o, st.heap.get? b = some o → o.cls = .type "tuple" → h'.get? b = some o := fun b o e c => keep b o (fun z => by subst z; exact hl o e c) e
  have x' : TupsAny h' vs := fun v hv => by
    obtain ⟨ns, t, hn⟩ := x v hv
    exact ⟨ns, t.keeps kt, hn⟩
  obtain ⟨fs, h1, h2, h3⟩ := firsts_any x'
  refine ⟨tuples' true, fun Q E hq => ?_, fun p q hp hq => ?_⟩
  · refine PySem.W.kat_kind (T := .type "int") h1 (by omega) (fun f hm => ?_) (by rfl) ?_
    · obtain ⟨n, t, rfl⟩ := h3 f hm
      exact PySem.W.Looks.now
    · rw [show (Value.type "int" != Value.type "tuple") = true by decide +kernel]
      exact hq
  · obtain ⟨ns, t1, _⟩ := x p.1 hp
    obtain ⟨ms, t2, _⟩ := x q.1 hq
    have e1 : TS.intsOf st.heap p.1 = ns := t1.ints
    have e2 : TS.intsOf st.heap q.1 = ms := t2.ints
    obtain ⟨a1, x1, ea, ⟨o1, ho1, _, n1, hd1⟩, i1⟩ := t1.keeps kt
    obtain ⟨a2, x2, eb, ⟨o2, ho2, _, n2, hd2⟩, i2⟩ := t2.keeps kt
    rw [show SrtO.lt2 (ltT st.heap) p q = lexI ns ms by
      show lexI (TS.intsOf st.heap p.1) (TS.intsOf st.heap q.1) = _
      rw [e1, e2]]
    rw [ea, eb]
    refine PySem.W.kat_lt ho1 hd1 ho2 hd2 (walk_lex 0 i1 i2 ?_ ⟨rfl, rfl⟩)
    have l1 := i1.length
    have l2 := i2.length
    rw [Array.length_toList] at l1 l2
    rw [l1, l2]
end
/-- sorted(xs), xs a list of tuples of whole numbers -/
def rSortL (K : PySem.W.Frag) : List V → Hp → VK → Prop := fun vs H Q => ∃ (a : Addr) (ps : List (Addr × List Int)), vs = [V.ref a] ∧ SqL K H a (ps.map fun p => V.ref p.1) ∧ (∀ p ∈ ps, SqT K H p.1 (p.2.map V.int) ∧ p.2 ≠ []) ∧
  ∀ (ps' : List (Addr × List Int)) (q : Addr), ps'.Perm ps → (ps'.Pairwise fun x y => lexI y.2 x.2 = false) → H q = none → Q (.ref q) (upd H q (.lst (ps'.map fun p => V.ref p.1)))
theorem cr_sortL {X : Cx} : CallR X (.builtin "sorted") (rSortL X.K) := by
  intro pins s σ H vs us Q I r h
  obtain ⟨a, ps, rfl, hs, hx, q⟩ := h
  obtain ⟨its, rv, hl, hz⟩ := I.list hs
  rw [Vals.ref1 r]
  have ei : its = ps.map fun p => Value.ref p.1 := refs_of_vals rv
  have kint : ∀ p ∈ ps, TS.TupInts s.heap (.ref p.1) p.2 := fun p hp => tupI_raw I (hx p hp).1
  have hk : ∀ v ∈ its, ∃ p ∈ ps, v = Value.ref p.1 := fun v hv => by
    rw [ei] at hv
    obtain ⟨p, hp, e⟩ := List.mem_map.mp hv
    exact ⟨p, hp, e.symm⟩
  have hlen : its.length = ps.length := by rw [ei, List.length_map]
  refine SrtO.sorted_ord (swo_T s.heap) hl.isList (by rw [hlen]; rw [List.length_map] at hz; exact hz) (fun h2 h₁ a' ha' kk => ?_) fun out h1 h2 => ?_
  · have same : ∀ p ∈ ps, TS.TupInts h₁ (.ref p.1) p.2 := fun p hp => (kint p hp).keeps fun b o e _ => (kk b o e).2
    have z : SrtO.SortableO X.prog X.w X.A.in1.in1 { s with heap := h₁ } a' its (ltT h₁) := tups_sortable (st := { s with heap := h₁ }) (by omega) (fun v hv => by
      obtain ⟨p, hp, e⟩ := hk v hv
      subst e
      exact ⟨_, same p hp, (hx p hp).2⟩) fun o e => by
      have e' : some o = some (seqObj "list" its.toArray 0) := e.symm.trans ha'
      cases e'
      intro c
      exact absurd (Value.type.inj c) (by decide)
    intro h' keep
    obtain ⟨κ, z1, z2⟩ := z h' keep
    refine ⟨κ, z1, fun p p' hp hp' => ?_⟩
    have e0 : SrtO.lt2 (ltT s.heap) p p' = SrtO.lt2 (ltT h₁) p p' := by
      show lexI (TS.intsOf s.heap p.1) (TS.intsOf s.heap p'.1) = lexI (TS.intsOf h₁ p.1) (TS.intsOf h₁ p'.1)
      obtain ⟨a1, m1, e1⟩ := hk _ hp
      obtain ⟨a2, m2, e2⟩ := hk _ hp'
      rw [e1, e2, (kint _ m1).ints, (kint _ m2).ints, (same _ m1).ints, (same _ m2).ints]
    rw [e0]
    exact z2 p p' hp hp'
  · obtain ⟨ep, he'⟩ := PyProof.Rows.sortedAll_at s.heap its out.toArray
    -- the order, said of the pairs
    let un : Value → Addr × List Int := fun v => match v with
      | .ref t => (t, TS.intsOf s.heap v)
      | _ => (0, [])
    have un_of : ∀ p ∈ ps, un (Value.ref p.1) = p := fun p hp => by
      show (p.1, TS.intsOf s.heap (.ref p.1)) = p
      rw [(kint p hp).ints]
    have pm : (out.map un).Perm ps := by
      have z := h2.perm.map un
      rw [ei, List.map_map] at z
      have e : ps.map (un ∘ fun p => Value.ref p.1) = ps := by
        conv => rhs; rw [← List.map_id ps]
        exact List.map_congr_left fun p hp => un_of p hp
      rw [e] at z
      exact z
    have eo : out = (out.map un).map fun p => Value.ref p.1 := by
      rw [List.map_map]
      conv => lhs; rw [← List.map_id out]
      refine List.map_congr_left fun v hv => ?_
      obtain ⟨p, hp, e⟩ := hk v (h2.perm.mem_iff.mp hv)
      rw [e]
      show Value.ref p.1 = Value.ref (un (.ref p.1)).1
      rw [un_of p hp]
    have rv2 : Vals ((out.map un).map fun p => V.ref p.1) out := by
      conv => rhs; rw [eo]
      exact vals_of_refs _
    refine ⟨.ref _, upd H (s.heap.objs.size + 1) (.lst ((out.map un).map fun p => V.ref p.1)), I.laid (t' := s.toks) (fun _ _ => PyProof.Rows.sortedAll_old) (Nat.le_succ _) ⟨by rw [List.length_map, pm.length_eq]; rw [List.length_map] at hz; exact hz, out, ep, rv2, he'⟩, rfl, q _ _ pm ?_ (I.hok.fresh (Nat.le_succ _))⟩
    rw [List.pairwise_map]
    refine List.Pairwise.imp_of_mem (fun {u v} hu hv huv => ?_) h1
    obtain ⟨p, hp, e1⟩ := hk u (h2.perm.mem_iff.mp hu)
    obtain ⟨p', hp', e2⟩ := hk v (h2.perm.mem_iff.mp hv)
    rw [e1, e2] at huv ⊢
    rw [un_of p hp, un_of p' hp']
    have huv : lexI (TS.intsOf s.heap (.ref p'.1)) (TS.intsOf s.heap (.ref p.1)) = false := huv
    rw [(kint p hp).ints, (kint p' hp').ints] at huv
    exact huv
end VR

/-! VR2: the set of a list of whole numbers, its length, sorted. -/
namespace VR
open PySem PySem.Spec PyProof.Rows L2
section
variable {P : Program} {w : World} {A : Around} {E : Value → Shared → Prop} {s : Shared}
abbrev emp (w : World) : Obj := { cls := .type "set", dict := none, data := .set #[] 0 (.fresh 0 0 (!w.params.followText "set-order")) }
/-- what the making leaves -/
def Made (w : World) (s : Shared) (ks : List Int) (s2 : Shared) : Prop := ∃ (hh : Heap) (tk c : Nat), s2 = { s with heap := hh, toks := tk } ∧ SetR w hh s.heap.objs.size (fun j => decide (j ∈ ks)) c ∧ c ≤ ks.length ∧ ∀ b o, s.heap.get? b = some o → hh.get? b = some o
set_option maxHeartbeats 3200000 in
theorem set_of_list {l : Addr} {its : Array Value} (ks : List Int) {Q : Value → Shared → Prop} (nh : A.handled = none) (isl : s.heap.IsList l its) (hin : IntsAre its.toList ks) (few : ks.length + 1 < scanBound)
    (fin : ∀ s2, Made w s ks s2 → Q (.ref s.heap.objs.size) s2) : wpAny (model P w) A (call (.type "set") [.ref l]) Q E s := by
  have size : its.size = ks.length := by
    have z := hin.length
    rwa [Array.length_toList] at z
  obtain ⟨c, tl, g1⟩ := F.called_set.mro
  have g2 := F.called_set.made
  have g3 := F.called_set.sub
  have g4 := F.called_set.notType
  have g5 := F.called_set.canCreate
  have g6 := F.typeCall_set_1 (.ref l)
  refine wpAny_call (codeAny_of_tree ?_)
  show wpAny _ _ (callAny (.type "set") _) _ _ _
  refine wpAny_pure ⟨Code.quiet_builtin _ (by decide +kernel), codeAny_builtin F.entry_type_call ?_⟩
  rw [Around.under_plain (weight_type_call_type "set" [.ref l] []) rfl]
  repeat (any_goals (first | assumption | wp_step))
  refine codeAny_mono (code_set_led1 (.ref l) (E := E) (Q₁ := fun ob s₁ => ob = .ref s.heap.objs.size ∧ s₁ = { s with heap := s.heap.push (emp w) }) ⟨rfl, rfl⟩) fun r s₁ k => ?_
  cases r with
  | error e => exact k
  | ok f =>
    cases f with
    | ret ob =>
      obtain ⟨rfl, rfl⟩ := k
      have at_ : (s.heap.push (emp w)).get? s.heap.objs.size = some (emp w) := Heap.get?_push_size _ rfl
      have ty : Shared.TypeIs { s with heap := s.heap.push (emp w) } (.ref s.heap.objs.size) "set" := ⟨_, at_, rfl⟩
      have g7 := F.called_set.init.lookup
      have g8 := F.called_set.init.bind (.ref s.heap.objs.size)
      repeat (any_goals (first | assumption | wp_step))
      refine codeAny_mono (codeAny_call_builtin (R := wants (fun r s₂ => r = .none ∧ Made w s ks s₂) E) F.called_set.init.plain F.entry_set_init (check_set_init_1 ty ?_)) fun r₂ s₂ k₂ => ?_
      · obtain ⟨ol, hol, hcl, nl, hdl⟩ := isl
        obtain ⟨oc, od, oda, osl⟩ := ol
        simp only at hcl hdl
        subst hcl hdl
        have isl2 : (s.heap.push (emp w)).IsList l its := ⟨_, Heap.get?_push_of_some _ hol, rfl, nl, rfl⟩
        have g9 := F.sub_list_set
        have g10 := F.sub_list_frozenset
        have g11 : (Value.type "list" == Value.type "dict") = false := by decide
        have g12 : (s.heap.push (emp w)).get? l = some { cls := .type "list", dict := od, data := .seq its nl, slots := osl } := Heap.get?_push_of_some _ hol
        unfold Builtin.«set.__init__» noKeywords Builtin.Frozenset.updateFrom
        generalize hIt : pyIter = It
        wp_walk
        subst hIt
        refine wpAny_pyIter_list isl2 (wpAny_bind (wpAny_runValue ?_))
        have lt : l < s.heap.objs.size := Heap.lt_size hol
        have nl : l ≠ (s.heap.push (emp w)).objs.size := by
          rw [Heap.size_push]
          exact Nat.ne_of_lt (Nat.lt_succ_of_lt lt)
        have off : s.heap.objs.size ∉ [(s.heap.push (emp w)).objs.size, l] := by
          rw [Heap.size_push]
          intro z
          rcases List.mem_cons.mp z with z | z
          · exact Nat.succ_ne_self _ z.symm
          · exact Nat.ne_of_gt lt (List.mem_singleton.mp z)
        have val : ∀ (i : Nat) (v : Value), its[i]? = some v → ∃ k t, ks[i]? = some k ∧ v = .int k t := fun i v hv => by
          have hi : i < ks.length := by
            rw [← size]
            exact (Array.getElem?_eq_some_iff.mp hv).1
          obtain ⟨t, e⟩ := PyProof.Rows.IntsAre.int_at hin i v (by rw [Array.getElem?_toList]; exact hv)
          exact ⟨ks[i], t, List.getElem?_eq_getElem hi, by rw [e, List.getD_eq_getElem?_getD, List.getElem?_eq_getElem hi] <;> rfl⟩
        refine set_update_ints ((Walks.list (by simp [nh]) _ l nl its).toS) s.heap.objs.size off ks size few val (its.size - 0) 0 _ (by omega) (Nat.zero_le _) ⟨⟨_, Heap.get?_push_size _ rfl, rfl, rfl⟩, isl2.push _⟩
          ⟨0, Nat.le_refl 0, setR_new_at (Heap.get?_push_of_some _ at_)⟩ fun s' c' hm hc' hS' => ?_
        obtain ⟨hp', gg, dd, tk', os'⟩ := s'
        have eg : gg = s.gens := hm.gens
        have ed : dd = s.drawn := hm.drawn
        have eo : os' = s.os := hm.os
        subst eg ed eo
        show wpAny _ _ _ _ _ _
        refine wpAny_pure ?_
        show wpAny _ _ (ret Value.none) _ _ _
        refine wpAny_pure ⟨rfl, hp', tk', c', rfl, hS', by rw [← size]; exact hc', fun b o e => ?_⟩
        have bl : b < s.heap.objs.size := Heap.lt_size e
        refine hm.heap b o (fun z => ?_) (Heap.get?_push_of_some _ (Heap.get?_push_of_some _ e))
        rcases List.mem_cons.mp z with z | z
        · exact Nat.ne_of_lt bl z
        · rw [List.mem_singleton.mp z, Heap.size_push] at bl
          exact Nat.lt_irrefl _ (Nat.lt_trans bl (Nat.lt_succ_self _))
      · cases r₂ with
        | error e => exact k₂
        | ok f₂ =>
          cases f₂ with
          | ret r =>
            obtain ⟨rfl, hh, tk, c', rfl, hS', hc', kk⟩ := k₂
            repeat (any_goals (first | assumption | wp_step))
            exact fin _ ⟨hh, tk, c', rfl, hS', hc', kk⟩
          | _ => exact k₂.elim
    | _ => exact k.elim
end
end VR

/-! VR3: sets as rules of the layer. -/
namespace VR
open PySem PySem.Spec PyProof.Rows L2
section
variable {X : Cx}
/-- set(xs), xs a list of whole numbers -/
def rSetL (K : PySem.W.Frag) (w : World) : List V → Hp → VK → Prop := fun xs H Q => ∃ (l : Addr) (ns : List Int), xs = [V.ref l] ∧ SqL K H l (ns.map V.int) ∧ ns.length + 1 < scanBound ∧
  ∀ (a : Addr) (c : Nat), H a = none → c ≤ ns.length → Q (.ref a) (upd H a (SetO w a (fun j => decide (j ∈ ns)) c))
theorem cr_setL (hc : X.calm = true) : CallR X (.type "set") (rSetL X.K X.w) := by
  intro pins s σ H vs us Q I r h
  obtain ⟨l, ns, rfl, hs, hb, q⟩ := h
  obtain ⟨its, rv, hl, hz⟩ := I.list hs
  rw [Vals.ref1 r]
  refine set_of_list ns (I.ok.hd hc) hl.isList (by simpa using rv.ints) hb fun s2 hm => ?_
  obtain ⟨hh, tk, c, rfl, R, hc2, k⟩ := hm
  have hn : H s.heap.objs.size = none := I.hok.fresh (Nat.le_refl _)
  exact ⟨.ref _, upd H s.heap.objs.size (SetO X.w s.heap.objs.size (fun j => decide (j ∈ ns)) c), I.laid (t' := tk) k (Nat.le_refl _) (setO_new R), rfl, q _ c hn hc2⟩
/-- len(s), s a set of whole numbers -/
def rLenS (w : World) : List V → Hp → VK → Prop := fun xs H Q => ∃ (a : Addr) (S : Int → Bool) (n : Nat), xs = [V.ref a] ∧ H a = some (SetO w a S n) ∧ ∀ ms : List Int, ms.Nodup → (∀ k, k ∈ ms ↔ S k = true) → Q (.int ms.length) H
theorem cr_lenS : CallR X (.builtin "len") (rLenS X.w) := by
  intro pins s σ H vs us Q I r h
  obtain ⟨a, S, n, rfl, ha, q⟩ := h
  rw [Vals.ref1 r]
  obtain ⟨o, es, ep, t, ho, hx, hd, g, nd, hm, hb, hf, hn, _⟩ := setO_get I ha
  have hb2 : es.size < 4096 := hb
  refine call_len_set ho hx hd hf (by omega) ⟨.int es.size, H, I.tok _, ⟨_, rfl⟩, ?_⟩
  have z := q (es.toList.map keyOf) nd fun k => (hm k).symm
  rw [List.length_map, Array.length_toList] at z
  exact z
/-- .. of tuples of whole numbers -/
def rLenT2 (P : Program) (w : World) : List V → Hp → VK → Prop := fun xs H Q => ∃ (a : Addr) (L : List (Addr × List Int)), xs = [V.ref a] ∧ H a = some (SetTO P w a L) ∧ ((L.map (·.2)).Nodup → Q (.int L.length) H)
theorem cr_lenT2 : CallR X (.builtin "len") (rLenT2 X.prog X.w) := by
  intro pins s σ H vs us Q I r h
  obtain ⟨a, L, rfl, ha, q⟩ := h
  rw [Vals.ref1 r]
  have R0 : SetT0 X.prog X.w s.heap a L := (I.hok a _ ha).1
  obtain ⟨es, ep, t, ⟨o, ho, hx, hd⟩, rows, tab, nd, pl, led, room, few⟩ := R0.ex
  have hsz : es.size = L.length := by
    have z := congrArg List.length rows
    unfold rowsOf at z
    rw [Array.length_toList, List.length_map] at z
    exact z
  have hf : t.fits es.size = true := by
    have h1 := tab.sz
    rw [List.length_map] at h1
    unfold SetTable.fits SetTable.fill
    rw [tab.dm, Bool.and_eq_true, beq_iff_eq, decide_eq_true_eq]
    show t.place.size = es.size ∧ t.place.size + 0 ≤ t.mask
    omega
  exact call_len_set ho hx hd hf (by omega) ⟨.int L.length, H, I.tok _, ⟨_, by rw [hsz]⟩, q nd⟩
end
/-! ### sorting, said of data -/
def sortI (ns : List Int) : List Int := ns.mergeSort fun a b => decide (a ≤ b)
def sortL (ks : List (List Int)) : List (List Int) := ks.mergeSort fun a b => !lexI b a
theorem sortI_perm (ns : List Int) : (sortI ns).Perm ns := List.mergeSort_perm ns _
theorem sortL_perm (ns : List (List Int)) : (sortL ns).Perm ns := List.mergeSort_perm ns _
theorem sortI_sorted (ns : List Int) : (sortI ns).Pairwise (· ≤ ·) := by
  have z := List.pairwise_mergeSort (le := fun a b : Int => decide (a ≤ b)) (fun a b c h1 h2 => decide_eq_true (Int.le_trans (of_decide_eq_true h1) (of_decide_eq_true h2))) (fun a b => by
    rcases Int.le_total a b with h | h
    · simp [h]
    · simp [h]) ns
  exact z.imp fun h => of_decide_eq_true h
theorem sortL_sorted (ns : List (List Int)) : (sortL ns).Pairwise fun x y => lexI y x = false := by
  have z := List.pairwise_mergeSort (le := fun a b : List Int => !lexI b a) (fun a b c h1 h2 => by
      rw [Bool.not_eq_true'] at h1 h2 ⊢
      exact lexI_tr h1 h2) (fun a b => by
    cases q : lexI b a with
    | false => rfl
    | true =>
      rw [lexI_asym q]
      rfl) ns
  exact z.imp fun h => by
    rw [Bool.not_eq_true'] at h
    exact h
theorem sortI_uniq {a ns : List Int} (p : a.Perm ns) (h : a.Pairwise (· ≤ ·)) : a = sortI ns :=
  List.Perm.eq_of_pairwise (le := (· ≤ ·)) (fun a b _ _ h1 h2 => Int.le_antisymm h1 h2) h (sortI_sorted ns) (p.trans (sortI_perm ns).symm)
theorem sortL_uniq {a ns : List (List Int)} (p : a.Perm ns) (h : a.Pairwise fun x y => lexI y x = false) : a = sortL ns :=
  List.Perm.eq_of_pairwise (le := fun x y => lexI y x = false) (fun a b _ _ h1 h2 => lexI_eq h2 h1) h (sortL_sorted ns) (p.trans (sortL_perm ns).symm)
def ddup [DecidableEq α] : List α → List α
  | [] => []
  | x :: xs => if x ∈ xs then ddup xs else x :: ddup xs
theorem mem_ddup [DecidableEq α] {x : α} : ∀ {xs : List α}, x ∈ ddup xs ↔ x ∈ xs
  | [] => Iff.rfl
  | y :: ys => by
    unfold ddup
    by_cases h : y ∈ ys
    · rw [if_pos h, mem_ddup, List.mem_cons]
      constructor
      · exact .inr
      · rintro (e | e)
        · rw [e]; exact h
        · exact e
    · rw [if_neg h, List.mem_cons, List.mem_cons, mem_ddup]
theorem nodup_ddup [DecidableEq α] : ∀ {xs : List α}, (ddup xs).Nodup
  | [] => List.nodup_nil
  | y :: ys => by
    unfold ddup
    by_cases h : y ∈ ys
    · rw [if_pos h]
      exact nodup_ddup
    · rw [if_neg h]
      exact List.nodup_cons.mpr ⟨fun z => h (mem_ddup.mp z), nodup_ddup⟩
theorem ddup_len [DecidableEq α] {xs ms : List α} (n : ms.Nodup) (h : ∀ k, k ∈ ms ↔ k ∈ xs) : ms.Perm (ddup xs) :=
  (List.perm_ext_iff_of_nodup n nodup_ddup).mpr fun k => (h k).trans mem_ddup.symm
end VR

/-! VS10: dicts, subscripts, enumerate, isinstance, sets, sorted. -/
namespace VS
open PySem PySem.Spec PyProof.Rows L2

/-! ### dicts -/
def keyOf : D → Option Key
  | .int i => some (.inl i)
  | .str x => some (.inr x)
  | _ => none
def valD (kvs : List (Key × D)) (k : Key) : Option D := (kvs.find? fun kv => decide (kv.1 = k)).map (·.2)
def putD (kvs : List (Key × D)) (k : Key) (v : D) : List (Key × D) :=
  if (kvs.any fun kv => decide (kv.1 = k)) = true then kvs.map (fun kv => if kv.1 = k then (kv.1, v) else kv) else kvs ++ [(k, v)]
section
variable {C : VC} {G H : Hp}
theorem rs_key {x : D} {v : V} {k : Key} (r : RpS C G H v x) (h : keyOf x = some k) : v = kV k := by
  cases x with
  | int i => cases h; exact rs_int r
  | str i => cases h; exact rs_str r
  | _ => cases h
theorem RpK.val {k : Key} : ∀ {vs : List (Key × V)} {ds : List (Key × D)}, RpK C G vs ds → (∀ x, valD ds k = some x → ∃ v, valV vs k = some v ∧ Rp C G v x) ∧ (valD ds k = none → valV vs k = none)
  | _, _, .nil => ⟨fun x h => (nomatch h), fun _ => rfl⟩
  | _, _, .cons (k := k') (v := v) (vs := vs) (d := d) (ds := ds) r t => by
    by_cases e : k' = k
    · have e1 : valD ((k', d) :: ds) k = some d := by simp [valD, List.find?_cons, e]
      have e2 : valV ((k', v) :: vs) k = some v := by simp [valV, List.find?_cons, e]
      rw [e1, e2]
      exact ⟨fun x h => by cases h; exact ⟨v, rfl, r⟩, fun h => (nomatch h)⟩
    · have e1 : valD ((k', d) :: ds) k = valD ds k := by simp [valD, List.find?_cons, e]
      have e2 : valV ((k', v) :: vs) k = valV vs k := by simp [valV, List.find?_cons, e]
      rw [e1, e2]
      exact RpK.val t
theorem RpK.any {k : Key} : ∀ {vs : List (Key × V)} {ds : List (Key × D)}, RpK C G vs ds → (vs.any fun kv => decide (kv.1 = k)) = ds.any fun kv => decide (kv.1 = k)
  | _, _, .nil => rfl
  | _, _, .cons r t => by
    rw [List.any_cons, List.any_cons, RpK.any t]
theorem RpK.mapP {k : Key} {v : V} {d : D} (h : Rp C G v d) : ∀ {vs : List (Key × V)} {ds : List (Key × D)}, RpK C G vs ds → RpK C G (vs.map fun kv => if kv.1 = k then (kv.1, v) else kv) (ds.map fun kv => if kv.1 = k then (kv.1, d) else kv)
  | _, _, .nil => .nil
  | _, _, .cons (k := k') r t => by
    rw [List.map_cons, List.map_cons]
    by_cases e : k' = k
    · rw [if_pos e, if_pos e]
      exact .cons h (RpK.mapP h t)
    · rw [if_neg e, if_neg e]
      exact .cons r (RpK.mapP h t)
theorem RpK.app : ∀ {vs us : List (Key × V)} {ds es : List (Key × D)}, RpK C G vs ds → RpK C G us es → RpK C G (vs ++ us) (ds ++ es)
  | _, _, _, _, .nil, s => s
  | _, _, _, _, .cons r t, s => .cons r (RpK.app t s)
theorem RpK.put {k : Key} {v : V} {d : D} {vs : List (Key × V)} {ds : List (Key × D)} (r : RpK C G vs ds) (h : Rp C G v d) : RpK C G (putK vs k v) (putD ds k d) := by
  unfold putK putD
  rw [r.any]
  split
  · exact r.mapP h
  · exact r.app (.cons h .nil)
end
section
variable {C : VC} {X : Cx} {W : WX} {pos : Pos}
theorem snd_dnew : SndE C W tDNewK (M.ret (.sv (.od []))) := by
  intro B ρ σ G H Q E P p hp
  exact P _ G _ (E.newD hp .nil) (Same.refl _)
theorem se_dnew : SE C X W (.Dict [] [] pos) tDNewK (M.ret (.sv (.od []))) := ⟨pe_dnewK, snd_dnew⟩
end
/-- slot i [k] = v -/
def dputD (i : Nat) (k v : D) : M Fl := fun ρ => match ρ.getD i none, keyOf k with
  | some (.od kvs), some q => if kvs.length < sizeLine then .ok .nx (ρ.set i (some (.od (putD kvs q v)))) else .stuck
  | _, _ => .stuck
def mDPut (i : Nat) (k v : M Ref) : M Fl := M.bind (mFrz v) fun x ρ => if (ρ.getD i none).isSome = true then M.bind (mFrz k) (fun y => dputD i y x) ρ else .stuck
section
variable {C : VC} {X : Cx} {W : WX} {P : List Nat} {i : Nat} {tk tv : TE} {mk mv : M Ref} {k value : Expr} {x : Str} {p pos pos' : Pos}
theorem snd_dput (hk : SndE C W tk mk) (hv : SndE C W tv mv) : SndS C P W (sDPut (tVar i) tk tv) (mDPut i mk mv) := by
  intro B ρ σ G H D E pn Q
  refine hv.f E ?_
  unfold mDPut at Q
  rw [mbind] at Q
  cases q : mFrz mv ρ with
  | stuck => rw [q] at Q; exact Q
  | err c ρ' => rw [q] at Q; exact fun G' H' Ca E' hc => Q σ G' H' Ca E' pn hc
  | ok x ρ1 =>
    rw [q, bind_ok] at Q
    intro v G1 H1 E1 S1 r1
    by_cases hs : (ρ1.getD i none).isSome = true
    · rw [if_pos hs, mbind] at Q
      obtain ⟨s0, hs0⟩ := Option.isSome_iff_exists.mp hs
      obtain ⟨w, hw, _⟩ := E1.slot hs0
      refine ⟨w, hw, hk.f E1 ?_⟩
      cases q2 : mFrz mk ρ1 with
      | stuck => rw [q2] at Q; exact Q
      | err c ρ' => rw [q2] at Q; exact fun G' H' Ca E' hc => Q σ G' H' Ca E' pn hc
      | ok y ρ2 =>
        rw [q2, bind_ok] at Q
        intro u G2 H2 E2 S2 r2
        unfold dputD at Q
        cases q3 : ρ2.getD i none with
        | none => rw [q3] at Q; exact Q.elim
        | some s =>
          rw [q3] at Q
          cases s with
          | od kvs =>
            cases q4 : keyOf y with
            | none => rw [q4] at Q; exact Q.elim
            | some κ =>
              rw [q4] at Q
              dsimp only at Q
              by_cases hz : kvs.length < sizeLine
              · rw [if_pos hz] at Q
                obtain ⟨pp, vs, rfl, hp, rk, ch⟩ := E2.chgD q3 hw
                have eu : u = kV κ := rs_key (r2.toS E2.fr.gh) q4
                subst eu
                exact ⟨pp, _, rfl, DPut.k hp (by rw [rk.length]; exact hz), Q σ G2 _ (ch _ _ (rk.put (r1.mono S2))) (S1.trans S2) pn⟩
              · rw [if_neg hz] at Q
                exact Q.elim
          | d x => exact Q.elim
          | ol x => exact Q.elim
          | dr x => exact Q.elim
          | sc x => exact Q.elim
          | oi c x => exact Q.elim
    · rw [if_neg hs] at Q
      exact Q.elim
theorem s_dput (hu : X.A.units + 64 < cLine) (hv : PE X (.Name x p) (tVar i)) (hk : SE C X W k tk mk) (hval : SE C X W value tv mv) (hs : swapsWith value (some (.Subscript (.Name x p) k pos')) pos.line X.env = pure false := by rfl) :
    S1 C P X W (.Assign [.Subscript (.Name x p) k pos'] value pos) (sDPut (tVar i) tk tv) (mDPut i mk mv) := ⟨ps_dput (by omega) hv hk.pe hval.pe hs, snd_dput hk.snd hval.snd⟩
end
/-! ### a[b] -/
def dIxX : D → D → Option Rv
  | .dic kvs, k => (keyOf k).bind fun q => (valD kvs q).map .it
  | x, y => dIx x y
abbrev tIx (K : PySem.W.Frag) (ta tb : TE) : TE := fun σ H Q => tOp (rIx K) ta tb σ H Q ∨ tDGet ta tb σ H Q
theorem peOr {X : Cx} {e : Expr} {t t' : TE} (h : PE X e t) (h' : PE X e t') : PE X e (fun σ H Q => t σ H Q ∨ t' σ H Q) := by
  refine ⟨fun pins s σ H Q I z => ?_⟩
  rcases z with z | z
  · exact h.run pins s σ H Q I z
  · exact h'.run pins s σ H Q I z
section
variable {C : VC} {X : Cx} {W : WX} {a b : Expr} {ta tb : TE} {ma mb : M Ref} {pos : Pos}
theorem snd_ixX (ha : SndE C W ta ma) (hb : SndE C W tb mb) : SndE C W (tIx C.K ta tb) (mBin dIxX ma mb) := by
  intro B ρ σ G H Q E P
  have go : (∀ p ρ', val2 ma mb ρ = .ok p ρ' → ∀ kvs, p.1 ≠ .dic kvs) → tOp (rIx C.K) ta tb σ H Q := fun hn => by
    refine snd_bin (C := C) rule_ix ha hb B ρ σ G H Q E ?_
    unfold mBin at P ⊢
    rw [mbind] at P ⊢
    cases q : val2 ma mb ρ with
    | stuck => rw [q] at P; exact P
    | err c ρ' => rw [q] at P; exact P
    | ok p ρ1 =>
      rw [q, bind_ok] at P
      rw [bind_ok]
      have e : dIxX p.1 p.2 = dIx p.1 p.2 := by
        obtain ⟨x, y⟩ := p
        cases x with
        | dic kvs => exact absurd rfl (hn _ ρ1 q kvs)
        | _ => rfl
      rw [← e]
      exact P
  cases q : val2 ma mb ρ with
  | stuck => exact .inl (go fun p ρ' h => by rw [q] at h; cases h)
  | err c ρ' => exact .inl (go fun p ρ' h => by rw [q] at h; cases h)
  | ok p ρ1 =>
    obtain ⟨x, y⟩ := p
    cases x with
    | dic kvs =>
      right
      refine SndE.two (Q := fun x y H2 => ∃ a v, x = .ref a ∧ DGet H2 a y (some v) ∧ Q v H2) ha hb E ?_
      unfold mBin at P
      rw [mbind, q, bind_ok, mbind] at P
      rw [q]
      intro v w G1 H1 E1 S1 r1 r2
      replace P : PostE C B W σ G Q ((M.opt ((keyOf y).bind fun q => (valD kvs q).map Rv.it) ρ1).bind fun r : Rv => M.ret r.ref) := P
      cases q4 : keyOf y with
      | none => rw [q4] at P; exact P.elim
      | some κ =>
        rw [q4] at P
        replace P : PostE C B W σ G Q ((M.opt ((valD kvs κ).map Rv.it) ρ1).bind fun r : Rv => M.ret r.ref) := P
        cases q5 : valD kvs κ with
        | none => rw [q5] at P; exact P.elim
        | some x =>
          rw [q5] at P
          obtain ⟨a, vs, rfl, ha', rk⟩ := rs_dic r1
          have ew : w = kV κ := rs_key r2 q4
          subst ew
          obtain ⟨u, hu, ru⟩ := rk.val.1 x q5
          refine ⟨a, u, rfl, ?_, P u G1 H1 (E1.res ru) S1⟩
          rw [← hu]
          exact .k ha'
    | _ => exact .inl (go fun p ρ' h kvs => by rw [q] at h; cases h; intro z; cases z)
theorem se_ixX (hu : X.A.units + 64 < cLine) (ha : SE C X W a ta ma) (hb : SE C X W b tb mb) (hK : X.K = C.K := by rfl) (hs : PlainIx b := by exact fun _ _ => rfl) (hs2 : NoSl b := by exact fun _ _ => rfl) : SE C X W (.Subscript a b pos) (tIx C.K ta tb) (mBin dIxX ma mb) :=
  ⟨by rw [← hK]; exact peOr (pe_ix ix_seq ha.pe hb.pe hs) (pe_dget (by omega) ha.pe hb.pe hs2), snd_ixX ha.snd hb.snd⟩
end
end VS

/-! VS11: isinstance, sets, sorted, enumerate. -/
namespace VS
open PySem PySem.Spec PyProof.Rows L2 VR

/-- as Fin, with something new laid that nobody looks at any more -/
def FinX (C : VC) (G H : Hp) (Q : VK) (r : Rv) : Prop := Fin C G H Q r ∧ ∀ a o, H a = none → Fin C G (upd H a o) Q r
/-- a function of one value -/
def RuleU (C : VC) (rr : V → Hp → VK → Prop) (f : D → Option Rv) : Prop := ∀ G H v x r Q, Same G H → RpS C G H v x → f x = some r → FinX C G H Q r → rr v H Q
def tU (rr : V → Hp → VK → Prop) (te : TE) : TE := fun σ H Q => te σ H fun x H1 => rr x H1 Q
section
variable {C : VC} {X : Cx} {W : WX} {e : Expr} {te : TE} {me : M Ref} {rr : V → Hp → VK → Prop} {f : D → Option Rv}
theorem snd_u (hr : RuleU C rr f) (h : SndE C W te me) : SndE C W (tU rr te) (mUn f me) := by
  intro B ρ σ G H Q E P
  refine h.v B ρ σ G H _ E ?_
  unfold mUn at P
  rw [mbind] at P
  cases q : val me ρ with
  | stuck => rw [q] at P; exact P
  | err c ρ' => rw [q] at P; exact P
  | ok x ρ1 =>
    rw [q, bind_ok, mbind] at P
    intro v G1 H1 E1 S1 r1
    cases q2 : f x with
    | none => rw [q2] at P; exact P.elim
    | some r =>
      rw [q2, mopt_some, mret, bind_ok] at P
      exact hr G1 H1 v x r Q E1.fr.gh r1 q2 ⟨fin_of E1 S1 P, fun a o ha => fin_of ⟨E1.fr.alloc ha, E1.len⟩ S1 P⟩
end

/-! ### isinstance -/
inductive CN where
  | ty (T : String) | own (x : Str)
def tyN : D → String
  | .non => "NoneType" | .bl _ => "bool" | .int _ => "int" | .str _ => "str" | .tup _ => "tuple" | .lst _ => "list" | .dic _ => "dict" | .ins _ _ => "" | .exc _ => ""
def biB (T t : String) : Bool := t == T || (t == "bool" && T == "int")
def tyNs : List String := ["NoneType", "bool", "int", "str", "tuple", "list", "dict"]
def clNs : List String := ["bool", "int", "str", "tuple", "list", "dict"]
theorem bi_ok : (tyNs.all fun t => clNs.all fun T => kitB t T == some (biB T t)) = true := by decide +kernel
/-- what the written part says of the own classes: cs plain ones, es exceptions; anc: is the one a heir of the other, or it itself -/
structure KO (C : VC) (cs es : List Str) (anc : Str → Str → Bool) : Prop where
  cls : ∀ c ∈ cs, ∃ Ca, C.mg c = some (.ref Ca) ∧ Cls C.K Ca ∧ PySem.W.findIn C.K (.ref Ca) "__class__" = some (some (.builtin "object.__class__")) ∧ PySem.W.mroIn C.K Ca (.type "object") = some true
  exc : ∀ c ∈ es, ∃ Ca, C.mg c = some (.ref Ca) ∧ ExcC C.K Ca
  hn : PySem.W.specialIn C.K (.builtin "object.__class__") "__get__" = some (some (.builtin "getset_descriptor.__get__"))
  ht : PySem.W.takesIn C.K (.builtin "object.__class__") = some true
  own : ∀ c ∈ cs ++ es, ∀ x ∈ cs ++ es, ∀ Ca Xa, C.mg c = some (.ref Ca) → C.mg x = some (.ref Xa) → PySem.W.kitOne C.K (.ref Ca) (.ref Xa) = some (anc c x)
  ty : ∀ c ∈ cs ++ es, ∀ T ∈ clNs, ∀ Ca, C.mg c = some (.ref Ca) → PySem.W.kitOne C.K (.ref Ca) (.type T) = some false
  bi : ∀ t ∈ tyNs, ∀ x ∈ cs ++ es, ∀ Xa, C.mg x = some (.ref Xa) → PySem.W.kitOne C.K (.type t) (.ref Xa) = some false
def isiB (u : CN) (t : String) : Option Bool := match u with
  | .ty T => some (biB T t)
  | .own _ => some false
def isiO (anc : Str → Str → Bool) (u : CN) (c : Str) : Option Bool := match u with
  | .ty _ => some false
  | .own x => some (anc c x)
def isiD (cs es : List Str) (anc : Str → Str → Bool) (u : CN) (d : D) : Option Bool := match d with
  | .ins c _ => if c ∈ cs then isiO anc u c else none
  | .exc c => if c ∈ es then isiO anc u c else none
  | d => isiB u (tyN d)
/-- isinstance(e, c), e an exception's object -/
def rIsX (K : PySem.W.Frag) : List V → Hp → VK → Prop := fun xs H Q => ∃ (a Da : Addr) (c : V) (cv : Value) (b : Bool), xs = [.ref a, c] ∧ H a = some (ExV (.ref Da) a) ∧ ExcC K Da ∧ ClsV c cv ∧ PySem.W.kitOne K (.ref Da) cv = some b ∧ Q (.bl b) H
theorem cr_isX {X : Cx} : CallR X (.builtin "isinstance") (rIsX X.K) := by
  intro pins s σ H xs us Q I r h
  obtain ⟨a, Da, c, cv, b, rfl, ha, C, k, e, q⟩ := h
  obtain ⟨u1, u2, rfl, r1, r2⟩ := vals2 r
  have e2 := k.eq r2
  subst e2
  cases (show u1 = Value.ref a from r1)
  obtain ⟨oe, vs, hget, hz, hv⟩ := (show ∃ (oe : Obj) (vs : Array Value), s.heap.get? a = some oe ∧ Zc (.ref Da) none oe ∧ oe.data = .fields vs from (I.hok a _ ha).1)
  have J : PySem.W.InstAt s.heap a oe Da none := by
    obtain ⟨oc, od, oda, osl⟩ := oe
    obtain ⟨h1, h2⟩ := hz
    dsimp only at h1 h2 hv
    subst h1 h2 hv
    exact ⟨hget, rfl, rfl, trivial⟩
  exact PySem.W.kia_one (PySem.W.handS_kitx_exc C.hg C.hk C.hs C.hd C.ha C.hn C.ht C.hm) I.kIn J e (fun z => nomatch z) fun tk => ⟨.bl b, H, I.kept (t' := tk) fun _ _ z => z, rfl, q⟩
abbrev rIsiX (K : PySem.W.Frag) : List V → Hp → VK → Prop := fun xs H Q => rIsi K xs H Q ∨ rIsX K xs H Q
theorem cr_isiX {X : Cx} : CallR X (.builtin "isinstance") (rIsiX X.K) := callOr call_isi cr_isX
section
variable {C : VC} {G H : Hp} {v : V} {x : D} {cs es : List Str} {anc : Str → Str → Bool}
/-- a value's type -/
theorem ty_of (h : RpS C G H v x) (S : Same G H) (n1 : ∀ c fs, x ≠ .ins c fs) (n2 : ∀ c, x ≠ .exc c) : TyX C.K H v (.type (tyN x)) := by
  cases x with
  | non => rw [rs_non h]; exact .base .non
  | bl b => rw [rs_bl h]; exact .base (.bl b)
  | int b => rw [rs_int h]; exact .base (.int b)
  | str b => rw [rs_str h]; exact .base (.str b)
  | lst xs =>
    obtain ⟨a, vs, rfl, h1, _⟩ := rs_lst h
    exact .base (.lst h1)
  | dic xs =>
    obtain ⟨a, vs, rfl, h1, _⟩ := rs_dic h
    exact .base (.dK h1)
  | tup xs =>
    obtain ⟨a, vs, rfl, h1, _⟩ := rs_tup h S
    rcases h1 with (h1 | ⟨o, h1⟩) | h1
    · exact .base (.tup h1)
    · exact .fTuple h1
    · obtain ⟨o, its, n, z1, z2, _⟩ := h1
      exact .kTuple z1 z2
  | ins c fs => exact absurd rfl (n1 c fs)
  | exc c => exact absurd rfl (n2 c)
theorem tyN_in (n1 : ∀ c fs, x ≠ .ins c fs) (n2 : ∀ c, x ≠ .exc c) : tyN x ∈ tyNs := by
  cases x with
  | ins c fs => exact absurd rfl (n1 c fs)
  | exc c => exact absurd rfl (n2 c)
  | _ => simp [tyN, tyNs]
/-- the class as a value, and its name -/
inductive CNV (C : VC) : CN → V → Prop where
  | ty {T : String} (h : T ∈ clNs) : CNV C (.ty T) (.ty T)
  | own {x : Str} {a : Addr} (h : C.mg x = some (.ref a)) : CNV C (.own x) (.ref a)
def cnIn (cs es : List Str) : CN → Bool
  | .ty T => clNs.contains T
  | .own x => (cs ++ es).contains x
theorem kit_is (O : KO C cs es anc) {u : CN} {c : V} (hc : CNV C u c) (hu : cnIn cs es u = true) {b : Bool} (h : RpS C G H v x) (S : Same G H) (hb : isiD cs es anc u x = some b) {Q : VK} (q : Q (.bl b) H) : rIsiX C.K [v, c] H Q := by
  have gen : (∀ c fs, x ≠ .ins c fs) → (∀ c, x ≠ .exc c) → isiB u (tyN x) = some b → rIsiX C.K [v, c] H Q := by
    intro n1 n2 e
    have ht := tyN_in n1 n2
    cases hc with
    | @ty T hT =>
      have k := List.all_eq_true.mp (List.all_eq_true.mp bi_ok _ ht) _ hT
      have k : kitB (tyN x) T = some (biB T (tyN x)) := by simpa using k
      exact .inl ⟨v, .ty T, _, _, b, rfl, .ty T, ty_of h S n1 n2, by rw [kit_ty k]; exact e, q⟩
    | @own y a hy =>
      have hm : y ∈ cs ++ es := by
        have z : (cs ++ es).contains y = true := hu
        exact List.contains_iff_mem.mp z
      exact .inl ⟨v, .ref a, _, _, b, rfl, .own a, ty_of h S n1 n2, by rw [O.bi _ ht y hm a hy]; exact e, q⟩
  cases x with
  | ins d fs =>
    have hb : (if d ∈ cs then isiO anc u d else none) = some b := hb
    by_cases hd : d ∈ cs
    · rw [if_pos hd] at hb
      obtain ⟨Da, g1, g2, g3, g4⟩ := O.cls d hd
      obtain ⟨a, Ca, dx, fs', rfl, m1, m2, m3, m4⟩ := (show ∃ a Ca dx vs, v = V.ref a ∧ C.mg d = some (.ref Ca) ∧ H a = some (.ins Ca dx vs) ∧ G dx = some (.own a) ∧ RpF C G vs fs from h)
      rw [g1] at m1
      cases m1
      have ty : TyX C.K H (.ref a) (.ref Da) := .base (.ins m2 g2 g3 O.hn O.ht g4)
      have hdm : d ∈ cs ++ es := List.mem_append_left _ hd
      cases hc with
      | @ty T hT => exact .inl ⟨_, .ty T, _, _, b, rfl, .ty T, ty, by rw [O.ty d hdm T hT Da g1]; exact hb, q⟩
      | @own y a' hy =>
        have hm : y ∈ cs ++ es := by
          have z : (cs ++ es).contains y = true := hu
          exact List.contains_iff_mem.mp z
        exact .inl ⟨_, .ref a', _, _, b, rfl, .own a', ty, by rw [O.own d hdm y hm Da a' g1 hy]; exact hb, q⟩
    · rw [if_neg hd] at hb
      cases hb
  | exc d =>
    have hb : (if d ∈ es then isiO anc u d else none) = some b := hb
    by_cases hd : d ∈ es
    · rw [if_pos hd] at hb
      obtain ⟨Da, g1, g2⟩ := O.exc d hd
      cases (show Rp C G v (.exc d) from h) with
      | @exc a Ca _ m1 m2 =>
        rw [g1] at m1
        cases m1
        have hdm : d ∈ cs ++ es := List.mem_append_right _ hd
        cases hc with
        | @ty T hT => exact .inr ⟨a, Da, .ty T, _, b, rfl, S _ _ m2, g2, .ty T, by rw [O.ty d hdm T hT Da g1]; exact hb, q⟩
        | @own y a' hy =>
          have hm : y ∈ cs ++ es := by
            have z : (cs ++ es).contains y = true := hu
            exact List.contains_iff_mem.mp z
          exact .inr ⟨a, Da, .ref a', _, b, rfl, S _ _ m2, g2, .own a', by rw [O.own d hdm y hm Da a' g1 hy]; exact hb, q⟩
    · rw [if_neg hd] at hb
      cases hb
  | non => exact gen (fun _ _ z => nomatch z) (fun _ z => nomatch z) hb
  | bl y => exact gen (fun _ _ z => nomatch z) (fun _ z => nomatch z) hb
  | int y => exact gen (fun _ _ z => nomatch z) (fun _ z => nomatch z) hb
  | str y => exact gen (fun _ _ z => nomatch z) (fun _ z => nomatch z) hb
  | tup y => exact gen (fun _ _ z => nomatch z) (fun _ z => nomatch z) hb
  | lst y => exact gen (fun _ _ z => nomatch z) (fun _ z => nomatch z) hb
  | dic y => exact gen (fun _ _ z => nomatch z) (fun _ z => nomatch z) hb
end
def dIsi (cs es : List Str) (anc : Str → Str → Bool) (u : CN) (d : D) : Option Rv := (isiD cs es anc u d).map fun b => .sc (.bl b)
section
variable {C : VC} {X : Cx} {W : WX} {e c : Expr} {te : TE} {me : M Ref} {p pos : Pos} {cs es : List Str} {anc : Str → Str → Bool} {u : CN} {cv : V}
theorem snd_isi (O : KO C cs es anc) (hc : CNV C u cv) (hu : cnIn cs es u = true) (h : SndE C W te me) : SndE C W (tCB (rIsiX C.K) (tCons te (tCons (tC cv) tNil))) (mUn (dIsi cs es anc u) me) := by
  refine snd_u (rr := fun v H Q => rIsiX C.K [v, cv] H Q) (fun G H v x r Q S hr hf hF => ?_) h
  unfold dIsi at hf
  cases q : isiD cs es anc u x with
  | none => rw [q] at hf; cases hf
  | some b =>
    rw [q] at hf
    cases hf
    exact kit_is O hc hu hr S q hF.1
theorem se_isi (O : KO C cs es anc) (hg : Gl X "isinstance") (hm : X.mg "isinstance" = none) (hc : CNV C u cv) (hpc : PE X c (tC cv)) (h : SE C X W e te me) (hu : cnIn cs es u = true := by rfl) (hK : X.K = C.K := by rfl)
    (h1 : starEach [e, c] X.env = (false, eval e X.env) :: starEach [c] X.env := by rfl) (h2 : starEach [c] X.env = (false, eval c X.env) :: starEach [] X.env := by rfl) (hpl : (backTo pos (starEach [c] X.env)).any (·.1) = false := by rfl) :
    SE C X W (.Call (.Name "isinstance" p) [e, c] [] pos) (tCB (rIsiX C.K) (tCons te (tCons (tC cv) tNil))) (mUn (dIsi cs es anc u) me) :=
  ⟨pe_callB (crK cr_isiX hK) hg hm (by first | exact PySem.boot_isinstance | rfl | decide +kernel) (pa_cons h.pe (pa_cons hpc pa_nil h2) h1) (by decide) (by decide) h1 hpl, snd_isi O hc hu h.snd⟩
end
end VS

/-! VS12: isinstance with several classes, sets, sorted, enumerate. -/
namespace VS
open PySem PySem.Spec PyProof.Rows L2 VR

theorem RpS.ext {C : VC} {G H H' : Hp} {v : V} {x : D} (r : RpS C G H v x) (S : Same H H') : RpS C G H' v x := by
  cases x with
  | lst xs =>
    obtain ⟨a, vs, e, h, q⟩ := r
    exact ⟨a, vs, e, S _ _ h, q⟩
  | dic xs =>
    obtain ⟨a, vs, e, h, q⟩ := r
    exact ⟨a, vs, e, S _ _ h, q⟩
  | ins c fs =>
    obtain ⟨a, Ca, dx, vs, e, m, h, q⟩ := r
    exact ⟨a, Ca, dx, vs, e, m, S _ _ h, q⟩
  | _ => exact r
/-! ### isinstance(x, (c1, c2)) -/
def isiA (us : List String) (d : D) : Option Bool := match d with
  | .ins _ _ => none
  | .exc _ => none
  | d => some (us.any fun T => biB T (tyN d))
def dIsiA (us : List String) (d : D) : Option Rv := (isiA us d).map fun b => .sc (.bl b)
def tys : List String → TA
  | [] => tNil
  | T :: us => tCons (tC (.ty T)) (tys us)
section
variable {C : VC} {G H : Hp}
theorem kit_anyB {t : String} (ht : t ∈ tyNs) : ∀ {us : List String}, (∀ T ∈ us, T ∈ clNs) → PySem.W.kitAny C.K (.type t) (us.map Value.type) = some (us.any fun T => biB T t)
  | [], _ => rfl
  | T :: us, h => by
    have k := List.all_eq_true.mp (List.all_eq_true.mp bi_ok _ ht) _ (h T List.mem_cons_self)
    have k : kitB t T = some (biB T t) := by simpa using k
    rw [List.map_cons, List.any_cons]
    refine kitAny_cons (b := biB T t) (kit_ty k) (fun hb => ?_) (fun hb => by rw [hb] <;> rfl)
    rw [hb, Bool.false_or]
    exact kit_anyB ht fun S hS => h S (List.mem_cons_of_mem _ hS)
theorem tys_run {σ : L2.St} {H : Hp} {Q : List V → Hp → Prop} : ∀ (us : List String), Q (us.map V.ty) H → tys us σ H Q
  | [], h => h
  | T :: us, h => tys_run us h
theorem tys_paired : ∀ us : List String, Paired ClsV (us.map V.ty) (us.map Value.type)
  | [] => .nil
  | T :: us => .cons (.ty T) (tys_paired us)
variable {X : Cx} {W : WX} {e : Expr} {cs : List Expr} {te : TE} {me : M Ref} {p pos pt : Pos} {us : List String} {kk : Nat}
theorem snd_isiA (hu : ∀ T ∈ us, T ∈ clNs) (hz : us.length ≤ sizeLine) (h : SndE C W te me) : SndE C W (tCB (rIsiT C.K) (tCons te (tCons (tTup (tys us)) tNil))) (mUn (dIsiA us) me) := by
  intro B ρ σ G H Q E P
  refine snd_u (C := C) (f := dIsiA us) (rr := fun v H Q => tTup (tys us) σ H fun w H2 => rIsiT C.K [v, w] H2 Q) (fun G H v x r Q S hr hf hF => ?_) h B ρ σ G H Q E P
  unfold dIsiA at hf
  cases q : isiA us x with
  | none => rw [q] at hf; cases hf
  | some b =>
    rw [q] at hf
    cases hf
    have n1 : ∀ c fs, x ≠ .ins c fs := fun c fs z => by subst z; cases q
    have n2 : ∀ c, x ≠ .exc c := fun c z => by subst z; cases q
    have q : some (us.any fun T => biB T (tyN x)) = some b := by
      cases x with
      | ins c fs => exact absurd rfl (n1 c fs)
      | exc c => exact absurd rfl (n2 c)
      | _ => exact q
    cases q
    refine tys_run us ⟨by rw [List.length_map]; exact hz, fun T hT => ⟨v, T, us.map V.ty, _, us.map Value.type, _, rfl, upd_same, tys_paired us, ?_, kit_anyB (tyN_in n1 n2) hu, hF.2 T _ hT⟩⟩
    exact ty_of (RpS.ext hr (same_up hT)) (S.trans (same_up hT)) n1 n2
theorem se_isiA (hg : Gl X "isinstance") (hm : X.mg "isinstance" = none) (hu : ∀ T ∈ us, T ∈ clNs) (hz : us.length ≤ sizeLine) (hcs : PA X cs (tys us)) (h : SE C X W e te me) (hK : X.K = C.K := by rfl)
    (h1 : starEach [e, .Tuple cs kk pt] X.env = (false, eval e X.env) :: starEach [.Tuple cs kk pt] X.env := by rfl) (h2 : starEach [.Tuple cs kk pt] X.env = (false, eval (.Tuple cs kk pt) X.env) :: starEach [] X.env := by rfl) (hpl : (backTo pos (starEach [.Tuple cs kk pt] X.env)).any (·.1) = false := by rfl) :
    SE C X W (.Call (.Name "isinstance" p) [e, .Tuple cs kk pt] [] pos) (tCB (rIsiT C.K) (tCons te (tCons (tTup (tys us)) tNil))) (mUn (dIsiA us) me) :=
  ⟨pe_callB (crK call_isiT hK) hg hm PyProof.Rows.boot_isinstance (pa_cons h.pe (pa_cons (pe_tup hcs) pa_nil h2) h1) (by decide) (by decide) h1 hpl, snd_isiA hu hz h.snd⟩
end
/-! ### whole numbers and tuples of them -/
def intsOfD : List D → Option (List Int)
  | [] => some []
  | .int i :: xs => (intsOfD xs).map (i :: ·)
  | _ => none
def tupOf : D → Option (List Int)
  | .tup xs => intsOfD xs
  | _ => none
def tupsOf : List D → Option (List (List Int))
  | [] => some []
  | x :: xs => (tupOf x).bind fun k => (tupsOf xs).map (k :: ·)
def intD (ns : List Int) : List D := ns.map .int
def tupD (ks : List (List Int)) : List D := ks.map fun k => .tup (intD k)
section
variable {C : VC} {G H : Hp}
theorem intsOfD_eq : ∀ {xs : List D} {ns : List Int}, intsOfD xs = some ns → xs = intD ns
  | [], ns, h => by cases h; rfl
  | x :: xs, ns, h => by
    cases x with
    | int i =>
      have h : (intsOfD xs).map (i :: ·) = some ns := h
      cases q : intsOfD xs with
      | none => rw [q] at h; cases h
      | some ms =>
        rw [q] at h
        cases h
        rw [intsOfD_eq q]
        rfl
    | _ => cases h
@[simp] theorem intsOfD_intD : ∀ ns : List Int, intsOfD (intD ns) = some ns
  | [] => rfl
  | i :: ns => by
    show (intsOfD (intD ns)).map (i :: ·) = _
    rw [intsOfD_intD] <;> rfl
theorem rpl_ints : ∀ {vs : List V} {ns : List Int}, RpL C G vs (intD ns) → vs = ns.map V.int
  | _, [], .nil => rfl
  | _, i :: ns, .cons r t => by
    cases r
    rw [rpl_ints t]
    rfl
theorem ints_rpl : ∀ ns : List Int, RpL C G (ns.map V.int) (intD ns)
  | [] => .nil
  | i :: ns => .cons (.int i) (ints_rpl ns)
theorem tupsOf_eq : ∀ {xs : List D} {ks : List (List Int)}, tupsOf xs = some ks → xs = tupD ks
  | [], ks, h => by cases h; rfl
  | x :: xs, ks, h => by
    have h : ((tupOf x).bind fun k => (tupsOf xs).map (k :: ·)) = some ks := h
    cases x with
    | tup ys =>
      have h : ((intsOfD ys).bind fun k => (tupsOf xs).map (k :: ·)) = some ks := h
      cases q : intsOfD ys with
      | none => rw [q] at h; cases h
      | some k =>
        rw [q] at h
        have h : (tupsOf xs).map (k :: ·) = some ks := h
        cases q2 : tupsOf xs with
        | none => rw [q2] at h; cases h
        | some ms =>
          rw [q2] at h
          cases h
          rw [tupsOf_eq q2, intsOfD_eq q]
          rfl
    | _ => cases h
@[simp] theorem tupsOf_tupD : ∀ ks : List (List Int), tupsOf (tupD ks) = some ks
  | [] => rfl
  | k :: ks => by
    show ((intsOfD (intD k)).bind fun k => (tupsOf (tupD ks)).map (k :: ·)) = _
    rw [intsOfD_intD, tupsOf_tupD] <;> rfl
/-- the addresses of such tuples -/
theorem rpl_tups : ∀ {vs : List V} {ks : List (List Int)}, RpL C G vs (tupD ks) → ∃ ps : List (Addr × List Int), vs = ps.map (fun p => V.ref p.1) ∧ ps.map (·.2) = ks ∧ ∀ p ∈ ps, SqT C.K G p.1 (p.2.map V.int)
  | _, [], .nil => ⟨[], rfl, rfl, fun p hp => nomatch hp⟩
  | _, k :: ks, .cons r t => by
    obtain ⟨ps, h1, h2, h3⟩ := rpl_tups t
    cases r with
    | tup h q =>
      rename_i a us
      refine ⟨(a, k) :: ps, by rw [h1]; rfl, by rw [← h2]; rfl, fun p hp => ?_⟩
      rcases List.mem_cons.mp hp with e | hp
      · rw [e]
        rw [← rpl_ints q]
        exact h
      · exact h3 p hp
theorem tups_rpl : ∀ {ps : List (Addr × List Int)}, (∀ p ∈ ps, SqT C.K G p.1 (p.2.map V.int)) → RpL C G (ps.map fun p => V.ref p.1) (tupD (ps.map (·.2)))
  | [], _ => .nil
  | p :: ps, h => .cons (.tup (h p List.mem_cons_self) (ints_rpl p.2)) (tups_rpl fun q hq => h q (List.mem_cons_of_mem _ hq))
end
/-! ### sorted -/
def dSorted : D → Option Rv
  | .lst xs => match intsOfD xs with
    | some ns => some (.nl (intD (sortI ns)))
    | none => match tupsOf xs with
      | some ks => if ks.all (fun k => !k.isEmpty) = true then some (.nl (tupD (sortL ks))) else none
      | none => none
  | _ => none
abbrev rSrt (K : PySem.W.Frag) : List V → Hp → VK → Prop := fun xs H Q => rSortedI K xs H Q ∨ rSortL K xs H Q
section
variable {C : VC} {X : Cx} {W : WX} {e : Expr} {te : TE} {me : M Ref} {p pos : Pos}
theorem rule_sorted : RuleU C (fun v H Q => rSrt C.K [v] H Q) dSorted := by
  intro G H v x r Q S h hf hF
  cases x with
  | lst xs =>
    obtain ⟨a, vs, rfl, ha, rl⟩ := rs_lst h
    have hf : (match intsOfD xs with
      | some ns => some (Rv.nl (intD (sortI ns)))
      | none => match tupsOf xs with
        | some ks => if ks.all (fun k => !k.isEmpty) = true then some (.nl (tupD (sortL ks))) else none
        | none => none) = some r := hf
    cases q : intsOfD xs with
    | some ns =>
      rw [q] at hf
      cases hf
      rw [intsOfD_eq q] at rl
      refine .inl ⟨a, ns, rfl, ?_, fun ns' p pm sr hp => ?_⟩
      · rw [← rpl_ints rl]
        exact .of ha
      · rw [sortI_uniq pm sr]
        exact hF.1 _ p (ints_rpl _) hp
    | none =>
      rw [q] at hf
      cases q2 : tupsOf xs with
      | none => rw [q2] at hf; cases hf
      | some ks =>
        rw [q2] at hf
        replace hf : (if ks.all (fun k => !k.isEmpty) = true then some (Rv.nl (tupD (sortL ks))) else none) = some r := hf
        by_cases hk : ks.all (fun k => !k.isEmpty) = true
        · rw [if_pos hk] at hf
          cases hf
          rw [tupsOf_eq q2] at rl
          obtain ⟨ps, e1, e2, e3⟩ := rpl_tups rl
          subst e1 e2
          refine .inr ⟨a, ps, rfl, .of ha, fun p hp => ⟨VS.Same.sqt S (e3 p hp), fun z => ?_⟩, fun ps' p pm sr hp => ?_⟩
          · have k := List.all_eq_true.mp hk p.2 (List.mem_map.mpr ⟨p, hp, rfl⟩)
            rw [z] at k
            cases k
          · have e : ps'.map (·.2) = sortL (ps.map (·.2)) := sortL_uniq (pm.map _) (List.pairwise_map.mpr sr)
            rw [← e] at hF
            exact hF.1 _ p (tups_rpl fun q hq => e3 q (pm.mem_iff.mp hq)) hp
        · rw [if_neg hk] at hf
          cases hf
  | _ => cases hf
theorem se_sorted (hg : Gl X "sorted") (hm : X.mg "sorted" = none) (h : SE C X W e te me) (hK : X.K = C.K := by rfl)
    (h1 : starEach [e] X.env = (false, eval e X.env) :: starEach [] X.env := by rfl) : SE C X W (.Call (.Name "sorted" p) [e] [] pos) (tCB (rSrt C.K) (tCons te tNil)) (mUn dSorted me) :=
  ⟨pe_callB (crK (r := rSrt) (callOr cr_sortedI cr_sortL) hK) hg hm (by decide +kernel) (pa_cons h.pe pa_nil h1) (by decide) (by decide) h1 (by rfl), snd_u rule_sorted h.snd⟩
/-! ### sets, at once measured or sorted -/
def dLenSet : D → Option Rv
  | .lst xs => match intsOfD xs with
    | some ns => if ns.length + 1 < scanBound then some (.sc (.int (ddup ns).length)) else none
    | none => match tupsOf xs with
      | some ks => if ks.length < 64 then some (.sc (.int (ddup ks).length)) else none
      | none => none
  | _ => none
def dSortSet : D → Option Rv
  | .lst xs => match intsOfD xs with
    | some ns => if ns.length < 64 then some (.nl (intD (sortI (ddup ns)))) else none
    | none => none
  | _ => none
abbrev rMkS (C : VC) : List V → Hp → VK → Prop := fun xs H Q => rSetL C.K C.w xs H Q ∨ rSetOfT C.K C.P C.w xs H Q
abbrev rLenX2 (C : VC) : List V → Hp → VK → Prop := fun xs H Q => rLenS C.w xs H Q ∨ rLenT2 C.P C.w xs H Q
theorem rule_lenSet : RuleU C (fun v H Q => rMkS C [v] H fun w H2 => rLenX2 C [w] H2 Q) dLenSet := by
  intro G H v x r Q S h hf hF
  cases x with
  | lst xs =>
    obtain ⟨a, vs, rfl, ha, rl⟩ := rs_lst h
    have hf : (match intsOfD xs with
      | some ns => if ns.length + 1 < scanBound then some (Rv.sc (.int (ddup ns).length)) else none
      | none => match tupsOf xs with
        | some ks => if ks.length < 64 then some (.sc (.int (ddup ks).length)) else none
        | none => none) = some r := hf
    cases q : intsOfD xs with
    | some ns =>
      rw [q] at hf
      replace hf : (if ns.length + 1 < scanBound then some (Rv.sc (.int (ddup ns).length)) else none) = some r := hf
      by_cases hb : ns.length + 1 < scanBound
      · rw [if_pos hb] at hf
        cases hf
        rw [intsOfD_eq q] at rl
        refine .inl ⟨a, ns, rfl, ?_, hb, fun l c hl hc => .inl ⟨l, _, c, rfl, upd_same, fun ms nd hm => ?_⟩⟩
        · rw [← rpl_ints rl]
          exact .of ha
        · have e := (ddup_len nd fun k => by rw [hm k, decide_eq_true_eq] : ms.Perm (ddup ns)).length_eq
          rw [e]
          exact hF.2 l _ hl
      · rw [if_neg hb] at hf
        cases hf
    | none =>
      rw [q] at hf
      cases q2 : tupsOf xs with
      | none => rw [q2] at hf; cases hf
      | some ks =>
        rw [q2] at hf
        replace hf : (if ks.length < 64 then some (Rv.sc (.int (ddup ks).length)) else none) = some r := hf
        by_cases hb : ks.length < 64
        · rw [if_pos hb] at hf
          cases hf
          rw [tupsOf_eq q2] at rl
          obtain ⟨ps, e1, e2, e3⟩ := rpl_tups rl
          subst e1 e2
          refine .inr ⟨a, ps, rfl, .of ha, fun p hp => VS.Same.sqt S (e3 p hp), by rw [List.length_map] at hb; exact hb, fun l L hl m1 m2 => .inr ⟨l, L, rfl, upd_same, fun nd => ?_⟩⟩
          have e : (L.map (·.2)).Perm (ddup (ps.map (·.2))) := ddup_len nd fun k => by
            constructor
            · intro hk
              obtain ⟨p, hp, e⟩ := List.mem_map.mp hk
              exact List.mem_map.mpr ⟨p, m1 p hp, e⟩
            · intro hk
              obtain ⟨p, hp, e⟩ := List.mem_map.mp hk
              rw [← e]
              exact m2 p hp
          have e := e.length_eq
          rw [List.length_map] at e
          rw [e]
          exact hF.2 l _ hl
        · rw [if_neg hb] at hf
          cases hf
  | _ => cases hf
theorem rule_sortSet : RuleU C (fun v H Q => rSetL C.K C.w [v] H fun w H2 => rSortedSet C.w [w] H2 Q) dSortSet := by
  intro G H v x r Q S h hf hF
  cases x with
  | lst xs =>
    obtain ⟨a, vs, rfl, ha, rl⟩ := rs_lst h
    have hf : (match intsOfD xs with
      | some ns => if ns.length < 64 then some (Rv.nl (intD (sortI (ddup ns)))) else none
      | none => none) = some r := hf
    cases q : intsOfD xs with
    | some ns =>
      rw [q] at hf
      replace hf : (if ns.length < 64 then some (Rv.nl (intD (sortI (ddup ns)))) else none) = some r := hf
      by_cases hb : ns.length < 64
      · rw [if_pos hb] at hf
        cases hf
        rw [intsOfD_eq q] at rl
        refine ⟨a, ns, rfl, ?_, ?_, fun l c hl hc => ⟨l, _, c, rfl, upd_same, by omega, fun ms p sr hm hn hp => ?_⟩⟩
        · rw [← rpl_ints rl]
          exact .of ha
        · unfold scanBound
          omega
        · have nd : ms.Nodup := sr.imp fun h => Int.ne_of_lt h
          have e : ms.Perm (ddup ns) := ddup_len nd fun k => by rw [hm k, decide_eq_true_eq]
          rw [sortI_uniq e (sr.imp fun h => Int.le_of_lt h)]
          exact hF.2 l _ hl _ p (ints_rpl _) hp
      · rw [if_neg hb] at hf
        cases hf
    | none =>
      rw [q] at hf
      cases hf
  | _ => cases hf
variable {p2 q2 : Pos}
theorem se_lenSet (hc : X.calm = true) (hu : X.A.units + 64 < cLine) (hg : Gl X "len") (hm : X.mg "len" = none) (hg2 : Gl X "set") (hm2 : X.mg "set" = none) (h : SE C X W e te me) (hK : X.K = C.K := by rfl) (hP : X.prog = C.P := by rfl) (hw : X.w = C.w := by rfl)
    (h1 : starEach [e] X.env = (false, eval e X.env) :: starEach [] X.env := by rfl) (h2 : starEach [.Call (.Name "set" p2) [e] [] q2] X.env = (false, eval (.Call (.Name "set" p2) [e] [] q2) X.env) :: starEach [] X.env := by rfl) :
    SE C X W (.Call (.Name "len" p) [.Call (.Name "set" p2) [e] [] q2] [] pos) (tCB (rLenX2 C) (tCons (tCB (rMkS C) (tCons te tNil)) tNil)) (mUn dLenSet me) := by
  have k1 : CallR X (.builtin "len") (rLenX2 C) := by
    have z := callOr (X := X) cr_lenS cr_lenT2
    rw [hP, hw] at z
    exact z
  have k2 : CallR X (.type "set") (rMkS C) := by
    have z := callOr (X := X) (cr_setL hc) (cr_setOfT hc hu)
    rw [hP, hw, hK] at z
    exact z
  exact ⟨pe_callB k1 hg hm (by decide +kernel) (pa_cons (pe_callTy k2 hg2 hm2 (by decide +kernel) (pa_cons h.pe pa_nil h1) (by decide) (by decide) h1 (by rfl)) pa_nil h2) (by decide) (by decide) h2 (by rfl), snd_u (te := te) (rr := fun v H Q => rMkS C [v] H fun w H2 => rLenX2 C [w] H2 Q) rule_lenSet h.snd⟩
theorem se_sortSet (hc : X.calm = true) (hg : Gl X "sorted") (hm : X.mg "sorted" = none) (hg2 : Gl X "set") (hm2 : X.mg "set" = none) (h : SE C X W e te me) (hK : X.K = C.K := by rfl) (hw : X.w = C.w := by rfl)
    (h1 : starEach [e] X.env = (false, eval e X.env) :: starEach [] X.env := by rfl) (h2 : starEach [.Call (.Name "set" p2) [e] [] q2] X.env = (false, eval (.Call (.Name "set" p2) [e] [] q2) X.env) :: starEach [] X.env := by rfl) :
    SE C X W (.Call (.Name "sorted" p) [.Call (.Name "set" p2) [e] [] q2] [] pos) (tCB (rSortedSet C.w) (tCons (tCB (rSetL C.K C.w) (tCons te tNil)) tNil)) (mUn dSortSet me) := by
  have k1 : CallR X (.builtin "sorted") (rSortedSet C.w) := by
    have z := cr_sortedSet (X := X) hc
    rw [hw] at z
    exact z
  have k2 : CallR X (.type "set") (rSetL C.K C.w) := by
    have z := cr_setL (X := X) hc
    rw [hw, hK] at z
    exact z
  exact ⟨pe_callB k1 hg hm (by decide +kernel) (pa_cons (pe_callTy k2 hg2 hm2 (by decide +kernel) (pa_cons h.pe pa_nil h1) (by decide) (by decide) h1 (by rfl)) pa_nil h2) (by decide) (by decide) h2 (by rfl), snd_u (te := te) (rr := fun v H Q => rSetL C.K C.w [v] H fun w H2 => rSortedSet C.w [w] H2 Q) rule_sortSet h.snd⟩
end
/-! ### enumerate -/
def enumD (xs : List D) : List D := xs.zipIdx.map fun p => .tup [.int (p.2 : Nat), p.1]
def enumOf : D → Option (List D)
  | .lst xs => some (enumD xs)
  | _ => none
def mEnum (a : M Ref) : M (List D) := M.bind (mFrz a) fun x => M.opt (enumOf x)
section
variable {C : VC} {X : Cx} {W : WX} {e : Expr} {te : TE} {me : M Ref} {p pos tpos : Pos} {elts : List Expr} {kk : Nat}
theorem enumD_get {xs : List D} {i : Nat} {y : D} (h : (enumD xs)[i]? = some y) : ∃ x, xs[i]? = some x ∧ y = .tup [.int (i : Nat), x] := by
  unfold enumD at h
  rw [List.getElem?_map, List.getElem?_zipIdx] at h
  cases q : xs[i]? with
  | none => rw [q] at h; cases h
  | some x =>
    rw [q] at h
    refine ⟨x, rfl, ?_⟩
    have h : some (D.tup [.int ((0 + i : Nat) : Int), x]) = some y := h
    rw [Nat.zero_add] at h
    exact (Option.some.inj h).symm
theorem enumD_len {xs : List D} : (enumD xs).length = xs.length := by simp [enumD]
theorem walks_enum {G : Hp} {a : Addr} {vs : List V} {xs : List D} (ha : G a = some (.lst vs)) (r : RpL C G vs xs) : Walks C (Ite C.K a) (enumD xs) (KStill G) where
  stop := fun G1 H1 k => ⟨vs, .of (k.2 _ _ (k.1 _ _ ha)), by rw [enumD_len, r.length]; exact Nat.le_refl _⟩
  go := fun i y G1 H1 hy k => by
    obtain ⟨x, hx, _⟩ := enumD_get hy
    obtain ⟨v, hv, _⟩ := r.get hx
    exact ⟨vs, v, .of (k.2 _ _ (k.1 _ _ ha)), hv⟩
  yld := fun i y v H2 B ρ σ G1 H1 hy k E q => by
    obtain ⟨x, hx, ey⟩ := enumD_get hy
    obtain ⟨u, hu, ru⟩ := r.get hx
    obtain ⟨T, z, e1, e2, e3, e4⟩ := q
    have e5 := e4 vs (.of (k.2 _ _ (k.1 _ _ ha)))
    rw [hu] at e5
    cases e5
    subst e1 e3 ey
    have hg : G1 T = none := E.fr.gh.free e2
    have E2 : EnvR C B ρ σ none (upd G1 T (.tup [.int (i : Nat), u])) (upd H1 T (.tup [.int (i : Nat), u])) := ⟨E.fr.lay e2 (fun _ z => nomatch z), E.len⟩
    exact ⟨_, same_up hg, E2, .tup (.of upd_same) (.cons (.int _) (.cons ((ru.mono k.1).mono (same_up hg)) .nil))⟩
theorem snd_enum (h : SndE C W te me) : SndI C W (iEnum C.K (tCons te tNil)) (mEnum me) := by
  intro B ρ σ G H R E P
  refine h.f (Q := fun v H1 => ∃ a xs, [v] = [.ref a] ∧ SqL C.K H1 a xs ∧ R (Ite C.K a) H1) E ?_
  unfold mEnum at P
  rw [mbind] at P
  cases q : mFrz me ρ with
  | stuck => rw [q] at P; exact P
  | err c ρ' => rw [q] at P; exact P
  | ok x ρ1 =>
    rw [q, bind_ok] at P
    cases x with
    | lst xs =>
      intro v G1 H1 E1 S1 r1
      cases r1 with
      | lst a b => exact ⟨_, _, rfl, .of (E1.fr.gh _ _ a), P _ G1 H1 E1 S1 (walks_enum a b)⟩
    | _ => exact P.elim
theorem si_enum (hg : Gl X "enumerate") (hm : X.mg "enumerate" = none) (h : SE C X W e te me) (hK : X.K = C.K := by rfl) (hs : starEach [e] X.env = [(false, eval e X.env)] := by rfl) :
    SI C X W (.Tuple elts kk tpos) (.Call (.Name "enumerate" p) [e] [] pos) (iEnum C.K (tCons te tNil)) (mEnum me) := ⟨by rw [← hK]; exact pi_enum hg hm (pa_cons h.pe pa_nil hs) hs, snd_enum h.snd⟩
end
end VS

/-! VS13: keyword calls, instances. -/
namespace VS
open PySem PySem.Spec PyProof.Rows L2

/-- what is wished of an exception does not look at the slots -/
def Free (W : WX) : Prop := ∀ c d σ σ' H, W c d σ H → W c d σ' H
theorem free_of {E : XK} : Free (fun c d _ H => E c d H) := fun _ _ _ _ _ h => h
def xOf (W : WX) : XK := fun c d H => ∀ σ, W c d σ H
theorem pass_of {X : Cx} {W : WX} (tk : Takes X W) : Passes (L2.CX X.prog X.w) X (xOf W) := passes_call tk fun _ _ σ _ h => h σ
theorem pass_no {X : Cx} (H : Hp) (s : Shared) (e : Value) (s' : Shared) (pins : List (Addr × Obj)) (σ : L2.St) (s0 : Shared) (I : Inv X pins σ H s) (c : L2.CX X.prog X.w X.stack H s (fun _ _ _ => False) e s') : False := by
  have z := XE.of_call (X := X) (W := fun _ _ _ _ => False) (σ := σ) I (fun _ _ _ h => h) c
  obtain ⟨_, _, _, _, _, _, _, _, _, _, _, _, _, _, _, _, w⟩ := z
  exact w
section
variable {C : VC} {B : Bd} {W : WX} {ρ : En} {σ : L2.St} {G H : Hp} {den : Den}
theorem post_callX {Q : VK} {os : List Opd} {vs : List V} {n : Nat} (fr : Free W) (hn : vs.length = n) (E : EnvR C B ρ σ none G H) (r : OpdsR C σ G os vs) (P : PostE C B W σ G Q (callD den os ρ)) : spD C n den vs H Q (xOf W) :=
  post_call (W := fun c d _ H => xOf W c d H) (σ := σ) hn E r (by
    cases q : callD den os ρ with
    | stuck => rw [q] at P; exact P
    | err c ρ' => rw [q] at P; exact fun G' H' Ca E' hc σ' => fr _ _ _ _ _ (P G' H' Ca E' hc)
    | ok x ρ' =>
      rw [q] at P
      cases x with
      | sv s => exact P
      | loc i => exact P)
end
/-! ### f(e, .., k = v, ..), the keywords in the parameters' order -/
structure SK (C : VC) (X : Cx) (W : WX) (kws : List Keyword) (t : TA) (m : M (List Opd)) : Prop where
  pk : PK X kws t
  snd : SndA C W t m
def mCallK (den : Den) (a k : M (List Opd)) : M Ref := M.bind a fun os => M.bind k fun ks => callD den (os ++ ks)
theorem OpdsR.app {C : VC} {σ : L2.St} {G : Hp} : ∀ {os ks : List Opd} {vs us : List V}, OpdsR C σ G os vs → OpdsR C σ G ks us → OpdsR C σ G (os ++ ks) (vs ++ us)
  | _, _, _, _, .nil, s => s
  | _, _, _, _, .cons r t, s => .cons r (OpdsR.app t s)
section
variable {C : VC} {X : Cx} {W : WX} {k n : Nat} {x : Str} {st : Stmt} {ps ks : List Str} {den : Den} {e : Expr} {es : List Expr} {kws : List Keyword} {t tk : TA} {ma mk : M (List Opd)} {p pos kpos : Pos} {nm : Option Str} {te : TE} {me : M Ref}
theorem sk_nil : SK C X W [] tNil (M.ret []) := ⟨pk_nil, snd_nil⟩
theorem sk_cons (h : SE C X W e te me) (r : SK C X W kws t ma) : SK C X W (⟨nm, e, kpos⟩ :: kws) (tCons te t) (mCons me ma) := ⟨pk_cons h.pe r.pk, snd_cons h.snd r.snd⟩
theorem snd_callK (fr : Free W) (ha : SndA C W t ma) (hk : SndA C W tk mk) (hl : Len ma n) (hl2 : Len mk ks.length) (hn : n + ks.length = ps.length) : SndE C W (tCallN n ks.length (spD C ps.length den) (fun vs zs => vs ++ zs) (xOf W) t tk) (mCallK den ma mk) := by
  intro B ρ σ G H Q E P
  refine ha B ρ σ G H _ E ?_
  unfold mCallK at P
  rw [mbind] at P
  cases q : ma ρ with
  | stuck => rw [q] at P; exact P
  | err c ρ' => rw [q] at P; exact P
  | ok os ρ1 =>
    rw [q, bind_ok, mbind] at P
    intro vs G1 H1 E1 S1 r1
    refine hk B ρ1 σ G1 H1 _ E1 ?_
    cases q2 : mk ρ1 with
    | stuck => rw [q2] at P; exact P
    | err c ρ' => rw [q2] at P; exact P
    | ok os2 ρ2 =>
      rw [q2, bind_ok] at P
      intro us G2 H2 E2 S2 r2
      have l1 : vs.length = n := r1.length.symm.trans (hl _ _ _ q)
      have l2 : us.length = ks.length := r2.length.symm.trans (hl2 _ _ _ q2)
      exact ⟨l1, l2, post_callX fr (by rw [List.length_append, l1, l2, hn]) E2 ((r1.mono S2).app r2) (P.same (S1.trans S2))⟩
theorem kbn_of {K : PySem.W.Frag} {kV doc pm : Value} {an : Option Addr} {cdv ct : Value} (hb : ∀ (us ws : List Value), us.length = n → ws.length = ks.length → bindArgs (PySem.W.fnOf x x (defArgs st) (defBody st) (defScope st) .none kV doc pm an cdv ct) ⟨us, ks.zip ws⟩ = pure (ps.zip (us ++ ws))) :
    KBn K (PySem.W.fnOf x x (defArgs st) (defBody st) (defScope st) .none kV doc pm an cdv ct) ps n ks (fun us ws => us ++ ws) (fun vs zs => vs ++ zs) := ⟨fun s us ws _ h1 h2 => .of_eq (hb us ws h1 h2), fun r1 r2 => r1.append r2⟩
theorem se_callK (F : FV C X.prog X.w X.base k x st ps den) (tk' : Takes X W) (fr : Free W) (hr : Room k X.A) (hg : Gl X x) (ha : SA C X W (e :: es) t ma) (hkw : SK C X W kws tk mk)
    (hb : ∀ (kV doc pm : Value) (an : Option Addr) (cdv ct : Value) (us ws : List Value), us.length = n → ws.length = ks.length → bindArgs (PySem.W.fnOf x x (defArgs st) (defBody st) (defScope st) .none kV doc pm an cdv ct) ⟨us, ks.zip ws⟩ = pure (ps.zip (us ++ ws)))
    (hl : Len ma n) (hl2 : Len mk ks.length) (hn : n + ks.length = ps.length := by rfl) (hK : X.K = C.K := by rfl) (hm : X.mg = C.mg := by rfl)
    (hall : (backToKw pos (keywordEach kws X.env)).all (·.1.isSome) = true := by rfl) (hks : (backToKw pos (keywordEach kws X.env)).filterMap (·.1) = ks := by rfl)
    (hdb : (x == ("__debug__" : Str)) = false := by decide) (he : starEach (e :: es) X.env = (false, eval e X.env) :: starEach es X.env := by rfl)
    (hpl : ((backTo pos (starEach (e :: es) X.env)).any (·.1) || (backToKw pos (keywordEach kws X.env)).any (·.1.isNone)) = false := by rfl) :
    SE C X W (.Call (.Name x p) (e :: es) kws pos) (tCallN n ks.length (spD C ps.length den) (fun vs zs => vs ++ zs) (xOf W) t tk) (mCallK den ma mk) := by
  refine ⟨?_, snd_callK fr ha.snd hkw.snd hl hl2 hn⟩
  obtain ⟨fd, G, kV, doc, pm, an, cdv, ct, e1⟩ := F.fn
  rw [← hK, ← hm] at G
  subst e1
  exact pe_callN G hr hg (by rw [hm, hK]; exact F.gl) (by rw [hK]; exact F.kp) (kbn_of (hb kV doc pm an cdv ct)) (pass_of tk') ha.pa hkw.pk hall hks hdb he hpl
/-- .. keywords alone -/
theorem se_callK0 (F : FV C X.prog X.w X.base k x st ps den) (tk' : Takes X W) (fr : Free W) (hr : Room k X.A) (hg : Gl X x) (hkw : SK C X W kws tk mk)
    (hb : ∀ (kV doc pm : Value) (an : Option Addr) (cdv ct : Value) (us ws : List Value), us.length = 0 → ws.length = ks.length → bindArgs (PySem.W.fnOf x x (defArgs st) (defBody st) (defScope st) .none kV doc pm an cdv ct) ⟨us, ks.zip ws⟩ = pure (ps.zip (us ++ ws)))
    (hl2 : Len mk ks.length) (hn : 0 + ks.length = ps.length := by rfl) (hK : X.K = C.K := by rfl) (hm : X.mg = C.mg := by rfl)
    (hall : (backToKw pos (keywordEach kws X.env)).all (·.1.isSome) = true := by rfl) (hks : (backToKw pos (keywordEach kws X.env)).filterMap (·.1) = ks := by rfl)
    (hdb : (x == ("__debug__" : Str)) = false := by decide)
    (hpl : ((backTo pos (starEach [] X.env)).any (·.1) || (backToKw pos (keywordEach kws X.env)).any (·.1.isNone)) = false := by rfl) :
    SE C X W (.Call (.Name x p) [] kws pos) (tCallN 0 ks.length (spD C ps.length den) (fun vs zs => vs ++ zs) (xOf W) tNil tk) (mCallK den (M.ret []) mk) := by
  refine ⟨⟨fun pins s σ H Q I h => ?_⟩, snd_callK fr snd_nil hkw.snd len_nil hl2 hn⟩
  obtain ⟨fd, G, kV, doc, pm, an, cdv, ct, e1⟩ := F.fn
  rw [← hK, ← hm] at G
  subst e1
  have gk : PySem.W.keepIn X.K (.ref (He.ga X.K x)) = true := by rw [hK]; exact F.kp
  have gm : X.mg x = some (.ref (He.ga X.K x)) := by rw [hm, hK]; exact F.gl
  refine wpAny_Call_Name_kw (ld_glob I hg gm ?_ hdb)
  refine PySem.W.callWith_KW0 (h₀ := X.base) I.ok.mod.kin gk hall (thn (hkw.pk.run pos pins s σ H _ I h) fun ws s2 ⟨zs, H2, I2, rz, l1, l2, q2⟩ => ⟨I2.kIn, ?_⟩) hpl
  rw [hks]
  exact run_fnN (us := []) (vs := []) G hr (kbn_of (hb kV doc pm an cdv ct)) (pass_of tk') I2 .nil rz l1 l2 q2
end
/-! ### e.f -/
/-- what the written part says of an own class's fields -/
structure CF (C : VC) (c : Str) (fs : List Str) : Prop where
  ex : ∃ Ca, C.mg c = some (.ref Ca) ∧ Cls C.K Ca ∧ ∀ f ∈ fs, NoAttr C.K Ca f
def dFld (cf : List (Str × List Str)) (f : Str) : D → Option Rv
  | .ins c gs => (cf.lookup c).bind fun fs => if f ∈ fs then (gs.lookup f).map .it else none
  | _ => none
def putFD (f : Str) (v : D) : List (Str × D) → List (Str × D)
  | [] => [(f, v)]
  | (g, x) :: r => if g = f then (g, v) :: r else (g, x) :: putFD f v r
abbrev rFld (K : PySem.W.Frag) (f : Str) : V → Hp → VK → Prop := fun x H1 Q => ∃ a C dx fs v, x = .ref a ∧ H1 a = some (.ins C dx fs) ∧ Cls K C ∧ NoAttr K C f ∧ fs.lookup f = some v ∧ Q v H1
section
variable {C : VC} {X : Cx} {W : WX} {P : List Nat} {e value : Expr} {te tv : TE} {me mv : M Ref} {f x : Str} {p pos pos' : Pos} {cf : List (Str × List Str)} {i : Nat}
theorem RpF.look {G : Hp} {f : Str} : ∀ {vs : List (Str × V)} {ds : List (Str × D)} {d : D}, RpF C G vs ds → ds.lookup f = some d → ∃ v, vs.lookup f = some v ∧ Rp C G v d
  | _, _, _, .nil, h => by cases h
  | _, _, d, .cons (k := k) (v := v) (vs := vs) (d := d') (ds := ds) r t, h => by
    by_cases e : f = k
    · subst e
      have h : (match f == f with | true => some d' | false => List.lookup f ds) = some d := h
      have eb : (f == f) = true := beq_iff_eq.mpr rfl
      rw [eb] at h
      cases h
      refine ⟨v, ?_, r⟩
      show (match f == f with | true => some v | false => List.lookup f vs) = some v
      rw [eb]
    · have eb : (f == k) = false := beq_eq_false_iff_ne.mpr e
      have h : (match f == k with | true => some d' | false => List.lookup f ds) = some d := h
      rw [eb] at h
      obtain ⟨u, h1, h2⟩ := RpF.look t h
      refine ⟨u, ?_, h2⟩
      show (match f == k with | true => some v | false => List.lookup f vs) = some u
      rw [eb]
      exact h1
theorem RpF.put {G : Hp} {f : Str} {v : V} {d : D} (r : Rp C G v d) : ∀ {vs : List (Str × V)} {ds : List (Str × D)}, RpF C G vs ds → RpF C G (putF f v vs) (putFD f d ds)
  | _, _, .nil => .cons r .nil
  | _, _, .cons (k := k) q t => by
    unfold putF putFD
    by_cases e : k = f
    · rw [if_pos e, if_pos e]
      exact .cons r t
    · rw [if_neg e, if_neg e]
      exact .cons q (RpF.put r t)
theorem RpF.length {G : Hp} : ∀ {vs : List (Str × V)} {ds : List (Str × D)}, RpF C G vs ds → vs.length = ds.length
  | _, _, .nil => rfl
  | _, _, .cons _ t => congrArg Nat.succ (RpF.length t)
theorem rule_fld (h : ∀ q ∈ cf, CF C q.1 q.2) : RuleU C (rFld C.K f) (dFld cf f) := by
  intro G H v x r Q S hr hf hF
  cases x with
  | ins c gs =>
    have hf : ((cf.lookup c).bind fun fs => if f ∈ fs then (gs.lookup f).map Rv.it else none) = some r := hf
    cases q : cf.lookup c with
    | none => rw [q] at hf; cases hf
    | some fs =>
      rw [q] at hf
      have hf : (if f ∈ fs then (gs.lookup f).map Rv.it else none) = some r := hf
      by_cases hm : f ∈ fs
      · rw [if_pos hm] at hf
        cases q2 : gs.lookup f with
        | none => rw [q2] at hf; cases hf
        | some d =>
          rw [q2] at hf
          cases hf
          obtain ⟨a, Ca, dx, vs, rfl, m1, m2, m3, m4⟩ := (show ∃ a Ca dx vs, v = V.ref a ∧ C.mg c = some (.ref Ca) ∧ H a = some (.ins Ca dx vs) ∧ G dx = some (.own a) ∧ RpF C G vs gs from hr)
          obtain ⟨Ca', n1, n2, n3⟩ := (h (c, fs) (PySem.mem_of_lookup q)).ex
          rw [m1] at n1
          cases n1
          obtain ⟨u, h1, h2⟩ := m4.look q2
          exact ⟨a, Ca, dx, vs, u, rfl, m2, n2, n3 f hm, h1, hF.1 u h2⟩
      · rw [if_neg hm] at hf
        cases hf
  | _ => cases hf
theorem se_fld (h : ∀ q ∈ cf, CF C q.1 q.2) (he : SE C X W e te me) (hK : X.K = C.K := by rfl) (hb : attributeBase e f X.env (eval e X.env) = eval e X.env := by rfl) : SE C X W (.Attribute e f pos) (tFld C.K te f) (mUn (dFld cf f) me) :=
  ⟨by rw [← hK]; exact pe_fld he.pe hb, snd_u (rule_fld h) he.snd⟩
/-- slot i . f = e -/
def fputD (cf : List (Str × List Str)) (i : Nat) (f : Str) (v : D) : M Fl := fun ρ => match ρ.getD i none with
  | some (.oi c gs) => (match cf.lookup c with
    | some fs => if f ∈ fs ∧ gs.length < 1000 then .ok .nx (ρ.set i (some (.oi c (putFD f v gs)))) else .stuck
    | none => .stuck)
  | _ => .stuck
def mFPut (cf : List (Str × List Str)) (i : Nat) (f : Str) (v : M Ref) : M Fl := M.bind (mFrz v) (fputD cf i f)
theorem snd_fput (h : ∀ q ∈ cf, CF C q.1 q.2) (hv : SndE C W tv mv) : SndS C P W (sFld C.K (tVar i) tv f) (mFPut cf i f mv) := by
  intro B ρ σ G H D E pn Q
  refine hv.f E ?_
  unfold mFPut at Q
  rw [mbind] at Q
  cases q : mFrz mv ρ with
  | stuck => rw [q] at Q; exact Q
  | err c ρ' => rw [q] at Q; exact fun G' H' Ca E' hc => Q σ G' H' Ca E' pn hc
  | ok x ρ1 =>
    rw [q, bind_ok] at Q
    intro v G1 H1 E1 S1 r1
    unfold fputD at Q
    cases q3 : ρ1.getD i none with
    | none => rw [q3] at Q; exact Q.elim
    | some s =>
      rw [q3] at Q
      cases s with
      | oi c gs =>
        dsimp only at Q
        cases q4 : cf.lookup c with
        | none => rw [q4] at Q; exact Q.elim
        | some fs =>
          rw [q4] at Q
          dsimp only at Q
          by_cases hm : f ∈ fs ∧ gs.length < 1000
          · rw [if_pos hm] at Q
            obtain ⟨w, hw, hvw⟩ := E1.slot q3
            obtain ⟨p, u, rfl, hp, ow, ch⟩ := E1.fr.chg hvw (.inr (.inr ⟨c, gs, rfl⟩))
            obtain ⟨p', Ca, dx, vs, a1, a2, a3, a4, a5, a6⟩ := ow
            cases a1
            obtain ⟨Ca', n1, n2, n3⟩ := (h (c, fs) (PySem.mem_of_lookup q4)).ex
            rw [a3] at n1
            cases n1
            refine ⟨_, hw, p, Ca, dx, vs, rfl, a4, n2, n3 f hm.1, by rw [a6.length]; exact hm.2, Q σ G1 _ ⟨?_, by simp [E1.len]⟩ S1 pn⟩
            have z := ch (.oi c (putFD f x gs)) (.ins Ca dx (putF f v vs)) ⟨(fun _ z => nomatch z), fun _ z => nomatch z⟩ ⟨p, Ca, dx, _, rfl, rfl, a3, upd_same, a5, a6.put r1⟩
            rw [view_set1 (slot_lt q3) (getD_st hw)]
            exact z
          · rw [if_neg hm] at Q
            exact Q.elim
      | d x => exact Q.elim
      | ol x => exact Q.elim
      | od x => exact Q.elim
      | dr x => exact Q.elim
      | sc x => exact Q.elim
theorem s_fput (h : ∀ q ∈ cf, CF C q.1 q.2) (ho : PE X (.Name x p) (tVar i)) (hv : SE C X W value tv mv) (hK : X.K = C.K := by rfl) (hs : swapsWith value (some (.Attribute (.Name x p) f pos')) pos.line X.env = pure false := by rfl) :
    S1 C P X W (.Assign [.Attribute (.Name x p) f pos'] value pos) (sFld C.K (tVar i) tv f) (mFPut cf i f mv) := ⟨by rw [← hK]; exact ps_fld ho hv.pe hs, snd_fput h hv.snd⟩
end
end VS

/-! VS14: instances are made, len of an instance. -/
namespace VS
open PySem PySem.Spec PyProof.Rows L2

section
variable {C : VC} {B : Bd} {W : WX} {ρ : En} {σ : L2.St} {G H : Hp} {s : SV} {v : V}
/-- the result as one slot more -/
theorem EnvR.push (E : EnvR C B ρ σ (some (s, v)) G H) : EnvR C B (ρ ++ [some s]) (σ ++ [some v]) none G H := by
  refine ⟨?_, by simp [E.len]⟩
  have gl : ∀ j, j ≠ ρ.length → (ρ ++ [some s]).getD j none = ρ.getD j none := fun j hj => by
    by_cases h : j < ρ.length
    · exact getD_append_left h
    · rw [List.getD_eq_getElem?_getD, List.getElem?_eq_none (by simp; omega), List.getD_eq_getElem?_getD, List.getElem?_eq_none (by omega)]
  have gl2 : ∀ j, j ≠ σ.length → (σ ++ [some v]).getD j none = σ.getD j none := fun j hj => by
    by_cases h : j < σ.length
    · exact getD_append_left h
    · rw [List.getD_eq_getElem?_getD, List.getElem?_eq_none (by simp; omega), List.getD_eq_getElem?_getD, List.getElem?_eq_none (by omega)]
  refine E.fr.remap (fun i => match i with | none => none | some j => if j = ρ.length then some none else some (some j)) (fun i j k h1 h2 => ?_) fun i => ?_
  · cases i with
    | none => cases h1
    | some i =>
      cases j with
      | none => cases h2
      | some j =>
        dsimp only at h1 h2
        by_cases hi : i = ρ.length
        · rw [if_pos hi] at h1
          by_cases hj : j = ρ.length
          · rw [hi, hj]
          · rw [if_neg hj] at h2
            cases h1; cases h2
        · rw [if_neg hi] at h1
          by_cases hj : j = ρ.length
          · rw [if_pos hj] at h2
            cases h1; cases h2
          · rw [if_neg hj] at h2
            cases h1; cases h2; rfl
  · cases i with
    | none => exact .inr ⟨rfl, .inl rfl⟩
    | some j =>
      by_cases hj : j = ρ.length
      · refine .inl ⟨none, if_pos hj, ?_⟩
        subst hj
        show ((ρ ++ [some s]).getD ρ.length none, (σ ++ [some v]).getD ρ.length none) = (some s, some v)
        rw [E.len]
        have h1 : (ρ ++ [some s]).getD σ.length none = some s := by
          rw [← E.len, List.getD_eq_getElem?_getD, List.getElem?_append_right (Nat.le_refl _)]
          simp
        have h2 : (σ ++ [some v]).getD σ.length none = some v := by
          rw [List.getD_eq_getElem?_getD, List.getElem?_append_right (Nat.le_refl _)]
          simp
        rw [h1, h2]
      · refine .inl ⟨some j, if_neg hj, ?_⟩
        show ((ρ ++ [some s]).getD j none, (σ ++ [some v]).getD j none) = (ρ.getD j none, σ.getD j none)
        rw [gl j hj, gl2 j (by rw [← E.len]; exact hj)]
/-- the last slots forgotten -/
theorem EnvR.cut {τ : L2.St} {x : Option (SV × V)} (E : EnvR C B ρ (σ ++ τ) x G H) : EnvR C B (ρ.take σ.length) σ x G H := by
  have hl : σ.length ≤ ρ.length := by rw [E.len]; simp
  refine ⟨?_, by simp [hl]⟩
  refine E.fr.remap (fun i => match i with | none => some none | some j => if j < σ.length then some (some j) else none) (fun i j k h1 h2 => ?_) fun i => ?_
  · cases i with
    | none =>
      cases j with
      | none => rfl
      | some j =>
        dsimp only at h1 h2
        split at h2
        · cases h1; cases h2
        · cases h2
    | some i =>
      cases j with
      | none =>
        dsimp only at h1 h2
        split at h1
        · cases h1; cases h2
        · cases h1
      | some j =>
        dsimp only at h1 h2
        split at h1
        · split at h2
          · cases h1; cases h2; rfl
          · cases h2
        · cases h1
  · cases i with
    | none => exact .inl ⟨none, rfl, rfl⟩
    | some j =>
      by_cases h : j < σ.length
      · refine .inl ⟨some j, if_pos h, ?_⟩
        show ((ρ.take σ.length).getD j none, σ.getD j none) = (ρ.getD j none, (σ ++ τ).getD j none)
        have h1 : (ρ.take σ.length).getD j none = ρ.getD j none := by
          rw [List.getD_eq_getElem?_getD, List.getElem?_take_of_lt h, List.getD_eq_getElem?_getD]
        rw [h1, getD_append_left h]
      · refine .inr ⟨if_neg h, .inl ?_⟩
        show (ρ.take σ.length).getD j none = none
        rw [List.getD_eq_getElem?_getD, List.getElem?_eq_none (by simp; omega)] <;> rfl
theorem OpdsR.push {τ : L2.St} : ∀ {os : List Opd} {vs : List V}, OpdsR C σ G os vs → OpdsR C (σ ++ τ) G os vs
  | _, _, .nil => .nil
  | _, _, .cons (o := o) (v := v) h t => .cons (by
    cases o with
    | d x => exact h
    | loc i =>
      have h : σ[i]? = some (some v) := h
      show (σ ++ τ)[i]? = some (some v)
      rw [List.getElem?_append_left (List.getElem?_eq_some_iff.mp h).1]
      exact h) (OpdsR.push t)
/-- a thing not yet finished is made of the class c -/
theorem EnvR.newI {c : Str} {Ca x dx : Addr} (E : EnvR C B ρ σ none G H) (hc : C.mg c = some (.ref Ca)) (hx : H x = none) (hdx : H dx = none) (hne : dx ≠ x) :
    ∃ G', Same G G' ∧ EnvR C B ρ σ (some (.oi c [], .ref x)) G' (upd (upd H dx (.own x)) x (.ins Ca dx [])) := by
  have F1 := E.fr.lay (o := .own x) hdx (fun _ z => nomatch z)
  have hx1 : upd H dx (.own x) x = none := by rw [upd_ne (Ne.symm hne)]; exact hx
  have F2 := F1.layOwn (o := .ins Ca dx []) hx1 ⟨(fun _ z => nomatch z), fun _ z => nomatch z⟩ none (s := .oi c []) (v := .ref x) ⟨x, Ca, dx, [], rfl, rfl, hc, upd_same, upd_same, .nil⟩
  refine ⟨upd G dx (.own x), same_up (E.fr.gh.free hdx), ?_, E.len⟩
  rw [show ((some (SV.oi c []), some (V.ref x)) : Slot) = ((some (SV.oi c [], V.ref x)).map (·.1), (some (SV.oi c [], V.ref x)).map (·.2)) from rfl, upS_view_none] at F2
  exact F2
end
/-- C(e, ..): den is what __init__ does with the new thing and the arguments -/
def makeD (c : Str) (den : Den) (os : List Opd) : M Ref := fun ρ => match callD den (.loc ρ.length :: os) (ρ ++ [some (.oi c [])]) with
  | .ok (.sv (.d .non)) ρ' => (match ρ'.getD ρ.length none with
    | some (.oi c' fs) => .ok (.sv (.d (.ins c' fs))) (ρ'.take ρ.length)
    | _ => .stuck)
  | .err e ρ' => .err e (ρ'.take ρ.length)
  | _ => .stuck
def mMake (c : Str) (den : Den) (a : M (List Opd)) : M Ref := M.bind a (makeD c den)
section
variable {C : VC} {X : Cx} {W : WX} {k : Nat} {x c : Str} {st : Stmt} {ps : List Str} {den : Den} {e : Expr} {es : List Expr} {t : TA} {ma : M (List Opd)} {p pos : Pos} {qual y : Str} {f Ca : Addr}
theorem snd_make (fr : Free W) (hc : C.mg c = some (.ref Ca)) (ha : SndA C W t ma) (hl : Len ma ps.length) : SndE C W (tMake Ca (spD C (ps.length + 1) den) [] (xOf W) t) (mMake c den ma) := by
  intro B ρ σ G H Q E P
  refine ha B ρ σ G H _ E ?_
  unfold mMake at P
  rw [mbind] at P
  cases q : ma ρ with
  | stuck => rw [q] at P; exact P
  | err c ρ' => rw [q] at P; exact P
  | ok os ρ1 =>
    rw [q, bind_ok] at P
    intro vs G1 H1 E1 S1 r1 x dx hx hdx hne
    obtain ⟨G2, S2, E2⟩ := E1.newI hc hx hdx hne
    have E3 := E2.push
    have slot : (σ ++ [some (V.ref x)])[σ.length]? = some (some (.ref x)) := by
      rw [List.getElem?_append_right (Nat.le_refl _)]
      simp
    have len : ρ1.length = σ.length := E1.len
    have ro : OpdsR C (σ ++ [some (V.ref x)]) G2 (.loc ρ1.length :: os) (.ref x :: vs) := .cons (by
      show (σ ++ [some (V.ref x)])[ρ1.length]? = _
      rw [len]
      exact slot) ((r1.mono S2).push)
    rw [List.append_nil]
    refine post_call (W := fun c d _ H => xOf W c d H) (σ := σ ++ [some (V.ref x)]) (by rw [List.length_cons, r1.length.symm.trans (hl _ _ _ q)]) E3 ro ?_
    unfold makeD at P
    cases q2 : callD den (.loc ρ1.length :: os) (ρ1 ++ [some (.oi c [])]) with
    | stuck => rw [q2] at P; exact P
    | err e ρ' =>
      rw [q2] at P
      intro G' H' Ea E' he σ'
      refine fr _ _ _ _ _ (P G' H' Ea ?_ he)
      rw [len]
      exact E'.cut
    | ok rf ρ' =>
      rw [q2] at P
      cases rf with
      | loc i => exact P.elim
      | sv s =>
        cases s with
        | d z =>
          cases z with
          | non =>
            intro v G' H' E' S'
            have ev : v = .non := by
              cases E'.resOf
              rfl
            refine ⟨ev, ?_⟩
            dsimp only at P
            cases q3 : ρ'.getD ρ1.length none with
            | none => rw [q3] at P; exact P.elim
            | some s2 =>
              rw [q3] at P
              cases s2 with
              | oi c' fs =>
                rw [len] at q3
                have E4 := (E'.nox).take q3 slot
                obtain ⟨G5, S5, E5, r5⟩ := E4.frzRes (y := .ins c' fs) rfl
                have E6 := E5.cut.res r5
                have et : (ρ'.set σ.length none).take σ.length = ρ'.take ρ1.length := by
                  rw [len]
                  apply List.ext_getElem?
                  intro j
                  by_cases hj : j < σ.length
                  · rw [List.getElem?_take_of_lt hj, List.getElem?_take_of_lt hj, List.getElem?_set_ne (by omega)]
                  · rw [List.getElem?_eq_none (by simp; omega), List.getElem?_eq_none (by simp; omega)]
                rw [et] at E6
                exact P _ G5 H' E6 (S1.trans (S2.trans (S'.trans S5)))
              | d z => exact P.elim
              | ol z => exact P.elim
              | od z => exact P.elim
              | dr z => exact P.elim
              | sc z => exact P.elim
          | _ => exact P.elim
        | _ => exact P.elim
/-- a class: what the written part says of its making -/
structure CM (C : VC) (c : Str) (Ca f : Addr) : Prop where
  g : C.mg c = some (.ref Ca)
  m : Mk C.K Ca f
theorem se_make (M : CM C c Ca f) (F : FM C X.prog X.w X.base k f qual x st (y :: ps) den) (tk : Takes X W) (fr : Free W) (hr : Room (k + 1) X.A) (hg : Gl X c) (ha : SA C X W (e :: es) t ma)
    (hb : ∀ (kV doc pm : Value) (an : Option Addr) (cdv ct : Value) (us : List Value), us.length = (y :: ps).length → bindArgs (PySem.W.fnOf x qual (defArgs st) (defBody st) (defScope st) .none kV doc pm an cdv ct) ⟨us, []⟩ = pure ((y :: ps).zip us))
    (hl : Len ma ps.length) (hK : X.K = C.K := by rfl) (hm : X.mg = C.mg := by rfl)
    (hdb : (c == ("__debug__" : Str)) = false := by decide) (he : starEach (e :: es) X.env = (false, eval e X.env) :: starEach es X.env := by rfl) (hpl : (backTo pos (starEach es X.env)).any (·.1) = false := by rfl) :
    SE C X W (.Call (.Name c p) (e :: es) [] pos) (tMake Ca (spD C (ps.length + 1) den) [] (xOf W) t) (mMake c den ma) := by
  refine ⟨?_, snd_make fr M.g ha.snd hl⟩
  obtain ⟨fd, G, kV, doc, pm, an, cdv, ct, e1⟩ := F.fn
  rw [← hK, ← hm] at G
  subst e1
  exact pe_make (by rw [hK]; exact M.m) G hr hg (by rw [hm]; exact M.g) (.all (hb kV doc pm an cdv ct)) .nil (pass_of tk) ha.pa hdb he hpl
end
end VS

/-! VS15: len of an instance. -/
namespace VS
open PySem PySem.Spec PyProof.Rows L2

/-- len(e), e an instance of the class at Ca -/
def rLenI (Ca : Addr) (sp : Sp) : List V → Hp → VK → Prop := fun xs H Q => ∃ (a dx : Addr) (fs : List (Str × V)), xs = [V.ref a] ∧ H a = some (.ins Ca dx fs) ∧ sp [V.ref a] H (fun v H2 => ∃ n : Int, v = .int n ∧ (0 ≤ n ∧ n < 2 ^ 63) ∧ Q (.int n) H2) (fun _ _ _ => False)
theorem cr_lenI {X : Cx} {k : Nat} {Ca f : Addr} {fd : FuncData} {ps : List Str} {sp : Sp} (M : Meth X.K Ca "__len__" f) (F : FnOk X.prog X.w X.K X.mg X.base (L2.CX X.prog X.w) k f fd ps sp) (hb : Binds X.K fd ps []) (hr : Room (k + 1) X.A) : CallR X (.builtin "len") (rLenI Ca sp) := by
  intro pins s σ H xs us Q I r h
  obtain ⟨a, dx, fs, rfl, ha, q⟩ := h
  rw [Vals.ref1 r]
  obtain ⟨mA, J, _⟩ := ins_get I.hok ha
  obtain ⟨od, L, _⟩ := J.look
  obtain ⟨m, hF⟩ := I.fr
  obtain ⟨mf, mk, _⟩ := M
  refine PySem.W.len_K hF I.ok.mod.kin L mf mk ?_
  have rv : Vals [V.ref a] [Value.ref a] := .cons rfl .nil
  have hl : ([Value.ref a] : List Value).length = ps.length := F.len _ _ _ _ q
  refine wpAny_call (codeAny_mono (F.run X.A.in1 X.stack s H ⟨[.ref a], []⟩ [.ref a] [.ref a] _ _ hr.in1 I.env0.in1 (by
    have z := hb s [.ref a] I.kIn (by rw [List.append_nil]; exact hl)
    rw [List.append_nil] at z
    exact z) rv q) fun r s' hq => ?_)
  cases r with
  | error e => exact (pass_no H s e s' pins σ s I hq).elim
  | ok fl =>
    cases fl with
    | ret u =>
      obtain ⟨v, H', I', rz, n, rfl, hb, qz⟩ := I.after hq
      obtain ⟨t, rfl⟩ := (show ∃ t, u = Value.int n t from rz)
      exact ⟨hb, .int n, H', I'.tok _, ⟨_, rfl⟩, qz⟩
    | next => exact False.elim hq
    | brk => exact False.elim hq
    | cont => exact False.elim hq
/-- len of data that may be an instance: the method's promise -/
noncomputable def lenD (c : Str) (den : Den) (x : D) : M Ref := fun ρ => match x with
  | .ins c' fs => if c' = c then (match den [.d (.ins c' fs)] with
    | .ok (.d (.int n)) _ => @ite _ (0 ≤ n ∧ n < 2 ^ 63) (Classical.propDecidable _) (.ok (rSc (.int n)) ρ) .stuck
    | _ => .stuck) else .stuck
  | _ => .stuck
noncomputable def mLenI (c : Str) (den : Den) (a : M Ref) : M Ref := M.bind (mFrz a) (lenD c den)
section
variable {C : VC} {X : Cx} {W : WX} {k : Nat} {x c : Str} {st : Stmt} {den : Den} {e : Expr} {te : TE} {me : M Ref} {p pos : Pos} {qual y : Str} {f Ca : Addr}
theorem snd_lenI (hc : C.mg c = some (.ref Ca)) (h : SndE C W te me) : SndE C W (tCB (rLenI Ca (spD C 1 den)) (tCons te tNil)) (mLenI c den me) := by
  intro B ρ σ G H Q E P
  refine h.f (Q := fun v H1 => rLenI Ca (spD C 1 den) [v] H1 Q) E ?_
  unfold mLenI at P
  rw [mbind] at P
  cases q : mFrz me ρ with
  | stuck => rw [q] at P; exact P
  | err c ρ' => rw [q] at P; exact P
  | ok z ρ1 =>
    rw [q, bind_ok] at P
    intro v G1 H1 E1 S1 r1
    unfold lenD at P
    cases z with
    | ins c' fs =>
      dsimp only at P
      by_cases hcc : c' = c
      · rw [if_pos hcc] at P
        subst hcc
        cases r1 with
        | ins m1 m2 m3 m4 =>
          rename_i a Ca' dx vs
          rw [hc] at m1
          cases m1
          refine ⟨a, dx, vs, rfl, E1.fr.gh _ _ m2, ?_⟩
          have ro : OpdsR C σ G1 [.d (.ins c' fs)] [.ref a] := .cons (Rp.ins hc m2 m3 m4) .nil
          obtain ⟨B', b1, b2, b3, b4, b5⟩ := call_env E1 ro (args := [.d (.ins c' fs)]) rfl List.nodup_nil
          refine ⟨rfl, B', _, b1, fun j hj => b3 j hj, by rw [b2]; exact b4, ?_⟩
          cases q2 : den [.d (.ins c' fs)] with
          | stuck => rw [q2] at P; exact P
          | err c ρ' => rw [q2] at P; exact P.elim
          | ok s outs =>
            rw [q2] at P
            cases s with
            | d w =>
              cases w with
              | int n =>
                dsimp only at P
                by_cases hn : 0 ≤ n ∧ n < 2 ^ 63
                · rw [if_pos hn] at P
                  intro v G' H' E'
                  have ev : v = .int n := by
                    cases E'.resOf
                    rfl
                  obtain ⟨z1, z2⟩ := b5 outs _ G' H' E'
                  exact ⟨n, ev, hn, P _ G' H' (by rw [← ev]; exact z1) (S1.trans z2)⟩
                · rw [if_neg hn] at P
                  exact P.elim
              | _ => exact P.elim
            | _ => exact P.elim
      · rw [if_neg hcc] at P
        exact P.elim
    | _ => exact P.elim
theorem se_lenI (hc : C.mg c = some (.ref Ca)) (M : Meth C.K Ca "__len__" f) (F : FM C X.prog X.w X.base k f qual x st [y] den) (hr : Room (k + 1) X.A) (hg : Gl X "len") (hmn : X.mg "len" = none) (h : SE C X W e te me)
    (hb : ∀ (kV doc pm : Value) (an : Option Addr) (cdv ct : Value) (us : List Value), us.length = ([y] : List Str).length → bindArgs (PySem.W.fnOf x qual (defArgs st) (defBody st) (defScope st) .none kV doc pm an cdv ct) ⟨us, []⟩ = pure (([y] : List Str).zip us))
    (hK : X.K = C.K := by rfl) (hm : X.mg = C.mg := by rfl)
    (h1 : starEach [e] X.env = (false, eval e X.env) :: starEach [] X.env := by rfl) :
    SE C X W (.Call (.Name "len" p) [e] [] pos) (tCB (rLenI Ca (spD C 1 den)) (tCons te tNil)) (mLenI c den me) := by
  refine ⟨?_, snd_lenI hc h.snd⟩
  obtain ⟨fd, G, kV, doc, pm, an, cdv, ct, e1⟩ := F.fn
  rw [← hK, ← hm] at G
  subst e1
  exact pe_callB (cr_lenI (by rw [hK]; exact M) G (.all (hb kV doc pm an cdv ct)) hr) hg hmn (by decide +kernel) (pa_cons h.pe pa_nil h1) (by decide) (by decide) h1 (by rfl)
end
end VS

/-! VT: try .. except X as n, where the exception is known as a value behind the clause. -/
namespace VT
open PySem PySem.Spec PyProof.Rows L2 VS
section
variable {X : Cx} {pins : List (Addr × Obj)} {σ : L2.St} {H : Hp} {s : Shared}
/-- the pinned exception is tracked from now on -/
theorem known {a : Addr} {oe : Obj} {vs : Array Value} {cls : Value} (I : Inv X ((a, oe) :: pins) σ H s) (hz : Zc cls none oe) (hd : oe.data = .fields vs) (h0 : X.s_0.heap.get? a = none) (hp : ∀ p ∈ X.pn ++ pins, p.1 ≠ a) : Inv X pins σ (upd H a (ExV cls a)) s := by
  obtain ⟨ha, na, nL, nF, nc⟩ := I.pin (a, oe) (List.mem_append_right _ List.mem_cons_self)
  have ha : s.heap.get? a = some oe := ha
  have ne0 : ∀ b o, X.s_0.heap.get? b = some o → b ≠ a := fun b o e z => by
    rw [z, h0] at e
    cases e
  have neH : ∀ b o, H b = some o → b ≠ a := fun b o e z => by
    rw [z, show H a = none from na] at e
    cases e
  refine ⟨I.ok, I.os, I.bare, ⟨I.base.keep, I.base.slot, fun b o e n hx => ?_, I.base.there, fun b xs e => ?_, fun b o xs e => ?_, fun b ps e => ?_⟩, I.loc, I.cell, ?_, fun y c e => ?_, fun p m => ?_, fun b u e => ?_, I.len⟩
  · rw [upd_ne (ne0 b o e)]
    exact I.base.free b o e n hx
  · have z := I.base.tups b xs e
    rw [upd_ne (neH _ _ z)]
    exact z
  · have z := I.base.frzs b o xs e
    rw [upd_ne (neH _ _ z)]
    exact z
  · obtain ⟨more, z⟩ := I.base.tbls b ps e
    exact ⟨more, by rw [upd_ne (neH _ _ z)]; exact z⟩
  · rw [upd_ne (Ne.symm nL)]
    exact I.free
  · have nca : c ≠ a := fun z => by
      obtain ⟨v, o, ho, hdc⟩ := I.cell y c e
      rw [z, ha] at ho
      cases ho
      rw [hd] at hdc
      cases hdc
    rw [upd_ne nca]
    exact I.freeC y c e
  · obtain ⟨p1, p2, p3, p4, p5⟩ := I.pin p (by
      rcases List.mem_append.mp m with m | m
      · exact List.mem_append_left _ m
      · exact List.mem_append_right _ (List.mem_cons_of_mem _ m))
    exact ⟨p1, by rw [upd_ne (hp p m)]; exact p2, p3, p4, p5⟩
  · by_cases hb : b = a
    · subst hb
      rw [upd_same] at e
      cases e
      exact ⟨⟨oe, vs, ha, hz, hd⟩, ⟨oe, ha⟩, fun _ _ ⟨o, v, q, r⟩ k => ⟨o, v, k o q, r⟩⟩
    · rw [upd_ne hb] at e
      exact (I.hok b u e).stay (fun c v _ q => q) (fun c q => by rw [upd_ne (neH _ _ q)]; exact q) fun c xs q => by rw [upd_ne (neH _ _ q)]; exact q
end
/-- what the clause wishes of an exception of the body -/
def wKeep (K : PySem.W.Frag) (c : Value) (i : Nat) (ts : Addr → Value → TS) (Wout : WX) (D : Ends) : WX := fun cls d σ H =>
  ∃ b, PySem.W.exmOne K cls c = some b ∧ (b = true → d = none ∧ ∀ a, H a = none → ts a cls { nx := fun σ' H' => D.nx (σ'.set i none) (upd H' a (ExV cls a)), rt := fun _ _ => False, bk := fun _ _ => False, ct := fun _ _ => False } (σ.set i (some (.ref a))) H) ∧ (b = false → Wout cls d σ H)
section
variable {X : Cx} {x n : Str} {c : Value} {i : Nat} {body suite : List Stmt} {st₀ : Stmt} {np pos pos' : Pos} {tb : WX → TS} {ts : Addr → Value → TS} {Wout : WX}
theorem try_keep (hex : X.ex = []) (stk : X.stack = X.env :: X.outer) (frm : X.env.frame = some X.env.locals) (hN : X.N.Nodup) (hi : X.N[i]? = some n) (hln : X.env.kindOf n = some .local) (hc : Names X x c) (tk : Takes X Wout)
    (hbody : ∀ (W : WX) (pn : List (Addr × Obj)) (xe : Value → Shared → Prop), Takes (X.tr pn xe) W → PassesOwn (model X.prog X.w) X.A X.env xe → PSs (X.tr pn xe) body (tb W))
    (hsuite : ∀ (a : Addr) (oe : Obj) (cls : Value) (pn : List (Addr × Obj)), PSs (X.suite a ((a, oe) :: pn)) (st₀ :: suite) (ts a cls)) :
    PS X (.Try body [.ExceptHandler (some (.Name x np)) (some n) (st₀ :: suite) pos'] [] [] pos) (fun D σ H => tb (wKeep X.K c i ts Wout D) D σ H) := by
  refine ⟨fun pins s σ H D I start => ?_⟩
  have ok := I.ok
  have frs_ : X.A.frames = some (X.env :: X.outer) := by rw [ok.frames, stk]
  have here : Loc X.env.scope n := .inl hln
  refine wpAny_Try_except ?_
  refine wpAny_mono ((hbody (wKeep X.K c i ts Wout D) (X.pn ++ pins) (fun e s₁ => wpAny (model X.prog X.w) X.A (noteFrame e X.env) (fun _ s₂ => wpAny (model X.prog X.w) X.A (setFlight e none) (fun _ s₃ =>
    wpAny (model X.prog X.w) X.A (handleBy e X.env [.ExceptHandler (some (.Name x np)) (some n) (st₀ :: suite) pos']) (SP X pins D) X.xe s₃) X.xe s₂) X.xe s₁) (fun u s' air => ?_) PassesOwn.looking).run [] s σ H D (I.toTry _) start) (fun f s1 done => ?_) (fun e s1 he => he)
  · obtain ⟨a, B, sI, pins', σ', H', cls, d, rfl, J', nb, up, sky, na, os, ag, b, isa, yes, no⟩ := air
    have J : Inv X pins σ' H' sI := J'.ofTry ok
    have sky' : Sky B (X.env :: X.outer) a (Zc cls d) X.env.locals s'.heap := by rw [← stk]; exact sky
    show wpAny (model X.prog X.w) X.A (noteFrame (.ref a) X.env) _ _ _
    refine Sky.land Zc.steady frs_ frm sky' fun h3 fl3 up3 => ?_
    have J3 : Inv X pins σ' H' { s' with heap := h3 } := J.landed nb fl3.1 (up.trans up3) os ag
    obtain ⟨oe3, vs3, at3, hz3, hd3⟩ := fl3.there
    have off : a ∉ frs (X.env :: X.outer) := fun hm => by
      obtain ⟨_, o', e', hnf⟩ := fl3.2.2.1.mem hm
      rw [at3] at e'
      cases e'
      exact hnf _ hd3
    have nL : a ≠ X.env.locals := fun z => off (List.mem_filterMap.mpr ⟨X.env, List.mem_cons_self, by rw [frm, z]⟩)
    have nF : a ∉ X.fs := fun hm => by
      obtain ⟨e, he, q⟩ := List.mem_filterMap.mp hm
      exact off (List.mem_filterMap.mpr ⟨e, List.mem_cons_of_mem _ he, q⟩)
    -- it is new
    have newI : sI.heap.get? a = none := by
      cases q : sI.heap.get? a with
      | none => rfl
      | some o =>
        have z := nb a o q (by rw [stk]; exact off)
        rw [fl3.2.1] at z
        cases z
    have new0 : ∀ (hx : a ∉ X.ex), X.s_0.heap.get? a = none := fun hx => by
      cases q : X.s_0.heap.get? a with
      | none => rfl
      | some o =>
        obtain ⟨o', z⟩ := J.base.there a o q hx
        rw [newI] at z
        cases z
    have offP : ∀ p ∈ X.pn ++ pins, p.1 ≠ a := fun p hp z => by
      have q := (J.pin p hp).1
      rw [z, newI] at q
      cases q
    have S3 := J3.suite at3 hd3 na nL nF
    refine wpAny_handleBy_cons (codeAny_handlers_test ?_) (by intro q; cases q)
    have LT : PySem.W.Looks (model X.prog X.w) h3 (typeOf (.ref a)) cls := fun A Q E s k q => wpAny_typeOf_ref (k _ _ at3) (by rw [hz3.1]; exact q)
    have LM := PySem.W.exm_one (M := model X.prog X.w) (J3.kIn) LT isa
    have look : ∀ {Q : Value → Shared → Prop} {E : Value → Shared → Prop}, Q c { s' with heap := h3 } → wpAny (model X.prog X.w) (X.A.mark (some (.ref a))) (eval (.Name x np) X.env) Q E { s' with heap := h3 } := fun {Q E} q => by
      obtain ⟨g1, g2, g3 | ⟨g3, g4, g5⟩⟩ := hc
      · exact ld_glob (X := X.suite a ((a, oe3) :: (X.pn ++ pins))) S3 g1 g3 q g2
      · exact ld_blt (X := X.suite a ((a, oe3) :: (X.pn ++ pins))) S3 g1 g3 g4 q g5 g2
    refine look (LM.here ?_)
    cases b with
    | true =>
      obtain ⟨dn, run⟩ := yes rfl
      subst dn
      refine codeAny_handlers_suite_as ?_
      refine HandSPX.lands_againZ fl3 fun h4 fl4 up4 => ?_
      have J4 : Inv X pins σ' H' { s' with heap := h4 } := J.landed nb fl4.1 ((up.trans up3).trans up4) os ag
      obtain ⟨oe4, vs4, at4, hz4, hd4⟩ := fl4.there
      have S4 := J4.suite at4 hd4 na nL nF
      refine store_ok (X := X.suite a ((a, oe4) :: (X.pn ++ pins))) (v := .ref a) S4 hN hi here rfl (fun s5 S5 => ?_) (.inr hln)
      refine wpAny_mono ((hsuite a oe4 cls (X.pn ++ pins)).run [] s5 _ H' _ S5 (run a na)) (fun f s6 done => ?_) (fun _ _ z => False.elim z)
      cases f with
      | next =>
        obtain ⟨σ6, H6, S6, q6⟩ := done
        have K6 : Inv X ((a, oe4) :: pins) σ6 H6 s6 := ⟨ok, S6.os, S6.bare, S6.base, S6.loc, S6.cell, S6.free, S6.freeC, fun p hp => S6.pin p (by
          show p ∈ ((a, oe4) :: (X.pn ++ pins)) ++ []
          rw [List.append_nil]
          rcases List.mem_append.mp hp with hp | hp
          · exact List.mem_cons_of_mem _ (List.mem_append_left _ hp)
          · rcases List.mem_cons.mp hp with hp | hp
            · rw [hp]
              exact List.mem_cons_self
            · exact List.mem_cons_of_mem _ (List.mem_append_right _ hp)), S6.hok, S6.len⟩
        refine gone_ok K6 hN hi hln fun s7 J7 => ⟨_, _, known J7 hz4 hd4 (new0 (by rw [hex]; simp)) offP, q6⟩
      | ret u =>
        obtain ⟨_, _, _, _, _, z⟩ := done
        exact z.elim
      | brk =>
        obtain ⟨_, _, _, z⟩ := done
        exact z.elim
      | cont =>
        obtain ⟨_, _, _, z⟩ := done
        exact z.elim
    | false =>
      show wpAny _ X.A (handleBy (.ref a) X.env []) _ _ _
      refine wpAny_handleBy_nil ?_
      obtain ⟨k1, k2, k3, oe, vs, T, oT, ts', he, hz, hd, h1, hr⟩ := id fl3
      unfold PySem.passOn
      refine wpAny_bind (wpAny_field he hd h1 ?_)
      rw [if_neg (show ¬ ((Value.ref T == Value.none) = true) from by simp)]
      have fin : wpAny (model X.prog X.w) X.A (setFlight (.ref a) X.env.frame) (fun _ s4 => wpAny (model X.prog X.w) X.A (throw (.ref a) : Sem Flow) (SP X pins D) X.xe s4) X.xe { s' with heap := h3 } := by
        rw [frm]
        refine HandSPX.setFlight_upZ fl3 fun h4 hh4 up4 => wpAny_throw (tk _ _ ?_)
        exact ⟨a, B, sI, pins, σ', H', cls, d, rfl, J, nb, (up.trans up3).trans up4, .inr (.inr (by rw [stk]; exact hh4)), na, os, ag, no rfl⟩
      first
        | exact wpAny_bind (wpAny_pure (wpAny_bind fin))
        | exact wpAny_bind fin
  · cases f with
    | next =>
      obtain ⟨σ', H', J', q⟩ := done
      exact wpAny_execs_nil ⟨σ', H', J'.ofTry ok, q⟩
    | brk =>
      obtain ⟨σ', H', J', q⟩ := done
      exact ⟨σ', H', J'.ofTry ok, q⟩
    | cont =>
      obtain ⟨σ', H', J', q⟩ := done
      exact ⟨σ', H', J'.ofTry ok, q⟩
    | ret u =>
      obtain ⟨v, σ', H', J', r, q⟩ := done
      exact ⟨v, σ', H', J'.ofTry ok, r, q⟩
end
end VT

/-! VS16: a lambda handed to the def that gives back what was raised. -/
namespace VS
open PySem PySem.Spec PyProof.Rows L2 LamX

theorem EnvR.extN {C : VC} {B : Bd} {ρ : En} {σ : L2.St} {G H H1 : Hp} {x : Option (SV × V)} (E : EnvR C B ρ σ x G H) (e : ExtN H H1) (t : Tabs C.T H1) : EnvR C B ρ σ x G H1 := by
  have F := E.fr
  obtain ⟨fp, h1, h2, h3⟩ := F.ex
  refine ⟨⟨⟨fp, fun i => (h1 i).mono (Same.refl _) fun p hp => ?_, h2, h3⟩, fun b u q => e b u (F.gh _ _ q) fun ps z => F.nt b ps (by rw [← z]; exact q), F.g0, F.gf, fun b o q n ns => e b o (F.kp b o q n ns) n, F.nt, t⟩, E.len⟩
  obtain ⟨u, hu, pl⟩ := (h1 i).there hp
  rw [hu, e p u hu pl.1]
/-- what the def makes of the lambda's reading -/
def TTc (K : PySem.W.Frag) (c : Value) : (XK → Hp → VK → Prop) → Hp → VK → Prop := fun tl H Q =>
  tl (fun cls d H' => ∃ b, PySem.W.exmOne K cls c = some b ∧ (b = true → d = none ∧ ∀ a, H' a = none → Q (.ref a) (upd H' a (ExV cls a))) ∧ (b = false → False)) H (fun _ H' => Q .non H')
section
variable {X : Cx} {x a r n e q : Str} {sg : Scope} {g CS : Addr} {cdg : Value} {p1 p2 p3 p4 p5 p6 p7 p8 p9 q1 q2 q3 q4 q5 q6 q7 : Pos} {j : Nat}
theorem caught_gives (hr : sg.names.lookup r = some .local) (hnn : sg.names.lookup n = some .local) (hge : sg.names.lookup e = some .globalImplicit) (nd : [a, r, n].Nodup) (hme : X.mg e = some (.ref CS)) (hde : (e == ("__debug__" : Str)) = false)
    (dr : (r == ("__debug__" : Str)) = false) (dn : (n == ("__debug__" : Str)) = false) (cr : (r == ("__classdict__" : Str)) = false) (cn : (n == ("__classdict__" : Str)) = false) :
    GivesTo X [a, r, n] x sg g cdg [.Assign [.Name r p1] (.Constant .none j p2) p3, .Try [.Expr (.Call (.Name a p4) [] [] p5) p6] [.ExceptHandler (some (.Name e p7)) (some n) [.Assign [.Name r p8] (.Name n p9) q1] q2] [] [] q3, .Return (some (.Name r q4)) q5] a q (TTc X.K (.ref CS)) := by
  intro f c' s H Q tl act hc h
  have hgl : Gl (cxOf C8.CX0 X.prog X.w X.K X.mg X.base [a, r, n] x sg g cdg X.A X.stack s H C8.E0).nox e := hge
  have t1 : PS (cxOf C8.CX0 X.prog X.w X.K X.mg X.base [a, r, n] x sg g cdg X.A X.stack s H C8.E0).nox (.Assign [.Name r p1] (.Constant .none j p2) p3) (tAsg (tC .non) (gName 1)) := ps_set (i := 1) nd rfl (.inl hr) pe_non rfl (.inr hr)
  have t3 : PS (cxOf C8.CX0 X.prog X.w X.K X.mg X.base [a, r, n] x sg g cdg X.A X.stack s H C8.E0).nox (.Return (some (.Name r q4)) q5) (tRet (tVar 1)) := ps_ret (pe_var (i := 1) rfl (.inl hr) dr cr)
  have t2 := VT.try_keep (X := (cxOf C8.CX0 X.prog X.w X.K X.mg X.base [a, r, n] x sg g cdg X.A X.stack s H C8.E0).nox) (x := e) (n := n) (c := .ref CS) (i := 2) (np := p7) (pos := q3) (pos' := q2) (Wout := fun _ _ _ _ => False) (body := [.Expr (.Call (.Name a p4) [] [] p5) p6]) (st₀ := .Assign [.Name r p8] (.Name n p9) q1) (suite := [])
      (tb := fun W D σ H => ∃ Ech : XK, (∀ cls d σ' H', Ech cls d H' → W cls d σ' H') ∧ σ[0]? = some (some (.ref f)) ∧ H c' = some (CodeO c' q) ∧ ∃ Kn : Hp → Prop, (∀ H', Kn H' → D.nx σ H') ∧ tl Ech H (fun _ H' => Kn H'))
      (ts := fun _ _ D σ H => σ.length = ([a, r, n] : List Str).length → tAsg (tVar 2) (gName 1) D σ H)
      rfl rfl rfl nd rfl hnn ⟨hgl, hde, .inl hme⟩ LamX.takes0 (fun W pn xe tk _ => ?_) (fun a oe cls pn => ⟨fun pins s' σ H' D I h' => (pss_one (ps_set (i := 1) nd rfl (.inl hr) (pe_var (i := 2) rfl (.inl hnn) dn cn) rfl (.inr hr))).run pins s' σ H' D I (h' I.len)⟩)
  · refine ⟨_, pss_cons t1 (pss_cons t2 (pss_one t3)), ?_⟩
    refine ⟨fun cls d H' => ∃ b, PySem.W.exmOne X.K cls (.ref CS) = some b ∧ (b = true → d = none ∧ ∀ a, H' a = none → Q (.ref a) (upd H' a (ExV cls a))) ∧ (b = false → False), fun cls d σ' H' ⟨b, e1, e2, e3⟩ => ⟨b, e1, fun hb => ⟨(e2 hb).1, fun a ha => ?_⟩, fun hb => e3 hb⟩, rfl, hc, fun H' => Q .non H', fun H' hq => ⟨.non, rfl, hq⟩, h⟩
    intro hl
    have hl3 : σ'.length = 3 := by
      rw [List.length_set] at hl
      exact hl
    refine ⟨.ref a, by rw [List.getElem?_set_self (by omega)], .ref a, ?_, (e2 hb).2 a ha⟩
    rw [List.getElem?_set_ne (by decide), List.getElem?_set_self (by simp; omega)]
  · refine ⟨fun pins s' σ H' D I h' => ?_⟩
    obtain ⟨Ech, hW, h1, h2, Kn, hK, h3⟩ := h'
    have hp := act W pn xe Ech p4 p5 tk hW
    refine (pss_one (t := fun D σ H => σ[0]? = some (some (.ref f)) ∧ H c' = some (CodeO c' q) ∧ ∃ Kn : Hp → Prop, (∀ H', Kn H' → D.nx σ H') ∧ tl Ech H (fun _ H' => Kn H')) ⟨fun pins s' σ H' D I h' => ?_⟩).run pins s' σ H' D I ⟨h1, h2, Kn, hK, h3⟩
    obtain ⟨h1, h2, Kn, hK, h3⟩ := h'
    exact wpAny_Expr_any (thn (hp.run pins s' σ H' (fun _ H1 => Kn H1) I ⟨h1, h2, h3⟩) fun v s1 ⟨x, H1, I1, r1, q1⟩ => ⟨σ, H1, I1, hK H1 q1⟩) I.quiet (by rfl)
end
end VS

/-! VS17: caught(lambda: ..). -/
namespace VS
open PySem PySem.Spec PyProof.Rows L2 LamX

def mCaught (es : List Str) (m : M Ref) : M Ref := fun ρ => match m ρ with
  | .ok _ ρ' => .ok (.sv (.d .non)) ρ'
  | .err c ρ' => if c ∈ es then .ok (.sv (.d (.exc c))) ρ' else .stuck
  | .stuck => .stuck
section
variable {C : VC} {X : Cx} {W : WX} {t : XK → TE} {mb : M Ref} {es : List Str} {CS : Addr}
theorem snd_caught (hx : ∀ c ∈ es, ∀ Ca, C.mg c = some (.ref Ca) → PySem.W.exmOne C.K (.ref Ca) (.ref CS) = some true) (h : ∀ E : XK, SndE C (fun cls d _ H => E cls d H) (t E) mb) : SndE C W (tLam C.T (TTc C.K (.ref CS)) t) (mCaught es mb) := by
  intro B ρ σ G H Q E P
  refine ⟨E.fr.tb, fun H1 eN T1 => ?_⟩
  have E1 := E.extN eN T1
  obtain ⟨B', _, b2, b3, _⟩ := (E1.res Rp.non).frame
  refine h _ B' ρ σ G H1 _ b2 ?_
  unfold mCaught at P
  cases q : mb ρ with
  | stuck => rw [q] at P; exact P
  | ok r ρ' =>
    rw [q] at P
    cases r with
    | sv s => exact fun v G' H' E' S' => P .non G' H' ((b3 _ _ _ _ E'.nox).1.nox.res .non) S'
    | loc i => exact fun v G' H' E' S' _ => P .non G' H' ((b3 _ _ _ _ E').1.nox.res .non) S'
  | err c ρ' =>
    rw [q] at P
    dsimp only at P
    by_cases hc : c ∈ es
    · rw [if_pos hc] at P
      intro G' H' Ca E0 hg
      obtain ⟨E1', S1⟩ := b3 _ _ _ _ E0
      have E' := E1'.nox
      refine ⟨true, hx c hc Ca hg, fun _ => ⟨rfl, fun a ha => ?_⟩, fun z => nomatch z⟩
      have E2 : EnvR C B ρ' σ none (upd G' a (ExV (.ref Ca) a)) (upd H' a (ExV (.ref Ca) a)) := ⟨E'.fr.lay ha (fun _ z => nomatch z), E'.len⟩
      have sg : Same G' (upd G' a (ExV (.ref Ca) a)) := same_up (E'.fr.gh.free ha)
      exact P (.ref a) _ _ (E2.res (.exc hg upd_same)) (S1.trans sg)
    · rw [if_neg hc] at P
      exact P.elim
variable {x a : Str} {st : Stmt} {Ng : List Str} {cc Pt : Addr} {k : Nat} {params : Arguments} {body : Expr} {scope : Scope} {p lpos pos : Pos}
/-- x(lambda: body), x gives back the exception that the lambda raised, or None -/
theorem se_caught (F : ∃ fd, FunD C.K x x (defArgs st) (defBody st) (defScope st) [] [] (He.ga C.K x) fd) (gl : C.mg x = some (.ref (He.ga C.K x))) (Sg : FnScope Ng [a] (defScope st)) (hNg : Ng[0]? = some a) (hva : Vis (defScope st) a)
    (hb : ∀ (kV doc pm : Value) (an : Option Addr) (cdv ct : Value) (us : List Value), us.length = ([a] : List Str).length → bindArgs (PySem.W.fnOf x x (defArgs st) (defBody st) (defScope st) .none kV doc pm an cdv ct) ⟨us, []⟩ = pure (([a] : List Str).zip us))
    (hG : ∀ cdg, GivesTo X Ng x (defScope st) (He.ga X.K x) cdg (defBody st) a (X.env.qual ++ "<lambda>") (TTc X.K (.ref CS)))
    (hx : ∀ c ∈ es, ∀ Ca, C.mg c = some (.ref Ca) → PySem.W.exmOne C.K (.ref Ca) (.ref CS) = some true)
    (hg : Gl X x) (TB : TabB X.base X.mg cc Pt) (hcode : X.env.code = .ref cc) (hT : (Pt, X.env.qual ++ "<lambda>") ∈ C.T) (hu : ∀ p ∈ C.T, p.1 = Pt → p.2 = X.env.qual ++ "<lambda>") (hr : Room (k + 2) X.A) (L : LamS X.env.scope scope)
    (hbody : ∀ (A : Around) (outer : List Env) (s : Shared) (H : Hp) (E : XK) (f c' : Addr), Room k (A.deeper (lamEnv X scope s.heap.objs.size f c')) → SE C (lamCx X A outer s H E scope f c') (fun cls d _ H => E cls d H) body (t E) mb)
    (hbind : ∀ (q : Str) (cl : List (Str × Addr)) (pm cv ctv : Value), bindArgs (PySem.W.kla_fn "<lambda>" q params body scope cl pm cv ctv) ⟨[], []⟩ = pure [])
    (hdef : defaultsOf params X.env = ([], []) := by rfl) (hK : X.K = C.K := by rfl) (hm : X.mg = C.mg := by rfl)
    (hdb : (x == ("__debug__" : Str)) = false := by decide) (hd : (a == ("__debug__" : Str)) = false := by decide) (hcd : (a == ("__classdict__" : Str)) = false := by decide) :
    SE C X W (.Call (.Name x p) [.Lambda params body scope lpos] [] pos) (tLam C.T (TTc C.K (.ref CS)) t) (mCaught es mb) := by
  refine ⟨?_, snd_caught hx fun E => (hbody X.A [] X.s_0 X.H_0 E 0 0 ((Room.deeper (k := k + 1) hr _).mono (Nat.le_succ _))).snd⟩
  obtain ⟨fd, F⟩ := F
  obtain ⟨oc, od, dV, kV, doc, pm, an, cdv, ct, osl, e1, lk, hcd', hD, _⟩ := F.ex
  have hdV : dV = .none := by
    rcases hD with ⟨_, h⟩ | ⟨h, _⟩
    · exact h
    · exact absurd rfl h
  subst hdV e1
  rw [← hK] at lk hcd'
  rw [← hK]
  exact pe_lamcall hg (by rw [hm, hK]; exact gl) (by rw [hK]; exact F.kp) lk hcd' (.all (hb kV doc pm an cdv ct)) Sg hNg hva (hG cdv) TB hcode hT hu hr L hdef hbind (fun A outer s H E f c' h => (hbody A outer s H E f c' h).pe) hdb hd hcd
end
end VS

/-! VD: the law's draws. -/
namespace VS
open PySem PySem.Spec PyProof.Rows L2

abbrev drK (a : Addr) (g c : Addr) (l t : Int) : List (Key × V) := [(.inr "great", .ref g), (.inr "cells", .ref c), (.inr "left", .int l), (.inr "turn", .int t)]
section
variable {C : VC} {B : Bd} {vw : Option Nat → Slot} {ρ : En} {σ : L2.St} {G H : Hp} {i : Nat} {v : V} {s : Draw}
/-- a draw's things, and what may be done with them -/
theorem FR.drw (F : FR C B vw G H) {j : Option Nat} (hi : vw j = (some (.dr s), some v)) :
    ∃ a g c, v = .ref a ∧ a ≠ g ∧ H a = some (.dK (drK a g c s.left s.turn)) ∧ H g = some (.lst (s.great.map V.int)) ∧ G c = some (.lst (s.cells.map V.int)) ∧
      (∀ l t, FR C B (upS vw j (some (.dr { s with left := l, turn := t }), some v)) G (upd H a (.dK (drK a g c l t)))) ∧
      ∀ gs, FR C B (upS vw j (some (.dr { s with great := gs }), some v)) G (upd H g (.lst (gs.map V.int))) := by
  obtain ⟨fp, h1, h2, h3⟩ := F.ex
  have o1 := h1 j
  rw [hi] at o1
  obtain ⟨v2, e1, a, g, c, h4, h5, h6, h7, h8, h9⟩ := o1
  cases e1
  subst h4
  have ina : a ∈ fp j := by rw [h5]; exact List.mem_cons_self
  have ing : g ∈ fp j := by rw [h5]; exact List.mem_cons_of_mem _ List.mem_cons_self
  have key : ∀ (p : Addr) (o' : HO) (s' : SV), p ∈ fp j → (∃ u, H p = some u ∧ Plain u) → Own C G (upd H p o') s' (.ref a) (fp j) → FR C B (upS vw j (some s', some (.ref a))) G (upd H p o') := by
    intro p o' s' pj hu hs
    have hg : G p = none := (h3 j p pj).1
    obtain ⟨u, hp, pl⟩ := hu
    refine ⟨⟨fp, fun k => ?_, h2, h3⟩, fun b w e => ?_, F.g0, F.gf, fun b w e n ns => ?_, F.nt, tabs_upd F.tb fun w e => by rw [hp] at e; cases e; exact pl⟩
    · by_cases hk : k = j
      · rw [hk, upS_same]
        exact ⟨_, rfl, hs⟩
      · rw [upS_ne hk]
        exact (h1 k).mono (Same.refl _) fun q hq => upd_ne fun z => by
          rw [z] at hq
          exact h2 k j p hk hq pj
    · rw [upd_ne (fun z => by rw [z, hg] at e; cases e)]
      exact F.gh _ _ e
    · by_cases hb : b = p
      · subst hb
        exact absurd ((h3 j b pj).2 w e n) ns
      · rw [upd_ne hb]
        exact F.kp b w e n ns
  refine ⟨a, g, c, rfl, h6, h7, h8, h9, fun l t => key a _ _ ina ⟨_, h7, (fun _ z => nomatch z), fun _ z => nomatch z⟩ ?_, fun gs => key g _ _ ing ⟨_, h8, (fun _ z => nomatch z), fun _ z => nomatch z⟩ ?_⟩
  · exact ⟨a, g, c, rfl, h5, h6, upd_same, by rw [upd_ne (Ne.symm h6)]; exact h8, h9⟩
  · exact ⟨a, g, c, rfl, h5, h6, by rw [upd_ne h6]; exact h7, upd_same, h9⟩
theorem EnvR.drw (E : EnvR C B ρ σ none G H) (hi : ρ.getD i none = some (.dr s)) (hv : σ[i]? = some (some v)) :
    ∃ a g c, v = .ref a ∧ a ≠ g ∧ H a = some (.dK (drK a g c s.left s.turn)) ∧ H g = some (.lst (s.great.map V.int)) ∧ G c = some (.lst (s.cells.map V.int)) ∧
      (∀ l t, EnvR C B (ρ.set i (some (.dr { s with left := l, turn := t }))) σ none G (upd H a (.dK (drK a g c l t)))) ∧
      ∀ gs, EnvR C B (ρ.set i (some (.dr { s with great := gs }))) σ none G (upd H g (.lst (gs.map V.int))) := by
  have hs : view ρ σ none (some i) = (some (.dr s), some v) := by
    show (ρ.getD i none, σ.getD i none) = _
    rw [hi, getD_st hv]
  obtain ⟨a, g, c, h1, h2, h3, h4, h5, h6, h7⟩ := E.fr.drw hs
  refine ⟨a, g, c, h1, h2, h3, h4, h5, fun l t => ⟨?_, by simp [E.len]⟩, fun gs => ⟨?_, by simp [E.len]⟩⟩
  · rw [view_set1 (slot_lt hi) (getD_st hv)]
    exact h6 l t
  · rw [view_set1 (slot_lt hi) (getD_st hv)]
    exact h7 gs
end
/-! ### reading it -/
inductive DrK where
  | left | turn | cells
def DrK.key : DrK → Str
  | .left => "left" | .turn => "turn" | .cells => "cells"
def drGet (k : DrK) (s : Draw) : D := match k with
  | .left => .int s.left
  | .turn => .int s.turn
  | .cells => .lst (s.cells.map .int)
def drV (k : DrK) (s : Draw) (c : Addr) : V := match k with
  | .left => .int s.left
  | .turn => .int s.turn
  | .cells => .ref c
theorem drV_eq {s : Draw} {a g c : Addr} (k : DrK) : valV (drK a g c s.left s.turn) (.inr k.key) = some (drV k s c) := by
  cases k <;> rfl
def mDr (i : Nat) (k : DrK) : M Ref := fun ρ => match ρ.getD i none with
  | some (.dr s) => .ok (.sv (.d (drGet k s))) ρ
  | _ => .stuck
section
variable {C : VC} {X : Cx} {W : WX} {P : List Nat} {i : Nat} {x : Str} {p kp pos pos' : Pos} {kj : Nat} {value : Expr} {tv : TE} {mv : M Ref}
theorem rpl_map_ints {G : Hp} : ∀ ns : List Int, RpL C G (ns.map V.int) (ns.map D.int)
  | [] => .nil
  | i :: ns => .cons (.int i) (rpl_map_ints ns)
theorem snd_dr (k : DrK) : SndE C W (tDGet (tVar i) (tC (.str k.key))) (mDr i k) := by
  intro B ρ σ G H Q E P
  unfold mDr at P
  cases q : ρ.getD i none with
  | none => rw [q] at P; exact P.elim
  | some z =>
    rw [q] at P
    cases z with
    | dr s =>
      obtain ⟨v, hv, _⟩ := E.slot q
      obtain ⟨a, g, c, rfl, h2, h3, h4, h5, _, _⟩ := E.drw q hv
      refine ⟨_, hv, a, drV k s c, rfl, ?_, ?_⟩
      · have z : DGet H a (kV (.inr k.key)) (valV (drK a g c s.left s.turn) (.inr k.key)) := .k h3
        rw [drV_eq k] at z
        exact z
      · cases k with
        | left => exact P _ G H (E.res (.int _)) (Same.refl _)
        | turn => exact P _ G H (E.res (.int _)) (Same.refl _)
        | cells => exact P _ G H (E.res (.lst h5 (rpl_map_ints _))) (Same.refl _)
    | d z => exact P.elim
    | ol z => exact P.elim
    | od z => exact P.elim
    | sc z => exact P.elim
    | oi c z => exact P.elim
theorem se_dr (k : DrK) (hu : X.A.units + 64 < cLine) (hv : PE X (.Name x p) (tVar i)) : SE C X W (.Subscript (.Name x p) (.Constant (.str k.key) kj kp) pos) (tDGet (tVar i) (tC (.str k.key))) (mDr i k) :=
  ⟨pe_dget (by omega) hv pe_str (fun _ _ => rfl), snd_dr k⟩
/-- great is not empty -/
def mDrG (i : Nat) : M Ref := fun ρ => match ρ.getD i none with
  | some (.dr s) => .ok (.sv (.d (.bl (!s.great.isEmpty)))) ρ
  | _ => .stuck
theorem shaped_ints : ∀ ns : List Int, PyData.canLayAll0 (ns.map PyData.int) = true
  | [] => rfl
  | i :: ns => by
    rw [List.map_cons, PyData.canLayAll0, shaped_ints ns, Bool.and_true]
    rfl
theorem depth_ints : ∀ ns : List Int, PyData.depthAll (ns.map PyData.int) = 0
  | [] => rfl
  | i :: ns => by
    rw [List.map_cons, PyData.depthAll, depth_ints ns]
    rfl
theorem shaped_intl (ns : List Int) : SeqAt.shaped (.list (ns.map PyData.int)) = true := by
  unfold SeqAt.shaped
  rw [PyData.canLay0, shaped_ints, PyData.depth, depth_ints]
  rfl
theorem dpa_ints {K : PySem.W.Frag} {H : Hp} : ∀ ns : List Int, DpAll K H (ns.map V.int) (ns.map PyData.int)
  | [] => .nil
  | i :: ns => .cons (.int i) (dpa_ints ns)
theorem snd_drG : SndE C W (tOp (rNeD C.K) (tDGet (tVar i) (tC (.str "great"))) (tLst tNil)) (mDrG i) := by
  intro B ρ σ G H Q E P
  unfold mDrG at P
  cases q : ρ.getD i none with
  | none => rw [q] at P; exact P.elim
  | some z =>
    rw [q] at P
    cases z with
    | dr s =>
      obtain ⟨v, hv, _⟩ := E.slot q
      obtain ⟨a, g, c, rfl, h2, h3, h4, h5, _, _⟩ := E.drw q hv
      refine ⟨_, hv, a, .ref g, rfl, ?_, by decide, fun l hl => ⟨.list (s.great.map PyData.int), .list [], .lst (.of (same_up hl _ _ h4)) (dpa_ints _), .lst (.of upd_same) .nil, shaped_intl _, by rfl, ?_⟩⟩
      · have z : DGet H a (kV (.inr "great")) (valV (drK a g c s.left s.turn) (.inr "great")) := .k h3
        exact z
      · have e : (!PyData.eqv (.list (s.great.map PyData.int)) (.list [])) = !s.great.isEmpty := by
          cases s.great with
          | nil => rfl
          | cons x xs => rfl
        rw [e]
        exact P _ G _ (EnvR.res ⟨E.fr.alloc hl, E.len⟩ (.bl _)) (Same.refl _)
    | d z => exact P.elim
    | ol z => exact P.elim
    | od z => exact P.elim
    | sc z => exact P.elim
    | oi c z => exact P.elim
theorem se_drG {q1 q2 : Pos} (hu : X.A.units + 64 < cLine) (hv : PE X (.Name x p) (tVar i)) (hK : X.K = C.K := by rfl) (hm : behindInMarks .NotEq (.List [] q1) = false := by rfl) : SE C X W (.Compare (.Subscript (.Name x p) (.Constant (.str "great") kj kp) pos) [.NotEq] [.List [] q1] q2) (tOp (rNeD C.K) (tDGet (tVar i) (tC (.str "great"))) (tLst tNil)) (mDrG i) :=
  ⟨pe_cmpR (opK (r := rNeD) (op_neD hu) hK) (pe_dget (by omega) hv pe_str (fun _ _ => rfl)) (pe_lst pa_nil) hm, snd_drG⟩
/-- great.pop(0) -/
def mDrP (i : Nat) : M Ref := fun ρ => match ρ.getD i none with
  | some (.dr s) => (match s.great with
    | z :: zs => .ok (.sv (.d (.int z))) (ρ.set i (some (.dr { s with great := zs })))
    | [] => .stuck)
  | _ => .stuck
theorem snd_drP : SndE C W (tBM C.K "list" rPopAt (tDGet (tVar i) (tC (.str "great"))) (tCons (tC (.int 0)) tNil)) (mDrP i) := by
  intro B ρ σ G H Q E P
  unfold mDrP at P
  cases q : ρ.getD i none with
  | none => rw [q] at P; exact P.elim
  | some z =>
    rw [q] at P
    cases z with
    | dr s =>
      dsimp only at P
      cases hgr : s.great with
      | nil => rw [hgr] at P; exact P.elim
      | cons z zs =>
        rw [hgr] at P
        obtain ⟨v, hv, _⟩ := E.slot q
        obtain ⟨a, g, c, rfl, h2, h3, h4, h5, _, ch⟩ := E.drw q hv
        refine ⟨_, hv, a, .ref g, rfl, ?_, .inl ⟨rfl, _, .of h4⟩, g, s.great.map V.int, 0, 0, .int z, rfl, rfl, h4, by decide, by decide, ?_, ?_, ?_⟩
        · have z : DGet H a (kV (.inr "great")) (valV (drK a g c s.left s.turn) (.inr "great")) := .k h3
          exact z
        · rw [hgr, List.length_map]
          unfold seqIndex?
          simp
        · rw [hgr]
          rfl
        · have e : (s.great.map V.int).eraseIdx 0 = zs.map V.int := by
            rw [hgr]
            rfl
          rw [e]
          exact P _ G _ ((ch zs).res (.int z)) (Same.refl _)
    | d z => exact P.elim
    | ol z => exact P.elim
    | od z => exact P.elim
    | sc z => exact P.elim
    | oi c z => exact P.elim
theorem se_drP {q1 apos cpos : Pos} {nj : Nat} (hu : X.A.units + 64 < cLine) (hv : PE X (.Name x p) (tVar i)) (hK : X.K = C.K := by rfl)
    (hbase : attributeBase (.Subscript (.Name x p) (.Constant (.str "great") kj kp) pos) "pop" X.env (eval (.Subscript (.Name x p) (.Constant (.str "great") kj kp) pos) X.env) = eval (.Subscript (.Name x p) (.Constant (.str "great") kj kp) pos) X.env := by rfl)
    (hline : (apos.endLine == cpos.line) = true := by rfl) : SE C X W (.Call (.Attribute (.Subscript (.Name x p) (.Constant (.str "great") kj kp) pos) "pop" apos) [.Constant (.int 0) nj q1] [] cpos) (tBM C.K "list" rPopAt (tDGet (tVar i) (tC (.str "great"))) (tCons (tC (.int 0)) tNil)) (mDrP i) :=
  ⟨by rw [← hK]; exact pe_bm PySem.F.plainAttrs_list PySem.F.slot_list_pop PySem.F.type_list_pop mt_popAt (pe_dget (by omega) hv pe_str (fun _ _ => rfl)) (pa_cons pe_int pa_nil) hbase (by rfl) hline (by rfl) (by rfl), snd_drP⟩
/-- left, turn are written -/
def drputD (i : Nat) (k : DrK) (v : D) : M Fl := fun ρ => match ρ.getD i none, v, k with
  | some (.dr s), .int n, .left => .ok .nx (ρ.set i (some (.dr { s with left := n })))
  | some (.dr s), .int n, .turn => .ok .nx (ρ.set i (some (.dr { s with turn := n })))
  | _, _, _ => .stuck
def mDrPut (i : Nat) (k : DrK) (v : M Ref) : M Fl := M.bind (mFrz v) (drputD i k)
theorem snd_drput (k : DrK) (hv : SndE C W tv mv) : SndS C P W (sDPut (tVar i) (tC (.str k.key)) tv) (mDrPut i k mv) := by
  intro B ρ σ G H D E pn Q
  refine hv.f E ?_
  unfold mDrPut at Q
  rw [mbind] at Q
  cases q : mFrz mv ρ with
  | stuck => rw [q] at Q; exact Q
  | err c ρ' => rw [q] at Q; exact fun G' H' Ca E' hc => Q σ G' H' Ca E' pn hc
  | ok x ρ1 =>
    rw [q, bind_ok] at Q
    intro v G1 H1 E1 S1 r1
    cases q3 : ρ1.getD i none with
    | none => unfold drputD at Q; rw [q3] at Q; exact Q.elim
    | some z =>
      cases z with
      | dr s =>
        cases x with
        | int n =>
          cases r1
          obtain ⟨w, hw, _⟩ := E1.slot q3
          obtain ⟨a, g, c, rfl, h2, h3, h4, h5, ch, _⟩ := E1.drw q3 hw
          have hl : (drK a g c s.left s.turn).length < sizeLine := by
            show 4 < sizeLine
            rw [sizeLine_eq]
            decide
          cases k with
          | left =>
            refine ⟨_, hw, a, _, rfl, DPut.k (k := .inr "left") h3 hl, ?_⟩
            unfold drputD at Q
            rw [q3] at Q
            exact Q σ G1 _ (ch n s.turn) S1 pn
          | turn =>
            refine ⟨_, hw, a, _, rfl, DPut.k (k := .inr "turn") h3 hl, ?_⟩
            unfold drputD at Q
            rw [q3] at Q
            exact Q σ G1 _ (ch s.left n) S1 pn
          | cells => unfold drputD at Q; rw [q3] at Q; exact Q.elim
        | _ => unfold drputD at Q; rw [q3] at Q; cases k <;> exact Q.elim
      | _ => unfold drputD at Q; rw [q3] at Q; cases x <;> cases k <;> exact Q.elim
theorem s_drput (k : DrK) (hu : X.A.units + 64 < cLine) (hv : PE X (.Name x p) (tVar i)) (hval : SE C X W value tv mv) (hs : swapsWith value (some (.Subscript (.Name x p) (.Constant (.str k.key) kj kp) pos')) pos.line X.env = pure false := by rfl) :
    S1 C P X W (.Assign [.Subscript (.Name x p) (.Constant (.str k.key) kj kp) pos'] value pos) (sDPut (tVar i) (tC (.str k.key)) tv) (mDrPut i k mv) := ⟨ps_dput (by omega) hv pe_str hval.pe hs, snd_drput k hval.snd⟩
end
end VS

/-! VD2: the draws' dict is made. -/
namespace VS
open PySem PySem.Spec PyProof.Rows L2

section
variable {C : VC} {B : Bd} {ρ : En} {σ : L2.St} {G H : Hp} {i : Nat} {p : Addr} {v : V} {gs cs : List Int}
theorem EnvR.joinDr (E : EnvR C B ρ σ (some (.od [], .ref p)) G H) (hi : ρ.getD i none = some (.ol (intD gs))) (hv : σ[i]? = some (some v)) {c : Addr} (hc : G c = some (.lst (cs.map V.int))) (l t : Int) :
    ∃ g, v = .ref g ∧ EnvR C B (ρ.set i none) σ (some (.dr ⟨gs, cs, l, t⟩, .ref p)) G (upd H p (.dK (drK p g c l t))) := by
  have hs : view ρ σ (some (.od [], .ref p)) (some i) = (some (.ol (intD gs)), some v) := by
    show (ρ.getD i none, σ.getD i none) = _
    rw [hi, getD_st hv]
  obtain ⟨fp, h1, h2, h3⟩ := E.fr.ex
  have o1 := h1 (some i)
  rw [hs] at o1
  obtain ⟨v2, e1, g, us, g1, g2, g3, g4⟩ := o1
  cases e1
  subst g1
  obtain ⟨v3, e3, p', ws, p1, p2, p3, p4⟩ := h1 none
  cases e3
  cases p1
  have hpg : p ≠ g := fun z => h2 none (some i) p (by simp) (by rw [p2]; exact List.mem_singleton.mpr rfl) (by rw [g2, z]; exact List.mem_singleton.mpr rfl)
  have hG : G p = none := (h3 none p (by rw [p2]; exact List.mem_singleton.mpr rfl)).1
  have eu : us = gs.map V.int := rpl_ints g4
  subst eu
  refine ⟨g, rfl, ⟨⟨⟨fun k => match k with | none => [p, g] | some j => if j = i then [] else fp (some j), fun k => ?_, fun j k q hjk hq hq2 => ?_, fun k q hq => ?_⟩, fun b w e => ?_, E.fr.g0, E.fr.gf, fun b w e n ns => ?_, E.fr.nt, tabs_upd E.fr.tb fun w e => by rw [p3] at e; cases e; exact ⟨(fun _ z => nomatch z), fun _ z => nomatch z⟩⟩, by simp [E.len]⟩⟩
  · cases k with
    | none => exact ⟨.ref p, rfl, p, g, c, rfl, rfl, hpg, upd_same, by rw [upd_ne (Ne.symm hpg)]; exact g3, hc⟩
    | some j =>
      show SlotOk C G _ ((ρ.set i none).getD j none, σ.getD j none) (if j = i then [] else fp (some j))
      by_cases hj : j = i
      · rw [if_pos hj, hj, getD_set_eq (slot_lt hi)]
        rfl
      · rw [if_neg hj, getD_set_ne hj]
        exact (h1 (some j)).mono (Same.refl _) fun q hq => upd_ne fun z => by
          rw [z] at hq
          exact h2 none (some j) p (by simp) (by rw [p2]; exact List.mem_singleton.mpr rfl) hq
  · have one : ∀ j q, j ≠ i → q ∈ fp (some j) → q ∉ [p, g] := fun j q hj hq z => by
      rcases List.mem_cons.mp z with z | z
      · exact h2 none (some j) q (by simp) (by rw [p2, z]; exact List.mem_singleton.mpr rfl) hq
      · exact h2 (some i) (some j) q (by simpa using Ne.symm hj) (by rw [g2]; exact z) hq
    cases j with
    | none =>
      cases k with
      | none => exact hjk rfl
      | some k =>
        dsimp only at hq hq2
        by_cases hk : k = i
        · rw [if_pos hk] at hq2; cases hq2
        · rw [if_neg hk] at hq2
          exact one k q hk hq2 hq
    | some j =>
      dsimp only at hq
      by_cases hj : j = i
      · rw [if_pos hj] at hq; cases hq
      · rw [if_neg hj] at hq
        cases k with
        | none => exact one j q hj hq hq2
        | some k =>
          dsimp only at hq2
          by_cases hk : k = i
          · rw [if_pos hk] at hq2; cases hq2
          · rw [if_neg hk] at hq2
            exact h2 _ _ q hjk hq hq2
  · cases k with
    | none =>
      rcases List.mem_cons.mp hq with z | z
      · exact h3 none q (by rw [p2, z]; exact List.mem_singleton.mpr rfl)
      · exact h3 (some i) q (by rw [g2]; exact z)
    | some j =>
      dsimp only at hq
      by_cases hj : j = i
      · rw [if_pos hj] at hq; cases hq
      · rw [if_neg hj] at hq
        exact h3 _ q hq
  · rw [upd_ne (fun z => by rw [z, hG] at e; cases e)]
    exact E.fr.gh _ _ e
  · by_cases hb : b = p
    · subst hb
      exact absurd ((h3 none b (by rw [p2]; exact List.mem_singleton.mpr rfl)).2 w e n) ns
    · rw [upd_ne hb]
      exact E.fr.kp b w e n ns
end
/-- {'great': slot i, 'cells': mc, 'left': 0, 'turn': 0} -/
def drNew (i : Nat) (x : D) : M Ref := fun ρ => match ρ.getD i none, x with
  | some (.ol gs), .lst cs => (match intsOfD gs, intsOfD cs with
    | some gs, some cs => .ok (.sv (.dr ⟨gs, cs, 0, 0⟩)) (ρ.set i none)
    | _, _ => .stuck)
  | _, _ => .stuck
def mDrNew (i : Nat) (mc : M Ref) : M Ref := fun ρ => if isOl (ρ.getD i none) = true then M.bind (mFrz mc) (drNew i) ρ else .stuck
section
variable {C : VC} {X : Cx} {W : WX} {i : Nat} {x : Str} {p q1 q2 q3 q4 q5 q6 pos : Pos} {j1 j2 j3 j4 j5 j6 : Nat} {ec : Expr} {tc : TE} {mc : M Ref}
theorem snd_drNew (hc : SndE C W tc mc) : SndE C W (tDisp [(tC (.str "great"), tVar i), (tC (.str "cells"), tc), (tC (.str "left"), tC (.int 0)), (tC (.str "turn"), tC (.int 0))]) (mDrNew i mc) := by
  intro B ρ σ G H Q E P q hq
  unfold mDrNew at P
  split at P
  · rename_i ho
    obtain ⟨xs, hx⟩ := isOl_some ho
    obtain ⟨v, hv, _⟩ := E.slot hx
    have E0 := E.newD hq .nil
    obtain ⟨B', _, b2, b3, _⟩ := E0.frame
    refine ⟨v, hv, hc.f b2 ?_⟩
    rw [mbind] at P
    cases q2 : mFrz mc ρ with
    | stuck => rw [q2] at P; exact P
    | err c ρ' => rw [q2] at P; exact fun G' H' Ca E' hg => P G' H' Ca (b3 _ _ _ _ E').1.nox hg
    | ok y ρ1 =>
      rw [q2, bind_ok] at P
      intro w G1 H1 E1 S1 r1
      obtain ⟨E2, S2⟩ := b3 _ _ _ _ E1
      unfold drNew at P
      cases q3 : ρ1.getD i none with
      | none => rw [q3] at P; exact P.elim
      | some s =>
        rw [q3] at P
        cases s with
        | ol gs =>
          cases y with
          | lst cs =>
            dsimp only at P
            cases q4 : intsOfD gs with
            | none => rw [q4] at P; exact P.elim
            | some ng =>
              rw [q4] at P
              cases q5 : intsOfD cs with
              | none => rw [q5] at P; exact P.elim
              | some nc =>
                rw [q5] at P
                dsimp only at P
                rw [intsOfD_eq q4] at q3
                cases r1 with
                | lst hcl rl =>
                  rename_i ca vs
                  rw [intsOfD_eq q5] at rl
                  rw [rpl_ints rl] at hcl
                  obtain ⟨g, rfl, E3⟩ := E2.joinDr q3 hv hcl 0 0
                  have hp : H1 q = some (.dK []) := by
                    obtain ⟨fp, h1, _⟩ := E2.fr.ex
                    obtain ⟨v3, e3, p', ws, p1, p2, p3, p4⟩ := h1 none
                    cases e3
                    cases p1
                    cases p4
                    exact p3
                  exact ⟨hp, drK q g ca 0 0, rfl, by show 4 ≤ 15; omega, P _ G1 _ E3 S2⟩
          | _ => exact P.elim
        | d z => exact P.elim
        | od z => exact P.elim
        | dr z => exact P.elim
        | sc z => exact P.elim
        | oi c z => exact P.elim
  · exact P.elim
theorem se_drNew (hv : PE X (.Name x p) (tVar i)) (hc : SE C X W ec tc mc) : SE C X W (.Dict [some (.Constant (.str "great") j1 q1), some (.Constant (.str "cells") j2 q2), some (.Constant (.str "left") j3 q3), some (.Constant (.str "turn") j4 q4)] [.Name x p, ec, .Constant (.int 0) j5 q5, .Constant (.int 0) j6 q6] pos)
    (tDisp [(tC (.str "great"), tVar i), (tC (.str "cells"), tc), (tC (.str "left"), tC (.int 0)), (tC (.str "turn"), tC (.int 0))]) (mDrNew i mc) :=
  ⟨pe_disp (pps_cons pe_str hv (pps_cons pe_str hc.pe (pps_cons pe_str pe_int (pps_cons pe_str pe_int pps_nil)))) (by rfl) (by rfl) (by simp) (by show 4 ≤ 15; omega), snd_drNew hc.snd⟩
end
end VS

/-! VG: short names for the printed walks. -/
namespace VS
open PySem PySem.Spec PyProof.Rows L2

theorem u65 {k : Nat} {A : Around} (r : Room k A) : A.units + 65 < cLine := by have := r.un; omega
theorem u64 {k : Nat} {A : Around} (r : Room k A) : A.units + 64 < cLine := r.units
theorem u1 {k : Nat} {A : Around} (r : Room k A) : A.units + 1 < cLine := by have := r.un; omega
theorem rmono {j k : Nat} {A : Around} (r : Room k A) (h : j ≤ k) : Room j A := r.mono h
section
variable {C : VC} {X : Cx} {W : WX} {a b : Expr} {ta tb : TE} {ma mb : M Ref} {pos p : Pos} {e : Expr} {es : List Expr} {t : TA} {m : M (List Opd)}
theorem b_add (ha : SE C X W a ta ma) (hb : SE C X W b tb mb) (hK : X.K = C.K := by rfl) : SE C X W (.BinOp a .Add b pos) (tOp (rAdd C.K) ta tb) (mBin dAdd ma mb) := se_bin (opK (r := rAdd) op_addX hK) rule_add ha hb
theorem b_sub (ha : SE C X W a ta ma) (hb : SE C X W b tb mb) : SE C X W (.BinOp a .Sub b pos) (tOp (rI0 fun i j => .int (i - j)) ta tb) (mBin dSub ma mb) := se_bin op_sub rule_sub ha hb
theorem b_mul (ha : SE C X W a ta ma) (hb : SE C X W b tb mb) : SE C X W (.BinOp a .Mult b pos) (tOp (rI CMul fun i j => .int (i * j)) ta tb) (mBin dMul ma mb) := se_bin op_mul rule_mul ha hb
theorem b_mod (ha : SE C X W a ta ma) (hb : SE C X W b tb mb) : SE C X W (.BinOp a .Mod b pos) (tOp (rI (fun _ j => j ≠ 0) fun i j => .int (i.fmod j)) ta tb) (mBin dMod ma mb) := se_bin op_modN rule_mod ha hb
theorem b_div (ha : SE C X W a ta ma) (hb : SE C X W b tb mb) : SE C X W (.BinOp a .FloorDiv b pos) (tOp (rI CDivN fun i j => .int (i.fdiv j)) ta tb) (mBin dDiv ma mb) := se_bin op_fdivN rule_div ha hb
theorem b_pow (ha : SE C X W a ta ma) (hb : SE C X W b tb mb) : SE C X W (.BinOp a .Pow b pos) (tOp (rI CPow fun i j => .int (i ^ j.toNat)) ta tb) (mBin dPow ma mb) := se_bin op_pow rule_pow ha hb
/-- a comparison: what each operator does -/
structure CO (C : VC) (X : Cx) (op : CmpOp) (rr : R2) (f : D → D → Option Rv) : Prop where
  o : OpR X (compareOp op) rr
  r : RuleB C rr f
theorem o_lt : CO C X .Lt (rI0 fun i j => .bl (decide (i < j))) dLt := ⟨op_lt, rule_cmp⟩
theorem o_le : CO C X .LtE (rI0 fun i j => .bl (decide (i ≤ j))) dLe := ⟨op_le, rule_cmp⟩
theorem o_gt : CO C X .Gt (rI0 fun i j => .bl (decide (j < i))) dGt := ⟨op_gt, rule_cmp⟩
theorem o_ge : CO C X .GtE (rI0 fun i j => .bl (decide (j ≤ i))) dGe := ⟨op_ge, rule_cmp⟩
theorem o_eq (hu : X.A.units + 65 < cLine) (hK : X.K = C.K := by rfl) : CO C X .Eq (rEqD C.K) (dEq false) := ⟨opK (r := rEqD) (op_eqD (by omega)) hK, rule_eq⟩
theorem o_ne (hu : X.A.units + 65 < cLine) (hK : X.K = C.K := by rfl) : CO C X .NotEq (rNeD C.K) (dEq true) := ⟨opK (r := rNeD) (op_neD (by omega)) hK, rule_ne⟩
theorem o_in (hu : X.A.units + 65 < cLine) (hK : X.K = C.K := by rfl) : CO C X .In (rInD C.K) (dIn false) := ⟨opK (r := rInD) (op_inD hu) hK, rule_in⟩
theorem o_nin (hu : X.A.units + 65 < cLine) (hK : X.K = C.K := by rfl) : CO C X .NotIn (rNotInD C.K) (dIn true) := ⟨opK (r := rNotInD) (op_notInD hu) hK, rule_notIn⟩
theorem o_is : CO C X .Is rIs (dIs false) := ⟨op_isX, rule_is⟩
theorem o_isn : CO C X .IsNot rIsNot (dIs true) := ⟨op_isNotX, rule_isNot⟩
variable {op op' : CmpOp} {rr rr' : R2} {f f' : D → D → Option Rv} {c : Expr} {tc : TE} {mc : M Ref}
theorem cmp (o : CO C X op rr f) (ha : SE C X W a ta ma) (hb : SE C X W b tb mb) (hm : behindInMarks op b = false := by rfl) : SE C X W (.Compare a [op] [b] pos) (tOp rr ta tb) (mBin f ma mb) := se_cmp o.o o.r ha hb hm
theorem tcmp (o : CO C X op rr f) (ha : SE C X W a ta ma) (hb : SE C X W b tb mb) (hm : behindInMarks op b = false := by rfl) : ST C X W (.Compare a [op] [b] pos) (tTest (tOp rr ta tb)) (mB (mBin f ma mb)) := st_cmp o.o o.r ha hb hm
theorem chn (o : CO C X op rr f) (o' : CO C X op' rr' f') (ha : SE C X W a ta ma) (hb : SE C X W b tb mb) (hc : SE C X W c tc mc) (hm : lastMarks [op, op'] [b, c] = false := by with_unfolding_all rfl) : SE C X W (.Compare a [op, op'] [b, c] pos) (tChain rr rr' ta tb tc) (mChain f f' ma mb mc) :=
  se_chain o.o o'.o o.r o'.r ha hb hc hm
theorem tchn (o : CO C X op rr f) (o' : CO C X op' rr' f') (ha : SE C X W a ta ma) (hb : SE C X W b tb mb) (hc : SE C X W c tc mc) (hm : lastMarks [op, op'] [b, c] = false := by with_unfolding_all rfl) : ST C X W (.Compare a [op, op'] [b, c] pos) (tTest (tChain rr rr' ta tb tc)) (mB (mChain f f' ma mb mc)) :=
  ⟨pt_chain o.o o'.o ha.pe hb.pe hc.pe hm, snd_test (snd_chain o.r o'.r ha.snd hb.snd hc.snd)⟩
abbrev rAbs1 : List V → Hp → VK → Prop := fun xs H Q => ∃ i, xs = [.int i] ∧ Q (.int (if i < 0 then -i else i)) H
abbrev rMax2 : List V → Hp → VK → Prop := fun xs H Q => ∃ i j, xs = [.int i, .int j] ∧ Q (.int (if j > i then j else i)) H
abbrev rMin2 : List V → Hp → VK → Prop := fun xs H Q => ∃ i j, xs = [.int i, .int j] ∧ Q (.int (if j < i then j else i)) H
abbrev rInt1 : List V → Hp → VK → Prop := fun xs H Q => (∃ i, xs = [.int i] ∧ Q (.int i) H) ∨ ∃ k, xs = [.bl k] ∧ Q (.int (if k then 1 else 0)) H
abbrev rListOf (K : PySem.W.Frag) : List V → Hp → VK → Prop := fun xs H Q => ∃ p ys, xs = [.ref p] ∧ (SqL K H p ys ∨ SqT K H p ys) ∧ ∀ l, H l = none → Q (.ref l) (upd H l (.lst ys))
abbrev rTupOf (K : PySem.W.Frag) : List V → Hp → VK → Prop := fun xs H Q => ∃ p ys, xs = [.ref p] ∧ ((SqL K H p ys ∧ ∀ l, H l = none → Q (.ref l) (upd H l (.tup ys))) ∨ (SqT K H p ys ∧ Q (.ref p) H))
abbrev rStrI : List V → Hp → VK → Prop := fun xs H Q => ∃ i, xs = [.int i] ∧ i.natAbs.log2 < 1920 ∧ Q (.str (toString i)) H
/-- built-in functions -/
structure FB (C : VC) (X : Cx) (fv : Value) (rr : List V → Hp → VK → Prop) (f : List D → Option Rv) : Prop where
  o : CallR X fv rr
  r : RuleC C rr f
theorem f_len (hK : X.K = C.K := by rfl) : FB C X (.builtin "len") (rLenX C.K) fLen := ⟨crK (r := rLenX) cr_lenX hK, rule_len⟩
theorem f_abs : FB C X (.builtin "abs") rAbs1 fAbs := ⟨call_abs, rule_abs⟩
theorem f_max (hc : X.calm = true := by rfl) : FB C X (.builtin "max") rMax2 fMax := ⟨call_max2 hc, rule_max⟩
theorem f_min (hc : X.calm = true := by rfl) : FB C X (.builtin "min") rMin2 fMin := ⟨call_min2 hc, rule_min⟩
theorem f_int : FB C X (.type "int") rInt1 fInt := ⟨call_int1, rule_int⟩
theorem f_list (hK : X.K = C.K := by rfl) : FB C X (.type "list") (rListOf C.K) fList := ⟨crK (r := rListOf) call_list_of hK, rule_list⟩
theorem f_tuple (hK : X.K = C.K := by rfl) : FB C X (.type "tuple") (rTupOf C.K) fTuple := ⟨crK (r := rTupOf) call_tuple_of hK, rule_tuple⟩
theorem f_all (hc : X.calm = true := by rfl) (hK : X.K = C.K := by rfl) : FB C X (.builtin "all") (rAll C.K) fAll := ⟨crK (r := rAll) (cr_all hc) hK, rule_all⟩
theorem f_any (hc : X.calm = true := by rfl) (hK : X.K = C.K := by rfl) : FB C X (.builtin "any") (rAny C.K) fAny := ⟨crK (r := rAny) (cr_any hc) hK, rule_any⟩
theorem f_str : FB C X (.type "str") rStrI fStr := ⟨call_str_int, rule_str⟩
variable {x : Str} {id T' : String} {rc : List V → Hp → VK → Prop} {g : List D → Option Rv}
theorem fnb (o : FB C X (.builtin id) rc g) (hm : X.mg x = none) (ha : SA C X W (e :: es) t m) (hv : bootBuiltins x = some (.builtin id) := by decide +kernel) (hg : Gl X x := by rfl)
    (hn : x ≠ "__name__" := by decide) (hdb : (x == ("__debug__" : Str)) = false := by decide) (he : starEach (e :: es) X.env = (false, eval e X.env) :: starEach es X.env := by rfl) (hpl : (backTo pos (starEach es X.env)).any (·.1) = false := by rfl) :
    SE C X W (.Call (.Name x p) (e :: es) [] pos) (tCB rc t) (mFn g m) := se_fnB o.o o.r hg hm hv ha hn hdb he hpl
theorem fnt (o : FB C X (.type T') rc g) (hm : X.mg x = none) (ha : SA C X W (e :: es) t m) (hv : bootBuiltins x = some (.type T') := by decide +kernel) (hg : Gl X x := by rfl)
    (hn : x ≠ "__name__" := by decide) (hdb : (x == ("__debug__" : Str)) = false := by decide) (he : starEach (e :: es) X.env = (false, eval e X.env) :: starEach es X.env := by rfl) (hpl : (backTo pos (starEach es X.env)).any (·.1) = false := by rfl) :
    SE C X W (.Call (.Name x p) (e :: es) [] pos) (tCB rc t) (mFn g m) := se_fnT o.o o.r hg hm hv ha hn hdb he hpl
/-- a whole number of the top -/
theorem se_gi {n : Int} {u : Value} (hm : X.mg x = some u) (hr : RelV (.int n) u) (hg : Gl X x := by rfl) (hd : (x == ("__debug__" : Str)) = false := by decide) : SE C X W (.Name x pos) (tC (.int n)) (M.ret (rSc (.int n))) := ⟨pe_glob hg hm hr hd, snd_const (.int n)⟩
end
end VS
namespace VS
open PySem PySem.Spec PyProof.Rows L2
theorem s_asg {C : VC} {X : Cx} {W : WX} {P is : List Nat} {e tg : Expr} {te : TE} {me : M Ref} {g : TG} {mg : Tg} {pos : Pos} (h : SE C X W e te me) (hg : PG X tg g) (sg : SndG C P is g mg) (hs : swapsWithSole [tg] e pos.line X.env = pure false := by rfl) (hw : swappedStores [tg] e X.env = pure none := by rfl)
    (h1 : (assignEach [tg] X.env).map (·.2) = [assign tg X.env] := by rfl) : S1 C P X W (.Assign [tg] e pos) (tAsg te g) (mAsg me mg) := ⟨ps_asg h.pe hg hs hw h1, snd_asg h.snd sg⟩
/-! ### the script -/
def mScI (i : Nat) : M (List D) := fun ρ => match ρ.getD i none with
  | some (.sc ns) => .ok (intD ns) ρ
  | _ => .stuck
def mScL (i : Nat) : M Ref := fun ρ => match ρ.getD i none with
  | some (.sc ns) => .ok (.sv (.d (.int ns.length))) ρ
  | _ => .stuck
section
variable {C : VC} {X : Cx} {W : WX} {i : Nat} {x : Str} {p pos : Pos} {tg : Expr}
theorem sc_at {B : Bd} {ρ : En} {σ : L2.St} {G H : Hp} {ns : List Int} (E : EnvR C B ρ σ none G H) (h : ρ.getD i none = some (.sc ns)) : ∃ a, σ[i]? = some (some (.ref a)) ∧ SqL C.K G a (ns.map V.int) := by
  obtain ⟨v, fp, e, _, a, rfl, s⟩ := E.own h
  exact ⟨a, e, s⟩
theorem intD_get {ns : List Int} {j : Nat} {y : D} (h : (intD ns)[j]? = some y) : ∃ k, ns[j]? = some k ∧ y = .int k := by
  unfold intD at h
  rw [List.getElem?_map] at h
  cases q : ns[j]? with
  | none => rw [q] at h; cases h
  | some k => rw [q] at h; exact ⟨k, rfl, (Option.some.inj h).symm⟩
theorem snd_scI : SndI C W (iSeq C.K (tVar i)) (mScI i) := by
  intro B ρ σ G H R E P
  unfold mScI at P
  cases q : ρ.getD i none with
  | none => rw [q] at P; exact P.elim
  | some z =>
    rw [q] at P
    cases z with
    | sc ns =>
      obtain ⟨a, e, s⟩ := sc_at E q
      refine .inl ⟨_, e, a, rfl, ⟨_, E.fr.gh.seq s⟩, P _ G H E (Same.refl _) ⟨fun G1 H1 k => ⟨_, k.2.seq (k.1.seq s), by simp [intD]⟩, fun j y G1 H1 hy k => ?_, fun j y v H2 B ρ σ G1 H1 hy k E q => ?_⟩⟩
      · obtain ⟨n, hn, _⟩ := intD_get hy
        exact ⟨_, .int n, k.2.seq (k.1.seq s), by rw [List.getElem?_map, hn] <;> rfl⟩
      · obtain ⟨n, hn, rfl⟩ := intD_get hy
        obtain ⟨e1, e2⟩ := q
        subst e1
        have e3 := e2 _ (k.2.seq (k.1.seq s))
        rw [List.getElem?_map, hn] at e3
        cases e3
        exact ⟨G1, Same.refl _, E, .int n⟩
    | d z => exact P.elim
    | ol z => exact P.elim
    | od z => exact P.elim
    | dr z => exact P.elim
    | oi c z => exact P.elim
theorem si_sc (h : PE X (.Name x p) (tVar i)) (hK : X.K = C.K := by rfl) : SI C X W tg (.Name x p) (iSeq C.K (tVar i)) (mScI i) := ⟨by rw [← hK]; exact piOr (pi_list h) (pi_tup h), snd_scI⟩
theorem snd_scL : SndE C W (tCB (rLenX C.K) (tCons (tVar i) tNil)) (mScL i) := by
  intro B ρ σ G H Q E P
  unfold mScL at P
  cases q : ρ.getD i none with
  | none => rw [q] at P; exact P.elim
  | some z =>
    rw [q] at P
    cases z with
    | sc ns =>
      obtain ⟨a, e, s⟩ := sc_at E q
      refine ⟨_, e, .inl ⟨a, _, rfl, .inl (E.fr.gh.seq s), ?_⟩⟩
      rw [List.length_map]
      exact P _ G H (E.res (.int _)) (Same.refl _)
    | d z => exact P.elim
    | ol z => exact P.elim
    | od z => exact P.elim
    | dr z => exact P.elim
    | oi c z => exact P.elim
theorem se_scL (h : PE X (.Name x p) (tVar i)) (hm : X.mg "len" = none) (hg : Gl X "len" := by rfl) (hK : X.K = C.K := by rfl) (h1 : starEach [.Name x p] X.env = (false, eval (.Name x p) X.env) :: starEach [] X.env := by rfl) {q : Pos} :
    SE C X W (.Call (.Name "len" q) [.Name x p] [] pos) (tCB (rLenX C.K) (tCons (tVar i) tNil)) (mScL i) := ⟨pe_callB (crK (r := rLenX) cr_lenX hK) hg hm (by decide +kernel) (pa_cons h pa_nil h1) (by decide) (by decide) h1 (by rfl), snd_scL⟩
end
/-! ### what the head looks at besides: the own classes and isinstance -/
def koB (K : PySem.W.Frag) (cs es : List Str) (anc : Str → Str → Bool) : Bool :=
  (cs.all fun c => He.eqO (PySem.W.findIn K (.ref (He.ga K c)) "__class__") (some (some (.builtin "object.__class__"))) && decide (PySem.W.mroIn K (He.ga K c) (.type "object") = some true)) &&
  ((es.all fun c => He.eqO (PySem.W.findIn K (.ref (He.ga K c)) "__getattribute__") (some (some (.builtin "BaseException.__getattribute__"))) && (He.eqO (PySem.W.findIn K (.ref (He.ga K c)) "__getattr__") (some none) &&
    (decide (PySem.W.subIn K (.ref (He.ga K c)) (.type "BaseException") = some true) && (PySem.W.hasDictIn K (He.ga K c) && (He.eqO (PySem.W.findIn K (.ref (He.ga K c)) "__class__") (some (some (.builtin "object.__class__"))) && decide (PySem.W.mroIn K (He.ga K c) (.type "object") = some true)))))) &&
  (He.eqO (PySem.W.specialIn K (.builtin "object.__class__") "__get__") (some (some (.builtin "getset_descriptor.__get__"))) && (decide (PySem.W.takesIn K (.builtin "object.__class__") = some true) &&
  (((cs ++ es).all fun c => (cs ++ es).all fun x => decide (PySem.W.kitOne K (.ref (He.ga K c)) (.ref (He.ga K x)) = some (anc c x))) && (((cs ++ es).all fun c => clNs.all fun T => decide (PySem.W.kitOne K (.ref (He.ga K c)) (.type T) = some false)) &&
  (tyNs.all fun t => (cs ++ es).all fun x => decide (PySem.W.kitOne K (.type t) (.ref (He.ga K x)) = some false)))))))
theorem ko_of {C : VC} {cs es : List Str} {anc : Str → Str → Bool} (h : koB C.K cs es anc = true) (g : ∀ c ∈ cs ++ es, C.mg c = some (.ref (He.ga C.K c))) (hc : ∀ c ∈ cs, Cls C.K (He.ga C.K c)) : KO C cs es anc := by
  obtain ⟨h1, h⟩ := He.ba h
  obtain ⟨h2, h⟩ := He.ba h
  obtain ⟨h3, h⟩ := He.ba h
  obtain ⟨h4, h⟩ := He.ba h
  obtain ⟨h5, h⟩ := He.ba h
  obtain ⟨h6, h7⟩ := He.ba h
  have hn := He.eqO_ok h3
  have ht := of_decide_eq_true h4
  have adr : ∀ c ∈ cs ++ es, ∀ Ca, C.mg c = some (.ref Ca) → Ca = He.ga C.K c := fun c m Ca e => by
    rw [g c m] at e
    cases e
    rfl
  refine ⟨fun c m => ?_, fun c m => ?_, hn, ht, fun c m x mx Ca Xa e1 e2 => ?_, fun c m T mT Ca e1 => ?_, fun t mt x mx Xa e1 => ?_⟩
  · obtain ⟨a1, a2⟩ := He.ba (List.all_eq_true.mp h1 c m)
    exact ⟨_, g c (List.mem_append_left _ m), hc c m, He.eqO_ok a1, of_decide_eq_true a2⟩
  · obtain ⟨a1, a⟩ := He.ba (List.all_eq_true.mp h2 c m)
    obtain ⟨a2, a⟩ := He.ba a
    obtain ⟨a3, a⟩ := He.ba a
    obtain ⟨a4, a⟩ := He.ba a
    obtain ⟨a5, a6⟩ := He.ba a
    exact ⟨_, g c (List.mem_append_right _ m), He.eqO_ok a1, He.eqO_ok a2, of_decide_eq_true a3, a4, He.eqO_ok a5, hn, ht, of_decide_eq_true a6⟩
  · rw [adr c m Ca e1, adr x mx Xa e2]
    exact of_decide_eq_true (List.all_eq_true.mp (List.all_eq_true.mp h5 c m) x mx)
  · rw [adr c m Ca e1]
    exact of_decide_eq_true (List.all_eq_true.mp (List.all_eq_true.mp h6 c m) T mT)
  · rw [adr x mx Xa e1]
    exact of_decide_eq_true (List.all_eq_true.mp (List.all_eq_true.mp h7 t mt) x mx)
end VS

/-! VE: the law's end. -/
namespace VS
open PySem PySem.Spec PyProof.Rows L2 LamX

/-- the law's def is called at the start: a script, the tables of code -/
theorem start_sp {C : VC} {den : Den} {H : Hp} {a : Addr} {ns : List Int} (hT : ∀ p ∈ C.T, H p.1 = some (.tbl #[])) (hS : SqL C.K H a (ns.map V.int)) (hden : ∃ outs, den [.sc ns] = .ok (.d (.bl true)) outs) :
    spD C 1 den [.ref a] H (fun v _ => v = .bl true) fun _ _ _ => False := by
  obtain ⟨outs, hd⟩ := hden
  let G0 : Hp := fun b => if b = a then (match H a with | some (.tbl _) => none | o => o) else none
  have gH : ∀ b o, G0 b = some o → H b = some o ∧ ∀ ps, o ≠ .tbl ps := fun b o e => by
    have e : (if b = a then (match H a with | some (.tbl _) => none | o => o) else none) = some o := e
    by_cases hb : b = a
    · rw [if_pos hb] at e
      subst hb
      cases q : H b with
      | none => rw [q] at e; cases e
      | some u =>
        rw [q] at e
        cases u with
        | tbl ps => cases e
        | _ => cases e; exact ⟨rfl, fun ps z => nomatch z⟩
    · rw [if_neg hb] at e
      cases e
  have sq : SqL C.K G0 a (ns.map V.int) := by
    have same : ∀ o, H a = some o → (∀ ps, o ≠ .tbl ps) → G0 a = some o := fun o e n => by
      show (if a = a then (match H a with | some (.tbl _) => none | o => o) else none) = some o
      rw [if_pos rfl, e]
      cases o with
      | tbl ps => exact absurd rfl (n ps)
      | _ => rfl
    rcases hS with (h | ⟨o, h⟩) | h
    · exact .inl (.inl (same _ h fun ps z => nomatch z))
    · exact .inl (.inr ⟨o, same _ h fun ps z => nomatch z⟩)
    · exact .inr h
  refine ⟨rfl, ⟨H, G0, fun _ => False, fun _ => .ref a⟩, [.sc ns], rfl, fun j hj => ?_, ⟨⟨⟨fun _ => [], fun i => ?_, fun i j p _ hp => absurd (show p ∈ ([] : List Addr) from hp) (by simp), fun i p hp => absurd (show p ∈ ([] : List Addr) from hp) (by simp)⟩, fun b o e => (gH b o e).1, Same.refl _, fun b h => .inl h, fun b o e _ _ => e, fun b ps e => (gH b _ e).2 ps rfl, fun p hp => TabS.nil (hT p hp)⟩, rfl⟩, ?_⟩
  · have : j = 0 := by omega
    subst this
    rfl
  · cases i with
    | none => rfl
    | some i =>
      cases i with
      | zero => exact ⟨.ref a, rfl, rfl, a, rfl, sq⟩
      | succ i => rfl
  · rw [hd]
    intro v G' H' E'
    have z := E'.resOf
    cases z
    rfl
theorem law_end {l : PySem.W.OpenLaw} {w : World} {K : PySem.W.Frag} {mg : Str → Option Value} {k n : Nat} {x : Str} {fa : Addr} {h : Heap} {tf : List He.Defn} {fd : FuncData} {den : Den} {T : List (Addr × Str)}
    (h1 : ∀ p ∈ tf, h.get? (He.cT K p).2 = some { cls := .none, data := .fields #[] }) (h2 : ∀ p ∈ tf, K.lookup (He.cT K p).2 = none) (h3 : ∀ p ∈ tf, PySem.W.CodeHd h (He.cT K p).1 (He.cT K p).2)
    (hT : T = tf.map fun p => ((He.cT K p).2, p.1 ++ ".<locals>." ++ "<lambda>")) (hb : ∀ (s : Shared) (u : Value), BindsTo s fd ⟨[u], []⟩ [(x, u)])
    (hF : ∀ base : Heap, K.In base → base.Ns mainGlobals mg → (∀ p ∈ tf, TabB base mg (He.cT K p).1 (He.cT K p).2) → FnOk l.prog w K mg base (L2.CX l.prog w) k fa fd [x] (spD ⟨K, mg, T, l.prog, w⟩ 1 den))
    (hden : ∀ ns : List Int, ns.length ≤ n → ∃ outs, den [.sc ns] = .ok (.d (.bl true)) outs) : LawAtS l w K (L2.CX l.prog w) k n x mg fa h := by
  have mem : ∀ {q : Addr × Addr → Prop}, (∀ p ∈ tf, q (He.cT K p)) → ∀ p ∈ tf.map (He.cT K), q p := fun {q} z p hp => by
    obtain ⟨d, hd, e⟩ := List.mem_map.mp hp
    rw [← e]
    exact z d hd
  refine ⟨fd, tf.map (He.cT K), spD ⟨K, mg, T, l.prog, w⟩ 1 den, mem h1, mem h2, mem h3, hb, fun H a ns hl _ ht hS => start_sp (fun p hp => ?_) hS (hden ns hl), fun base b1 b2 b3 => hF base b1 b2 fun p hp => b3 _ (List.mem_map.mpr ⟨p, hp, rfl⟩)⟩
  have hp : p ∈ T := hp
  rw [hT] at hp
  obtain ⟨d, hd, e⟩ := List.mem_map.mp hp
  rw [← e]
  exact ht _ (List.mem_map.mpr ⟨d, hd, rfl⟩)
theorem cx_false {P : Program} (w : World) (H : Hp) (s : Shared) (e : Value) (s' : Shared) (h : L2.CX P w [] H s (fun _ _ _ => False) e s') : False := by
  obtain ⟨_, _, _, _, _, _, _, _, _, _, _, _, z⟩ := h
  exact z
end VS

/-! VP: how the mirrors run, as rows for simp. -/
namespace VS
theorem ite_cl {α : Type} {c : Prop} [d : Decidable c] {a : α} (b : α) : @ite α c (Classical.propDecidable c) a b = if c then a else b := by rw [show Classical.propDecidable c = d from Subsingleton.elim _ _]
open PySem PySem.Spec PyProof.Rows L2
section
variable {ρ : En} {i j : Nat} {a b c : M Ref} {ta tb : M Bool} {m : M (List Opd)} {x y : D}
@[simp] theorem e_var : mVar i ρ = match ρ.getD i none with | some _ => .ok (.loc i) ρ | none => .stuck := (rfl)
@[simp] theorem e_opd : opd a ρ = (a ρ).bind fun r => match r with | .loc i => M.ret (.loc i) | .sv s => M.bind (M.opt s.frz) fun x => M.ret (.d x) := (rfl)
@[simp] theorem e_look (o : Opd) : look o ρ = M.opt (vwO ρ o) ρ := (rfl)
@[simp] theorem e_val : val a ρ = (opd a ρ).bind look := (rfl)
@[simp] theorem e_val2 : val2 a b ρ = (opd a ρ).bind fun x => M.bind (opd b) fun y => M.bind (look x) fun d => M.bind (look y) fun e => M.ret (d, e) := (rfl)
@[simp] theorem e_bin (f : D → D → Option Rv) : mBin f a b ρ = (val2 a b ρ).bind fun p => M.bind (M.opt (f p.1 p.2)) fun r => M.ret r.ref := (rfl)
@[simp] theorem e_un (f : D → Option Rv) : mUn f a ρ = (val a ρ).bind fun x => M.bind (M.opt (f x)) fun r => M.ret r.ref := (rfl)
@[simp] theorem e_fn (f : List D → Option Rv) : mFn f m ρ = (m ρ).bind fun os ρ => (M.opt ((lookAll ρ os).bind f)).bind (fun r => M.ret r.ref) ρ := (rfl)
@[simp] theorem e_cons : mCons a m ρ = (opd a ρ).bind fun o => M.bind m fun os => M.ret (o :: os) := (rfl)
@[simp] theorem e_call (den : Den) : mCall den m ρ = (m ρ).bind (callD den) := (rfl)
@[simp] theorem e_callK (den : Den) (k : M (List Opd)) : mCallK den m k ρ = (m ρ).bind fun os => M.bind k fun ks => callD den (os ++ ks) := (rfl)
@[simp] theorem e_callD (den : Den) (os : List Opd) : callD den os ρ = match argSV ρ os with | none => .stuck | some args => if (ownIx ρ os).Nodup then (match den args with | .ok s outs => .ok (.sv s) (wb ρ os outs) | .err c outs => .err c (wb ρ os outs) | .stuck => .stuck) else .stuck := (rfl)
@[simp] theorem e_arg0 : argSV ρ [] = some [] := (rfl)
@[simp] theorem e_argd (os : List Opd) : argSV ρ (.d x :: os) = (argSV ρ os).map (SV.d x :: ·) := (rfl)
@[simp] theorem e_argl (os : List Opd) : argSV ρ (.loc i :: os) = (ρ.getD i none).bind fun s => (argSV ρ os).map (s :: ·) := (rfl)
@[simp] theorem e_own0 : ownIx ρ [] = [] := (rfl)
@[simp] theorem e_ownd (os : List Opd) : ownIx ρ (.d x :: os) = ownIx ρ os := (rfl)
@[simp] theorem e_ownl (os : List Opd) : ownIx ρ (.loc i :: os) = if isOwn (ρ.getD i none) = true then i :: ownIx ρ os else ownIx ρ os := (rfl)
@[simp] theorem e_isn : isOwn none = false := (rfl)
@[simp] theorem e_isd : isOwn (some (.d x)) = false := (rfl)
@[simp] theorem e_iso (xs : List D) : isOwn (some (.ol xs)) = true := (rfl)
@[simp] theorem e_isod (xs : List (Key × D)) : isOwn (some (.od xs)) = true := (rfl)
@[simp] theorem e_isdr (s : Draw) : isOwn (some (.dr s)) = true := (rfl)
@[simp] theorem e_isi (c : Str) (s : List (Str × D)) : isOwn (some (.oi c s)) = true := (rfl)
@[simp] theorem e_issc (s : List Int) : isOwn (some (.sc s)) = false := (rfl)
@[simp] theorem e_wb0 (o : En) : wb ρ [] o = ρ := (rfl)
@[simp] theorem e_wbd (os : List Opd) (o : En) : wb ρ (.d x :: os) o = wb ρ os o.tail := (rfl)
@[simp] theorem e_wbl (os : List Opd) (o : En) : wb ρ (.loc i :: os) o = if isOwn (ρ.getD i none) = true then (wb ρ os o.tail).set i (o.getD 0 none) else wb ρ os o.tail := (rfl)
@[simp] theorem e_mB : mB a ρ = (val a ρ).bind fun x => match x with | .bl b => M.ret b | _ => fun _ => .stuck := (rfl)
@[simp] theorem e_andT : mAndT ta tb ρ = (ta ρ).bind fun c => if c = true then tb else M.ret false := (rfl)
@[simp] theorem e_orT : mOrT ta tb ρ = (ta ρ).bind fun c => if c = true then M.ret true else tb := (rfl)
@[simp] theorem e_notT : mNotT ta ρ = (ta ρ).bind fun c => M.ret (!c) := (rfl)
@[simp] theorem e_andV : mAndV a b ρ = (mB a ρ).bind fun c => if c = true then b else M.ret (rSc (.bl false)) := (rfl)
@[simp] theorem e_orV : mOrV a b ρ = (mB a ρ).bind fun c => if c = true then M.ret (rSc (.bl true)) else b := (rfl)
@[simp] theorem e_notV : mNotV a ρ = (mB a ρ).bind fun c => M.ret (rSc (.bl (!c))) := (rfl)
@[simp] theorem e_ifE : mIfE ta a b ρ = (ta ρ).bind fun k => if k = true then a else b := (rfl)
@[simp] theorem e_rSc (s : Sc) : rSc s = .sv (.d s.d) := (rfl)
variable {p q : M Fl} {P : List Nat}
@[simp] theorem e_seq : mSeq p q ρ = (p ρ).bind fun f => match f with | .nx => q | f => M.ret f := (rfl)
@[simp] theorem e_drop : mDrop a ρ = (a ρ).bind fun _ => M.ret .nx := (rfl)
@[simp] theorem e_ret : mRet P a ρ = (a ρ).bind fun r => match r with | .sv s => M.ret (.rt s) | .loc i => fun ρ => match ρ.getD i none with | some (.d x) => .ok (.rt (.d x)) ρ | some s => if i ∈ P then .stuck else .ok (.rt s) (ρ.set i none) | none => .stuck := (rfl)
@[simp] theorem e_if : mIf ta p q ρ = (ta ρ).bind fun k => if k = true then p else q := (rfl)
@[simp] theorem e_set : mSet i a ρ = (a ρ).bind (stRef i) := (rfl)
@[simp] theorem e_st1 (s : SV) : stRef i (.sv s) ρ = .ok .nx (ρ.set i (some s)) := (rfl)
@[simp] theorem e_st2 : stRef i (.loc j) ρ = match (ρ.getD j none).bind SV.frz with | some x => .ok .nx ((ρ.set j (some (.d x))).set i (some (.d x))) | none => .stuck := (rfl)
@[simp] theorem e_raise (c : Str) : mRaise c ρ = .err c ρ := (rfl)
@[simp] theorem e_frz : mFrz a ρ = (opd a ρ).bind frzO := (rfl)
@[simp] theorem e_fO1 : frzO (.d x) ρ = .ok x ρ := (rfl)
@[simp] theorem e_fO2 : frzO (.loc i) ρ = match frz1 i ρ with | some (x, ρ') => .ok x ρ' | none => .stuck := (rfl)
@[simp] theorem e_frz1 : frz1 i ρ = match ρ.getD i none with | some (.d x) => some (x, ρ) | some s => s.frz.map fun x => (x, ρ.set i (some (.d x))) | none => none := (rfl)
@[simp] theorem e_own : mOwn a ρ = (a ρ).bind ownO := (rfl)
@[simp] theorem e_ownO1 (s : SV) : ownO (.sv s) ρ = .ok s ρ := (rfl)
@[simp] theorem e_ownO2 : ownO (.loc i) ρ = match frz1 i ρ with | some (x, ρ') => .ok (.d x) ρ' | none => .stuck := (rfl)
@[simp] theorem e_par : mPar i j a b ρ = (mOwn a ρ).bind fun x => M.bind (mOwn b) fun y => fun ρ => .ok .nx ((ρ.set i (some x)).set j (some y)) := (rfl)
@[simp] theorem e_par3 {l : Nat} : mPar3 i j l a b c ρ = (mOwn a ρ).bind fun x => M.bind (mOwn b) fun y => M.bind (mOwn c) fun z => fun ρ => .ok .nx (((ρ.set i (some x)).set j (some y)).set l (some z)) := (rfl)
@[simp] theorem e_asg (mg : Tg) : mAsg a mg ρ = (mFrz a ρ).bind fun x ρ => match mg x ρ with | some ρ' => .ok .nx ρ' | none => .stuck := (rfl)
@[simp] theorem e_tup : mTup m ρ = (m ρ).bind fun os => M.bind (frzAll os) fun xs => M.ret (.sv (.d (.tup xs))) := (rfl)
@[simp] theorem e_lst : mLst m ρ = (m ρ).bind fun os => M.bind (frzAll os) fun xs => M.ret (.sv (.ol xs)) := (rfl)
@[simp] theorem e_fA0 : frzAll [] ρ = .ok [] ρ := (rfl)
@[simp] theorem e_fAd (os : List Opd) : frzAll (.d x :: os) ρ = (frzAll os ρ).bind fun xs => M.ret (x :: xs) := (rfl)
@[simp] theorem e_fAl (os : List Opd) : frzAll (.loc i :: os) ρ = match frz1 i ρ with | some (x, ρ') => (frzAll os ρ').bind (fun xs => M.ret (x :: xs)) | none => .stuck := (rfl)
@[simp] theorem e_frzs : mFrzs m ρ = (m ρ).bind frzAll := (rfl)
@[simp] theorem e_tgN : tgName i x ρ = some (ρ.set i (some (.d x))) := (rfl)
@[simp] theorem e_tgT (is : List Nat) (xs : List D) : tgTup is (.tup xs) ρ = tgNames is xs ρ := (rfl)
@[simp] theorem e_tgs0 : tgNames [] [] ρ = some ρ := (rfl)
@[simp] theorem e_tgs1 (is : List Nat) (xs : List D) : tgNames (i :: is) (x :: xs) ρ = tgNames is xs (ρ.set i (some (.d x))) := (rfl)
@[simp] theorem e_seqI : mSeqI a ρ = (mFrz a ρ).bind fun x => M.opt (seqOf x) := (rfl)
@[simp] theorem e_sq1 (xs : List D) : seqOf (.lst xs) = some xs := (rfl)
@[simp] theorem e_sq2 (xs : List D) : seqOf (.tup xs) = some xs := (rfl)
@[simp] theorem e_rng (f : List D → Option (List D)) : mRng f m ρ = (m ρ).bind fun os ρ => M.opt ((lookAll ρ os).bind f) ρ := (rfl)
@[simp] theorem e_enum : mEnum a ρ = (mFrz a ρ).bind fun x => M.opt (enumOf x) := (rfl)
@[simp] theorem e_enumO (xs : List D) : enumOf (.lst xs) = some (enumD xs) := (rfl)
@[simp] theorem e_for (mi : M (List D)) (mg : Tg) : mFor mi mg p ρ = (mi ρ).bind (forR mg p) := (rfl)
@[simp] theorem e_forN (mg : Tg) : forR mg p [] ρ = .ok .nx ρ := (rfl)
theorem e_forC (mg : Tg) (xs : List D) : forR mg p (x :: xs) ρ = match mg x ρ with | none => .stuck | some ρ' => (p ρ').bind fun f => match f with | .nx => forR mg p xs | .ct => forR mg p xs | .bk => M.ret .nx | .rt s => M.ret (.rt s) := rfl
@[simp] theorem e_meth (f : List D → List D → Option (D × List D)) : mMeth i f m ρ = if isOl (ρ.getD i none) = true then (mFrzs m ρ).bind (methD i f) else .stuck := (rfl)
@[simp] theorem e_methD (f : List D → List D → Option (D × List D)) (ys xs : List D) (h : ρ.getD i none = some (.ol xs)) : methD i f ys ρ = match f xs ys with | some (r, xs') => .ok (.sv (.d r)) (ρ.set i (some (.ol xs'))) | none => .stuck := by
  unfold methD
  rw [h] <;> rfl
@[simp] theorem e_isOl (xs : List D) : isOl (some (.ol xs)) = true := (rfl)
@[simp] theorem e_lc (mi : M (List D)) (vs : List Nat) (mg : Tg) : mLc mi vs mg ta a ρ = (mi ρ).bind fun xs ρ => if (vs.all fun v => isData (ρ.getD v none)) = true then (lcR ρ vs mg ta a xs [] ρ).bind (fun ys => M.ret (.sv (.ol ys))) else .stuck := (rfl)
@[simp] theorem e_lcN (ρ0 : En) (vs : List Nat) (mg : Tg) (acc : List D) : lcR ρ0 vs mg ta a [] acc ρ = .ok acc ρ := (rfl)
@[simp] theorem e_dt0 : isData none = true := (rfl)
@[simp] theorem e_dt1 : isData (some (.d x)) = true := (rfl)
@[simp] theorem e_w0 : wipeE ρ [] = ρ := (rfl)
@[simp] theorem e_w1 (vs : List Nat) : wipeE ρ (i :: vs) = (wipeE ρ vs).set i none := (rfl)
@[simp] theorem e_r0 (ρ0 : En) : restE ρ0 ρ [] = ρ := (rfl)
@[simp] theorem e_r1 (ρ0 : En) (vs : List Nat) : restE ρ0 ρ (i :: vs) = (restE ρ0 ρ vs).set i (ρ0.getD i none) := (rfl)
@[simp] theorem e_dr (k : DrK) : mDr i k ρ = match ρ.getD i none with | some (.dr s) => .ok (.sv (.d (drGet k s))) ρ | _ => .stuck := (rfl)
@[simp] theorem e_drG : mDrG i ρ = match ρ.getD i none with | some (.dr s) => .ok (.sv (.d (.bl (!s.great.isEmpty)))) ρ | _ => .stuck := (rfl)
@[simp] theorem e_drP : mDrP i ρ = match ρ.getD i none with | some (.dr s) => (match s.great with | z :: zs => .ok (.sv (.d (.int z))) (ρ.set i (some (.dr { s with great := zs }))) | [] => .stuck) | _ => .stuck := (rfl)
@[simp] theorem e_drPut (k : DrK) : mDrPut i k a ρ = (mFrz a ρ).bind (drputD i k) := (rfl)
@[simp] theorem e_drL (s : Draw) (n : Int) (h : ρ.getD i none = some (.dr s)) : drputD i .left (.int n) ρ = .ok .nx (ρ.set i (some (.dr { s with left := n }))) := by
  unfold drputD
  rw [h]
@[simp] theorem e_drT (s : Draw) (n : Int) (h : ρ.getD i none = some (.dr s)) : drputD i .turn (.int n) ρ = .ok .nx (ρ.set i (some (.dr { s with turn := n }))) := by
  unfold drputD
  rw [h]
@[simp] theorem e_gl (s : Draw) : drGet .left s = .int s.left := (rfl)
@[simp] theorem e_gt (s : Draw) : drGet .turn s = .int s.turn := (rfl)
@[simp] theorem e_gc (s : Draw) : drGet .cells s = .lst (s.cells.map .int) := (rfl)
@[simp] theorem e_addI (k l : Int) : dAdd (.int k) (.int l) = some (.sc (.int (k + l))) := (rfl)
@[simp] theorem e_subI (k l : Int) : dSub (.int k) (.int l) = some (.sc (.int (k - l))) := (rfl)
@[simp] theorem e_mulI (k l : Int) : dMul (.int k) (.int l) = if (-(2 ^ 64) < k ∧ k < 2 ^ 64) ∨ (-(2 ^ 64) < l ∧ l < 2 ^ 64) then some (.sc (.int (k * l))) else none := ite_cl _
@[simp] theorem e_modI (k l : Int) : dMod (.int k) (.int l) = if l ≠ 0 then some (.sc (.int (k.fmod l))) else none := (rfl)
@[simp] theorem e_divI (k l : Int) : dDiv (.int k) (.int l) = if l ≠ 0 ∧ l.natAbs < 1073741824 then some (.sc (.int (k.fdiv l))) else none := ite_cl _
@[simp] theorem e_powI (k l : Int) : dPow (.int k) (.int l) = if 0 ≤ l ∧ l ≤ 1000000 ∧ k.natAbs < 2 ^ 64 then some (.sc (.int (k ^ l.toNat))) else none := ite_cl _
@[simp] theorem e_cmpI (f : Int → Int → Bool) (k l : Int) : dCmp f (.int k) (.int l) = some (.sc (.bl (f k l))) := (rfl)
@[simp] theorem e_negI (k : Int) : dNeg (.int k) = some (.sc (.int (-k))) := (rfl)
@[simp] theorem e_eqI (n : Bool) (k l : Int) : dEq n (.int k) (.int l) = some (.sc (.bl (n ^^ (k == l)))) := (rfl)
@[simp] theorem e_fInt (k : Int) : fInt [.int k] = some (.sc (.int k)) := (rfl)
@[simp] theorem e_fMax (k l : Int) : fMax [.int k, .int l] = some (.sc (.int (if l > k then l else k))) := (rfl)
@[simp] theorem e_fMin (k l : Int) : fMin [.int k, .int l] = some (.sc (.int (if l < k then l else k))) := (rfl)
@[simp] theorem e_fAbs (k : Int) : fAbs [.int k] = some (.sc (.int (if k < 0 then -k else k))) := (rfl)
@[simp] theorem e_fLen (xs : List D) : fLen [.lst xs] = some (.sc (.int xs.length)) := (rfl)
@[simp] theorem e_fLenT (xs : List D) : fLen [.tup xs] = some (.sc (.int xs.length)) := (rfl)
@[simp] theorem e_fLst (xs : List D) : fList [.lst xs] = some (.nl xs) := (rfl)
@[simp] theorem e_fTup (xs : List D) : fTuple [.lst xs] = some (.nt xs) := (rfl)
@[simp] theorem e_ixL (xs : List D) (k : Int) : dIxX (.lst xs) (.int k) = (atI xs k).map .it := (rfl)
@[simp] theorem e_ixT (xs : List D) (k : Int) : dIxX (.tup xs) (.int k) = (atI xs k).map .it := (rfl)
@[simp] theorem e_ixD (kvs : List (Key × D)) (k : Int) : dIxX (.dic kvs) (.int k) = (valD kvs (.inl k)).map .it := (rfl)
@[simp] theorem e_scI : mScI i ρ = match ρ.getD i none with | some (.sc ns) => .ok (intD ns) ρ | _ => .stuck := (rfl)
@[simp] theorem e_scL : mScL i ρ = match ρ.getD i none with | some (.sc ns) => .ok (.sv (.d (.int ns.length))) ρ | _ => .stuck := (rfl)
@[simp] theorem e_mask0 (pin : List Nat) : mask 0 pin ρ = [] := (rfl)
@[simp] theorem e_mask1 (pin : List Nat) : mask 1 pin ρ = [if 0 ∈ pin then ρ.getD 0 none else none] := (rfl)
@[simp] theorem e_mask2 (pin : List Nat) : mask 2 pin ρ = [if 0 ∈ pin then ρ.getD 0 none else none, if 1 ∈ pin then ρ.getD 1 none else none] := (rfl)
@[simp] theorem e_mask3 (pin : List Nat) : mask 3 pin ρ = [if 0 ∈ pin then ρ.getD 0 none else none, if 1 ∈ pin then ρ.getD 1 none else none, if 2 ∈ pin then ρ.getD 2 none else none] := (rfl)
@[simp] theorem e_mask4 (pin : List Nat) : mask 4 pin ρ = [if 0 ∈ pin then ρ.getD 0 none else none, if 1 ∈ pin then ρ.getD 1 none else none, if 2 ∈ pin then ρ.getD 2 none else none, if 3 ∈ pin then ρ.getD 3 none else none] := (rfl)
@[simp] theorem e_mask5 (pin : List Nat) : mask 5 pin ρ = [if 0 ∈ pin then ρ.getD 0 none else none, if 1 ∈ pin then ρ.getD 1 none else none, if 2 ∈ pin then ρ.getD 2 none else none, if 3 ∈ pin then ρ.getD 3 none else none, if 4 ∈ pin then ρ.getD 4 none else none] := (rfl)
@[simp] theorem e_mask6 (pin : List Nat) : mask 6 pin ρ = [if 0 ∈ pin then ρ.getD 0 none else none, if 1 ∈ pin then ρ.getD 1 none else none, if 2 ∈ pin then ρ.getD 2 none else none, if 3 ∈ pin then ρ.getD 3 none else none, if 4 ∈ pin then ρ.getD 4 none else none, if 5 ∈ pin then ρ.getD 5 none else none] := (rfl)
@[simp] theorem e_mask7 (pin : List Nat) : mask 7 pin ρ = [if 0 ∈ pin then ρ.getD 0 none else none, if 1 ∈ pin then ρ.getD 1 none else none, if 2 ∈ pin then ρ.getD 2 none else none, if 3 ∈ pin then ρ.getD 3 none else none, if 4 ∈ pin then ρ.getD 4 none else none, if 5 ∈ pin then ρ.getD 5 none else none, if 6 ∈ pin then ρ.getD 6 none else none] := (rfl)
end
end VS

/-! VQ: more rows for simp. -/
namespace VS
open PySem PySem.Spec PyProof.Rows L2
section
variable {ρ : En} {i j : Nat} {a b c : M Ref} {ta tb : M Bool} {m : M (List Opd)} {x y : D}
@[simp] theorem e_rng1 (k : Int) : rng1 [.int k] = if -(2 ^ 62) ≤ k ∧ k < 2 ^ 62 then some (intsD 0 k.toNat) else none := ite_cl _
@[simp] theorem e_rng2 (k l : Int) : rng2 [.int k, .int l] = if -(2 ^ 62) ≤ k ∧ k < 2 ^ 62 ∧ -(2 ^ 62) ≤ l ∧ l < 2 ^ 62 then some (intsD k (l - k).toNat) else none := ite_cl _
theorem e_lcC (ρ0 : En) (vs : List Nat) (mg : Tg) (xs acc : List D) : lcR ρ0 vs mg ta a (x :: xs) acc ρ = match mg x (wipeE ρ vs) with
    | none => .stuck
    | some ρ1 => match ta ρ1 with
      | .ok false ρ2 => lcR ρ0 vs mg ta a xs acc (restE ρ0 ρ2 vs)
      | .ok true ρ2 => (match mFrz a ρ2 with
        | .ok y ρ3 => if acc.length < sizeLine then lcR ρ0 vs mg ta a xs (acc ++ [y]) (restE ρ0 ρ3 vs) else .stuck
        | _ => .stuck)
      | _ => .stuck := rfl
theorem e_sizeLine (n : Nat) (h : n < 4096) : n < sizeLine := by
  have : (4096 : Nat) ≤ sizeLine := by decide
  omega
@[simp] theorem e_gApp (xs : List D) : gAppend xs [y] = if xs.length < sizeLine then some (.non, xs ++ [y]) else none := (rfl)
@[simp] theorem e_gPopAt (xs : List D) (k : Int) : gPopAt xs [.int k] = if -(2 ^ 63) ≤ k ∧ k < 2 ^ 63 then (seqIndex? k xs.length).bind fun k => (xs[k]?).map fun y => (y, xs.eraseIdx k) else none := ite_cl _
@[simp] theorem e_dput : mDPut i a b ρ = (mFrz b ρ).bind fun x ρ => if (ρ.getD i none).isSome = true then (mFrz a ρ).bind (fun y => dputD i y x) else .stuck := (rfl)
@[simp] theorem e_dputI (kvs : List (Key × D)) (k : Int) (h : ρ.getD i none = some (.od kvs)) : dputD i (.int k) x ρ = if kvs.length < sizeLine then .ok .nx (ρ.set i (some (.od (putD kvs (.inl k) x)))) else .stuck := by
  unfold dputD
  rw [h] <;> rfl
end
theorem intsD_succ (lo : Int) (n : Nat) : intsD lo (n + 1) = .int lo :: intsD (lo + 1) n := by
  unfold intsD
  rw [List.range_succ_eq_map, List.map_cons, List.map_map]
  congr 1
  · simp
  · apply List.map_congr_left
    intro k _
    show D.int _ = D.int _
    congr 1
    push_cast
    omega
theorem intsD_zero (lo : Int) : intsD lo 0 = [] := rfl
end VS

/-! VL: what runs well, loops by invariants, comprehensions. -/
namespace VS
open PySem PySem.Spec PyProof.Rows L2
/-- the run ends well, and Q holds then -/
inductive Rs.Wp {α : Type} (r : Rs α) (Q : α → En → Prop) : Prop where
  | mk (a : α) (ρ : En) (h : r = .ok a ρ) (q : Q a ρ)
section
variable {α β γ : Type} {r : Rs α} {Q : α → En → Prop} {ρ : En}
@[simp] theorem wp_ok {a : α} : (Rs.ok a ρ).Wp Q ↔ Q a ρ := ⟨fun h => by
  obtain ⟨b, ρ', e, q⟩ := h
  cases e
  exact q, fun q => ⟨a, ρ, rfl, q⟩⟩
@[simp] theorem wp_err {c : Str} : (Rs.err c ρ : Rs α).Wp Q ↔ False := ⟨fun h => (by obtain ⟨_, _, e, _⟩ := h; cases e), fun h => h.elim⟩
@[simp] theorem wp_stuck : (Rs.stuck : Rs α).Wp Q ↔ False := ⟨fun h => (by obtain ⟨_, _, e, _⟩ := h; cases e), fun h => h.elim⟩
theorem wp_bind {f : α → M β} {Q : β → En → Prop} : (r.bind f).Wp Q ↔ r.Wp fun a ρ => (f a ρ).Wp Q := by
  cases r with
  | ok a ρ => rw [bind_ok, wp_ok]
  | err c ρ => rw [bind_err, wp_err, wp_err]
  | stuck => rw [bind_stuck, wp_stuck, wp_stuck]
theorem Rs.Wp.mono {R : α → En → Prop} (h : r.Wp Q) (k : ∀ a ρ, Q a ρ → R a ρ) : r.Wp R := by
  obtain ⟨a, ρ, e, q⟩ := h
  exact ⟨a, ρ, e, k a ρ q⟩
theorem Rs.Wp.bind {f : α → M β} {R : β → En → Prop} (h : r.Wp fun a ρ => (f a ρ).Wp R) : (r.bind f).Wp R := wp_bind.mpr h
theorem Rs.Wp.ex (h : r.Wp Q) : ∃ a ρ, r = .ok a ρ ∧ Q a ρ := by
  obtain ⟨a, ρ, e, q⟩ := h
  exact ⟨a, ρ, e, q⟩
theorem rba (r : Rs α) (f : α → M β) (g : β → M γ) : (r.bind f).bind g = r.bind fun a ρ => (f a ρ).bind g := by cases r <;> rfl
end
/-- a def runs well -/
def finQ (n : Nat) (pin : List Nat) (Q : SV → En → Prop) : Fl → En → Prop
  | .rt s, ρ => Q s (mask n pin ρ)
  | .nx, ρ => Q (.d .non) (mask n pin ρ)
  | _, _ => False
@[simp] theorem finQ_rt (n : Nat) (pin : List Nat) (Q : SV → En → Prop) (s : SV) (ρ : En) : finQ n pin Q (.rt s) ρ = Q s (mask n pin ρ) := (rfl)
@[simp] theorem finQ_nx (n : Nat) (pin : List Nat) (Q : SV → En → Prop) (ρ : En) : finQ n pin Q .nx ρ = Q (.d .non) (mask n pin ρ) := (rfl)
theorem den_wp {n l : Nat} {pin : List Nat} {m : M Fl} {args : List SV} {Q : SV → En → Prop} (h : (m (args.map some ++ List.replicate l none)).Wp (finQ n pin Q)) : ∃ s outs, denOf n l pin m args = .ok s outs ∧ Q s outs := by
  unfold denOf
  obtain ⟨f, ρ, q, h⟩ := h
  rw [q]
  cases f with
  | rt s => exact ⟨s, _, rfl, h⟩
  | nx => exact ⟨_, _, rfl, h⟩
  | bk => exact h.elim
  | ct => exact h.elim
/-! ### for -/
def forS (mg : Tg) (p : M Fl) (x : D) (ρ : En) : Rs Fl := match mg x ρ with
  | none => .stuck
  | some ρ' => p ρ'
def goQ (I : Nat → En → Prop) (i : Nat) (Q : Fl → En → Prop) : Fl → En → Prop
  | .nx, ρ => I (i + 1) ρ
  | .ct, ρ => I (i + 1) ρ
  | .bk, ρ => Q .nx ρ
  | .rt s, ρ => Q (.rt s) ρ
section
variable {I : Nat → En → Prop} {i : Nat} {Q : Fl → En → Prop} {ρ : En} {s : SV}
@[simp] theorem goQ_nx : goQ I i Q .nx ρ = I (i + 1) ρ := (rfl)
@[simp] theorem goQ_ct : goQ I i Q .ct ρ = I (i + 1) ρ := (rfl)
@[simp] theorem goQ_bk : goQ I i Q .bk ρ = Q .nx ρ := (rfl)
@[simp] theorem goQ_rt : goQ I i Q (.rt s) ρ = Q (.rt s) ρ := (rfl)
theorem wp_for {mg : Tg} {p : M Fl} {xs : List D} (I : Nat → En → Prop) (h0 : I 0 ρ) (hs : ∀ i (h : i < xs.length) ρ, I i ρ → (forS mg p xs[i] ρ).Wp (goQ I i Q)) (hq : ∀ ρ, I xs.length ρ → Q .nx ρ) : (forR mg p xs ρ).Wp Q := by
  have : ∀ (xs : List D) (k : Nat) (ρ : En), I k ρ → (∀ i (h : i < xs.length) ρ, I (k + i) ρ → (forS mg p xs[i] ρ).Wp (goQ I (k + i) Q)) → (∀ ρ, I (k + xs.length) ρ → Q .nx ρ) → (forR mg p xs ρ).Wp Q := by
    intro xs
    induction xs with
    | nil => exact fun k ρ h _ q => wp_ok.mpr (q ρ h)
    | cons x xs ih =>
      intro k ρ h hs hq
      rw [e_forC]
      have a := hs 0 (by simp) ρ h
      unfold forS at a
      rw [List.getElem_cons_zero] at a
      cases q : mg x ρ with
      | none => rw [q] at a; exact (wp_stuck.mp a).elim
      | some ρ' =>
        rw [q] at a
        show ((p ρ').bind _).Wp Q
        refine Rs.Wp.bind (Rs.Wp.mono a fun f ρ2 g => ?_)
        have next : I (k + 1) ρ2 → (forR mg p xs ρ2).Wp Q := fun g => ih (k + 1) ρ2 g (fun i hi ρ' z => by
          have b := hs (i + 1) (by simpa using hi) ρ' (by rw [show k + (i + 1) = k + 1 + i by omega]; exact z)
          rw [show k + (i + 1) = k + 1 + i by omega] at b
          exact b) (fun ρ' z => hq ρ' (by rw [show k + (x :: xs).length = k + 1 + xs.length by simp; omega]; exact z))
        cases f with
        | nx => exact next g
        | ct => exact next g
        | bk => exact wp_ok.mpr g
        | rt s => exact wp_ok.mpr g
  refine this xs 0 ρ h0 (fun i h ρ z => ?_) (fun ρ z => hq ρ (by simpa using z))
  rw [Nat.zero_add] at z ⊢
  exact hs i h ρ z
theorem intsDlen (lo : Int) (n : Nat) : (intsD lo n).length = n := by simp [intsD]
theorem intsD_at {lo : Int} {n i : Nat} (h : i < (intsD lo n).length) : (intsD lo n)[i] = .int (lo + i) := by simp [intsD]
/-- .. over a range -/
theorem wp_forI {mg : Tg} {p : M Fl} {lo : Int} {n : Nat} (I : Nat → En → Prop) (h0 : I 0 ρ) (hs : ∀ i, i < n → ∀ ρ, I i ρ → (forS mg p (.int (lo + i)) ρ).Wp (goQ I i Q)) (hq : ∀ ρ, I n ρ → Q .nx ρ) : (forR mg p (intsD lo n) ρ).Wp Q :=
  wp_for I h0 (fun i h ρ z => by rw [intsD_at]; exact hs i (by rw [intsDlen] at h; exact h) ρ z) (by rw [intsDlen]; exact hq)
/-- .. over what a list is made of -/
theorem wp_forM {α : Type} {mg : Tg} {p : M Fl} {ys : List α} {f : α → D} (I : Nat → En → Prop) (h0 : I 0 ρ) (hs : ∀ i (h : i < ys.length) ρ, I i ρ → (forS mg p (f ys[i]) ρ).Wp (goQ I i Q)) (hq : ∀ ρ, I ys.length ρ → Q .nx ρ) : (forR mg p (ys.map f) ρ).Wp Q :=
  wp_for I h0 (fun i h ρ z => by rw [List.getElem_map]; exact hs i (by simpa using h) ρ z) (by rw [List.length_map]; exact hq)
end
/-! ### comprehensions -/
def lcOne (ρ0 : En) (vs : List Nat) (mg : Tg) (mt : M Bool) (me : M Ref) (x : D) (ρ : En) : Rs (Option D) := match mg x (wipeE ρ vs) with
  | none => .stuck
  | some ρ1 => (mt ρ1).bind fun b => if b = true then M.bind (mFrz me) (fun y ρ3 => .ok (some y) (restE ρ0 ρ3 vs)) else fun ρ2 => .ok none (restE ρ0 ρ2 vs)
section
variable {ρ ρ0 : En} {vs : List Nat} {mg : Tg} {mt : M Bool} {me : M Ref} {Q : List D → En → Prop} {xs acc : List D}
theorem lcR_one {x : D} (h : acc.length < sizeLine) {R : List D → En → Prop} (k : (lcOne ρ0 vs mg mt me x ρ).Wp fun o ρ' => (lcR ρ0 vs mg mt me xs (acc ++ o.toList) ρ').Wp R) : (lcR ρ0 vs mg mt me (x :: xs) acc ρ).Wp R := by
  rw [e_lcC]
  unfold lcOne at k
  cases q : mg x (wipeE ρ vs) with
  | none => rw [q] at k; exact (wp_stuck.mp k).elim
  | some ρ1 =>
    rw [q] at k
    cases q2 : mt ρ1 with
    | stuck => simp [q2] at k
    | err c ρ' => simp [q2] at k
    | ok b ρ2 =>
      simp only [q2] at k ⊢
      cases b with
      | false => simpa using k
      | true =>
        have k : ((mFrz me ρ2).bind fun y ρ3 => .ok (some y) (restE ρ0 ρ3 vs)).Wp fun o ρ' => (lcR ρ0 vs mg mt me xs (acc ++ o.toList) ρ').Wp R := k
        cases q3 : mFrz me ρ2 with
        | stuck => rw [q3] at k; exact (wp_stuck.mp k).elim
        | err c ρ' => rw [q3] at k; exact (wp_err.mp k).elim
        | ok y ρ3 =>
          rw [q3] at k
          simp only [q3]
          rw [if_pos h]
          exact wp_ok.mp k
/-- by an invariant: how many are taken, what is there -/
theorem wp_lcI (I : Nat → List D → En → Prop) (hl : acc.length + xs.length < 4096) (h0 : I 0 acc ρ) (hs : ∀ i (h : i < xs.length) a ρ', I i a ρ' → (lcOne ρ0 vs mg mt me xs[i] ρ').Wp fun o ρ2 => I (i + 1) (a ++ o.toList) ρ2) (hq : ∀ a ρ', I xs.length a ρ' → Q a ρ') : (lcR ρ0 vs mg mt me xs acc ρ).Wp Q := by
  have : ∀ (xs acc : List D) (k : Nat) (ρ : En), acc.length + xs.length < 4096 → I k acc ρ → (∀ i (h : i < xs.length) a ρ', I (k + i) a ρ' → (lcOne ρ0 vs mg mt me xs[i] ρ').Wp fun o ρ2 => I (k + i + 1) (a ++ o.toList) ρ2) → (∀ a ρ', I (k + xs.length) a ρ' → Q a ρ') → (lcR ρ0 vs mg mt me xs acc ρ).Wp Q := by
    intro xs
    induction xs with
    | nil => exact fun acc k ρ _ h _ q => wp_ok.mpr (q acc ρ h)
    | cons x xs ih =>
      intro acc k ρ hl h hs hq
      have hl' : acc.length + 1 + xs.length < 4096 := by simp at hl; omega
      refine lcR_one (e_sizeLine _ (by omega)) (Rs.Wp.mono (hs 0 (by simp) acc ρ h) fun o ρ2 g => ?_)
      refine ih _ (k + 1) ρ2 ?_ g (fun i hi a ρ' z => ?_) (fun a ρ' z => hq a ρ' ?_)
      · cases o <;> simp <;> omega
      · have b := hs (i + 1) (by simpa using hi) a ρ' (by rw [show k + (i + 1) = k + 1 + i by omega]; exact z)
        rw [show k + (i + 1) = k + 1 + i by omega] at b
        exact b
      · rw [show k + (x :: xs).length = k + 1 + xs.length by simp; omega]
        exact z
  refine this xs acc 0 ρ hl h0 (fun i h a ρ z => ?_) (fun a ρ z => hq a ρ (by simpa using z))
  rw [Nat.zero_add] at z ⊢
  exact hs i h a ρ z
/-- the environment stays -/
theorem wp_lcA (g : D → Option D) : ∀ (xs acc : List D), acc.length + xs.length < 4096 → (∀ x ∈ xs, (lcOne ρ vs mg mt me x ρ).Wp fun o ρ' => ρ' = ρ ∧ o = g x) → Q (acc ++ xs.filterMap g) ρ → (lcR ρ vs mg mt me xs acc ρ).Wp Q
  | [], acc, _, _, hq => by simpa using hq
  | x :: xs, acc, hl, hx, hq => by
    have hl' : acc.length + 1 + xs.length < 4096 := by simp at hl; omega
    refine lcR_one (e_sizeLine _ (by omega)) (Rs.Wp.mono (hx x List.mem_cons_self) fun o ρ2 h => ?_)
    rw [h.1, h.2]
    refine wp_lcA g xs _ ?_ (fun y hy => hx y (List.mem_cons_of_mem _ hy)) ?_
    · cases g x <;> simp <;> omega
    · cases q : g x with
      | none => rw [List.filterMap_cons_none q] at hq; simpa using hq
      | some y => rw [List.filterMap_cons_some q] at hq; simpa using hq
theorem wp_lc (g : D → Option D) (hl : xs.length < 4096) (hx : ∀ x ∈ xs, (lcOne ρ vs mg mt me x ρ).Wp fun o ρ' => ρ' = ρ ∧ o = g x) (hq : Q (xs.filterMap g) ρ) : (lcR ρ vs mg mt me xs [] ρ).Wp Q := wp_lcA g xs [] (by simpa using hl) hx hq
end
section
variable {ρ : En} {vs : List Nat} {mg : Tg} {mt : M Bool} {me : M Ref} {xs : List D}
theorem lc_eq (g : D → Option D) (hl : xs.length < 4096) (hx : ∀ x ∈ xs, lcOne ρ vs mg mt me x ρ = .ok (g x) ρ) : lcR ρ vs mg mt me xs [] ρ = .ok (xs.filterMap g) ρ := by
  obtain ⟨a, ρ', e, h1, h2⟩ := (wp_lc (Q := fun a ρ' => a = xs.filterMap g ∧ ρ' = ρ) g hl (fun x h => by rw [hx x h]; exact wp_ok.mpr ⟨rfl, rfl⟩) ⟨rfl, rfl⟩).ex
  rw [e, h1, h2]
end
/-! ### two for -/
def lc2One (ρ0 : En) (vs : List Nat) (mg : Tg) (mt : M Bool) (mi1 : M (List D)) (vs1 : List Nat) (mg1 : Tg) (mt1 : M Bool) (me : M Ref) (x : D) (acc : List D) (ρ : En) : Rs (List D) := match mg x (wipeE ρ vs) with
  | none => .stuck
  | some ρ1 => (mt ρ1).bind fun b => if b = true then M.bind mi1 (fun ys ρ3 => if (vs1.all fun v => isData (ρ3.getD v none)) = true then (lcR ρ3 vs1 mg1 mt1 me ys acc ρ3).bind (fun a ρ4 => .ok a (restE ρ0 ρ4 vs)) else .stuck) else fun ρ2 => .ok acc (restE ρ0 ρ2 vs)
section
variable {ρ ρ0 : En} {vs vs1 : List Nat} {mg mg1 : Tg} {mt mt1 : M Bool} {mi1 : M (List D)} {me : M Ref} {Q : List D → En → Prop} {xs acc : List D}
theorem lcR2_one {x : D} {R : List D → En → Prop} (k : (lc2One ρ0 vs mg mt mi1 vs1 mg1 mt1 me x acc ρ).Wp fun a ρ' => (lcR2 ρ0 vs mg mt mi1 vs1 mg1 mt1 me xs a ρ').Wp R) : (lcR2 ρ0 vs mg mt mi1 vs1 mg1 mt1 me (x :: xs) acc ρ).Wp R := by
  unfold lcR2
  unfold lc2One at k
  cases q : mg x (wipeE ρ vs) with
  | none => rw [q] at k; exact (wp_stuck.mp k).elim
  | some ρ1 =>
    rw [q] at k
    cases q2 : mt ρ1 with
    | stuck => simp [q2] at k
    | err c ρ' => simp [q2] at k
    | ok b ρ2 =>
      simp only [q2] at k ⊢
      cases b with
      | false => simpa using k
      | true =>
        have k : ((mi1 ρ2).bind fun ys ρ3 => if (vs1.all fun v => isData (ρ3.getD v none)) = true then (lcR ρ3 vs1 mg1 mt1 me ys acc ρ3).bind (fun a ρ4 => .ok a (restE ρ0 ρ4 vs)) else .stuck).Wp fun a ρ' => (lcR2 ρ0 vs mg mt mi1 vs1 mg1 mt1 me xs a ρ').Wp R := k
        cases q3 : mi1 ρ2 with
        | stuck => rw [q3] at k; exact (wp_stuck.mp k).elim
        | err c ρ' => rw [q3] at k; exact (wp_err.mp k).elim
        | ok ys ρ3 =>
          rw [q3, bind_ok] at k
          simp only [q3]
          by_cases hd : (vs1.all fun v => isData (ρ3.getD v none)) = true
          · rw [if_pos hd] at k ⊢
            cases q4 : lcR ρ3 vs1 mg1 mt1 me ys acc ρ3 with
            | stuck => rw [q4] at k; exact (wp_stuck.mp k).elim
            | err c ρ' => rw [q4] at k; exact (wp_err.mp k).elim
            | ok a ρ4 =>
              rw [q4] at k
              simp only []
              exact wp_ok.mp k
          · rw [if_neg hd] at k
            exact (wp_stuck.mp k).elim
theorem wp_lc2A (g : D → List D) : ∀ (xs acc : List D), (∀ x ∈ xs, ∀ a, a.length + (g x).length ≤ acc.length + (xs.flatMap g).length → (lc2One ρ vs mg mt mi1 vs1 mg1 mt1 me x a ρ).Wp fun a' ρ' => ρ' = ρ ∧ a' = a ++ g x) → Q (acc ++ xs.flatMap g) ρ → (lcR2 ρ vs mg mt mi1 vs1 mg1 mt1 me xs acc ρ).Wp Q
  | [], acc, _, hq => by simpa [lcR2] using hq
  | x :: xs, acc, hx, hq => by
    refine lcR2_one (Rs.Wp.mono (hx x List.mem_cons_self acc (by simp)) fun a ρ2 h => ?_)
    rw [h.1, h.2]
    refine wp_lc2A g xs _ (fun y hy b hb => hx y (List.mem_cons_of_mem _ hy) b ?_) ?_
    · simp at hb ⊢
      omega
    · simpa using hq
theorem wp_lc2 (g : D → List D) (hx : ∀ x ∈ xs, ∀ a, a.length + (g x).length ≤ (xs.flatMap g).length → (lc2One ρ vs mg mt mi1 vs1 mg1 mt1 me x a ρ).Wp fun a' ρ' => ρ' = ρ ∧ a' = a ++ g x) (hq : Q (xs.flatMap g) ρ) : (lcR2 ρ vs mg mt mi1 vs1 mg1 mt1 me xs [] ρ).Wp Q := wp_lc2A g xs [] (fun x h a z => hx x h a (by simpa using z)) hq
end
/-! ### odds and ends -/
section
variable {ρ : En} {a : M Ref} {mi mi1 : M (List D)} {vs vs1 : List Nat} {mg mg1 : Tg} {mt mt1 : M Bool} {me : M Ref}
@[simp] theorem e_lc2 : mLc2 mi vs mg mt mi1 vs1 mg1 mt1 me ρ = (mi ρ).bind fun xs ρ => if (vs.all fun v => isData (ρ.getD v none)) = true then M.bind (lcR2 ρ vs mg mt mi1 vs1 mg1 mt1 me xs []) (fun ys => M.ret (.sv (.ol ys))) ρ else .stuck := (rfl)
end
def gI : D → Int
  | .int i => i
  | _ => 0
@[simp] theorem gI_int (i : Int) : gI (.int i) = i := (rfl)
theorem mem_intsD {lo : Int} {n : Nat} {x : D} (h : x ∈ intsD lo n) : ∃ i : Nat, i < n ∧ x = .int (lo + i) := by
  unfold intsD at h
  obtain ⟨i, hi, e⟩ := List.mem_map.mp h
  exact ⟨i, List.mem_range.mp hi, e.symm⟩
theorem len_flat {α β : Type} {b : Nat} (g : α → List β) : ∀ (xs : List α), (∀ x ∈ xs, (g x).length ≤ b) → (xs.flatMap g).length ≤ xs.length * b
  | [], _ => by simp
  | x :: xs, h => by
    have a := h x List.mem_cons_self
    have c := len_flat g xs fun y hy => h y (List.mem_cons_of_mem _ hy)
    simp only [List.flatMap_cons, List.length_append, List.length_cons, Nat.add_mul, Nat.one_mul]
    omega
end VS


namespace HD
open PySem PySem.Spec PyProof.Rows L2
/-! the text by places -/
def top (i : Nat) : Stmt := PySem.Challenge.pw_gapstairs_k21_near_blocks.main.body.getD i (.Pass ⟨0, 0, 0, 0⟩)
abbrev s_is_size : Stmt := top 8
abbrev s_is_body : Stmt := top 9
abbrev s_is_whole : Stmt := top 12
abbrev s_are_numbers : Stmt := top 13
abbrev s_is_block : Stmt := top 14
abbrev s_are_blocks : Stmt := top 15
abbrev s_is_number : Stmt := top 18
abbrev s_need_drawing : Stmt := top 19
abbrev s_need_body : Stmt := top 20
abbrev s_need_index : Stmt := top 21
abbrev s_need_two : Stmt := top 22
abbrev s_need_pair : Stmt := top 24
abbrev s_gap_of : Stmt := top 25
abbrev s_near_of : Stmt := top 26
abbrev s_pairs_of : Stmt := top 27
abbrev s_from_of : Stmt := top 28
abbrev s_gap : Stmt := top 29
abbrev s_near : Stmt := top 30
abbrev s_near_pairs : Stmt := top 31
abbrev s_near_from : Stmt := top 32
abbrev s__law_begun : Stmt := top 34
abbrev s__law_mixed : Stmt := top 35
abbrev s__law_take : Stmt := top 36
abbrev s__law_pick : Stmt := top 37
abbrev s__law_caught : Stmt := top 38
abbrev s__law_is_number : Stmt := top 39
abbrev s__law_says : Stmt := top 40
abbrev s__law_numbers : Stmt := top 41
abbrev s__law_shuffled : Stmt := top 42
abbrev s__law_block : Stmt := top 43
abbrev s__law_pen : Stmt := top 44
abbrev s__law_stretched : Stmt := top 45
abbrev s__law_table : Stmt := top 46
abbrev s__law_blocks : Stmt := top 47
abbrev s__law_body : Stmt := top 48
abbrev s__law_grid : Stmt := top 49
abbrev s__law_due_gap : Stmt := top 50
abbrev s__law_near : Stmt := top 51
abbrev s__law_near_pairs : Stmt := top 52
abbrev s__law_least_near : Stmt := top 53
abbrev s__law_refusals : Stmt := top 54
abbrev s_law : Stmt := top 55
abbrev s_Drawing___init__ : Stmt := inClass (top 16) 0
abbrev s_Drawing___eq__ : Stmt := inClass (top 16) 1
abbrev s_Drawing___len__ : Stmt := inClass (top 16) 2
abbrev s_Drawing___contains__ : Stmt := inClass (top 16) 3
def d_is_size : He.DefD := ⟨("is_size", none), "is_size", "is_size", defArgs s_is_size, defBody s_is_size, defScope s_is_size, [], []⟩
def d_is_body : He.DefD := ⟨("is_body", none), "is_body", "is_body", defArgs s_is_body, defBody s_is_body, defScope s_is_body, [], []⟩
def d_is_whole : He.DefD := ⟨("is_whole", none), "is_whole", "is_whole", defArgs s_is_whole, defBody s_is_whole, defScope s_is_whole, [], []⟩
def d_are_numbers : He.DefD := ⟨("are_numbers", none), "are_numbers", "are_numbers", defArgs s_are_numbers, defBody s_are_numbers, defScope s_are_numbers, [], []⟩
def d_is_block : He.DefD := ⟨("is_block", none), "is_block", "is_block", defArgs s_is_block, defBody s_is_block, defScope s_is_block, [], []⟩
def d_are_blocks : He.DefD := ⟨("are_blocks", none), "are_blocks", "are_blocks", defArgs s_are_blocks, defBody s_are_blocks, defScope s_are_blocks, [], []⟩
def d_is_number : He.DefD := ⟨("is_number", none), "is_number", "is_number", defArgs s_is_number, defBody s_is_number, defScope s_is_number, [], []⟩
def d_need_drawing : He.DefD := ⟨("need_drawing", none), "need_drawing", "need_drawing", defArgs s_need_drawing, defBody s_need_drawing, defScope s_need_drawing, [], []⟩
def d_need_body : He.DefD := ⟨("need_body", none), "need_body", "need_body", defArgs s_need_body, defBody s_need_body, defScope s_need_body, [], []⟩
def d_need_index : He.DefD := ⟨("need_index", none), "need_index", "need_index", defArgs s_need_index, defBody s_need_index, defScope s_need_index, [], []⟩
def d_need_two : He.DefD := ⟨("need_two", none), "need_two", "need_two", defArgs s_need_two, defBody s_need_two, defScope s_need_two, [], []⟩
def d_need_pair : He.DefD := ⟨("need_pair", none), "need_pair", "need_pair", defArgs s_need_pair, defBody s_need_pair, defScope s_need_pair, [], []⟩
def d_gap_of : He.DefD := ⟨("gap_of", none), "gap_of", "gap_of", defArgs s_gap_of, defBody s_gap_of, defScope s_gap_of, [], []⟩
def d_near_of : He.DefD := ⟨("near_of", none), "near_of", "near_of", defArgs s_near_of, defBody s_near_of, defScope s_near_of, [], []⟩
def d_pairs_of : He.DefD := ⟨("pairs_of", none), "pairs_of", "pairs_of", defArgs s_pairs_of, defBody s_pairs_of, defScope s_pairs_of, [], []⟩
def d_from_of : He.DefD := ⟨("from_of", none), "from_of", "from_of", defArgs s_from_of, defBody s_from_of, defScope s_from_of, [], []⟩
def d_gap : He.DefD := ⟨("gap", none), "gap", "gap", defArgs s_gap, defBody s_gap, defScope s_gap, [], []⟩
def d_near : He.DefD := ⟨("near", none), "near", "near", defArgs s_near, defBody s_near, defScope s_near, [], []⟩
def d_near_pairs : He.DefD := ⟨("near_pairs", none), "near_pairs", "near_pairs", defArgs s_near_pairs, defBody s_near_pairs, defScope s_near_pairs, [], []⟩
def d_near_from : He.DefD := ⟨("near_from", none), "near_from", "near_from", defArgs s_near_from, defBody s_near_from, defScope s_near_from, [], []⟩
def d__law_begun : He.DefD := ⟨("_law_begun", none), "_law_begun", "_law_begun", defArgs s__law_begun, defBody s__law_begun, defScope s__law_begun, [], []⟩
def d__law_mixed : He.DefD := ⟨("_law_mixed", none), "_law_mixed", "_law_mixed", defArgs s__law_mixed, defBody s__law_mixed, defScope s__law_mixed, [], []⟩
def d__law_take : He.DefD := ⟨("_law_take", none), "_law_take", "_law_take", defArgs s__law_take, defBody s__law_take, defScope s__law_take, [], []⟩
def d__law_pick : He.DefD := ⟨("_law_pick", none), "_law_pick", "_law_pick", defArgs s__law_pick, defBody s__law_pick, defScope s__law_pick, [], []⟩
def d__law_caught : He.DefD := ⟨("_law_caught", none), "_law_caught", "_law_caught", defArgs s__law_caught, defBody s__law_caught, defScope s__law_caught, [], []⟩
def d__law_is_number : He.DefD := ⟨("_law_is_number", none), "_law_is_number", "_law_is_number", defArgs s__law_is_number, defBody s__law_is_number, defScope s__law_is_number, [], []⟩
def d__law_says : He.DefD := ⟨("_law_says", none), "_law_says", "_law_says", defArgs s__law_says, defBody s__law_says, defScope s__law_says, [], []⟩
def d__law_numbers : He.DefD := ⟨("_law_numbers", none), "_law_numbers", "_law_numbers", defArgs s__law_numbers, defBody s__law_numbers, defScope s__law_numbers, [], []⟩
def d__law_shuffled : He.DefD := ⟨("_law_shuffled", none), "_law_shuffled", "_law_shuffled", defArgs s__law_shuffled, defBody s__law_shuffled, defScope s__law_shuffled, [], []⟩
def d__law_block : He.DefD := ⟨("_law_block", none), "_law_block", "_law_block", defArgs s__law_block, defBody s__law_block, defScope s__law_block, [], []⟩
def d__law_pen : He.DefD := ⟨("_law_pen", none), "_law_pen", "_law_pen", defArgs s__law_pen, defBody s__law_pen, defScope s__law_pen, [], []⟩
def d__law_stretched : He.DefD := ⟨("_law_stretched", none), "_law_stretched", "_law_stretched", defArgs s__law_stretched, defBody s__law_stretched, defScope s__law_stretched, [], []⟩
def d__law_table : He.DefD := ⟨("_law_table", none), "_law_table", "_law_table", defArgs s__law_table, defBody s__law_table, defScope s__law_table, [], []⟩
def d__law_blocks : He.DefD := ⟨("_law_blocks", none), "_law_blocks", "_law_blocks", defArgs s__law_blocks, defBody s__law_blocks, defScope s__law_blocks, [], []⟩
def d__law_body : He.DefD := ⟨("_law_body", none), "_law_body", "_law_body", defArgs s__law_body, defBody s__law_body, defScope s__law_body, [], []⟩
def d__law_grid : He.DefD := ⟨("_law_grid", none), "_law_grid", "_law_grid", defArgs s__law_grid, defBody s__law_grid, defScope s__law_grid, [], []⟩
def d__law_due_gap : He.DefD := ⟨("_law_due_gap", none), "_law_due_gap", "_law_due_gap", defArgs s__law_due_gap, defBody s__law_due_gap, defScope s__law_due_gap, [], []⟩
def d__law_near : He.DefD := ⟨("_law_near", none), "_law_near", "_law_near", defArgs s__law_near, defBody s__law_near, defScope s__law_near, [], []⟩
def d__law_near_pairs : He.DefD := ⟨("_law_near_pairs", none), "_law_near_pairs", "_law_near_pairs", defArgs s__law_near_pairs, defBody s__law_near_pairs, defScope s__law_near_pairs, [], []⟩
def d__law_least_near : He.DefD := ⟨("_law_least_near", none), "_law_least_near", "_law_least_near", defArgs s__law_least_near, defBody s__law_least_near, defScope s__law_least_near, [], []⟩
def d__law_refusals : He.DefD := ⟨("_law_refusals", none), "_law_refusals", "_law_refusals", defArgs s__law_refusals, defBody s__law_refusals, defScope s__law_refusals, [], []⟩
def d_law : He.DefD := ⟨("law", none), "law", "law", defArgs s_law, defBody s_law, defScope s_law, [], []⟩
def d_Drawing___init__ : He.DefD := ⟨("Drawing", some "__init__"), "__init__", "Drawing.__init__", defArgs s_Drawing___init__, defBody s_Drawing___init__, defScope s_Drawing___init__, [], []⟩
def d_Drawing___eq__ : He.DefD := ⟨("Drawing", some "__eq__"), "__eq__", "Drawing.__eq__", defArgs s_Drawing___eq__, defBody s_Drawing___eq__, defScope s_Drawing___eq__, [], []⟩
def d_Drawing___len__ : He.DefD := ⟨("Drawing", some "__len__"), "__len__", "Drawing.__len__", defArgs s_Drawing___len__, defBody s_Drawing___len__, defScope s_Drawing___len__, [], []⟩
def d_Drawing___contains__ : He.DefD := ⟨("Drawing", some "__contains__"), "__contains__", "Drawing.__contains__", defArgs s_Drawing___contains__, defBody s_Drawing___contains__, defScope s_Drawing___contains__, [], []⟩
def fn : List He.DefD := (([d_is_size, d_is_body, d_is_whole, d_are_numbers, d_is_block, d_are_blocks, d_is_number, d_need_drawing, d_need_body, d_need_index, d_need_two, d_need_pair, d_gap_of, d_near_of, d_pairs_of, d_from_of, d_gap, d_near, d_near_pairs, d_near_from, d__law_begun, d__law_mixed, d__law_take, d__law_pick, d__law_caught, d__law_is_number, d__law_says, d__law_numbers, d__law_shuffled, d__law_block] : List He.DefD)) ++ (([d__law_pen, d__law_stretched, d__law_table, d__law_blocks, d__law_body, d__law_grid, d__law_due_gap, d__law_near, d__law_near_pairs, d__law_least_near, d__law_refusals, d_law, d_Drawing___init__, d_Drawing___eq__, d_Drawing___len__, d_Drawing___contains__] : List He.DefD))
def fa : List He.Fa := (([.glo "is_size", .glo "is_body", .glo "is_whole", .glo "are_numbers", .glo "is_block", .glo "are_blocks", .glo "is_number", .glo "need_drawing", .glo "need_body", .glo "need_index", .glo "need_two", .glo "need_pair", .glo "gap_of", .glo "near_of", .glo "pairs_of", .glo "from_of", .glo "gap", .glo "near", .glo "near_pairs", .glo "near_from", .glo "_law_begun", .glo "_law_mixed", .glo "_law_take", .glo "_law_pick", .glo "_law_caught", .glo "_law_is_number", .glo "_law_says", .glo "_law_numbers", .glo "_law_shuffled", .glo "_law_block"] : List He.Fa)) ++ (([.glo "_law_pen", .glo "_law_stretched", .glo "_law_table", .glo "_law_blocks", .glo "_law_body", .glo "_law_grid", .glo "_law_due_gap", .glo "_law_near", .glo "_law_near_pairs", .glo "_law_least_near", .glo "_law_refusals", .glo "law", .free "ValueError", .free "abs", .free "all", .free "bool", .free "enumerate", .free "int", .free "isinstance", .free "len", .free "list", .free "max", .free "min", .free "range", .free "set", .free "sorted", .free "tuple", .glo "GapError", .exc "GapError", .glo "BadBlocks"] : List He.Fa)) ++ (([.exc "BadBlocks", .glo "BadBody", .exc "BadBody", .glo "BadDrawing", .exc "BadDrawing", .glo "BadIndex", .exc "BadIndex", .glo "BadPair", .exc "BadPair", .glo "Drawing", .cls "Drawing", .mkr "Drawing", .meth "Drawing" "__eq__", .meth "Drawing" "__len__", .meth "Drawing" "__contains__", .int "MOST_BLOCKS" 12, .noat "Drawing" "blocks", .exm "GapError" "GapError" true, .exm "BadBlocks" "GapError" true, .exm "BadBody" "GapError" true, .exm "BadDrawing" "GapError" true, .exm "BadIndex" "GapError" true, .exm "BadPair" "GapError" true] : List He.Fa))
def tf : List He.Defn := [("_law_refusals", none)]
def ocs : List PySem.Str := ["Drawing"]
def oes : List PySem.Str := ["GapError", "BadBlocks", "BadBody", "BadDrawing", "BadIndex", "BadPair"]
def ces : List PySem.Str := ["GapError", "BadBlocks", "BadBody", "BadDrawing", "BadIndex", "BadPair"]
def ancL : List (PySem.Str × List PySem.Str) := [("BadBlocks", ["GapError"]), ("BadBody", ["GapError"]), ("BadDrawing", ["GapError"]), ("BadIndex", ["GapError"]), ("BadPair", ["GapError"])]
def anc (c x : PySem.Str) : Bool := decide (c = x) || ((ancL.lookup c).getD []).contains x
def cf : List (PySem.Str × List PySem.Str) := [("Drawing", ["blocks"])]
def ex (K : PySem.W.Frag) : Bool := VS.koB K ocs oes anc
abbrev R : PySem.W.OpenRow := PySem.W.OpenLaw.row PySem.Challenge.rw_gapstairs_k21_near_blocks
abbrev hk : PySem.W.Hook := He.hookX 5 fa fn [] tf ex
def ob (s : PySem.W.SharedT) : He.AlX := He.obsX 5 fa fn [] tf ex (HandSHeadRun.getT s)
theorem ob_eq (s : PySem.W.SharedT) : ob s = hk.obs s.abs := He.obsX_eq (HandSHeadRun.getT_eq s)
def loose : List PySem.Str := ((["GapError", "BadBlocks", "BadBody", "BadDrawing", "BadIndex", "BadPair", "is_size", "is_body", "MOST_BLOCKS", "is_whole", "are_numbers", "is_block", "are_blocks", "Drawing", "is_number", "need_drawing", "need_body", "need_index", "need_two", "need_pair", "gap_of", "near_of", "pairs_of", "from_of", "gap", "near", "near_pairs", "near_from", "_law_begun", "_law_mixed"] : List PySem.Str)) ++ ((["_law_take", "_law_pick", "_law_caught", "_law_is_number", "_law_says", "_law_numbers", "_law_shuffled", "_law_block", "_law_pen", "_law_stretched", "_law_table", "_law_blocks", "_law_body", "_law_grid", "_law_due_gap", "_law_near", "_law_near_pairs", "_law_least_near", "_law_refusals"] : List PySem.Str))
theorem run (w : World) : HandSHeadRun.RunEq R (PySem.W.view R.prog [55]) hk ob 6000 loose w := by
  intro os
  kernel_rfl

open VS LamX
/-- what the head tells of the written part -/
structure Z (C : VC) (base : Heap) : Prop where
  d : He.SaysD fa fn C.K
  g : ∃ h, C.K.In h ∧ h.Ns mainGlobals C.mg
  x : ex C.K = true
  tb : ∀ p ∈ tf, TabB base C.mg (He.cT C.K p).1 (He.cT C.K p).2
  T : C.T = tf.map fun p => ((He.cT C.K p).2, p.1 ++ ".<locals>." ++ "<lambda>")
section
variable {C : VC} {base : Heap}
theorem Z.glo_is_size (Z : Z C base) : C.mg "is_size" = some (.ref (He.ga C.K "is_size")) := by
  obtain ⟨h, X, G⟩ := Z.g
  exact He.glo_ok X G (Z.d.fact 0 (f := .glo "is_size") rfl)
theorem Z.glo_is_body (Z : Z C base) : C.mg "is_body" = some (.ref (He.ga C.K "is_body")) := by
  obtain ⟨h, X, G⟩ := Z.g
  exact He.glo_ok X G (Z.d.fact 1 (f := .glo "is_body") rfl)
theorem Z.glo_is_whole (Z : Z C base) : C.mg "is_whole" = some (.ref (He.ga C.K "is_whole")) := by
  obtain ⟨h, X, G⟩ := Z.g
  exact He.glo_ok X G (Z.d.fact 2 (f := .glo "is_whole") rfl)
theorem Z.glo_are_numbers (Z : Z C base) : C.mg "are_numbers" = some (.ref (He.ga C.K "are_numbers")) := by
  obtain ⟨h, X, G⟩ := Z.g
  exact He.glo_ok X G (Z.d.fact 3 (f := .glo "are_numbers") rfl)
theorem Z.glo_is_block (Z : Z C base) : C.mg "is_block" = some (.ref (He.ga C.K "is_block")) := by
  obtain ⟨h, X, G⟩ := Z.g
  exact He.glo_ok X G (Z.d.fact 4 (f := .glo "is_block") rfl)
theorem Z.glo_are_blocks (Z : Z C base) : C.mg "are_blocks" = some (.ref (He.ga C.K "are_blocks")) := by
  obtain ⟨h, X, G⟩ := Z.g
  exact He.glo_ok X G (Z.d.fact 5 (f := .glo "are_blocks") rfl)
theorem Z.glo_is_number (Z : Z C base) : C.mg "is_number" = some (.ref (He.ga C.K "is_number")) := by
  obtain ⟨h, X, G⟩ := Z.g
  exact He.glo_ok X G (Z.d.fact 6 (f := .glo "is_number") rfl)
theorem Z.glo_need_drawing (Z : Z C base) : C.mg "need_drawing" = some (.ref (He.ga C.K "need_drawing")) := by
  obtain ⟨h, X, G⟩ := Z.g
  exact He.glo_ok X G (Z.d.fact 7 (f := .glo "need_drawing") rfl)
theorem Z.glo_need_body (Z : Z C base) : C.mg "need_body" = some (.ref (He.ga C.K "need_body")) := by
  obtain ⟨h, X, G⟩ := Z.g
  exact He.glo_ok X G (Z.d.fact 8 (f := .glo "need_body") rfl)
theorem Z.glo_need_index (Z : Z C base) : C.mg "need_index" = some (.ref (He.ga C.K "need_index")) := by
  obtain ⟨h, X, G⟩ := Z.g
  exact He.glo_ok X G (Z.d.fact 9 (f := .glo "need_index") rfl)
theorem Z.glo_need_two (Z : Z C base) : C.mg "need_two" = some (.ref (He.ga C.K "need_two")) := by
  obtain ⟨h, X, G⟩ := Z.g
  exact He.glo_ok X G (Z.d.fact 10 (f := .glo "need_two") rfl)
theorem Z.glo_need_pair (Z : Z C base) : C.mg "need_pair" = some (.ref (He.ga C.K "need_pair")) := by
  obtain ⟨h, X, G⟩ := Z.g
  exact He.glo_ok X G (Z.d.fact 11 (f := .glo "need_pair") rfl)
theorem Z.glo_gap_of (Z : Z C base) : C.mg "gap_of" = some (.ref (He.ga C.K "gap_of")) := by
  obtain ⟨h, X, G⟩ := Z.g
  exact He.glo_ok X G (Z.d.fact 12 (f := .glo "gap_of") rfl)
theorem Z.glo_near_of (Z : Z C base) : C.mg "near_of" = some (.ref (He.ga C.K "near_of")) := by
  obtain ⟨h, X, G⟩ := Z.g
  exact He.glo_ok X G (Z.d.fact 13 (f := .glo "near_of") rfl)
theorem Z.glo_pairs_of (Z : Z C base) : C.mg "pairs_of" = some (.ref (He.ga C.K "pairs_of")) := by
  obtain ⟨h, X, G⟩ := Z.g
  exact He.glo_ok X G (Z.d.fact 14 (f := .glo "pairs_of") rfl)
theorem Z.glo_from_of (Z : Z C base) : C.mg "from_of" = some (.ref (He.ga C.K "from_of")) := by
  obtain ⟨h, X, G⟩ := Z.g
  exact He.glo_ok X G (Z.d.fact 15 (f := .glo "from_of") rfl)
theorem Z.glo_gap (Z : Z C base) : C.mg "gap" = some (.ref (He.ga C.K "gap")) := by
  obtain ⟨h, X, G⟩ := Z.g
  exact He.glo_ok X G (Z.d.fact 16 (f := .glo "gap") rfl)
theorem Z.glo_near (Z : Z C base) : C.mg "near" = some (.ref (He.ga C.K "near")) := by
  obtain ⟨h, X, G⟩ := Z.g
  exact He.glo_ok X G (Z.d.fact 17 (f := .glo "near") rfl)
theorem Z.glo_near_pairs (Z : Z C base) : C.mg "near_pairs" = some (.ref (He.ga C.K "near_pairs")) := by
  obtain ⟨h, X, G⟩ := Z.g
  exact He.glo_ok X G (Z.d.fact 18 (f := .glo "near_pairs") rfl)
theorem Z.glo_near_from (Z : Z C base) : C.mg "near_from" = some (.ref (He.ga C.K "near_from")) := by
  obtain ⟨h, X, G⟩ := Z.g
  exact He.glo_ok X G (Z.d.fact 19 (f := .glo "near_from") rfl)
theorem Z.glo__law_begun (Z : Z C base) : C.mg "_law_begun" = some (.ref (He.ga C.K "_law_begun")) := by
  obtain ⟨h, X, G⟩ := Z.g
  exact He.glo_ok X G (Z.d.fact 20 (f := .glo "_law_begun") rfl)
theorem Z.glo__law_mixed (Z : Z C base) : C.mg "_law_mixed" = some (.ref (He.ga C.K "_law_mixed")) := by
  obtain ⟨h, X, G⟩ := Z.g
  exact He.glo_ok X G (Z.d.fact 21 (f := .glo "_law_mixed") rfl)
theorem Z.glo__law_take (Z : Z C base) : C.mg "_law_take" = some (.ref (He.ga C.K "_law_take")) := by
  obtain ⟨h, X, G⟩ := Z.g
  exact He.glo_ok X G (Z.d.fact 22 (f := .glo "_law_take") rfl)
theorem Z.glo__law_pick (Z : Z C base) : C.mg "_law_pick" = some (.ref (He.ga C.K "_law_pick")) := by
  obtain ⟨h, X, G⟩ := Z.g
  exact He.glo_ok X G (Z.d.fact 23 (f := .glo "_law_pick") rfl)
theorem Z.glo__law_caught (Z : Z C base) : C.mg "_law_caught" = some (.ref (He.ga C.K "_law_caught")) := by
  obtain ⟨h, X, G⟩ := Z.g
  exact He.glo_ok X G (Z.d.fact 24 (f := .glo "_law_caught") rfl)
theorem Z.glo__law_is_number (Z : Z C base) : C.mg "_law_is_number" = some (.ref (He.ga C.K "_law_is_number")) := by
  obtain ⟨h, X, G⟩ := Z.g
  exact He.glo_ok X G (Z.d.fact 25 (f := .glo "_law_is_number") rfl)
theorem Z.glo__law_says (Z : Z C base) : C.mg "_law_says" = some (.ref (He.ga C.K "_law_says")) := by
  obtain ⟨h, X, G⟩ := Z.g
  exact He.glo_ok X G (Z.d.fact 26 (f := .glo "_law_says") rfl)
theorem Z.glo__law_numbers (Z : Z C base) : C.mg "_law_numbers" = some (.ref (He.ga C.K "_law_numbers")) := by
  obtain ⟨h, X, G⟩ := Z.g
  exact He.glo_ok X G (Z.d.fact 27 (f := .glo "_law_numbers") rfl)
theorem Z.glo__law_shuffled (Z : Z C base) : C.mg "_law_shuffled" = some (.ref (He.ga C.K "_law_shuffled")) := by
  obtain ⟨h, X, G⟩ := Z.g
  exact He.glo_ok X G (Z.d.fact 28 (f := .glo "_law_shuffled") rfl)
theorem Z.glo__law_block (Z : Z C base) : C.mg "_law_block" = some (.ref (He.ga C.K "_law_block")) := by
  obtain ⟨h, X, G⟩ := Z.g
  exact He.glo_ok X G (Z.d.fact 29 (f := .glo "_law_block") rfl)
theorem Z.glo__law_pen (Z : Z C base) : C.mg "_law_pen" = some (.ref (He.ga C.K "_law_pen")) := by
  obtain ⟨h, X, G⟩ := Z.g
  exact He.glo_ok X G (Z.d.fact 30 (f := .glo "_law_pen") rfl)
theorem Z.glo__law_stretched (Z : Z C base) : C.mg "_law_stretched" = some (.ref (He.ga C.K "_law_stretched")) := by
  obtain ⟨h, X, G⟩ := Z.g
  exact He.glo_ok X G (Z.d.fact 31 (f := .glo "_law_stretched") rfl)
theorem Z.glo__law_table (Z : Z C base) : C.mg "_law_table" = some (.ref (He.ga C.K "_law_table")) := by
  obtain ⟨h, X, G⟩ := Z.g
  exact He.glo_ok X G (Z.d.fact 32 (f := .glo "_law_table") rfl)
theorem Z.glo__law_blocks (Z : Z C base) : C.mg "_law_blocks" = some (.ref (He.ga C.K "_law_blocks")) := by
  obtain ⟨h, X, G⟩ := Z.g
  exact He.glo_ok X G (Z.d.fact 33 (f := .glo "_law_blocks") rfl)
theorem Z.glo__law_body (Z : Z C base) : C.mg "_law_body" = some (.ref (He.ga C.K "_law_body")) := by
  obtain ⟨h, X, G⟩ := Z.g
  exact He.glo_ok X G (Z.d.fact 34 (f := .glo "_law_body") rfl)
theorem Z.glo__law_grid (Z : Z C base) : C.mg "_law_grid" = some (.ref (He.ga C.K "_law_grid")) := by
  obtain ⟨h, X, G⟩ := Z.g
  exact He.glo_ok X G (Z.d.fact 35 (f := .glo "_law_grid") rfl)
theorem Z.glo__law_due_gap (Z : Z C base) : C.mg "_law_due_gap" = some (.ref (He.ga C.K "_law_due_gap")) := by
  obtain ⟨h, X, G⟩ := Z.g
  exact He.glo_ok X G (Z.d.fact 36 (f := .glo "_law_due_gap") rfl)
theorem Z.glo__law_near (Z : Z C base) : C.mg "_law_near" = some (.ref (He.ga C.K "_law_near")) := by
  obtain ⟨h, X, G⟩ := Z.g
  exact He.glo_ok X G (Z.d.fact 37 (f := .glo "_law_near") rfl)
theorem Z.glo__law_near_pairs (Z : Z C base) : C.mg "_law_near_pairs" = some (.ref (He.ga C.K "_law_near_pairs")) := by
  obtain ⟨h, X, G⟩ := Z.g
  exact He.glo_ok X G (Z.d.fact 38 (f := .glo "_law_near_pairs") rfl)
theorem Z.glo__law_least_near (Z : Z C base) : C.mg "_law_least_near" = some (.ref (He.ga C.K "_law_least_near")) := by
  obtain ⟨h, X, G⟩ := Z.g
  exact He.glo_ok X G (Z.d.fact 39 (f := .glo "_law_least_near") rfl)
theorem Z.glo__law_refusals (Z : Z C base) : C.mg "_law_refusals" = some (.ref (He.ga C.K "_law_refusals")) := by
  obtain ⟨h, X, G⟩ := Z.g
  exact He.glo_ok X G (Z.d.fact 40 (f := .glo "_law_refusals") rfl)
theorem Z.glo_law (Z : Z C base) : C.mg "law" = some (.ref (He.ga C.K "law")) := by
  obtain ⟨h, X, G⟩ := Z.g
  exact He.glo_ok X G (Z.d.fact 41 (f := .glo "law") rfl)
theorem Z.free_ValueError (Z : Z C base) : C.mg "ValueError" = none := by
  obtain ⟨h, X, G⟩ := Z.g
  exact He.free_ok X G (Z.d.fact 42 (f := .free "ValueError") rfl)
theorem Z.free_abs (Z : Z C base) : C.mg "abs" = none := by
  obtain ⟨h, X, G⟩ := Z.g
  exact He.free_ok X G (Z.d.fact 43 (f := .free "abs") rfl)
theorem Z.free_all (Z : Z C base) : C.mg "all" = none := by
  obtain ⟨h, X, G⟩ := Z.g
  exact He.free_ok X G (Z.d.fact 44 (f := .free "all") rfl)
theorem Z.free_bool (Z : Z C base) : C.mg "bool" = none := by
  obtain ⟨h, X, G⟩ := Z.g
  exact He.free_ok X G (Z.d.fact 45 (f := .free "bool") rfl)
theorem Z.free_enumerate (Z : Z C base) : C.mg "enumerate" = none := by
  obtain ⟨h, X, G⟩ := Z.g
  exact He.free_ok X G (Z.d.fact 46 (f := .free "enumerate") rfl)
theorem Z.free_int (Z : Z C base) : C.mg "int" = none := by
  obtain ⟨h, X, G⟩ := Z.g
  exact He.free_ok X G (Z.d.fact 47 (f := .free "int") rfl)
theorem Z.free_isinstance (Z : Z C base) : C.mg "isinstance" = none := by
  obtain ⟨h, X, G⟩ := Z.g
  exact He.free_ok X G (Z.d.fact 48 (f := .free "isinstance") rfl)
theorem Z.free_len (Z : Z C base) : C.mg "len" = none := by
  obtain ⟨h, X, G⟩ := Z.g
  exact He.free_ok X G (Z.d.fact 49 (f := .free "len") rfl)
theorem Z.free_list (Z : Z C base) : C.mg "list" = none := by
  obtain ⟨h, X, G⟩ := Z.g
  exact He.free_ok X G (Z.d.fact 50 (f := .free "list") rfl)
theorem Z.free_max (Z : Z C base) : C.mg "max" = none := by
  obtain ⟨h, X, G⟩ := Z.g
  exact He.free_ok X G (Z.d.fact 51 (f := .free "max") rfl)
theorem Z.free_min (Z : Z C base) : C.mg "min" = none := by
  obtain ⟨h, X, G⟩ := Z.g
  exact He.free_ok X G (Z.d.fact 52 (f := .free "min") rfl)
theorem Z.free_range (Z : Z C base) : C.mg "range" = none := by
  obtain ⟨h, X, G⟩ := Z.g
  exact He.free_ok X G (Z.d.fact 53 (f := .free "range") rfl)
theorem Z.free_set (Z : Z C base) : C.mg "set" = none := by
  obtain ⟨h, X, G⟩ := Z.g
  exact He.free_ok X G (Z.d.fact 54 (f := .free "set") rfl)
theorem Z.free_sorted (Z : Z C base) : C.mg "sorted" = none := by
  obtain ⟨h, X, G⟩ := Z.g
  exact He.free_ok X G (Z.d.fact 55 (f := .free "sorted") rfl)
theorem Z.free_tuple (Z : Z C base) : C.mg "tuple" = none := by
  obtain ⟨h, X, G⟩ := Z.g
  exact He.free_ok X G (Z.d.fact 56 (f := .free "tuple") rfl)
theorem Z.glo_GapError (Z : Z C base) : C.mg "GapError" = some (.ref (He.ga C.K "GapError")) := by
  obtain ⟨h, X, G⟩ := Z.g
  exact He.glo_ok X G (Z.d.fact 57 (f := .glo "GapError") rfl)
theorem Z.exc_GapError (Z : Z C base) : PySem.W.excIn C.K (He.ga C.K "GapError") He.veBase "ValueError.__new__" = true ∧ PySem.W.keepIn C.K (.ref (He.ga C.K "GapError")) = true ∧ PySem.W.subIn C.K (.ref (He.ga C.K "GapError")) (.type "BaseException") = some true ∧ PySem.W.typeIn C.K (.ref (He.ga C.K "GapError")) = some (.type "type") := He.exc_ok (Z.d.fact 58 (f := .exc "GapError") rfl)
theorem Z.eo_GapError (Z : Z C base) : EO C "GapError" (He.ga C.K "GapError") := ⟨Z.exc_GapError.1, Z.glo_GapError, Z.exc_GapError.2.1⟩
theorem Z.rs_GapError (Z : Z C base) {X : Cx} (hK : X.K = C.K := by rfl) : Raises X (.ref (He.ga C.K "GapError")) := raises_own (by rw [hK]; exact Z.exc_GapError.2.2.1) (by rw [hK]; exact Z.exc_GapError.2.2.2)
theorem Z.glo_BadBlocks (Z : Z C base) : C.mg "BadBlocks" = some (.ref (He.ga C.K "BadBlocks")) := by
  obtain ⟨h, X, G⟩ := Z.g
  exact He.glo_ok X G (Z.d.fact 59 (f := .glo "BadBlocks") rfl)
theorem Z.exc_BadBlocks (Z : Z C base) : PySem.W.excIn C.K (He.ga C.K "BadBlocks") He.veBase "ValueError.__new__" = true ∧ PySem.W.keepIn C.K (.ref (He.ga C.K "BadBlocks")) = true ∧ PySem.W.subIn C.K (.ref (He.ga C.K "BadBlocks")) (.type "BaseException") = some true ∧ PySem.W.typeIn C.K (.ref (He.ga C.K "BadBlocks")) = some (.type "type") := He.exc_ok (Z.d.fact 60 (f := .exc "BadBlocks") rfl)
theorem Z.eo_BadBlocks (Z : Z C base) : EO C "BadBlocks" (He.ga C.K "BadBlocks") := ⟨Z.exc_BadBlocks.1, Z.glo_BadBlocks, Z.exc_BadBlocks.2.1⟩
theorem Z.rs_BadBlocks (Z : Z C base) {X : Cx} (hK : X.K = C.K := by rfl) : Raises X (.ref (He.ga C.K "BadBlocks")) := raises_own (by rw [hK]; exact Z.exc_BadBlocks.2.2.1) (by rw [hK]; exact Z.exc_BadBlocks.2.2.2)
theorem Z.glo_BadBody (Z : Z C base) : C.mg "BadBody" = some (.ref (He.ga C.K "BadBody")) := by
  obtain ⟨h, X, G⟩ := Z.g
  exact He.glo_ok X G (Z.d.fact 61 (f := .glo "BadBody") rfl)
theorem Z.exc_BadBody (Z : Z C base) : PySem.W.excIn C.K (He.ga C.K "BadBody") He.veBase "ValueError.__new__" = true ∧ PySem.W.keepIn C.K (.ref (He.ga C.K "BadBody")) = true ∧ PySem.W.subIn C.K (.ref (He.ga C.K "BadBody")) (.type "BaseException") = some true ∧ PySem.W.typeIn C.K (.ref (He.ga C.K "BadBody")) = some (.type "type") := He.exc_ok (Z.d.fact 62 (f := .exc "BadBody") rfl)
theorem Z.eo_BadBody (Z : Z C base) : EO C "BadBody" (He.ga C.K "BadBody") := ⟨Z.exc_BadBody.1, Z.glo_BadBody, Z.exc_BadBody.2.1⟩
theorem Z.rs_BadBody (Z : Z C base) {X : Cx} (hK : X.K = C.K := by rfl) : Raises X (.ref (He.ga C.K "BadBody")) := raises_own (by rw [hK]; exact Z.exc_BadBody.2.2.1) (by rw [hK]; exact Z.exc_BadBody.2.2.2)
theorem Z.glo_BadDrawing (Z : Z C base) : C.mg "BadDrawing" = some (.ref (He.ga C.K "BadDrawing")) := by
  obtain ⟨h, X, G⟩ := Z.g
  exact He.glo_ok X G (Z.d.fact 63 (f := .glo "BadDrawing") rfl)
theorem Z.exc_BadDrawing (Z : Z C base) : PySem.W.excIn C.K (He.ga C.K "BadDrawing") He.veBase "ValueError.__new__" = true ∧ PySem.W.keepIn C.K (.ref (He.ga C.K "BadDrawing")) = true ∧ PySem.W.subIn C.K (.ref (He.ga C.K "BadDrawing")) (.type "BaseException") = some true ∧ PySem.W.typeIn C.K (.ref (He.ga C.K "BadDrawing")) = some (.type "type") := He.exc_ok (Z.d.fact 64 (f := .exc "BadDrawing") rfl)
theorem Z.eo_BadDrawing (Z : Z C base) : EO C "BadDrawing" (He.ga C.K "BadDrawing") := ⟨Z.exc_BadDrawing.1, Z.glo_BadDrawing, Z.exc_BadDrawing.2.1⟩
theorem Z.rs_BadDrawing (Z : Z C base) {X : Cx} (hK : X.K = C.K := by rfl) : Raises X (.ref (He.ga C.K "BadDrawing")) := raises_own (by rw [hK]; exact Z.exc_BadDrawing.2.2.1) (by rw [hK]; exact Z.exc_BadDrawing.2.2.2)
theorem Z.glo_BadIndex (Z : Z C base) : C.mg "BadIndex" = some (.ref (He.ga C.K "BadIndex")) := by
  obtain ⟨h, X, G⟩ := Z.g
  exact He.glo_ok X G (Z.d.fact 65 (f := .glo "BadIndex") rfl)
theorem Z.exc_BadIndex (Z : Z C base) : PySem.W.excIn C.K (He.ga C.K "BadIndex") He.veBase "ValueError.__new__" = true ∧ PySem.W.keepIn C.K (.ref (He.ga C.K "BadIndex")) = true ∧ PySem.W.subIn C.K (.ref (He.ga C.K "BadIndex")) (.type "BaseException") = some true ∧ PySem.W.typeIn C.K (.ref (He.ga C.K "BadIndex")) = some (.type "type") := He.exc_ok (Z.d.fact 66 (f := .exc "BadIndex") rfl)
theorem Z.eo_BadIndex (Z : Z C base) : EO C "BadIndex" (He.ga C.K "BadIndex") := ⟨Z.exc_BadIndex.1, Z.glo_BadIndex, Z.exc_BadIndex.2.1⟩
theorem Z.rs_BadIndex (Z : Z C base) {X : Cx} (hK : X.K = C.K := by rfl) : Raises X (.ref (He.ga C.K "BadIndex")) := raises_own (by rw [hK]; exact Z.exc_BadIndex.2.2.1) (by rw [hK]; exact Z.exc_BadIndex.2.2.2)
theorem Z.glo_BadPair (Z : Z C base) : C.mg "BadPair" = some (.ref (He.ga C.K "BadPair")) := by
  obtain ⟨h, X, G⟩ := Z.g
  exact He.glo_ok X G (Z.d.fact 67 (f := .glo "BadPair") rfl)
theorem Z.exc_BadPair (Z : Z C base) : PySem.W.excIn C.K (He.ga C.K "BadPair") He.veBase "ValueError.__new__" = true ∧ PySem.W.keepIn C.K (.ref (He.ga C.K "BadPair")) = true ∧ PySem.W.subIn C.K (.ref (He.ga C.K "BadPair")) (.type "BaseException") = some true ∧ PySem.W.typeIn C.K (.ref (He.ga C.K "BadPair")) = some (.type "type") := He.exc_ok (Z.d.fact 68 (f := .exc "BadPair") rfl)
theorem Z.eo_BadPair (Z : Z C base) : EO C "BadPair" (He.ga C.K "BadPair") := ⟨Z.exc_BadPair.1, Z.glo_BadPair, Z.exc_BadPair.2.1⟩
theorem Z.rs_BadPair (Z : Z C base) {X : Cx} (hK : X.K = C.K := by rfl) : Raises X (.ref (He.ga C.K "BadPair")) := raises_own (by rw [hK]; exact Z.exc_BadPair.2.2.1) (by rw [hK]; exact Z.exc_BadPair.2.2.2)
theorem Z.glo_Drawing (Z : Z C base) : C.mg "Drawing" = some (.ref (He.ga C.K "Drawing")) := by
  obtain ⟨h, X, G⟩ := Z.g
  exact He.glo_ok X G (Z.d.fact 69 (f := .glo "Drawing") rfl)
theorem Z.cls_Drawing (Z : Z C base) : Cls C.K (He.ga C.K "Drawing") := He.cls_ok (Z.d.fact 70 (f := .cls "Drawing") rfl)
theorem Z.cm_Drawing (Z : Z C base) : CM C "Drawing" (He.ga C.K "Drawing") (He.ma C.K (He.ga C.K "Drawing") "__init__") := ⟨Z.glo_Drawing, He.mkr_ok (Z.d.fact 71 (f := .mkr "Drawing") rfl)⟩
theorem Z.mt_Drawing___eq__ (Z : Z C base) : Meth C.K (He.ga C.K "Drawing") "__eq__" (He.ma C.K (He.ga C.K "Drawing") "__eq__") := He.meth_ok (Z.d.fact 72 (f := .meth "Drawing" "__eq__") rfl)
theorem Z.mt_Drawing___len__ (Z : Z C base) : Meth C.K (He.ga C.K "Drawing") "__len__" (He.ma C.K (He.ga C.K "Drawing") "__len__") := He.meth_ok (Z.d.fact 73 (f := .meth "Drawing" "__len__") rfl)
theorem Z.mt_Drawing___contains__ (Z : Z C base) : Meth C.K (He.ga C.K "Drawing") "__contains__" (He.ma C.K (He.ga C.K "Drawing") "__contains__") := He.meth_ok (Z.d.fact 74 (f := .meth "Drawing" "__contains__") rfl)
theorem Z.int_MOST_BLOCKS (Z : Z C base) : ∃ t, C.mg "MOST_BLOCKS" = some (.int 12 t) := by
  obtain ⟨h, X, G⟩ := Z.g
  exact He.int_ok X G (Z.d.fact 75 (f := .int "MOST_BLOCKS" 12) rfl)
theorem Z.na_Drawing_blocks (Z : Z C base) : NoAttr C.K (He.ga C.K "Drawing") "blocks" := He.noat_ok (Z.d.fact 76 (f := .noat "Drawing" "blocks") rfl)
theorem Z.exm_GapError (Z : Z C base) : PySem.W.exmOne C.K (.ref (He.ga C.K "GapError")) (.ref (He.ga C.K "GapError")) = some true := He.exm_ok (Z.d.fact 77 (f := .exm "GapError" "GapError" true) rfl)
theorem Z.exm_BadBlocks (Z : Z C base) : PySem.W.exmOne C.K (.ref (He.ga C.K "BadBlocks")) (.ref (He.ga C.K "GapError")) = some true := He.exm_ok (Z.d.fact 78 (f := .exm "BadBlocks" "GapError" true) rfl)
theorem Z.exm_BadBody (Z : Z C base) : PySem.W.exmOne C.K (.ref (He.ga C.K "BadBody")) (.ref (He.ga C.K "GapError")) = some true := He.exm_ok (Z.d.fact 79 (f := .exm "BadBody" "GapError" true) rfl)
theorem Z.exm_BadDrawing (Z : Z C base) : PySem.W.exmOne C.K (.ref (He.ga C.K "BadDrawing")) (.ref (He.ga C.K "GapError")) = some true := He.exm_ok (Z.d.fact 80 (f := .exm "BadDrawing" "GapError" true) rfl)
theorem Z.exm_BadIndex (Z : Z C base) : PySem.W.exmOne C.K (.ref (He.ga C.K "BadIndex")) (.ref (He.ga C.K "GapError")) = some true := He.exm_ok (Z.d.fact 81 (f := .exm "BadIndex" "GapError" true) rfl)
theorem Z.exm_BadPair (Z : Z C base) : PySem.W.exmOne C.K (.ref (He.ga C.K "BadPair")) (.ref (He.ga C.K "GapError")) = some true := He.exm_ok (Z.d.fact 82 (f := .exm "BadPair" "GapError" true) rfl)
theorem Z.cf (Z : Z C base) : ∀ q ∈ cf, CF C q.1 q.2 := fun q h => by
  rcases List.mem_cons.mp h with e | h
  · subst e
    exact ⟨_, Z.glo_Drawing, Z.cls_Drawing, fun f hf => by
      rcases List.mem_cons.mp hf with e | hf
      · rw [e]; exact Z.na_Drawing_blocks
      cases hf⟩
  cases h
theorem Z.ko (Z : Z C base) : KO C ocs oes anc := ko_of Z.x (fun q h => by
  rcases List.mem_cons.mp h with e | h
  · subst e
    exact Z.glo_Drawing
  rcases List.mem_cons.mp h with e | h
  · subst e
    exact Z.glo_GapError
  rcases List.mem_cons.mp h with e | h
  · subst e
    exact Z.glo_BadBlocks
  rcases List.mem_cons.mp h with e | h
  · subst e
    exact Z.glo_BadBody
  rcases List.mem_cons.mp h with e | h
  · subst e
    exact Z.glo_BadDrawing
  rcases List.mem_cons.mp h with e | h
  · subst e
    exact Z.glo_BadIndex
  rcases List.mem_cons.mp h with e | h
  · subst e
    exact Z.glo_BadPair
  cases h) (fun q h => by
  rcases List.mem_cons.mp h with e | h
  · subst e
    exact Z.cls_Drawing
  cases h)
theorem Z.cx (Z : Z C base) : ∀ c ∈ ces, ∀ Ca, C.mg c = some (.ref Ca) → PySem.W.exmOne C.K (.ref Ca) (.ref (He.ga C.K "GapError")) = some true := fun q h => by
  rcases List.mem_cons.mp h with e | h
  · subst e
    exact fun Ca e => by
      rw [Z.glo_GapError] at e
      cases e
      exact Z.exm_GapError
  rcases List.mem_cons.mp h with e | h
  · subst e
    exact fun Ca e => by
      rw [Z.glo_BadBlocks] at e
      cases e
      exact Z.exm_BadBlocks
  rcases List.mem_cons.mp h with e | h
  · subst e
    exact fun Ca e => by
      rw [Z.glo_BadBody] at e
      cases e
      exact Z.exm_BadBody
  rcases List.mem_cons.mp h with e | h
  · subst e
    exact fun Ca e => by
      rw [Z.glo_BadDrawing] at e
      cases e
      exact Z.exm_BadDrawing
  rcases List.mem_cons.mp h with e | h
  · subst e
    exact fun Ca e => by
      rw [Z.glo_BadIndex] at e
      cases e
      exact Z.exm_BadIndex
  rcases List.mem_cons.mp h with e | h
  · subst e
    exact fun Ca e => by
      rw [Z.glo_BadPair] at e
      cases e
      exact Z.exm_BadPair
  cases h
theorem Z.tb__law_refusals (Z : Z C base) : TabB base C.mg (He.cT C.K ("_law_refusals", none)).1 (He.cT C.K ("_law_refusals", none)).2 := Z.tb _ (List.mem_of_getElem? (i := 0) rfl)
theorem Z.tT__law_refusals (Z : Z C base) : ((He.cT C.K ("_law_refusals", none)).2, ("_law_refusals" : PySem.Str) ++ ".<locals>." ++ "<lambda>") ∈ C.T := by
  rw [Z.T]
  exact List.mem_map.mpr ⟨("_law_refusals", none), List.mem_of_getElem? (i := 0) rfl, rfl⟩
theorem Z.tU__law_refusals (Z : Z C base) : ∀ p ∈ C.T, p.1 = (He.cT C.K ("_law_refusals", none)).2 → p.2 = ("_law_refusals" : PySem.Str) ++ ".<locals>." ++ "<lambda>" := by
  rw [Z.T]
  intro p hp _
  rcases List.mem_cons.mp hp with e | hp
  · rw [e]
  · cases hp
theorem sc_is_size : FnScope ["thing"] ["thing"] (defScope s_is_size) := ⟨rfl, rfl, rfl, by decide +kernel, rfl, by decide +kernel, by decide +kernel⟩
theorem Z.fd_is_size (Z : Z C base) : ∃ fd, FunD C.K "is_size" "is_size" (defArgs s_is_size) (defBody s_is_size) (defScope s_is_size) [] [] (He.ga C.K "is_size") fd := Z.d.def_ 0 (d := d_is_size) rfl
theorem sc_is_body : FnScope ["thing"] ["thing"] (defScope s_is_body) := ⟨rfl, rfl, rfl, by decide +kernel, rfl, by decide +kernel, by decide +kernel⟩
theorem Z.fd_is_body (Z : Z C base) : ∃ fd, FunD C.K "is_body" "is_body" (defArgs s_is_body) (defBody s_is_body) (defScope s_is_body) [] [] (He.ga C.K "is_body") fd := Z.d.def_ 1 (d := d_is_body) rfl
theorem sc_is_whole : FnScope ["thing"] ["thing"] (defScope s_is_whole) := ⟨rfl, rfl, rfl, by decide +kernel, rfl, by decide +kernel, by decide +kernel⟩
theorem Z.fd_is_whole (Z : Z C base) : ∃ fd, FunD C.K "is_whole" "is_whole" (defArgs s_is_whole) (defBody s_is_whole) (defScope s_is_whole) [] [] (He.ga C.K "is_whole") fd := Z.d.def_ 2 (d := d_is_whole) rfl
theorem sc_are_numbers : FnScope ["thing", "many", "item"] ["thing", "many"] (defScope s_are_numbers) := ⟨rfl, rfl, rfl, by decide +kernel, rfl, by decide +kernel, by decide +kernel⟩
theorem Z.fd_are_numbers (Z : Z C base) : ∃ fd, FunD C.K "are_numbers" "are_numbers" (defArgs s_are_numbers) (defBody s_are_numbers) (defScope s_are_numbers) [] [] (He.ga C.K "are_numbers") fd := Z.d.def_ 3 (d := d_are_numbers) rfl
theorem sc_is_block : FnScope ["thing"] ["thing"] (defScope s_is_block) := ⟨rfl, rfl, rfl, by decide +kernel, rfl, by decide +kernel, by decide +kernel⟩
theorem Z.fd_is_block (Z : Z C base) : ∃ fd, FunD C.K "is_block" "is_block" (defArgs s_is_block) (defBody s_is_block) (defScope s_is_block) [] [] (He.ga C.K "is_block") fd := Z.d.def_ 4 (d := d_is_block) rfl
theorem sc_are_blocks : FnScope ["thing", "item"] ["thing"] (defScope s_are_blocks) := ⟨rfl, rfl, rfl, by decide +kernel, rfl, by decide +kernel, by decide +kernel⟩
theorem Z.fd_are_blocks (Z : Z C base) : ∃ fd, FunD C.K "are_blocks" "are_blocks" (defArgs s_are_blocks) (defBody s_are_blocks) (defScope s_are_blocks) [] [] (He.ga C.K "are_blocks") fd := Z.d.def_ 5 (d := d_are_blocks) rfl
theorem sc_is_number : FnScope ["thing"] ["thing"] (defScope s_is_number) := ⟨rfl, rfl, rfl, by decide +kernel, rfl, by decide +kernel, by decide +kernel⟩
theorem Z.fd_is_number (Z : Z C base) : ∃ fd, FunD C.K "is_number" "is_number" (defArgs s_is_number) (defBody s_is_number) (defScope s_is_number) [] [] (He.ga C.K "is_number") fd := Z.d.def_ 6 (d := d_is_number) rfl
theorem sc_need_drawing : FnScope ["drawing"] ["drawing"] (defScope s_need_drawing) := ⟨rfl, rfl, rfl, by decide +kernel, rfl, by decide +kernel, by decide +kernel⟩
theorem Z.fd_need_drawing (Z : Z C base) : ∃ fd, FunD C.K "need_drawing" "need_drawing" (defArgs s_need_drawing) (defBody s_need_drawing) (defScope s_need_drawing) [] [] (He.ga C.K "need_drawing") fd := Z.d.def_ 7 (d := d_need_drawing) rfl
theorem sc_need_body : FnScope ["body"] ["body"] (defScope s_need_body) := ⟨rfl, rfl, rfl, by decide +kernel, rfl, by decide +kernel, by decide +kernel⟩
theorem Z.fd_need_body (Z : Z C base) : ∃ fd, FunD C.K "need_body" "need_body" (defArgs s_need_body) (defBody s_need_body) (defScope s_need_body) [] [] (He.ga C.K "need_body") fd := Z.d.def_ 8 (d := d_need_body) rfl
theorem sc_need_index : FnScope ["drawing", "i"] ["drawing", "i"] (defScope s_need_index) := ⟨rfl, rfl, rfl, by decide +kernel, rfl, by decide +kernel, by decide +kernel⟩
theorem Z.fd_need_index (Z : Z C base) : ∃ fd, FunD C.K "need_index" "need_index" (defArgs s_need_index) (defBody s_need_index) (defScope s_need_index) [] [] (He.ga C.K "need_index") fd := Z.d.def_ 9 (d := d_need_index) rfl
theorem sc_need_two : FnScope ["drawing", "body"] ["drawing", "body"] (defScope s_need_two) := ⟨rfl, rfl, rfl, by decide +kernel, rfl, by decide +kernel, by decide +kernel⟩
theorem Z.fd_need_two (Z : Z C base) : ∃ fd, FunD C.K "need_two" "need_two" (defArgs s_need_two) (defBody s_need_two) (defScope s_need_two) [] [] (He.ga C.K "need_two") fd := Z.d.def_ 10 (d := d_need_two) rfl
theorem sc_need_pair : FnScope ["drawing", "i", "j"] ["drawing", "i", "j"] (defScope s_need_pair) := ⟨rfl, rfl, rfl, by decide +kernel, rfl, by decide +kernel, by decide +kernel⟩
theorem Z.fd_need_pair (Z : Z C base) : ∃ fd, FunD C.K "need_pair" "need_pair" (defArgs s_need_pair) (defBody s_need_pair) (defScope s_need_pair) [] [] (He.ga C.K "need_pair") fd := Z.d.def_ 11 (d := d_need_pair) rfl
theorem sc_gap_of : FnScope ["blocks", "i", "j", "one", "other"] ["blocks", "i", "j"] (defScope s_gap_of) := ⟨rfl, rfl, rfl, by decide +kernel, rfl, by decide +kernel, by decide +kernel⟩
theorem Z.fd_gap_of (Z : Z C base) : ∃ fd, FunD C.K "gap_of" "gap_of" (defArgs s_gap_of) (defBody s_gap_of) (defScope s_gap_of) [] [] (He.ga C.K "gap_of") fd := Z.d.def_ 12 (d := d_gap_of) rfl
theorem sc_near_of : FnScope ["blocks", "body", "i", "j", "across", "up"] ["blocks", "body", "i", "j"] (defScope s_near_of) := ⟨rfl, rfl, rfl, by decide +kernel, rfl, by decide +kernel, by decide +kernel⟩
theorem Z.fd_near_of (Z : Z C base) : ∃ fd, FunD C.K "near_of" "near_of" (defArgs s_near_of) (defBody s_near_of) (defScope s_near_of) [] [] (He.ga C.K "near_of") fd := Z.d.def_ 13 (d := d_near_of) rfl
theorem sc_pairs_of : FnScope ["blocks", "body", "many", "i", "j"] ["blocks", "body"] (defScope s_pairs_of) := ⟨rfl, rfl, rfl, by decide +kernel, rfl, by decide +kernel, by decide +kernel⟩
theorem Z.fd_pairs_of (Z : Z C base) : ∃ fd, FunD C.K "pairs_of" "pairs_of" (defArgs s_pairs_of) (defBody s_pairs_of) (defScope s_pairs_of) [] [] (He.ga C.K "pairs_of") fd := Z.d.def_ 14 (d := d_pairs_of) rfl
theorem sc_from_of : FnScope ["blocks", "i", "j", "across", "up"] ["blocks", "i", "j"] (defScope s_from_of) := ⟨rfl, rfl, rfl, by decide +kernel, rfl, by decide +kernel, by decide +kernel⟩
theorem Z.fd_from_of (Z : Z C base) : ∃ fd, FunD C.K "from_of" "from_of" (defArgs s_from_of) (defBody s_from_of) (defScope s_from_of) [] [] (He.ga C.K "from_of") fd := Z.d.def_ 15 (d := d_from_of) rfl
theorem sc_gap : FnScope ["drawing", "i", "j"] ["drawing", "i", "j"] (defScope s_gap) := ⟨rfl, rfl, rfl, by decide +kernel, rfl, by decide +kernel, by decide +kernel⟩
theorem Z.fd_gap (Z : Z C base) : ∃ fd, FunD C.K "gap" "gap" (defArgs s_gap) (defBody s_gap) (defScope s_gap) [] [] (He.ga C.K "gap") fd := Z.d.def_ 16 (d := d_gap) rfl
theorem sc_near : FnScope ["drawing", "body", "i", "j"] ["drawing", "body", "i", "j"] (defScope s_near) := ⟨rfl, rfl, rfl, by decide +kernel, rfl, by decide +kernel, by decide +kernel⟩
theorem Z.fd_near (Z : Z C base) : ∃ fd, FunD C.K "near" "near" (defArgs s_near) (defBody s_near) (defScope s_near) [] [] (He.ga C.K "near") fd := Z.d.def_ 17 (d := d_near) rfl
theorem sc_near_pairs : FnScope ["drawing", "body"] ["drawing", "body"] (defScope s_near_pairs) := ⟨rfl, rfl, rfl, by decide +kernel, rfl, by decide +kernel, by decide +kernel⟩
theorem Z.fd_near_pairs (Z : Z C base) : ∃ fd, FunD C.K "near_pairs" "near_pairs" (defArgs s_near_pairs) (defBody s_near_pairs) (defScope s_near_pairs) [] [] (He.ga C.K "near_pairs") fd := Z.d.def_ 18 (d := d_near_pairs) rfl
theorem sc_near_from : FnScope ["drawing", "i", "j"] ["drawing", "i", "j"] (defScope s_near_from) := ⟨rfl, rfl, rfl, by decide +kernel, rfl, by decide +kernel, by decide +kernel⟩
theorem Z.fd_near_from (Z : Z C base) : ∃ fd, FunD C.K "near_from" "near_from" (defArgs s_near_from) (defBody s_near_from) (defScope s_near_from) [] [] (He.ga C.K "near_from") fd := Z.d.def_ 19 (d := d_near_from) rfl
theorem sc__law_begun : FnScope ["_law_script", "_law_great", "_law_cell"] ["_law_script"] (defScope s__law_begun) := ⟨rfl, rfl, rfl, by decide +kernel, rfl, by decide +kernel, by decide +kernel⟩
theorem Z.fd__law_begun (Z : Z C base) : ∃ fd, FunD C.K "_law_begun" "_law_begun" (defArgs s__law_begun) (defBody s__law_begun) (defScope s__law_begun) [] [] (He.ga C.K "_law_begun") fd := Z.d.def_ 20 (d := d__law_begun) rfl
theorem sc__law_mixed : FnScope ["_law_draw", "_law_turn", "_law_found", "_law_prime", "_law_blend", "_law_cell"] ["_law_draw"] (defScope s__law_mixed) := ⟨rfl, rfl, rfl, by decide +kernel, rfl, by decide +kernel, by decide +kernel⟩
theorem Z.fd__law_mixed (Z : Z C base) : ∃ fd, FunD C.K "_law_mixed" "_law_mixed" (defArgs s__law_mixed) (defBody s__law_mixed) (defScope s__law_mixed) [] [] (He.ga C.K "_law_mixed") fd := Z.d.def_ 21 (d := d__law_mixed) rfl
theorem sc__law_take : FnScope ["_law_draw", "_law_many", "_law_found"] ["_law_draw", "_law_many"] (defScope s__law_take) := ⟨rfl, rfl, rfl, by decide +kernel, rfl, by decide +kernel, by decide +kernel⟩
theorem Z.fd__law_take (Z : Z C base) : ∃ fd, FunD C.K "_law_take" "_law_take" (defArgs s__law_take) (defBody s__law_take) (defScope s__law_take) [] [] (He.ga C.K "_law_take") fd := Z.d.def_ 22 (d := d__law_take) rfl
theorem sc__law_pick : FnScope ["_law_draw", "_law_some"] ["_law_draw", "_law_some"] (defScope s__law_pick) := ⟨rfl, rfl, rfl, by decide +kernel, rfl, by decide +kernel, by decide +kernel⟩
theorem Z.fd__law_pick (Z : Z C base) : ∃ fd, FunD C.K "_law_pick" "_law_pick" (defArgs s__law_pick) (defBody s__law_pick) (defScope s__law_pick) [] [] (He.ga C.K "_law_pick") fd := Z.d.def_ 23 (d := d__law_pick) rfl
theorem sc__law_caught : FnScope ["_law_task", "_law_caught_here", "error"] ["_law_task"] (defScope s__law_caught) := ⟨rfl, rfl, rfl, by decide +kernel, rfl, by decide +kernel, by decide +kernel⟩
theorem Z.fd__law_caught (Z : Z C base) : ∃ fd, FunD C.K "_law_caught" "_law_caught" (defArgs s__law_caught) (defBody s__law_caught) (defScope s__law_caught) [] [] (He.ga C.K "_law_caught") fd := Z.d.def_ 24 (d := d__law_caught) rfl
theorem sc__law_is_number : FnScope ["_law_item"] ["_law_item"] (defScope s__law_is_number) := ⟨rfl, rfl, rfl, by decide +kernel, rfl, by decide +kernel, by decide +kernel⟩
theorem Z.fd__law_is_number (Z : Z C base) : ∃ fd, FunD C.K "_law_is_number" "_law_is_number" (defArgs s__law_is_number) (defBody s__law_is_number) (defScope s__law_is_number) [] [] (He.ga C.K "_law_is_number") fd := Z.d.def_ 25 (d := d__law_is_number) rfl
theorem sc__law_says : FnScope ["_law_found", "_law_due"] ["_law_found", "_law_due"] (defScope s__law_says) := ⟨rfl, rfl, rfl, by decide +kernel, rfl, by decide +kernel, by decide +kernel⟩
theorem Z.fd__law_says (Z : Z C base) : ∃ fd, FunD C.K "_law_says" "_law_says" (defArgs s__law_says) (defBody s__law_says) (defScope s__law_says) [] [] (He.ga C.K "_law_says") fd := Z.d.def_ 26 (d := d__law_says) rfl
theorem sc__law_numbers : FnScope ["_law_item", "_law_many", "_law_one"] ["_law_item", "_law_many"] (defScope s__law_numbers) := ⟨rfl, rfl, rfl, by decide +kernel, rfl, by decide +kernel, by decide +kernel⟩
theorem Z.fd__law_numbers (Z : Z C base) : ∃ fd, FunD C.K "_law_numbers" "_law_numbers" (defArgs s__law_numbers) (defBody s__law_numbers) (defScope s__law_numbers) [] [] (He.ga C.K "_law_numbers") fd := Z.d.def_ 27 (d := d__law_numbers) rfl
theorem sc__law_shuffled : FnScope ["_law_draw", "_law_some", "_law_left", "_law_found", "_law_turn"] ["_law_draw", "_law_some"] (defScope s__law_shuffled) := ⟨rfl, rfl, rfl, by decide +kernel, rfl, by decide +kernel, by decide +kernel⟩
theorem Z.fd__law_shuffled (Z : Z C base) : ∃ fd, FunD C.K "_law_shuffled" "_law_shuffled" (defArgs s__law_shuffled) (defBody s__law_shuffled) (defScope s__law_shuffled) [] [] (He.ga C.K "_law_shuffled") fd := Z.d.def_ 28 (d := d__law_shuffled) rfl
theorem sc__law_block : FnScope ["_law_draw", "_law_wide", "_law_left", "_law_low"] ["_law_draw", "_law_wide"] (defScope s__law_block) := ⟨rfl, rfl, rfl, by decide +kernel, rfl, by decide +kernel, by decide +kernel⟩
theorem Z.fd__law_block (Z : Z C base) : ∃ fd, FunD C.K "_law_block" "_law_block" (defArgs s__law_block) (defBody s__law_block) (defScope s__law_block) [] [] (He.ga C.K "_law_block") fd := Z.d.def_ 29 (d := d__law_block) rfl
theorem sc__law_pen : FnScope ["_law_draw", "_law_left", "_law_low", "_law_wide", "_law_tall", "_law_cut", "_law_turn", "_law_right", "_law_high", "_law_one", "_law_two", "_law_three", "_law_four"] ["_law_draw", "_law_left", "_law_low", "_law_wide", "_law_tall"] (defScope s__law_pen) := ⟨rfl, rfl, rfl, by decide +kernel, rfl, by decide +kernel, by decide +kernel⟩
theorem Z.fd__law_pen (Z : Z C base) : ∃ fd, FunD C.K "_law_pen" "_law_pen" (defArgs s__law_pen) (defBody s__law_pen) (defScope s__law_pen) [] [] (He.ga C.K "_law_pen") fd := Z.d.def_ 30 (d := d__law_pen) rfl
theorem sc__law_stretched : FnScope ["_law_blocks_here", "_law_across", "_law_up", "_law_left", "_law_low", "_law_right", "_law_high"] ["_law_blocks_here", "_law_across", "_law_up"] (defScope s__law_stretched) := ⟨rfl, rfl, rfl, by decide +kernel, rfl, by decide +kernel, by decide +kernel⟩
theorem Z.fd__law_stretched (Z : Z C base) : ∃ fd, FunD C.K "_law_stretched" "_law_stretched" (defArgs s__law_stretched) (defBody s__law_stretched) (defScope s__law_stretched) [] [] (He.ga C.K "_law_stretched") fd := Z.d.def_ 31 (d := d__law_stretched) rfl
theorem sc__law_table : FnScope ["_law_draw", "_law_some", "_law_line", "_law_way", "_law_table_here", "_law_here", "_law_factor", "_law_k", "_law_old"] ["_law_draw", "_law_some"] (defScope s__law_table) := ⟨rfl, rfl, rfl, by decide +kernel, rfl, by decide +kernel, by decide +kernel⟩
theorem Z.fd__law_table (Z : Z C base) : ∃ fd, FunD C.K "_law_table" "_law_table" (defArgs s__law_table) (defBody s__law_table) (defScope s__law_table) [] [] (He.ga C.K "_law_table") fd := Z.d.def_ 32 (d := d__law_table) rfl
theorem sc__law_blocks : FnScope ["_law_draw", "_law_most", "_law_way", "_law_found", "_law_many", "_law_k", "_law_turn", "_law_block_here", "_law_across", "_law_up"] ["_law_draw", "_law_most"] (defScope s__law_blocks) := ⟨rfl, rfl, rfl, by decide +kernel, rfl, by decide +kernel, by decide +kernel⟩
theorem Z.fd__law_blocks (Z : Z C base) : ∃ fd, FunD C.K "_law_blocks" "_law_blocks" (defArgs s__law_blocks) (defBody s__law_blocks) (defScope s__law_blocks) [] [] (He.ga C.K "_law_blocks") fd := Z.d.def_ 33 (d := d__law_blocks) rfl
theorem sc__law_body : FnScope ["_law_draw", "_law_blocks_here", "_law_spots", "_law_found", "_law_flat", "_law_some", "_law_way", "_law_at"] ["_law_draw", "_law_blocks_here", "_law_spots"] (defScope s__law_body) := ⟨rfl, rfl, rfl, by decide +kernel, rfl, by decide +kernel, by decide +kernel⟩
theorem Z.fd__law_body (Z : Z C base) : ∃ fd, FunD C.K "_law_body" "_law_body" (defArgs s__law_body) (defBody s__law_body) (defScope s__law_body) [] [] (He.ga C.K "_law_body") fd := Z.d.def_ 34 (d := d__law_body) rfl
theorem sc__law_grid : FnScope ["_law_blocks_here", "_law_spots", "_law_flat", "_law_found", "_law_block_here", "_law_other", "_law_spot", "_law_item"] ["_law_blocks_here", "_law_spots", "_law_flat"] (defScope s__law_grid) := ⟨rfl, rfl, rfl, by decide +kernel, rfl, by decide +kernel, by decide +kernel⟩
theorem Z.fd__law_grid (Z : Z C base) : ∃ fd, FunD C.K "_law_grid" "_law_grid" (defArgs s__law_grid) (defBody s__law_grid) (defScope s__law_grid) [] [] (He.ga C.K "_law_grid") fd := Z.d.def_ 35 (d := d__law_grid) rfl
theorem sc__law_due_gap : FnScope ["_law_blocks_here", "_law_i", "_law_j", "_law_one", "_law_other", "_law_found", "_law_flat"] ["_law_blocks_here", "_law_i", "_law_j"] (defScope s__law_due_gap) := ⟨rfl, rfl, rfl, by decide +kernel, rfl, by decide +kernel, by decide +kernel⟩
theorem Z.fd__law_due_gap (Z : Z C base) : ∃ fd, FunD C.K "_law_due_gap" "_law_due_gap" (defArgs s__law_due_gap) (defBody s__law_due_gap) (defScope s__law_due_gap) [] [] (He.ga C.K "_law_due_gap") fd := Z.d.def_ 36 (d := d__law_due_gap) rfl
theorem sc__law_near : FnScope ["_law_blocks_here", "_law_body_here", "_law_i", "_law_j", "_law_one", "_law_other", "_law_flat"] ["_law_blocks_here", "_law_body_here", "_law_i", "_law_j"] (defScope s__law_near) := ⟨rfl, rfl, rfl, by decide +kernel, rfl, by decide +kernel, by decide +kernel⟩
theorem Z.fd__law_near (Z : Z C base) : ∃ fd, FunD C.K "_law_near" "_law_near" (defArgs s__law_near) (defBody s__law_near) (defScope s__law_near) [] [] (He.ga C.K "_law_near") fd := Z.d.def_ 37 (d := d__law_near) rfl
theorem sc__law_near_pairs : FnScope ["_law_blocks_here", "_law_body_here", "_law_found", "_law_i", "_law_j"] ["_law_blocks_here", "_law_body_here"] (defScope s__law_near_pairs) := ⟨rfl, rfl, rfl, by decide +kernel, rfl, by decide +kernel, by decide +kernel⟩
theorem Z.fd__law_near_pairs (Z : Z C base) : ∃ fd, FunD C.K "_law_near_pairs" "_law_near_pairs" (defArgs s__law_near_pairs) (defBody s__law_near_pairs) (defScope s__law_near_pairs) [] [] (He.ga C.K "_law_near_pairs") fd := Z.d.def_ 38 (d := d__law_near_pairs) rfl
theorem sc__law_least_near : FnScope ["_law_blocks_here", "_law_i", "_law_j", "_law_body_here"] ["_law_blocks_here", "_law_i", "_law_j", "_law_body_here"] (defScope s__law_least_near) := ⟨rfl, rfl, rfl, by decide +kernel, rfl, by decide +kernel, by decide +kernel⟩
theorem Z.fd__law_least_near (Z : Z C base) : ∃ fd, FunD C.K "_law_least_near" "_law_least_near" (defArgs s__law_least_near) (defBody s__law_least_near) (defScope s__law_least_near) [] [] (He.ga C.K "_law_least_near") fd := Z.d.def_ 39 (d := d__law_least_near) rfl
theorem sc__law_refusals : FnScope ["_law_draw", "_law_made", "_law_body_here", "_law_many", "_law_k", "_law_bad"] ["_law_draw", "_law_made", "_law_body_here", "_law_many"] (defScope s__law_refusals) := ⟨rfl, rfl, rfl, by decide +kernel, rfl, by decide +kernel, by decide +kernel⟩
theorem Z.fd__law_refusals (Z : Z C base) : ∃ fd, FunD C.K "_law_refusals" "_law_refusals" (defArgs s__law_refusals) (defBody s__law_refusals) (defScope s__law_refusals) [] [] (He.ga C.K "_law_refusals") fd := Z.d.def_ 40 (d := d__law_refusals) rfl
theorem sc_law : FnScope ["_law_script", "_law_draw", "_law_turn", "_law_blocks_here", "_law_made", "_law_body_here", "_law_told", "_law_j", "_law_i", "_law_one", "_law_other", "_law_found"] ["_law_script"] (defScope s_law) := ⟨rfl, rfl, rfl, by decide +kernel, rfl, by decide +kernel, by decide +kernel⟩
theorem Z.fd_law (Z : Z C base) : ∃ fd, FunD C.K "law" "law" (defArgs s_law) (defBody s_law) (defScope s_law) [] [] (He.ga C.K "law") fd := Z.d.def_ 41 (d := d_law) rfl
theorem sc_Drawing___init__ : FnScope ["self", "blocks"] ["self", "blocks"] (defScope s_Drawing___init__) := ⟨rfl, rfl, rfl, by decide +kernel, rfl, by decide +kernel, by decide +kernel⟩
theorem Z.fd_Drawing___init__ (Z : Z C base) : ∃ fd, FunD C.K "__init__" "Drawing.__init__" (defArgs s_Drawing___init__) (defBody s_Drawing___init__) (defScope s_Drawing___init__) [] [] (He.ma C.K (He.ga C.K "Drawing") "__init__") fd := Z.d.def_ 42 (d := d_Drawing___init__) rfl
theorem sc_Drawing___eq__ : FnScope ["self", "other"] ["self", "other"] (defScope s_Drawing___eq__) := ⟨rfl, rfl, rfl, by decide +kernel, rfl, by decide +kernel, by decide +kernel⟩
theorem Z.fd_Drawing___eq__ (Z : Z C base) : ∃ fd, FunD C.K "__eq__" "Drawing.__eq__" (defArgs s_Drawing___eq__) (defBody s_Drawing___eq__) (defScope s_Drawing___eq__) [] [] (He.ma C.K (He.ga C.K "Drawing") "__eq__") fd := Z.d.def_ 43 (d := d_Drawing___eq__) rfl
theorem sc_Drawing___len__ : FnScope ["self"] ["self"] (defScope s_Drawing___len__) := ⟨rfl, rfl, rfl, by decide +kernel, rfl, by decide +kernel, by decide +kernel⟩
theorem Z.fd_Drawing___len__ (Z : Z C base) : ∃ fd, FunD C.K "__len__" "Drawing.__len__" (defArgs s_Drawing___len__) (defBody s_Drawing___len__) (defScope s_Drawing___len__) [] [] (He.ma C.K (He.ga C.K "Drawing") "__len__") fd := Z.d.def_ 44 (d := d_Drawing___len__) rfl
theorem sc_Drawing___contains__ : FnScope ["self", "thing"] ["self", "thing"] (defScope s_Drawing___contains__) := ⟨rfl, rfl, rfl, by decide +kernel, rfl, by decide +kernel, by decide +kernel⟩
theorem Z.fd_Drawing___contains__ (Z : Z C base) : ∃ fd, FunD C.K "__contains__" "Drawing.__contains__" (defArgs s_Drawing___contains__) (defBody s_Drawing___contains__) (defScope s_Drawing___contains__) [] [] (He.ma C.K (He.ga C.K "Drawing") "__contains__") fd := Z.d.def_ 45 (d := d_Drawing___contains__) rfl
noncomputable def m_is_size : M Fl := mRet [0] (mAndV (mUn (dIsi ocs oes anc (.ty "int")) (mVar 0)) (mAndV (mNotV (mUn (dIsi ocs oes anc (.ty "bool")) (mVar 0))) (mBin dGe (mVar 0) (M.ret (rSc (.int 1))))))
noncomputable def den_is_size : Den := denOf 1 0 [0] m_is_size
noncomputable def m_is_body : M Fl := mRet [0] (mAndV (mUn (dIsi ocs oes anc (.ty "tuple")) (mVar 0)) (mAndV (mBin (dEq false) (mFn fLen (mCons (mVar 0) (M.ret []))) (M.ret (rSc (.int 2)))) (mAndV (mCall den_is_size (mCons (mBin dIxX (mVar 0) (M.ret (rSc (.int 0)))) (M.ret []))) (mCall den_is_size (mCons (mBin dIxX (mVar 0) (M.ret (rSc (.int 1)))) (M.ret []))))))
noncomputable def den_is_body : Den := denOf 1 0 [0] m_is_body
noncomputable def m_is_whole : M Fl := mRet [0] (mAndV (mUn (dIsi ocs oes anc (.ty "int")) (mVar 0)) (mNotV (mUn (dIsi ocs oes anc (.ty "bool")) (mVar 0))))
noncomputable def den_is_whole : Den := denOf 1 0 [0] m_is_whole
noncomputable def m_are_numbers : M Fl := mRet [0, 1] (mAndV (mUn (dIsi ocs oes anc (.ty "tuple")) (mVar 0)) (mAndV (mBin (dEq false) (mFn fLen (mCons (mVar 0) (M.ret []))) (mVar 1)) (mFn fAll (mCons (mLc (mSeqI (mVar 0)) [2] (tgName 2) (M.ret true) (mCall den_is_whole (mCons (mVar 2) (M.ret [])))) (M.ret [])))))
noncomputable def den_are_numbers : Den := denOf 2 1 [0, 1] m_are_numbers
noncomputable def m_is_block : M Fl := mRet [0] (mAndV (mCall den_are_numbers (mCons (mVar 0) (mCons (M.ret (rSc (.int 4))) (M.ret [])))) (mAndV (mBin dLt (mBin dIxX (mVar 0) (M.ret (rSc (.int 0)))) (mBin dIxX (mVar 0) (M.ret (rSc (.int 2))))) (mBin dLt (mBin dIxX (mVar 0) (M.ret (rSc (.int 1)))) (mBin dIxX (mVar 0) (M.ret (rSc (.int 3)))))))
noncomputable def den_is_block : Den := denOf 1 0 [0] m_is_block
noncomputable def m_are_blocks : M Fl := mSeq (mIf (mOrT (mNotT (mB (mUn (dIsiA ["list", "tuple"]) (mVar 0)))) (mOrT (mB (mBin dGt (mFn fLen (mCons (mVar 0) (M.ret []))) (M.ret (rSc (.int 12))))) (mNotT (mB (mFn fAll (mCons (mLc (mSeqI (mVar 0)) [1] (tgName 1) (M.ret true) (mCall den_is_block (mCons (mVar 1) (M.ret [])))) (M.ret []))))))) (mRet [0] (M.ret (rSc (.bl false)))) (M.ret .nx)) (mRet [0] (mBin (dEq false) (mUn dLenSet (mVar 0)) (mFn fLen (mCons (mVar 0) (M.ret [])))))
noncomputable def den_are_blocks : Den := denOf 1 1 [0] m_are_blocks
noncomputable def m_is_number : M Fl := mRet [0] (mAndV (mUn (dIsi ocs oes anc (.ty "int")) (mVar 0)) (mNotV (mUn (dIsi ocs oes anc (.ty "bool")) (mVar 0))))
noncomputable def den_is_number : Den := denOf 1 0 [0] m_is_number
noncomputable def m_need_drawing : M Fl := mIf (mNotT (mB (mUn (dIsi ocs oes anc (.own "Drawing")) (mVar 0)))) (mRaise "BadDrawing") (M.ret .nx)
noncomputable def den_need_drawing : Den := denOf 1 0 [0] m_need_drawing
noncomputable def m_need_body : M Fl := mIf (mNotT (mB (mCall den_is_body (mCons (mVar 0) (M.ret []))))) (mRaise "BadBody") (M.ret .nx)
noncomputable def den_need_body : Den := denOf 1 0 [0] m_need_body
noncomputable def m_Drawing___len__ : M Fl := mRet [0] (mFn fLen (mCons (mUn (dFld cf "blocks") (mVar 0)) (M.ret [])))
noncomputable def den_Drawing___len__ : Den := denOf 1 0 [0] m_Drawing___len__
noncomputable def m_need_index : M Fl := mIf (mOrT (mNotT (mB (mCall den_is_number (mCons (mVar 1) (M.ret []))))) (mNotT (mB (mChain dLe dLt (M.ret (rSc (.int 0))) (mVar 1) (mLenI "Drawing" den_Drawing___len__ (mVar 0)))))) (mRaise "BadIndex") (M.ret .nx)
noncomputable def den_need_index : Den := denOf 2 0 [0, 1] m_need_index
noncomputable def m_need_two : M Fl := mSeq (mDrop (mCall den_need_drawing (mCons (mVar 0) (M.ret [])))) (mDrop (mCall den_need_body (mCons (mVar 1) (M.ret []))))
noncomputable def den_need_two : Den := denOf 2 0 [0, 1] m_need_two
noncomputable def m_need_pair : M Fl := mSeq (mDrop (mCall den_need_index (mCons (mVar 0) (mCons (mVar 1) (M.ret []))))) (mSeq (mDrop (mCall den_need_index (mCons (mVar 0) (mCons (mVar 2) (M.ret []))))) (mIf (mB (mBin (dEq false) (mVar 1) (mVar 2))) (mRaise "BadPair") (M.ret .nx)))
noncomputable def den_need_pair : Den := denOf 3 0 [0, 1, 2] m_need_pair
noncomputable def m_gap_of : M Fl := mSeq (mPar 3 4 (mBin dIxX (mVar 0) (mVar 1)) (mBin dIxX (mVar 0) (mVar 2))) (mRet [0, 1, 2] (mTup (mCons (mFn fMax (mCons (mBin dSub (mBin dIxX (mVar 4) (M.ret (rSc (.int 0)))) (mBin dIxX (mVar 3) (M.ret (rSc (.int 2))))) (mCons (mBin dSub (mBin dIxX (mVar 3) (M.ret (rSc (.int 0)))) (mBin dIxX (mVar 4) (M.ret (rSc (.int 2))))) (M.ret [])))) (mCons (mFn fMax (mCons (mBin dSub (mBin dIxX (mVar 4) (M.ret (rSc (.int 1)))) (mBin dIxX (mVar 3) (M.ret (rSc (.int 3))))) (mCons (mBin dSub (mBin dIxX (mVar 3) (M.ret (rSc (.int 1)))) (mBin dIxX (mVar 4) (M.ret (rSc (.int 3))))) (M.ret [])))) (M.ret [])))))
noncomputable def den_gap_of : Den := denOf 3 2 [0, 1, 2] m_gap_of
noncomputable def m_near_of : M Fl := mSeq (mAsg (mCall den_gap_of (mCons (mVar 0) (mCons (mVar 2) (mCons (mVar 3) (M.ret []))))) (tgTup [4, 5])) (mRet [0, 1, 2, 3] (mAndV (mBin dLt (mVar 4) (mBin dIxX (mVar 1) (M.ret (rSc (.int 0))))) (mBin dLt (mVar 5) (mBin dIxX (mVar 1) (M.ret (rSc (.int 1)))))))
noncomputable def den_near_of : Den := denOf 4 2 [0, 1, 2, 3] m_near_of
noncomputable def m_pairs_of : M Fl := mSeq (mSet 2 (mFn fLen (mCons (mVar 0) (M.ret [])))) (mRet [0, 1] (mLc2 (mRng rng1 (mCons (mVar 2) (M.ret []))) [3, 4] (tgName 3) (M.ret true) (mRng rng2 (mCons (mBin dAdd (mVar 3) (M.ret (rSc (.int 1)))) (mCons (mVar 2) (M.ret [])))) [4] (tgName 4) (mB (mCall den_near_of (mCons (mVar 0) (mCons (mVar 1) (mCons (mVar 3) (mCons (mVar 4) (M.ret []))))))) (mTup (mCons (mVar 3) (mCons (mVar 4) (M.ret []))))))
noncomputable def den_pairs_of : Den := denOf 2 3 [0, 1] m_pairs_of
noncomputable def m_from_of : M Fl := mSeq (mAsg (mCall den_gap_of (mCons (mVar 0) (mCons (mVar 1) (mCons (mVar 2) (M.ret []))))) (tgTup [3, 4])) (mRet [0, 1, 2] (mTup (mCons (mFn fMax (mCons (M.ret (rSc (.int 1))) (mCons (mBin dAdd (mVar 3) (M.ret (rSc (.int 1)))) (M.ret [])))) (mCons (mFn fMax (mCons (M.ret (rSc (.int 1))) (mCons (mBin dAdd (mVar 4) (M.ret (rSc (.int 1)))) (M.ret [])))) (M.ret [])))))
noncomputable def den_from_of : Den := denOf 3 2 [0, 1, 2] m_from_of
noncomputable def m_gap : M Fl := mSeq (mDrop (mCall den_need_drawing (mCons (mVar 0) (M.ret [])))) (mSeq (mDrop (mCall den_need_pair (mCons (mVar 0) (mCons (mVar 1) (mCons (mVar 2) (M.ret [])))))) (mRet [0, 1, 2] (mCall den_gap_of (mCons (mUn (dFld cf "blocks") (mVar 0)) (mCons (mVar 1) (mCons (mVar 2) (M.ret [])))))))
noncomputable def den_gap : Den := denOf 3 0 [0, 1, 2] m_gap
noncomputable def m_near : M Fl := mSeq (mDrop (mCall den_need_two (mCons (mVar 0) (mCons (mVar 1) (M.ret []))))) (mSeq (mDrop (mCall den_need_pair (mCons (mVar 0) (mCons (mVar 2) (mCons (mVar 3) (M.ret [])))))) (mRet [0, 1, 2, 3] (mCall den_near_of (mCons (mUn (dFld cf "blocks") (mVar 0)) (mCons (mVar 1) (mCons (mVar 2) (mCons (mVar 3) (M.ret []))))))))
noncomputable def den_near : Den := denOf 4 0 [0, 1, 2, 3] m_near
noncomputable def m_near_pairs : M Fl := mSeq (mDrop (mCall den_need_two (mCons (mVar 0) (mCons (mVar 1) (M.ret []))))) (mRet [0, 1] (mCall den_pairs_of (mCons (mUn (dFld cf "blocks") (mVar 0)) (mCons (mVar 1) (M.ret [])))))
noncomputable def den_near_pairs : Den := denOf 2 0 [0, 1] m_near_pairs
noncomputable def m_near_from : M Fl := mSeq (mDrop (mCall den_need_drawing (mCons (mVar 0) (M.ret [])))) (mSeq (mDrop (mCall den_need_pair (mCons (mVar 0) (mCons (mVar 1) (mCons (mVar 2) (M.ret [])))))) (mRet [0, 1, 2] (mCall den_from_of (mCons (mUn (dFld cf "blocks") (mVar 0)) (mCons (mVar 1) (mCons (mVar 2) (M.ret [])))))))
noncomputable def den_near_from : Den := denOf 3 0 [0, 1, 2] m_near_from
noncomputable def m__law_begun : M Fl := mSeq (mSet 1 (mLc (mScI 0) [2] (tgName 2) (mB (mBin dGe (mFn fAbs (mCons (mVar 2) (M.ret []))) (mBin dPow (M.ret (rSc (.int 10))) (M.ret (rSc (.int 18)))))) (mBin dSub (mFn fAbs (mCons (mVar 2) (M.ret []))) (mBin dPow (M.ret (rSc (.int 10))) (M.ret (rSc (.int 18))))))) (mRet [0] (mDrNew 1 (mLc (mScI 0) [2] (tgName 2) (M.ret true) (mBin dMod (mFn fInt (mCons (mFn fAbs (mCons (mVar 2) (M.ret []))) (M.ret []))) (M.ret (rSc (.int 2147483629)))))))
noncomputable def den__law_begun : Den := denOf 1 2 [0] m__law_begun
noncomputable def m__law_mixed : M Fl := mSeq (mPar 1 2 (mBin dAdd (mDr 0 .turn) (M.ret (rSc (.int 1)))) (M.ret (rSc (.int 0)))) (mSeq (mDrPut 0 .turn (mVar 1)) (mSeq (mFor (mSeqI (mLst (mCons (M.ret (rSc (.int 2147483647))) (mCons (M.ret (rSc (.int 2147483629))) (mCons (M.ret (rSc (.int 2147483587))) (mCons (M.ret (rSc (.int 2147483579))) (M.ret []))))))) (tgName 3) (mSeq (mSet 4 (mBin dAdd (mBin dMul (M.ret (rSc (.int 48271))) (mVar 1)) (mBin dDiv (mVar 3) (M.ret (rSc (.int 37)))))) (mSeq (mFor (mSeqI (mDr 0 .cells)) (tgName 5) (mSet 4 (mBin dMod (mFn fInt (mCons (mBin dAdd (mBin dAdd (mBin dMul (mVar 4) (M.ret (rSc (.int 69621)))) (mVar 5)) (mVar 1)) (M.ret []))) (mVar 3)))) (mSet 2 (mBin dAdd (mBin dMul (mVar 2) (M.ret (rSc (.int 2147483647)))) (mBin dMod (mFn fInt (mCons (mBin dPow (mVar 4) (M.ret (rSc (.int 5)))) (M.ret []))) (mVar 3))))))) (mRet [0] (mVar 2))))
noncomputable def den__law_mixed : Den := denOf 1 5 [0] m__law_mixed
noncomputable def m__law_take : M Fl := mSeq (mIf (mB (mBin (dEq false) (mDr 0 .left) (M.ret (rSc (.int 0))))) (mDrPut 0 .left (mIfE (mB (mDrG 0)) (mDrP 0) (mCall den__law_mixed (mCons (mVar 0) (M.ret []))))) (M.ret .nx)) (mSeq (mSet 2 (mBin dMod (mFn fInt (mCons (mDr 0 .left) (M.ret []))) (mVar 1))) (mSeq (mDrPut 0 .left (mBin dDiv (mDr 0 .left) (mVar 1))) (mRet [0, 1] (mVar 2))))
noncomputable def den__law_take : Den := denOf 2 1 [0, 1] m__law_take
noncomputable def m__law_pick : M Fl := mRet [0, 1] (mBin dIxX (mVar 1) (mCall den__law_take (mCons (mVar 0) (mCons (mFn fLen (mCons (mVar 1) (M.ret []))) (M.ret [])))))
noncomputable def den__law_pick : Den := denOf 2 0 [0, 1] m__law_pick
noncomputable def m__law_is_number : M Fl := mRet [0] (mAndV (mUn (dIsi ocs oes anc (.ty "int")) (mVar 0)) (mNotV (mUn (dIsi ocs oes anc (.ty "bool")) (mVar 0))))
noncomputable def den__law_is_number : Den := denOf 1 0 [0] m__law_is_number
noncomputable def m__law_says : M Fl := mRet [0, 1] (mIfE (mB (mVar 1)) (mBin (dIs false) (mVar 0) (M.ret (rSc (.bl true)))) (mBin (dIs false) (mVar 0) (M.ret (rSc (.bl false)))))
noncomputable def den__law_says : Den := denOf 2 0 [0, 1] m__law_says
noncomputable def m__law_numbers : M Fl := mRet [0, 1] (mAndV (mUn (dIsi ocs oes anc (.ty "tuple")) (mVar 0)) (mAndV (mBin (dEq false) (mFn fLen (mCons (mVar 0) (M.ret []))) (mVar 1)) (mBin (dEq false) (mLc (mSeqI (mVar 0)) [2] (tgName 2) (mNotT (mB (mCall den__law_is_number (mCons (mVar 2) (M.ret []))))) (M.ret (rSc (.int 1)))) (mLst (M.ret [])))))
noncomputable def den__law_numbers : Den := denOf 2 1 [0, 1] m__law_numbers
noncomputable def m__law_shuffled : M Fl := mSeq (mPar 2 3 (mFn fList (mCons (mVar 1) (M.ret []))) (mLst (M.ret []))) (mSeq (mFor (mRng rng1 (mCons (mFn fLen (mCons (mVar 1) (M.ret []))) (M.ret []))) (tgName 4) (mDrop (mMeth 3 gAppend (mCons (mMeth 2 gPopAt (mCons (mCall den__law_take (mCons (mVar 0) (mCons (mFn fLen (mCons (mVar 2) (M.ret []))) (M.ret [])))) (M.ret []))) (M.ret []))))) (mRet [0, 1] (mVar 3)))
noncomputable def den__law_shuffled : Den := denOf 2 3 [0, 1] m__law_shuffled
noncomputable def m__law_block : M Fl := mSeq (mPar 2 3 (mCall den__law_take (mCons (mVar 0) (mCons (mVar 1) (M.ret [])))) (mCall den__law_take (mCons (mVar 0) (mCons (mVar 1) (M.ret []))))) (mRet [0, 1] (mTup (mCons (mVar 2) (mCons (mVar 3) (mCons (mBin dAdd (mBin dAdd (mVar 2) (M.ret (rSc (.int 1)))) (mCall den__law_pick (mCons (mVar 0) (mCons (mLst (mCons (M.ret (rSc (.int 0))) (mCons (M.ret (rSc (.int 0))) (mCons (M.ret (rSc (.int 1))) (mCons (M.ret (rSc (.int 2))) (mCons (M.ret (rSc (.int 3))) (mCons (M.ret (rSc (.int 6))) (M.ret [])))))))) (M.ret []))))) (mCons (mBin dAdd (mBin dAdd (mVar 3) (M.ret (rSc (.int 1)))) (mCall den__law_pick (mCons (mVar 0) (mCons (mLst (mCons (M.ret (rSc (.int 0))) (mCons (M.ret (rSc (.int 0))) (mCons (M.ret (rSc (.int 1))) (mCons (M.ret (rSc (.int 2))) (mCons (M.ret (rSc (.int 3))) (mCons (M.ret (rSc (.int 6))) (M.ret [])))))))) (M.ret []))))) (M.ret [])))))))
noncomputable def den__law_block : Den := denOf 2 2 [0, 1] m__law_block
noncomputable def m__law_pen : M Fl := mSeq (mSet 5 (mLc (mRng rng1 (mCons (M.ret (rSc (.int 4))) (M.ret []))) [6] (tgName 6) (M.ret true) (mCall den__law_pick (mCons (mVar 0) (mCons (mLst (mCons (M.ret (rSc (.int 0))) (mCons (M.ret (rSc (.int 0))) (mCons (M.ret (rSc (.int 0))) (mCons (M.ret (rSc (.int 1))) (mCons (M.ret (rSc (.int 1))) (mCons (M.ret (rSc (.int 2))) (mCons (M.ret (rSc (.int 3))) (M.ret []))))))))) (M.ret [])))))) (mSeq (mPar 7 8 (mBin dAdd (mVar 1) (mVar 3)) (mBin dAdd (mVar 2) (mVar 4))) (mSeq (mSet 9 (mTup (mCons (mBin dSub (mVar 1) (M.ret (rSc (.int 1)))) (mCons (mBin dSub (mVar 2) (M.ret (rSc (.int 1)))) (mCons (mBin dSub (mBin dAdd (mVar 7) (M.ret (rSc (.int 1)))) (mFn fMin (mCons (mBin dIxX (mVar 5) (M.ret (rSc (.int 0)))) (mCons (mVar 3) (M.ret []))))) (mCons (mVar 2) (M.ret []))))))) (mSeq (mSet 10 (mTup (mCons (mVar 7) (mCons (mBin dAdd (mBin dSub (mVar 2) (M.ret (rSc (.int 1)))) (mCall den__law_pick (mCons (mVar 0) (mCons (mLst (mCons (M.ret (rSc (.int 0))) (mCons (M.ret (rSc (.int 1))) (mCons (M.ret (rSc (.int 1))) (M.ret []))))) (M.ret []))))) (mCons (mBin dAdd (mVar 7) (M.ret (rSc (.int 1)))) (mCons (mBin dSub (mBin dAdd (mVar 8) (M.ret (rSc (.int 1)))) (mFn fMin (mCons (mBin dIxX (mVar 5) (M.ret (rSc (.int 1)))) (mCons (mVar 4) (M.ret []))))) (M.ret []))))))) (mSeq (mSet 11 (mTup (mCons (mBin dAdd (mBin dSub (mVar 1) (M.ret (rSc (.int 1)))) (mFn fMin (mCons (mBin dIxX (mVar 5) (M.ret (rSc (.int 2)))) (mCons (mVar 3) (M.ret []))))) (mCons (mVar 8) (mCons (mBin dAdd (mVar 7) (M.ret (rSc (.int 1)))) (mCons (mBin dAdd (mVar 8) (M.ret (rSc (.int 1)))) (M.ret []))))))) (mSeq (mSet 12 (mTup (mCons (mBin dSub (mVar 1) (M.ret (rSc (.int 1)))) (mCons (mBin dAdd (mBin dSub (mVar 2) (M.ret (rSc (.int 1)))) (mFn fMin (mCons (mBin dIxX (mVar 5) (M.ret (rSc (.int 3)))) (mCons (mVar 4) (M.ret []))))) (mCons (mVar 1) (mCons (mBin dAdd (mVar 8) (mCall den__law_pick (mCons (mVar 0) (mCons (mLst (mCons (M.ret (rSc (.int 0))) (mCons (M.ret (rSc (.int 1))) (mCons (M.ret (rSc (.int 1))) (M.ret []))))) (M.ret []))))) (M.ret []))))))) (mRet [0, 1, 2, 3, 4] (mLst (mCons (mVar 9) (mCons (mVar 10) (mCons (mVar 11) (mCons (mVar 12) (M.ret []))))))))))))
noncomputable def den__law_pen : Den := denOf 5 8 [0, 1, 2, 3, 4] m__law_pen
noncomputable def m__law_stretched : M Fl := mRet [0, 1, 2] (mLc (mSeqI (mVar 0)) [3, 4, 5, 6] (tgTup [3, 4, 5, 6]) (M.ret true) (mTup (mCons (mBin dIxX (mVar 1) (mVar 3)) (mCons (mBin dIxX (mVar 2) (mVar 4)) (mCons (mBin dIxX (mVar 1) (mVar 5)) (mCons (mBin dIxX (mVar 2) (mVar 6)) (M.ret [])))))))
noncomputable def den__law_stretched : Den := denOf 3 4 [0, 1, 2] m__law_stretched
noncomputable def m__law_table : M Fl := mSeq (mSet 2 (mUn dSortSet (mVar 1))) (mSeq (mPar3 3 4 5 (mCall den__law_take (mCons (mVar 0) (mCons (M.ret (rSc (.int 4))) (M.ret [])))) (M.ret (.sv (.od []))) (mCall den__law_pick (mCons (mVar 0) (mCons (mLst (mCons (M.ret (rSc (.int 0))) (mCons (M.ret (rSc (.int 0))) (mCons (mUn dNeg (M.ret (rSc (.int 7)))) (mCons (M.ret (rSc (.int 40))) (mCons (mUn dNeg (M.ret (rSc (.int 99999)))) (M.ret []))))))) (M.ret []))))) (mSeq (mSet 6 (mCall den__law_pick (mCons (mVar 0) (mCons (mLst (mCons (M.ret (rSc (.int 1))) (mCons (M.ret (rSc (.int 2))) (mCons (M.ret (rSc (.int 3))) (mCons (M.ret (rSc (.int 97))) (mCons (M.ret (rSc (.int 4001))) (M.ret []))))))) (M.ret []))))) (mSeq (mFor (mEnum (mVar 2)) (tgTup [7, 8]) (mIf (mB (mBin dLt (mVar 3) (M.ret (rSc (.int 2))))) (mDPut 4 (mVar 8) (mBin dAdd (mVar 8) (mVar 5))) (mIf (mB (mBin (dEq false) (mVar 3) (M.ret (rSc (.int 2))))) (mDPut 4 (mVar 8) (mBin dAdd (mBin dMul (mVar 8) (mVar 6)) (mVar 5))) (mSeq (mSet 5 (mBin dAdd (mVar 5) (mIfE (mB (mBin (dEq false) (mVar 7) (M.ret (rSc (.int 0))))) (M.ret (rSc (.int 0))) (mBin dAdd (M.ret (rSc (.int 1))) (mCall den__law_pick (mCons (mVar 0) (mCons (mLst (mCons (M.ret (rSc (.int 0))) (mCons (M.ret (rSc (.int 0))) (mCons (M.ret (rSc (.int 1))) (mCons (M.ret (rSc (.int 2))) (mCons (M.ret (rSc (.int 5))) (mCons (M.ret (rSc (.int 13))) (mCons (M.ret (rSc (.int 997))) (M.ret []))))))))) (M.ret [])))))))) (mDPut 4 (mVar 8) (mVar 5)))))) (mRet [0, 1] (mVar 4)))))
noncomputable def den__law_table : Den := denOf 2 7 [0, 1] m__law_table
noncomputable def m__law_blocks : M Fl := mSeq (mPar 2 3 (mCall den__law_take (mCons (mVar 0) (mCons (M.ret (rSc (.int 8))) (M.ret [])))) (mLst (M.ret []))) (mSeq (mSet 4 (mBin dAdd (M.ret (rSc (.int 1))) (mCall den__law_take (mCons (mVar 0) (mCons (mVar 1) (M.ret [])))))) (mSeq (mIf (mAndT (mB (mBin dLt (mVar 2) (M.ret (rSc (.int 5))))) (mB (mBin dGe (mVar 1) (M.ret (rSc (.int 4)))))) (mSeq (mSet 3 (mCall den__law_pen (mCons (mVar 0) (mCons (M.ret (rSc (.int 2))) (mCons (M.ret (rSc (.int 2))) (mCons (mBin dAdd (M.ret (rSc (.int 2))) (mCall den__law_take (mCons (mVar 0) (mCons (M.ret (rSc (.int 5))) (M.ret []))))) (mCons (mBin dAdd (M.ret (rSc (.int 2))) (mCall den__law_take (mCons (mVar 0) (mCons (M.ret (rSc (.int 5))) (M.ret []))))) (M.ret [])))))))) (mSet 4 (mFn fMin (mCons (mCall den__law_take (mCons (mVar 0) (mCons (mBin dSub (mVar 1) (M.ret (rSc (.int 3)))) (M.ret [])))) (mCons (mCall den__law_take (mCons (mVar 0) (mCons (M.ret (rSc (.int 4))) (M.ret [])))) (M.ret [])))))) (M.ret .nx)) (mSeq (mIf (mB (mBin (dEq false) (mVar 2) (M.ret (rSc (.int 5))))) (mSeq (mFor (mRng rng1 (mCons (mFn fMin (mCons (mVar 4) (mCons (mVar 1) (M.ret [])))) (M.ret []))) (tgName 5) (mDrop (mMeth 3 gAppend (mCons (mTup (mCons (mBin dMul (M.ret (rSc (.int 3))) (mVar 5)) (mCons (mBin dMul (M.ret (rSc (.int 2))) (mVar 5)) (mCons (mBin dAdd (mBin dAdd (mBin dMul (M.ret (rSc (.int 3))) (mVar 5)) (M.ret (rSc (.int 1)))) (mCall den__law_take (mCons (mVar 0) (mCons (M.ret (rSc (.int 4))) (M.ret []))))) (mCons (mBin dAdd (mBin dAdd (mBin dMul (M.ret (rSc (.int 2))) (mVar 5)) (M.ret (rSc (.int 1)))) (mCall den__law_take (mCons (mVar 0) (mCons (M.ret (rSc (.int 3))) (M.ret []))))) (M.ret [])))))) (M.ret []))))) (mSet 4 (mIfE (mB (mBin dGt (mVar 4) (M.ret (rSc (.int 2))))) (mBin dSub (mVar 1) (mFn fLen (mCons (mVar 3) (M.ret [])))) (M.ret (rSc (.int 0)))))) (M.ret .nx)) (mSeq (mIf (mAndT (mB (mBin (dEq false) (mVar 2) (M.ret (rSc (.int 6))))) (mB (mBin (dEq false) (mCall den__law_take (mCons (mVar 0) (mCons (M.ret (rSc (.int 4))) (M.ret [])))) (M.ret (rSc (.int 0)))))) (mSet 4 (M.ret (rSc (.int 0)))) (M.ret .nx)) (mSeq (mFor (mRng rng1 (mCons (mVar 4) (M.ret []))) (tgName 6) (mSeq (mSet 7 (mCall den__law_block (mCons (mVar 0) (mCons (M.ret (rSc (.int 9))) (M.ret []))))) (mIf (mAndT (mB (mBin (dIn true) (mVar 7) (mVar 3))) (mB (mBin dLt (mFn fLen (mCons (mVar 3) (M.ret []))) (mVar 1)))) (mDrop (mMeth 3 gAppend (mCons (mVar 7) (M.ret [])))) (M.ret .nx)))) (mSeq (mSet 8 (mCall den__law_table (mCons (mVar 0) (mCons (mBin dAdd (mLc (mSeqI (mVar 3)) [7] (tgName 7) (M.ret true) (mBin dIxX (mVar 7) (M.ret (rSc (.int 0))))) (mLc (mSeqI (mVar 3)) [7] (tgName 7) (M.ret true) (mBin dIxX (mVar 7) (M.ret (rSc (.int 2)))))) (M.ret []))))) (mSeq (mSet 9 (mCall den__law_table (mCons (mVar 0) (mCons (mBin dAdd (mLc (mSeqI (mVar 3)) [7] (tgName 7) (M.ret true) (mBin dIxX (mVar 7) (M.ret (rSc (.int 1))))) (mLc (mSeqI (mVar 3)) [7] (tgName 7) (M.ret true) (mBin dIxX (mVar 7) (M.ret (rSc (.int 3)))))) (M.ret []))))) (mRet [0, 1] (mUn dSorted (mCall den__law_stretched (mCons (mVar 3) (mCons (mVar 8) (mCons (mVar 9) (M.ret []))))))))))))))
noncomputable def den__law_blocks : Den := denOf 2 8 [0, 1] m__law_blocks
noncomputable def m__law_grid : M Fl := mSeq (mSet 3 (mLst (M.ret []))) (mSeq (mFor (mSeqI (mVar 0)) (tgName 4) (mSeq (mSet 3 (mBin dAdd (mVar 3) (mLc (mSeqI (mVar 0)) [5] (tgName 5) (M.ret true) (mBin dSub (mBin dIxX (mVar 4) (mVar 2)) (mBin dIxX (mVar 5) (mBin dAdd (mVar 2) (M.ret (rSc (.int 2))))))))) (mSet 3 (mBin dAdd (mVar 3) (mLc (mSeqI (mVar 1)) [6] (tgName 6) (M.ret true) (mBin dSub (mBin dIxX (mVar 4) (mVar 2)) (mBin dIxX (mVar 6) (mVar 2)))))))) (mRet [0, 1, 2] (mUn dSortSet (mLc (mSeqI (mVar 3)) [7] (tgName 7) (mB (mBin dGe (mVar 7) (M.ret (rSc (.int 1))))) (mVar 7)))))
noncomputable def den__law_grid : Den := denOf 3 5 [0, 1, 2] m__law_grid
noncomputable def m__law_body : M Fl := mSeq (mSet 3 (mLst (M.ret []))) (mSeq (mFor (mRng rng1 (mCons (M.ret (rSc (.int 2))) (M.ret []))) (tgName 4) (mSeq (mSet 5 (mCall den__law_grid (mCons (mVar 1) (mCons (mVar 2) (mCons (mVar 4) (M.ret [])))))) (mSeq (mSet 6 (mCall den__law_take (mCons (mVar 0) (mCons (M.ret (rSc (.int 8))) (M.ret []))))) (mIf (mOrT (mB (mBin (dEq false) (mVar 5) (mLst (M.ret [])))) (mB (mBin (dEq false) (mVar 6) (M.ret (rSc (.int 0)))))) (mDrop (mMeth 3 gAppend (mCons (mCall den__law_pick (mCons (mVar 0) (mCons (mLst (mCons (M.ret (rSc (.int 1))) (mCons (M.ret (rSc (.int 1))) (mCons (M.ret (rSc (.int 2))) (mCons (M.ret (rSc (.int 3))) (mCons (M.ret (rSc (.int 50000))) (M.ret []))))))) (M.ret [])))) (M.ret [])))) (mSeq (mSet 7 (mFn fMin (mCons (mCall den__law_take (mCons (mVar 0) (mCons (mFn fLen (mCons (mVar 5) (M.ret []))) (M.ret [])))) (mCons (mCall den__law_take (mCons (mVar 0) (mCons (mFn fLen (mCons (mVar 5) (M.ret []))) (M.ret [])))) (M.ret []))))) (mDrop (mMeth 3 gAppend (mCons (mBin dAdd (mBin dIxX (mVar 5) (mVar 7)) (mCall den__law_pick (mCons (mVar 0) (mCons (mLst (mCons (M.ret (rSc (.int 0))) (mCons (M.ret (rSc (.int 0))) (mCons (M.ret (rSc (.int 0))) (mCons (M.ret (rSc (.int 1))) (mCons (M.ret (rSc (.int 1))) (mCons (M.ret (rSc (.int 2))) (M.ret [])))))))) (M.ret []))))) (M.ret []))))))))) (mRet [0, 1, 2] (mTup (mCons (mBin dIxX (mVar 3) (M.ret (rSc (.int 0)))) (mCons (mBin dIxX (mVar 3) (M.ret (rSc (.int 1)))) (M.ret []))))))
noncomputable def den__law_body : Den := denOf 3 5 [0, 1, 2] m__law_body
noncomputable def m__law_due_gap : M Fl := mSeq (mPar 3 4 (mBin dIxX (mVar 0) (mVar 1)) (mBin dIxX (mVar 0) (mVar 2))) (mSeq (mSet 5 (mLst (M.ret []))) (mSeq (mFor (mRng rng1 (mCons (M.ret (rSc (.int 2))) (M.ret []))) (tgName 6) (mDrop (mMeth 5 gAppend (mCons (mFn fMax (mCons (mBin dSub (mBin dIxX (mVar 4) (mVar 6)) (mBin dIxX (mVar 3) (mBin dAdd (mVar 6) (M.ret (rSc (.int 2)))))) (mCons (mBin dSub (mBin dIxX (mVar 3) (mVar 6)) (mBin dIxX (mVar 4) (mBin dAdd (mVar 6) (M.ret (rSc (.int 2)))))) (M.ret [])))) (M.ret []))))) (mRet [0, 1, 2] (mTup (mCons (mBin dIxX (mVar 5) (M.ret (rSc (.int 0)))) (mCons (mBin dIxX (mVar 5) (M.ret (rSc (.int 1)))) (M.ret [])))))))
noncomputable def den__law_due_gap : Den := denOf 3 4 [0, 1, 2] m__law_due_gap
noncomputable def m__law_near : M Fl := mSeq (mPar 4 5 (mBin dIxX (mVar 0) (mVar 2)) (mBin dIxX (mVar 0) (mVar 3))) (mSeq (mFor (mRng rng1 (mCons (M.ret (rSc (.int 2))) (M.ret []))) (tgName 6) (mIf (mB (mBin dGe (mBin dSub (mFn fMax (mCons (mBin dIxX (mVar 4) (mVar 6)) (mCons (mBin dIxX (mVar 5) (mVar 6)) (M.ret [])))) (mBin dIxX (mVar 1) (mVar 6))) (mFn fMin (mCons (mBin dIxX (mVar 4) (mBin dAdd (mVar 6) (M.ret (rSc (.int 2))))) (mCons (mBin dIxX (mVar 5) (mBin dAdd (mVar 6) (M.ret (rSc (.int 2))))) (M.ret [])))))) (mRet [0, 1, 2, 3] (M.ret (rSc (.bl false)))) (M.ret .nx))) (mRet [0, 1, 2, 3] (M.ret (rSc (.bl true)))))
noncomputable def den__law_near : Den := denOf 4 3 [0, 1, 2, 3] m__law_near
noncomputable def m__law_near_pairs : M Fl := mSeq (mSet 2 (mLst (M.ret []))) (mSeq (mFor (mRng rng1 (mCons (mFn fLen (mCons (mVar 0) (M.ret []))) (M.ret []))) (tgName 3) (mSet 2 (mBin dAdd (mVar 2) (mLc (mRng rng2 (mCons (mBin dAdd (mVar 3) (M.ret (rSc (.int 1)))) (mCons (mFn fLen (mCons (mVar 0) (M.ret []))) (M.ret [])))) [4] (tgName 4) (mB (mCall den__law_near (mCons (mVar 0) (mCons (mVar 1) (mCons (mVar 3) (mCons (mVar 4) (M.ret []))))))) (mTup (mCons (mVar 3) (mCons (mVar 4) (M.ret [])))))))) (mRet [0, 1] (mVar 2)))
noncomputable def den__law_near_pairs : Den := denOf 2 3 [0, 1] m__law_near_pairs
noncomputable def m__law_least_near : M Fl := mSeq (mIf (mOrT (mNotT (mB (mCall den__law_numbers (mCons (mVar 3) (mCons (M.ret (rSc (.int 2))) (M.ret [])))))) (mOrT (mB (mBin dLt (mBin dIxX (mVar 3) (M.ret (rSc (.int 0)))) (M.ret (rSc (.int 1))))) (mOrT (mB (mBin dLt (mBin dIxX (mVar 3) (M.ret (rSc (.int 1)))) (M.ret (rSc (.int 1))))) (mNotT (mB (mCall den__law_near (mCons (mVar 0) (mCons (mVar 3) (mCons (mVar 1) (mCons (mVar 2) (M.ret []))))))))))) (mRet [0, 1, 2, 3] (M.ret (rSc (.bl false)))) (M.ret .nx)) (mSeq (mIf (mAndT (mB (mBin dGt (mBin dIxX (mVar 3) (M.ret (rSc (.int 0)))) (M.ret (rSc (.int 1))))) (mB (mCall den__law_near (mCons (mVar 0) (mCons (mTup (mCons (mBin dSub (mBin dIxX (mVar 3) (M.ret (rSc (.int 0)))) (M.ret (rSc (.int 1)))) (mCons (mBin dIxX (mVar 3) (M.ret (rSc (.int 1)))) (M.ret [])))) (mCons (mVar 1) (mCons (mVar 2) (M.ret [])))))))) (mRet [0, 1, 2, 3] (M.ret (rSc (.bl false)))) (M.ret .nx)) (mRet [0, 1, 2, 3] (mOrV (mBin (dEq false) (mBin dIxX (mVar 3) (M.ret (rSc (.int 1)))) (M.ret (rSc (.int 1)))) (mNotV (mCall den__law_near (mCons (mVar 0) (mCons (mTup (mCons (mBin dIxX (mVar 3) (M.ret (rSc (.int 0)))) (mCons (mBin dSub (mBin dIxX (mVar 3) (M.ret (rSc (.int 1)))) (M.ret (rSc (.int 1)))) (M.ret [])))) (mCons (mVar 1) (mCons (mVar 2) (M.ret []))))))))))
noncomputable def den__law_least_near : Den := denOf 4 0 [0, 1, 2, 3] m__law_least_near
noncomputable def m__law_refusals : M Fl := mSeq (mAsg (mTup (mCons (mCall den__law_take (mCons (mVar 0) (mCons (mVar 3) (M.ret [])))) (mCons (mCall den__law_pick (mCons (mVar 0) (mCons (mLst (mCons (mVar 3) (mCons (mUn dNeg (M.ret (rSc (.int 1)))) (mCons (mBin dAdd (mVar 3) (M.ret (rSc (.int 7)))) (mCons (M.ret (rSc .non)) (mCons (M.ret (rSc (.str "0"))) (mCons (mTup (mCons (M.ret (rSc (.int 0))) (M.ret []))) (mCons (M.ret (rSc (.bl true))) (mCons (mLst (mCons (M.ret (rSc (.int 0))) (M.ret []))) (M.ret [])))))))))) (M.ret [])))) (M.ret [])))) (tgTup [4, 5])) (mSeq (mIf (mNotT (mB (mUn (dIsi ocs oes anc (.own "BadPair")) (mCaught ces (mCall den_gap (mCons (mVar 1) (mCons (mVar 4) (mCons (mVar 4) (M.ret []))))))))) (mRet [0, 1, 2, 3] (M.ret (rSc (.bl false)))) (M.ret .nx)) (mSeq (mIf (mNotT (mB (mUn (dIsi ocs oes anc (.own "BadIndex")) (mCaught ces (mCall den_near (mCons (mVar 1) (mCons (mVar 2) (mCons (mVar 4) (mCons (mVar 5) (M.ret [])))))))))) (mRet [0, 1, 2, 3] (M.ret (rSc (.bl false)))) (M.ret .nx)) (mSeq (mIf (mNotT (mB (mUn (dIsi ocs oes anc (.own "BadIndex")) (mCaught ces (mCall den_near_from (mCons (mVar 1) (mCons (mVar 5) (mCons (mVar 5) (M.ret []))))))))) (mRet [0, 1, 2, 3] (M.ret (rSc (.bl false)))) (M.ret .nx)) (mSeq (mIf (mNotT (mB (mUn (dIsi ocs oes anc (.own "BadBody")) (mCaught ces (mCall den_near (mCons (mVar 1) (mCons (mTup (mCons (M.ret (rSc (.int 0))) (mCons (M.ret (rSc (.int 1))) (M.ret [])))) (mCons (mVar 5) (mCons (mVar 4) (M.ret [])))))))))) (mRet [0, 1, 2, 3] (M.ret (rSc (.bl false)))) (M.ret .nx)) (mRet [0, 1, 2, 3] (mUn (dIsi ocs oes anc (.own "BadDrawing")) (mCaught ces (mCall den_near_pairs (mCons (mLst (mCons (mVar 1) (M.ret []))) (mCons (mTup (mCons (M.ret (rSc (.int 0))) (mCons (M.ret (rSc (.int 1))) (M.ret [])))) (M.ret [])))))))))))
noncomputable def den__law_refusals : Den := denOf 4 2 [0, 1, 2, 3] m__law_refusals
noncomputable def m_Drawing___init__ : M Fl := mSeq (mIf (mNotT (mB (mCall den_are_blocks (mCons (mVar 1) (M.ret []))))) (mRaise "BadBlocks") (M.ret .nx)) (mFPut cf 0 "blocks" (mFn fTuple (mCons (mUn dSorted (mVar 1)) (M.ret []))))
noncomputable def den_Drawing___init__ : Den := denOf 2 0 [0, 1] m_Drawing___init__
noncomputable def m_law : M Fl := mSeq (mSet 1 (mCall den__law_begun (mCons (mVar 0) (M.ret [])))) (mSeq (mFor (mRng rng1 (mCons (mBin dAdd (M.ret (rSc (.int 1))) (mFn fMin (mCons (mScL 0) (mCons (M.ret (rSc (.int 4))) (M.ret []))))) (M.ret []))) (tgName 2) (mSeq (mSet 3 (mCall den__law_blocks (mCons (mVar 1) (mCons (M.ret (rSc (.int 7))) (M.ret []))))) (mSeq (mPar 4 5 (mMake "Drawing" den_Drawing___init__ (mCons (mCall den__law_shuffled (mCons (mVar 1) (mCons (mVar 3) (M.ret [])))) (M.ret []))) (mCall den__law_body (mCons (mVar 1) (mCons (mVar 3) (mCons (mLst (M.ret [])) (M.ret [])))))) (mSeq (mSet 6 (mCall den_near_pairs (mCons (mVar 4) (mCons (mVar 5) (M.ret []))))) (mSeq (mIf (mB (mBin (dEq true) (mVar 6) (mCall den__law_near_pairs (mCons (mVar 3) (mCons (mVar 5) (M.ret [])))))) (mRet [0] (M.ret (rSc (.bl false)))) (M.ret .nx)) (mSeq (mDrop (mMeth 6 gAppend (mCons (mTup (mCons (M.ret (rSc (.int 0))) (mCons (M.ret (rSc (.int 0))) (M.ret [])))) (M.ret [])))) (mSeq (mIf (mB (mBin (dEq true) (mCallK den_near_pairs (M.ret []) (mCons (mVar 4) (mCons (mVar 5) (M.ret [])))) (mCall den__law_near_pairs (mCons (mVar 3) (mCons (mVar 5) (M.ret [])))))) (mRet [0] (M.ret (rSc (.bl false)))) (M.ret .nx)) (mSeq (mFor (mRng rng1 (mCons (mFn fLen (mCons (mVar 3) (M.ret []))) (M.ret []))) (tgName 7) (mFor (mRng rng1 (mCons (mVar 7) (M.ret []))) (tgName 8) (mSeq (mAsg (mIfE (mB (mBin (dEq false) (mCall den__law_take (mCons (mVar 1) (mCons (M.ret (rSc (.int 2))) (M.ret [])))) (M.ret (rSc (.int 0))))) (mTup (mCons (mVar 8) (mCons (mVar 7) (M.ret [])))) (mTup (mCons (mVar 7) (mCons (mVar 8) (M.ret []))))) (tgTup [9, 10])) (mSeq (mSet 11 (mCall den_gap (mCons (mVar 4) (mCons (mVar 9) (mCons (mVar 10) (M.ret [])))))) (mSeq (mIf (mOrT (mNotT (mB (mCall den__law_numbers (mCons (mVar 11) (mCons (M.ret (rSc (.int 2))) (M.ret [])))))) (mB (mBin (dEq true) (mVar 11) (mCall den__law_due_gap (mCons (mVar 3) (mCons (mVar 8) (mCons (mVar 7) (M.ret [])))))))) (mRet [0] (M.ret (rSc (.bl false)))) (M.ret .nx)) (mSeq (mIf (mNotT (mB (mCall den__law_says (mCons (mCallK den_near (mCons (mVar 4) (mCons (mVar 5) (M.ret []))) (mCons (mVar 9) (mCons (mVar 10) (M.ret [])))) (mCons (mCall den__law_near (mCons (mVar 3) (mCons (mVar 5) (mCons (mVar 8) (mCons (mVar 7) (M.ret [])))))) (M.ret [])))))) (mRet [0] (M.ret (rSc (.bl false)))) (M.ret .nx)) (mIf (mNotT (mB (mCall den__law_least_near (mCons (mVar 3) (mCons (mVar 8) (mCons (mVar 7) (mCons (mCall den_near_from (mCons (mVar 4) (mCons (mVar 9) (mCons (mVar 10) (M.ret []))))) (M.ret [])))))))) (mRet [0] (M.ret (rSc (.bl false)))) (M.ret .nx)))))))) (mIf (mAndT (mB (mBin (dEq true) (mVar 3) (mLst (M.ret [])))) (mNotT (mB (mCall den__law_refusals (mCons (mVar 1) (mCons (mVar 4) (mCons (mVar 5) (mCons (mFn fLen (mCons (mVar 3) (M.ret []))) (M.ret []))))))))) (mRet [0] (M.ret (rSc (.bl false)))) (M.ret .nx)))))))))) (mRet [0] (M.ret (rSc (.bl true)))))
noncomputable def den_law : Den := denOf 1 11 [0] m_law
noncomputable def m_Drawing___eq__ : M Fl := mSeq (mIf (mNotT (mB (mUn (dIsi ocs oes anc (.own "Drawing")) (mVar 1)))) (mRet [0, 1] (M.ret (rSc (.bl false)))) (M.ret .nx)) (mRet [0, 1] (mBin (dEq false) (mUn (dFld cf "blocks") (mVar 0)) (mUn (dFld cf "blocks") (mVar 1))))
noncomputable def den_Drawing___eq__ : Den := denOf 2 0 [0, 1] m_Drawing___eq__
noncomputable def m_Drawing___contains__ : M Fl := mRet [0, 1] (mAndV (mCall den_is_block (mCons (mVar 1) (M.ret []))) (mBin (dIn false) (mVar 1) (mUn (dFld cf "blocks") (mVar 0))))
noncomputable def den_Drawing___contains__ : Den := denOf 2 0 [0, 1] m_Drawing___contains__
theorem Z.ok_is_size (Z : Z C base) : FV C C.P C.w base 1 "is_size" s_is_size ["thing"] den_is_size := by
  obtain ⟨fd, F⟩ := Z.fd_is_size
  refine fv_of (k := 0) (N := ["thing"]) (pin := [0]) (m := m_is_size) F sc_is_size Z.glo_is_size (by decide) ?_
  intro cdv A outer s H E hr
  exact ⟨_, ss_one (s_ret (se_and (se_isi (u := .ty "int") Z.ko (by rfl) Z.free_isinstance (.ty (by decide)) (pe_bltn (by rfl) Z.free_int (by decide +kernel) rfl) (se_var 0 (pv 0))) (se_and (se_not (se_isi (u := .ty "bool") Z.ko (by rfl) Z.free_isinstance (.ty (by decide)) (pe_bltn (by rfl) Z.free_bool (by decide +kernel) rfl) (se_var 0 (pv 0)))) (se_one (cmp o_ge (se_var 0 (pv 0)) (se_int))))))⟩
theorem Z.ok_is_body (Z : Z C base) : FV C C.P C.w base 2 "is_body" s_is_body ["thing"] den_is_body := by
  obtain ⟨fd, F⟩ := Z.fd_is_body
  refine fv_of (k := 1) (N := ["thing"]) (pin := [0]) (m := m_is_body) F sc_is_body Z.glo_is_body (by decide) ?_
  intro cdv A outer s H E hr
  exact ⟨_, ss_one (s_ret (se_and (se_isi (u := .ty "tuple") Z.ko (by rfl) Z.free_isinstance (.ty (by decide)) (pe_bltn (by rfl) Z.free_tuple (by decide +kernel) rfl) (se_var 0 (pv 0))) (se_and (cmp (o_eq (u65 hr)) (fnb f_len Z.free_len (sa_cons (se_var 0 (pv 0)) (sa_nil))) (se_int)) (se_and (se_call Z.ok_is_size (takes_of rfl rfl rfl rfl) (rmono hr (by decide)) (by rfl) (sa_cons (se_ixX (u64 hr) (se_var 0 (pv 0)) (se_int)) (sa_nil)) (fun _ _ _ _ _ _ us hl => match us, hl with | [_], _ => rfl) (len_cons len_nil)) (se_one (se_call Z.ok_is_size (takes_of rfl rfl rfl rfl) (rmono hr (by decide)) (by rfl) (sa_cons (se_ixX (u64 hr) (se_var 0 (pv 0)) (se_int)) (sa_nil)) (fun _ _ _ _ _ _ us hl => match us, hl with | [_], _ => rfl) (len_cons len_nil)))))))⟩
theorem Z.ok_is_whole (Z : Z C base) : FV C C.P C.w base 1 "is_whole" s_is_whole ["thing"] den_is_whole := by
  obtain ⟨fd, F⟩ := Z.fd_is_whole
  refine fv_of (k := 0) (N := ["thing"]) (pin := [0]) (m := m_is_whole) F sc_is_whole Z.glo_is_whole (by decide) ?_
  intro cdv A outer s H E hr
  exact ⟨_, ss_one (s_ret (se_and (se_isi (u := .ty "int") Z.ko (by rfl) Z.free_isinstance (.ty (by decide)) (pe_bltn (by rfl) Z.free_int (by decide +kernel) rfl) (se_var 0 (pv 0))) (se_one (se_not (se_isi (u := .ty "bool") Z.ko (by rfl) Z.free_isinstance (.ty (by decide)) (pe_bltn (by rfl) Z.free_bool (by decide +kernel) rfl) (se_var 0 (pv 0)))))))⟩
theorem Z.ok_are_numbers (Z : Z C base) : FV C C.P C.w base 2 "are_numbers" s_are_numbers ["thing", "many"] den_are_numbers := by
  obtain ⟨fd, F⟩ := Z.fd_are_numbers
  refine fv_of (k := 1) (N := ["thing", "many", "item"]) (pin := [0, 1]) (m := m_are_numbers) F sc_are_numbers Z.glo_are_numbers (by decide) ?_
  intro cdv A outer s H E hr
  exact ⟨_, ss_one (s_ret (se_and (se_isi (u := .ty "tuple") Z.ko (by rfl) Z.free_isinstance (.ty (by decide)) (pe_bltn (by rfl) Z.free_tuple (by decide +kernel) rfl) (se_var 0 (pv 0))) (se_and (cmp (o_eq (u65 hr)) (fnb f_len Z.free_len (sa_cons (se_var 0 (pv 0)) (sa_nil))) (se_var 1 (pv 1))) (se_one (fnb f_all Z.free_all (sa_cons (se_lc (own := [("item", 2)]) rfl sc_are_numbers.nd (si_seq (se_var 0 (pv 0))) (by exact blkOk_by (N := ["thing", "many", "item"]) (sc := defScope s_are_numbers) (own := [("item", 2)]) (by decide +kernel)) (fun _ _ _ _ _ => pg_name (i := 2) sc_are_numbers.nd rfl (by first | exact .inl rfl | exact .inr rfl)) (sg_name (P := []) (i := 2) (by decide)) (fun _ _ _ _ _ => sq_nil) (fun _ _ _ _ _ => se_call Z.ok_is_whole LamX.takes0 (rmono hr (by decide)) (by rfl) (sa_cons (se_var 2 (pv 2)) (sa_nil)) (fun _ _ _ _ _ _ us hl => match us, hl with | [_], _ => rfl) (len_cons len_nil))) (sa_nil)))))))⟩
theorem Z.ok_is_block (Z : Z C base) : FV C C.P C.w base 3 "is_block" s_is_block ["thing"] den_is_block := by
  obtain ⟨fd, F⟩ := Z.fd_is_block
  refine fv_of (k := 2) (N := ["thing"]) (pin := [0]) (m := m_is_block) F sc_is_block Z.glo_is_block (by decide) ?_
  intro cdv A outer s H E hr
  exact ⟨_, ss_one (s_ret (se_and (se_call Z.ok_are_numbers (takes_of rfl rfl rfl rfl) (rmono hr (by decide)) (by rfl) (sa_cons (se_var 0 (pv 0)) (sa_cons (se_int) (sa_nil))) (fun _ _ _ _ _ _ us hl => match us, hl with | [_, _], _ => rfl) (len_cons (len_cons len_nil))) (se_and (cmp o_lt (se_ixX (u64 hr) (se_var 0 (pv 0)) (se_int)) (se_ixX (u64 hr) (se_var 0 (pv 0)) (se_int))) (se_one (cmp o_lt (se_ixX (u64 hr) (se_var 0 (pv 0)) (se_int)) (se_ixX (u64 hr) (se_var 0 (pv 0)) (se_int)))))))⟩
theorem Z.ok_are_blocks (Z : Z C base) : FV C C.P C.w base 4 "are_blocks" s_are_blocks ["thing"] den_are_blocks := by
  obtain ⟨fd, F⟩ := Z.fd_are_blocks
  refine fv_of (k := 3) (N := ["thing", "item"]) (pin := [0]) (m := m_are_blocks) F sc_are_blocks Z.glo_are_blocks (by decide) ?_
  intro cdv A outer s H E hr
  exact ⟨_, ss_cons (s_if ((sw_or (st_not (st_val (se_isiA (us := ["list", "tuple"]) (by rfl) Z.free_isinstance (by decide) (by decide) (pa_cons (pe_bltn (by rfl) Z.free_list (by decide +kernel) rfl) (pa_cons (pe_bltn (by rfl) Z.free_tuple (by decide +kernel) rfl) pa_nil)) (se_var 0 (pv 0))))) (sw_or (tcmp o_gt (fnb f_len Z.free_len (sa_cons (se_var 0 (pv 0)) (sa_nil))) (se_gi (Z.int_MOST_BLOCKS).choose_spec ⟨_, rfl⟩)) (sw_or1 (st_not (st_val (fnb f_all Z.free_all (sa_cons (se_lc (own := [("item", 1)]) rfl sc_are_blocks.nd (si_seq (se_var 0 (pv 0))) (by exact blkOk_by (N := ["thing", "item"]) (sc := defScope s_are_blocks) (own := [("item", 1)]) (by decide +kernel)) (fun _ _ _ _ _ => pg_name (i := 1) sc_are_blocks.nd rfl (by first | exact .inl rfl | exact .inr rfl)) (sg_name (P := []) (i := 1) (by decide)) (fun _ _ _ _ _ => sq_nil) (fun _ _ _ _ _ => se_call Z.ok_is_block LamX.takes0 (rmono hr (by decide)) (by rfl) (sa_cons (se_var 1 (pv 1)) (sa_nil)) (fun _ _ _ _ _ _ us hl => match us, hl with | [_], _ => rfl) (len_cons len_nil))) (sa_nil)))))))).t) (ss_one (s_ret (se_bl))) (ss_nil)) (ss_one (s_ret (cmp (o_eq (u65 hr)) (se_lenSet (by rfl) (u64 hr) (by rfl) Z.free_len (by rfl) Z.free_set (se_var 0 (pv 0))) (fnb f_len Z.free_len (sa_cons (se_var 0 (pv 0)) (sa_nil))))))⟩
theorem Z.ok_is_number (Z : Z C base) : FV C C.P C.w base 1 "is_number" s_is_number ["thing"] den_is_number := by
  obtain ⟨fd, F⟩ := Z.fd_is_number
  refine fv_of (k := 0) (N := ["thing"]) (pin := [0]) (m := m_is_number) F sc_is_number Z.glo_is_number (by decide) ?_
  intro cdv A outer s H E hr
  exact ⟨_, ss_one (s_ret (se_and (se_isi (u := .ty "int") Z.ko (by rfl) Z.free_isinstance (.ty (by decide)) (pe_bltn (by rfl) Z.free_int (by decide +kernel) rfl) (se_var 0 (pv 0))) (se_one (se_not (se_isi (u := .ty "bool") Z.ko (by rfl) Z.free_isinstance (.ty (by decide)) (pe_bltn (by rfl) Z.free_bool (by decide +kernel) rfl) (se_var 0 (pv 0)))))))⟩
theorem Z.ok_need_drawing (Z : Z C base) : FV C C.P C.w base 1 "need_drawing" s_need_drawing ["drawing"] den_need_drawing := by
  obtain ⟨fd, F⟩ := Z.fd_need_drawing
  refine fv_of (k := 0) (N := ["drawing"]) (pin := [0]) (m := m_need_drawing) F sc_need_drawing Z.glo_need_drawing (by decide) ?_
  intro cdv A outer s H E hr
  exact ⟨_, ss_one (s_if (st_not (st_val (se_isi (u := .own "Drawing") Z.ko (by rfl) Z.free_isinstance (.own Z.glo_Drawing) (pe_glob (by rfl) Z.glo_Drawing rfl) (se_var 0 (pv 0))))) (ss_one (s_raise (by rfl) (takes_of rfl rfl rfl rfl) (by rfl) Z.eo_BadDrawing Z.rs_BadDrawing)) (ss_nil))⟩
theorem Z.ok_need_body (Z : Z C base) : FV C C.P C.w base 3 "need_body" s_need_body ["body"] den_need_body := by
  obtain ⟨fd, F⟩ := Z.fd_need_body
  refine fv_of (k := 2) (N := ["body"]) (pin := [0]) (m := m_need_body) F sc_need_body Z.glo_need_body (by decide) ?_
  intro cdv A outer s H E hr
  exact ⟨_, ss_one (s_if (st_not (st_val (se_call Z.ok_is_body (takes_of rfl rfl rfl rfl) (rmono hr (by decide)) (by rfl) (sa_cons (se_var 0 (pv 0)) (sa_nil)) (fun _ _ _ _ _ _ us hl => match us, hl with | [_], _ => rfl) (len_cons len_nil)))) (ss_one (s_raise (by rfl) (takes_of rfl rfl rfl rfl) (by rfl) Z.eo_BadBody Z.rs_BadBody)) (ss_nil))⟩
theorem Z.ok_Drawing___len__ (Z : Z C base) : FM C C.P C.w base 1 (He.ma C.K (He.ga C.K "Drawing") "__len__") "Drawing.__len__" "__len__" s_Drawing___len__ ["self"] den_Drawing___len__ := by
  obtain ⟨fd, F⟩ := Z.fd_Drawing___len__
  refine ⟨fm_of (k := 0) (N := ["self"]) (pin := [0]) (m := m_Drawing___len__) F sc_Drawing___len__ (by decide) ?_⟩
  intro cdv A outer s H E hr
  exact ⟨_, ss_one (s_ret (fnb f_len Z.free_len (sa_cons (se_fld Z.cf (se_var 0 (pv 0))) (sa_nil))))⟩
theorem Z.ok_need_index (Z : Z C base) : FV C C.P C.w base 3 "need_index" s_need_index ["drawing", "i"] den_need_index := by
  obtain ⟨fd, F⟩ := Z.fd_need_index
  refine fv_of (k := 2) (N := ["drawing", "i"]) (pin := [0, 1]) (m := m_need_index) F sc_need_index Z.glo_need_index (by decide) ?_
  intro cdv A outer s H E hr
  exact ⟨_, ss_one (s_if ((sw_or (st_not (st_val (se_call Z.ok_is_number (takes_of rfl rfl rfl rfl) (rmono hr (by decide)) (by rfl) (sa_cons (se_var 1 (pv 1)) (sa_nil)) (fun _ _ _ _ _ _ us hl => match us, hl with | [_], _ => rfl) (len_cons len_nil)))) (sw_or1 (st_not (tchn o_le o_lt (se_int) (se_var 1 (pv 1)) (se_lenI (Z.glo_Drawing) Z.mt_Drawing___len__ Z.ok_Drawing___len__ (rmono hr (by decide)) (by rfl) Z.free_len (se_var 0 (pv 0)) (fun _ _ _ _ _ _ us hl => match us, hl with | [_], _ => rfl)))))).t) (ss_one (s_raise (by rfl) (takes_of rfl rfl rfl rfl) (by rfl) Z.eo_BadIndex Z.rs_BadIndex)) (ss_nil))⟩
theorem Z.ok_need_two (Z : Z C base) : FV C C.P C.w base 4 "need_two" s_need_two ["drawing", "body"] den_need_two := by
  obtain ⟨fd, F⟩ := Z.fd_need_two
  refine fv_of (k := 3) (N := ["drawing", "body"]) (pin := [0, 1]) (m := m_need_two) F sc_need_two Z.glo_need_two (by decide) ?_
  intro cdv A outer s H E hr
  exact ⟨_, ss_cons (s_expr (se_call Z.ok_need_drawing (takes_of rfl rfl rfl rfl) (rmono hr (by decide)) (by rfl) (sa_cons (se_var 0 (pv 0)) (sa_nil)) (fun _ _ _ _ _ _ us hl => match us, hl with | [_], _ => rfl) (len_cons len_nil))) (ss_one (s_expr (se_call Z.ok_need_body (takes_of rfl rfl rfl rfl) (rmono hr (by decide)) (by rfl) (sa_cons (se_var 1 (pv 1)) (sa_nil)) (fun _ _ _ _ _ _ us hl => match us, hl with | [_], _ => rfl) (len_cons len_nil))))⟩
theorem Z.ok_need_pair (Z : Z C base) : FV C C.P C.w base 4 "need_pair" s_need_pair ["drawing", "i", "j"] den_need_pair := by
  obtain ⟨fd, F⟩ := Z.fd_need_pair
  refine fv_of (k := 3) (N := ["drawing", "i", "j"]) (pin := [0, 1, 2]) (m := m_need_pair) F sc_need_pair Z.glo_need_pair (by decide) ?_
  intro cdv A outer s H E hr
  exact ⟨_, ss_cons (s_expr (se_call Z.ok_need_index (takes_of rfl rfl rfl rfl) (rmono hr (by decide)) (by rfl) (sa_cons (se_var 0 (pv 0)) (sa_cons (se_var 1 (pv 1)) (sa_nil))) (fun _ _ _ _ _ _ us hl => match us, hl with | [_, _], _ => rfl) (len_cons (len_cons len_nil)))) (ss_cons (s_expr (se_call Z.ok_need_index (takes_of rfl rfl rfl rfl) (rmono hr (by decide)) (by rfl) (sa_cons (se_var 0 (pv 0)) (sa_cons (se_var 2 (pv 2)) (sa_nil))) (fun _ _ _ _ _ _ us hl => match us, hl with | [_, _], _ => rfl) (len_cons (len_cons len_nil)))) (ss_one (s_if (tcmp (o_eq (u65 hr)) (se_var 1 (pv 1)) (se_var 2 (pv 2))) (ss_one (s_raise (by rfl) (takes_of rfl rfl rfl rfl) (by rfl) Z.eo_BadPair Z.rs_BadPair)) (ss_nil))))⟩
theorem Z.ok_gap_of (Z : Z C base) : FV C C.P C.w base 1 "gap_of" s_gap_of ["blocks", "i", "j"] den_gap_of := by
  obtain ⟨fd, F⟩ := Z.fd_gap_of
  refine fv_of (k := 0) (N := ["blocks", "i", "j", "one", "other"]) (pin := [0, 1, 2]) (m := m_gap_of) F sc_gap_of Z.glo_gap_of (by decide) ?_
  intro cdv A outer s H E hr
  exact ⟨_, ss_cons (s_par rfl sc_gap_of.nd rfl rfl (se_ixX (u64 hr) (se_var 0 (pv 0)) (se_var 1 (pv 1))) (se_ixX (u64 hr) (se_var 0 (pv 0)) (se_var 2 (pv 2))) (by rfl)) (ss_one (s_ret (se_tup (sa_cons (fnb f_max Z.free_max (sa_cons (b_sub (se_ixX (u64 hr) (se_var 4 (pv 4)) (se_int)) (se_ixX (u64 hr) (se_var 3 (pv 3)) (se_int))) (sa_cons (b_sub (se_ixX (u64 hr) (se_var 3 (pv 3)) (se_int)) (se_ixX (u64 hr) (se_var 4 (pv 4)) (se_int))) (sa_nil)))) (sa_cons (fnb f_max Z.free_max (sa_cons (b_sub (se_ixX (u64 hr) (se_var 4 (pv 4)) (se_int)) (se_ixX (u64 hr) (se_var 3 (pv 3)) (se_int))) (sa_cons (b_sub (se_ixX (u64 hr) (se_var 3 (pv 3)) (se_int)) (se_ixX (u64 hr) (se_var 4 (pv 4)) (se_int))) (sa_nil)))) (sa_nil))) (len_cons (len_cons len_nil)))))⟩
theorem Z.ok_near_of (Z : Z C base) : FV C C.P C.w base 2 "near_of" s_near_of ["blocks", "body", "i", "j"] den_near_of := by
  obtain ⟨fd, F⟩ := Z.fd_near_of
  refine fv_of (k := 1) (N := ["blocks", "body", "i", "j", "across", "up"]) (pin := [0, 1, 2, 3]) (m := m_near_of) F sc_near_of Z.glo_near_of (by decide) ?_
  intro cdv A outer s H E hr
  exact ⟨_, ss_cons (s_asg (se_call Z.ok_gap_of (takes_of rfl rfl rfl rfl) (rmono hr (by decide)) (by rfl) (sa_cons (se_var 0 (pv 0)) (sa_cons (se_var 2 (pv 2)) (sa_cons (se_var 3 (pv 3)) (sa_nil)))) (fun _ _ _ _ _ _ us hl => match us, hl with | [_, _, _], _ => rfl) (len_cons (len_cons (len_cons len_nil)))) (pgK (g := fun K => gTup K 2 _) (pg_tup (by rfl) (pgs_cons (pg_name (i := 4) sc_near_of.nd rfl (by first | exact .inl rfl | exact .inr rfl)) (pgs_cons (pg_name (i := 5) sc_near_of.nd rfl (by first | exact .inl rfl | exact .inr rfl)) (pgs_nil))))) (sg_tup (P := [0, 1, 2, 3]) (is := [4, 5]) (n := 2) (by decide) rfl)) (ss_one (s_ret (se_and (cmp o_lt (se_var 4 (pv 4)) (se_ixX (u64 hr) (se_var 1 (pv 1)) (se_int))) (se_one (cmp o_lt (se_var 5 (pv 5)) (se_ixX (u64 hr) (se_var 1 (pv 1)) (se_int)))))))⟩
theorem Z.ok_pairs_of (Z : Z C base) : FV C C.P C.w base 3 "pairs_of" s_pairs_of ["blocks", "body"] den_pairs_of := by
  obtain ⟨fd, F⟩ := Z.fd_pairs_of
  refine fv_of (k := 2) (N := ["blocks", "body", "many", "i", "j"]) (pin := [0, 1]) (m := m_pairs_of) F sc_pairs_of Z.glo_pairs_of (by decide) ?_
  intro cdv A outer s H E hr
  exact ⟨_, ss_cons (s_set sc_pairs_of.nd rfl (by first | exact .inl rfl | exact .inr rfl) (fnb f_len Z.free_len (sa_cons (se_var 0 (pv 0)) (sa_nil)))) (ss_one (s_ret (se_lc2 (own := [("i", 3), ("j", 4)]) (vs1 := [4]) rfl sc_pairs_of.nd (si_rng1 (by rfl) Z.free_range (sa_cons (se_var 2 (pv 2)) (sa_nil))) (by exact blkOk_by (N := ["blocks", "body", "many", "i", "j"]) (sc := defScope s_pairs_of) (own := [("i", 3), ("j", 4)]) (by decide +kernel)) (by decide) (fun _ _ _ _ _ => pg_name (i := 3) sc_pairs_of.nd rfl (by first | exact .inl rfl | exact .inr rfl)) (sg_name (P := []) (i := 3) (by decide)) (fun _ _ _ _ _ => sq_nil) (fun _ _ _ _ _ => si_rng2 (by rfl) Z.free_range (sa_cons (b_add (se_var 3 (pv 3)) (se_int)) (sa_cons (se_var 2 (pv 2)) (sa_nil)))) (fun _ _ _ _ _ => pg_name (i := 4) sc_pairs_of.nd rfl (by first | exact .inl rfl | exact .inr rfl)) (sg_name (P := []) (i := 4) (by decide)) (fun _ _ _ _ _ => sq_one (st_val (se_call Z.ok_near_of LamX.takes0 (rmono hr (by decide)) (by rfl) (sa_cons (se_var 0 (pv 0)) (sa_cons (se_var 1 (pv 1)) (sa_cons (se_var 3 (pv 3)) (sa_cons (se_var 4 (pv 4)) (sa_nil))))) (fun _ _ _ _ _ _ us hl => match us, hl with | [_, _, _, _], _ => rfl) (len_cons (len_cons (len_cons (len_cons len_nil))))))) (fun _ _ _ _ _ => se_tup (sa_cons (se_var 3 (pv 3)) (sa_cons (se_var 4 (pv 4)) (sa_nil))) (len_cons (len_cons len_nil))))))⟩
theorem Z.ok_from_of (Z : Z C base) : FV C C.P C.w base 2 "from_of" s_from_of ["blocks", "i", "j"] den_from_of := by
  obtain ⟨fd, F⟩ := Z.fd_from_of
  refine fv_of (k := 1) (N := ["blocks", "i", "j", "across", "up"]) (pin := [0, 1, 2]) (m := m_from_of) F sc_from_of Z.glo_from_of (by decide) ?_
  intro cdv A outer s H E hr
  exact ⟨_, ss_cons (s_asg (se_call Z.ok_gap_of (takes_of rfl rfl rfl rfl) (rmono hr (by decide)) (by rfl) (sa_cons (se_var 0 (pv 0)) (sa_cons (se_var 1 (pv 1)) (sa_cons (se_var 2 (pv 2)) (sa_nil)))) (fun _ _ _ _ _ _ us hl => match us, hl with | [_, _, _], _ => rfl) (len_cons (len_cons (len_cons len_nil)))) (pgK (g := fun K => gTup K 2 _) (pg_tup (by rfl) (pgs_cons (pg_name (i := 3) sc_from_of.nd rfl (by first | exact .inl rfl | exact .inr rfl)) (pgs_cons (pg_name (i := 4) sc_from_of.nd rfl (by first | exact .inl rfl | exact .inr rfl)) (pgs_nil))))) (sg_tup (P := [0, 1, 2]) (is := [3, 4]) (n := 2) (by decide) rfl)) (ss_one (s_ret (se_tup (sa_cons (fnb f_max Z.free_max (sa_cons (se_int) (sa_cons (b_add (se_var 3 (pv 3)) (se_int)) (sa_nil)))) (sa_cons (fnb f_max Z.free_max (sa_cons (se_int) (sa_cons (b_add (se_var 4 (pv 4)) (se_int)) (sa_nil)))) (sa_nil))) (len_cons (len_cons len_nil)))))⟩
theorem Z.ok_gap (Z : Z C base) : FV C C.P C.w base 5 "gap" s_gap ["drawing", "i", "j"] den_gap := by
  obtain ⟨fd, F⟩ := Z.fd_gap
  refine fv_of (k := 4) (N := ["drawing", "i", "j"]) (pin := [0, 1, 2]) (m := m_gap) F sc_gap Z.glo_gap (by decide) ?_
  intro cdv A outer s H E hr
  exact ⟨_, ss_cons (s_expr (se_call Z.ok_need_drawing (takes_of rfl rfl rfl rfl) (rmono hr (by decide)) (by rfl) (sa_cons (se_var 0 (pv 0)) (sa_nil)) (fun _ _ _ _ _ _ us hl => match us, hl with | [_], _ => rfl) (len_cons len_nil))) (ss_cons (s_expr (se_call Z.ok_need_pair (takes_of rfl rfl rfl rfl) (rmono hr (by decide)) (by rfl) (sa_cons (se_var 0 (pv 0)) (sa_cons (se_var 1 (pv 1)) (sa_cons (se_var 2 (pv 2)) (sa_nil)))) (fun _ _ _ _ _ _ us hl => match us, hl with | [_, _, _], _ => rfl) (len_cons (len_cons (len_cons len_nil))))) (ss_one (s_ret (se_call Z.ok_gap_of (takes_of rfl rfl rfl rfl) (rmono hr (by decide)) (by rfl) (sa_cons (se_fld Z.cf (se_var 0 (pv 0))) (sa_cons (se_var 1 (pv 1)) (sa_cons (se_var 2 (pv 2)) (sa_nil)))) (fun _ _ _ _ _ _ us hl => match us, hl with | [_, _, _], _ => rfl) (len_cons (len_cons (len_cons len_nil)))))))⟩
theorem Z.ok_near (Z : Z C base) : FV C C.P C.w base 5 "near" s_near ["drawing", "body", "i", "j"] den_near := by
  obtain ⟨fd, F⟩ := Z.fd_near
  refine fv_of (k := 4) (N := ["drawing", "body", "i", "j"]) (pin := [0, 1, 2, 3]) (m := m_near) F sc_near Z.glo_near (by decide) ?_
  intro cdv A outer s H E hr
  exact ⟨_, ss_cons (s_expr (se_call Z.ok_need_two (takes_of rfl rfl rfl rfl) (rmono hr (by decide)) (by rfl) (sa_cons (se_var 0 (pv 0)) (sa_cons (se_var 1 (pv 1)) (sa_nil))) (fun _ _ _ _ _ _ us hl => match us, hl with | [_, _], _ => rfl) (len_cons (len_cons len_nil)))) (ss_cons (s_expr (se_call Z.ok_need_pair (takes_of rfl rfl rfl rfl) (rmono hr (by decide)) (by rfl) (sa_cons (se_var 0 (pv 0)) (sa_cons (se_var 2 (pv 2)) (sa_cons (se_var 3 (pv 3)) (sa_nil)))) (fun _ _ _ _ _ _ us hl => match us, hl with | [_, _, _], _ => rfl) (len_cons (len_cons (len_cons len_nil))))) (ss_one (s_ret (se_call Z.ok_near_of (takes_of rfl rfl rfl rfl) (rmono hr (by decide)) (by rfl) (sa_cons (se_fld Z.cf (se_var 0 (pv 0))) (sa_cons (se_var 1 (pv 1)) (sa_cons (se_var 2 (pv 2)) (sa_cons (se_var 3 (pv 3)) (sa_nil))))) (fun _ _ _ _ _ _ us hl => match us, hl with | [_, _, _, _], _ => rfl) (len_cons (len_cons (len_cons (len_cons len_nil))))))))⟩
theorem Z.ok_near_pairs (Z : Z C base) : FV C C.P C.w base 5 "near_pairs" s_near_pairs ["drawing", "body"] den_near_pairs := by
  obtain ⟨fd, F⟩ := Z.fd_near_pairs
  refine fv_of (k := 4) (N := ["drawing", "body"]) (pin := [0, 1]) (m := m_near_pairs) F sc_near_pairs Z.glo_near_pairs (by decide) ?_
  intro cdv A outer s H E hr
  exact ⟨_, ss_cons (s_expr (se_call Z.ok_need_two (takes_of rfl rfl rfl rfl) (rmono hr (by decide)) (by rfl) (sa_cons (se_var 0 (pv 0)) (sa_cons (se_var 1 (pv 1)) (sa_nil))) (fun _ _ _ _ _ _ us hl => match us, hl with | [_, _], _ => rfl) (len_cons (len_cons len_nil)))) (ss_one (s_ret (se_call Z.ok_pairs_of (takes_of rfl rfl rfl rfl) (rmono hr (by decide)) (by rfl) (sa_cons (se_fld Z.cf (se_var 0 (pv 0))) (sa_cons (se_var 1 (pv 1)) (sa_nil))) (fun _ _ _ _ _ _ us hl => match us, hl with | [_, _], _ => rfl) (len_cons (len_cons len_nil)))))⟩
theorem Z.ok_near_from (Z : Z C base) : FV C C.P C.w base 5 "near_from" s_near_from ["drawing", "i", "j"] den_near_from := by
  obtain ⟨fd, F⟩ := Z.fd_near_from
  refine fv_of (k := 4) (N := ["drawing", "i", "j"]) (pin := [0, 1, 2]) (m := m_near_from) F sc_near_from Z.glo_near_from (by decide) ?_
  intro cdv A outer s H E hr
  exact ⟨_, ss_cons (s_expr (se_call Z.ok_need_drawing (takes_of rfl rfl rfl rfl) (rmono hr (by decide)) (by rfl) (sa_cons (se_var 0 (pv 0)) (sa_nil)) (fun _ _ _ _ _ _ us hl => match us, hl with | [_], _ => rfl) (len_cons len_nil))) (ss_cons (s_expr (se_call Z.ok_need_pair (takes_of rfl rfl rfl rfl) (rmono hr (by decide)) (by rfl) (sa_cons (se_var 0 (pv 0)) (sa_cons (se_var 1 (pv 1)) (sa_cons (se_var 2 (pv 2)) (sa_nil)))) (fun _ _ _ _ _ _ us hl => match us, hl with | [_, _, _], _ => rfl) (len_cons (len_cons (len_cons len_nil))))) (ss_one (s_ret (se_call Z.ok_from_of (takes_of rfl rfl rfl rfl) (rmono hr (by decide)) (by rfl) (sa_cons (se_fld Z.cf (se_var 0 (pv 0))) (sa_cons (se_var 1 (pv 1)) (sa_cons (se_var 2 (pv 2)) (sa_nil)))) (fun _ _ _ _ _ _ us hl => match us, hl with | [_, _, _], _ => rfl) (len_cons (len_cons (len_cons len_nil)))))))⟩
theorem Z.ok__law_begun (Z : Z C base) : FV C C.P C.w base 1 "_law_begun" s__law_begun ["_law_script"] den__law_begun := by
  obtain ⟨fd, F⟩ := Z.fd__law_begun
  refine fv_of (k := 0) (N := ["_law_script", "_law_great", "_law_cell"]) (pin := [0]) (m := m__law_begun) F sc__law_begun Z.glo__law_begun (by decide) ?_
  intro cdv A outer s H E hr
  exact ⟨_, ss_cons (s_setLc (own := [("_law_cell", 2)]) rfl sc__law_begun.nd rfl (si_sc (pv 0)) (by exact blkOk_by (N := ["_law_script", "_law_great", "_law_cell"]) (sc := defScope s__law_begun) (own := [("_law_cell", 2)]) (by decide +kernel)) (fun _ _ _ _ _ => pg_name (i := 2) sc__law_begun.nd rfl (by first | exact .inl rfl | exact .inr rfl)) (sg_name (P := []) (i := 2) (by decide)) (fun _ _ _ _ _ => sq_one (tcmp o_ge (fnb f_abs Z.free_abs (sa_cons (se_var 2 (pv 2)) (sa_nil))) (b_pow (se_int) (se_int)))) (fun _ _ _ _ _ => b_sub (fnb f_abs Z.free_abs (sa_cons (se_var 2 (pv 2)) (sa_nil))) (b_pow (se_int) (se_int))) (sw_true rfl rfl rfl (by decide +kernel))) (ss_one (s_ret (se_drNew (pv 1) (se_lc (own := [("_law_cell", 2)]) rfl sc__law_begun.nd (si_sc (pv 0)) (by exact blkOk_by (N := ["_law_script", "_law_great", "_law_cell"]) (sc := defScope s__law_begun) (own := [("_law_cell", 2)]) (by decide +kernel)) (fun _ _ _ _ _ => pg_name (i := 2) sc__law_begun.nd rfl (by first | exact .inl rfl | exact .inr rfl)) (sg_name (P := []) (i := 2) (by decide)) (fun _ _ _ _ _ => sq_nil) (fun _ _ _ _ _ => b_mod (fnt f_int Z.free_int (sa_cons (fnb f_abs Z.free_abs (sa_cons (se_var 2 (pv 2)) (sa_nil))) (sa_nil))) (se_int))))))⟩
theorem Z.ok__law_mixed (Z : Z C base) : FV C C.P C.w base 1 "_law_mixed" s__law_mixed ["_law_draw"] den__law_mixed := by
  obtain ⟨fd, F⟩ := Z.fd__law_mixed
  refine fv_of (k := 0) (N := ["_law_draw", "_law_turn", "_law_found", "_law_prime", "_law_blend", "_law_cell"]) (pin := [0]) (m := m__law_mixed) F sc__law_mixed Z.glo__law_mixed (by decide) ?_
  intro cdv A outer s H E hr
  exact ⟨_, ss_cons (s_par rfl sc__law_mixed.nd rfl rfl (b_add (se_dr .turn (u64 hr) (pv 0)) (se_int)) (se_int) (by rfl)) (ss_cons (s_drput .turn (u64 hr) (pv 0) (se_var 1 (pv 1))) (ss_cons (s_for rfl (passes_of rfl) (si_seq (se_lst (sa_cons (se_int) (sa_cons (se_int) (sa_cons (se_int) (sa_cons (se_int) (sa_nil))))) (len_cons (len_cons (len_cons (len_cons len_nil)))))) (pg_name (i := 3) sc__law_mixed.nd rfl (by first | exact .inl rfl | exact .inr rfl)) (sg_name (P := [0]) (i := 3) (by decide)) (ss_cons (s_set sc__law_mixed.nd rfl (by first | exact .inl rfl | exact .inr rfl) (b_add (b_mul (se_int) (se_var 1 (pv 1))) (b_div (se_var 3 (pv 3)) (se_int)))) (ss_cons (s_for rfl (passes_of rfl) (si_seq (se_dr .cells (u64 hr) (pv 0))) (pg_name (i := 5) sc__law_mixed.nd rfl (by first | exact .inl rfl | exact .inr rfl)) (sg_name (P := [0]) (i := 5) (by decide)) (ss_one (s_set sc__law_mixed.nd rfl (by first | exact .inl rfl | exact .inr rfl) (b_mod (fnt f_int Z.free_int (sa_cons (b_add (b_add (b_mul (se_var 4 (pv 4)) (se_int)) (se_var 5 (pv 5))) (se_var 1 (pv 1))) (sa_nil))) (se_var 3 (pv 3)))))) (ss_one (s_set sc__law_mixed.nd rfl (by first | exact .inl rfl | exact .inr rfl) (b_add (b_mul (se_var 2 (pv 2)) (se_int)) (b_mod (fnt f_int Z.free_int (sa_cons (b_pow (se_var 4 (pv 4)) (se_int)) (sa_nil))) (se_var 3 (pv 3))))))))) (ss_one (s_ret (se_var 2 (pv 2))))))⟩
theorem Z.ok__law_take (Z : Z C base) : FV C C.P C.w base 2 "_law_take" s__law_take ["_law_draw", "_law_many"] den__law_take := by
  obtain ⟨fd, F⟩ := Z.fd__law_take
  refine fv_of (k := 1) (N := ["_law_draw", "_law_many", "_law_found"]) (pin := [0, 1]) (m := m__law_take) F sc__law_take Z.glo__law_take (by decide) ?_
  intro cdv A outer s H E hr
  exact ⟨_, ss_cons (s_if (tcmp (o_eq (u65 hr)) (se_dr .left (u64 hr) (pv 0)) (se_int)) (ss_one (s_drput .left (u64 hr) (pv 0) (se_ifE (⟨pt_cmpR (opK (r := rNeD) (op_neD (u64 hr))) (pe_dget (u1 hr) (pv 0) pe_str (fun _ _ => rfl)) (pe_lst pa_nil) (by rfl), snd_test snd_drG⟩) (se_drP (u64 hr) (pv 0)) (se_call Z.ok__law_mixed (takes_of rfl rfl rfl rfl) (rmono hr (by decide)) (by rfl) (sa_cons (se_var 0 (pv 0)) (sa_nil)) (fun _ _ _ _ _ _ us hl => match us, hl with | [_], _ => rfl) (len_cons len_nil))))) (ss_nil)) (ss_cons (s_set sc__law_take.nd rfl (by first | exact .inl rfl | exact .inr rfl) (b_mod (fnt f_int Z.free_int (sa_cons (se_dr .left (u64 hr) (pv 0)) (sa_nil))) (se_var 1 (pv 1)))) (ss_cons (s_drput .left (u64 hr) (pv 0) (b_div (se_dr .left (u64 hr) (pv 0)) (se_var 1 (pv 1)))) (ss_one (s_ret (se_var 2 (pv 2))))))⟩
theorem Z.ok__law_pick (Z : Z C base) : FV C C.P C.w base 3 "_law_pick" s__law_pick ["_law_draw", "_law_some"] den__law_pick := by
  obtain ⟨fd, F⟩ := Z.fd__law_pick
  refine fv_of (k := 2) (N := ["_law_draw", "_law_some"]) (pin := [0, 1]) (m := m__law_pick) F sc__law_pick Z.glo__law_pick (by decide) ?_
  intro cdv A outer s H E hr
  exact ⟨_, ss_one (s_ret (se_ixX (u64 hr) (se_var 1 (pv 1)) (se_call Z.ok__law_take (takes_of rfl rfl rfl rfl) (rmono hr (by decide)) (by rfl) (sa_cons (se_var 0 (pv 0)) (sa_cons (fnb f_len Z.free_len (sa_cons (se_var 1 (pv 1)) (sa_nil))) (sa_nil))) (fun _ _ _ _ _ _ us hl => match us, hl with | [_, _], _ => rfl) (len_cons (len_cons len_nil)))))⟩
theorem Z.ok__law_is_number (Z : Z C base) : FV C C.P C.w base 1 "_law_is_number" s__law_is_number ["_law_item"] den__law_is_number := by
  obtain ⟨fd, F⟩ := Z.fd__law_is_number
  refine fv_of (k := 0) (N := ["_law_item"]) (pin := [0]) (m := m__law_is_number) F sc__law_is_number Z.glo__law_is_number (by decide) ?_
  intro cdv A outer s H E hr
  exact ⟨_, ss_one (s_ret (se_and (se_isi (u := .ty "int") Z.ko (by rfl) Z.free_isinstance (.ty (by decide)) (pe_bltn (by rfl) Z.free_int (by decide +kernel) rfl) (se_var 0 (pv 0))) (se_one (se_not (se_isi (u := .ty "bool") Z.ko (by rfl) Z.free_isinstance (.ty (by decide)) (pe_bltn (by rfl) Z.free_bool (by decide +kernel) rfl) (se_var 0 (pv 0)))))))⟩
theorem Z.ok__law_says (Z : Z C base) : FV C C.P C.w base 1 "_law_says" s__law_says ["_law_found", "_law_due"] den__law_says := by
  obtain ⟨fd, F⟩ := Z.fd__law_says
  refine fv_of (k := 0) (N := ["_law_found", "_law_due"]) (pin := [0, 1]) (m := m__law_says) F sc__law_says Z.glo__law_says (by decide) ?_
  intro cdv A outer s H E hr
  exact ⟨_, ss_one (s_ret (se_ifE (st_val (se_var 1 (pv 1))) (cmp o_is (se_var 0 (pv 0)) (se_bl)) (cmp o_is (se_var 0 (pv 0)) (se_bl))))⟩
theorem Z.ok__law_numbers (Z : Z C base) : FV C C.P C.w base 2 "_law_numbers" s__law_numbers ["_law_item", "_law_many"] den__law_numbers := by
  obtain ⟨fd, F⟩ := Z.fd__law_numbers
  refine fv_of (k := 1) (N := ["_law_item", "_law_many", "_law_one"]) (pin := [0, 1]) (m := m__law_numbers) F sc__law_numbers Z.glo__law_numbers (by decide) ?_
  intro cdv A outer s H E hr
  exact ⟨_, ss_one (s_ret (se_and (se_isi (u := .ty "tuple") Z.ko (by rfl) Z.free_isinstance (.ty (by decide)) (pe_bltn (by rfl) Z.free_tuple (by decide +kernel) rfl) (se_var 0 (pv 0))) (se_and (cmp (o_eq (u65 hr)) (fnb f_len Z.free_len (sa_cons (se_var 0 (pv 0)) (sa_nil))) (se_var 1 (pv 1))) (se_one (cmp (o_eq (u65 hr)) (se_lc (own := [("_law_one", 2)]) rfl sc__law_numbers.nd (si_seq (se_var 0 (pv 0))) (by exact blkOk_by (N := ["_law_item", "_law_many", "_law_one"]) (sc := defScope s__law_numbers) (own := [("_law_one", 2)]) (by decide +kernel)) (fun _ _ _ _ _ => pg_name (i := 2) sc__law_numbers.nd rfl (by first | exact .inl rfl | exact .inr rfl)) (sg_name (P := []) (i := 2) (by decide)) (fun _ _ _ _ _ => sq_one (st_not (st_val (se_call Z.ok__law_is_number LamX.takes0 (rmono hr (by decide)) (by rfl) (sa_cons (se_var 2 (pv 2)) (sa_nil)) (fun _ _ _ _ _ _ us hl => match us, hl with | [_], _ => rfl) (len_cons len_nil))))) (fun _ _ _ _ _ => se_int)) (se_lst (sa_nil) len_nil))))))⟩
theorem Z.ok__law_shuffled (Z : Z C base) : FV C C.P C.w base 3 "_law_shuffled" s__law_shuffled ["_law_draw", "_law_some"] den__law_shuffled := by
  obtain ⟨fd, F⟩ := Z.fd__law_shuffled
  refine fv_of (k := 2) (N := ["_law_draw", "_law_some", "_law_left", "_law_found", "_law_turn"]) (pin := [0, 1]) (m := m__law_shuffled) F sc__law_shuffled Z.glo__law_shuffled (by decide) ?_
  intro cdv A outer s H E hr
  exact ⟨_, ss_cons (s_par rfl sc__law_shuffled.nd rfl rfl (fnt f_list Z.free_list (sa_cons (se_var 1 (pv 1)) (sa_nil))) (se_lst (sa_nil) len_nil) (by rfl)) (ss_cons (s_for rfl (passes_of rfl) (si_rng1 (by rfl) Z.free_range (sa_cons (fnb f_len Z.free_len (sa_cons (se_var 1 (pv 1)) (sa_nil))) (sa_nil))) (pg_name (i := 4) sc__law_shuffled.nd rfl (by first | exact .inl rfl | exact .inr rfl)) (sg_name (P := [0, 1]) (i := 4) (by decide)) (ss_one (s_expr (se_meth PySem.F.slot_list_append PySem.F.type_list_append mt_append rule_append (pv 3) (sa_cons (se_meth PySem.F.slot_list_pop PySem.F.type_list_pop mt_popAt rule_popAt (pv 2) (sa_cons (se_call Z.ok__law_take (takes_of rfl rfl rfl rfl) (rmono hr (by decide)) (by rfl) (sa_cons (se_var 0 (pv 0)) (sa_cons (fnb f_len Z.free_len (sa_cons (se_var 2 (pv 2)) (sa_nil))) (sa_nil))) (fun _ _ _ _ _ _ us hl => match us, hl with | [_, _], _ => rfl) (len_cons (len_cons len_nil))) (sa_nil))) (sa_nil)))))) (ss_one (s_ret (se_var 3 (pv 3)))))⟩
theorem Z.ok__law_block (Z : Z C base) : FV C C.P C.w base 4 "_law_block" s__law_block ["_law_draw", "_law_wide"] den__law_block := by
  obtain ⟨fd, F⟩ := Z.fd__law_block
  refine fv_of (k := 3) (N := ["_law_draw", "_law_wide", "_law_left", "_law_low"]) (pin := [0, 1]) (m := m__law_block) F sc__law_block Z.glo__law_block (by decide) ?_
  intro cdv A outer s H E hr
  exact ⟨_, ss_cons (s_par rfl sc__law_block.nd rfl rfl (se_call Z.ok__law_take (takes_of rfl rfl rfl rfl) (rmono hr (by decide)) (by rfl) (sa_cons (se_var 0 (pv 0)) (sa_cons (se_var 1 (pv 1)) (sa_nil))) (fun _ _ _ _ _ _ us hl => match us, hl with | [_, _], _ => rfl) (len_cons (len_cons len_nil))) (se_call Z.ok__law_take (takes_of rfl rfl rfl rfl) (rmono hr (by decide)) (by rfl) (sa_cons (se_var 0 (pv 0)) (sa_cons (se_var 1 (pv 1)) (sa_nil))) (fun _ _ _ _ _ _ us hl => match us, hl with | [_, _], _ => rfl) (len_cons (len_cons len_nil))) (by rfl)) (ss_one (s_ret (se_tup (sa_cons (se_var 2 (pv 2)) (sa_cons (se_var 3 (pv 3)) (sa_cons (b_add (b_add (se_var 2 (pv 2)) (se_int)) (se_call Z.ok__law_pick (takes_of rfl rfl rfl rfl) (rmono hr (by decide)) (by rfl) (sa_cons (se_var 0 (pv 0)) (sa_cons (se_lst (sa_cons (se_int) (sa_cons (se_int) (sa_cons (se_int) (sa_cons (se_int) (sa_cons (se_int) (sa_cons (se_int) (sa_nil))))))) (len_cons (len_cons (len_cons (len_cons (len_cons (len_cons len_nil))))))) (sa_nil))) (fun _ _ _ _ _ _ us hl => match us, hl with | [_, _], _ => rfl) (len_cons (len_cons len_nil)))) (sa_cons (b_add (b_add (se_var 3 (pv 3)) (se_int)) (se_call Z.ok__law_pick (takes_of rfl rfl rfl rfl) (rmono hr (by decide)) (by rfl) (sa_cons (se_var 0 (pv 0)) (sa_cons (se_lst (sa_cons (se_int) (sa_cons (se_int) (sa_cons (se_int) (sa_cons (se_int) (sa_cons (se_int) (sa_cons (se_int) (sa_nil))))))) (len_cons (len_cons (len_cons (len_cons (len_cons (len_cons len_nil))))))) (sa_nil))) (fun _ _ _ _ _ _ us hl => match us, hl with | [_, _], _ => rfl) (len_cons (len_cons len_nil)))) (sa_nil))))) (len_cons (len_cons (len_cons (len_cons len_nil)))))))⟩
theorem Z.ok__law_pen (Z : Z C base) : FV C C.P C.w base 4 "_law_pen" s__law_pen ["_law_draw", "_law_left", "_law_low", "_law_wide", "_law_tall"] den__law_pen := by
  obtain ⟨fd, F⟩ := Z.fd__law_pen
  refine fv_of (k := 3) (N := ["_law_draw", "_law_left", "_law_low", "_law_wide", "_law_tall", "_law_cut", "_law_turn", "_law_right", "_law_high", "_law_one", "_law_two", "_law_three", "_law_four"]) (pin := [0, 1, 2, 3, 4]) (m := m__law_pen) F sc__law_pen Z.glo__law_pen (by decide) ?_
  intro cdv A outer s H E hr
  exact ⟨_, ss_cons (s_setLc (own := [("_law_turn", 6)]) rfl sc__law_pen.nd rfl (si_rng1 (by rfl) Z.free_range (sa_cons (se_int) (sa_nil))) (by exact blkOk_by (N := ["_law_draw", "_law_left", "_law_low", "_law_wide", "_law_tall", "_law_cut", "_law_turn", "_law_right", "_law_high", "_law_one", "_law_two", "_law_three", "_law_four"]) (sc := defScope s__law_pen) (own := [("_law_turn", 6)]) (by decide +kernel)) (fun _ _ _ _ _ => pg_name (i := 6) sc__law_pen.nd rfl (by first | exact .inl rfl | exact .inr rfl)) (sg_name (P := []) (i := 6) (by decide)) (fun _ _ _ _ _ => sq_nil) (fun _ _ _ _ _ => se_call Z.ok__law_pick LamX.takes0 (rmono hr (by decide)) (by rfl) (sa_cons (se_var 0 (pv 0)) (sa_cons (se_lst (sa_cons (se_int) (sa_cons (se_int) (sa_cons (se_int) (sa_cons (se_int) (sa_cons (se_int) (sa_cons (se_int) (sa_cons (se_int) (sa_nil)))))))) (len_cons (len_cons (len_cons (len_cons (len_cons (len_cons (len_cons len_nil)))))))) (sa_nil))) (fun _ _ _ _ _ _ us hl => match us, hl with | [_, _], _ => rfl) (len_cons (len_cons len_nil))) (sw_true rfl rfl rfl (by decide +kernel))) (ss_cons (s_par rfl sc__law_pen.nd rfl rfl (b_add (se_var 1 (pv 1)) (se_var 3 (pv 3))) (b_add (se_var 2 (pv 2)) (se_var 4 (pv 4))) (by rfl)) (ss_cons (s_set sc__law_pen.nd rfl (by first | exact .inl rfl | exact .inr rfl) (se_tup (sa_cons (b_sub (se_var 1 (pv 1)) (se_int)) (sa_cons (b_sub (se_var 2 (pv 2)) (se_int)) (sa_cons (b_sub (b_add (se_var 7 (pv 7)) (se_int)) (fnb f_min Z.free_min (sa_cons (se_ixX (u64 hr) (se_var 5 (pv 5)) (se_int)) (sa_cons (se_var 3 (pv 3)) (sa_nil))))) (sa_cons (se_var 2 (pv 2)) (sa_nil))))) (len_cons (len_cons (len_cons (len_cons len_nil)))))) (ss_cons (s_set sc__law_pen.nd rfl (by first | exact .inl rfl | exact .inr rfl) (se_tup (sa_cons (se_var 7 (pv 7)) (sa_cons (b_add (b_sub (se_var 2 (pv 2)) (se_int)) (se_call Z.ok__law_pick (takes_of rfl rfl rfl rfl) (rmono hr (by decide)) (by rfl) (sa_cons (se_var 0 (pv 0)) (sa_cons (se_lst (sa_cons (se_int) (sa_cons (se_int) (sa_cons (se_int) (sa_nil)))) (len_cons (len_cons (len_cons len_nil)))) (sa_nil))) (fun _ _ _ _ _ _ us hl => match us, hl with | [_, _], _ => rfl) (len_cons (len_cons len_nil)))) (sa_cons (b_add (se_var 7 (pv 7)) (se_int)) (sa_cons (b_sub (b_add (se_var 8 (pv 8)) (se_int)) (fnb f_min Z.free_min (sa_cons (se_ixX (u64 hr) (se_var 5 (pv 5)) (se_int)) (sa_cons (se_var 4 (pv 4)) (sa_nil))))) (sa_nil))))) (len_cons (len_cons (len_cons (len_cons len_nil)))))) (ss_cons (s_set sc__law_pen.nd rfl (by first | exact .inl rfl | exact .inr rfl) (se_tup (sa_cons (b_add (b_sub (se_var 1 (pv 1)) (se_int)) (fnb f_min Z.free_min (sa_cons (se_ixX (u64 hr) (se_var 5 (pv 5)) (se_int)) (sa_cons (se_var 3 (pv 3)) (sa_nil))))) (sa_cons (se_var 8 (pv 8)) (sa_cons (b_add (se_var 7 (pv 7)) (se_int)) (sa_cons (b_add (se_var 8 (pv 8)) (se_int)) (sa_nil))))) (len_cons (len_cons (len_cons (len_cons len_nil)))))) (ss_cons (s_set sc__law_pen.nd rfl (by first | exact .inl rfl | exact .inr rfl) (se_tup (sa_cons (b_sub (se_var 1 (pv 1)) (se_int)) (sa_cons (b_add (b_sub (se_var 2 (pv 2)) (se_int)) (fnb f_min Z.free_min (sa_cons (se_ixX (u64 hr) (se_var 5 (pv 5)) (se_int)) (sa_cons (se_var 4 (pv 4)) (sa_nil))))) (sa_cons (se_var 1 (pv 1)) (sa_cons (b_add (se_var 8 (pv 8)) (se_call Z.ok__law_pick (takes_of rfl rfl rfl rfl) (rmono hr (by decide)) (by rfl) (sa_cons (se_var 0 (pv 0)) (sa_cons (se_lst (sa_cons (se_int) (sa_cons (se_int) (sa_cons (se_int) (sa_nil)))) (len_cons (len_cons (len_cons len_nil)))) (sa_nil))) (fun _ _ _ _ _ _ us hl => match us, hl with | [_, _], _ => rfl) (len_cons (len_cons len_nil)))) (sa_nil))))) (len_cons (len_cons (len_cons (len_cons len_nil)))))) (ss_one (s_ret (se_lst (sa_cons (se_var 9 (pv 9)) (sa_cons (se_var 10 (pv 10)) (sa_cons (se_var 11 (pv 11)) (sa_cons (se_var 12 (pv 12)) (sa_nil))))) (len_cons (len_cons (len_cons (len_cons len_nil))))))))))))⟩
theorem Z.ok__law_stretched (Z : Z C base) : FV C C.P C.w base 1 "_law_stretched" s__law_stretched ["_law_blocks_here", "_law_across", "_law_up"] den__law_stretched := by
  obtain ⟨fd, F⟩ := Z.fd__law_stretched
  refine fv_of (k := 0) (N := ["_law_blocks_here", "_law_across", "_law_up", "_law_left", "_law_low", "_law_right", "_law_high"]) (pin := [0, 1, 2]) (m := m__law_stretched) F sc__law_stretched Z.glo__law_stretched (by decide) ?_
  intro cdv A outer s H E hr
  exact ⟨_, ss_one (s_ret (se_lc (own := [("_law_left", 3), ("_law_low", 4), ("_law_right", 5), ("_law_high", 6)]) rfl sc__law_stretched.nd (si_seq (se_var 0 (pv 0))) (by exact blkOk_by (N := ["_law_blocks_here", "_law_across", "_law_up", "_law_left", "_law_low", "_law_right", "_law_high"]) (sc := defScope s__law_stretched) (own := [("_law_left", 3), ("_law_low", 4), ("_law_right", 5), ("_law_high", 6)]) (by decide +kernel)) (fun _ _ _ _ _ => pgK (g := fun K => gTup K 4 _) (pg_tup (by rfl) (pgs_cons (pg_name (i := 3) sc__law_stretched.nd rfl (by first | exact .inl rfl | exact .inr rfl)) (pgs_cons (pg_name (i := 4) sc__law_stretched.nd rfl (by first | exact .inl rfl | exact .inr rfl)) (pgs_cons (pg_name (i := 5) sc__law_stretched.nd rfl (by first | exact .inl rfl | exact .inr rfl)) (pgs_cons (pg_name (i := 6) sc__law_stretched.nd rfl (by first | exact .inl rfl | exact .inr rfl)) (pgs_nil))))))) (sg_tup (P := []) (is := [3, 4, 5, 6]) (n := 4) (by decide) rfl) (fun _ _ _ _ _ => sq_nil) (fun _ _ _ _ _ => se_tup (sa_cons (se_ixX (u64 hr) (se_var 1 (pv 1)) (se_var 3 (pv 3))) (sa_cons (se_ixX (u64 hr) (se_var 2 (pv 2)) (se_var 4 (pv 4))) (sa_cons (se_ixX (u64 hr) (se_var 1 (pv 1)) (se_var 5 (pv 5))) (sa_cons (se_ixX (u64 hr) (se_var 2 (pv 2)) (se_var 6 (pv 6))) (sa_nil))))) (len_cons (len_cons (len_cons (len_cons len_nil)))))))⟩
theorem Z.ok__law_table (Z : Z C base) : FV C C.P C.w base 4 "_law_table" s__law_table ["_law_draw", "_law_some"] den__law_table := by
  obtain ⟨fd, F⟩ := Z.fd__law_table
  refine fv_of (k := 3) (N := ["_law_draw", "_law_some", "_law_line", "_law_way", "_law_table_here", "_law_here", "_law_factor", "_law_k", "_law_old"]) (pin := [0, 1]) (m := m__law_table) F sc__law_table Z.glo__law_table (by decide) ?_
  intro cdv A outer s H E hr
  exact ⟨_, ss_cons (s_set sc__law_table.nd rfl (by first | exact .inl rfl | exact .inr rfl) (se_sortSet (by rfl) (by rfl) Z.free_sorted (by rfl) Z.free_set (se_var 1 (pv 1)))) (ss_cons (s_par3 rfl sc__law_table.nd rfl rfl rfl (se_call Z.ok__law_take (takes_of rfl rfl rfl rfl) (rmono hr (by decide)) (by rfl) (sa_cons (se_var 0 (pv 0)) (sa_cons (se_int) (sa_nil))) (fun _ _ _ _ _ _ us hl => match us, hl with | [_, _], _ => rfl) (len_cons (len_cons len_nil))) (se_dnew) (se_call Z.ok__law_pick (takes_of rfl rfl rfl rfl) (rmono hr (by decide)) (by rfl) (sa_cons (se_var 0 (pv 0)) (sa_cons (se_lst (sa_cons (se_int) (sa_cons (se_int) (sa_cons (se_neg (se_int)) (sa_cons (se_int) (sa_cons (se_neg (se_int)) (sa_nil)))))) (len_cons (len_cons (len_cons (len_cons (len_cons len_nil)))))) (sa_nil))) (fun _ _ _ _ _ _ us hl => match us, hl with | [_, _], _ => rfl) (len_cons (len_cons len_nil))) (by rfl)) (ss_cons (s_set sc__law_table.nd rfl (by first | exact .inl rfl | exact .inr rfl) (se_call Z.ok__law_pick (takes_of rfl rfl rfl rfl) (rmono hr (by decide)) (by rfl) (sa_cons (se_var 0 (pv 0)) (sa_cons (se_lst (sa_cons (se_int) (sa_cons (se_int) (sa_cons (se_int) (sa_cons (se_int) (sa_cons (se_int) (sa_nil)))))) (len_cons (len_cons (len_cons (len_cons (len_cons len_nil)))))) (sa_nil))) (fun _ _ _ _ _ _ us hl => match us, hl with | [_, _], _ => rfl) (len_cons (len_cons len_nil)))) (ss_cons (s_for rfl (passes_of rfl) (si_enum (by rfl) Z.free_enumerate (se_var 2 (pv 2))) (pgK (g := fun K => gTup K 2 _) (pg_tup (by rfl) (pgs_cons (pg_name (i := 7) sc__law_table.nd rfl (by first | exact .inl rfl | exact .inr rfl)) (pgs_cons (pg_name (i := 8) sc__law_table.nd rfl (by first | exact .inl rfl | exact .inr rfl)) (pgs_nil))))) (sg_tup (P := [0, 1]) (is := [7, 8]) (n := 2) (by decide) rfl) (ss_one (s_if (tcmp o_lt (se_var 3 (pv 3)) (se_int)) (ss_one (s_dput (u64 hr) (pv 4) (se_var 8 (pv 8)) (b_add (se_var 8 (pv 8)) (se_var 5 (pv 5))))) (ss_one (s_if (tcmp (o_eq (u65 hr)) (se_var 3 (pv 3)) (se_int)) (ss_one (s_dput (u64 hr) (pv 4) (se_var 8 (pv 8)) (b_add (b_mul (se_var 8 (pv 8)) (se_var 6 (pv 6))) (se_var 5 (pv 5))))) (ss_cons (s_set sc__law_table.nd rfl (by first | exact .inl rfl | exact .inr rfl) (b_add (se_var 5 (pv 5)) (se_ifE (tcmp (o_eq (u65 hr)) (se_var 7 (pv 7)) (se_int)) (se_int) (b_add (se_int) (se_call Z.ok__law_pick (takes_of rfl rfl rfl rfl) (rmono hr (by decide)) (by rfl) (sa_cons (se_var 0 (pv 0)) (sa_cons (se_lst (sa_cons (se_int) (sa_cons (se_int) (sa_cons (se_int) (sa_cons (se_int) (sa_cons (se_int) (sa_cons (se_int) (sa_cons (se_int) (sa_nil)))))))) (len_cons (len_cons (len_cons (len_cons (len_cons (len_cons (len_cons len_nil)))))))) (sa_nil))) (fun _ _ _ _ _ _ us hl => match us, hl with | [_, _], _ => rfl) (len_cons (len_cons len_nil))))))) (ss_one (s_dput (u64 hr) (pv 4) (se_var 8 (pv 8)) (se_var 5 (pv 5)))))))))) (ss_one (s_ret (se_var 4 (pv 4)))))))⟩
theorem Z.ok__law_blocks (Z : Z C base) : FV C C.P C.w base 5 "_law_blocks" s__law_blocks ["_law_draw", "_law_most"] den__law_blocks := by
  obtain ⟨fd, F⟩ := Z.fd__law_blocks
  refine fv_of (k := 4) (N := ["_law_draw", "_law_most", "_law_way", "_law_found", "_law_many", "_law_k", "_law_turn", "_law_block_here", "_law_across", "_law_up"]) (pin := [0, 1]) (m := m__law_blocks) F sc__law_blocks Z.glo__law_blocks (by decide) ?_
  intro cdv A outer s H E hr
  exact ⟨_, ss_cons (s_par rfl sc__law_blocks.nd rfl rfl (se_call Z.ok__law_take (takes_of rfl rfl rfl rfl) (rmono hr (by decide)) (by rfl) (sa_cons (se_var 0 (pv 0)) (sa_cons (se_int) (sa_nil))) (fun _ _ _ _ _ _ us hl => match us, hl with | [_, _], _ => rfl) (len_cons (len_cons len_nil))) (se_lst (sa_nil) len_nil) (by rfl)) (ss_cons (s_set sc__law_blocks.nd rfl (by first | exact .inl rfl | exact .inr rfl) (b_add (se_int) (se_call Z.ok__law_take (takes_of rfl rfl rfl rfl) (rmono hr (by decide)) (by rfl) (sa_cons (se_var 0 (pv 0)) (sa_cons (se_var 1 (pv 1)) (sa_nil))) (fun _ _ _ _ _ _ us hl => match us, hl with | [_, _], _ => rfl) (len_cons (len_cons len_nil))))) (ss_cons (s_if ((sw_and (tcmp o_lt (se_var 2 (pv 2)) (se_int)) (sw_and1 (tcmp o_ge (se_var 1 (pv 1)) (se_int)))).t) (ss_cons (s_set sc__law_blocks.nd rfl (by first | exact .inl rfl | exact .inr rfl) (se_call Z.ok__law_pen (takes_of rfl rfl rfl rfl) (rmono hr (by decide)) (by rfl) (sa_cons (se_var 0 (pv 0)) (sa_cons (se_int) (sa_cons (se_int) (sa_cons (b_add (se_int) (se_call Z.ok__law_take (takes_of rfl rfl rfl rfl) (rmono hr (by decide)) (by rfl) (sa_cons (se_var 0 (pv 0)) (sa_cons (se_int) (sa_nil))) (fun _ _ _ _ _ _ us hl => match us, hl with | [_, _], _ => rfl) (len_cons (len_cons len_nil)))) (sa_cons (b_add (se_int) (se_call Z.ok__law_take (takes_of rfl rfl rfl rfl) (rmono hr (by decide)) (by rfl) (sa_cons (se_var 0 (pv 0)) (sa_cons (se_int) (sa_nil))) (fun _ _ _ _ _ _ us hl => match us, hl with | [_, _], _ => rfl) (len_cons (len_cons len_nil)))) (sa_nil)))))) (fun _ _ _ _ _ _ us hl => match us, hl with | [_, _, _, _, _], _ => rfl) (len_cons (len_cons (len_cons (len_cons (len_cons len_nil))))))) (ss_one (s_set sc__law_blocks.nd rfl (by first | exact .inl rfl | exact .inr rfl) (fnb f_min Z.free_min (sa_cons (se_call Z.ok__law_take (takes_of rfl rfl rfl rfl) (rmono hr (by decide)) (by rfl) (sa_cons (se_var 0 (pv 0)) (sa_cons (b_sub (se_var 1 (pv 1)) (se_int)) (sa_nil))) (fun _ _ _ _ _ _ us hl => match us, hl with | [_, _], _ => rfl) (len_cons (len_cons len_nil))) (sa_cons (se_call Z.ok__law_take (takes_of rfl rfl rfl rfl) (rmono hr (by decide)) (by rfl) (sa_cons (se_var 0 (pv 0)) (sa_cons (se_int) (sa_nil))) (fun _ _ _ _ _ _ us hl => match us, hl with | [_, _], _ => rfl) (len_cons (len_cons len_nil))) (sa_nil))))))) (ss_nil)) (ss_cons (s_if (tcmp (o_eq (u65 hr)) (se_var 2 (pv 2)) (se_int)) (ss_cons (s_for rfl (passes_of rfl) (si_rng1 (by rfl) Z.free_range (sa_cons (fnb f_min Z.free_min (sa_cons (se_var 4 (pv 4)) (sa_cons (se_var 1 (pv 1)) (sa_nil)))) (sa_nil))) (pg_name (i := 5) sc__law_blocks.nd rfl (by first | exact .inl rfl | exact .inr rfl)) (sg_name (P := [0, 1]) (i := 5) (by decide)) (ss_one (s_expr (se_meth PySem.F.slot_list_append PySem.F.type_list_append mt_append rule_append (pv 3) (sa_cons (se_tup (sa_cons (b_mul (se_int) (se_var 5 (pv 5))) (sa_cons (b_mul (se_int) (se_var 5 (pv 5))) (sa_cons (b_add (b_add (b_mul (se_int) (se_var 5 (pv 5))) (se_int)) (se_call Z.ok__law_take (takes_of rfl rfl rfl rfl) (rmono hr (by decide)) (by rfl) (sa_cons (se_var 0 (pv 0)) (sa_cons (se_int) (sa_nil))) (fun _ _ _ _ _ _ us hl => match us, hl with | [_, _], _ => rfl) (len_cons (len_cons len_nil)))) (sa_cons (b_add (b_add (b_mul (se_int) (se_var 5 (pv 5))) (se_int)) (se_call Z.ok__law_take (takes_of rfl rfl rfl rfl) (rmono hr (by decide)) (by rfl) (sa_cons (se_var 0 (pv 0)) (sa_cons (se_int) (sa_nil))) (fun _ _ _ _ _ _ us hl => match us, hl with | [_, _], _ => rfl) (len_cons (len_cons len_nil)))) (sa_nil))))) (len_cons (len_cons (len_cons (len_cons len_nil))))) (sa_nil)))))) (ss_one (s_set sc__law_blocks.nd rfl (by first | exact .inl rfl | exact .inr rfl) (se_ifE (tcmp o_gt (se_var 4 (pv 4)) (se_int)) (b_sub (se_var 1 (pv 1)) (fnb f_len Z.free_len (sa_cons (se_var 3 (pv 3)) (sa_nil)))) (se_int))))) (ss_nil)) (ss_cons (s_if ((sw_and (tcmp (o_eq (u65 hr)) (se_var 2 (pv 2)) (se_int)) (sw_and1 (tcmp (o_eq (u65 hr)) (se_call Z.ok__law_take (takes_of rfl rfl rfl rfl) (rmono hr (by decide)) (by rfl) (sa_cons (se_var 0 (pv 0)) (sa_cons (se_int) (sa_nil))) (fun _ _ _ _ _ _ us hl => match us, hl with | [_, _], _ => rfl) (len_cons (len_cons len_nil))) (se_int)))).t) (ss_one (s_set sc__law_blocks.nd rfl (by first | exact .inl rfl | exact .inr rfl) (se_int))) (ss_nil)) (ss_cons (s_for rfl (passes_of rfl) (si_rng1 (by rfl) Z.free_range (sa_cons (se_var 4 (pv 4)) (sa_nil))) (pg_name (i := 6) sc__law_blocks.nd rfl (by first | exact .inl rfl | exact .inr rfl)) (sg_name (P := [0, 1]) (i := 6) (by decide)) (ss_cons (s_set sc__law_blocks.nd rfl (by first | exact .inl rfl | exact .inr rfl) (se_call Z.ok__law_block (takes_of rfl rfl rfl rfl) (rmono hr (by decide)) (by rfl) (sa_cons (se_var 0 (pv 0)) (sa_cons (se_int) (sa_nil))) (fun _ _ _ _ _ _ us hl => match us, hl with | [_, _], _ => rfl) (len_cons (len_cons len_nil)))) (ss_one (s_if ((sw_and (tcmp (o_nin (u65 hr)) (se_var 7 (pv 7)) (se_var 3 (pv 3))) (sw_and1 (tcmp o_lt (fnb f_len Z.free_len (sa_cons (se_var 3 (pv 3)) (sa_nil))) (se_var 1 (pv 1))))).t) (ss_one (s_expr (se_meth PySem.F.slot_list_append PySem.F.type_list_append mt_append rule_append (pv 3) (sa_cons (se_var 7 (pv 7)) (sa_nil))))) (ss_nil))))) (ss_cons (s_set sc__law_blocks.nd rfl (by first | exact .inl rfl | exact .inr rfl) (se_call Z.ok__law_table (takes_of rfl rfl rfl rfl) (rmono hr (by decide)) (by rfl) (sa_cons (se_var 0 (pv 0)) (sa_cons (b_add (se_lc (own := [("_law_block_here", 7)]) rfl sc__law_blocks.nd (si_seq (se_var 3 (pv 3))) (by exact blkOk_by (N := ["_law_draw", "_law_most", "_law_way", "_law_found", "_law_many", "_law_k", "_law_turn", "_law_block_here", "_law_across", "_law_up"]) (sc := defScope s__law_blocks) (own := [("_law_block_here", 7)]) (by decide +kernel)) (fun _ _ _ _ _ => pg_name (i := 7) sc__law_blocks.nd rfl (by first | exact .inl rfl | exact .inr rfl)) (sg_name (P := []) (i := 7) (by decide)) (fun _ _ _ _ _ => sq_nil) (fun _ _ _ _ _ => se_ixX (u64 hr) (se_var 7 (pv 7)) (se_int))) (se_lc (own := [("_law_block_here", 7)]) rfl sc__law_blocks.nd (si_seq (se_var 3 (pv 3))) (by exact blkOk_by (N := ["_law_draw", "_law_most", "_law_way", "_law_found", "_law_many", "_law_k", "_law_turn", "_law_block_here", "_law_across", "_law_up"]) (sc := defScope s__law_blocks) (own := [("_law_block_here", 7)]) (by decide +kernel)) (fun _ _ _ _ _ => pg_name (i := 7) sc__law_blocks.nd rfl (by first | exact .inl rfl | exact .inr rfl)) (sg_name (P := []) (i := 7) (by decide)) (fun _ _ _ _ _ => sq_nil) (fun _ _ _ _ _ => se_ixX (u64 hr) (se_var 7 (pv 7)) (se_int)))) (sa_nil))) (fun _ _ _ _ _ _ us hl => match us, hl with | [_, _], _ => rfl) (len_cons (len_cons len_nil)))) (ss_cons (s_set sc__law_blocks.nd rfl (by first | exact .inl rfl | exact .inr rfl) (se_call Z.ok__law_table (takes_of rfl rfl rfl rfl) (rmono hr (by decide)) (by rfl) (sa_cons (se_var 0 (pv 0)) (sa_cons (b_add (se_lc (own := [("_law_block_here", 7)]) rfl sc__law_blocks.nd (si_seq (se_var 3 (pv 3))) (by exact blkOk_by (N := ["_law_draw", "_law_most", "_law_way", "_law_found", "_law_many", "_law_k", "_law_turn", "_law_block_here", "_law_across", "_law_up"]) (sc := defScope s__law_blocks) (own := [("_law_block_here", 7)]) (by decide +kernel)) (fun _ _ _ _ _ => pg_name (i := 7) sc__law_blocks.nd rfl (by first | exact .inl rfl | exact .inr rfl)) (sg_name (P := []) (i := 7) (by decide)) (fun _ _ _ _ _ => sq_nil) (fun _ _ _ _ _ => se_ixX (u64 hr) (se_var 7 (pv 7)) (se_int))) (se_lc (own := [("_law_block_here", 7)]) rfl sc__law_blocks.nd (si_seq (se_var 3 (pv 3))) (by exact blkOk_by (N := ["_law_draw", "_law_most", "_law_way", "_law_found", "_law_many", "_law_k", "_law_turn", "_law_block_here", "_law_across", "_law_up"]) (sc := defScope s__law_blocks) (own := [("_law_block_here", 7)]) (by decide +kernel)) (fun _ _ _ _ _ => pg_name (i := 7) sc__law_blocks.nd rfl (by first | exact .inl rfl | exact .inr rfl)) (sg_name (P := []) (i := 7) (by decide)) (fun _ _ _ _ _ => sq_nil) (fun _ _ _ _ _ => se_ixX (u64 hr) (se_var 7 (pv 7)) (se_int)))) (sa_nil))) (fun _ _ _ _ _ _ us hl => match us, hl with | [_, _], _ => rfl) (len_cons (len_cons len_nil)))) (ss_one (s_ret (se_sorted (by rfl) Z.free_sorted (se_call Z.ok__law_stretched (takes_of rfl rfl rfl rfl) (rmono hr (by decide)) (by rfl) (sa_cons (se_var 3 (pv 3)) (sa_cons (se_var 8 (pv 8)) (sa_cons (se_var 9 (pv 9)) (sa_nil)))) (fun _ _ _ _ _ _ us hl => match us, hl with | [_, _, _], _ => rfl) (len_cons (len_cons (len_cons len_nil))))))))))))))⟩
theorem Z.ok__law_grid (Z : Z C base) : FV C C.P C.w base 1 "_law_grid" s__law_grid ["_law_blocks_here", "_law_spots", "_law_flat"] den__law_grid := by
  obtain ⟨fd, F⟩ := Z.fd__law_grid
  refine fv_of (k := 0) (N := ["_law_blocks_here", "_law_spots", "_law_flat", "_law_found", "_law_block_here", "_law_other", "_law_spot", "_law_item"]) (pin := [0, 1, 2]) (m := m__law_grid) F sc__law_grid Z.glo__law_grid (by decide) ?_
  intro cdv A outer s H E hr
  exact ⟨_, ss_cons (s_set sc__law_grid.nd rfl (by first | exact .inl rfl | exact .inr rfl) (se_lst (sa_nil) len_nil)) (ss_cons (s_for rfl (passes_of rfl) (si_seq (se_var 0 (pv 0))) (pg_name (i := 4) sc__law_grid.nd rfl (by first | exact .inl rfl | exact .inr rfl)) (sg_name (P := [0, 1, 2]) (i := 4) (by decide)) (ss_cons (s_set sc__law_grid.nd rfl (by first | exact .inl rfl | exact .inr rfl) (b_add (se_var 3 (pv 3)) (se_lc (own := [("_law_other", 5)]) rfl sc__law_grid.nd (si_seq (se_var 0 (pv 0))) (by exact blkOk_by (N := ["_law_blocks_here", "_law_spots", "_law_flat", "_law_found", "_law_block_here", "_law_other", "_law_spot", "_law_item"]) (sc := defScope s__law_grid) (own := [("_law_other", 5)]) (by decide +kernel)) (fun _ _ _ _ _ => pg_name (i := 5) sc__law_grid.nd rfl (by first | exact .inl rfl | exact .inr rfl)) (sg_name (P := []) (i := 5) (by decide)) (fun _ _ _ _ _ => sq_nil) (fun _ _ _ _ _ => b_sub (se_ixX (u64 hr) (se_var 4 (pv 4)) (se_var 2 (pv 2))) (se_ixX (u64 hr) (se_var 5 (pv 5)) (b_add (se_var 2 (pv 2)) (se_int))))))) (ss_one (s_set sc__law_grid.nd rfl (by first | exact .inl rfl | exact .inr rfl) (b_add (se_var 3 (pv 3)) (se_lc (own := [("_law_spot", 6)]) rfl sc__law_grid.nd (si_seq (se_var 1 (pv 1))) (by exact blkOk_by (N := ["_law_blocks_here", "_law_spots", "_law_flat", "_law_found", "_law_block_here", "_law_other", "_law_spot", "_law_item"]) (sc := defScope s__law_grid) (own := [("_law_spot", 6)]) (by decide +kernel)) (fun _ _ _ _ _ => pg_name (i := 6) sc__law_grid.nd rfl (by first | exact .inl rfl | exact .inr rfl)) (sg_name (P := []) (i := 6) (by decide)) (fun _ _ _ _ _ => sq_nil) (fun _ _ _ _ _ => b_sub (se_ixX (u64 hr) (se_var 4 (pv 4)) (se_var 2 (pv 2))) (se_ixX (u64 hr) (se_var 6 (pv 6)) (se_var 2 (pv 2)))))))))) (ss_one (s_ret (se_sortSet (by rfl) (by rfl) Z.free_sorted (by rfl) Z.free_set (se_lc (own := [("_law_item", 7)]) rfl sc__law_grid.nd (si_seq (se_var 3 (pv 3))) (by exact blkOk_by (N := ["_law_blocks_here", "_law_spots", "_law_flat", "_law_found", "_law_block_here", "_law_other", "_law_spot", "_law_item"]) (sc := defScope s__law_grid) (own := [("_law_item", 7)]) (by decide +kernel)) (fun _ _ _ _ _ => pg_name (i := 7) sc__law_grid.nd rfl (by first | exact .inl rfl | exact .inr rfl)) (sg_name (P := []) (i := 7) (by decide)) (fun _ _ _ _ _ => sq_one (tcmp o_ge (se_var 7 (pv 7)) (se_int))) (fun _ _ _ _ _ => se_var 7 (pv 7)))))))⟩
theorem Z.ok__law_body (Z : Z C base) : FV C C.P C.w base 4 "_law_body" s__law_body ["_law_draw", "_law_blocks_here", "_law_spots"] den__law_body := by
  obtain ⟨fd, F⟩ := Z.fd__law_body
  refine fv_of (k := 3) (N := ["_law_draw", "_law_blocks_here", "_law_spots", "_law_found", "_law_flat", "_law_some", "_law_way", "_law_at"]) (pin := [0, 1, 2]) (m := m__law_body) F sc__law_body Z.glo__law_body (by decide) ?_
  intro cdv A outer s H E hr
  exact ⟨_, ss_cons (s_set sc__law_body.nd rfl (by first | exact .inl rfl | exact .inr rfl) (se_lst (sa_nil) len_nil)) (ss_cons (s_for rfl (passes_of rfl) (si_rng1 (by rfl) Z.free_range (sa_cons (se_int) (sa_nil))) (pg_name (i := 4) sc__law_body.nd rfl (by first | exact .inl rfl | exact .inr rfl)) (sg_name (P := [0, 1, 2]) (i := 4) (by decide)) (ss_cons (s_set sc__law_body.nd rfl (by first | exact .inl rfl | exact .inr rfl) (se_call Z.ok__law_grid (takes_of rfl rfl rfl rfl) (rmono hr (by decide)) (by rfl) (sa_cons (se_var 1 (pv 1)) (sa_cons (se_var 2 (pv 2)) (sa_cons (se_var 4 (pv 4)) (sa_nil)))) (fun _ _ _ _ _ _ us hl => match us, hl with | [_, _, _], _ => rfl) (len_cons (len_cons (len_cons len_nil))))) (ss_cons (s_set sc__law_body.nd rfl (by first | exact .inl rfl | exact .inr rfl) (se_call Z.ok__law_take (takes_of rfl rfl rfl rfl) (rmono hr (by decide)) (by rfl) (sa_cons (se_var 0 (pv 0)) (sa_cons (se_int) (sa_nil))) (fun _ _ _ _ _ _ us hl => match us, hl with | [_, _], _ => rfl) (len_cons (len_cons len_nil)))) (ss_one (s_if ((sw_or (tcmp (o_eq (u65 hr)) (se_var 5 (pv 5)) (se_lst (sa_nil) len_nil)) (sw_or1 (tcmp (o_eq (u65 hr)) (se_var 6 (pv 6)) (se_int)))).t) (ss_one (s_expr (se_meth PySem.F.slot_list_append PySem.F.type_list_append mt_append rule_append (pv 3) (sa_cons (se_call Z.ok__law_pick (takes_of rfl rfl rfl rfl) (rmono hr (by decide)) (by rfl) (sa_cons (se_var 0 (pv 0)) (sa_cons (se_lst (sa_cons (se_int) (sa_cons (se_int) (sa_cons (se_int) (sa_cons (se_int) (sa_cons (se_int) (sa_nil)))))) (len_cons (len_cons (len_cons (len_cons (len_cons len_nil)))))) (sa_nil))) (fun _ _ _ _ _ _ us hl => match us, hl with | [_, _], _ => rfl) (len_cons (len_cons len_nil))) (sa_nil))))) (ss_cons (s_set sc__law_body.nd rfl (by first | exact .inl rfl | exact .inr rfl) (fnb f_min Z.free_min (sa_cons (se_call Z.ok__law_take (takes_of rfl rfl rfl rfl) (rmono hr (by decide)) (by rfl) (sa_cons (se_var 0 (pv 0)) (sa_cons (fnb f_len Z.free_len (sa_cons (se_var 5 (pv 5)) (sa_nil))) (sa_nil))) (fun _ _ _ _ _ _ us hl => match us, hl with | [_, _], _ => rfl) (len_cons (len_cons len_nil))) (sa_cons (se_call Z.ok__law_take (takes_of rfl rfl rfl rfl) (rmono hr (by decide)) (by rfl) (sa_cons (se_var 0 (pv 0)) (sa_cons (fnb f_len Z.free_len (sa_cons (se_var 5 (pv 5)) (sa_nil))) (sa_nil))) (fun _ _ _ _ _ _ us hl => match us, hl with | [_, _], _ => rfl) (len_cons (len_cons len_nil))) (sa_nil))))) (ss_one (s_expr (se_meth PySem.F.slot_list_append PySem.F.type_list_append mt_append rule_append (pv 3) (sa_cons (b_add (se_ixX (u64 hr) (se_var 5 (pv 5)) (se_var 7 (pv 7))) (se_call Z.ok__law_pick (takes_of rfl rfl rfl rfl) (rmono hr (by decide)) (by rfl) (sa_cons (se_var 0 (pv 0)) (sa_cons (se_lst (sa_cons (se_int) (sa_cons (se_int) (sa_cons (se_int) (sa_cons (se_int) (sa_cons (se_int) (sa_cons (se_int) (sa_nil))))))) (len_cons (len_cons (len_cons (len_cons (len_cons (len_cons len_nil))))))) (sa_nil))) (fun _ _ _ _ _ _ us hl => match us, hl with | [_, _], _ => rfl) (len_cons (len_cons len_nil)))) (sa_nil))))))))))) (ss_one (s_ret (se_tup (sa_cons (se_ixX (u64 hr) (se_var 3 (pv 3)) (se_int)) (sa_cons (se_ixX (u64 hr) (se_var 3 (pv 3)) (se_int)) (sa_nil))) (len_cons (len_cons len_nil))))))⟩
theorem Z.ok__law_due_gap (Z : Z C base) : FV C C.P C.w base 1 "_law_due_gap" s__law_due_gap ["_law_blocks_here", "_law_i", "_law_j"] den__law_due_gap := by
  obtain ⟨fd, F⟩ := Z.fd__law_due_gap
  refine fv_of (k := 0) (N := ["_law_blocks_here", "_law_i", "_law_j", "_law_one", "_law_other", "_law_found", "_law_flat"]) (pin := [0, 1, 2]) (m := m__law_due_gap) F sc__law_due_gap Z.glo__law_due_gap (by decide) ?_
  intro cdv A outer s H E hr
  exact ⟨_, ss_cons (s_par rfl sc__law_due_gap.nd rfl rfl (se_ixX (u64 hr) (se_var 0 (pv 0)) (se_var 1 (pv 1))) (se_ixX (u64 hr) (se_var 0 (pv 0)) (se_var 2 (pv 2))) (by rfl)) (ss_cons (s_set sc__law_due_gap.nd rfl (by first | exact .inl rfl | exact .inr rfl) (se_lst (sa_nil) len_nil)) (ss_cons (s_for rfl (passes_of rfl) (si_rng1 (by rfl) Z.free_range (sa_cons (se_int) (sa_nil))) (pg_name (i := 6) sc__law_due_gap.nd rfl (by first | exact .inl rfl | exact .inr rfl)) (sg_name (P := [0, 1, 2]) (i := 6) (by decide)) (ss_one (s_expr (se_meth PySem.F.slot_list_append PySem.F.type_list_append mt_append rule_append (pv 5) (sa_cons (fnb f_max Z.free_max (sa_cons (b_sub (se_ixX (u64 hr) (se_var 4 (pv 4)) (se_var 6 (pv 6))) (se_ixX (u64 hr) (se_var 3 (pv 3)) (b_add (se_var 6 (pv 6)) (se_int)))) (sa_cons (b_sub (se_ixX (u64 hr) (se_var 3 (pv 3)) (se_var 6 (pv 6))) (se_ixX (u64 hr) (se_var 4 (pv 4)) (b_add (se_var 6 (pv 6)) (se_int)))) (sa_nil)))) (sa_nil)))))) (ss_one (s_ret (se_tup (sa_cons (se_ixX (u64 hr) (se_var 5 (pv 5)) (se_int)) (sa_cons (se_ixX (u64 hr) (se_var 5 (pv 5)) (se_int)) (sa_nil))) (len_cons (len_cons len_nil)))))))⟩
theorem Z.ok__law_near (Z : Z C base) : FV C C.P C.w base 1 "_law_near" s__law_near ["_law_blocks_here", "_law_body_here", "_law_i", "_law_j"] den__law_near := by
  obtain ⟨fd, F⟩ := Z.fd__law_near
  refine fv_of (k := 0) (N := ["_law_blocks_here", "_law_body_here", "_law_i", "_law_j", "_law_one", "_law_other", "_law_flat"]) (pin := [0, 1, 2, 3]) (m := m__law_near) F sc__law_near Z.glo__law_near (by decide) ?_
  intro cdv A outer s H E hr
  exact ⟨_, ss_cons (s_par rfl sc__law_near.nd rfl rfl (se_ixX (u64 hr) (se_var 0 (pv 0)) (se_var 2 (pv 2))) (se_ixX (u64 hr) (se_var 0 (pv 0)) (se_var 3 (pv 3))) (by rfl)) (ss_cons (s_for rfl (passes_of rfl) (si_rng1 (by rfl) Z.free_range (sa_cons (se_int) (sa_nil))) (pg_name (i := 6) sc__law_near.nd rfl (by first | exact .inl rfl | exact .inr rfl)) (sg_name (P := [0, 1, 2, 3]) (i := 6) (by decide)) (ss_one (s_if (tcmp o_ge (b_sub (fnb f_max Z.free_max (sa_cons (se_ixX (u64 hr) (se_var 4 (pv 4)) (se_var 6 (pv 6))) (sa_cons (se_ixX (u64 hr) (se_var 5 (pv 5)) (se_var 6 (pv 6))) (sa_nil)))) (se_ixX (u64 hr) (se_var 1 (pv 1)) (se_var 6 (pv 6)))) (fnb f_min Z.free_min (sa_cons (se_ixX (u64 hr) (se_var 4 (pv 4)) (b_add (se_var 6 (pv 6)) (se_int))) (sa_cons (se_ixX (u64 hr) (se_var 5 (pv 5)) (b_add (se_var 6 (pv 6)) (se_int))) (sa_nil))))) (ss_one (s_ret (se_bl))) (ss_nil)))) (ss_one (s_ret (se_bl))))⟩
theorem Z.ok__law_near_pairs (Z : Z C base) : FV C C.P C.w base 2 "_law_near_pairs" s__law_near_pairs ["_law_blocks_here", "_law_body_here"] den__law_near_pairs := by
  obtain ⟨fd, F⟩ := Z.fd__law_near_pairs
  refine fv_of (k := 1) (N := ["_law_blocks_here", "_law_body_here", "_law_found", "_law_i", "_law_j"]) (pin := [0, 1]) (m := m__law_near_pairs) F sc__law_near_pairs Z.glo__law_near_pairs (by decide) ?_
  intro cdv A outer s H E hr
  exact ⟨_, ss_cons (s_set sc__law_near_pairs.nd rfl (by first | exact .inl rfl | exact .inr rfl) (se_lst (sa_nil) len_nil)) (ss_cons (s_for rfl (passes_of rfl) (si_rng1 (by rfl) Z.free_range (sa_cons (fnb f_len Z.free_len (sa_cons (se_var 0 (pv 0)) (sa_nil))) (sa_nil))) (pg_name (i := 3) sc__law_near_pairs.nd rfl (by first | exact .inl rfl | exact .inr rfl)) (sg_name (P := [0, 1]) (i := 3) (by decide)) (ss_one (s_set sc__law_near_pairs.nd rfl (by first | exact .inl rfl | exact .inr rfl) (b_add (se_var 2 (pv 2)) (se_lc (own := [("_law_j", 4)]) rfl sc__law_near_pairs.nd (si_rng2 (by rfl) Z.free_range (sa_cons (b_add (se_var 3 (pv 3)) (se_int)) (sa_cons (fnb f_len Z.free_len (sa_cons (se_var 0 (pv 0)) (sa_nil))) (sa_nil)))) (by exact blkOk_by (N := ["_law_blocks_here", "_law_body_here", "_law_found", "_law_i", "_law_j"]) (sc := defScope s__law_near_pairs) (own := [("_law_j", 4)]) (by decide +kernel)) (fun _ _ _ _ _ => pg_name (i := 4) sc__law_near_pairs.nd rfl (by first | exact .inl rfl | exact .inr rfl)) (sg_name (P := []) (i := 4) (by decide)) (fun _ _ _ _ _ => sq_one (st_val (se_call Z.ok__law_near LamX.takes0 (rmono hr (by decide)) (by rfl) (sa_cons (se_var 0 (pv 0)) (sa_cons (se_var 1 (pv 1)) (sa_cons (se_var 3 (pv 3)) (sa_cons (se_var 4 (pv 4)) (sa_nil))))) (fun _ _ _ _ _ _ us hl => match us, hl with | [_, _, _, _], _ => rfl) (len_cons (len_cons (len_cons (len_cons len_nil))))))) (fun _ _ _ _ _ => se_tup (sa_cons (se_var 3 (pv 3)) (sa_cons (se_var 4 (pv 4)) (sa_nil))) (len_cons (len_cons len_nil)))))))) (ss_one (s_ret (se_var 2 (pv 2)))))⟩
theorem Z.ok__law_least_near (Z : Z C base) : FV C C.P C.w base 3 "_law_least_near" s__law_least_near ["_law_blocks_here", "_law_i", "_law_j", "_law_body_here"] den__law_least_near := by
  obtain ⟨fd, F⟩ := Z.fd__law_least_near
  refine fv_of (k := 2) (N := ["_law_blocks_here", "_law_i", "_law_j", "_law_body_here"]) (pin := [0, 1, 2, 3]) (m := m__law_least_near) F sc__law_least_near Z.glo__law_least_near (by decide) ?_
  intro cdv A outer s H E hr
  exact ⟨_, ss_cons (s_if ((sw_or (st_not (st_val (se_call Z.ok__law_numbers (takes_of rfl rfl rfl rfl) (rmono hr (by decide)) (by rfl) (sa_cons (se_var 3 (pv 3)) (sa_cons (se_int) (sa_nil))) (fun _ _ _ _ _ _ us hl => match us, hl with | [_, _], _ => rfl) (len_cons (len_cons len_nil))))) (sw_or (tcmp o_lt (se_ixX (u64 hr) (se_var 3 (pv 3)) (se_int)) (se_int)) (sw_or (tcmp o_lt (se_ixX (u64 hr) (se_var 3 (pv 3)) (se_int)) (se_int)) (sw_or1 (st_not (st_val (se_call Z.ok__law_near (takes_of rfl rfl rfl rfl) (rmono hr (by decide)) (by rfl) (sa_cons (se_var 0 (pv 0)) (sa_cons (se_var 3 (pv 3)) (sa_cons (se_var 1 (pv 1)) (sa_cons (se_var 2 (pv 2)) (sa_nil))))) (fun _ _ _ _ _ _ us hl => match us, hl with | [_, _, _, _], _ => rfl) (len_cons (len_cons (len_cons (len_cons len_nil))))))))))).t) (ss_one (s_ret (se_bl))) (ss_nil)) (ss_cons (s_if ((sw_and (tcmp o_gt (se_ixX (u64 hr) (se_var 3 (pv 3)) (se_int)) (se_int)) (sw_and1 (st_val (se_call Z.ok__law_near (takes_of rfl rfl rfl rfl) (rmono hr (by decide)) (by rfl) (sa_cons (se_var 0 (pv 0)) (sa_cons (se_tup (sa_cons (b_sub (se_ixX (u64 hr) (se_var 3 (pv 3)) (se_int)) (se_int)) (sa_cons (se_ixX (u64 hr) (se_var 3 (pv 3)) (se_int)) (sa_nil))) (len_cons (len_cons len_nil))) (sa_cons (se_var 1 (pv 1)) (sa_cons (se_var 2 (pv 2)) (sa_nil))))) (fun _ _ _ _ _ _ us hl => match us, hl with | [_, _, _, _], _ => rfl) (len_cons (len_cons (len_cons (len_cons len_nil)))))))).t) (ss_one (s_ret (se_bl))) (ss_nil)) (ss_one (s_ret (se_or (cmp (o_eq (u65 hr)) (se_ixX (u64 hr) (se_var 3 (pv 3)) (se_int)) (se_int)) (se_one (se_not (se_call Z.ok__law_near (takes_of rfl rfl rfl rfl) (rmono hr (by decide)) (by rfl) (sa_cons (se_var 0 (pv 0)) (sa_cons (se_tup (sa_cons (se_ixX (u64 hr) (se_var 3 (pv 3)) (se_int)) (sa_cons (b_sub (se_ixX (u64 hr) (se_var 3 (pv 3)) (se_int)) (se_int)) (sa_nil))) (len_cons (len_cons len_nil))) (sa_cons (se_var 1 (pv 1)) (sa_cons (se_var 2 (pv 2)) (sa_nil))))) (fun _ _ _ _ _ _ us hl => match us, hl with | [_, _, _, _], _ => rfl) (len_cons (len_cons (len_cons (len_cons len_nil)))))))))))⟩
theorem Z.ok__law_refusals (Z : Z C base) : FV C C.P C.w base 8 "_law_refusals" s__law_refusals ["_law_draw", "_law_made", "_law_body_here", "_law_many"] den__law_refusals := by
  obtain ⟨fd, F⟩ := Z.fd__law_refusals
  refine fv_ofL (k := 7) (N := ["_law_draw", "_law_made", "_law_body_here", "_law_many", "_law_k", "_law_bad"]) (pin := [0, 1, 2, 3]) (m := m__law_refusals) F sc__law_refusals Z.glo__law_refusals (by decide) ?_
  intro A outer s H E hr
  exact ⟨_, ss_cons (s_asg (se_tup (sa_cons (se_call Z.ok__law_take (takes_of rfl rfl rfl rfl) (rmono hr (by decide)) (by rfl) (sa_cons (se_var 0 (pv 0)) (sa_cons (se_var 3 (pv 3)) (sa_nil))) (fun _ _ _ _ _ _ us hl => match us, hl with | [_, _], _ => rfl) (len_cons (len_cons len_nil))) (sa_cons (se_call Z.ok__law_pick (takes_of rfl rfl rfl rfl) (rmono hr (by decide)) (by rfl) (sa_cons (se_var 0 (pv 0)) (sa_cons (se_lst (sa_cons (se_var 3 (pv 3)) (sa_cons (se_neg (se_int)) (sa_cons (b_add (se_var 3 (pv 3)) (se_int)) (sa_cons (se_non) (sa_cons (se_str) (sa_cons (se_tup (sa_cons (se_int) (sa_nil)) (len_cons len_nil)) (sa_cons (se_bl) (sa_cons (se_lst (sa_cons (se_int) (sa_nil)) (len_cons len_nil)) (sa_nil))))))))) (len_cons (len_cons (len_cons (len_cons (len_cons (len_cons (len_cons (len_cons len_nil))))))))) (sa_nil))) (fun _ _ _ _ _ _ us hl => match us, hl with | [_, _], _ => rfl) (len_cons (len_cons len_nil))) (sa_nil))) (len_cons (len_cons len_nil))) (pgK (g := fun K => gTup K 2 _) (pg_tup (by rfl) (pgs_cons (pg_name (i := 4) sc__law_refusals.nd rfl (by first | exact .inl rfl | exact .inr rfl)) (pgs_cons (pg_name (i := 5) sc__law_refusals.nd rfl (by first | exact .inl rfl | exact .inr rfl)) (pgs_nil))))) (sg_tup (P := [0, 1, 2, 3]) (is := [4, 5]) (n := 2) (by decide) rfl)) (ss_cons (s_if (st_not (st_val (se_isi (u := .own "BadPair") Z.ko (by rfl) Z.free_isinstance (.own Z.glo_BadPair) (pe_glob (by rfl) Z.glo_BadPair rfl) (se_caught (k := 5) Z.fd__law_caught Z.glo__law_caught sc__law_caught rfl (.inl rfl) (fun _ _ _ _ _ _ us hl => match us, hl with | [_], _ => rfl) (fun _ => caught_gives rfl rfl rfl (by decide) Z.glo_GapError (by decide) (by decide) (by decide) (by decide) (by decide)) Z.cx (by rfl) Z.tb__law_refusals (by rfl) Z.tT__law_refusals Z.tU__law_refusals (rmono hr (by decide)) (by exact LamX.lamS_by (sc := defScope s__law_refusals) (by decide +kernel)) (fun A outer s H E f c' hr => se_call Z.ok_gap (takes_of rfl rfl rfl rfl) (rmono hr (by decide)) (by rfl) (sa_cons (se_var 1 (pv 1)) (sa_cons (se_var 4 (pv 4)) (sa_cons (se_var 4 (pv 4)) (sa_nil)))) (fun _ _ _ _ _ _ us hl => match us, hl with | [_, _, _], _ => rfl) (len_cons (len_cons (len_cons len_nil)))) (fun _ _ _ _ _ => rfl))))) (ss_one (s_ret (se_bl))) (ss_nil)) (ss_cons (s_if (st_not (st_val (se_isi (u := .own "BadIndex") Z.ko (by rfl) Z.free_isinstance (.own Z.glo_BadIndex) (pe_glob (by rfl) Z.glo_BadIndex rfl) (se_caught (k := 5) Z.fd__law_caught Z.glo__law_caught sc__law_caught rfl (.inl rfl) (fun _ _ _ _ _ _ us hl => match us, hl with | [_], _ => rfl) (fun _ => caught_gives rfl rfl rfl (by decide) Z.glo_GapError (by decide) (by decide) (by decide) (by decide) (by decide)) Z.cx (by rfl) Z.tb__law_refusals (by rfl) Z.tT__law_refusals Z.tU__law_refusals (rmono hr (by decide)) (by exact LamX.lamS_by (sc := defScope s__law_refusals) (by decide +kernel)) (fun A outer s H E f c' hr => se_call Z.ok_near (takes_of rfl rfl rfl rfl) (rmono hr (by decide)) (by rfl) (sa_cons (se_var 1 (pv 1)) (sa_cons (se_var 2 (pv 2)) (sa_cons (se_var 4 (pv 4)) (sa_cons (se_var 5 (pv 5)) (sa_nil))))) (fun _ _ _ _ _ _ us hl => match us, hl with | [_, _, _, _], _ => rfl) (len_cons (len_cons (len_cons (len_cons len_nil))))) (fun _ _ _ _ _ => rfl))))) (ss_one (s_ret (se_bl))) (ss_nil)) (ss_cons (s_if (st_not (st_val (se_isi (u := .own "BadIndex") Z.ko (by rfl) Z.free_isinstance (.own Z.glo_BadIndex) (pe_glob (by rfl) Z.glo_BadIndex rfl) (se_caught (k := 5) Z.fd__law_caught Z.glo__law_caught sc__law_caught rfl (.inl rfl) (fun _ _ _ _ _ _ us hl => match us, hl with | [_], _ => rfl) (fun _ => caught_gives rfl rfl rfl (by decide) Z.glo_GapError (by decide) (by decide) (by decide) (by decide) (by decide)) Z.cx (by rfl) Z.tb__law_refusals (by rfl) Z.tT__law_refusals Z.tU__law_refusals (rmono hr (by decide)) (by exact LamX.lamS_by (sc := defScope s__law_refusals) (by decide +kernel)) (fun A outer s H E f c' hr => se_call Z.ok_near_from (takes_of rfl rfl rfl rfl) (rmono hr (by decide)) (by rfl) (sa_cons (se_var 1 (pv 1)) (sa_cons (se_var 5 (pv 5)) (sa_cons (se_var 5 (pv 5)) (sa_nil)))) (fun _ _ _ _ _ _ us hl => match us, hl with | [_, _, _], _ => rfl) (len_cons (len_cons (len_cons len_nil)))) (fun _ _ _ _ _ => rfl))))) (ss_one (s_ret (se_bl))) (ss_nil)) (ss_cons (s_if (st_not (st_val (se_isi (u := .own "BadBody") Z.ko (by rfl) Z.free_isinstance (.own Z.glo_BadBody) (pe_glob (by rfl) Z.glo_BadBody rfl) (se_caught (k := 5) Z.fd__law_caught Z.glo__law_caught sc__law_caught rfl (.inl rfl) (fun _ _ _ _ _ _ us hl => match us, hl with | [_], _ => rfl) (fun _ => caught_gives rfl rfl rfl (by decide) Z.glo_GapError (by decide) (by decide) (by decide) (by decide) (by decide)) Z.cx (by rfl) Z.tb__law_refusals (by rfl) Z.tT__law_refusals Z.tU__law_refusals (rmono hr (by decide)) (by exact LamX.lamS_by (sc := defScope s__law_refusals) (by decide +kernel)) (fun A outer s H E f c' hr => se_call Z.ok_near (takes_of rfl rfl rfl rfl) (rmono hr (by decide)) (by rfl) (sa_cons (se_var 1 (pv 1)) (sa_cons (se_tup (sa_cons (se_int) (sa_cons (se_int) (sa_nil))) (len_cons (len_cons len_nil))) (sa_cons (se_var 5 (pv 5)) (sa_cons (se_var 4 (pv 4)) (sa_nil))))) (fun _ _ _ _ _ _ us hl => match us, hl with | [_, _, _, _], _ => rfl) (len_cons (len_cons (len_cons (len_cons len_nil))))) (fun _ _ _ _ _ => rfl))))) (ss_one (s_ret (se_bl))) (ss_nil)) (ss_one (s_ret (se_isi (u := .own "BadDrawing") Z.ko (by rfl) Z.free_isinstance (.own Z.glo_BadDrawing) (pe_glob (by rfl) Z.glo_BadDrawing rfl) (se_caught (k := 5) Z.fd__law_caught Z.glo__law_caught sc__law_caught rfl (.inl rfl) (fun _ _ _ _ _ _ us hl => match us, hl with | [_], _ => rfl) (fun _ => caught_gives rfl rfl rfl (by decide) Z.glo_GapError (by decide) (by decide) (by decide) (by decide) (by decide)) Z.cx (by rfl) Z.tb__law_refusals (by rfl) Z.tT__law_refusals Z.tU__law_refusals (rmono hr (by decide)) (by exact LamX.lamS_by (sc := defScope s__law_refusals) (by decide +kernel)) (fun A outer s H E f c' hr => se_call Z.ok_near_pairs (takes_of rfl rfl rfl rfl) (rmono hr (by decide)) (by rfl) (sa_cons (se_lst (sa_cons (se_var 1 (pv 1)) (sa_nil)) (len_cons len_nil)) (sa_cons (se_tup (sa_cons (se_int) (sa_cons (se_int) (sa_nil))) (len_cons (len_cons len_nil))) (sa_nil))) (fun _ _ _ _ _ _ us hl => match us, hl with | [_, _], _ => rfl) (len_cons (len_cons len_nil))) (fun _ _ _ _ _ => rfl)))))))))⟩
theorem Z.ok_Drawing___init__ (Z : Z C base) : FM C C.P C.w base 5 (He.ma C.K (He.ga C.K "Drawing") "__init__") "Drawing.__init__" "__init__" s_Drawing___init__ ["self", "blocks"] den_Drawing___init__ := by
  obtain ⟨fd, F⟩ := Z.fd_Drawing___init__
  refine ⟨fm_of (k := 4) (N := ["self", "blocks"]) (pin := [0, 1]) (m := m_Drawing___init__) F sc_Drawing___init__ (by decide) ?_⟩
  intro cdv A outer s H E hr
  exact ⟨_, ss_cons (s_if (st_not (st_val (se_call Z.ok_are_blocks (takes_of rfl rfl rfl rfl) (rmono hr (by decide)) (by rfl) (sa_cons (se_var 1 (pv 1)) (sa_nil)) (fun _ _ _ _ _ _ us hl => match us, hl with | [_], _ => rfl) (len_cons len_nil)))) (ss_one (s_raise (by rfl) (takes_of rfl rfl rfl rfl) (by rfl) Z.eo_BadBlocks Z.rs_BadBlocks)) (ss_nil)) (ss_one (s_fput Z.cf (pv 0) (fnt f_tuple Z.free_tuple (sa_cons (se_sorted (by rfl) Z.free_sorted (se_var 1 (pv 1))) (sa_nil)))))⟩
theorem Z.ok_law (Z : Z C base) {fd : FuncData} (F : FunD C.K "law" "law" (defArgs s_law) (defBody s_law) (defScope s_law) [] [] (He.ga C.K "law") fd) : FnOk C.P C.w C.K C.mg base (L2.CX C.P C.w) 9 (He.ga C.K "law") fd ["_law_script"] (spD C 1 den_law) := by
  refine (fd_ofF (k := 8) (N := ["_law_script", "_law_draw", "_law_turn", "_law_blocks_here", "_law_made", "_law_body_here", "_law_told", "_law_j", "_law_i", "_law_one", "_law_other", "_law_found"]) (pin := [0]) (m := m_law) F sc_law (by decide) ?_).1
  intro cdv _ A outer s H E hr
  exact ⟨_, ss_cons (s_set sc_law.nd rfl (by first | exact .inl rfl | exact .inr rfl) (se_call Z.ok__law_begun (takes_of rfl rfl rfl rfl) (rmono hr (by decide)) (by rfl) (sa_cons (se_var 0 (pv 0)) (sa_nil)) (fun _ _ _ _ _ _ us hl => match us, hl with | [_], _ => rfl) (len_cons len_nil))) (ss_cons (s_for rfl (passes_of rfl) (si_rng1 (by rfl) Z.free_range (sa_cons (b_add (se_int) (fnb f_min Z.free_min (sa_cons (se_scL (pv 0) Z.free_len) (sa_cons (se_int) (sa_nil))))) (sa_nil))) (pg_name (i := 2) sc_law.nd rfl (by first | exact .inl rfl | exact .inr rfl)) (sg_name (P := [0]) (i := 2) (by decide)) (ss_cons (s_set sc_law.nd rfl (by first | exact .inl rfl | exact .inr rfl) (se_call Z.ok__law_blocks (takes_of rfl rfl rfl rfl) (rmono hr (by decide)) (by rfl) (sa_cons (se_var 1 (pv 1)) (sa_cons (se_int) (sa_nil))) (fun _ _ _ _ _ _ us hl => match us, hl with | [_, _], _ => rfl) (len_cons (len_cons len_nil)))) (ss_cons (s_par rfl sc_law.nd rfl rfl (se_make Z.cm_Drawing Z.ok_Drawing___init__ (takes_of rfl rfl rfl rfl) free_of (rmono hr (by decide)) (by rfl) (sa_cons (se_call Z.ok__law_shuffled (takes_of rfl rfl rfl rfl) (rmono hr (by decide)) (by rfl) (sa_cons (se_var 1 (pv 1)) (sa_cons (se_var 3 (pv 3)) (sa_nil))) (fun _ _ _ _ _ _ us hl => match us, hl with | [_, _], _ => rfl) (len_cons (len_cons len_nil))) (sa_nil)) (fun _ _ _ _ _ _ us hl => match us, hl with | [_, _], _ => rfl) (len_cons len_nil)) (se_call Z.ok__law_body (takes_of rfl rfl rfl rfl) (rmono hr (by decide)) (by rfl) (sa_cons (se_var 1 (pv 1)) (sa_cons (se_var 3 (pv 3)) (sa_cons (se_lst (sa_nil) len_nil) (sa_nil)))) (fun _ _ _ _ _ _ us hl => match us, hl with | [_, _, _], _ => rfl) (len_cons (len_cons (len_cons len_nil)))) (by rfl)) (ss_cons (s_set sc_law.nd rfl (by first | exact .inl rfl | exact .inr rfl) (se_call Z.ok_near_pairs (takes_of rfl rfl rfl rfl) (rmono hr (by decide)) (by rfl) (sa_cons (se_var 4 (pv 4)) (sa_cons (se_var 5 (pv 5)) (sa_nil))) (fun _ _ _ _ _ _ us hl => match us, hl with | [_, _], _ => rfl) (len_cons (len_cons len_nil)))) (ss_cons (s_if (tcmp (o_ne (u65 hr)) (se_var 6 (pv 6)) (se_call Z.ok__law_near_pairs (takes_of rfl rfl rfl rfl) (rmono hr (by decide)) (by rfl) (sa_cons (se_var 3 (pv 3)) (sa_cons (se_var 5 (pv 5)) (sa_nil))) (fun _ _ _ _ _ _ us hl => match us, hl with | [_, _], _ => rfl) (len_cons (len_cons len_nil)))) (ss_one (s_ret (se_bl))) (ss_nil)) (ss_cons (s_expr (se_meth PySem.F.slot_list_append PySem.F.type_list_append mt_append rule_append (pv 6) (sa_cons (se_tup (sa_cons (se_int) (sa_cons (se_int) (sa_nil))) (len_cons (len_cons len_nil))) (sa_nil)))) (ss_cons (s_if (tcmp (o_ne (u65 hr)) (se_callK0 (ks := ["drawing", "body"]) Z.ok_near_pairs (takes_of rfl rfl rfl rfl) free_of (rmono hr (by decide)) (by rfl) (sk_cons (se_var 4 (pv 4)) (sk_cons (se_var 5 (pv 5)) (sk_nil))) (fun _ _ _ _ _ _ us ws h1 h2 => match us, ws, h1, h2 with | [], [_, _], _, _ => rfl) (len_cons (len_cons len_nil))) (se_call Z.ok__law_near_pairs (takes_of rfl rfl rfl rfl) (rmono hr (by decide)) (by rfl) (sa_cons (se_var 3 (pv 3)) (sa_cons (se_var 5 (pv 5)) (sa_nil))) (fun _ _ _ _ _ _ us hl => match us, hl with | [_, _], _ => rfl) (len_cons (len_cons len_nil)))) (ss_one (s_ret (se_bl))) (ss_nil)) (ss_cons (s_for rfl (passes_of rfl) (si_rng1 (by rfl) Z.free_range (sa_cons (fnb f_len Z.free_len (sa_cons (se_var 3 (pv 3)) (sa_nil))) (sa_nil))) (pg_name (i := 7) sc_law.nd rfl (by first | exact .inl rfl | exact .inr rfl)) (sg_name (P := [0]) (i := 7) (by decide)) (ss_one (s_for rfl (passes_of rfl) (si_rng1 (by rfl) Z.free_range (sa_cons (se_var 7 (pv 7)) (sa_nil))) (pg_name (i := 8) sc_law.nd rfl (by first | exact .inl rfl | exact .inr rfl)) (sg_name (P := [0]) (i := 8) (by decide)) (ss_cons (s_asg (se_ifE (tcmp (o_eq (u65 hr)) (se_call Z.ok__law_take (takes_of rfl rfl rfl rfl) (rmono hr (by decide)) (by rfl) (sa_cons (se_var 1 (pv 1)) (sa_cons (se_int) (sa_nil))) (fun _ _ _ _ _ _ us hl => match us, hl with | [_, _], _ => rfl) (len_cons (len_cons len_nil))) (se_int)) (se_tup (sa_cons (se_var 8 (pv 8)) (sa_cons (se_var 7 (pv 7)) (sa_nil))) (len_cons (len_cons len_nil))) (se_tup (sa_cons (se_var 7 (pv 7)) (sa_cons (se_var 8 (pv 8)) (sa_nil))) (len_cons (len_cons len_nil)))) (pgK (g := fun K => gTup K 2 _) (pg_tup (by rfl) (pgs_cons (pg_name (i := 9) sc_law.nd rfl (by first | exact .inl rfl | exact .inr rfl)) (pgs_cons (pg_name (i := 10) sc_law.nd rfl (by first | exact .inl rfl | exact .inr rfl)) (pgs_nil))))) (sg_tup (P := [0]) (is := [9, 10]) (n := 2) (by decide) rfl)) (ss_cons (s_set sc_law.nd rfl (by first | exact .inl rfl | exact .inr rfl) (se_call Z.ok_gap (takes_of rfl rfl rfl rfl) (rmono hr (by decide)) (by rfl) (sa_cons (se_var 4 (pv 4)) (sa_cons (se_var 9 (pv 9)) (sa_cons (se_var 10 (pv 10)) (sa_nil)))) (fun _ _ _ _ _ _ us hl => match us, hl with | [_, _, _], _ => rfl) (len_cons (len_cons (len_cons len_nil))))) (ss_cons (s_if ((sw_or (st_not (st_val (se_call Z.ok__law_numbers (takes_of rfl rfl rfl rfl) (rmono hr (by decide)) (by rfl) (sa_cons (se_var 11 (pv 11)) (sa_cons (se_int) (sa_nil))) (fun _ _ _ _ _ _ us hl => match us, hl with | [_, _], _ => rfl) (len_cons (len_cons len_nil))))) (sw_or1 (tcmp (o_ne (u65 hr)) (se_var 11 (pv 11)) (se_call Z.ok__law_due_gap (takes_of rfl rfl rfl rfl) (rmono hr (by decide)) (by rfl) (sa_cons (se_var 3 (pv 3)) (sa_cons (se_var 8 (pv 8)) (sa_cons (se_var 7 (pv 7)) (sa_nil)))) (fun _ _ _ _ _ _ us hl => match us, hl with | [_, _, _], _ => rfl) (len_cons (len_cons (len_cons len_nil))))))).t) (ss_one (s_ret (se_bl))) (ss_nil)) (ss_cons (s_if (st_not (st_val (se_call Z.ok__law_says (takes_of rfl rfl rfl rfl) (rmono hr (by decide)) (by rfl) (sa_cons (se_callK (ks := ["i", "j"]) Z.ok_near (takes_of rfl rfl rfl rfl) free_of (rmono hr (by decide)) (by rfl) (sa_cons (se_var 4 (pv 4)) (sa_cons (se_var 5 (pv 5)) (sa_nil))) (sk_cons (se_var 9 (pv 9)) (sk_cons (se_var 10 (pv 10)) (sk_nil))) (fun _ _ _ _ _ _ us ws h1 h2 => match us, ws, h1, h2 with | [_, _], [_, _], _, _ => rfl) (len_cons (len_cons len_nil)) (len_cons (len_cons len_nil))) (sa_cons (se_call Z.ok__law_near (takes_of rfl rfl rfl rfl) (rmono hr (by decide)) (by rfl) (sa_cons (se_var 3 (pv 3)) (sa_cons (se_var 5 (pv 5)) (sa_cons (se_var 8 (pv 8)) (sa_cons (se_var 7 (pv 7)) (sa_nil))))) (fun _ _ _ _ _ _ us hl => match us, hl with | [_, _, _, _], _ => rfl) (len_cons (len_cons (len_cons (len_cons len_nil))))) (sa_nil))) (fun _ _ _ _ _ _ us hl => match us, hl with | [_, _], _ => rfl) (len_cons (len_cons len_nil))))) (ss_one (s_ret (se_bl))) (ss_nil)) (ss_one (s_if (st_not (st_val (se_call Z.ok__law_least_near (takes_of rfl rfl rfl rfl) (rmono hr (by decide)) (by rfl) (sa_cons (se_var 3 (pv 3)) (sa_cons (se_var 8 (pv 8)) (sa_cons (se_var 7 (pv 7)) (sa_cons (se_call Z.ok_near_from (takes_of rfl rfl rfl rfl) (rmono hr (by decide)) (by rfl) (sa_cons (se_var 4 (pv 4)) (sa_cons (se_var 9 (pv 9)) (sa_cons (se_var 10 (pv 10)) (sa_nil)))) (fun _ _ _ _ _ _ us hl => match us, hl with | [_, _, _], _ => rfl) (len_cons (len_cons (len_cons len_nil)))) (sa_nil))))) (fun _ _ _ _ _ _ us hl => match us, hl with | [_, _, _, _], _ => rfl) (len_cons (len_cons (len_cons (len_cons len_nil))))))) (ss_one (s_ret (se_bl))) (ss_nil)))))))))) (ss_one (s_if ((sw_and (tcmp (o_ne (u65 hr)) (se_var 3 (pv 3)) (se_lst (sa_nil) len_nil)) (sw_and1 (st_not (st_val (se_call Z.ok__law_refusals (takes_of rfl rfl rfl rfl) (rmono hr (by decide)) (by rfl) (sa_cons (se_var 1 (pv 1)) (sa_cons (se_var 4 (pv 4)) (sa_cons (se_var 5 (pv 5)) (sa_cons (fnb f_len Z.free_len (sa_cons (se_var 3 (pv 3)) (sa_nil))) (sa_nil))))) (fun _ _ _ _ _ _ us hl => match us, hl with | [_, _, _, _], _ => rfl) (len_cons (len_cons (len_cons (len_cons len_nil))))))))).t) (ss_one (s_ret (se_bl))) (ss_nil))))))))))) (ss_one (s_ret (se_bl))))⟩
theorem Z.ok_Drawing___eq__ (Z : Z C base) : FM C C.P C.w base 1 (He.ma C.K (He.ga C.K "Drawing") "__eq__") "Drawing.__eq__" "__eq__" s_Drawing___eq__ ["self", "other"] den_Drawing___eq__ := by
  obtain ⟨fd, F⟩ := Z.fd_Drawing___eq__
  refine ⟨fm_of (k := 0) (N := ["self", "other"]) (pin := [0, 1]) (m := m_Drawing___eq__) F sc_Drawing___eq__ (by decide) ?_⟩
  intro cdv A outer s H E hr
  exact ⟨_, ss_cons (s_if (st_not (st_val (se_isi (u := .own "Drawing") Z.ko (by rfl) Z.free_isinstance (.own Z.glo_Drawing) (pe_glob (by rfl) Z.glo_Drawing rfl) (se_var 1 (pv 1))))) (ss_one (s_ret (se_bl))) (ss_nil)) (ss_one (s_ret (cmp (o_eq (u65 hr)) (se_fld Z.cf (se_var 0 (pv 0))) (se_fld Z.cf (se_var 1 (pv 1))))))⟩
theorem Z.ok_Drawing___contains__ (Z : Z C base) : FM C C.P C.w base 4 (He.ma C.K (He.ga C.K "Drawing") "__contains__") "Drawing.__contains__" "__contains__" s_Drawing___contains__ ["self", "thing"] den_Drawing___contains__ := by
  obtain ⟨fd, F⟩ := Z.fd_Drawing___contains__
  refine ⟨fm_of (k := 3) (N := ["self", "thing"]) (pin := [0, 1]) (m := m_Drawing___contains__) F sc_Drawing___contains__ (by decide) ?_⟩
  intro cdv A outer s H E hr
  exact ⟨_, ss_one (s_ret (se_and (se_call Z.ok_is_block (takes_of rfl rfl rfl rfl) (rmono hr (by decide)) (by rfl) (sa_cons (se_var 1 (pv 1)) (sa_nil)) (fun _ _ _ _ _ _ us hl => match us, hl with | [_], _ => rfl) (len_cons len_nil)) (se_one (cmp (o_in (u65 hr)) (se_var 1 (pv 1)) (se_fld Z.cf (se_var 0 (pv 0)))))))⟩
theorem at_end (plain : ∀ ns : List Int, ns.length ≤ 63 → ∃ outs, den_law [.sc ns] = .ok (.d (.bl true)) outs) {w : World} {mg : PySem.Str → Option Value} {h : Heap} {K : PySem.W.Frag} (KX : K.In h) (G : h.Ns mainGlobals mg) (c : He.SaysX fa fn [] tf ex w h K) (at_ : Addr) (hm : mg "law" = some (.ref at_)) :
    LawAtS PySem.Challenge.rw_gapstairs_k21_near_blocks w K (L2.CX PySem.Challenge.rw_gapstairs_k21_near_blocks.prog w) 9 63 "_law_script" mg at_ h := by
  have e := hm.symm.trans (He.glo_ok KX G (c.t.d.fact 41 (f := .glo "law") rfl))
  cases e
  obtain ⟨fd, F⟩ := c.t.d.def_ 41 (d := d_law) rfl
  exact law_end (l := PySem.Challenge.rw_gapstairs_k21_near_blocks) (tf := tf) (den := den_law) (T := tf.map fun p => ((He.cT K p).2, p.1 ++ ".<locals>." ++ "<lambda>")) c.empty c.out (fun p hp => PySem.W.codeHd_of_K KX (c.hd p hp)) rfl
    (fun s u => FunD.bindsA (ps := ["_law_script"]) F (fun _ _ _ _ _ _ us hl => match us, hl with | [_], _ => rfl) s [u] rfl)
    (fun base b1 b2 b3 => Z.ok_law (C := ⟨K, mg, tf.map fun p => ((He.cT K p).2, p.1 ++ ".<locals>." ++ "<lambda>"), PySem.Challenge.rw_gapstairs_k21_near_blocks.prog, w⟩) ⟨c.t.d, ⟨h, KX, G⟩, c.more, b3, rfl⟩ F) plain
end
end HD
section
open PySem PySem.W PySem.Calls PyProof.Rows
theorem law_holds (plain : ∀ ns : List Int, ns.length ≤ 63 → ∃ outs, HD.den_law [.sc ns] = .ok (.d (.bl true)) outs) : PySem.Challenge.rw_gapstairs_k21_near_blocks.Holds := by
  w_on; o_law
  refine HandSHeadRun.head_any (r := OpenLaw.row PySem.Challenge.rw_gapstairs_k21_near_blocks) (q := view (OpenLaw.row PySem.Challenge.rw_gapstairs_k21_near_blocks).prog [55]) (H := HD.hk) (ob := HD.ob) (M := 6000) (loose := HD.loose) (d := HandSHeadRun.topDef (OpenLaw.row PySem.Challenge.rw_gapstairs_k21_near_blocks).prog 55) (kwd := []) HD.ob_eq
    (by kernel_rfl) (fun s => by kernel_rfl) HD.run (by kernel_rfl) (by kernel_rfl) (by kernel_rfl) (by rfl) (by first | assumption | decide +kernel) (by decide +kernel) ⟨rfl, rfl, rfl, rfl, rfl, by decide +kernel⟩ ?hw ?hc
  case hw => w_witness2
  case hc =>
    refine LamX.walk_ofTsE (l := PySem.Challenge.rw_gapstairs_k21_near_blocks) (n := 63) (k := 9) (x := "_law_script") (CX := fun w => L2.CX PySem.Challenge.rw_gapstairs_k21_near_blocks.prog w) rfl (by decide) (by kernel_rfl) ⟨rfl, by decide, by decide⟩ ?F (fun w H s e s' h => VS.cx_false w H s e s' h)
    intro w mg fa h Y G hmg0
    obtain ⟨K, KX, c⟩ := Y
    have hmg : mg ("law" : PySem.Str) = some (.ref fa) := by
      have e : (HandSHeadRun.topDef (OpenLaw.row PySem.Challenge.rw_gapstairs_k21_near_blocks).prog 55).name = ("law" : PySem.Str) := by kernel_rfl
      rw [← e]
      exact hmg0
    exact ⟨K, KX, HD.at_end plain KX G c fa hmg⟩
end


/-! P1: draws. -/
namespace HD
open PySem PySem.Spec PyProof.Rows L2 VS
/-- how often was drawn -/
def Tn (s : Draw) (n : Int) : Prop := 0 ≤ s.turn ∧ s.turn ≤ n
noncomputable abbrev mixB : M Fl := mSet 4 (mBin dMod (mFn fInt (mCons (mBin dAdd (mBin dAdd (mBin dMul (mVar 4) (M.ret (rSc (.int 69621)))) (mVar 5)) (mVar 1)) (M.ret []))) (mVar 3))
theorem mix_in {s : Draw} {t f p : Int} (hp : 0 < p) (hp2 : p < 2 ^ 32) : ∀ (cs : List Int) (b : Int) (x : Option SV), 0 ≤ b → b < 2 ^ 62 → ∃ b' x', 0 ≤ b' ∧ b' < 2 ^ 62 ∧
    forR (tgName 5) mixB (cs.map .int) [some (.dr s), some (.d (.int t)), some (.d (.int f)), some (.d (.int p)), some (.d (.int b)), x] = .ok .nx [some (.dr s), some (.d (.int t)), some (.d (.int f)), some (.d (.int p)), some (.d (.int b')), x']
  | [], b, x, h0, h1 => ⟨b, x, h0, h1, rfl⟩
  | c :: cs, b, x, h0, h1 => by
    have e1 : 0 ≤ (b * 69621 + c + t).fmod p := Int.fmod_nonneg_of_pos _ hp
    have e2 : (b * 69621 + c + t).fmod p < p := Int.fmod_lt_of_pos _ hp
    obtain ⟨b', x', g0, g1, g2⟩ := mix_in (s := s) (t := t) (f := f) hp hp2 cs ((b * 69621 + c + t).fmod p) (some (.d (.int c))) e1 (by omega)
    refine ⟨b', x', g0, g1, ?_⟩
    rw [List.map_cons, e_forC]
    have hm : (-(2 ^ 64) < b ∧ b < 2 ^ 64) ∨ (-(2 ^ 64) < (69621 : Int) ∧ (69621 : Int) < 2 ^ 64) := .inr (by decide)
    have hp0 : p ≠ 0 := by omega
    simp [mixB, hp0]
    exact g2
noncomputable abbrev mixO : M Fl := mSeq (mSet 4 (mBin dAdd (mBin dMul (M.ret (rSc (.int 48271))) (mVar 1)) (mBin dDiv (mVar 3) (M.ret (rSc (.int 37)))))) (mSeq (mFor (mSeqI (mDr 0 .cells)) (tgName 5) mixB) (mSet 2 (mBin dAdd (mBin dMul (mVar 2) (M.ret (rSc (.int 2147483647)))) (mBin dMod (mFn fInt (mCons (mBin dPow (mVar 4) (M.ret (rSc (.int 5)))) (M.ret []))) (mVar 3)))))
theorem mix_out {s : Draw} {t : Int} (t0 : 0 ≤ t) (t1 : t ≤ 2 ^ 40) : ∀ (ps : List Int) (f : Int) (x y z : Option SV), (∀ p ∈ ps, 0 < p ∧ p < 2 ^ 32) → ∃ f' x' y' z',
    forR (tgName 3) mixO (ps.map .int) [some (.dr s), some (.d (.int t)), some (.d (.int f)), x, y, z] = .ok .nx [some (.dr s), some (.d (.int t)), some (.d (.int f')), x', y', z']
  | [], f, x, y, z, _ => ⟨f, x, y, z, rfl⟩
  | p :: ps, f, x, y, z, h => by
    obtain ⟨p0, p1⟩ := h p List.mem_cons_self
    have q0 : 0 ≤ p.fdiv 37 := Int.fdiv_nonneg (by omega) (by decide)
    have q1 : p.fdiv 37 ≤ p := by
      rw [Int.fdiv_eq_ediv_of_nonneg _ (by decide)]
      exact Int.ediv_le_self _ (by omega)
    obtain ⟨b', x2, g0, g1, g2⟩ := mix_in (s := s) (t := t) (f := f) p0 p1 s.cells (48271 * t + p.fdiv 37) z (by omega) (by omega)
    obtain ⟨f', x3, y3, z3, g3⟩ := mix_out t0 t1 ps (f * 2147483647 + (b' ^ 5).fmod p) (some (.d (.int p))) (some (.d (.int b'))) x2 fun q hq => h q (List.mem_cons_of_mem _ hq)
    refine ⟨f', x3, y3, z3, ?_⟩
    rw [List.map_cons, e_forC]
    have hp0 : p ≠ 0 := by omega
    have hb : b'.natAbs < 2 ^ 64 := by omega
    simp [mixO, hp0, g2]
    have hb : b'.natAbs < 18446744073709551616 := by omega
    simp [hb, hp0]
    exact g3
theorem mixed_ok {s : Draw} {n : Int} (h : Tn s n) (hn : n ≤ 2 ^ 39) : ∃ v s', den__law_mixed [.dr s] = .ok (.d (.int v)) [some (.dr s')] ∧ Tn s' (n + 1) := by
  obtain ⟨f', x, y, z, g⟩ := mix_out (s := { s with turn := s.turn + 1 }) (t := s.turn + 1) (by have := h.1; omega) (by have := h.2; omega) [2147483647, 2147483629, 2147483587, 2147483579] 0 none none none (by decide)
  refine ⟨f', { s with turn := s.turn + 1 }, ?_, by have := h.1; show 0 ≤ s.turn + 1; omega, by have := h.2; show s.turn + 1 ≤ n + 1; omega⟩
  simp [den__law_mixed, denOf, m__law_mixed]
  simp [mixO, mixB] at g
  rw [g]
  simp
theorem take_ok {s : Draw} {n m : Int} (h : Tn s n) (hn : n ≤ 2 ^ 39) (m0 : 1 ≤ m) (m1 : m < 2 ^ 30) : ∃ v s', den__law_take [.dr s, .d (.int m)] = .ok (.d (.int v)) [some (.dr s'), some (.d (.int m))] ∧ 0 ≤ v ∧ v < m ∧ Tn s' (n + 1) := by
  have hm0 : m ≠ 0 := by omega
  have hm1 : m.natAbs < 1073741824 := by omega
  have fin : ∀ l : Int, 0 ≤ l.fmod m ∧ l.fmod m < m := fun l => ⟨Int.fmod_nonneg_of_pos _ (by omega), Int.fmod_lt_of_pos _ (by omega)⟩
  have tn : ∀ {a : Draw}, a.turn = s.turn → Tn a (n + 1) := fun {a} e => ⟨by rw [e]; exact h.1, by have := h.2; rw [e]; omega⟩
  by_cases h0 : s.left = 0
  · by_cases hg : s.great = []
    · obtain ⟨v, s1, e1, t1⟩ := mixed_ok h hn
      refine ⟨v.fmod m, { s1 with left := v.fdiv m }, ?_, (fin v).1, (fin v).2, t1⟩
      simp [den__law_take, denOf, m__law_take, h0, hg, e1, hm0, hm1]
    · obtain ⟨z, zs, e⟩ := List.exists_cons_of_ne_nil hg
      refine ⟨z.fmod m, { s with great := zs, left := z.fdiv m }, ?_, (fin z).1, (fin z).2, tn rfl⟩
      simp [den__law_take, denOf, m__law_take, h0, e, hm0, hm1]
  · refine ⟨s.left.fmod m, { s with left := s.left.fdiv m }, ?_, (fin _).1, (fin _).2, tn rfl⟩
    simp [den__law_take, denOf, m__law_take, h0, hm0, hm1]
theorem atI_lt {α : Type} {xs : List α} {v : Int} (h0 : 0 ≤ v) (h1 : v < xs.length) : ∃ y, atI xs v = some y ∧ y ∈ xs := by
  have hi : v.toNat < xs.length := by omega
  refine ⟨xs[v.toNat], ?_, List.getElem_mem hi⟩
  unfold atI ixN
  rw [if_pos h0, if_pos h1]
  show xs[v.toNat]? = _
  rw [List.getElem?_eq_getElem hi]
/-- pick gives a member -/
theorem pick_ok {s : Draw} {n : Int} {xs : List D} (h : Tn s n) (hn : n ≤ 2 ^ 39) (x0 : xs ≠ []) (x1 : xs.length < 2 ^ 30) : ∃ y s', y ∈ xs ∧ den__law_pick [.dr s, .d (.lst xs)] = .ok (.d y) [some (.dr s'), some (.d (.lst xs))] ∧ Tn s' (n + 1) := by
  have l0 : 1 ≤ (xs.length : Int) := by
    have := List.length_pos_iff.mpr x0
    omega
  obtain ⟨v, s', e, v0, v1, t⟩ := take_ok h hn l0 (by omega)
  obtain ⟨y, e2, my⟩ := atI_lt v0 v1
  refine ⟨y, s', my, ?_, t⟩
  simp [den__law_pick, denOf, m__law_pick, e, e2]
end HD

/-! P2: blocks. -/
namespace HD
open PySem PySem.Spec PyProof.Rows L2 VS
/-- a picked whole number -/
theorem pickI_ok {s : Draw} {n : Int} {xs : List Int} (h : Tn s n) (hn : n ≤ 2 ^ 39) (x0 : xs ≠ []) (x1 : xs.length < 2 ^ 30) : ∃ y s', y ∈ xs ∧ den__law_pick [.dr s, .d (.lst (xs.map .int))] = .ok (.d (.int y)) [some (.dr s'), some (.d (.lst (xs.map .int)))] ∧ Tn s' (n + 1) := by
  obtain ⟨y, s', m, e, t⟩ := pick_ok (xs := xs.map .int) h hn (by simpa using x0) (by simpa using x1)
  obtain ⟨k, hk, rfl⟩ := List.mem_map.mp m
  exact ⟨k, s', hk, e, t⟩
theorem block_ok {s : Draw} {n w : Int} (h : Tn s n) (hn : n ≤ 2 ^ 38) (w0 : 1 ≤ w) (w1 : w < 2 ^ 30) : ∃ a b c d s', den__law_block [.dr s, .d (.int w)] = .ok (.d (.tup [.int a, .int b, .int c, .int d])) [some (.dr s'), some (.d (.int w))] ∧ 0 ≤ a ∧ a < c ∧ 0 ≤ b ∧ b < d ∧ Tn s' (n + 4) := by
  obtain ⟨a, s1, e1, a0, a1, t1⟩ := take_ok h (by omega) w0 w1
  obtain ⟨b, s2, e2, b0, b1, t2⟩ := take_ok t1 (by omega) w0 w1
  obtain ⟨c, s3, m3, e3, t3⟩ := pickI_ok (xs := [0, 0, 1, 2, 3, 6]) t2 (by omega) (by simp) (by simp)
  obtain ⟨d, s4, m4, e4, t4⟩ := pickI_ok (xs := [0, 0, 1, 2, 3, 6]) t3 (by omega) (by simp) (by simp)
  have hc : 0 ≤ c := by simp at m3; omega
  have hd : 0 ≤ d := by simp at m4; omega
  refine ⟨a, b, a + 1 + c, b + 1 + d, s4, ?_, a0, by omega, b0, by omega, ⟨t4.1, by have := t4.2; omega⟩⟩
  simp only [List.map_cons, List.map_nil] at e3 e4
  simp [den__law_block, denOf, m__law_block, e1, e2, e3, e4]
end HD

/-! P3: pens. -/
namespace HD
open PySem PySem.Spec PyProof.Rows L2 VS
/-- four numbers as a block -/
abbrev bT (a b c d : Int) : D := .tup [.int a, .int b, .int c, .int d]
theorem atI4 {α : Type} (a b c d : α) : atI [a, b, c, d] 0 = some a ∧ atI [a, b, c, d] 1 = some b ∧ atI [a, b, c, d] 2 = some c ∧ atI [a, b, c, d] 3 = some d := ⟨rfl, rfl, rfl, rfl⟩
theorem pen_ok {s : Draw} {n w t : Int} (h : Tn s n) (hn : n ≤ 2 ^ 38) (w0 : 2 ≤ w) (w1 : w ≤ 6) (t0 : 2 ≤ t) (t1 : t ≤ 6) : ∃ p q r u p' u' s', den__law_pen [.dr s, .d (.int 2), .d (.int 2), .d (.int w), .d (.int t)] = .ok (.ol [bT 1 1 (3 + w - p) 2, bT (2 + w) (1 + p') (3 + w) (3 + t - q), bT (1 + r) (2 + t) (3 + w) (3 + t), bT 1 (1 + u) 2 (2 + t + u')]) [some (.dr s'), some (.d (.int 2)), some (.d (.int 2)), some (.d (.int w)), some (.d (.int t))] ∧ 0 ≤ p ∧ p ≤ 3 ∧ p ≤ w ∧ 0 ≤ q ∧ q ≤ 3 ∧ q ≤ t ∧ 0 ≤ r ∧ r ≤ 3 ∧ r ≤ w ∧ 0 ≤ u ∧ u ≤ 3 ∧ u ≤ t ∧ 0 ≤ p' ∧ p' ≤ 1 ∧ 0 ≤ u' ∧ u' ≤ 1 ∧ Tn s' (n + 6) := by
  obtain ⟨c0, s1, m0, e1, h1⟩ := pickI_ok (xs := [0, 0, 0, 1, 1, 2, 3]) h (by omega) (by simp) (by simp)
  obtain ⟨c1, s2, m1, e2, h2⟩ := pickI_ok (xs := [0, 0, 0, 1, 1, 2, 3]) h1 (by omega) (by simp) (by simp)
  obtain ⟨c2, s3, m2, e3, h3⟩ := pickI_ok (xs := [0, 0, 0, 1, 1, 2, 3]) h2 (by omega) (by simp) (by simp)
  obtain ⟨c3, s4, m3, e4, h4⟩ := pickI_ok (xs := [0, 0, 0, 1, 1, 2, 3]) h3 (by omega) (by simp) (by simp)
  obtain ⟨c4, s5, m4, e5, h5⟩ := pickI_ok (xs := [0, 1, 1]) h4 (by omega) (by simp) (by simp)
  obtain ⟨c5, s6, m5, e6, h6⟩ := pickI_ok (xs := [0, 1, 1]) h5 (by omega) (by simp) (by simp)
  simp at m0 m1 m2 m3 m4 m5
  simp only [List.map_cons, List.map_nil] at e1 e2 e3 e4 e5 e6
  refine ⟨if w < c0 then w else c0, if t < c1 then t else c1, if w < c2 then w else c2, if t < c3 then t else c3, c4, c5, s6, ?_, by omega, by omega, by omega, by omega, by omega, by omega, by omega, by omega, by omega, by omega, by omega, by omega, by omega, by omega, by omega, by omega, ⟨h6.1, by have := h6.2; omega⟩⟩
  have z0 : (4 : Int).toNat = 4 := rfl
  have zs : ∀ k, k < 4096 → k < sizeLine := e_sizeLine
  simp [den__law_pen, denOf, m__law_pen, z0, intsD_succ, intsD_zero, e_lcC, e1, e2, e3, e4, e5, e6, zs, (atI4 _ _ _ _).1, (atI4 _ _ _ _).2.1, (atI4 _ _ _ _).2.2.1, (atI4 _ _ _ _).2.2.2]
  omega
end HD

/-! P4: comparing whole numbers, tuples of them, lists of such tuples. -/
namespace HD
open PySem PySem.Spec PyProof.Rows L2 VS VR
theorem toPys_ints : ∀ ns : List Int, toPys (intD ns) = some (ns.map .int)
  | [] => by unfold VS.intD; simp [toPys]
  | n :: ns => by
    have e : toPys (intD (n :: ns)) = (toPy (.int n)).bind fun d => (toPys (intD ns)).map (d :: ·) := by unfold VS.intD; simp only [List.map_cons, toPys]
    rw [e, toPys_ints ns]
    simp [toPy]
theorem lay_ints : ∀ ns : List Int, PyData.canLayAll0 (ns.map .int) = true
  | [] => by simp [PyData.canLayAll0]
  | n :: ns => by simp [PyData.canLayAll0, PyData.canLay0, lay_ints ns]
theorem dep_ints : ∀ ns : List Int, PyData.depthAll (ns.map .int) = 0
  | [] => by simp [PyData.depthAll]
  | n :: ns => by simp [PyData.depthAll, PyData.depth, dep_ints ns]
theorem eqv_ints : ∀ ns ms : List Int, PyData.eqvAll (ns.map .int) (ms.map .int) = decide (ns = ms)
  | [], [] => by simp [PyData.eqvAll]
  | [], _ :: _ => by simp [PyData.eqvAll]
  | _ :: _, [] => by simp [PyData.eqvAll]
  | n :: ns, m :: ms => by
    simp only [List.map_cons, PyData.eqvAll, PyData.eqv, eqv_ints ns ms]
    by_cases h : n = m <;> by_cases g : ns = ms <;> simp [h, g]
abbrev pyT (k : List Int) : PyData := .tuple (k.map .int)
@[simp] theorem cmp_tup (k : List Int) : cmpD (.tup (intD k)) = some (pyT k) := by
  unfold cmpD
  simp only [toPy, toPys_ints, Option.map_some, Option.bind_some]
  have : SeqAt.shaped (pyT k) = true := by
    unfold SeqAt.shaped
    simp [PyData.canLay0, PyData.depth, lay_ints, dep_ints]
  rw [if_pos this]
@[simp] theorem cmp_ints (k : List Int) : cmpD (.lst (intD k)) = some (.list (k.map .int)) := by
  unfold cmpD
  simp only [toPy, toPys_ints, Option.map_some, Option.bind_some]
  have : SeqAt.shaped (.list (k.map .int)) = true := by
    unfold SeqAt.shaped
    simp [PyData.canLay0, PyData.depth, lay_ints, dep_ints]
  rw [if_pos this]
theorem toPys_tups : ∀ ks : List (List Int), toPys (tupD ks) = some (ks.map pyT)
  | [] => by unfold tupD; simp [toPys]
  | k :: ks => by
    have e : toPys (tupD (k :: ks)) = (toPy (.tup (intD k))).bind fun d => (toPys (tupD ks)).map (d :: ·) := by unfold tupD; simp only [List.map_cons, toPys]
    rw [e, toPys_tups ks]
    simp [toPy, toPys_ints]
theorem lay_tups : ∀ ks : List (List Int), PyData.canLayAll0 (ks.map pyT) = true
  | [] => by simp [PyData.canLayAll0]
  | k :: ks => by simp [PyData.canLayAll0, PyData.canLay0, lay_tups ks, lay_ints]
theorem dep_tups : ∀ ks : List (List Int), PyData.depthAll (ks.map pyT) ≤ 1
  | [] => by simp [PyData.depthAll]
  | k :: ks => by
    have := dep_tups ks
    simp only [List.map_cons, PyData.depthAll, PyData.depth, dep_ints]
    omega
theorem eqv_tups : ∀ ks ls : List (List Int), PyData.eqvAll (ks.map pyT) (ls.map pyT) = decide (ks = ls)
  | [], [] => by simp [PyData.eqvAll]
  | [], _ :: _ => by simp [PyData.eqvAll]
  | _ :: _, [] => by simp [PyData.eqvAll]
  | n :: ns, m :: ms => by
    simp only [List.map_cons, PyData.eqvAll, PyData.eqv, eqv_tups ns ms, eqv_ints]
    by_cases h : n = m <;> by_cases g : ns = ms <;> simp [h, g]
@[simp] theorem cmp_tups (ks : List (List Int)) : cmpD (.lst (tupD ks)) = some (.list (ks.map pyT)) := by
  unfold cmpD
  simp only [toPy, toPys_tups, Option.map_some, Option.bind_some]
  have : SeqAt.shaped (.list (ks.map pyT)) = true := by
    unfold SeqAt.shaped
    have := dep_tups ks
    simp [PyData.canLay0, PyData.depth, lay_tups]
    omega
  rw [if_pos this]
@[simp] theorem cmp_tupT (ks : List (List Int)) : cmpD (.tup (tupD ks)) = some (.tuple (ks.map pyT)) := by
  unfold cmpD
  simp only [toPy, toPys_tups, Option.map_some, Option.bind_some]
  have : SeqAt.shaped (.tuple (ks.map pyT)) = true := by
    unfold SeqAt.shaped
    have := dep_tups ks
    simp [PyData.canLay0, PyData.depth, lay_tups]
    omega
  rw [if_pos this]
@[simp] theorem eq_tup (n : Bool) (k l : List Int) : dEq n (.tup (intD k)) (.tup (intD l)) = some (.sc (.bl (n ^^ decide (k = l)))) := by
  simp [dEq, PyData.eqv, eqv_ints]
@[simp] theorem eq_ints (n : Bool) (k l : List Int) : dEq n (.lst (intD k)) (.lst (intD l)) = some (.sc (.bl (n ^^ decide (k = l)))) := by
  simp [dEq, PyData.eqv, eqv_ints]
@[simp] theorem eq_tups (n : Bool) (k l : List (List Int)) : dEq n (.lst (tupD k)) (.lst (tupD l)) = some (.sc (.bl (n ^^ decide (k = l)))) := by
  simp [dEq, PyData.eqv, eqv_tups]
@[simp] theorem in_tups (n : Bool) (k : List Int) (ks : List (List Int)) : dIn n (.tup (intD k)) (.lst (tupD ks)) = some (.sc (.bl (n ^^ decide (k ∈ ks)))) := by
  have e : ((ks.map pyT).any fun z => PyData.eqv z (pyT k)) = decide (k ∈ ks) := by
    induction ks with
    | nil => simp
    | cons l ls ih =>
      simp only [List.map_cons, List.any_cons, ih, PyData.eqv, eqv_ints]
      by_cases h : l = k
      · simp [h]
      · have : ¬ k = l := fun e => h e.symm
        simp [h, this]
  simp only [dIn, cmp_tup, cmp_tups, Option.bind_some, e]
@[simp] theorem sorted_tups (ks : List (List Int)) (h : ∀ k ∈ ks, k ≠ []) : dSorted (.lst (tupD ks)) = some (.nl (tupD (sortL ks))) := by
  cases ks with
  | nil =>
    show some (Rv.nl (intD (sortI []))) = some (Rv.nl (tupD (sortL [])))
    simp [sortI, sortL, VS.intD, tupD]
  | cons k ks =>
    have a : intsOfD (tupD (k :: ks)) = none := rfl
    have b : ((k :: ks).all fun k => !k.isEmpty) = true := by
      rw [List.all_eq_true]
      intro l hl
      have := h l hl
      cases l with
      | nil => exact absurd rfl this
      | cons _ _ => rfl
    unfold dSorted
    simp only [a, tupsOf_tupD, b, if_true]
@[simp] theorem sortSet_ints (ns : List Int) (h : ns.length < 64) : dSortSet (.lst (intD ns)) = some (.nl (intD (sortI (ddup ns)))) := by
  simp [dSortSet, h]
end HD

/-! P5: tables. -/
namespace HD
open PySem PySem.Spec PyProof.Rows L2 VS VR
def pk (ps : List (Int × Int)) : List (Key × D) := ps.map fun p => (.inl p.1, .int p.2)
theorem put_new (ps : List (Int × Int)) (k v : Int) (h : ∀ p ∈ ps, p.1 ≠ k) : putD (pk ps) (.inl k) (.int v) = pk (ps ++ [(k, v)]) := by
  have e : ((pk ps).any fun kv => decide (kv.1 = (.inl k : Key))) = false := by
    rw [List.any_eq_false]
    intro q hq
    obtain ⟨p, hp, rfl⟩ := List.mem_map.mp hq
    have := h p hp
    simp [this]
  unfold putD
  rw [e, if_neg (by simp)]
  simp [pk]
def eF (i : Nat) (ls : List Int) : List D := (ls.zipIdx i).map fun p => .tup [.int (p.2 : Nat), .int p.1]
theorem eF_cons (i : Nat) (l : Int) (ls : List Int) : eF i (l :: ls) = .tup [.int (i : Nat), .int l] :: eF (i + 1) ls := by simp [eF]
theorem enumD_eF (ls : List Int) : enumD (VS.intD ls) = eF 0 ls := by
  have : ∀ (ls : List Int) (i : Nat), ((VS.intD ls).zipIdx i).map (fun p => D.tup [.int (p.2 : Nat), p.1]) = eF i ls := by
    intro ls
    induction ls with
    | nil => intro i; rfl
    | cons l ls ih =>
      intro i
      rw [eF_cons, ← ih]
      simp [VS.intD]
  exact this ls 0
/-- pairs rising in both -/
abbrev Up (ps : List (Int × Int)) : Prop := ps.Pairwise fun a b => a.1 < b.1 ∧ a.2 < b.2
theorem up_add {ps : List (Int × Int)} {k v : Int} (h : Up ps) (a : ∀ p ∈ ps, p.1 < k ∧ p.2 < v) : Up (ps ++ [(k, v)]) := by
  refine List.pairwise_append.mpr ⟨h, List.pairwise_singleton _ _, fun p hp q hq => ?_⟩
  rw [List.mem_singleton] at hq
  rw [hq]
  exact a p hp
noncomputable abbrev tabB : M Fl := mIf (mB (mBin dLt (mVar 3) (M.ret (rSc (.int 2))))) (mDPut 4 (mVar 8) (mBin dAdd (mVar 8) (mVar 5))) (mIf (mB (mBin (dEq false) (mVar 3) (M.ret (rSc (.int 2))))) (mDPut 4 (mVar 8) (mBin dAdd (mBin dMul (mVar 8) (mVar 6)) (mVar 5))) (mSeq (mSet 5 (mBin dAdd (mVar 5) (mIfE (mB (mBin (dEq false) (mVar 7) (M.ret (rSc (.int 0))))) (M.ret (rSc (.int 0))) (mBin dAdd (M.ret (rSc (.int 1))) (mCall den__law_pick (mCons (mVar 0) (mCons (mLst (mCons (M.ret (rSc (.int 0))) (mCons (M.ret (rSc (.int 0))) (mCons (M.ret (rSc (.int 1))) (mCons (M.ret (rSc (.int 2))) (mCons (M.ret (rSc (.int 5))) (mCons (M.ret (rSc (.int 13))) (mCons (M.ret (rSc (.int 997))) (M.ret []))))))))) (M.ret [])))))))) (mDPut 4 (mVar 8) (mVar 5))))
theorem tab_loop {a b : Option SV} {w fa : Int} (hf : 1 ≤ fa) (hf2 : fa < 2 ^ 62) : ∀ (ls : List Int) (i : Nat) (s : Draw) (n here : Int) (ps : List (Int × Int)) (x y : Option SV),
    Tn s n → n + ls.length ≤ 2 ^ 38 → ps.length = i → ps.length + ls.length < 4096 → Up ps → ls.Pairwise (· < ·) → (∀ p ∈ ps, ∀ l ∈ ls, p.1 < l) →
    (w < 2 → ∀ p ∈ ps, p.2 = p.1 + here) → (w = 2 → ∀ p ∈ ps, p.2 = p.1 * fa + here) → (2 < w → ∀ p ∈ ps, p.2 ≤ here) →
    ∃ s' ps' here' x' y', forR (tgTup [7, 8]) tabB (eF i ls) [some (.dr s), a, b, some (.d (.int w)), some (.od (pk ps)), some (.d (.int here)), some (.d (.int fa)), x, y] = .ok .nx [some (.dr s'), a, b, some (.d (.int w)), some (.od (pk ps')), some (.d (.int here')), some (.d (.int fa)), x', y'] ∧
      Tn s' (n + ls.length) ∧ Up ps' ∧ (∀ p ∈ ps, p ∈ ps') ∧ ∀ l ∈ ls, ∃ v, (l, v) ∈ ps'
  | [], i, s, n, here, ps, x, y, ht, hn, hi, hz, hu, hl, hp, c1, c2, c3 => ⟨s, ps, here, x, y, rfl, by simpa using ht, hu, fun _ h => h, fun _ h => nomatch h⟩
  | l :: ls, i, s, n, here, ps, x, y, ht, hn, hi, hz, hu, hl, hp, c1, c2, c3 => by
    have hps : (pk ps).length < sizeLine := e_sizeLine _ (by simp [pk]; simp at hz; omega)
    have new : ∀ v, putD (pk ps) (.inl l) (.int v) = pk (ps ++ [(l, v)]) := fun v => put_new ps l v fun p hq => by
      have := hp p hq l List.mem_cons_self
      omega
    obtain ⟨hl1, hl2⟩ := List.pairwise_cons.mp hl
    have hlen : n + 1 + (ls.length : Int) ≤ 2 ^ 38 := by simp at hn; omega
    have hnn : n ≤ 2 ^ 39 := by simp at hn; omega
    have go : ∀ (s1 : Draw) (here1 v : Int), Tn s1 (n + 1) → (∀ p ∈ ps, p.2 < v) → (w < 2 → here1 = here ∧ v = l + here) → (w = 2 → here1 = here ∧ v = l * fa + here) → (2 < w → v = here1) →
        ∃ s' ps' here' x' y', forR (tgTup [7, 8]) tabB (eF (i + 1) ls) [some (.dr s1), a, b, some (.d (.int w)), some (.od (pk (ps ++ [(l, v)]))), some (.d (.int here1)), some (.d (.int fa)), some (.d (.int (i : Nat))), some (.d (.int l))] = .ok .nx [some (.dr s'), a, b, some (.d (.int w)), some (.od (pk ps')), some (.d (.int here')), some (.d (.int fa)), x', y'] ∧
        Tn s' (n + (l :: ls).length) ∧ Up ps' ∧ (∀ p ∈ ps, p ∈ ps') ∧ ∀ k ∈ l :: ls, ∃ v, (k, v) ∈ ps' := by
      intro s1 here1 v ht1 hv d1 d2 d3
      obtain ⟨s', ps', here', x', y', e, t', u', m1, m2⟩ := tab_loop (a := a) (b := b) (w := w) hf hf2 ls (i + 1) s1 (n + 1) here1 (ps ++ [(l, v)]) (some (.d (.int (i : Nat)))) (some (.d (.int l))) ht1 hlen (by simp [hi]) (by simp at hz ⊢; omega) (up_add hu fun p hq => ⟨hp p hq l List.mem_cons_self, hv p hq⟩) hl2
        (fun p hq k hk => by
          rcases List.mem_append.mp hq with hq | hq
          · exact hp p hq k (List.mem_cons_of_mem _ hk)
          · rw [List.mem_singleton] at hq
            rw [hq]
            exact hl1 k hk)
        (fun h p hq => by
          rcases List.mem_append.mp hq with hq | hq
          · rw [(d1 h).1]; exact c1 h p hq
          · rw [List.mem_singleton] at hq
            rw [hq, (d1 h).1]; exact (d1 h).2)
        (fun h p hq => by
          rcases List.mem_append.mp hq with hq | hq
          · rw [(d2 h).1]; exact c2 h p hq
          · rw [List.mem_singleton] at hq
            rw [hq, (d2 h).1]; exact (d2 h).2)
        (fun h p hq => by
          have := d3 h
          rcases List.mem_append.mp hq with hq | hq
          · have := hv p hq
            omega
          · rw [List.mem_singleton] at hq
            rw [hq]
            show v ≤ here1
            omega)
      refine ⟨s', ps', here', x', y', e, ⟨t'.1, by have := t'.2; simp at this ⊢; omega⟩, u', fun p hq => m1 p (List.mem_append_left _ hq), fun k hk => ?_⟩
      rcases List.mem_cons.mp hk with rfl | hk
      · exact ⟨v, m1 _ (List.mem_append_right _ (List.mem_singleton.mpr rfl))⟩
      · exact m2 k hk
    have up1 : Tn s (n + 1) := ⟨ht.1, by have := ht.2; omega⟩
    rw [eF_cons, e_forC]
    by_cases w1 : w < 2
    · obtain ⟨s', ps', here', x', y', e, r⟩ := go s here (l + here) up1 (fun p hq => by
        have := hp p hq l List.mem_cons_self
        rw [c1 w1 p hq]; omega) (fun _ => ⟨rfl, rfl⟩) (fun h => by omega) (fun h => by omega)
      refine ⟨s', ps', here', x', y', ?_, r⟩
      simp [tabB, dLt, w1, hps, new]
      exact e
    by_cases w2 : w = 2
    · obtain ⟨s', ps', here', x', y', e, r⟩ := go s here (l * fa + here) up1 (fun p hq => by
        have h1 := hp p hq l List.mem_cons_self
        rw [c2 w2 p hq]
        have : p.1 * fa < l * fa := Int.mul_lt_mul_of_pos_right h1 (by omega)
        omega) (fun h => by omega) (fun _ => ⟨rfl, rfl⟩) (fun h => by omega)
      refine ⟨s', ps', here', x', y', ?_, r⟩
      have hm : (-18446744073709551616 < l ∧ l < 18446744073709551616) ∨ (-18446744073709551616 < fa ∧ fa < 18446744073709551616) := .inr (by omega)
      subst w2
      simp [tabB, dLt, hps, new, hm]
      exact e
    · by_cases i0 : i = 0
      · have pn : ps = [] := List.eq_nil_of_length_eq_zero (by omega)
        obtain ⟨s', ps', here', x', y', e, r⟩ := go s here here up1 (fun p hq => by rw [pn] at hq; exact nomatch hq) (fun h => by omega) (fun h => by omega) (fun _ => rfl)
        refine ⟨s', ps', here', x', y', ?_, r⟩
        subst i0
        simp [tabB, dLt, w1, w2, hps, new]
        exact e
      · obtain ⟨j, s1, mj, ej, tj⟩ := pickI_ok (xs := [0, 0, 1, 2, 5, 13, 997]) ht hnn (by simp) (by simp)
        simp at mj
        simp only [List.map_cons, List.map_nil] at ej
        obtain ⟨s', ps', here', x', y', e, r⟩ := go s1 (here + (1 + j)) (here + (1 + j)) tj (fun p hq => by have := c3 (by omega) p hq; omega) (fun h => by omega) (fun h => by omega) (fun _ => rfl)
        refine ⟨s', ps', here', x', y', ?_, r⟩
        simp [tabB, dLt, w1, w2, hps, new, i0, ej]
        exact e
end HD

/-! P6: tables, stretched. -/
namespace HD
open PySem PySem.Spec PyProof.Rows L2 VS VR
theorem line_up (ns : List Int) : (sortI (ddup ns)).Pairwise (· < ·) := by
  have n : (sortI (ddup ns)).Nodup := (sortI_perm _).symm.nodup nodup_ddup
  have := (sortI_sorted (ddup ns)).and n
  exact this.imp fun h => by omega
theorem line_mem (ns : List Int) (k : Int) : k ∈ sortI (ddup ns) ↔ k ∈ ns := (sortI_perm _).mem_iff.trans mem_ddup
theorem ddup_le : ∀ ns : List Int, (ddup ns).length ≤ ns.length
  | [] => Nat.le_refl _
  | n :: ns => by
    have := ddup_le ns
    unfold ddup
    split <;> simp <;> omega
theorem line_len (ns : List Int) : (sortI (ddup ns)).length ≤ ns.length := by
  rw [(sortI_perm _).length_eq]
  exact ddup_le ns
theorem table_ok {s : Draw} {n : Int} {ns : List Int} (h : Tn s n) (hn : n ≤ 2 ^ 37) (hl : ns.length < 64) : ∃ ps s', den__law_table [.dr s, .d (.lst (VS.intD ns))] = .ok (.od (pk ps)) [some (.dr s'), some (.d (.lst (VS.intD ns)))] ∧ Up ps ∧ (∀ k ∈ ns, ∃ v, (k, v) ∈ ps) ∧ Tn s' (n + 70) := by
  obtain ⟨w, s1, e1, w0, w1, t1⟩ := take_ok (m := 4) h (by omega) (by decide) (by decide)
  obtain ⟨he, s2, m2, e2, t2⟩ := pickI_ok (xs := [0, 0, -7, 40, -99999]) t1 (by omega) (by simp) (by simp)
  obtain ⟨fa, s3, m3, e3, t3⟩ := pickI_ok (xs := [1, 2, 3, 97, 4001]) t2 (by omega) (by simp) (by simp)
  simp at m3
  simp only [List.map_cons, List.map_nil] at e2 e3
  have ll := line_len ns
  obtain ⟨s', ps', here', x', y', e, t', u, _, m⟩ := tab_loop (a := some (.d (.lst (VS.intD ns)))) (b := some (.d (.lst (VS.intD (sortI (ddup ns)))))) (w := w) (fa := fa) (by omega) (by omega) (sortI (ddup ns)) 0 s3 (n + 1 + 1 + 1) he [] none none t3 (by omega) rfl (by simp; omega) List.Pairwise.nil (line_up ns) (fun p hp => nomatch hp) (fun _ p hp => nomatch hp) (fun _ p hp => nomatch hp) (fun _ p hp => nomatch hp)
  refine ⟨ps', s', ?_, u, fun k hk => m k ((line_mem ns k).mpr hk), ⟨t'.1, by have := t'.2; omega⟩⟩
  simp [tabB, dLt, pk] at e
  simp [den__law_table, denOf, m__law_table, e1, e2, e3, hl, enumD_eF, dLt]
  simp [e, pk]
end HD

/-! P7: stretched. -/
namespace HD
open PySem PySem.Spec PyProof.Rows L2 VS VR
theorem val_pk : ∀ {ps : List (Int × Int)} {k v : Int}, Up ps → (k, v) ∈ ps → valD (pk ps) (.inl k) = some (.int v)
  | p :: ps, k, v, u, m => by
    obtain ⟨u1, u2⟩ := List.pairwise_cons.mp u
    rcases List.mem_cons.mp m with e | m
    · subst e
      simp [valD, pk]
    · have := u1 _ m
      have ne : ¬ p.1 = k := by
        have := this.1
        simp at this
        omega
      have ih := val_pk u2 m
      unfold valD pk at ih ⊢
      rw [List.map_cons, List.find?_cons_of_neg (by simp [ne])]
      exact ih
theorem up_lt {ps : List (Int × Int)} {k l v w : Int} (u : Up ps) (h1 : (k, v) ∈ ps) (h2 : (l, w) ∈ ps) : (k < l → v < w) ∧ (k = l → v = w) := by
  constructor
  · intro h
    obtain ⟨i, hi, e1⟩ := List.getElem_of_mem h1
    obtain ⟨j, hj, e2⟩ := List.getElem_of_mem h2
    rcases Nat.lt_trichotomy i j with q | q | q
    · have := List.pairwise_iff_getElem.mp u i j hi hj q
      rw [e1, e2] at this
      exact this.2
    · subst q
      rw [e1] at e2
      cases e2
      omega
    · have := List.pairwise_iff_getElem.mp u j i hj hi q
      rw [e1, e2] at this
      have := this.1
      simp at this
      omega
  · intro h
    subst h
    have a := val_pk u h1
    rw [val_pk u h2] at a
    injection a with a
    injection a with a
    exact a.symm
/-- a block: four numbers, left below right, low below high -/
def Good (k : List Int) : Prop := ∃ a b c d, k = [a, b, c, d] ∧ a < c ∧ b < d
/-- the tables know the block -/
def Kn (pa pu : List (Int × Int)) (k : List Int) : Prop := ∃ a b c d a' b' c' d', k = [a, b, c, d] ∧ (a, a') ∈ pa ∧ (b, b') ∈ pu ∧ (c, c') ∈ pa ∧ (d, d') ∈ pu
abbrev strE (ks : List (List Int)) (pa pu : List (Int × Int)) : En := [some (.d (.lst (tupD ks))), some (.od (pk pa)), some (.od (pk pu)), none, none, none, none]
noncomputable abbrev strB : M Ref := mTup (mCons (mBin dIxX (mVar 1) (mVar 3)) (mCons (mBin dIxX (mVar 2) (mVar 4)) (mCons (mBin dIxX (mVar 1) (mVar 5)) (mCons (mBin dIxX (mVar 2) (mVar 6)) (M.ret [])))))
theorem str_loop {k0 : List (List Int)} {pa pu : List (Int × Int)} (ua : Up pa) (uu : Up pu) : ∀ (ks : List (List Int)) (acc : List D), acc.length + ks.length < 4096 → (∀ k ∈ ks, Good k ∧ Kn pa pu k) → ks.Nodup →
    ∃ ls : List (List Int), lcR (strE k0 pa pu) [3, 4, 5, 6] (tgTup [3, 4, 5, 6]) (M.ret true) strB (tupD ks) acc (strE k0 pa pu) = .ok (acc ++ tupD ls) (strE k0 pa pu) ∧ ls.length = ks.length ∧ (∀ l ∈ ls, Good l) ∧ ls.Nodup ∧
      (∀ l ∈ ls, ∃ k ∈ ks, ∃ a b c d a' b' c' d', k = [a, b, c, d] ∧ l = [a', b', c', d'] ∧ (a, a') ∈ pa ∧ (b, b') ∈ pu ∧ (c, c') ∈ pa ∧ (d, d') ∈ pu)
  | [], acc, _, _, _ => ⟨[], by simp [tupD], rfl, (fun _ h => nomatch h), List.nodup_nil, (fun _ h => nomatch h)⟩
  | k :: ks, acc, hz, hk, nd => by
    obtain ⟨g, a, b, c, d, a', b', c', d', rfl, ha, hb, hc, hd⟩ := hk k List.mem_cons_self
    obtain ⟨_, _, _, _, e, g1, g2⟩ := g
    cases e
    have hz' : acc.length + 1 + ks.length < 4096 := by simp at hz; omega
    obtain ⟨nk, nd'⟩ := List.nodup_cons.mp nd
    obtain ⟨ls, e, len, gd, nl, from'⟩ := str_loop ua uu (k0 := k0) ks (acc ++ [.tup (VS.intD [a', b', c', d'])]) (by simp; omega) (fun l hl => hk l (List.mem_cons_of_mem _ hl)) nd'
    refine ⟨[a', b', c', d'] :: ls, ?_, by simp [len], fun l hl => ?_, List.nodup_cons.mpr ⟨fun hm => ?_, nl⟩, fun l hl => ?_⟩
    · have sz : acc.length < sizeLine := e_sizeLine _ (by omega)
      show lcR _ _ _ _ _ (.tup (VS.intD [a, b, c, d]) :: tupD ks) _ _ = _
      rw [e_lcC]
      simp [VS.intD, val_pk ua ha, val_pk uu hb, val_pk ua hc, val_pk uu hd, sz]
      simp [VS.intD, tupD] at e ⊢
      exact e
    · rcases List.mem_cons.mp hl with rfl | hl
      · exact ⟨a', b', c', d', rfl, (up_lt ua ha hc).1 g1, (up_lt uu hb hd).1 g2⟩
      · exact gd l hl
    · obtain ⟨q, hq, a2, b2, c2, d2, a3, b3, c3, d3, rfl, e3, m1, m2, m3, m4⟩ := from' _ hm
      cases e3
      have inj : ∀ {ps : List (Int × Int)} {x y v : Int}, Up ps → (x, v) ∈ ps → (y, v) ∈ ps → x = y := fun {ps x y v} u h1 h2 => by
        have p1 := (up_lt u h1 h2).1
        have p2 := (up_lt u h2 h1).1
        omega
      rw [inj ua ha m1, inj uu hb m2, inj ua hc m3, inj uu hd m4] at nk
      exact nk hq
    · rcases List.mem_cons.mp hl with rfl | hl
      · exact ⟨_, List.mem_cons_self, a, b, c, d, a', b', c', d', rfl, rfl, ha, hb, hc, hd⟩
      · obtain ⟨q, hq, r⟩ := from' l hl
        exact ⟨q, List.mem_cons_of_mem _ hq, r⟩
theorem stretched_ok {ks : List (List Int)} {pa pu : List (Int × Int)} (ua : Up pa) (uu : Up pu) (hz : ks.length < 4096) (h : ∀ k ∈ ks, Good k ∧ Kn pa pu k) (nd : ks.Nodup) :
    ∃ ls : List (List Int), den__law_stretched [.d (.lst (tupD ks)), .od (pk pa), .od (pk pu)] = .ok (.ol (tupD ls)) [some (.d (.lst (tupD ks))), some (.od (pk pa)), some (.od (pk pu))] ∧ ls.length = ks.length ∧ (∀ l ∈ ls, Good l) ∧ ls.Nodup := by
  obtain ⟨ls, e, len, gd, nl, _⟩ := str_loop (k0 := ks) ua uu ks [] (by simpa using hz) h nd
  refine ⟨ls, ?_, len, gd, nl⟩
  simp [strB, strE] at e
  simp [den__law_stretched, denOf, m__law_stretched]
  simp [e]
end HD

/-! P8: the loose blocks. -/
namespace HD
open PySem PySem.Spec PyProof.Rows L2 VS VR
noncomputable abbrev looB : M Fl := mSeq (mSet 7 (mCall den__law_block (mCons (mVar 0) (mCons (M.ret (rSc (.int 9))) (M.ret []))))) (mIf (mAndT (mB (mBin (dIn true) (mVar 7) (mVar 3))) (mB (mBin dLt (mFn fLen (mCons (mVar 3) (M.ret []))) (mVar 1)))) (mDrop (mMeth 3 gAppend (mCons (mVar 7) (M.ret [])))) (M.ret .nx))
theorem tupD_len (ks : List (List Int)) : (tupD ks).length = ks.length := by simp [tupD]
theorem loo_loop {most : Int} {a b c d e : Option SV} (hm : most ≤ 12) : ∀ (m : Nat) (i : Int) (s : Draw) (n : Int) (ks : List (List Int)) (x y : Option SV), Tn s n → isData y = true → n + 4 * m ≤ 2 ^ 38 → (ks.length : Int) ≤ most → (∀ k ∈ ks, Good k) → ks.Nodup →
    ∃ s' ks' x' y', forR (tgName 6) looB (intsD i m) [some (.dr s), some (.d (.int most)), a, some (.ol (tupD ks)), b, c, x, y, d, e] = .ok .nx [some (.dr s'), some (.d (.int most)), a, some (.ol (tupD ks')), b, c, x', y', d, e] ∧
      Tn s' (n + 4 * m) ∧ (ks'.length : Int) ≤ most ∧ (∀ k ∈ ks', Good k) ∧ ks'.Nodup ∧ isData y' = true
  | 0, i, s, n, ks, x, y, ht, hy, hn, hl, hg, hd => ⟨s, ks, x, y, rfl, by simpa using ht, hl, hg, hd, hy⟩
  | m + 1, i, s, n, ks, x, y, ht, hy, hn, hl, hg, hd => by
    obtain ⟨p, q, r, t, s1, e1, _, g1, _, g2, t1⟩ := block_ok ht (by omega) (w := 9) (by decide) (by decide)
    have sz : ks.length < sizeLine := e_sizeLine _ (by omega)
    have hi : ∀ n, dIn n (.tup [.int p, .int q, .int r, .int t]) (.lst (tupD ks)) = some (.sc (.bl (n ^^ decide ([p, q, r, t] ∈ ks)))) := fun n => in_tups n [p, q, r, t] ks
    rw [intsD_succ, e_forC]
    by_cases hc : [p, q, r, t] ∉ ks ∧ (ks.length : Int) < most
    · obtain ⟨s', ks', x', y', e, r'⟩ := loo_loop (most := most) (a := a) (b := b) (c := c) (d := d) (e := e) hm m (i + 1) s1 (n + 4) (ks ++ [[p, q, r, t]]) (some (.d (.int i))) (some (.d (.tup [.int p, .int q, .int r, .int t]))) t1 rfl (by omega) (by simp; omega) (fun k hk => by
        rcases List.mem_append.mp hk with hk | hk
        · exact hg k hk
        · rw [List.mem_singleton] at hk
          exact ⟨p, q, r, t, hk, g1, g2⟩) (List.nodup_append.mpr ⟨hd, by simp, fun k hk l hl => by
          rw [List.mem_singleton] at hl
          rw [hl]
          exact fun e => hc.1 (e ▸ hk)⟩)
      refine ⟨s', ks', x', y', ?_, ?_⟩
      · simp [looB, dLt, e1, hi, hc.1, hc.2, tupD_len, sz]
        simp [looB, dLt, tupD, VS.intD] at e ⊢
        exact e
      · obtain ⟨r1, r2⟩ := r'
        exact ⟨⟨r1.1, by have := r1.2; omega⟩, r2⟩
    · obtain ⟨s', ks', x', y', e, r'⟩ := loo_loop (most := most) (a := a) (b := b) (c := c) (d := d) (e := e) hm m (i + 1) s1 (n + 4) ks (some (.d (.int i))) (some (.d (.tup [.int p, .int q, .int r, .int t]))) t1 rfl (by omega) hl hg hd
      refine ⟨s', ks', x', y', ?_, ?_⟩
      · by_cases h1 : [p, q, r, t] ∈ ks
        · simp [looB, dLt, e1, hi, h1]
          simp [looB, dLt] at e
          exact e
        · have h2 : ¬ (ks.length : Int) < most := fun h => hc ⟨h1, h⟩
          simp [looB, dLt, e1, hi, h1, h2, tupD_len]
          simp [looB, dLt] at e
          exact e
      · obtain ⟨r1, r2⟩ := r'
        exact ⟨⟨r1.1, by have := r1.2; omega⟩, r2⟩
end HD

/-! P9: rows of steps; pens as good blocks. -/
namespace HD
open PySem PySem.Spec PyProof.Rows L2 VS VR
noncomputable abbrev steB : M Fl := mDrop (mMeth 3 gAppend (mCons (mTup (mCons (mBin dMul (M.ret (rSc (.int 3))) (mVar 5)) (mCons (mBin dMul (M.ret (rSc (.int 2))) (mVar 5)) (mCons (mBin dAdd (mBin dAdd (mBin dMul (M.ret (rSc (.int 3))) (mVar 5)) (M.ret (rSc (.int 1)))) (mCall den__law_take (mCons (mVar 0) (mCons (M.ret (rSc (.int 4))) (M.ret []))))) (mCons (mBin dAdd (mBin dAdd (mBin dMul (M.ret (rSc (.int 2))) (mVar 5)) (M.ret (rSc (.int 1)))) (mCall den__law_take (mCons (mVar 0) (mCons (M.ret (rSc (.int 3))) (M.ret []))))) (M.ret [])))))) (M.ret [])))
theorem ste_loop {a b c d e f g : Option SV} : ∀ (m : Nat) (i : Int) (s : Draw) (n : Int) (ks : List (List Int)) (x : Option SV), Tn s n → n + 2 * m ≤ 2 ^ 38 → ks.length + m < 4096 → (∀ k ∈ ks, Good k ∧ ∃ z zs, k = z :: zs ∧ z < 3 * i) → ks.Nodup →
    ∃ s' ks' x', forR (tgName 5) steB (intsD i m) [some (.dr s), a, b, some (.ol (tupD ks)), c, x, d, e, f, g] = .ok .nx [some (.dr s'), a, b, some (.ol (tupD ks')), c, x', d, e, f, g] ∧
      Tn s' (n + 2 * m) ∧ ks'.length = ks.length + m ∧ (∀ k ∈ ks', Good k) ∧ ks'.Nodup
  | 0, i, s, n, ks, x, ht, hn, hl, hg, hd => ⟨s, ks, x, rfl, by simpa using ht, rfl, fun k hk => (hg k hk).1, hd⟩
  | m + 1, i, s, n, ks, x, ht, hn, hl, hg, hd => by
    obtain ⟨p, s1, e1, p0, p1, t1⟩ := take_ok (m := 4) ht (by omega) (by decide) (by decide)
    obtain ⟨q, s2, e2, q0, q1, t2⟩ := take_ok (m := 3) t1 (by omega) (by decide) (by decide)
    have sz : ks.length < sizeLine := e_sizeLine _ (by omega)
    rw [intsD_succ, e_forC]
    obtain ⟨s', ks', x', e, r1, r2, r3⟩ := ste_loop (a := a) (b := b) (c := c) (d := d) (e := e) (f := f) (g := g) m (i + 1) s2 (n + 1 + 1) (ks ++ [[3 * i, 2 * i, 3 * i + 1 + p, 2 * i + 1 + q]]) (some (.d (.int i))) t2 (by omega) (by simp; omega) (fun k hk => by
        rcases List.mem_append.mp hk with hk | hk
        · obtain ⟨h1, z, zs, h2, h3⟩ := hg k hk
          exact ⟨h1, z, zs, h2, by omega⟩
        · rw [List.mem_singleton] at hk
          exact ⟨⟨_, _, _, _, hk, by omega, by omega⟩, _, _, hk, by omega⟩) (List.nodup_append.mpr ⟨hd, by simp, fun k hk l hl => by
          rw [List.mem_singleton] at hl
          rw [hl]
          intro e
          obtain ⟨_, z, zs, h2, h3⟩ := hg k hk
          rw [e] at h2
          injection h2 with h2
          omega⟩)
    refine ⟨s', ks', x', ?_, ⟨r1.1, by have := r1.2; omega⟩, by rw [r2]; simp; omega, r3⟩
    simp [steB, e1, e2, tupD_len, sz]
    simp [steB, tupD, VS.intD] at e ⊢
    exact e
theorem pen_good {s : Draw} {n w t : Int} (h : Tn s n) (hn : n ≤ 2 ^ 38) (w0 : 2 ≤ w) (w1 : w ≤ 6) (t0 : 2 ≤ t) (t1 : t ≤ 6) : ∃ ks s', den__law_pen [.dr s, .d (.int 2), .d (.int 2), .d (.int w), .d (.int t)] = .ok (.ol (tupD ks)) [some (.dr s'), some (.d (.int 2)), some (.d (.int 2)), some (.d (.int w)), some (.d (.int t))] ∧ ks.length = 4 ∧ (∀ k ∈ ks, Good k) ∧ ks.Nodup ∧ Tn s' (n + 6) := by
  obtain ⟨p, q, r, u, p', u', s', e, a1, a2, a3, a4, a5, a6, a7, a8, a9, b1, b2, b3, b4, b5, b6, b7, ht⟩ := pen_ok h hn w0 w1 t0 t1
  refine ⟨[[1, 1, 3 + w - p, 2], [2 + w, 1 + p', 3 + w, 3 + t - q], [1 + r, 2 + t, 3 + w, 3 + t], [1, 1 + u, 2, 2 + t + u']], s', e, rfl, fun k hk => ?_, ?_, ht⟩
  · simp only [List.mem_cons, List.not_mem_nil, or_false] at hk
    rcases hk with hk | hk | hk | hk <;> exact ⟨_, _, _, _, hk, by omega, by omega⟩
  · simp
    omega
end HD

/-! P10: columns. -/
namespace HD
open PySem PySem.Spec PyProof.Rows L2 VS VR
theorem col_loop {a b c d e f g i j : Option SV} {x0 : Option SV} (q : Nat) (hq : q < 4) : ∀ (ks : List (List Int)) (acc : List D), acc.length + ks.length < 4096 → (∀ k ∈ ks, Good k) →
    lcR [a, b, c, d, e, f, g, x0, i, j] [7] (tgName 7) (M.ret true) (mBin dIxX (mVar 7) (M.ret (rSc (.int (q : Nat))))) (tupD ks) acc [a, b, c, d, e, f, g, x0, i, j] = .ok (acc ++ VS.intD (ks.map fun k => k.getD q 0)) [a, b, c, d, e, f, g, x0, i, j]
  | [], acc, _, _ => by simp [tupD, VS.intD]
  | k :: ks, acc, hz, hg => by
    obtain ⟨k1, k2, k3, k4, rfl, _, _⟩ := hg _ List.mem_cons_self
    have hz' : acc.length + 1 + ks.length < 4096 := by simp at hz; omega
    have sz : acc.length < sizeLine := e_sizeLine _ (by omega)
    show lcR _ _ _ _ _ (.tup (VS.intD [k1, k2, k3, k4]) :: tupD ks) _ _ = _
    have ih := col_loop (a := a) (b := b) (c := c) (d := d) (e := e) (f := f) (g := g) (i := i) (j := j) (x0 := x0) q hq ks (acc ++ [.int ([k1, k2, k3, k4].getD q 0)]) (by simp; omega) fun k hk => hg k (List.mem_cons_of_mem _ hk)
    have hat : atI (VS.intD [k1, k2, k3, k4]) (q : Nat) = some (.int ([k1, k2, k3, k4].getD q 0)) := by
      have : q = 0 ∨ q = 1 ∨ q = 2 ∨ q = 3 := by omega
      rcases this with rfl | rfl | rfl | rfl <;> rfl
    rw [e_lcC]
    simp [hat, sz]
    simp [VS.intD] at ih ⊢
    exact ih
end HD

/-! P11: the end of _law_blocks. -/
namespace HD
open PySem PySem.Spec PyProof.Rows L2 VS VR
noncomputable abbrev colB (q : Int) : M Ref := mLc (mSeqI (mVar 3)) [7] (tgName 7) (M.ret true) (mBin dIxX (mVar 7) (M.ret (rSc (.int q))))
noncomputable abbrev taiB : M Fl := mSeq (mSet 8 (mCall den__law_table (mCons (mVar 0) (mCons (mBin dAdd (colB 0) (colB 2)) (M.ret []))))) (mSeq (mSet 9 (mCall den__law_table (mCons (mVar 0) (mCons (mBin dAdd (colB 1) (colB 3)) (M.ret []))))) (mRet [0, 1] (mUn dSorted (mCall den__law_stretched (mCons (mVar 3) (mCons (mVar 8) (mCons (mVar 9) (M.ret []))))))))
theorem tai_ok {s : Draw} {n : Int} {ks : List (List Int)} {a b c d e : Option SV} {x : Option SV} (hx : isData x = true) (ht : Tn s n) (hn : n ≤ 2 ^ 36) (hl : ks.length ≤ 12) (hg : ∀ k ∈ ks, Good k) (hd : ks.Nodup) :
    ∃ ls s' ρ', taiB [some (.dr s), a, b, some (.ol (tupD ks)), c, d, e, x, none, none] = .ok (.rt (.ol (tupD (sortL ls)))) ρ' ∧ ρ'.getD 0 none = some (.dr s') ∧ ρ'.getD 1 none = a ∧ ls.length = ks.length ∧ (∀ l ∈ ls, Good l) ∧ ls.Nodup ∧ Tn s' (n + 140) := by
  have c0 := fun p => col_loop (a := some (.dr p)) (b := a) (c := b) (d := some (.d (.lst (tupD ks)))) (e := c) (f := d) (g := e) (x0 := x) (i := none) (j := none) 0 (by decide) ks [] (by simp; omega) hg
  have c2 := fun p => col_loop (a := some (.dr p)) (b := a) (c := b) (d := some (.d (.lst (tupD ks)))) (e := c) (f := d) (g := e) (x0 := x) (i := none) (j := none) 2 (by decide) ks [] (by simp; omega) hg
  have c1 := fun p i => col_loop (a := some (.dr p)) (b := a) (c := b) (d := some (.d (.lst (tupD ks)))) (e := c) (f := d) (g := e) (x0 := x) (i := i) (j := none) 1 (by decide) ks [] (by simp; omega) hg
  have c3 := fun p i => col_loop (a := some (.dr p)) (b := a) (c := b) (d := some (.d (.lst (tupD ks)))) (e := c) (f := d) (g := e) (x0 := x) (i := i) (j := none) 3 (by decide) ks [] (by simp; omega) hg
  have app : ∀ xs ys : List Int, VS.intD xs ++ VS.intD ys = VS.intD (xs ++ ys) := fun xs ys => by simp [VS.intD]
  obtain ⟨pa, s1, e1, ua, ma, t1⟩ := table_ok (ns := (ks.map fun k => k.getD 0 0) ++ ks.map fun k => k.getD 2 0) ht (by omega) (by simp; omega)
  obtain ⟨pu, s2, e2, uu, mu, t2⟩ := table_ok (ns := (ks.map fun k => k.getD 1 0) ++ ks.map fun k => k.getD 3 0) t1 (by omega) (by simp; omega)
  obtain ⟨ls, e3, len, gl, nl⟩ := stretched_ok (ks := ks) ua uu (by omega) (fun k hk => ⟨hg k hk, by
    obtain ⟨a, b, c, d, rfl, _, _⟩ := hg k hk
    obtain ⟨a', ha⟩ := ma a (List.mem_append_left _ (List.mem_map.mpr ⟨_, hk, rfl⟩))
    obtain ⟨c', hc⟩ := ma c (List.mem_append_right _ (List.mem_map.mpr ⟨_, hk, rfl⟩))
    obtain ⟨b', hb⟩ := mu b (List.mem_append_left _ (List.mem_map.mpr ⟨_, hk, rfl⟩))
    obtain ⟨d', hd⟩ := mu d (List.mem_append_right _ (List.mem_map.mpr ⟨_, hk, rfl⟩))
    exact ⟨a, b, c, d, a', b', c', d', rfl, ha, hb, hc, hd⟩⟩) hd
  have ne : ∀ l ∈ ls, l ≠ [] := fun l hl => by
    obtain ⟨_, _, _, _, e, _⟩ := gl l hl
    rw [e]; simp
  have sm : (tupD ks).length + (tupD ks).length ≤ sizeLine := by
    have := e_sizeLine 4000 (by decide)
    rw [tupD_len]
    omega
  refine ⟨ls, s2, [some (.dr s2), a, b, some (.d (.lst (tupD ks))), c, d, e, x, some (.od (pk pa)), some (.od (pk pu))], ?_, rfl, rfl, len, gl, nl, ⟨t2.1, by have := t2.2; omega⟩⟩
  have dadd : ∀ xs ys : List Int, xs.length + ys.length < 4096 → dAdd (.lst (VS.intD xs)) (.lst (VS.intD ys)) = some (.nl (VS.intD (xs ++ ys))) := fun xs ys h => by
    have := e_sizeLine _ h
    show (if (VS.intD xs).length + (VS.intD ys).length ≤ sizeLine then some (Rv.nl (VS.intD xs ++ VS.intD ys)) else none) = _
    rw [if_pos (by simp [VS.intD]; omega), app]
  have l2 : ks.length + ks.length < 4096 := by omega
  simp at c0 c1 c2 c3 e1 e2
  simp [taiB, colB, c0, c1, c2, c3, dadd, e1, e2, e3, hx, l2, sorted_tups ls ne]
end HD

/-! P12: _law_blocks. -/
namespace HD
open PySem PySem.Spec PyProof.Rows L2 VS VR
/-- the loose blocks and the end, from any list so far -/
noncomputable abbrev lasB : M Fl := mSeq (mFor (mRng rng1 (mCons (mVar 4) (M.ret []))) (tgName 6) looB) taiB
theorem las_ok {s : Draw} {n many : Int} {ks : List (List Int)} {b d : Option SV} (ht : Tn s n) (hn : n ≤ 2 ^ 35) (m1 : many ≤ 12) (m0 : -100 ≤ many) (hl : ks.length ≤ 7) (hg : ∀ k ∈ ks, Good k) (hd : ks.Nodup) :
    ∃ ls s' ρ', lasB [some (.dr s), some (.d (.int 7)), b, some (.ol (tupD ks)), some (.d (.int many)), d, none, none, none, none] = .ok (.rt (.ol (tupD (sortL ls)))) ρ' ∧ ρ'.getD 0 none = some (.dr s') ∧ ρ'.getD 1 none = some (.d (.int 7)) ∧ ls.length ≤ 7 ∧ (∀ l ∈ ls, Good l) ∧ ls.Nodup ∧ Tn s' (n + 200) := by
  obtain ⟨s1, ks', x', y', e, t1, l1, g1, d1, y1⟩ := loo_loop (most := 7) (a := b) (b := some (.d (.int many))) (c := d) (d := none) (e := none) (by decide) many.toNat 0 s n ks none none ht rfl (by omega) (by omega) hg hd
  obtain ⟨ls, s', ρ', e2, r1, r2, r3, r4, r5, r6⟩ := tai_ok (a := some (.d (.int 7))) (b := b) (c := some (.d (.int many))) (d := d) (e := x') (x := y') y1 t1 (by omega) (by omega) g1 d1
  refine ⟨ls, s', ρ', ?_, r1, r2, by omega, r4, r5, ⟨r6.1, by have := r6.2; omega⟩⟩
  have b1 : -4611686018427387904 ≤ many ∧ many < 4611686018427387904 := by omega
  have f : lasB [some (.dr s), some (.d (.int 7)), b, some (.ol (tupD ks)), some (.d (.int many)), d, none, none, none, none] = (forR (tgName 6) looB (intsD 0 many.toNat) [some (.dr s), some (.d (.int 7)), b, some (.ol (tupD ks)), some (.d (.int many)), d, none, none, none, none]).bind fun f => match f with | .nx => taiB | f => M.ret f := by
    rw [show lasB = mSeq (mFor (mRng rng1 (mCons (mVar 4) (M.ret []))) (tgName 6) looB) taiB from rfl, e_seq, e_for]
    congr 1
    simp [b1, -looB]
  rw [f, e]
  exact e2
end HD

/-! P13: _law_blocks whole. -/
namespace HD
open PySem PySem.Spec PyProof.Rows L2 VS VR
noncomputable def heaB (L : M Fl) : M Fl := mSeq (mPar 2 3 (mCall den__law_take (mCons (mVar 0) (mCons (M.ret (rSc (.int 8))) (M.ret [])))) (mLst (M.ret []))) (mSeq (mSet 4 (mBin dAdd (M.ret (rSc (.int 1))) (mCall den__law_take (mCons (mVar 0) (mCons (mVar 1) (M.ret [])))))) (mSeq (mIf (mAndT (mB (mBin dLt (mVar 2) (M.ret (rSc (.int 5))))) (mB (mBin dGe (mVar 1) (M.ret (rSc (.int 4)))))) (mSeq (mSet 3 (mCall den__law_pen (mCons (mVar 0) (mCons (M.ret (rSc (.int 2))) (mCons (M.ret (rSc (.int 2))) (mCons (mBin dAdd (M.ret (rSc (.int 2))) (mCall den__law_take (mCons (mVar 0) (mCons (M.ret (rSc (.int 5))) (M.ret []))))) (mCons (mBin dAdd (M.ret (rSc (.int 2))) (mCall den__law_take (mCons (mVar 0) (mCons (M.ret (rSc (.int 5))) (M.ret []))))) (M.ret [])))))))) (mSet 4 (mFn fMin (mCons (mCall den__law_take (mCons (mVar 0) (mCons (mBin dSub (mVar 1) (M.ret (rSc (.int 3)))) (M.ret [])))) (mCons (mCall den__law_take (mCons (mVar 0) (mCons (M.ret (rSc (.int 4))) (M.ret [])))) (M.ret [])))))) (M.ret .nx)) (mSeq (mIf (mB (mBin (dEq false) (mVar 2) (M.ret (rSc (.int 5))))) (mSeq (mFor (mRng rng1 (mCons (mFn fMin (mCons (mVar 4) (mCons (mVar 1) (M.ret [])))) (M.ret []))) (tgName 5) (mDrop (mMeth 3 gAppend (mCons (mTup (mCons (mBin dMul (M.ret (rSc (.int 3))) (mVar 5)) (mCons (mBin dMul (M.ret (rSc (.int 2))) (mVar 5)) (mCons (mBin dAdd (mBin dAdd (mBin dMul (M.ret (rSc (.int 3))) (mVar 5)) (M.ret (rSc (.int 1)))) (mCall den__law_take (mCons (mVar 0) (mCons (M.ret (rSc (.int 4))) (M.ret []))))) (mCons (mBin dAdd (mBin dAdd (mBin dMul (M.ret (rSc (.int 2))) (mVar 5)) (M.ret (rSc (.int 1)))) (mCall den__law_take (mCons (mVar 0) (mCons (M.ret (rSc (.int 3))) (M.ret []))))) (M.ret [])))))) (M.ret []))))) (mSet 4 (mIfE (mB (mBin dGt (mVar 4) (M.ret (rSc (.int 2))))) (mBin dSub (mVar 1) (mFn fLen (mCons (mVar 3) (M.ret [])))) (M.ret (rSc (.int 0)))))) (M.ret .nx)) (mSeq (mIf (mAndT (mB (mBin (dEq false) (mVar 2) (M.ret (rSc (.int 6))))) (mB (mBin (dEq false) (mCall den__law_take (mCons (mVar 0) (mCons (M.ret (rSc (.int 4))) (M.ret [])))) (M.ret (rSc (.int 0)))))) (mSet 4 (M.ret (rSc (.int 0)))) (M.ret .nx)) L))))
theorem hea_eq : m__law_blocks = heaB lasB := rfl
theorem blocks_ok {s : Draw} {n : Int} (ht : Tn s n) (hn : n ≤ 2 ^ 34) : ∃ ls s', den__law_blocks [.dr s, .d (.int 7)] = .ok (.ol (tupD (sortL ls))) [some (.dr s'), some (.d (.int 7))] ∧ ls.length ≤ 7 ∧ (∀ l ∈ ls, Good l) ∧ ls.Nodup ∧ Tn s' (n + 300) := by
  obtain ⟨w, s1, e1, w0, w1, t1⟩ := take_ok (m := 8) ht (by omega) (by decide) (by decide)
  obtain ⟨m, s2, e2, m0, m1, t2⟩ := take_ok (m := 7) t1 (by omega) (by decide) (by decide)
  have fin : ∀ {ls : List (List Int)} {s' : Draw} {ρ' : En}, ρ'.getD 0 none = some (.dr s') → ρ'.getD 1 none = some (.d (.int 7)) → mask 2 [0, 1] ρ' = [some (.dr s'), some (.d (.int 7))] := fun {_ s' ρ'} h1 h2 => by rw [e_mask2, h1, h2]; simp
  by_cases c1 : w < 5
  · obtain ⟨x, s3, e3, x0, x1, t3⟩ := take_ok (m := 5) t2 (by omega) (by decide) (by decide)
    obtain ⟨y, s4, e4, y0, y1, t4⟩ := take_ok (m := 5) t3 (by omega) (by decide) (by decide)
    obtain ⟨ks, s5, e5, l5, g5, d5, t5⟩ := pen_good (w := 2 + x) (t := 2 + y) t4 (by omega) (by omega) (by omega) (by omega) (by omega)
    obtain ⟨p, s6, e6, p0, p1, t6⟩ := take_ok (m := 4) t5 (by omega) (by decide) (by decide)
    obtain ⟨q, s7, e7, q0, q1, t7⟩ := take_ok (m := 4) t6 (by omega) (by decide) (by decide)
    obtain ⟨ls, s8, ρ', e8, r1, r2, r3, r4, r5, r6⟩ := las_ok (many := if q < p then q else p) (b := some (.d (.int w))) (d := none) t7 (by omega) (by omega) (by omega) (by omega) g5 d5
    refine ⟨ls, s8, ?_, r3, r4, r5, ⟨r6.1, by have := r6.2; omega⟩⟩
    have n5 : ¬ w = 5 := by omega
    have n6 : ¬ w = 6 := by omega
    simp only [den__law_blocks, denOf, hea_eq]
    generalize lasB = L at e8
    simp [heaB, dLt, dGe, dGt, e1, e2, e3, e4, e5, e6, e7, c1, n5, n6]
    simp at r1 r2
    rw [e8]
    simp [r1, r2]
  by_cases c5 : w = 5
  · obtain ⟨s3, ks, x3, e3, t3, l3, g3, d3⟩ := ste_loop (a := some (.d (.int 7))) (b := some (.d (.int w))) (c := some (.d (.int (1 + m)))) (d := none) (e := none) (f := none) (g := none) (1 + m).toNat 0 s2 (n + 1 + 1) [] none t2 (by omega) (by simp; omega) (fun k hk => nomatch hk) List.nodup_nil
    obtain ⟨ls, s8, ρ', e8, r1, r2, r3, r4, r5, r6⟩ := las_ok (many := if 2 < 1 + m then 7 - (ks.length : Int) else 0) (b := some (.d (.int w))) (d := x3) t3 (by omega) (by omega) (by simp at l3; omega) (by simp at l3; omega) g3 d3
    refine ⟨ls, s8, ?_, r3, r4, r5, ⟨r6.1, by have := r6.2; omega⟩⟩
    simp only [den__law_blocks, denOf, hea_eq]
    generalize lasB = L at e8
    subst c5
    have h7 : ¬ 7 < 1 + m := by omega
    have hb : -4611686018427387904 ≤ 1 + m ∧ 1 + m < 4611686018427387904 := by omega
    simp at r1 r2
    simp [steB, tupD] at e3
    simp [tupD] at e8
    have hk : (tupD ks).length = ks.length := tupD_len ks
    by_cases h2 : 2 < 1 + m <;> simp [h2] at e8 <;> simp [heaB, dLt, dGe, dGt, e1, e2, h7, hb, e3, h2, e8, r1, r2] <;> rfl
  by_cases c6 : w = 6
  · obtain ⟨q, s3, e3, q0, q1, t3⟩ := take_ok (m := 4) t2 (by omega) (by decide) (by decide)
    obtain ⟨ls, s8, ρ', e8, r1, r2, r3, r4, r5, r6⟩ := las_ok (many := if q = 0 then 0 else 1 + m) (ks := []) (b := some (.d (.int w))) (d := none) t3 (by omega) (by split <;> omega) (by split <;> omega) (by simp) (fun k hk => nomatch hk) List.nodup_nil
    refine ⟨ls, s8, ?_, r3, r4, r5, ⟨r6.1, by have := r6.2; omega⟩⟩
    simp only [den__law_blocks, denOf, hea_eq]
    generalize lasB = L at e8
    subst c6
    simp at r1 r2
    by_cases hq : q = 0 <;> simp [hq, tupD] at e8 <;> simp [heaB, dLt, dGe, dGt, e1, e2, e3, hq, e8, r1, r2] <;> rfl
  · obtain ⟨ls, s8, ρ', e8, r1, r2, r3, r4, r5, r6⟩ := las_ok (many := 1 + m) (ks := []) (b := some (.d (.int w))) (d := none) t2 (by omega) (by omega) (by omega) (by simp) (fun k hk => nomatch hk) List.nodup_nil
    refine ⟨ls, s8, ?_, r3, r4, r5, ⟨r6.1, by have := r6.2; omega⟩⟩
    simp only [den__law_blocks, denOf, hea_eq]
    generalize lasB = L at e8
    simp at r1 r2
    simp [tupD] at e8
    simp [heaB, dLt, dGe, dGt, e1, e2, c1, c5, c6, e8, r1, r2]
    rfl
end HD

/-! P14: shuffled. -/
namespace HD
open PySem PySem.Spec PyProof.Rows L2 VS VR
noncomputable abbrev shuB : M Fl := mDrop (mMeth 3 gAppend (mCons (mMeth 2 gPopAt (mCons (mCall den__law_take (mCons (mVar 0) (mCons (mFn fLen (mCons (mVar 2) (M.ret []))) (M.ret [])))) (M.ret []))) (M.ret [])))
theorem seqIx {v : Int} {n : Nat} (h0 : 0 ≤ v) (h1 : v < n) : seqIndex? v n = some v.toNat := by
  have a : ¬ v < 0 := by omega
  simp [seqIndex?, a, h0, h1]
theorem perm_erase {α : Type} : ∀ (ks : List α) (i : Nat) (h : i < ks.length), (ks[i] :: ks.eraseIdx i).Perm ks
  | k :: ks, 0, _ => List.Perm.refl _
  | k :: ks, i + 1, h => by
    have h' : i < ks.length := by simpa using h
    have a : ((ks[i]'h') :: k :: ks.eraseIdx i).Perm (k :: ks) := (List.Perm.swap k _ _).trans ((perm_erase ks i h').cons k)
    exact a
theorem shu_loop {b : Option SV} : ∀ (ks fs : List D) (i : Int) (s : Draw) (n : Int) (x : Option SV), Tn s n → n + ks.length ≤ 2 ^ 38 → ks.length + fs.length < 4096 →
    ∃ s' gs x', forR (tgName 4) shuB (intsD i ks.length) [some (.dr s), b, some (.ol ks), some (.ol fs), x] = .ok .nx [some (.dr s'), b, some (.ol []), some (.ol (fs ++ gs)), x'] ∧ gs.Perm ks ∧ Tn s' (n + ks.length) := by
  intro ks
  generalize hm : ks.length = m
  induction m generalizing ks with
  | zero =>
    intro fs i s n x ht _ _
    have : ks = [] := List.eq_nil_of_length_eq_zero hm
    subst this
    exact ⟨s, [], x, by simp [intsD_zero], List.Perm.refl _, by simpa using ht⟩
  | succ m ih =>
    intro fs i s n x ht hn hz
    obtain ⟨v, s1, e1, v0, v1, t1⟩ := take_ok (m := (ks.length : Int)) ht (by omega) (by omega) (by omega)
    have hv : v.toNat < ks.length := by omega
    have sz : fs.length < sizeLine := e_sizeLine _ (by omega)
    obtain ⟨s', gs, x', e, pm, t'⟩ := ih (ks.eraseIdx v.toNat) (by rw [List.length_eraseIdx_of_lt hv]; omega) (fs ++ [ks[v.toNat]]) (i + 1) s1 (n + 1) (some (.d (.int i))) t1 (by omega) (by simp; omega)
    refine ⟨s', ks[v.toNat] :: gs, x', ?_, ?_, ⟨t'.1, by have := t'.2; omega⟩⟩
    · have b1 : -9223372036854775808 ≤ v ∧ v < 9223372036854775808 := by omega
      rw [intsD_succ, e_forC]
      rw [hm] at hv
      have si := seqIx v0 v1
      simp [shuB, e1, si, b1, sz, List.getElem?_eq_getElem (by omega : v.toNat < ks.length)]
      simp [shuB] at e
      exact e
    · exact (pm.cons _).trans (perm_erase ks v.toNat (by omega))
end HD

/-! P15: shuffled, Drawing. -/
namespace HD
open PySem PySem.Spec PyProof.Rows L2 VS VR
theorem perm_tups : ∀ {ks : List (List Int)} {gs : List D}, gs.Perm (tupD ks) → ∃ ls, gs = tupD ls ∧ ls.Perm ks := fun {ks gs} h => by
  have all : ∀ g ∈ gs, ∃ k : List Int, g = .tup (VS.intD k) := fun g hg => by
    obtain ⟨k, _, e⟩ := List.mem_map.mp (h.mem_iff.mp hg)
    exact ⟨k, e.symm⟩
  have : ∃ ls, gs = tupD ls := by
    clear h
    induction gs with
    | nil => exact ⟨[], rfl⟩
    | cons g gs ih =>
      obtain ⟨k, rfl⟩ := all g List.mem_cons_self
      obtain ⟨ls, rfl⟩ := ih fun g hg => all g (List.mem_cons_of_mem _ hg)
      exact ⟨k :: ls, rfl⟩
  obtain ⟨ls, rfl⟩ := this
  have inj : ∀ a b : List (List Int), tupsOf (tupD a) = tupsOf (tupD b) → a = b := fun a b e => by simpa using e
  refine ⟨ls, rfl, ?_⟩
  have z := h.map tupOf
  have e : ∀ ks : List (List Int), (tupD ks).map tupOf = ks.map some := fun ks => by
    unfold tupD
    rw [List.map_map]
    exact List.map_congr_left fun k _ => intsOfD_intD k
  rw [e, e] at z
  have z2 := z.map fun o : Option (List Int) => o.getD []
  have f : ((fun o : Option (List Int) => o.getD []) ∘ some) = id := rfl
  simpa [f] using z2
theorem shuffled_ok {s : Draw} {n : Int} {ks : List (List Int)} (ht : Tn s n) (hn : n ≤ 2 ^ 34) (hl : ks.length ≤ 12) : ∃ ls s', den__law_shuffled [.dr s, .ol (tupD ks)] = .ok (.ol (tupD ls)) [some (.dr s'), some (.ol (tupD ks))] ∧ ls.Perm ks ∧ Tn s' (n + 20) := by
  have l1 : (tupD ks).length = ks.length := tupD_len ks
  have h1 : n + (tupD ks).length ≤ 2 ^ 38 := by omega
  have h2 : (tupD ks).length + ([] : List D).length < 4096 := by rw [l1]; simp only [List.length_nil]; omega
  obtain ⟨s', gs, x', e, pm, t'⟩ := shu_loop (b := some (.ol (tupD ks))) (tupD ks) [] 0 s n none ht h1 h2
  obtain ⟨ls, rfl, p2⟩ := perm_tups pm
  refine ⟨ls, s', ?_, p2, ⟨t'.1, by have := t'.2; omega⟩⟩
  have hb : -4611686018427387904 ≤ (ks.length : Int) ∧ (ks.length : Int) < 4611686018427387904 := by omega
  rw [l1] at e
  simp only [shuB, List.nil_append] at e
  obtain ⟨r, o, e0, e1, e2⟩ := den_wp (n := 2) (l := 3) (pin := [0, 1]) (m := m__law_shuffled) (args := [.dr s, .ol (tupD ks)]) (Q := fun r o => r = .ol (tupD ls) ∧ o = [some (.dr s'), some (.ol (tupD ks))]) (by
    simp -implicitDefEqProofs [m__law_shuffled, tupD_len, hb]
    rw [e]
    simp)
  rw [show den__law_shuffled = denOf 2 3 [0, 1] m__law_shuffled from rfl, e0, e1, e2]
end HD

/-! P16: gaps. -/
namespace HD
open PySem PySem.Spec PyProof.Rows L2 VS VR
theorem atN {α : Type} {xs : List α} {i : Nat} (h : i < xs.length) : atI xs (i : Int) = some xs[i] := by
  unfold atI ixN
  rw [if_pos (by omega), if_pos (by omega)]
  show xs[((i : Int)).toNat]? = _
  rw [Int.toNat_natCast, List.getElem?_eq_getElem h]
/-- number q of block i -/
def bx (ks : List (List Int)) (i q : Nat) : Int := (ks.getD i []).getD q 0
theorem at_blk {ks : List (List Int)} (hg : ∀ k ∈ ks, Good k) {i : Nat} (hi : i < ks.length) : atI (tupD ks) (i : Int) = some (bT (bx ks i 0) (bx ks i 1) (bx ks i 2) (bx ks i 3)) ∧ bx ks i 0 < bx ks i 2 ∧ bx ks i 1 < bx ks i 3 := by
  obtain ⟨a, b, c, d, e, h1, h2⟩ := hg ks[i] (List.getElem_mem hi)
  have g : ks.getD i [] = [a, b, c, d] := by rw [List.getD_eq_getElem?_getD, List.getElem?_eq_getElem hi, e]; rfl
  refine ⟨?_, ?_, ?_⟩
  · rw [atN (by rw [tupD_len]; exact hi)]
    unfold bx
    rw [g]
    unfold tupD
    rw [List.getElem_map, e]
    rfl
  · unfold bx; rw [g]; exact h1
  · unfold bx; rw [g]; exact h2
def gx (ks : List (List Int)) (i j q : Nat) : Int := max (bx ks j q - bx ks i (q + 2)) (bx ks i q - bx ks j (q + 2))
theorem ifmax (a b : Int) : (if b > a then b else a) = max a b := by
  rw [Int.max_def]
  split <;> split <;> omega
theorem ifmin (a b : Int) : (if b < a then b else a) = min a b := by
  rw [Int.min_def]
  split <;> split <;> omega
abbrev pD (a b : Int) : D := .tup [.int a, .int b]
theorem at2 (a b : Int) : atI [D.int a, D.int b] 0 = some (.int a) ∧ atI [D.int a, D.int b] 1 = some (.int b) := ⟨rfl, rfl⟩
section
variable {ks : List (List Int)} (hg : ∀ k ∈ ks, Good k) {i j : Nat} (hi : i < ks.length) (hj : j < ks.length)
include hg hi hj
theorem gap_of_ok : den_gap_of [.d (.tup (tupD ks)), .d (.int i), .d (.int j)] = .ok (.d (pD (gx ks i j 0) (gx ks i j 1))) [some (.d (.tup (tupD ks))), some (.d (.int i)), some (.d (.int j))] := by
  have h1 := (at_blk hg hi).1
  have h2 := (at_blk hg hj).1
  simp -implicitDefEqProofs [den_gap_of, denOf, m_gap_of, h1, h2, (atI4 _ _ _ _).1, (atI4 _ _ _ _).2.1, (atI4 _ _ _ _).2.2.1, (atI4 _ _ _ _).2.2.2, gx, ← ifmax]
/-- near, as a test -/
def nr (ks : List (List Int)) (a b : Int) (i j : Nat) : Bool := decide (gx ks i j 0 < a) && decide (gx ks i j 1 < b)
theorem near_of_ok {a b : Int} : den_near_of [.d (.tup (tupD ks)), .d (pD a b), .d (.int i), .d (.int j)] = .ok (.d (.bl (nr ks a b i j))) [some (.d (.tup (tupD ks))), some (.d (pD a b)), some (.d (.int i)), some (.d (.int j))] := by
  have h := gap_of_ok hg hi hj
  by_cases c : gx ks i j 0 < a <;> simp -implicitDefEqProofs [den_near_of, denOf, m_near_of, h, (at2 _ _).1, (at2 _ _).2, dLt, nr, c]
theorem from_of_ok : den_from_of [.d (.tup (tupD ks)), .d (.int i), .d (.int j)] = .ok (.d (pD (max 1 (gx ks i j 0 + 1)) (max 1 (gx ks i j 1 + 1)))) [some (.d (.tup (tupD ks))), some (.d (.int i)), some (.d (.int j))] := by
  have h := gap_of_ok hg hi hj
  simp -implicitDefEqProofs [den_from_of, denOf, m_from_of, h, ← ifmax]
theorem due_gap_ok : den__law_due_gap [.d (.lst (tupD ks)), .d (.int i), .d (.int j)] = .ok (.d (pD (gx ks i j 0) (gx ks i j 1))) [some (.d (.lst (tupD ks))), some (.d (.int i)), some (.d (.int j))] := by
  have h1 := (at_blk hg hi).1
  have h2 := (at_blk hg hj).1
  have z : (2 : Int).toNat = 2 := rfl
  have sz : ∀ k, k < 4096 → k < sizeLine := e_sizeLine
  simp -implicitDefEqProofs [den__law_due_gap, denOf, m__law_due_gap, h1, h2, z, intsD_succ, intsD_zero, e_forC, sz, (atI4 _ _ _ _).1, (atI4 _ _ _ _).2.1, (atI4 _ _ _ _).2.2.1, (atI4 _ _ _ _).2.2.2, gx, ← ifmax, (at2 _ _).1, (at2 _ _).2]
/-- the law's own near -/
def lnr (ks : List (List Int)) (a b : Int) (i j : Nat) : Bool := decide (max (bx ks i 0) (bx ks j 0) - a < min (bx ks i 2) (bx ks j 2)) && decide (max (bx ks i 1) (bx ks j 1) - b < min (bx ks i 3) (bx ks j 3))
theorem lnear_ok {a b : Int} : den__law_near [.d (.lst (tupD ks)), .d (pD a b), .d (.int i), .d (.int j)] = .ok (.d (.bl (lnr ks a b i j))) [some (.d (.lst (tupD ks))), some (.d (pD a b)), some (.d (.int i)), some (.d (.int j))] := by
  have h1 := (at_blk hg hi).1
  have h2 := (at_blk hg hj).1
  have z : (2 : Int).toNat = 2 := rfl
  by_cases c : max (bx ks i 0) (bx ks j 0) - a < min (bx ks i 2) (bx ks j 2)
  · have c' : ¬ min (bx ks i 2) (bx ks j 2) ≤ max (bx ks i 0) (bx ks j 0) - a := by omega
    by_cases d : max (bx ks i 1) (bx ks j 1) - b < min (bx ks i 3) (bx ks j 3)
    · have d' : ¬ min (bx ks i 3) (bx ks j 3) ≤ max (bx ks i 1) (bx ks j 1) - b := by omega
      simp -implicitDefEqProofs [den__law_near, denOf, m__law_near, h1, h2, z, intsD_succ, intsD_zero, e_forC, (atI4 _ _ _ _).1, (atI4 _ _ _ _).2.1, (atI4 _ _ _ _).2.2.1, (atI4 _ _ _ _).2.2.2, lnr, ifmax, ifmin, (at2 _ _).1, (at2 _ _).2, dGe, c, c', d, d', ge_iff_le]
    · have d' : min (bx ks i 3) (bx ks j 3) ≤ max (bx ks i 1) (bx ks j 1) - b := by omega
      simp -implicitDefEqProofs [den__law_near, denOf, m__law_near, h1, h2, z, intsD_succ, intsD_zero, e_forC, (atI4 _ _ _ _).1, (atI4 _ _ _ _).2.1, (atI4 _ _ _ _).2.2.1, (atI4 _ _ _ _).2.2.2, lnr, ifmax, ifmin, (at2 _ _).1, (at2 _ _).2, dGe, c, c', d, d', ge_iff_le]
  · have c' : min (bx ks i 2) (bx ks j 2) ≤ max (bx ks i 0) (bx ks j 0) - a := by omega
    simp -implicitDefEqProofs [den__law_near, denOf, m__law_near, h1, h2, z, intsD_succ, intsD_zero, e_forC, (atI4 _ _ _ _).1, (atI4 _ _ _ _).2.1, (atI4 _ _ _ _).2.2.1, (atI4 _ _ _ _).2.2.2, lnr, ifmax, ifmin, (at2 _ _).1, (at2 _ _).2, dGe, c, c', ge_iff_le]
theorem nr_eq {a b : Int} (ha : 1 ≤ a) (hb : 1 ≤ b) : lnr ks a b i j = nr ks a b i j := by
  obtain ⟨_, p, q⟩ := at_blk hg hi
  obtain ⟨_, r, s⟩ := at_blk hg hj
  unfold lnr nr gx
  simp only [Nat.zero_add, show (1 + 2 : Nat) = 3 from rfl]
  congr 1
  · exact decide_eq_decide.mpr (by simp only [Int.max_def, Int.min_def]; split <;> split <;> split <;> omega)
  · exact decide_eq_decide.mpr (by simp only [Int.max_def, Int.min_def]; split <;> split <;> split <;> omega)
end
theorem nr_sym {ks : List (List Int)} {a b : Int} {i j : Nat} : nr ks a b i j = nr ks a b j i := by
  unfold nr gx
  rw [Int.max_comm (bx ks j 0 - bx ks i (0 + 2)), Int.max_comm (bx ks j 1 - bx ks i (1 + 2))]
theorem gx_sym {ks : List (List Int)} {i j q : Nat} : gx ks i j q = gx ks j i q := by
  unfold gx
  rw [Int.max_comm]
end HD

/-! P17: pairs. -/
namespace HD
open PySem PySem.Spec PyProof.Rows L2 VS VR
def row (ks : List (List Int)) (a b : Int) (i : Nat) : List (List Int) := (List.range (ks.length - (i + 1))).filterMap fun m => if nr ks a b i (i + 1 + m) = true then some [(i : Int), ((i + 1 + m : Nat) : Int)] else none
def prL (ks : List (List Int)) (a b : Int) : List (List Int) := (List.range ks.length).flatMap (row ks a b)
theorem row_len {ks : List (List Int)} {a b : Int} {i : Nat} : (row ks a b i).length ≤ ks.length := by
  unfold row
  exact Nat.le_trans (List.length_filterMap_le _ _) (by simp)
theorem prL_len {ks : List (List Int)} {a b : Int} : (prL ks a b).length ≤ ks.length * ks.length := by
  have := len_flat (b := ks.length) (row ks a b) (List.range ks.length) fun _ _ => row_len
  simpa [prL] using this
theorem fm_congr {α β : Type} {f g : α → Option β} : ∀ {xs : List α}, (∀ x ∈ xs, f x = g x) → xs.filterMap f = xs.filterMap g
  | [], _ => rfl
  | x :: xs, h => by
    have a := h x List.mem_cons_self
    have b := fm_congr fun y hy => h y (List.mem_cons_of_mem _ hy)
    simp only [List.filterMap_cons, a, b]
abbrev T (k : List Int) : D := .tup (VS.intD k)
theorem row_D {ks : List (List Int)} {a b : Int} {i : Nat} {g : D → Option D} (h : ∀ m, i + 1 + m < ks.length → g (.int ((i : Int) + 1 + m)) = if nr ks a b i (i + 1 + m) = true then some (pD i ((i + 1 + m : Nat) : Int)) else none) : (intsD ((i : Int) + 1) (ks.length - (i + 1))).filterMap g = tupD (row ks a b i) := by
  unfold intsD row tupD
  rw [List.filterMap_map, List.map_filterMap]
  refine fm_congr fun m hm => ?_
  rw [List.mem_range] at hm
  show g (.int ((i : Int) + 1 + m)) = _
  rw [h m (by omega)]
  split <;> rfl
section
variable {ks : List (List Int)} {a b : Int} (hg : ∀ k ∈ ks, Good k) (hl : ks.length ≤ 12)
include hg hl
theorem pairs_of_ok : den_pairs_of [.d (.tup (tupD ks)), .d (pD a b)] = .ok (.ol (tupD (prL ks a b))) [some (.d (.tup (tupD ks))), some (.d (pD a b))] := by
  obtain ⟨s, o, e, e1, e2⟩ := den_wp (n := 2) (l := 3) (pin := [0, 1]) (m := m_pairs_of) (args := [.d (.tup (tupD ks)), .d (pD a b)]) (Q := fun s o => s = .ol (tupD (prL ks a b)) ∧ o = [some (.d (.tup (tupD ks))), some (.d (pD a b))]) (by
    have b0 : -4611686018427387904 ≤ (ks.length : Int) ∧ (ks.length : Int) < 4611686018427387904 := by omega
    simp -implicitDefEqProofs [m_pairs_of, tupD_len, b0, rba]
    refine Rs.Wp.bind (wp_lc2 (fun x => tupD (row ks a b (gI x).toNat)) (fun x hx acc hacc => ?_) ?_)
    · obtain ⟨i, hi, rfl⟩ := mem_intsD hx
      have tot : (List.flatMap (fun x => tupD (row ks a b (gI x).toNat)) (intsD 0 ks.length)).length ≤ ks.length * 12 := by
        have := len_flat (b := 12) (fun x => tupD (row ks a b (gI x).toNat)) (intsD 0 ks.length) fun _ _ => by
          rw [tupD_len]
          exact Nat.le_trans row_len hl
        rwa [intsDlen] at this
      have b1 : -4611686018427387904 ≤ (i : Int) + 1 ∧ (i : Int) + 1 < 4611686018427387904 := by omega
      simp [lc2One, b0, b1]
      have q : ((ks.length : Int) - ((i : Int) + 1)).toNat = ks.length - (i + 1) := by omega
      rw [q]
      refine Rs.Wp.bind (wp_lcA (fun y => if nr ks a b i (gI y).toNat = true then some (pD i (gI y)) else none) _ _ (by rw [intsDlen]; omega) (fun y hy => ?_) ?_)
      · obtain ⟨m, hm, rfl⟩ := mem_intsD hy
        have h := near_of_ok (a := a) (b := b) hg (i := i) (j := i + 1 + m) hi (by omega)
        have c : ((i : Int) + 1 + m).toNat = i + 1 + m := by omega
        have c2 : ((i + 1 + m : Nat) : Int) = (i : Int) + 1 + m := by push_cast; rfl
        rw [c2] at h
        cases hn : nr ks a b i (i + 1 + m) <;> simp [lcOne, h, c, hn]
      · rw [row_D (a := a) (b := b) fun m hm => ?_]
        · simp
        · have c : ((i : Int) + 1 + m).toNat = i + 1 + m := by omega
          simp [c]
    · have f : List.flatMap (fun x => tupD (row ks a b (gI x).toNat)) (intsD 0 ks.length) = tupD (prL ks a b) := by
        unfold prL tupD intsD
        rw [List.map_flatMap, List.flatMap_map]
        simp
      simp [f])
  rw [show den_pairs_of = denOf 2 3 [0, 1] m_pairs_of from rfl, e, e1, e2]
theorem lpairs_ok (ha : 1 ≤ a) (hb : 1 ≤ b) : den__law_near_pairs [.d (.lst (tupD ks)), .d (pD a b)] = .ok (.ol (tupD (prL ks a b))) [some (.d (.lst (tupD ks))), some (.d (pD a b))] := by
  obtain ⟨s, o, e, e1, e2⟩ := den_wp (n := 2) (l := 3) (pin := [0, 1]) (m := m__law_near_pairs) (args := [.d (.lst (tupD ks)), .d (pD a b)]) (Q := fun s o => s = .ol (tupD (prL ks a b)) ∧ o = [some (.d (.lst (tupD ks))), some (.d (pD a b))]) (by
    have b0 : -4611686018427387904 ≤ (ks.length : Int) ∧ (ks.length : Int) < 4611686018427387904 := by omega
    simp -implicitDefEqProofs [m__law_near_pairs, tupD_len, b0, rba]
    refine Rs.Wp.bind (wp_forI (fun i ρ => ∃ x, ρ = [some (.d (.lst (tupD ks))), some (.d (pD a b)), some (.ol (tupD ((List.range i).flatMap (row ks a b)))), x, none]) ⟨none, by simp [tupD]⟩ (fun i hi ρ h => ?_) (fun ρ h => ?_))
    · obtain ⟨x, rfl⟩ := h
      have b1 : -4611686018427387904 ≤ (i : Int) + 1 ∧ (i : Int) + 1 < 4611686018427387904 := by omega
      simp [forS, tupD_len, b0, b1, rba]
      have q : ((ks.length : Int) - ((i : Int) + 1)).toNat = ks.length - (i + 1) := by omega
      rw [q]
      refine Rs.Wp.bind (wp_lc (fun y => if nr ks a b i (gI y).toNat = true then some (pD i (gI y)) else none) (by rw [intsDlen]; omega) (fun y hy => ?_) ?_)
      · obtain ⟨m, hm, rfl⟩ := mem_intsD hy
        have h := lnear_ok (a := a) (b := b) hg (i := i) (j := i + 1 + m) hi (by omega)
        rw [nr_eq hg (by omega) (by omega) ha hb] at h
        have c : ((i : Int) + 1 + m).toNat = i + 1 + m := by omega
        have c2 : ((i + 1 + m : Nat) : Int) = (i : Int) + 1 + m := by push_cast; rfl
        rw [c2] at h
        cases hn : nr ks a b i (i + 1 + m) <;> simp [lcOne, h, c, hn]
      · rw [row_D (a := a) (b := b) fun m hm => ?_]
        · have l1 : ((List.range i).flatMap (row ks a b)).length ≤ 144 := by
            have := len_flat (b := 12) (row ks a b) (List.range i) fun _ _ => Nat.le_trans row_len hl
            simp at this
            simp only [List.length_flatMap] at this ⊢
            omega
          have l2 := row_len (ks := ks) (a := a) (b := b) (i := i)
          have l3 := e_sizeLine 200 (by decide)
          have d : dAdd (.lst (tupD ((List.range i).flatMap (row ks a b)))) (.lst (tupD (row ks a b i))) = some (.nl (tupD ((List.range (i + 1)).flatMap (row ks a b)))) := by
            show (if (tupD _).length + (tupD _).length ≤ sizeLine then some (Rv.nl (tupD _ ++ tupD _)) else none) = _
            rw [tupD_len, tupD_len, if_pos (by omega)]
            simp [tupD, List.range_succ]
          simp [d]
        · have c : ((i : Int) + 1 + m).toNat = i + 1 + m := by omega
          simp [c]
    · obtain ⟨x, rfl⟩ := h
      simp [prL])
  rw [show den__law_near_pairs = denOf 2 3 [0, 1] m__law_near_pairs from rfl, e, e1, e2]
end
end HD

/-! Q1: the grid of gaps, bodies. -/
namespace HD
open PySem PySem.Spec PyProof.Rows L2 VS VR
theorem wp_forT {ρ : En} {Q : Fl → En → Prop} {mg : Tg} {p : M Fl} {ks : List (List Int)} (I : Nat → En → Prop) (h0 : I 0 ρ) (hs : ∀ i (h : i < ks.length) ρ, I i ρ → (forS mg p (.tup (VS.intD ks[i])) ρ).Wp (goQ I i Q)) (hq : ∀ ρ, I ks.length ρ → Q .nx ρ) : (forR mg p (tupD ks) ρ).Wp Q :=
  wp_forM (f := fun k => .tup (VS.intD k)) I h0 hs hq
theorem mem_tupD {ks : List (List Int)} {x : D} (h : x ∈ tupD ks) : ∃ k ∈ ks, x = .tup (VS.intD k) := by
  obtain ⟨k, hk, e⟩ := List.mem_map.mp h
  exact ⟨k, hk, e.symm⟩
theorem mem_intD {ns : List Int} {x : D} (h : x ∈ VS.intD ns) : ∃ k ∈ ns, x = .int k := by
  obtain ⟨k, hk, e⟩ := List.mem_map.mp h
  exact ⟨k, hk, e.symm⟩
theorem dadd_ints {xs ys : List Int} (h : xs.length + ys.length < 4096) : dAdd (.lst (VS.intD xs)) (.lst (VS.intD ys)) = some (.nl (VS.intD (xs ++ ys))) := by
  have := e_sizeLine _ h
  show (if (VS.intD xs).length + (VS.intD ys).length ≤ sizeLine then some (Rv.nl (VS.intD xs ++ VS.intD ys)) else none) = _
  rw [if_pos (by simp [VS.intD]; omega)]
  simp [VS.intD]
theorem dadd_tups {xs ys : List (List Int)} (h : xs.length + ys.length < 4096) : dAdd (.lst (tupD xs)) (.lst (tupD ys)) = some (.nl (tupD (xs ++ ys))) := by
  have := e_sizeLine _ h
  show (if (tupD xs).length + (tupD ys).length ≤ sizeLine then some (Rv.nl (tupD xs ++ tupD ys)) else none) = _
  rw [if_pos (by simp [tupD]; omega)]
  simp [tupD]
theorem dadd_nil {xs : List D} (h : xs.length < 4096) : dAdd (.lst xs) (.lst []) = some (.nl xs) := by
  have := e_sizeLine _ h
  show (if xs.length + ([] : List D).length ≤ sizeLine then some (Rv.nl (xs ++ [])) else none) = _
  rw [if_pos (by simp; omega)]
  simp
theorem intD_len (ns : List Int) : (VS.intD ns).length = ns.length := by simp [VS.intD]
def kq (k : List Int) (q : Nat) : Int := k.getD q 0
theorem good_at {k : List Int} (g : Good k) {q : Nat} (hq : q < 4) : atI (VS.intD k) (q : Int) = some (.int (kq k q)) := by
  obtain ⟨a, b, c, d, rfl, _, _⟩ := g
  have : q = 0 ∨ q = 1 ∨ q = 2 ∨ q = 3 := by omega
  rcases this with rfl | rfl | rfl | rfl <;> rfl
def gB (y : D) (q : Nat) : Int := match y with
  | .tup xs => gI (xs.getD q .non)
  | _ => 0
theorem gB_tup {k : List Int} (g : Good k) {q : Nat} (hq : q < 4) : gB (.tup (VS.intD k)) q = kq k q := by
  obtain ⟨a, b, c, d, rfl, _, _⟩ := g
  have : q = 0 ∨ q = 1 ∨ q = 2 ∨ q = 3 := by omega
  rcases this with rfl | rfl | rfl | rfl <;> rfl
theorem fm_ints {xs : List D} {f : D → Int} : xs.filterMap (fun y => some (D.int (f y))) = VS.intD (xs.map f) := by
  unfold VS.intD
  rw [List.map_map]
  induction xs with
  | nil => rfl
  | cons x xs ih => simp [ih]
theorem fm_ge1 {ns : List Int} : (VS.intD ns).filterMap (fun y => if 1 ≤ gI y then some y else none) = VS.intD (ns.filter fun n => decide (1 ≤ n)) := by
  unfold VS.intD
  induction ns with
  | nil => rfl
  | cons n ns ih =>
    by_cases h : 1 ≤ n
    · simp [h, ih]
    · simp [h, ih]
/-- the list as it is handed over: owned, or data -/
def Hand (v : SV) (xs : List D) : Prop := v = .ol xs ∨ v = .d (.lst xs)
theorem grid_ok {ks : List (List Int)} (hg : ∀ k ∈ ks, Good k) (hl : ks.length ≤ 7) {v : SV} (hv : Hand v (tupD ks)) {q : Nat} (hq : q < 2) : ∃ ns, den__law_grid [v, .d (.lst []), .d (.int q)] = .ok (.ol (VS.intD ns)) [some (.d (.lst (tupD ks))), some (.d (.lst [])), some (.d (.int q))] ∧ (∀ n ∈ ns, 1 ≤ n) ∧ ns.length ≤ 60 := by
  obtain ⟨s, o, e, ns, rfl, rfl, h1, h2⟩ := den_wp (n := 3) (l := 5) (pin := [0, 1, 2]) (m := m__law_grid) (args := [v, .d (.lst []), .d (.int q)]) (Q := fun s o => ∃ ns, s = .ol (VS.intD ns) ∧ o = [some (.d (.lst (tupD ks))), some (.d (.lst [])), some (.d (.int q))] ∧ (∀ n ∈ ns, 1 ≤ n) ∧ ns.length ≤ 60) (by
    have key : ∀ ρ, ρ = [some (.d (.lst (tupD ks))), some (.d (.lst [])), some (.d (.int q)), some (.ol []), none, none, none, none] → (forR (tgName 4) (mSeq (mSet 3 (mBin dAdd (mVar 3) (mLc (mSeqI (mVar 0)) [5] (tgName 5) (M.ret true) (mBin dSub (mBin dIxX (mVar 4) (mVar 2)) (mBin dIxX (mVar 5) (mBin dAdd (mVar 2) (M.ret (.sv (.d (.int 2)))))))))) (mSet 3 (mBin dAdd (mVar 3) (mLc (mSeqI (mVar 1)) [6] (tgName 6) (M.ret true) (mBin dSub (mBin dIxX (mVar 4) (mVar 2)) (mBin dIxX (mVar 6) (mVar 2))))))) (tupD ks) ρ).Wp fun f ρ => f = .nx ∧ ∃ fs x, ρ = [some (.d (.lst (tupD ks))), some (.d (.lst [])), some (.d (.int q)), some (.ol (VS.intD fs)), x, none, none, none] ∧ fs.length ≤ 49 := by
      rintro ρ rfl
      refine wp_forT (fun i ρ => ∃ fs x, ρ = [some (.d (.lst (tupD ks))), some (.d (.lst [])), some (.d (.int q)), some (.ol (VS.intD fs)), x, none, none, none] ∧ fs.length ≤ 7 * i) ⟨[], none, by simp [VS.intD], by simp⟩ (fun i hi ρ h => ?_) (fun ρ h => ?_)
      · obtain ⟨fs, x, rfl, hf⟩ := h
        have a1 := good_at (hg _ (List.getElem_mem hi)) (q := q) (by omega)
        simp -implicitDefEqProofs [forS, rba]
        refine Rs.Wp.bind (wp_lc (fun y => some (.int (kq ks[i] q - gB y (q + 2)))) (by rw [tupD_len]; omega) (fun y hy => ?_) ?_)
        · obtain ⟨k, hk, rfl⟩ := mem_tupD hy
          have a2 := good_at (hg _ hk) (q := q + 2) (by omega)
          have a3 := gB_tup (hg _ hk) (q := q + 2) (by omega)
          rw [show ((q + 2 : Nat) : Int) = (q : Int) + 2 by push_cast; rfl] at a2
          simp -implicitDefEqProofs [lcOne, a1, a2, a3]
        · rw [fm_ints]
          have d1 : dAdd (.lst (VS.intD fs)) (.lst (VS.intD ((tupD ks).map fun y => kq ks[i] q - gB y (q + 2)))) = some (.nl (VS.intD (fs ++ (tupD ks).map fun y => kq ks[i] q - gB y (q + 2)))) := dadd_ints (by simp [tupD_len]; omega)
          have d2 : dAdd (.lst (VS.intD (fs ++ (tupD ks).map fun y => kq ks[i] q - gB y (q + 2)))) (.lst []) = some (.nl (VS.intD (fs ++ (tupD ks).map fun y => kq ks[i] q - gB y (q + 2)))) := dadd_nil (by rw [intD_len]; simp [tupD_len]; omega)
          have d3 : (fs ++ (tupD ks).map fun y => kq ks[i] q - gB y (q + 2)).length ≤ 7 * (i + 1) := by simp [tupD_len]; omega
          generalize (fs ++ (tupD ks).map fun y => kq ks[i] q - gB y (q + 2)) = gs at d1 d2 d3 ⊢
          simp -implicitDefEqProofs [d1, d2]
          exact ⟨gs, rfl, d3⟩
      · obtain ⟨fs, x, rfl, hf⟩ := h
        exact ⟨rfl, fs, x, rfl, by omega⟩
    have fin : ∀ fs : List Int, fs.length ≤ 49 → ∃ ns, (VS.intD fs).filterMap (fun y => if 1 ≤ gI y then some y else none) = VS.intD (fs.filter fun n => decide (1 ≤ n)) ∧ dSortSet (.lst (VS.intD (fs.filter fun n => decide (1 ≤ n)))) = some (.nl (VS.intD ns)) ∧ (∀ n ∈ ns, 1 ≤ n) ∧ ns.length ≤ 60 := fun fs hf => by
      have l1 := List.length_filter_le (fun n => decide (1 ≤ n)) fs
      refine ⟨sortI (ddup (fs.filter fun n => decide (1 ≤ n))), fm_ge1, sortSet_ints _ (by omega), fun n hn => ?_, ?_⟩
      · have := (line_mem _ _).mp hn
        simpa using (List.mem_filter.mp this).2
      · have := line_len (fs.filter fun n => decide (1 ≤ n))
        omega
    rcases hv with rfl | rfl
    all_goals
      simp -implicitDefEqProofs [m__law_grid, rba]
      refine Rs.Wp.bind (Rs.Wp.mono (key _ rfl) fun f ρ h => ?_)
      obtain ⟨rfl, fs, x, rfl, hf⟩ := h
      obtain ⟨ns, f1, f2, f3, f4⟩ := fin fs hf
      simp -implicitDefEqProofs [rba]
      refine Rs.Wp.bind (wp_lc (fun y => if 1 ≤ gI y then some y else none) (by rw [intD_len]; omega) (fun y hy => ?_) ?_)
      · obtain ⟨k, hk, rfl⟩ := mem_intD hy
        by_cases h1 : 1 ≤ k <;> simp -implicitDefEqProofs [lcOne, dGe, h1]
      · rw [f1]
        simp -implicitDefEqProofs [f2]
        exact ⟨ns, rfl, f3, f4⟩)
  exact ⟨ns, e, h1, h2⟩
end HD

/-! Q2: bodies. -/
namespace HD
open PySem PySem.Spec PyProof.Rows L2 VS VR
theorem eq_nil_ints (n : Bool) (k : List Int) : dEq n (.lst (VS.intD k)) (.lst []) = some (.sc (.bl (n ^^ decide (k = [])))) := eq_ints n k []
theorem at_ints {ns : List Int} {v : Int} (h0 : 0 ≤ v) (h1 : v < ns.length) : ∃ y, atI (VS.intD ns) v = some (.int y) ∧ y ∈ ns := by
  obtain ⟨y, e, m⟩ := atI_lt (xs := VS.intD ns) h0 (by rw [intD_len]; exact h1)
  obtain ⟨k, hk, rfl⟩ := mem_intD m
  exact ⟨k, e, hk⟩
def BInv (ks : List (List Int)) (n : Int) (i : Nat) (ρ : En) : Prop := ∃ s' w fs x y z u, Hand w (tupD ks) ∧ ρ = [some (.dr s'), some w, some (.d (.lst [])), some (.ol (VS.intD fs)), x, y, z, u] ∧ fs.length = i ∧ (∀ f ∈ fs, 1 ≤ f) ∧ Tn s' (n + 4 * i) ∧ (1 ≤ i → w = .d (.lst (tupD ks)))
def BQ (ks : List (List Int)) (n : Int) (r : SV) (o : En) : Prop := ∃ a b s', r = .d (pD a b) ∧ o = [some (.dr s'), some (.d (.lst (tupD ks))), some (.d (.lst []))] ∧ 1 ≤ a ∧ 1 ≤ b ∧ Tn s' (n + 10)
theorem body_ok {s : Draw} {n : Int} (ht : Tn s n) (hn : n ≤ 2 ^ 36) {ks : List (List Int)} (hg : ∀ k ∈ ks, Good k) (hl : ks.length ≤ 7) {v : SV} (hv : Hand v (tupD ks)) : ∃ a b s', den__law_body [.dr s, v, .d (.lst [])] = .ok (.d (pD a b)) [some (.dr s'), some (.d (.lst (tupD ks))), some (.d (.lst []))] ∧ 1 ≤ a ∧ 1 ≤ b ∧ Tn s' (n + 10) := by
  obtain ⟨r, o, e, a, b, s', rfl, rfl, h1, h2, h3⟩ := den_wp (n := 3) (l := 5) (pin := [0, 1, 2]) (m := m__law_body) (args := [.dr s, v, .d (.lst [])]) (Q := BQ ks n) (by
    simp -implicitDefEqProofs [m__law_body, rba]
    refine Rs.Wp.bind (wp_forI (BInv ks n)
      ⟨s, v, [], none, none, none, none, hv, rfl, rfl, (fun _ h => nomatch h), by simpa using ht, by simp⟩ (fun i hi ρ h => ?_) (fun ρ h => ?_))
    · obtain ⟨s', w, fs, x, y, z, u, hw, rfl, hf, f1, t1, _⟩ := h
      obtain ⟨ns, e1, n1, n2⟩ := grid_ok hg hl hw (q := i) (by omega)
      obtain ⟨k, s2, e2, k0, k1, t2⟩ := take_ok (m := 8) t1 (by omega) (by decide) (by decide)
      have sz : fs.length < sizeLine := e_sizeLine _ (by omega)
      have fin : ∀ (s3 : Draw) (j : Int), 1 ≤ j → Tn s3 (n + 4 * (i + 1 : Nat)) → ∀ x y z u, BInv ks n (i + 1) [some (.dr s3), some (.d (.lst (tupD ks))), some (.d (.lst [])), some (.ol (VS.intD fs ++ [.int j])), x, y, z, u] := fun s3 j hj ht x y z u => by
        refine ⟨s3, _, fs ++ [j], x, y, z, u, .inr rfl, by simp [VS.intD], by simp [hf], fun f hm => ?_, ht, fun _ => rfl⟩
        rcases List.mem_append.mp hm with hm | hm
        · exact f1 f hm
        · rw [List.mem_singleton.mp hm]; exact hj
      by_cases c : ns = [] ∨ k = 0
      · obtain ⟨j, s3, m3, e3, t3⟩ := pickI_ok (xs := [1, 1, 2, 3, 50000]) t2 (by omega) (by simp) (by simp)
        simp only [List.map_cons, List.map_nil] at e3
        simp at m3
        have t4 : Tn s3 (n + 4 * (i + 1 : Nat)) := ⟨t3.1, by have := t3.2; omega⟩
        have key := fin s3 j (by omega) t4
        rcases hw with rfl | rfl <;> by_cases c1 : ns = [] <;> by_cases c2 : k = 0 <;>
          first
          | (exfalso; revert c; simp [c1, c2]; done)
          | (try simp -implicitDefEqProofs only [c1, c2] at e1 e2
             simp -implicitDefEqProofs [forS, e1, e2, e3, eq_nil_ints, sz, intD_len, c1, c2]
             exact key _ _ _ _)
      · have c1 : ¬ ns = [] := fun h => c (.inl h)
        have c2 : ¬ k = 0 := fun h => c (.inr h)
        have lp : 1 ≤ (ns.length : Int) := by
          have := List.length_pos_iff.mpr c1
          omega
        obtain ⟨p, s3, e3, p0, p1, t3⟩ := take_ok (m := (ns.length : Int)) t2 (by omega) (by omega) (by omega)
        obtain ⟨q, s4, e4, q0, q1, t4⟩ := take_ok (m := (ns.length : Int)) t3 (by omega) (by omega) (by omega)
        obtain ⟨r, s5, m5, e5, t5⟩ := pickI_ok (xs := [0, 0, 0, 1, 1, 2]) t4 (by omega) (by simp) (by simp)
        simp only [List.map_cons, List.map_nil] at e5
        simp at m5
        obtain ⟨y', e6, m6⟩ := at_ints (ns := ns) (v := if q < p then q else p) (by split <;> omega) (by split <;> omega)
        have t6 : Tn s5 (n + 4 * (i + 1 : Nat)) := ⟨t5.1, by have := t5.2; omega⟩
        have := n1 _ m6
        have key := fin s5 (y' + r) (by omega) t6
        rcases hw with rfl | rfl <;>
          (simp -implicitDefEqProofs [forS, e1, e2, e3, e4, e5, e6, eq_nil_ints, sz, intD_len, c1, c2]
           exact key _ _ _ _)
    · obtain ⟨s', w, fs, x, y, z, u, hw, rfl, hf, f1, t1, hd⟩ := h
      obtain ⟨a, b, rfl⟩ : ∃ a b, fs = [a, b] := by
        match fs, hf with
        | [a, b], _ => exact ⟨a, b, rfl⟩
      have hd := hd (by decide)
      subst hd
      simp -implicitDefEqProofs [VS.intD, (at2 _ _).1, (at2 _ _).2]
      exact ⟨a, b, s', rfl, rfl, f1 _ (by simp), f1 _ (by simp), ⟨t1.1, by have := t1.2; omega⟩⟩)
  exact ⟨a, b, s', e, h1, h2, h3⟩
end HD

/-! Q3: Drawing. -/
namespace HD
open PySem PySem.Spec PyProof.Rows L2 VS VR
theorem isInt (k : Int) : dIsi ocs oes anc (.ty "int") (.int k) = some (.sc (.bl true)) := rfl
theorem isIntB (k : Int) : dIsi ocs oes anc (.ty "bool") (.int k) = some (.sc (.bl false)) := rfl
theorem isTup (xs : List D) : dIsi ocs oes anc (.ty "tuple") (.tup xs) = some (.sc (.bl true)) := rfl
theorem whole_ok (k : Int) : den_is_whole [.d (.int k)] = .ok (.d (.bl true)) [some (.d (.int k))] := by
  simp -implicitDefEqProofs [den_is_whole, denOf, m_is_whole, isInt, isIntB]
theorem bools_map {α : Type} (f : α → Bool) : ∀ xs : List α, bools (xs.map fun x => D.bl (f x)) = some (xs.map f)
  | [] => rfl
  | x :: xs => by
    rw [List.map_cons, bools, bools_map f xs]
    rfl
theorem all_true {α : Type} {xs : List α} : fAll [.lst (xs.map fun _ => D.bl true)] = some (.sc (.bl true)) := by
  have h := bools_map (fun _ => true) xs
  show (bools (xs.map fun _ => D.bl true)).map _ = _
  rw [h]
  simp
theorem block_nums {k : List Int} (h : k.length = 4) : den_are_numbers [.d (.tup (VS.intD k)), .d (.int 4)] = .ok (.d (.bl true)) [some (.d (.tup (VS.intD k))), some (.d (.int 4))] := by
  have e := lc_eq (ρ := [some (.d (.tup (VS.intD k))), some (.d (.int 4)), none]) (vs := [2]) (mg := tgName 2) (mt := M.ret true) (me := mCall den_is_whole (mCons (mVar 2) (M.ret []))) (xs := VS.intD k) (fun _ => some (.bl true)) (by rw [intD_len]; omega) (fun x hx => by
    obtain ⟨n, _, rfl⟩ := mem_intD hx
    simp -implicitDefEqProofs [lcOne, whole_ok])
  simp -implicitDefEqProofs [den_are_numbers, denOf, m_are_numbers, isTup, intD_len, h, e, all_true]
theorem is_block_ok {k : List Int} (g : Good k) : den_is_block [.d (.tup (VS.intD k))] = .ok (.d (.bl true)) [some (.d (.tup (VS.intD k)))] := by
  obtain ⟨a, b, c, d, rfl, h1, h2⟩ := g
  have e := block_nums (k := [a, b, c, d]) rfl
  simp [VS.intD] at e ⊢
  simp -implicitDefEqProofs [den_is_block, denOf, m_is_block, e, (atI4 _ _ _ _).1, (atI4 _ _ _ _).2.1, (atI4 _ _ _ _).2.2.1, (atI4 _ _ _ _).2.2.2, dLt, h1, h2]
theorem isLT (xs : List D) : dIsiA ["list", "tuple"] (.lst xs) = some (.sc (.bl true)) := rfl
theorem ddup_nd {α : Type} [DecidableEq α] {xs : List α} (h : xs.Nodup) : (ddup xs).length = xs.length := (ddup_len h fun _ => Iff.rfl).length_eq.symm
theorem lenSet_tups {ks : List (List Int)} (hg : ∀ k ∈ ks, Good k) (h : ks.Nodup) (hl : ks.length < 64) : dLenSet (.lst (tupD ks)) = some (.sc (.int ks.length)) := by
  cases ks with
  | nil => rfl
  | cons k ks =>
    have a : intsOfD (tupD (k :: ks)) = none := rfl
    unfold dLenSet
    simp only [a, tupsOf_tupD, ddup_nd h]
    rw [if_pos hl]
theorem are_blocks_ok {ks : List (List Int)} (hg : ∀ k ∈ ks, Good k) (h : ks.Nodup) (hl : ks.length ≤ 12) : den_are_blocks [.d (.lst (tupD ks))] = .ok (.d (.bl true)) [some (.d (.lst (tupD ks)))] := by
  have e := lc_eq (ρ := [some (.d (.lst (tupD ks))), none]) (vs := [1]) (mg := tgName 1) (mt := M.ret true) (me := mCall den_is_block (mCons (mVar 1) (M.ret []))) (xs := tupD ks) (fun _ => some (.bl true)) (by rw [tupD_len]; omega) (fun x hx => by
    obtain ⟨n, hn, rfl⟩ := mem_tupD hx
    simp -implicitDefEqProofs [lcOne, is_block_ok (hg n hn)])
  have c : ¬ (12 : Int) < ks.length := by omega
  simp -implicitDefEqProofs [den_are_blocks, denOf, m_are_blocks, isLT, tupD_len, c, dGt, e, all_true, lenSet_tups hg h (by omega)]
theorem sortL_eq {ls ks : List (List Int)} (h : ls.Perm ks) : sortL ls = sortL ks := sortL_uniq ((sortL_perm ls).trans h) (sortL_sorted ls)
abbrev drD (ks : List (List Int)) : D := .ins "Drawing" [("blocks", .tup (tupD ks))]
theorem init_ok {ls : List (List Int)} (hg : ∀ k ∈ ls, Good k) (h : ls.Nodup) (hl : ls.length ≤ 12) : den_Drawing___init__ [.oi "Drawing" [], .d (.lst (tupD ls))] = .ok (.d .non) [some (.oi "Drawing" [("blocks", .tup (tupD (sortL ls)))]), some (.d (.lst (tupD ls)))] := by
  have ne : ∀ k ∈ ls, k ≠ [] := fun k hk => by
    obtain ⟨_, _, _, _, e, _⟩ := hg k hk
    rw [e]; simp
  have cfl : cf.lookup ("Drawing" : PySem.Str) = some [("blocks" : PySem.Str)] := rfl
  simp -implicitDefEqProofs [den_Drawing___init__, denOf, m_Drawing___init__, are_blocks_ok hg h hl, sorted_tups ls ne, mFPut, fputD, cfl, putFD]
end HD

/-! Q4: the functions of a drawing. -/
namespace HD
open PySem PySem.Spec PyProof.Rows L2 VS VR
section
variable {ρ : En} {c : Str} {den : Den} {a : M Ref} {es : List Str}
@[simp] theorem e_lenI : mLenI c den a ρ = (mFrz a ρ).bind (lenD c den) := (rfl)
@[simp] theorem e_lenD (fs : List (Str × D)) : lenD c den (.ins c fs) ρ = (match den [.d (.ins c fs)] with
    | .ok (.d (.int n)) _ => if 0 ≤ n ∧ n < 2 ^ 63 then .ok (rSc (.int n)) ρ else .stuck
    | _ => .stuck) := by
  unfold lenD
  dsimp only
  rw [if_pos rfl]
  cases den [.d (.ins c fs)] with
  | ok s o => cases s with
    | d x => cases x with
      | int n => exact ite_cl _
      | _ => rfl
    | _ => rfl
  | err c o => rfl
  | stuck => rfl
@[simp] theorem e_chain (f f' : D → D → Option Rv) (a b c : M Ref) : mChain f f' a b c ρ = (opd a ρ).bind fun x => M.bind (opd b) fun y => M.bind (look x) fun d => M.bind (look y) fun e => M.bind (M.opt (f d e)) fun r => match r with
  | .sc (.bl true) => M.bind (opd c) fun z => M.bind (look y) fun e2 => M.bind (look z) fun d2 => M.bind (M.opt (f' e2 d2)) fun r' => M.ret r'.ref
  | .sc (.bl false) => M.ret (rSc (.bl false))
  | _ => fun _ => .stuck := (rfl)
@[simp] theorem e_caught (m : M Ref) : mCaught es m ρ = match m ρ with
  | .ok _ ρ' => .ok (.sv (.d .non)) ρ'
  | .err c ρ' => if c ∈ es then .ok (.sv (.d (.exc c))) ρ' else .stuck
  | .stuck => .stuck := (rfl)
end
theorem cfl : cf.lookup ("Drawing" : PySem.Str) = some [("blocks" : PySem.Str)] := rfl
theorem isDr (ks : List (List Int)) : dIsi ocs oes anc (.own "Drawing") (drD ks) = some (.sc (.bl true)) := rfl
theorem isDrL (xs : List D) : dIsi ocs oes anc (.own "Drawing") (.lst xs) = some (.sc (.bl false)) := rfl
theorem len_ok (ks : List (List Int)) : den_Drawing___len__ [.d (drD ks)] = .ok (.d (.int ks.length)) [some (.d (drD ks))] := by
  simp -implicitDefEqProofs [den_Drawing___len__, denOf, m_Drawing___len__, dFld, cfl, tupD_len]
theorem need_dr_ok (ks : List (List Int)) : den_need_drawing [.d (drD ks)] = .ok (.d .non) [some (.d (drD ks))] := by
  simp -implicitDefEqProofs [den_need_drawing, denOf, m_need_drawing, isDr]
theorem need_dr_err (xs : List D) : den_need_drawing [.d (.lst xs)] = .err "BadDrawing" [some (.d (.lst xs))] := by
  simp -implicitDefEqProofs [den_need_drawing, denOf, m_need_drawing, isDrL]
theorem number_ok (k : Int) : den_is_number [.d (.int k)] = .ok (.d (.bl true)) [some (.d (.int k))] := by
  simp -implicitDefEqProofs [den_is_number, denOf, m_is_number, isInt, isIntB]
theorem size_ok (k : Int) : den_is_size [.d (.int k)] = .ok (.d (.bl (decide (1 ≤ k)))) [some (.d (.int k))] := by
  simp -implicitDefEqProofs [den_is_size, denOf, m_is_size, isInt, isIntB, dGe]
theorem is_body_ok (a b : Int) : den_is_body [.d (pD a b)] = .ok (.d (.bl (decide (1 ≤ a) && decide (1 ≤ b)))) [some (.d (pD a b))] := by
  by_cases h : 1 ≤ a <;> simp -implicitDefEqProofs [den_is_body, denOf, m_is_body, isTup, (at2 _ _).1, (at2 _ _).2, size_ok, h]
theorem need_body_ok {a b : Int} (ha : 1 ≤ a) (hb : 1 ≤ b) : den_need_body [.d (pD a b)] = .ok (.d .non) [some (.d (pD a b))] := by
  simp -implicitDefEqProofs [den_need_body, denOf, m_need_body, is_body_ok, ha, hb]
theorem need_body_err {a b : Int} (ha : ¬ 1 ≤ a) : den_need_body [.d (pD a b)] = .err "BadBody" [some (.d (pD a b))] := by
  simp -implicitDefEqProofs [den_need_body, denOf, m_need_body, is_body_ok, ha]
theorem need_two_ok {ks : List (List Int)} {a b : Int} (ha : 1 ≤ a) (hb : 1 ≤ b) : den_need_two [.d (drD ks), .d (pD a b)] = .ok (.d .non) [some (.d (drD ks)), some (.d (pD a b))] := by
  simp -implicitDefEqProofs [den_need_two, denOf, m_need_two, need_dr_ok, need_body_ok ha hb]
section
variable {ks : List (List Int)} (hl : ks.length ≤ 12)
include hl
theorem need_ix_ok {i : Nat} (hi : i < ks.length) : den_need_index [.d (drD ks), .d (.int i)] = .ok (.d .non) [some (.d (drD ks)), some (.d (.int i))] := by
  have b : (ks.length : Int) < 9223372036854775808 := by omega
  have c : (i : Int) < ks.length := by omega
  simp -implicitDefEqProofs [den_need_index, denOf, m_need_index, number_ok, len_ok, dLe, dLt, b, c]
/-- no index -/
def Bad (ks : List (List Int)) (x : D) : Prop := (∃ k : Int, x = .int k ∧ (k < 0 ∨ (ks.length : Int) ≤ k)) ∨ den_is_number [.d x] = .ok (.d (.bl false)) [some (.d x)]
theorem need_ix_err {x : D} (h : Bad ks x) : den_need_index [.d (drD ks), .d x] = .err "BadIndex" [some (.d (drD ks)), some (.d x)] := by
  have b : (ks.length : Int) < 9223372036854775808 := by omega
  rcases h with ⟨k, rfl, h⟩ | h
  · by_cases c : 0 ≤ k
    · have d : ¬ k < ks.length := by omega
      simp -implicitDefEqProofs [den_need_index, denOf, m_need_index, number_ok, len_ok, dLe, dLt, b, c, d]
    · simp -implicitDefEqProofs [den_need_index, denOf, m_need_index, number_ok, len_ok, dLe, dLt, b, c]
  · simp -implicitDefEqProofs [den_need_index, denOf, m_need_index, h]
theorem need_pair_ok {i j : Nat} (hi : i < ks.length) (hj : j < ks.length) (h : i ≠ j) : den_need_pair [.d (drD ks), .d (.int i), .d (.int j)] = .ok (.d .non) [some (.d (drD ks)), some (.d (.int i)), some (.d (.int j))] := by
  have e : ¬ (i : Int) = j := by omega
  simp -implicitDefEqProofs [den_need_pair, denOf, m_need_pair, need_ix_ok hl hi, need_ix_ok hl hj, e]
theorem need_pair_same {i : Nat} (hi : i < ks.length) : den_need_pair [.d (drD ks), .d (.int i), .d (.int i)] = .err "BadPair" [some (.d (drD ks)), some (.d (.int i)), some (.d (.int i))] := by
  simp -implicitDefEqProofs [den_need_pair, denOf, m_need_pair, need_ix_ok hl hi]
theorem need_pair_bad1 {x y : D} (h : Bad ks x) : den_need_pair [.d (drD ks), .d x, .d y] = .err "BadIndex" [some (.d (drD ks)), some (.d x), some (.d y)] := by
  simp -implicitDefEqProofs [den_need_pair, denOf, m_need_pair, need_ix_err hl h]
theorem need_pair_bad2 {i : Nat} (hi : i < ks.length) {y : D} (h : Bad ks y) : den_need_pair [.d (drD ks), .d (.int i), .d y] = .err "BadIndex" [some (.d (drD ks)), some (.d (.int i)), some (.d y)] := by
  simp -implicitDefEqProofs [den_need_pair, denOf, m_need_pair, need_ix_ok hl hi, need_ix_err hl h]
end
end HD

/-! Q5: gap, near, near_pairs, near_from; refusals. -/
namespace HD
open PySem PySem.Spec PyProof.Rows L2 VS VR
section
variable {ks : List (List Int)} (hg : ∀ k ∈ ks, Good k) (hl : ks.length ≤ 12) {a b : Int} (ha : 1 ≤ a) (hb : 1 ≤ b)
theorem blk_fld : dFld cf "blocks" (drD ks) = some (.it (.tup (tupD ks))) := rfl
include hl
section
variable {i j : Nat} (hi : i < ks.length) (hj : j < ks.length) (h : i ≠ j)
theorem gap_same {i : Nat} (hi : i < ks.length) : den_gap [.d (drD ks), .d (.int i), .d (.int i)] = .err "BadPair" [some (.d (drD ks)), some (.d (.int i)), some (.d (.int i))] := by
  simp -implicitDefEqProofs [den_gap, denOf, m_gap, need_dr_ok, need_pair_same hl hi]
theorem near_from_bad {x : D} (h : Bad ks x) : den_near_from [.d (drD ks), .d x, .d x] = .err "BadIndex" [some (.d (drD ks)), some (.d x), some (.d x)] := by
  simp -implicitDefEqProofs [den_near_from, denOf, m_near_from, need_dr_ok, need_pair_bad1 hl h]
include ha hb in
theorem near_bad {i : Nat} (hi : i < ks.length) {x : D} (h : Bad ks x) : den_near [.d (drD ks), .d (pD a b), .d (.int i), .d x] = .err "BadIndex" [some (.d (drD ks)), some (.d (pD a b)), some (.d (.int i)), some (.d x)] := by
  simp -implicitDefEqProofs [den_near, denOf, m_near, need_two_ok ha hb, need_pair_bad2 hl hi h]
include hg hi hj h
theorem gap_ok : den_gap [.d (drD ks), .d (.int i), .d (.int j)] = .ok (.d (pD (gx ks i j 0) (gx ks i j 1))) [some (.d (drD ks)), some (.d (.int i)), some (.d (.int j))] := by
  simp -implicitDefEqProofs [den_gap, denOf, m_gap, need_dr_ok, need_pair_ok hl hi hj h, blk_fld, gap_of_ok hg hi hj]
theorem near_from_ok : den_near_from [.d (drD ks), .d (.int i), .d (.int j)] = .ok (.d (pD (max 1 (gx ks i j 0 + 1)) (max 1 (gx ks i j 1 + 1)))) [some (.d (drD ks)), some (.d (.int i)), some (.d (.int j))] := by
  simp -implicitDefEqProofs [den_near_from, denOf, m_near_from, need_dr_ok, need_pair_ok hl hi hj h, blk_fld, from_of_ok hg hi hj]
include ha hb in
theorem near_ok : den_near [.d (drD ks), .d (pD a b), .d (.int i), .d (.int j)] = .ok (.d (.bl (nr ks a b i j))) [some (.d (drD ks)), some (.d (pD a b)), some (.d (.int i)), some (.d (.int j))] := by
  simp -implicitDefEqProofs [den_near, denOf, m_near, need_two_ok ha hb, need_pair_ok hl hi hj h, blk_fld, near_of_ok hg hi hj]
end
include hg ha hb in
theorem near_pairs_ok : den_near_pairs [.d (drD ks), .d (pD a b)] = .ok (.ol (tupD (prL ks a b))) [some (.d (drD ks)), some (.d (pD a b))] := by
  simp -implicitDefEqProofs [den_near_pairs, denOf, m_near_pairs, need_two_ok ha hb, blk_fld, pairs_of_ok hg hl]
omit hl in
theorem near_badbody {x y : D} {b : Int} : den_near [.d (drD ks), .d (pD 0 b), .d x, .d y] = .err "BadBody" [some (.d (drD ks)), some (.d (pD 0 b)), some (.d x), some (.d y)] := by
  have e := need_body_err (a := 0) (b := b) (by decide)
  simp -implicitDefEqProofs [den_near, denOf, m_near, den_need_two, m_need_two, need_dr_ok, e]
omit hl in
theorem pairs_baddr {xs : List D} {y : D} : den_near_pairs [.d (.lst xs), .d y] = .err "BadDrawing" [some (.d (.lst xs)), some (.d y)] := by
  simp -implicitDefEqProofs [den_near_pairs, denOf, m_near_pairs, den_need_two, m_need_two, need_dr_err]
theorem ex_own (c : Str) (h : dIsi ocs oes anc (.own c) (.exc c) = some (.sc (.bl true))) : True := trivial
include ha hb in
theorem refusals_ok {s : Draw} {n : Int} (ht : Tn s n) (hn : n ≤ 2 ^ 36) (h0 : ks ≠ []) : ∃ s', den__law_refusals [.dr s, .d (drD ks), .d (pD a b), .d (.int ks.length)] = .ok (.d (.bl true)) [some (.dr s'), some (.d (drD ks)), some (.d (pD a b)), some (.d (.int ks.length))] ∧ Tn s' (n + 2) := by
  have lp := List.length_pos_iff.mpr h0
  obtain ⟨k, s1, e1, k0, k1, t1⟩ := take_ok (m := (ks.length : Int)) ht (by omega) (by omega) (by omega)
  obtain ⟨x, s2, m2, e2, t2⟩ := pick_ok (xs := [.int ks.length, .int (-1), .int (ks.length + 7), .non, .str "0", .tup [.int 0], .bl true, .lst [.int 0]]) t1 (by omega) (by simp) (by simp)
  have bad : Bad ks x := by
    simp only [List.mem_cons, List.not_mem_nil, or_false] at m2
    rcases m2 with rfl | rfl | rfl | rfl | rfl | rfl | rfl | rfl
    · exact .inl ⟨_, rfl, by omega⟩
    · exact .inl ⟨_, rfl, by omega⟩
    · exact .inl ⟨_, rfl, by omega⟩
    all_goals exact .inr rfl
  obtain ⟨i, hi, rfl⟩ : ∃ i : Nat, i < ks.length ∧ k = i := ⟨k.toNat, by omega, by omega⟩
  have c1 := gap_same hl hi
  have c2 := near_bad hl ha hb hi bad
  have c3 := near_from_bad hl bad
  have c4 := near_badbody (ks := ks) (b := 1) (x := x) (y := .int i)
  have c5 := pairs_baddr (xs := [drD ks]) (y := pD 0 1)
  refine ⟨s2, ?_, t2.1, by have := t2.2; omega⟩
  have i1 : dIsi ocs oes anc (.own "BadPair") (.exc "BadPair") = some (.sc (.bl true)) := rfl
  have i2 : dIsi ocs oes anc (.own "BadIndex") (.exc "BadIndex") = some (.sc (.bl true)) := rfl
  have i3 : dIsi ocs oes anc (.own "BadBody") (.exc "BadBody") = some (.sc (.bl true)) := rfl
  have i4 : dIsi ocs oes anc (.own "BadDrawing") (.exc "BadDrawing") = some (.sc (.bl true)) := rfl
  have m1 : ("BadPair" : PySem.Str) ∈ ces := by decide +kernel
  have m2 : ("BadIndex" : PySem.Str) ∈ ces := by decide +kernel
  have m3 : ("BadBody" : PySem.Str) ∈ ces := by decide +kernel
  have m4 : ("BadDrawing" : PySem.Str) ∈ ces := by decide +kernel
  simp -implicitDefEqProofs [den__law_refusals, denOf, m__law_refusals, e1, e2, c1, c2, c3, c4, c5, i1, i2, i3, i4, m1, m2, m3, m4]
end
end HD

/-! Q6: the least body; the draws begun. -/
namespace HD
open PySem PySem.Spec PyProof.Rows L2 VS VR
theorem lnumbers_ok (a b : Int) : den__law_numbers [.d (pD a b), .d (.int 2)] = .ok (.d (.bl true)) [some (.d (pD a b)), some (.d (.int 2))] := by
  have nb : ∀ k : Int, den__law_is_number [.d (.int k)] = .ok (.d (.bl true)) [some (.d (.int k))] := fun k => by
    simp -implicitDefEqProofs [den__law_is_number, denOf, m__law_is_number, isInt, isIntB]
  have en : dEq false (.lst []) (.lst []) = some (.sc (.bl true)) := eq_ints false [] []
  simp -implicitDefEqProofs [den__law_numbers, denOf, m__law_numbers, isTup, nb, e_lcC, en]
theorem says_ok (x : Bool) : den__law_says [.d (.bl x), .d (.bl x)] = .ok (.d (.bl true)) [some (.d (.bl x)), some (.d (.bl x))] := by
  cases x <;> simp -implicitDefEqProofs [den__law_says, denOf, m__law_says, dIs]
theorem least_ok {ks : List (List Int)} (hg : ∀ k ∈ ks, Good k) {i j : Nat} (hi : i < ks.length) (hj : j < ks.length) :
    den__law_least_near [.d (.lst (tupD ks)), .d (.int i), .d (.int j), .d (pD (max 1 (gx ks i j 0 + 1)) (max 1 (gx ks i j 1 + 1)))] = .ok (.d (.bl true)) [some (.d (.lst (tupD ks))), some (.d (.int i)), some (.d (.int j)), some (.d (pD (max 1 (gx ks i j 0 + 1)) (max 1 (gx ks i j 1 + 1))))] := by
  have near : ∀ a b : Int, 1 ≤ a → 1 ≤ b → den__law_near [.d (.lst (tupD ks)), .d (pD a b), .d (.int i), .d (.int j)] = .ok (.d (.bl (nr ks a b i j))) [some (.d (.lst (tupD ks))), some (.d (pD a b)), some (.d (.int i)), some (.d (.int j))] := fun a b ha hb => by
    rw [← nr_eq hg hi hj ha hb]
    exact lnear_ok hg hi hj
  unfold nr at near
  generalize gx ks i j 0 = g at near ⊢
  generalize gx ks i j 1 = h at near ⊢
  have p1 : 1 ≤ max 1 (g + 1) := by omega
  have p2 : g < max 1 (g + 1) := by omega
  have p3 : 1 < max 1 (g + 1) → ¬ g < max 1 (g + 1) - 1 := by omega
  have q1 : 1 ≤ max 1 (h + 1) := by omega
  have q2 : h < max 1 (h + 1) := by omega
  have q3 : ¬ max 1 (h + 1) = 1 → ¬ h < max 1 (h + 1) - 1 := by omega
  generalize max 1 (g + 1) = p at p1 p2 p3 ⊢
  generalize max 1 (h + 1) = q at q1 q2 q3 ⊢
  have n0 := near p q p1 q1
  have n1 : ¬ p < 1 := by omega
  have n2 : ¬ q < 1 := by omega
  by_cases c : 1 < p
  · have m0 := near (p - 1) q (by omega) q1
    have m1 := p3 c
    by_cases d : q = 1
    · subst d
      simp -implicitDefEqProofs [den__law_least_near, denOf, m__law_least_near, lnumbers_ok, (at2 _ _).1, (at2 _ _).2, n0, n1, n2, p2, q2, c, dLt, dGt, m0, m1]
    · have l0 := near p (q - 1) p1 (by omega)
      have l1 := q3 d
      simp -implicitDefEqProofs [den__law_least_near, denOf, m__law_least_near, lnumbers_ok, (at2 _ _).1, (at2 _ _).2, n0, n1, n2, p2, q2, c, d, dLt, dGt, m0, m1, l0, l1]
  · by_cases d : q = 1
    · subst d
      simp -implicitDefEqProofs [den__law_least_near, denOf, m__law_least_near, lnumbers_ok, (at2 _ _).1, (at2 _ _).2, n0, n1, n2, p2, q2, c, dLt, dGt]
    · have l0 := near p (q - 1) p1 (by omega)
      have l1 := q3 d
      simp -implicitDefEqProofs [den__law_least_near, denOf, m__law_least_near, lnumbers_ok, (at2 _ _).1, (at2 _ _).2, n0, n1, n2, p2, q2, c, d, dLt, dGt, l0, l1]
theorem ints_back (ns : List Int) : intsOfD (VS.intD ns) = some ns := by simp
/-- the greatest of the script, set apart -/
def grt (ns : List Int) : List Int := (ns.filter fun n => decide (10 ^ 18 ≤ if n < 0 then -n else n)).map fun n => (if n < 0 then -n else n) - 10 ^ 18
theorem begun_ok {ns : List Int} (hl : ns.length ≤ 63) : ∃ s, den__law_begun [.sc ns] = .ok (.dr s) [some (.sc ns)] ∧ Tn s 0 := by
  obtain ⟨r, o, e, s, rfl, rfl, h⟩ := den_wp (n := 1) (l := 2) (pin := [0]) (m := m__law_begun) (args := [.sc ns]) (Q := fun r o => ∃ s, r = .dr s ∧ o = [some (.sc ns)] ∧ Tn s 0) (by
    simp -implicitDefEqProofs [m__law_begun, rba]
    refine Rs.Wp.bind (wp_lc (fun x => if 10 ^ 18 ≤ (if gI x < 0 then -gI x else gI x) then some (.int ((if gI x < 0 then -gI x else gI x) - 10 ^ 18)) else none) (by rw [intD_len]; omega) (fun x hx => ?_) ?_)
    · obtain ⟨k, _, rfl⟩ := mem_intD hx
      generalize hj : (if gI (.int k) < 0 then -gI (.int k) else gI (.int k)) = j
      have hj2 : (if k < 0 then -k else k) = j := hj
      by_cases c : 1000000000000000000 ≤ j <;> simp -implicitDefEqProofs [lcOne, dGe, hj2, c]
    · have e1 : (VS.intD ns).filterMap (fun x => if 10 ^ 18 ≤ (if gI x < 0 then -gI x else gI x) then some (D.int ((if gI x < 0 then -gI x else gI x) - 10 ^ 18)) else none) = VS.intD (grt ns) := by
        unfold grt
        clear hl
        induction ns with
        | nil => rfl
        | cons n ns ih =>
          have ih' := ih
          unfold VS.intD at ih' ⊢
          by_cases c : 10 ^ 18 ≤ (if n < 0 then -n else n)
          · rw [List.map_cons, List.filterMap_cons_some (b := D.int ((if n < 0 then -n else n) - 10 ^ 18)) (by simp only [gI_int]; rw [if_pos c]), ih', List.filter_cons_of_pos (by simpa using c), List.map_cons, List.map_cons]
          · rw [List.map_cons, List.filterMap_cons_none (by simp only [gI_int]; rw [if_neg c]), ih', List.filter_cons_of_neg (by simpa using c)]
      rw [e1]
      simp -implicitDefEqProofs [mDrNew, rba]
      refine Rs.Wp.bind (wp_lc (fun x => some (.int ((if gI x < 0 then -gI x else gI x).fmod 2147483629))) (by rw [intD_len]; omega) (fun x hx => ?_) ?_)
      · obtain ⟨k, _, rfl⟩ := mem_intD hx
        simp -implicitDefEqProofs [lcOne]
      · rw [fm_ints]
        simp -implicitDefEqProofs [drNew]
        exact ⟨Int.le_refl 0, Int.le_refl 0⟩)
  exact ⟨s, e, h⟩
end HD

/-! Q7: the law. -/
namespace HD
open PySem PySem.Spec PyProof.Rows L2 VS VR
@[simp] theorem e_make {c : Str} {den : Den} {a : M (List Opd)} {ρ : En} : mMake c den a ρ = (a ρ).bind (makeD c den) := (rfl)
@[simp] theorem e_makeD {c : Str} {den : Den} {os : List Opd} {ρ : En} : makeD c den os ρ = match callD den (.loc ρ.length :: os) (ρ ++ [some (.oi c [])]) with
  | .ok (.sv (.d .non)) ρ' => (match ρ'.getD ρ.length none with
    | some (.oi c' fs) => .ok (.sv (.d (.ins c' fs))) (ρ'.take ρ.length)
    | _ => .stuck)
  | .err e ρ' => .err e (ρ'.take ρ.length)
  | _ => .stuck := (rfl)
/-- the loops over pairs: the environment -/
def PInv (ks : List (List Int)) (a b : Int) (ns : List Int) (n : Int) (m : Int) (j : Option D) (ρ : En) : Prop := ∃ s t w x y z u v, ρ = [some (.sc ns), some (.dr s), t, some (.d (.lst (tupD ks))), some (.d (drD ks)), some (.d (pD a b)), some w, x, y, z, u, v] ∧ (∀ d, j = some d → x = some (.d d)) ∧ Tn s (n + m)
def OInv (ns : List Int) (i : Nat) (ρ : En) : Prop := ∃ s x2 x3 x4 x5 x6 x7 x8 x9 x10 x11, ρ = [some (.sc ns), some (.dr s), x2, x3, x4, x5, x6, x7, x8, x9, x10, x11] ∧ Tn s (400 * i)
def LQ (r : SV) (_ : En) : Prop := r = .d (.bl true)
theorem plain (ns : List Int) (hn : ns.length ≤ 63) : ∃ outs, den_law [.sc ns] = .ok (.d (.bl true)) outs := by
  obtain ⟨r, o, e, rfl⟩ := den_wp (n := 1) (l := 11) (pin := [0]) (m := m_law) (args := [.sc ns]) (Q := LQ) (by
    obtain ⟨s, e1, t1⟩ := begun_ok hn
    have hk : (1 + if (4 : Int) < ns.length then 4 else (ns.length : Int)).toNat ≤ 5 := by split <;> omega
    have hb : -4611686018427387904 ≤ (1 + if (4 : Int) < ns.length then 4 else (ns.length : Int)) ∧ (1 + if (4 : Int) < ns.length then 4 else (ns.length : Int)) < 4611686018427387904 := by split <;> omega
    simp -implicitDefEqProofs [m_law, rba, e1, hb]
    refine Rs.Wp.bind (wp_forI (OInv ns) ⟨s, _, _, _, _, _, _, _, _, _, _, rfl, by simpa using t1⟩ (fun i hi ρ h => ?_) (fun ρ h => ?_))
    · obtain ⟨s, x2, x3, x4, x5, x6, x7, x8, x9, x10, x11, rfl, t1⟩ := h
      obtain ⟨ls, s1, e1, l1, g1, d1, t2⟩ := blocks_ok t1 (by omega)
      have sp := sortL_perm ls
      have ss : sortL (sortL ls) = sortL ls := sortL_eq sp
      generalize sortL ls = ks at e1 sp ss
      have hl : ks.length ≤ 7 := by rw [sp.length_eq]; exact l1
      have hg : ∀ k ∈ ks, Good k := fun k hk => g1 k (sp.mem_iff.mp hk)
      have hd : ks.Nodup := sp.symm.nodup d1
      clear sp g1 d1 l1
      obtain ⟨ms, s2, e2, pm, t3⟩ := shuffled_ok (ks := ks) t2 (by omega) (by omega)
      have e3 := init_ok (ls := ms) (fun k hk => hg k (pm.mem_iff.mp hk)) (pm.symm.nodup hd) (by rw [pm.length_eq]; omega)
      rw [(sortL_eq pm).trans ss] at e3
      obtain ⟨a, b, s3, e4, ha, hb, t4⟩ := body_ok (ks := ks) t3 (by omega) hg hl (.inl rfl)
      have e5 := near_pairs_ok hg (by omega) ha hb
      have e6 := lpairs_ok hg (by omega) ha hb
      have pl := prL_len (ks := ks) (a := a) (b := b)
      have pl2 : ks.length * ks.length ≤ 7 * 7 := Nat.mul_le_mul hl hl
      have sz : (prL ks a b).length < sizeLine := e_sizeLine _ (by omega)
      have lb : -4611686018427387904 ≤ (ks.length : Int) ∧ (ks.length : Int) < 4611686018427387904 := by omega
      simp -implicitDefEqProofs [forS, e1, e2, e3, e4, e5, e6, tupD_len, sz, lb, rba]
      refine Rs.Wp.bind (wp_forI (fun j ρ => PInv ks a b ns (400 * i + 330) (7 * j) none ρ) ⟨s3, _, _, _, _, _, _, _, rfl, (fun _ h => nomatch h), ⟨t4.1, by have := t4.2; omega⟩⟩ (fun j hj ρ h => ?_) (fun ρ h => ?_))
      · obtain ⟨s, t, w, x, y, z, u, v, rfl, _, t5⟩ := h
        have jb : -4611686018427387904 ≤ (j : Int) ∧ (j : Int) < 4611686018427387904 := by omega
        simp -implicitDefEqProofs [forS, jb, rba]
        refine wp_forI (fun m ρ => PInv ks a b ns (400 * i + 330) (7 * j + m) (some (.int j)) ρ) ⟨s, _, _, _, _, _, _, _, rfl, (fun _ h => by cases h; rfl), ⟨t5.1, by have := t5.2; omega⟩⟩ (fun m hm ρ h => ?_) (fun ρ h => ?_)
        · obtain ⟨s, t, w, x, y, z, u, v, rfl, hx, t5⟩ := h
          obtain rfl := hx _ rfl
          obtain ⟨c, s6, e7, c0, c1, t6⟩ := take_ok (m := 2) t5 (by omega) (by decide) (by decide)
          have mj : m ≠ j := by omega
          have hm' : m < ks.length := by omega
          have f1 := gap_ok hg (by omega) hm' hj mj
          have f1' := gap_ok hg (by omega) hj hm' (Ne.symm mj)
          have f2 := near_ok hg (by omega) ha hb hm' hj mj
          have f2' := near_ok hg (by omega) ha hb hj hm' (Ne.symm mj)
          have f3 := near_from_ok hg (by omega) hm' hj mj
          have f3' := near_from_ok hg (by omega) hj hm' (Ne.symm mj)
          rw [gx_sym, gx_sym (q := 1)] at f1' f3'
          rw [nr_sym] at f2'
          have f4 := due_gap_ok hg hm' hj
          have f5 := lnear_ok (a := a) (b := b) hg hm' hj
          rw [nr_eq hg hm' hj ha hb] at f5
          have f6 := least_ok hg hm' hj
          have fin : ∀ t w y z u v, PInv ks a b ns (400 * i + 330) (7 * j + (m + 1 : Nat)) (some (.int j)) [some (.sc ns), some (.dr s6), t, some (.d (.lst (tupD ks))), some (.d (drD ks)), some (.d (pD a b)), some w, some (.d (.int j)), y, z, u, v] := fun t w y z u v => ⟨s6, _, _, _, _, _, _, _, rfl, (fun _ h => by cases h; rfl), ⟨t6.1, by have := t6.2; omega⟩⟩
          have ep : ∀ k l : Int, dEq true (pD k l) (pD k l) = some (.sc (.bl false)) := fun k l => by
            have := eq_tup true [k, l] [k, l]
            simpa [VS.intD] using this
          by_cases c2 : c = 0
          · subst c2
            simp -implicitDefEqProofs [forS, e7, f1, f2, f3, f4, f5, f6, ep, lnumbers_ok, says_ok]
            exact fin _ _ _ _ _ _
          · simp -implicitDefEqProofs [forS, e7, c2, f1', f2', f3', f4, f5, f6, ep, lnumbers_ok, says_ok]
            exact fin _ _ _ _ _ _
        · obtain ⟨s, t, w, x, y, z, u, v, rfl, _, t6⟩ := h
          rw [goQ_nx]
          exact ⟨s, _, _, _, _, _, _, _, rfl, (fun _ h => nomatch h), ⟨t6.1, by have := t6.2; push_cast; push_cast at this; omega⟩⟩
      · obtain ⟨s, t, w, x, y, z, u, v, rfl, _, t5⟩ := h
        have t6 : Tn s (400 * i + 330 + 49) := ⟨t5.1, by have := t5.2; omega⟩
        by_cases h0 : ks = []
        · subst h0
          have en : dEq true (.lst (tupD [])) (.lst []) = some (.sc (.bl false)) := eq_tups true [] []
          simp -implicitDefEqProofs [en]
          exact ⟨s, _, _, _, _, _, _, _, _, _, _, rfl, ⟨t6.1, by have := t6.2; push_cast; omega⟩⟩
        · have en : dEq true (.lst (tupD ks)) (.lst []) = some (.sc (.bl true)) := by
            rw [show (D.lst ([] : List D)) = D.lst (tupD []) from rfl, eq_tups]
            simp [h0]
          obtain ⟨s7, e8, t7⟩ := refusals_ok (by omega) ha hb t6 (by omega) h0
          simp -implicitDefEqProofs [en, tupD_len, e8]
          exact ⟨s7, _, _, _, _, _, _, _, _, _, _, rfl, ⟨t7.1, by have := t7.2; push_cast; omega⟩⟩
    · obtain ⟨s, x2, x3, x4, x5, x6, x7, x8, x9, x10, x11, rfl, t1⟩ := h
      simp -implicitDefEqProofs [LQ])
  exact ⟨o, e⟩
end HD

theorem PySem.Challenge.cw_gapstairs_k21_near_blocks_holds : PySem.Challenge.rw_gapstairs_k21_near_blocks.Holds := by
  exact law_holds HD.plain
