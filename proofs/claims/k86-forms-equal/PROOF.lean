import PyProof.Rows.All
import Wide.All
import OpenK.AllK
import Wide.FinOn
import HandS.ForMost
import HandS.ForExc
import HandS.Defaults
import HandS.Deep
import HandS.IsInst
import HandS.Style
import HandS.Flow
import HandS.Lambda
import HandS.ExcIs
import HandS.HeadHook1
import HandS.HeadHook2
import HandS.CallSlots
import HandS.HeadHook4
import HandS.Comp
import HandS.Dict
import HandS.SortInts
import HandS.TupSets
import HandS.Strs
import HandS.SetFor
import OpenK.KOps
import HandS.Exc
import HandS.HeadWalk
import HandS.EndTab
import PyProof.GenComp
import PyProof.GenQ
import HandS.GenOver
import HandS.GenList
import KE.SortKeyHeap
import HandS.SortKw
import HandS.Rev
import KE.KOpsOwn
import HandS.SlotsOwn
import HandS.TryOnly
import HandS.MakeKwOnly
import KE.KStateDown
import HandS.Head0
import HandS.Head1
import HandS.Head2
import HandS.HeadEnd
import HandS.HeadHook3
import PySem.Challenge.RW_gapstairs_k86_forms_equal_if_they_do_the
set_option Elab.async false
set_option linter.all false
set_option maxRecDepth 100000
set_option maxHeartbeats 0
/-! VS1: data, slots, the relation between a pure environment and the layer's slots and heap. -/
namespace VS
open PySem PySem.Spec PyProof.Rows L2

/-- pure data -/
inductive D where
  | non | bl (b : Bool) | int (i : Int) | str (x : Str)
  | tup (xs : List D) | lst (xs : List D) | dic (kvs : List (Key × D))
  | ins (c : Str) (fs : List (Str × D)) | exc (c : Str)

/-- the drawn numbers of a law -/
structure Draw where
  great : List Int
  cells : List Int
  left : Int
  turn : Int

/-- what a slot holds: data that stands still, or a mutable thing that this slot alone knows -/
inductive SV where
  | d (x : D) | ol (xs : List D) | od (kvs : List (Key × D)) | dr (s : Draw) | sc (ns : List Int) | oi (c : Str) (fs : List (Str × D))

abbrev En := List (Option SV)

structure VC where
  K : PySem.W.Frag
  mg : Str → Option Value
  T : List (Addr × Str)
  P : Program
  w : World

/-- an exception object of the class cls, kept as a value -/
def ExV (cls : Value) (a : Addr) : HO := .ext fun h => ∃ (oe : Obj) (vs : Array Value), h.get? a = some oe ∧ Zc cls none oe ∧ oe.data = .fields vs

mutual
inductive Rp (C : VC) (G : Hp) : V → D → Prop
  | non : Rp C G .non .non
  | bl (b : Bool) : Rp C G (.bl b) (.bl b)
  | int (i : Int) : Rp C G (.int i) (.int i)
  | str (x : Str) : Rp C G (.str x) (.str x)
  | tup {a : Addr} {xs : List V} {ds : List D} : SqT C.K G a xs → RpL C G xs ds → Rp C G (.ref a) (.tup ds)
  | lst {a : Addr} {xs : List V} {ds : List D} : G a = some (.lst xs) → RpL C G xs ds → Rp C G (.ref a) (.lst ds)
  | dic {a : Addr} {kvs : List (Key × V)} {ds : List (Key × D)} : G a = some (.dK kvs) → RpK C G kvs ds → Rp C G (.ref a) (.dic ds)
  | ins {a Ca dx : Addr} {c : Str} {fs : List (Str × V)} {gs : List (Str × D)} : C.mg c = some (.ref Ca) → G a = some (.ins Ca dx fs) → G dx = some (.own a) → RpF C G fs gs → Rp C G (.ref a) (.ins c gs)
  | exc {a Ca : Addr} {c : Str} : C.mg c = some (.ref Ca) → G a = some (ExV (.ref Ca) a) → Rp C G (.ref a) (.exc c)
inductive RpL (C : VC) (G : Hp) : List V → List D → Prop
  | nil : RpL C G [] []
  | cons {v : V} {vs : List V} {d : D} {ds : List D} : Rp C G v d → RpL C G vs ds → RpL C G (v :: vs) (d :: ds)
inductive RpK (C : VC) (G : Hp) : List (Key × V) → List (Key × D) → Prop
  | nil : RpK C G [] []
  | cons {k : Key} {v : V} {vs : List (Key × V)} {d : D} {ds : List (Key × D)} : Rp C G v d → RpK C G vs ds → RpK C G ((k, v) :: vs) ((k, d) :: ds)
inductive RpF (C : VC) (G : Hp) : List (Str × V) → List (Str × D) → Prop
  | nil : RpF C G [] []
  | cons {k : Str} {v : V} {vs : List (Str × V)} {d : D} {ds : List (Str × D)} : Rp C G v d → RpF C G vs ds → RpF C G ((k, v) :: vs) ((k, d) :: ds)
end

theorem Same.sqt {K : PySem.W.Frag} {H H' : Hp} {a : Addr} {xs : List V} (e : Same H H') (h : SqT K H a xs) : SqT K H' a xs := by
  rcases h with (h | ⟨o, h⟩) | h
  · exact .inl (.inl (e _ _ h))
  · exact .inl (.inr ⟨o, e _ _ h⟩)
  · exact .inr h

section
variable {C : VC} {G G' : Hp}
mutual
theorem Rp.mono (e : Same G G') : ∀ {v : V} {d : D}, Rp C G v d → Rp C G' v d
  | _, _, .non => .non
  | _, _, .bl b => .bl b
  | _, _, .int i => .int i
  | _, _, .str x => .str x
  | _, _, .tup h r => .tup (VS.Same.sqt e h) (RpL.mono e r)
  | _, _, .lst h r => .lst (e _ _ h) (RpL.mono e r)
  | _, _, .dic h r => .dic (e _ _ h) (RpK.mono e r)
  | _, _, .ins m h o r => .ins m (e _ _ h) (e _ _ o) (RpF.mono e r)
  | _, _, .exc m h => .exc m (e _ _ h)
theorem RpL.mono (e : Same G G') : ∀ {v : List V} {d : List D}, RpL C G v d → RpL C G' v d
  | _, _, .nil => .nil
  | _, _, .cons h t => .cons (Rp.mono e h) (RpL.mono e t)
theorem RpK.mono (e : Same G G') : ∀ {v : List (Key × V)} {d : List (Key × D)}, RpK C G v d → RpK C G' v d
  | _, _, .nil => .nil
  | _, _, .cons h t => .cons (Rp.mono e h) (RpK.mono e t)
theorem RpF.mono (e : Same G G') : ∀ {v : List (Str × V)} {d : List (Str × D)}, RpF C G v d → RpF C G' v d
  | _, _, .nil => .nil
  | _, _, .cons h t => .cons (Rp.mono e h) (RpF.mono e t)
end
theorem RpL.length : ∀ {v : List V} {d : List D}, RpL C G v d → v.length = d.length
  | _, _, .nil => rfl
  | _, _, .cons _ t => congrArg Nat.succ (RpL.length t)
theorem RpL.get : ∀ {vs : List V} {ds : List D} {i : Nat} {d : D}, RpL C G vs ds → ds[i]? = some d → ∃ v, vs[i]? = some v ∧ Rp C G v d
  | _, _, _, _, .nil, h => by simp at h
  | _, _, 0, _, .cons r _, h => by simp at h; subst h; exact ⟨_, rfl, r⟩
  | _, _, i + 1, _, .cons _ t, h => by
    obtain ⟨v, h1, h2⟩ := RpL.get (i := i) t (by simpa using h)
    exact ⟨v, by simpa using h1, h2⟩
theorem RpL.getV : ∀ {vs : List V} {ds : List D} {i : Nat} {v : V}, RpL C G vs ds → vs[i]? = some v → ∃ d, ds[i]? = some d ∧ Rp C G v d
  | _, _, _, _, .nil, h => by simp at h
  | _, _, 0, _, .cons r _, h => by simp at h; subst h; exact ⟨_, rfl, r⟩
  | _, _, i + 1, _, .cons _ t, h => by
    obtain ⟨d, h1, h2⟩ := RpL.getV (i := i) t (by simpa using h)
    exact ⟨d, by simpa using h1, h2⟩
theorem RpL.app : ∀ {vs us : List V} {ds es : List D}, RpL C G vs ds → RpL C G us es → RpL C G (vs ++ us) (ds ++ es)
  | _, _, _, _, .nil, s => s
  | _, _, _, _, .cons r t, s => .cons r (RpL.app t s)
theorem RpL.set {v : V} {d : D} (r : Rp C G v d) : ∀ {vs : List V} {ds : List D} (i : Nat), RpL C G vs ds → RpL C G (vs.set i v) (ds.set i d)
  | _, _, _, .nil => .nil
  | _, _, 0, .cons _ t => .cons r t
  | _, _, i + 1, .cons q t => .cons q (RpL.set r i t)
theorem RpL.take : ∀ {vs : List V} {ds : List D} (n : Nat), RpL C G vs ds → RpL C G (vs.take n) (ds.take n)
  | _, _, 0, _ => .nil
  | _, _, _ + 1, .nil => .nil
  | _, _, n + 1, .cons r t => .cons r (RpL.take n t)
theorem RpL.drop : ∀ {vs : List V} {ds : List D} (n : Nat), RpL C G vs ds → RpL C G (vs.drop n) (ds.drop n)
  | _, _, 0, r => r
  | _, _, _ + 1, .nil => .nil
  | _, _, n + 1, .cons _ t => RpL.drop n t
theorem RpL.rev : ∀ {vs : List V} {ds : List D}, RpL C G vs ds → RpL C G vs.reverse ds.reverse
  | _, _, .nil => .nil
  | _, _, .cons r t => by
    rw [List.reverse_cons, List.reverse_cons]
    exact RpL.app (RpL.rev t) (.cons r .nil)
theorem RpL.erase : ∀ {vs : List V} {ds : List D} (i : Nat), RpL C G vs ds → RpL C G (vs.eraseIdx i) (ds.eraseIdx i)
  | _, _, _, .nil => .nil
  | _, _, 0, .cons _ t => t
  | _, _, i + 1, .cons r t => .cons r (RpL.erase i t)
end

/-- the slot's thing at v; fp: the addresses that it alone knows -/
def Own (C : VC) (G H : Hp) : SV → V → List Addr → Prop
  | .d x, v, fp => fp = [] ∧ Rp C G v x
  | .ol xs, v, fp => ∃ p vs, v = .ref p ∧ fp = [p] ∧ H p = some (.lst vs) ∧ RpL C G vs xs
  | .od kvs, v, fp => ∃ p vs, v = .ref p ∧ fp = [p] ∧ H p = some (.dK vs) ∧ RpK C G vs kvs
  | .dr s, v, fp => ∃ a g c, v = .ref a ∧ fp = [a, g] ∧ a ≠ g ∧ H a = some (.dK [(.inr "great", .ref g), (.inr "cells", .ref c), (.inr "left", .int s.left), (.inr "turn", .int s.turn)]) ∧
      H g = some (.lst (s.great.map V.int)) ∧ G c = some (.lst (s.cells.map V.int))
  | .sc ns, v, fp => fp = [] ∧ ∃ a, v = .ref a ∧ SqL C.K G a (ns.map V.int)
  | .oi c fs, v, fp => ∃ a Ca dx vs, v = .ref a ∧ fp = [a] ∧ C.mg c = some (.ref Ca) ∧ H a = some (.ins Ca dx vs) ∧ G dx = some (.own a) ∧ RpF C G vs fs

section
variable {C : VC} {G G' H H' : Hp} {s : SV} {v : V} {fp : List Addr}
theorem Own.mono (o : Own C G H s v fp) (e : Same G G') (k : ∀ p ∈ fp, H' p = H p) : Own C G' H' s v fp := by
  cases s with
  | d x => exact ⟨o.1, o.2.mono e⟩
  | ol xs =>
    obtain ⟨p, vs, h1, h2, h3, h4⟩ := o
    subst h2
    exact ⟨p, vs, h1, rfl, (k p (by simp)).trans h3, h4.mono e⟩
  | od xs =>
    obtain ⟨p, vs, h1, h2, h3, h4⟩ := o
    subst h2
    exact ⟨p, vs, h1, rfl, (k p (by simp)).trans h3, h4.mono e⟩
  | dr s =>
    obtain ⟨a, g, c, h1, h2, h3, h4, h5, h6⟩ := o
    subst h2
    exact ⟨a, g, c, h1, rfl, h3, (k a (by simp)).trans h4, (k g (by simp)).trans h5, e _ _ h6⟩
  | sc ns =>
    obtain ⟨h1, a, h2, h3⟩ := o
    exact ⟨h1, a, h2, e.seq h3⟩
  | oi c fs =>
    obtain ⟨a, Ca, dx, vs, h1, h2, h3, h4, h5, h6⟩ := o
    subst h2
    exact ⟨a, Ca, dx, vs, h1, rfl, h3, (k a (by simp)).trans h4, e _ _ h5, h6.mono e⟩
/-- what is owned is tracked, and no table, no code object -/
def Plain (o : HO) : Prop := (∀ ps, o ≠ .tbl ps) ∧ (∀ φ, o ≠ .ext φ)
theorem Own.there (o : Own C G H s v fp) {p : Addr} (hp : p ∈ fp) : ∃ u, H p = some u ∧ Plain u := by
  cases s with
  | d x => rw [o.1] at hp; cases hp
  | ol xs =>
    obtain ⟨q, vs, h1, h2, h3, h4⟩ := o
    subst h2
    rw [List.mem_singleton.mp hp]
    exact ⟨_, h3, (fun _ z => nomatch z), fun _ z => nomatch z⟩
  | od xs =>
    obtain ⟨q, vs, h1, h2, h3, h4⟩ := o
    subst h2
    rw [List.mem_singleton.mp hp]
    exact ⟨_, h3, (fun _ z => nomatch z), fun _ z => nomatch z⟩
  | dr s =>
    obtain ⟨a, g, c, h1, h2, h3, h4, h5, h6⟩ := o
    subst h2
    rcases List.mem_cons.mp hp with e | hp
    · rw [e]
      exact ⟨_, h4, (fun _ z => nomatch z), fun _ z => nomatch z⟩
    · rw [List.mem_singleton.mp hp]
      exact ⟨_, h5, (fun _ z => nomatch z), fun _ z => nomatch z⟩
  | sc ns => rw [o.1] at hp; cases hp
  | oi c fs =>
    obtain ⟨a, Ca, dx, vs, h1, h2, h3, h4, h5, h6⟩ := o
    subst h2
    rw [List.mem_singleton.mp hp]
    exact ⟨_, h4, (fun _ z => nomatch z), fun _ z => nomatch z⟩
end

/-- the ground of a frame: heap and still heap at its entry, what it may change besides new things, the pinned slots' values -/
structure Bd where
  H0 : Hp
  G0 : Hp
  S : Addr → Prop
  pv : Nat → V
/-- p is none of the ground's kept things -/
def Bd.Fr (B : Bd) (p : Addr) : Prop := ∀ o, B.H0 p = some o → (∀ ps, o ≠ .tbl ps) → B.S p

abbrev Slot := Option SV × Option V
def SlotOk (C : VC) (G H : Hp) : Slot → List Addr → Prop
  | (none, _), fp => fp = []
  | (some s, x), fp => ∃ v, x = some v ∧ Own C G H s v fp

structure FR (C : VC) (B : Bd) (vw : Option Nat → Slot) (G H : Hp) : Prop where
  ex : ∃ fp : Option Nat → List Addr, (∀ i, SlotOk C G H (vw i) (fp i)) ∧ (∀ i j p, i ≠ j → p ∈ fp i → p ∉ fp j) ∧ ∀ i p, p ∈ fp i → G p = none ∧ B.Fr p
  gh : Same G H
  g0 : Same B.G0 G
  gf : ∀ a, G a ≠ none → B.G0 a ≠ none ∨ B.Fr a
  kp : ∀ b o, B.H0 b = some o → (∀ ps, o ≠ .tbl ps) → ¬ B.S b → H b = some o
  nt : ∀ a ps, G a ≠ some (.tbl ps)
  tb : LamX.Tabs C.T H

section
variable {C : VC} {B : Bd} {vw vw' : Option Nat → Slot} {G G' H H' : Hp} {p : Addr} {o : HO}

theorem SlotOk.mono {x : Slot} {fp : List Addr} (h : SlotOk C G H x fp) (e : Same G G') (k : ∀ p ∈ fp, H' p = H p) : SlotOk C G' H' x fp := by
  obtain ⟨a, b⟩ := x
  cases a with
  | none => exact h
  | some s =>
    obtain ⟨v, h1, h2⟩ := h
    exact ⟨v, h1, h2.mono e k⟩
theorem SlotOk.there {x : Slot} {fp : List Addr} (h : SlotOk C G H x fp) {p : Addr} (hp : p ∈ fp) : ∃ u, H p = some u ∧ Plain u := by
  obtain ⟨a, b⟩ := x
  cases a with
  | none => rw [show fp = [] from h] at hp; cases hp
  | some s =>
    obtain ⟨v, h1, h2⟩ := h
    exact h2.there hp

/-- slots moved, dropped, or filled with data -/
theorem FR.remap (F : FR C B vw G H) (π : Option Nat → Option (Option Nat)) (inj : ∀ i j k, π i = some k → π j = some k → i = j)
    (h : ∀ i, (∃ j, π i = some j ∧ vw' i = vw j) ∨ (π i = none ∧ ((vw' i).1 = none ∨ ∃ x v, vw' i = (some (.d x), some v) ∧ Rp C G v x))) : FR C B vw' G H := by
  obtain ⟨fp, h1, h2, h3⟩ := F.ex
  refine ⟨⟨fun i => match π i with | some j => fp j | none => [], fun i => ?_, fun i j p hij hp => ?_, fun i p hp => ?_⟩, F.gh, F.g0, F.gf, F.kp, F.nt, F.tb⟩
  · rcases h i with ⟨j, e1, e2⟩ | ⟨e1, e2⟩
    · simp only [e1, e2]
      exact h1 j
    · simp only [e1]
      rcases e2 with e2 | ⟨x, v, e2, r⟩
      · cases q : vw' i with
        | mk a b =>
          rw [q] at e2
          have e3 : a = none := e2
          subst e3
          rfl
      · rw [e2]
        exact ⟨v, rfl, rfl, r⟩
  · dsimp only at hp ⊢
    cases e1 : π i with
    | none => rw [e1] at hp; cases hp
    | some k =>
      rw [e1] at hp
      cases e2 : π j with
      | none => exact List.not_mem_nil
      | some l =>
        refine h2 k l p (fun z => hij (inj i j k e1 (by rw [e2, z]))) hp
  · dsimp only at hp
    cases e1 : π i with
    | none => rw [e1] at hp; cases hp
    | some k => rw [e1] at hp; exact h3 k p hp

def upS (vw : Option Nat → Slot) (i : Option Nat) (s : Slot) : Option Nat → Slot := fun j => if j = i then s else vw j
theorem upS_same {i : Option Nat} {s : Slot} : upS vw i s i = s := by unfold upS; rw [if_pos rfl]
theorem upS_ne {i j : Option Nat} {s : Slot} (h : j ≠ i) : upS vw i s j = vw j := by unfold upS; rw [if_neg h]

/-- a slot forgotten -/
theorem FR.drop (F : FR C B vw G H) (i : Option Nat) (x : Option V) : FR C B (upS vw i (none, x)) G H :=
  F.remap (fun j => if j = i then none else some j) (fun a b k h1 h2 => by
    by_cases ha : a = i
    · rw [if_pos ha] at h1; cases h1
    · by_cases hb : b = i
      · rw [if_pos hb] at h2; cases h2
      · rw [if_neg ha] at h1; rw [if_neg hb] at h2; rw [Option.some.inj h1, Option.some.inj h2]) fun j => by
    by_cases hj : j = i
    · right
      refine ⟨if_pos hj, .inl ?_⟩
      rw [hj, upS_same]
    · left
      exact ⟨j, if_neg hj, upS_ne hj⟩
/-- a slot filled with data -/
theorem FR.put (F : FR C B vw G H) (i : Option Nat) {x : D} {v : V} (r : Rp C G v x) : FR C B (upS vw i (some (.d x), some v)) G H :=
  F.remap (fun j => if j = i then none else some j) (fun a b k h1 h2 => by
    by_cases ha : a = i
    · rw [if_pos ha] at h1; cases h1
    · by_cases hb : b = i
      · rw [if_pos hb] at h2; cases h2
      · rw [if_neg ha] at h1; rw [if_neg hb] at h2; rw [Option.some.inj h1, Option.some.inj h2]) fun j => by
    by_cases hj : j = i
    · right
      refine ⟨if_pos hj, .inr ⟨x, v, ?_, r⟩⟩
      rw [hj, upS_same]
    · left
      exact ⟨j, if_neg hj, upS_ne hj⟩
/-- slot j moved to slot i -/
theorem FR.move (F : FR C B vw G H) (i j : Option Nat) (hij : i ≠ j) (x : Option V) : FR C B (upS (upS vw i (vw j)) j (none, x)) G H :=
  F.remap (fun k => if k = j then none else if k = i then some j else some k) (fun a b k h1 h2 => by
    by_cases ha : a = j
    · rw [if_pos ha] at h1; cases h1
    · by_cases hb : b = j
      · rw [if_pos hb] at h2; cases h2
      · rw [if_neg ha] at h1; rw [if_neg hb] at h2
        by_cases ha2 : a = i
        · rw [if_pos ha2] at h1
          by_cases hb2 : b = i
          · rw [ha2, hb2]
          · rw [if_neg hb2] at h2
            exact absurd ((Option.some.inj h2).trans (Option.some.inj h1).symm) hb
        · rw [if_neg ha2] at h1
          by_cases hb2 : b = i
          · rw [if_pos hb2] at h2
            exact absurd ((Option.some.inj h1).trans (Option.some.inj h2).symm) ha
          · rw [if_neg hb2] at h2
            rw [Option.some.inj h1, Option.some.inj h2]) fun k => by
    by_cases hk : k = j
    · right
      refine ⟨if_pos hk, .inl ?_⟩
      rw [hk, upS_same]
    · left
      by_cases hk2 : k = i
      · refine ⟨j, by rw [if_neg hk, if_pos hk2], ?_⟩
        rw [upS_ne hk, hk2, upS_same]
      · refine ⟨k, by rw [if_neg hk, if_neg hk2], ?_⟩
        rw [upS_ne hk, upS_ne hk2]

theorem tabs_upd {T : List (Addr × Str)} (t : LamX.Tabs T H) (h : ∀ u, H p = some u → Plain u) : LamX.Tabs T (upd H p o) := fun q hq => by
  obtain ⟨ps, h1, h2, h3⟩ := t q hq
  have n1 : q.1 ≠ p := fun z => by
    rw [z] at h1
    exact (h _ h1).1 ps rfl
  refine ⟨ps, by rw [upd_ne n1]; exact h1, h2, fun pos cv hc => ?_⟩
  obtain ⟨c, e1, e2⟩ := h3 pos cv hc
  refine ⟨c, e1, ?_⟩
  have n2 : c ≠ p := fun z => by
    rw [z] at e2
    exact (h _ e2).2 _ rfl
  rw [upd_ne n2]
  exact e2
theorem same_up {H : Hp} {p : Addr} {o : HO} (h : H p = none) : Same H (upd H p o) := fun b u e => by
  rw [upd_ne (ne_of_none e h)]
  exact e

/-- a new thing is laid -/
theorem FR.alloc (F : FR C B vw G H) (hp : H p = none) : FR C B vw G (upd H p o) := by
  obtain ⟨fp, h1, h2, h3⟩ := F.ex
  have keep : ∀ i, ∀ q ∈ fp i, (upd H p o) q = H q := fun i q hq => by
    obtain ⟨u, e, _⟩ := (h1 i).there hq
    rw [upd_ne (ne_of_none e hp)]
  refine ⟨⟨fp, fun i => (h1 i).mono (Same.refl _) (keep i), h2, h3⟩, F.gh.trans (same_up hp), F.g0, F.gf, fun b u e n ns => same_up hp _ _ (F.kp b u e n ns), F.nt, tabs_upd F.tb fun u e => by rw [hp] at e; cases e⟩
/-- a new address is none of the ground's -/
theorem FR.newAddr (F : FR C B vw G H) (hp : H p = none) : B.Fr p := fun u e n => by
  by_cases hs : B.S p
  · exact hs
  · have z := F.kp p u e n hs
    rw [hp] at z
    cases z
/-- a thing that no slot owns stands still from now on -/
theorem FR.still (F : FR C B vw G H) (hg : G p = none) (hh : H p = some o) (ho : ∀ ps, o ≠ .tbl ps) (hn : B.Fr p)
    (hf : ∃ fp : Option Nat → List Addr, (∀ i, SlotOk C G H (vw i) (fp i)) ∧ (∀ i j p, i ≠ j → p ∈ fp i → p ∉ fp j) ∧ (∀ i p, p ∈ fp i → G p = none ∧ B.Fr p) ∧ ∀ i, p ∉ fp i) : FR C B vw (upd G p o) H := by
  obtain ⟨fp, h1, h2, h3, h4⟩ := hf
  refine ⟨⟨fp, fun i => (h1 i).mono (same_up hg) (fun _ _ => rfl), h2, fun i q hq => ⟨?_, (h3 i q hq).2⟩⟩, fun b u e => ?_, F.g0.trans (same_up hg), fun a ha => ?_, F.kp, fun a ps e => ?_, F.tb⟩
  · rw [upd_ne (fun z => by rw [z] at hq; exact h4 i hq)]
    exact (h3 i q hq).1
  · by_cases hb : b = p
    · subst hb
      rw [upd_same] at e
      rw [hh]
      exact e
    · rw [upd_ne hb] at e
      exact F.gh _ _ e
  · by_cases hb : a = p
    · subst hb
      exact .inr hn
    · rw [upd_ne hb] at ha
      exact F.gf a ha
  · by_cases hb : a = p
    · subst hb
      rw [upd_same] at e
      exact ho ps (Option.some.inj e)
    · rw [upd_ne hb] at e
      exact F.nt a ps e
/-- .. laid and still at once -/
theorem FR.lay (F : FR C B vw G H) (hp : H p = none) (ho : ∀ ps, o ≠ .tbl ps) : FR C B vw (upd G p o) (upd H p o) := by
  have hg : G p = none := by
    cases e : G p with
    | none => rfl
    | some u => rw [F.gh _ _ e] at hp; cases hp
  have hn := F.newAddr hp
  have old : ∀ fp : Option Nat → List Addr, (∀ i, SlotOk C G H (vw i) (fp i)) → ∀ i, p ∉ fp i := fun fp h i hi => by
    obtain ⟨u, e, _⟩ := (h i).there hi
    rw [hp] at e
    cases e
  obtain ⟨fp, h1, h2, h3⟩ := F.ex
  have keep : ∀ i, ∀ q ∈ fp i, (upd H p o) q = H q := fun i q hq => upd_ne fun z => by
    rw [z] at hq
    exact old fp h1 i hq
  exact (F.alloc hp).still hg upd_same ho hn ⟨fp, fun i => (h1 i).mono (Same.refl _) (keep i), h2, h3, old fp h1⟩
/-- an owned thing is laid: the slot i has it -/
theorem FR.layOwn (F : FR C B vw G H) (hp : H p = none) (hpl : Plain o) (i : Option Nat) {s : SV} {v : V} (hs : Own C G (upd H p o) s v [p]) : FR C B (upS vw i (some s, some v)) G (upd H p o) := by
  have hg : G p = none := by
    cases e : G p with
    | none => rfl
    | some u => rw [F.gh _ _ e] at hp; cases hp
  have hn := F.newAddr hp
  have F2 := F.alloc (o := o) hp
  obtain ⟨fp, h1, h2, h3⟩ := F.ex
  have old : ∀ j, p ∉ fp j := fun j hj => by
    obtain ⟨u, e, _⟩ := (h1 j).there hj
    rw [hp] at e
    cases e
  have keep : ∀ j, ∀ q ∈ fp j, (upd H p o) q = H q := fun j q hq => upd_ne fun z => by
    rw [z] at hq
    exact old j hq
  refine ⟨⟨fun j => if j = i then [p] else fp j, fun j => ?_, fun j k q hjk hq => ?_, fun j q hq => ?_⟩, F2.gh, F2.g0, F2.gf, F2.kp, F2.nt, F2.tb⟩
  · dsimp only
    by_cases hj : j = i
    · rw [hj, upS_same, if_pos rfl]
      exact ⟨v, rfl, hs⟩
    · rw [upS_ne hj, if_neg hj]
      exact (h1 j).mono (Same.refl _) (keep j)
  · dsimp only at hq ⊢
    by_cases hj : j = i
    · rw [if_pos hj] at hq
      rw [if_neg (fun z => hjk (hj.trans z.symm)), List.mem_singleton.mp hq]
      exact old k
    · rw [if_neg hj] at hq
      by_cases hk : k = i
      · rw [if_pos hk]
        intro z
        rw [List.mem_singleton.mp z] at hq
        exact old j hq
      · rw [if_neg hk]
        exact h2 j k q hjk hq
  · dsimp only at hq
    by_cases hj : j = i
    · rw [if_pos hj] at hq
      rw [List.mem_singleton.mp hq]
      exact ⟨hg, hn⟩
    · rw [if_neg hj] at hq
      exact h3 j q hq
/-- an owned list is changed -/
theorem FR.chg {i : Option Nat} {s : SV} {v : V} (F : FR C B vw G H) (hi : vw i = (some s, some v)) (hl : (∃ xs, s = .ol xs) ∨ (∃ xs, s = .od xs) ∨ ∃ c fs, s = .oi c fs) :
    ∃ p u, v = .ref p ∧ H p = some u ∧ Own C G H s v [p] ∧ ∀ s' o', Plain o' → Own C G (upd H p o') s' v [p] → FR C B (upS vw i (some s', some v)) G (upd H p o') := by
  obtain ⟨fp, h1, h2, h3⟩ := F.ex
  have a := h1 i
  rw [hi] at a
  obtain ⟨v2, e1, o1⟩ := a
  have ev : v = v2 := Option.some.inj e1
  subst ev
  have key : ∃ p u, v = .ref p ∧ fp i = [p] ∧ H p = some u ∧ Plain u := by
    rcases hl with ⟨xs, rfl⟩ | ⟨xs, rfl⟩ | ⟨c, fs, rfl⟩
    · obtain ⟨p, vs, a1, a2, a3, a4⟩ := o1
      exact ⟨p, _, a1, a2, a3, (fun _ z => nomatch z), fun _ z => nomatch z⟩
    · obtain ⟨p, vs, a1, a2, a3, a4⟩ := o1
      exact ⟨p, _, a1, a2, a3, (fun _ z => nomatch z), fun _ z => nomatch z⟩
    · obtain ⟨p, Ca, dx, vs, a1, a2, a3, a4, _⟩ := o1
      exact ⟨p, _, a1, a2, a4, (fun _ z => nomatch z), fun _ z => nomatch z⟩
  obtain ⟨p, u, rfl, ef, hp, pl⟩ := key
  rw [ef] at o1
  refine ⟨p, u, rfl, hp, o1, fun s' o' _ hs => ?_⟩
  have pi : p ∈ fp i := by rw [ef]; exact List.mem_singleton.mpr rfl
  have hg : G p = none := (h3 i p pi).1
  have nj : ∀ j, j ≠ i → p ∉ fp j := fun j hj => h2 i j p (Ne.symm hj) pi
  refine ⟨⟨fp, fun j => ?_, h2, h3⟩, fun b w e => ?_, F.g0, F.gf, fun b w e n ns => ?_, F.nt, tabs_upd F.tb fun w e => by rw [hp] at e; cases e; exact pl⟩
  · by_cases hj : j = i
    · rw [hj, upS_same, ef]
      exact ⟨_, rfl, hs⟩
    · rw [upS_ne hj]
      exact (h1 j).mono (Same.refl _) fun q hq => upd_ne fun z => by
        rw [z] at hq
        exact nj j hj hq
  · rw [upd_ne (fun z => by rw [z, hg] at e; cases e)]
    exact F.gh _ _ e
  · by_cases hb : b = p
    · subst hb
      exact absurd ((h3 i b pi).2 w e n) ns
    · rw [upd_ne hb]
      exact F.kp b w e n ns
/-- an owned thing is from now on data that stands still -/
theorem FR.freeze {i : Option Nat} {s : SV} {v : V} {x : D} (F : FR C B vw G H) (hi : vw i = (some s, some v)) (hl : (∃ xs, s = .ol xs ∧ x = .lst xs) ∨ (∃ xs, s = .od xs ∧ x = .dic xs) ∨ (∃ c fs, s = .oi c fs ∧ x = .ins c fs) ∨ s = .d x) :
    ∃ G', Same G G' ∧ FR C B (upS vw i (some (.d x), some v)) G' H ∧ Rp C G' v x := by
  obtain ⟨fp, h1, h2, h3⟩ := F.ex
  have a := h1 i
  rw [hi] at a
  obtain ⟨v2, e1, o1⟩ := a
  have ev : v = v2 := Option.some.inj e1
  subst ev
  have go : ∀ p o, v = .ref p → fp i = [p] → H p = some o → Plain o → Rp C (upd G p o) v x → ∃ G', Same G G' ∧ FR C B (upS vw i (some (.d x), some v)) G' H ∧ Rp C G' v x := by
    intro p o _ ef hp pl r
    have pi : p ∈ fp i := by rw [ef]; exact List.mem_singleton.mpr rfl
    have hg : G p = none := (h3 i p pi).1
    have F2 : FR C B (upS vw i (none, none)) (upd G p o) H := by
      refine (F.drop i none).still hg hp pl.1 (h3 i p pi).2 ⟨fun j => if j = i then [] else fp j, fun j => ?_, fun j k q hjk hq => ?_, fun j q hq => ?_, fun j hq => ?_⟩
      · dsimp only
        by_cases hj : j = i
        · rw [hj, upS_same, if_pos rfl]
          rfl
        · rw [upS_ne hj, if_neg hj]
          exact h1 j
      · dsimp only at hq ⊢
        by_cases hj : j = i
        · rw [if_pos hj] at hq; cases hq
        · rw [if_neg hj] at hq
          by_cases hk : k = i
          · rw [if_pos hk]; exact List.not_mem_nil
          · rw [if_neg hk]; exact h2 j k q hjk hq
      · dsimp only at hq
        by_cases hj : j = i
        · rw [if_pos hj] at hq; cases hq
        · rw [if_neg hj] at hq; exact h3 j q hq
      · dsimp only at hq
        by_cases hj : j = i
        · rw [if_pos hj] at hq; cases hq
        · rw [if_neg hj] at hq
          exact h2 i j p (Ne.symm hj) pi hq
    refine ⟨upd G p o, same_up hg, ?_, r⟩
    have F3 := F2.put i r
    have e : upS (upS vw i (none, none)) i (some (.d x), some v) = upS vw i (some (.d x), some v) := by
      funext j
      unfold upS
      split <;> rfl
    rw [e] at F3
    exact F3
  rcases hl with ⟨xs, rfl, rfl⟩ | ⟨xs, rfl, rfl⟩ | ⟨c, fs, rfl, rfl⟩ | rfl
  · obtain ⟨p, vs, a1, a2, a3, a4⟩ := o1
    have hg : G p = none := (h3 i p (by rw [a2]; exact List.mem_singleton.mpr rfl)).1
    refine go p _ a1 a2 a3 ⟨(fun _ z => nomatch z), fun _ z => nomatch z⟩ ?_
    rw [a1]
    exact .lst upd_same (a4.mono (same_up hg))
  · obtain ⟨p, vs, a1, a2, a3, a4⟩ := o1
    have hg : G p = none := (h3 i p (by rw [a2]; exact List.mem_singleton.mpr rfl)).1
    refine go p _ a1 a2 a3 ⟨(fun _ z => nomatch z), fun _ z => nomatch z⟩ ?_
    rw [a1]
    exact .dic upd_same (a4.mono (same_up hg))
  · obtain ⟨p, Ca, dx, vs, a1, a2, a3, a4, a5, a6⟩ := o1
    have hg : G p = none := (h3 i p (by rw [a2]; exact List.mem_singleton.mpr rfl)).1
    refine go p _ a1 a2 a4 ⟨(fun _ z => nomatch z), fun _ z => nomatch z⟩ ?_
    rw [a1]
    exact .ins a3 upd_same (same_up hg _ _ a5) (a6.mono (same_up hg))
  · refine ⟨G, Same.refl _, ?_, o1.2⟩
    exact F.put i o1.2
end
end VS

/-! VS2: pure computations over environments; what it means that a reading follows one. -/
namespace VS
open PySem PySem.Spec PyProof.Rows L2

inductive Rs (α : Type) where
  | ok (a : α) (ρ : En) | err (c : Str) (ρ : En) | stuck
abbrev M (α : Type) := En → Rs α
def Rs.bind {α β : Type} (r : Rs α) (f : α → M β) : Rs β := match r with
  | .ok a ρ => f a ρ
  | .err c ρ => .err c ρ
  | .stuck => .stuck
def M.bind {α β : Type} (m : M α) (f : α → M β) : M β := fun ρ => (m ρ).bind f
def M.ret {α : Type} (a : α) : M α := fun ρ => .ok a ρ
def M.opt {α : Type} : Option α → M α
  | some a => M.ret a
  | none => fun _ => .stuck
@[simp] theorem bind_ok {α β : Type} (a : α) (ρ : En) (f : α → M β) : (Rs.ok a ρ).bind f = f a ρ := (rfl)
@[simp] theorem bind_err {α β : Type} (c : Str) (ρ : En) (f : α → M β) : (Rs.err c ρ : Rs α).bind f = .err c ρ := (rfl)
@[simp] theorem bind_stuck {α β : Type} (f : α → M β) : (Rs.stuck : Rs α).bind f = .stuck := (rfl)
@[simp] theorem mbind {α β : Type} (m : M α) (f : α → M β) (ρ : En) : M.bind m f ρ = (m ρ).bind f := (rfl)
@[simp] theorem mret {α : Type} (a : α) (ρ : En) : M.ret a ρ = .ok a ρ := (rfl)
@[simp] theorem mopt_some {α : Type} (a : α) : M.opt (some a) = M.ret a := (rfl)
@[simp] theorem mopt_none {α : Type} (ρ : En) : M.opt (none : Option α) ρ = .stuck := (rfl)

/-- what an expression gives: a value, or the thing that a name's slot holds -/
inductive Ref where
  | sv (s : SV) | loc (i : Nat)
/-- an operand: data, or a name's thing -/
inductive Opd where
  | d (x : D) | loc (i : Nat)
def SV.frz : SV → Option D
  | .d x => some x
  | .ol xs => some (.lst xs)
  | .od k => some (.dic k)
  | .oi c fs => some (.ins c fs)
  | _ => none
@[simp] theorem frz_d (x : D) : (SV.d x).frz = some x := (rfl)
@[simp] theorem frz_ol (x : List D) : (SV.ol x).frz = some (.lst x) := (rfl)
@[simp] theorem frz_oi (c : Str) (x : List (Str × D)) : (SV.oi c x).frz = some (.ins c x) := (rfl)
@[simp] theorem frz_od (x : List (Key × D)) : (SV.od x).frz = some (.dic x) := (rfl)
def opd (m : M Ref) : M Opd := M.bind m fun r => match r with
  | .loc i => M.ret (.loc i)
  | .sv s => M.bind (M.opt s.frz) fun x => M.ret (.d x)
/-- the data behind an operand, as the environment is now -/
def vwO (ρ : En) : Opd → Option D
  | .d x => some x
  | .loc i => (ρ.getD i none).bind SV.frz
@[simp] theorem vwO_d (ρ : En) (x : D) : vwO ρ (.d x) = some x := (rfl)
@[simp] theorem vwO_loc (ρ : En) (i : Nat) : vwO ρ (.loc i) = (ρ.getD i none).bind SV.frz := (rfl)
def look (o : Opd) : M D := fun ρ => M.opt (vwO ρ o) ρ
def val (m : M Ref) : M D := M.bind (opd m) look
def val2 (a b : M Ref) : M (D × D) := M.bind (opd a) fun x => M.bind (opd b) fun y => M.bind (look x) fun d => M.bind (look y) fun e => M.ret (d, e)

def view (ρ : En) (σ : L2.St) (x : Option (SV × V)) : Option Nat → Slot
  | some i => (ρ.getD i none, σ.getD i none)
  | none => (x.map (·.1), x.map (·.2))
structure EnvR (C : VC) (B : Bd) (ρ : En) (σ : L2.St) (x : Option (SV × V)) (G H : Hp) : Prop where
  fr : FR C B (view ρ σ x) G H
  len : ρ.length = σ.length

def OpdR (C : VC) (σ : L2.St) (G : Hp) : Opd → V → Prop
  | .d x, v => Rp C G v x
  | .loc i, v => σ[i]? = some (some v)
/-- data as it is to be read now: an outer list or dict may be one that changes later -/
def RpS (C : VC) (G H : Hp) (v : V) : D → Prop
  | .lst xs => ∃ a vs, v = .ref a ∧ H a = some (.lst vs) ∧ RpL C G vs xs
  | .dic k => ∃ a vs, v = .ref a ∧ H a = some (.dK vs) ∧ RpK C G vs k
  | .ins c fs => ∃ a Ca dx vs, v = .ref a ∧ C.mg c = some (.ref Ca) ∧ H a = some (.ins Ca dx vs) ∧ G dx = some (.own a) ∧ RpF C G vs fs
  | x => Rp C G v x
section
variable {C : VC} {B : Bd} {G G' H H' : Hp} {v : V} {x : D} {ρ : En} {σ : L2.St}
theorem Rp.toS (r : Rp C G v x) (e : Same G H) : RpS C G H v x := by
  cases r with
  | lst h r => exact ⟨_, _, rfl, e _ _ h, r⟩
  | dic h r => exact ⟨_, _, rfl, e _ _ h, r⟩
  | non => exact .non
  | bl b => exact .bl b
  | int b => exact .int b
  | str b => exact .str b
  | tup h r => exact .tup h r
  | ins a b c d => exact ⟨_, _, _, _, rfl, a, e _ _ b, c, d⟩
  | exc a b => exact .exc a b
theorem RpS.toH (r : RpS C G H v x) (e : Same G H) : Rp C H v x := by
  cases x with
  | lst xs =>
    obtain ⟨a, vs, rfl, h, r⟩ := r
    exact .lst h (r.mono e)
  | dic xs =>
    obtain ⟨a, vs, rfl, h, r⟩ := r
    exact .dic h (r.mono e)
  | ins c fs =>
    obtain ⟨a, Ca, dx, vs, rfl, m, h, o, r⟩ := r
    exact .ins m h (e _ _ o) (r.mono e)
  | _ => exact Rp.mono e (show Rp C G v _ from r)
theorem EnvR.slot {i : Nat} {x : Option (SV × V)} {s : SV} (E : EnvR C B ρ σ x G H) (hi : ρ.getD i none = some s) : ∃ v, σ[i]? = some (some v) ∧ view ρ σ x (some i) = (some s, some v) := by
  obtain ⟨fp, h1, _⟩ := E.fr.ex
  have a := h1 (some i)
  have e : view ρ σ x (some i) = (some s, σ.getD i none) := by
    show (ρ.getD i none, σ.getD i none) = _
    rw [hi]
  rw [e] at a
  obtain ⟨v, e1, _⟩ := a
  refine ⟨v, ?_, by rw [e, e1]⟩
  rw [List.getD_eq_getElem?_getD] at e1
  cases q : σ[i]? with
  | none => rw [q] at e1; cases e1
  | some y =>
    rw [q] at e1
    have e1' : y = some v := e1
    rw [e1']
theorem EnvR.own {i : Nat} {x : Option (SV × V)} {s : SV} (E : EnvR C B ρ σ x G H) (hi : ρ.getD i none = some s) : ∃ v fp, σ[i]? = some (some v) ∧ Own C G H s v fp := by
  obtain ⟨v, e1, e2⟩ := E.slot hi
  obtain ⟨fp, h1, _⟩ := E.fr.ex
  have a := h1 (some i)
  rw [e2] at a
  obtain ⟨w, e3, o⟩ := a
  cases e3
  exact ⟨_, _, e1, o⟩
theorem vw_rp {o : Opd} (E : EnvR C B ρ σ none G H) (r : OpdR C σ G o v) (h : vwO ρ o = some x) : RpS C G H v x := by
  cases o with
  | d y =>
    cases h
    exact Rp.toS r E.fr.gh
  | loc i =>
    have h : (ρ.getD i none).bind SV.frz = some x := h
    cases q : ρ.getD i none with
    | none => rw [q] at h; cases h
    | some s =>
      rw [q] at h
      obtain ⟨w, fp, e1, o⟩ := E.own q
      have e2 : some (some w) = some (some v) := e1.symm.trans r
      cases e2
      cases s with
      | d y =>
        cases h
        exact o.2.toS E.fr.gh
      | ol xs =>
        cases h
        obtain ⟨p, vs, a1, a2, a3, a4⟩ := o
        exact ⟨p, vs, a1, a3, a4⟩
      | od xs =>
        cases h
        obtain ⟨p, vs, a1, a2, a3, a4⟩ := o
        exact ⟨p, vs, a1, a3, a4⟩
      | dr s => cases h
      | sc s => cases h
      | oi c fs =>
        cases h
        obtain ⟨a, Ca, dx, vs, a1, a2, a3, a4, a5, a6⟩ := o
        exact ⟨a, Ca, dx, vs, a1, a3, a4, a5, a6⟩
theorem OpdR.mono {o : Opd} (r : OpdR C σ G o v) (e : Same G G') : OpdR C σ G' o v := by
  cases o with
  | d y => exact Rp.mono e r
  | loc i => exact r
theorem upS_view_none (a : Option (SV × V)) (b : Option (SV × V)) : upS (view ρ σ a) none (b.map (·.1), b.map (·.2)) = view ρ σ b := by
  funext i
  cases i with
  | none => exact upS_same
  | some i => exact upS_ne (by simp)
/-- the result forgotten -/
theorem EnvR.nox {x : Option (SV × V)} (E : EnvR C B ρ σ x G H) : EnvR C B ρ σ none G H := by
  refine ⟨?_, E.len⟩
  have h := E.fr.drop none none
  rw [show ((none, none) : Slot) = ((none : Option (SV × V)).map (·.1), (none : Option (SV × V)).map (·.2)) from rfl, upS_view_none] at h
  exact h
/-- a result that is data -/
theorem EnvR.res {y : D} (E : EnvR C B ρ σ none G H) (r : Rp C G v y) : EnvR C B ρ σ (some (.d y, v)) G H := by
  refine ⟨?_, E.len⟩
  have h := E.fr.put none r
  rw [show ((some (SV.d y), some v) : Slot) = ((some (SV.d y, v)).map (·.1), (some (SV.d y, v)).map (·.2)) from rfl, upS_view_none] at h
  exact h
theorem EnvR.resOf {y : D} (E : EnvR C B ρ σ (some (.d y, v)) G H) : Rp C G v y := by
  obtain ⟨fp, h1, _⟩ := E.fr.ex
  obtain ⟨w, e, o⟩ := h1 none
  cases e
  exact o.2
/-- a result that is fresh becomes data -/
theorem EnvR.frzRes {s : SV} {y : D} (E : EnvR C B ρ σ (some (s, v)) G H) (h : s.frz = some y) : ∃ G', Same G G' ∧ EnvR C B ρ σ none G' H ∧ Rp C G' v y := by
  have hl : (∃ xs, s = .ol xs ∧ y = .lst xs) ∨ (∃ xs, s = .od xs ∧ y = .dic xs) ∨ (∃ c fs, s = .oi c fs ∧ y = .ins c fs) ∨ s = .d y := by
    cases s with
    | d z => cases h; exact .inr (.inr (.inr rfl))
    | ol z => cases h; exact .inl ⟨_, rfl, rfl⟩
    | od z => cases h; exact .inr (.inl ⟨_, rfl, rfl⟩)
    | dr z => cases h
    | sc z => cases h
    | oi c z => cases h; exact .inr (.inr (.inl ⟨_, _, rfl, rfl⟩))
  obtain ⟨G', a, b, c⟩ := E.fr.freeze (i := none) (s := s) (v := v) rfl hl
  refine ⟨G', a, ⟨?_, E.len⟩, c⟩
  rw [show ((some (SV.d y), some v) : Slot) = ((some (SV.d y, v)).map (·.1), (some (SV.d y, v)).map (·.2)) from rfl, upS_view_none] at b
  exact EnvR.fr (EnvR.nox ⟨b, E.len⟩)
end

/-! ### readings that follow computations -/
def PostE (C : VC) (B : Bd) (W : WX) (σ : L2.St) (G : Hp) (Q : VK) : Rs Ref → Prop
  | .ok (.sv s) ρ => ∀ v G' H', EnvR C B ρ σ (some (s, v)) G' H' → Same G G' → Q v H'
  | .ok (.loc i) ρ => ∀ v G' H', EnvR C B ρ σ none G' H' → Same G G' → σ[i]? = some (some v) → Q v H'
  | .err c ρ => ∀ G' H' Ca, EnvR C B ρ σ none G' H' → C.mg c = some (.ref Ca) → W (.ref Ca) none σ H'
  | .stuck => False
def SndE (C : VC) (W : WX) (t : TE) (m : M Ref) : Prop := ∀ B ρ σ G H Q, EnvR C B ρ σ none G H → PostE C B W σ G Q (m ρ) → t σ H Q
def PostO (C : VC) (B : Bd) (W : WX) (σ : L2.St) (G : Hp) (Q : VK) : Rs Opd → Prop
  | .ok o ρ => ∀ v G' H', EnvR C B ρ σ none G' H' → Same G G' → OpdR C σ G' o v → Q v H'
  | .err c ρ => ∀ G' H' Ca, EnvR C B ρ σ none G' H' → C.mg c = some (.ref Ca) → W (.ref Ca) none σ H'
  | .stuck => False
def SndO (C : VC) (W : WX) (t : TE) (m : M Opd) : Prop := ∀ B ρ σ G H Q, EnvR C B ρ σ none G H → PostO C B W σ G Q (m ρ) → t σ H Q
def PostD (C : VC) (B : Bd) (W : WX) (σ : L2.St) (G : Hp) (Q : VK) : Rs D → Prop
  | .ok x ρ => ∀ v G' H', EnvR C B ρ σ none G' H' → Same G G' → RpS C G' H' v x → Q v H'
  | .err c ρ => ∀ G' H' Ca, EnvR C B ρ σ none G' H' → C.mg c = some (.ref Ca) → W (.ref Ca) none σ H'
  | .stuck => False
def SndD (C : VC) (W : WX) (t : TE) (m : M D) : Prop := ∀ B ρ σ G H Q, EnvR C B ρ σ none G H → PostD C B W σ G Q (m ρ) → t σ H Q
def PostD2 (C : VC) (B : Bd) (W : WX) (σ : L2.St) (G : Hp) (Q : V → V → Hp → Prop) : Rs (D × D) → Prop
  | .ok x ρ => ∀ v w G' H', EnvR C B ρ σ none G' H' → Same G G' → RpS C G' H' v x.1 → RpS C G' H' w x.2 → Q v w H'
  | .err c ρ => ∀ G' H' Ca, EnvR C B ρ σ none G' H' → C.mg c = some (.ref Ca) → W (.ref Ca) none σ H'
  | .stuck => False
def PostT (C : VC) (B : Bd) (W : WX) (σ : L2.St) (G : Hp) (Q : Bool → Hp → Prop) : Rs Bool → Prop
  | .ok b ρ => ∀ G' H', EnvR C B ρ σ none G' H' → Same G G' → Q b H'
  | .err c ρ => ∀ G' H' Ca, EnvR C B ρ σ none G' H' → C.mg c = some (.ref Ca) → W (.ref Ca) none σ H'
  | .stuck => False
def SndT (C : VC) (W : WX) (t : TT) (m : M Bool) : Prop := ∀ B ρ σ G H Q, EnvR C B ρ σ none G H → PostT C B W σ G Q (m ρ) → t σ H Q

section
variable {C : VC} {W : WX} {ta tb : TE} {a b : M Ref}
theorem SndE.o (h : SndE C W ta a) : SndO C W ta (opd a) := by
  intro B ρ σ G H Q E P
  refine h B ρ σ G H Q E ?_
  unfold opd at P
  rw [mbind] at P
  cases q : a ρ with
  | stuck => rw [q] at P; exact P
  | err c ρ' => rw [q] at P; exact P
  | ok r ρ' =>
    rw [q, bind_ok] at P
    cases r with
    | loc i => exact P
    | sv s =>
      intro v G' H' E' S'
      dsimp only at P
      cases q2 : s.frz with
      | none => rw [q2] at P; exact P.elim
      | some x =>
        rw [q2] at P
        obtain ⟨G2, S2, E2, r⟩ := E'.frzRes q2
        exact P v G2 H' E2 (S'.trans S2) r
theorem SndO.d {m : M Opd} (h : SndO C W ta m) : SndD C W ta (M.bind m look) := by
  intro B ρ σ G H Q E P
  refine h B ρ σ G H Q E ?_
  rw [mbind] at P
  cases q : m ρ with
  | stuck => rw [q] at P; exact P
  | err c ρ' => rw [q] at P; exact P
  | ok o ρ' =>
    rw [q, bind_ok] at P
    intro v G' H' E' S' r
    unfold look at P
    cases q2 : vwO ρ' o with
    | none => rw [q2] at P; exact P.elim
    | some x =>
      rw [q2] at P
      exact P v G' H' E' S' (vw_rp E' r q2)
theorem SndE.v (h : SndE C W ta a) : SndD C W ta (val a) := h.o.d
/-- two operands, both looked at behind the second -/
theorem SndE.two (ha : SndE C W ta a) (hb : SndE C W tb b) {B : Bd} {ρ : En} {σ : L2.St} {G H : Hp} {Q : V → V → Hp → Prop} (E : EnvR C B ρ σ none G H) (P : PostD2 C B W σ G Q (val2 a b ρ)) :
    ta σ H fun x H1 => tb σ H1 fun y H2 => Q x y H2 := by
  refine ha.o B ρ σ G H _ E ?_
  unfold val2 at P
  rw [mbind] at P
  cases q : opd a ρ with
  | stuck => rw [q] at P; exact P
  | err c ρ' => rw [q] at P; exact P
  | ok o ρ1 =>
    rw [q, bind_ok, mbind] at P
    intro v G1 H1 E1 S1 r1
    refine hb.o B ρ1 σ G1 H1 _ E1 ?_
    cases q2 : opd b ρ1 with
    | stuck => rw [q2] at P; exact P
    | err c ρ' => rw [q2] at P; exact P
    | ok o2 ρ2 =>
      rw [q2, bind_ok, mbind] at P
      intro w G2 H2 E2 S2 r2
      unfold look at P
      cases q3 : vwO ρ2 o with
      | none => rw [q3] at P; exact P.elim
      | some x =>
        rw [q3] at P
        simp only [mopt_some, mret, bind_ok, mbind] at P
        cases q4 : vwO ρ2 o2 with
        | none => rw [q4] at P; exact P.elim
        | some y =>
          rw [q4] at P
          simp only [mopt_some, mret, bind_ok] at P
          exact P v w G2 H2 E2 (S1.trans S2) (vw_rp E2 (r1.mono S2) q3) (vw_rp E2 r2 q4)
end

/-! ### scalars -/
inductive Sc where
  | non | bl (b : Bool) | int (i : Int) | str (x : Str)
def Sc.d : Sc → D
  | .non => .non | .bl b => .bl b | .int i => .int i | .str x => .str x
def Sc.v : Sc → V
  | .non => .non | .bl b => .bl b | .int i => .int i | .str x => .str x
theorem Sc.rp {C : VC} {G : Hp} (s : Sc) : Rp C G s.v s.d := by
  cases s with
  | non => exact .non
  | bl b => exact .bl b
  | int i => exact .int i
  | str x => exact .str x
@[simp] theorem sc_non : Sc.non.d = .non := (rfl)
@[simp] theorem sc_bl (b : Bool) : (Sc.bl b).d = .bl b := (rfl)
@[simp] theorem sc_int (b : Int) : (Sc.int b).d = .int b := (rfl)
@[simp] theorem sc_str (b : Str) : (Sc.str b).d = .str b := (rfl)
def rSc (s : Sc) : Ref := .sv (.d s.d)

/-- an expression in a context, its reading, what it computes -/
structure SE (C : VC) (X : Cx) (W : WX) (e : Expr) (t : TE) (m : M Ref) : Prop where
  pe : PE X e t
  snd : SndE C W t m
structure ST (C : VC) (X : Cx) (W : WX) (e : Expr) (t : TT) (m : M Bool) : Prop where
  pt : PT X e t
  snd : SndT C W t m
structure SW (C : VC) (X : Cx) (W : WX) (e : Expr) (t : TT) (m : M Bool) : Prop where
  pw : PW X e t
  snd : SndT C W t m

section
variable {C : VC} {X : Cx} {W : WX} {e a b c : Expr} {ta tb tc : TE} {ma mb mc : M Ref} {pos : Pos}
theorem snd_const {C : VC} (s : Sc) : SndE C W (tC s.v) (M.ret (rSc s)) := by
  intro B ρ σ G H Q E P
  exact P _ G H (E.res s.rp) (Same.refl _)
theorem se_int {i : Int} {j} : SE C X W (.Constant (.int i) j pos) (tC (.int i)) (M.ret (rSc (.int i))) := ⟨pe_int, snd_const (.int i)⟩
theorem se_bl {i : Bool} {j} : SE C X W (.Constant (.bool i) j pos) (tC (.bl i)) (M.ret (rSc (.bl i))) := ⟨pe_bl, snd_const (.bl i)⟩
theorem se_non {j} : SE C X W (.Constant .none j pos) (tC .non) (M.ret (rSc .non)) := ⟨pe_non, snd_const .non⟩
theorem se_str {i : Str} {j} : SE C X W (.Constant (.str i) j pos) (tC (.str i)) (M.ret (rSc (.str i))) := ⟨pe_str, snd_const (.str i)⟩
/-- a name of the def -/
def mVar (i : Nat) : M Ref := fun ρ => match ρ.getD i none with
  | some _ => .ok (.loc i) ρ
  | none => .stuck
theorem se_var (i : Nat) {x : Str} (h : PE X (.Name x pos) (tVar i)) : SE C X W (.Name x pos) (tVar i) (mVar i) := by
  refine ⟨h, fun B ρ σ G H Q E P => ?_⟩
  unfold mVar at P
  cases q : ρ.getD i none with
  | none => rw [q] at P; exact P.elim
  | some s =>
    rw [q] at P
    obtain ⟨v, e1, _⟩ := E.slot q
    exact ⟨v, e1, P v G H E (Same.refl _) e1⟩

/-- what an operation gives: a scalar, a new list, a new tuple, a thing that was there -/
inductive Rv where
  | sc (s : Sc) | nl (xs : List D) | nt (xs : List D) | it (x : D)
def Rv.ref : Rv → Ref
  | .sc s => .sv (.d s.d)
  | .nl xs => .sv (.ol xs)
  | .nt xs => .sv (.d (.tup xs))
  | .it x => .sv (.d x)
@[simp] theorem rv_sc (s : Sc) : (Rv.sc s).ref = .sv (.d s.d) := (rfl)
@[simp] theorem rv_nl (xs : List D) : (Rv.nl xs).ref = .sv (.ol xs) := (rfl)
@[simp] theorem rv_nt (xs : List D) : (Rv.nt xs).ref = .sv (.d (.tup xs)) := (rfl)
@[simp] theorem rv_it (x : D) : (Rv.it x).ref = .sv (.d x) := (rfl)
def Fin (C : VC) (G H : Hp) (Q : VK) : Rv → Prop
  | .sc s => Q s.v H
  | .nl xs => ∀ vs p, RpL C G vs xs → H p = none → Q (.ref p) (upd H p (.lst vs))
  | .nt xs => ∀ vs p, RpL C G vs xs → H p = none → Q (.ref p) (upd H p (.tup vs))
  | .it x => ∀ v, Rp C G v x → Q v H
theorem EnvR.newL {C : VC} {B : Bd} {ρ : En} {σ : L2.St} {G H : Hp} {p : Addr} {vs : List V} {xs : List D} (E : EnvR C B ρ σ none G H) (hp : H p = none) (r : RpL C G vs xs) : EnvR C B ρ σ (some (.ol xs, .ref p)) G (upd H p (.lst vs)) := by
  refine ⟨?_, E.len⟩
  have h := E.fr.layOwn (o := .lst vs) hp ⟨(fun _ z => nomatch z), fun _ z => nomatch z⟩ none (s := .ol xs) (v := .ref p) ⟨p, vs, rfl, rfl, upd_same, r⟩
  rw [show ((some (SV.ol xs), some (V.ref p)) : Slot) = ((some (SV.ol xs, V.ref p)).map (·.1), (some (SV.ol xs, V.ref p)).map (·.2)) from rfl, upS_view_none] at h
  exact h
theorem EnvR.newD {C : VC} {B : Bd} {ρ : En} {σ : L2.St} {G H : Hp} {p : Addr} {vs : List (Key × V)} {xs : List (Key × D)} (E : EnvR C B ρ σ none G H) (hp : H p = none) (r : RpK C G vs xs) : EnvR C B ρ σ (some (.od xs, .ref p)) G (upd H p (.dK vs)) := by
  refine ⟨?_, E.len⟩
  have h := E.fr.layOwn (o := .dK vs) hp ⟨(fun _ z => nomatch z), fun _ z => nomatch z⟩ none (s := .od xs) (v := .ref p) ⟨p, vs, rfl, rfl, upd_same, r⟩
  rw [show ((some (SV.od xs), some (V.ref p)) : Slot) = ((some (SV.od xs, V.ref p)).map (·.1), (some (SV.od xs, V.ref p)).map (·.2)) from rfl, upS_view_none] at h
  exact h
theorem EnvR.newT {C : VC} {B : Bd} {ρ : En} {σ : L2.St} {G H : Hp} {p : Addr} {vs : List V} {xs : List D} (E : EnvR C B ρ σ none G H) (hp : H p = none) (r : RpL C G vs xs) : EnvR C B ρ σ (some (.d (.tup xs), .ref p)) (upd G p (.tup vs)) (upd H p (.tup vs)) ∧ Same G (upd G p (.tup vs)) := by
  have hg : G p = none := E.fr.gh.free hp
  have E2 : EnvR C B ρ σ none (upd G p (.tup vs)) (upd H p (.tup vs)) := ⟨E.fr.lay hp (fun _ z => nomatch z), E.len⟩
  exact ⟨E2.res (.tup (.of upd_same) (r.mono (same_up hg))), same_up hg⟩
theorem fin_of {C : VC} {B : Bd} {ρ : En} {σ : L2.St} {G G1 H1 : Hp} {Q : VK} {r : Rv} (E1 : EnvR C B ρ σ none G1 H1) (S1 : Same G G1) (P : PostE C B W σ G Q (.ok r.ref ρ)) : Fin C G1 H1 Q r := by
  cases r with
  | sc s => exact P _ G1 H1 (E1.res s.rp) S1
  | nl xs => exact fun vs p r hp => P _ G1 _ (E1.newL hp r) S1
  | nt xs => exact fun vs p r hp => P _ _ _ (E1.newT hp r).1 (S1.trans (E1.newT hp r).2)
  | it x => exact fun v r => P v G1 H1 (E1.res r) S1

/-- an operation of two values -/
def mBin (f : D → D → Option Rv) (a b : M Ref) : M Ref := M.bind (val2 a b) fun p => M.bind (M.opt (f p.1 p.2)) fun r => M.ret r.ref
def RuleB (C : VC) (rr : R2) (f : D → D → Option Rv) : Prop := ∀ G H v w x y r Q, Same G H → RpS C G H v x → RpS C G H w y → f x y = some r → Fin C G H Q r → rr v w H Q
theorem snd_bin {C : VC} {rr : R2} {f : D → D → Option Rv} (hr : RuleB C rr f) (ha : SndE C W ta ma) (hb : SndE C W tb mb) : SndE C W (tOp rr ta tb) (mBin f ma mb) := by
  intro B ρ σ G H Q E P
  refine SndE.two (Q := fun x y H2 => rr x y H2 Q) ha hb E ?_
  unfold mBin at P
  rw [mbind] at P
  cases q : val2 ma mb ρ with
  | stuck => rw [q] at P; exact P
  | err c ρ' => rw [q] at P; exact P
  | ok p ρ1 =>
    rw [q, bind_ok, mbind] at P
    intro v w G1 H1 E1 S1 r1 r2
    cases q2 : f p.1 p.2 with
    | none => rw [q2] at P; exact P.elim
    | some s =>
      rw [q2] at P
      exact hr G1 H1 v w _ _ s Q E1.fr.gh r1 r2 q2 (fin_of E1 S1 P)
theorem se_bin {op : Operator} {rr : R2} {f : D → D → Option Rv} (ho : OpR X (binaryOp op) rr) (hr : RuleB C rr f) (ha : SE C X W a ta ma) (hb : SE C X W b tb mb) :
    SE C X W (.BinOp a op b pos) (tOp rr ta tb) (mBin f ma mb) := ⟨pe_op ho ha.pe hb.pe, snd_bin hr ha.snd hb.snd⟩
theorem se_cmp {op : CmpOp} {rr : R2} {f : D → D → Option Rv} (ho : OpR X (compareOp op) rr) (hr : RuleB C rr f) (ha : SE C X W a ta ma) (hb : SE C X W b tb mb) (hm : behindInMarks op b = false) :
    SE C X W (.Compare a [op] [b] pos) (tOp rr ta tb) (mBin f ma mb) := ⟨pe_cmpR ho ha.pe hb.pe hm, snd_bin hr ha.snd hb.snd⟩
/-- a subscript -/
theorem se_ix {rr : R2} {f : D → D → Option Rv} (ho : IxR X rr) (hr : RuleB C rr f) (ha : SE C X W a ta ma) (hb : SE C X W b tb mb) (hs : PlainIx b) :
    SE C X W (.Subscript a b pos) (tOp rr ta tb) (mBin f ma mb) := ⟨pe_ix ho ha.pe hb.pe hs, snd_bin hr ha.snd hb.snd⟩
/-- a value that is True or False -/
def mB (m : M Ref) : M Bool := M.bind (val m) fun x => match x with
  | .bl b => M.ret b
  | _ => fun _ => .stuck
theorem snd_test {C : VC} (ha : SndE C W ta ma) : SndT C W (tTest ta) (mB ma) := by
  intro B ρ σ G H Q E P
  refine ha.v B ρ σ G H _ E ?_
  unfold mB at P
  rw [mbind] at P
  cases q : val ma ρ with
  | stuck => rw [q] at P; exact P
  | err c ρ' => rw [q] at P; exact P
  | ok x ρ1 =>
    rw [q, bind_ok] at P
    intro v G1 H1 E1 S1 r1
    cases x with
    | bl b =>
      cases (show Rp _ G1 v (.bl b) from r1)
      exact ⟨b, rfl, P G1 H1 E1 S1⟩
    | _ => exact P.elim
theorem st_val (h : SE C X W e ta ma) (he : ∀ whole, isTrue e X.env whole = (do let v ← whole; standAt e.pos; holding [v] (truthy v)) := by intro _; rfl) : ST C X W e (tTest ta) (mB ma) :=
  ⟨pt_val h.pe he, snd_test h.snd⟩
theorem st_cmp {op : CmpOp} {rr : R2} {f : D → D → Option Rv} (ho : OpR X (compareOp op) rr) (hr : RuleB C rr f) (ha : SE C X W a ta ma) (hb : SE C X W b tb mb) (hm : behindInMarks op b = false) :
    ST C X W (.Compare a [op] [b] pos) (tTest (tOp rr ta tb)) (mB (mBin f ma mb)) := ⟨pt_cmpR ho ha.pe hb.pe hm, snd_test (snd_bin hr ha.snd hb.snd)⟩

/-! ### and, or, not -/
def mAndT (a b : M Bool) : M Bool := M.bind a fun c => if c = true then b else M.ret false
def mOrT (a b : M Bool) : M Bool := M.bind a fun c => if c = true then M.ret true else b
def mNotT (a : M Bool) : M Bool := M.bind a fun c => M.ret (!c)
variable {ua ub : TT} {na nb : M Bool}
theorem snd_and {C : VC} (ha : SndT C W ua na) (hb : SndT C W ub nb) : SndT C W (tAnd ua ub) (mAndT na nb) := by
  intro B ρ σ G H Q E P
  refine ha B ρ σ G H _ E ?_
  unfold mAndT at P
  rw [mbind] at P
  cases q : na ρ with
  | stuck => rw [q] at P; exact P
  | err c ρ' => rw [q] at P; exact P
  | ok x ρ1 =>
    rw [q, bind_ok] at P
    intro G1 H1 E1 S1
    cases x with
    | true =>
      rw [if_pos rfl] at P ⊢
      refine hb B ρ1 σ G1 H1 Q E1 ?_
      cases q2 : nb ρ1 with
      | stuck => rw [q2] at P; exact P
      | err c ρ' => rw [q2] at P; exact P
      | ok y ρ2 => rw [q2] at P; exact fun G2 H2 E2 S2 => P G2 H2 E2 (S1.trans S2)
    | false =>
      rw [if_neg Bool.false_ne_true] at P ⊢
      exact P G1 H1 E1 S1
theorem snd_or {C : VC} (ha : SndT C W ua na) (hb : SndT C W ub nb) : SndT C W (tOr ua ub) (mOrT na nb) := by
  intro B ρ σ G H Q E P
  refine ha B ρ σ G H _ E ?_
  unfold mOrT at P
  rw [mbind] at P
  cases q : na ρ with
  | stuck => rw [q] at P; exact P
  | err c ρ' => rw [q] at P; exact P
  | ok x ρ1 =>
    rw [q, bind_ok] at P
    intro G1 H1 E1 S1
    cases x with
    | false =>
      rw [if_neg Bool.false_ne_true] at P ⊢
      refine hb B ρ1 σ G1 H1 Q E1 ?_
      cases q2 : nb ρ1 with
      | stuck => rw [q2] at P; exact P
      | err c ρ' => rw [q2] at P; exact P
      | ok y ρ2 => rw [q2] at P; exact fun G2 H2 E2 S2 => P G2 H2 E2 (S1.trans S2)
    | true =>
      rw [if_pos rfl] at P ⊢
      exact P G1 H1 E1 S1
theorem snd_not {C : VC} (ha : SndT C W ua na) : SndT C W (tNot ua) (mNotT na) := by
  intro B ρ σ G H Q E P
  refine ha B ρ σ G H _ E ?_
  unfold mNotT at P
  rw [mbind] at P
  cases q : na ρ with
  | stuck => rw [q] at P; exact P
  | err c ρ' => rw [q] at P; exact P
  | ok x ρ1 => rw [q, bind_ok] at P; exact P
variable {rest : List Expr}
theorem sw_and1 (ha : ST C X W a ua na) : SW C X W (.BoolOp .And [a] pos) ua na := ⟨pw_and1 ha.pt, ha.snd⟩
theorem sw_or1 (ha : ST C X W a ua na) : SW C X W (.BoolOp .Or [a] pos) ua na := ⟨pw_or1 ha.pt, ha.snd⟩
theorem sw_and (ha : ST C X W a ua na) (hb : SW C X W (.BoolOp .And (b :: rest) pos) ub nb) : SW C X W (.BoolOp .And (a :: b :: rest) pos) (tAnd ua ub) (mAndT na nb) := ⟨pw_and ha.pt hb.pw, snd_and ha.snd hb.snd⟩
theorem sw_or (ha : ST C X W a ua na) (hb : SW C X W (.BoolOp .Or (b :: rest) pos) ub nb) : SW C X W (.BoolOp .Or (a :: b :: rest) pos) (tOr ua ub) (mOrT na nb) := ⟨pw_or ha.pt hb.pw, snd_or ha.snd hb.snd⟩
theorem SW.t (h : SW C X W e ua na) : ST C X W e ua na := ⟨h.pw.pt, h.snd⟩
theorem st_not (ha : ST C X W a ua na) : ST C X W (.UnaryOp .Not a pos) (tNot ua) (mNotT na) := ⟨pt_not ha.pt, snd_not ha.snd⟩
/-- .. as values: all but the last True or False -/
def mAndV (a b : M Ref) : M Ref := M.bind (mB a) fun c => if c = true then b else M.ret (rSc (.bl false))
def mOrV (a b : M Ref) : M Ref := M.bind (mB a) fun c => if c = true then M.ret (rSc (.bl true)) else b
def mNotV (a : M Ref) : M Ref := M.bind (mB a) fun c => M.ret (rSc (.bl (!c)))
theorem PostE.same {C : VC} {B : Bd} {σ : L2.St} {G G1 : Hp} {Q : VK} {r : Rs Ref} (P : PostE C B W σ G Q r) (S : Same G G1) : PostE C B W σ G1 Q r := by
  cases r with
  | stuck => exact P
  | err c ρ => exact P
  | ok x ρ =>
    cases x with
    | sv s => exact fun v G' H' E S' => P v G' H' E (S.trans S')
    | loc i => exact fun v G' H' E S' => P v G' H' E (S.trans S')
theorem snd_andV {C : VC} (ha : SndE C W ta ma) (hb : SndE C W tb mb) : SndE C W (tAndV ta tb) (mAndV ma mb) := by
  intro B ρ σ G H Q E P
  refine (snd_test ha) B ρ σ G H (fun c H1 => if c = true then tb σ H1 Q else Q (.bl false) H1) E ?_
  unfold mAndV at P
  rw [mbind] at P
  cases q : mB ma ρ with
  | stuck => rw [q] at P; exact P
  | err c ρ' => rw [q] at P; exact P
  | ok x ρ1 =>
    rw [q, bind_ok] at P
    intro G1 H1 E1 S1
    cases x with
    | true =>
      rw [if_pos rfl] at P ⊢
      exact hb B ρ1 σ G1 H1 Q E1 (P.same S1)
    | false =>
      rw [if_neg Bool.false_ne_true] at P ⊢
      exact P _ G1 H1 (E1.res (Sc.rp (.bl false))) S1
theorem snd_orV {C : VC} (ha : SndE C W ta ma) (hb : SndE C W tb mb) : SndE C W (tOrV ta tb) (mOrV ma mb) := by
  intro B ρ σ G H Q E P
  refine (snd_test ha) B ρ σ G H (fun c H1 => if c = true then Q (.bl true) H1 else tb σ H1 Q) E ?_
  unfold mOrV at P
  rw [mbind] at P
  cases q : mB ma ρ with
  | stuck => rw [q] at P; exact P
  | err c ρ' => rw [q] at P; exact P
  | ok x ρ1 =>
    rw [q, bind_ok] at P
    intro G1 H1 E1 S1
    cases x with
    | false =>
      rw [if_neg Bool.false_ne_true] at P ⊢
      exact hb B ρ1 σ G1 H1 Q E1 (P.same S1)
    | true =>
      rw [if_pos rfl] at P ⊢
      exact P _ G1 H1 (E1.res (Sc.rp (.bl true))) S1
theorem snd_notV {C : VC} (ha : SndE C W ta ma) : SndE C W (tNotV ta) (mNotV ma) := by
  intro B ρ σ G H Q E P
  refine (snd_test ha) B ρ σ G H (fun c H1 => Q (.bl (!c)) H1) E ?_
  unfold mNotV at P
  rw [mbind] at P
  cases q : mB ma ρ with
  | stuck => rw [q] at P; exact P
  | err c ρ' => rw [q] at P; exact P
  | ok x ρ1 =>
    rw [q, bind_ok] at P
    exact fun G1 H1 E1 S1 => P _ G1 H1 (E1.res (Sc.rp (.bl (!x)))) S1
theorem se_one {op} (ha : SE C X W a ta ma) : SE C X W (.BoolOp op [a] pos) ta ma := ⟨pe_one ha.pe, ha.snd⟩
theorem se_and (ha : SE C X W a ta ma) (hb : SE C X W (.BoolOp .And (b :: rest) pos) tb mb) : SE C X W (.BoolOp .And (a :: b :: rest) pos) (tAndV ta tb) (mAndV ma mb) := ⟨pe_and ha.pe hb.pe, snd_andV ha.snd hb.snd⟩
theorem se_or (ha : SE C X W a ta ma) (hb : SE C X W (.BoolOp .Or (b :: rest) pos) tb mb) : SE C X W (.BoolOp .Or (a :: b :: rest) pos) (tOrV ta tb) (mOrV ma mb) := ⟨pe_or ha.pe hb.pe, snd_orV ha.snd hb.snd⟩
theorem se_not (ha : SE C X W a ta ma) : SE C X W (.UnaryOp .Not a pos) (tNotV ta) (mNotV ma) := ⟨pe_not ha.pe, snd_notV ha.snd⟩
/-- a if c else b -/
def mIfE (c : M Bool) (a b : M Ref) : M Ref := M.bind c fun k => if k = true then a else b
theorem snd_ifE {C : VC} (hc : SndT C W ua na) (ha : SndE C W ta ma) (hb : SndE C W tb mb) : SndE C W (tIf ua ta tb) (mIfE na ma mb) := by
  intro B ρ σ G H Q E P
  refine hc B ρ σ G H _ E ?_
  unfold mIfE at P
  rw [mbind] at P
  cases q : na ρ with
  | stuck => rw [q] at P; exact P
  | err c ρ' => rw [q] at P; exact P
  | ok x ρ1 =>
    rw [q, bind_ok] at P
    intro G1 H1 E1 S1
    cases x with
    | true =>
      rw [if_pos rfl] at P ⊢
      exact ha B ρ1 σ G1 H1 Q E1 (P.same S1)
    | false =>
      rw [if_neg Bool.false_ne_true] at P ⊢
      exact hb B ρ1 σ G1 H1 Q E1 (P.same S1)
theorem se_ifE (hc : ST C X W c ua na) (ha : SE C X W a ta ma) (hb : SE C X W b tb mb) : SE C X W (.IfExp c a b pos) (tIf ua ta tb) (mIfE na ma mb) := ⟨pe_ifExp hc.pt ha.pe hb.pe, snd_ifE hc.snd ha.snd hb.snd⟩
end
end VS

/-! VS3: statements. -/
namespace VS
open PySem PySem.Spec PyProof.Rows L2

inductive Fl where
  | nx | bk | ct | rt (s : SV)

def PinOk (P : List Nat) (B : Bd) (σ : L2.St) : Prop := ∀ j ∈ P, σ[j]? = some (some (B.pv j))
def PostS (C : VC) (B : Bd) (P : List Nat) (W : WX) (G : Hp) (D : Ends) : Rs Fl → Prop
  | .ok .nx ρ => ∀ σ' G' H', EnvR C B ρ σ' none G' H' → Same G G' → PinOk P B σ' → D.nx σ' H'
  | .ok .bk ρ => ∀ σ' G' H', EnvR C B ρ σ' none G' H' → Same G G' → PinOk P B σ' → D.bk σ' H'
  | .ok .ct ρ => ∀ σ' G' H', EnvR C B ρ σ' none G' H' → Same G G' → PinOk P B σ' → D.ct σ' H'
  | .ok (.rt s) ρ => ∀ v σ' G' H', EnvR C B ρ σ' (some (s, v)) G' H' → Same G G' → PinOk P B σ' → D.rt v H'
  | .err c ρ => ∀ σ' G' H' Ca, EnvR C B ρ σ' none G' H' → PinOk P B σ' → C.mg c = some (.ref Ca) → W (.ref Ca) none σ' H'
  | .stuck => False
def SndS (C : VC) (P : List Nat) (W : WX) (t : TS) (m : M Fl) : Prop := ∀ B ρ σ G H D, EnvR C B ρ σ none G H → PinOk P B σ → PostS C B P W G D (m ρ) → t D σ H
theorem PostS.same {C : VC} {B : Bd} {P : List Nat} {W : WX} {G G1 : Hp} {D : Ends} {r : Rs Fl} (h : PostS C B P W G D r) (S : Same G G1) : PostS C B P W G1 D r := by
  cases r with
  | stuck => exact h
  | err c ρ => exact h
  | ok f ρ =>
    cases f with
    | nx => exact fun σ' G' H' E S' => h σ' G' H' E (S.trans S')
    | bk => exact fun σ' G' H' E S' => h σ' G' H' E (S.trans S')
    | ct => exact fun σ' G' H' E S' => h σ' G' H' E (S.trans S')
    | rt s => exact fun v σ' G' H' E S' => h v σ' G' H' E (S.trans S')

structure S1 (C : VC) (P : List Nat) (X : Cx) (W : WX) (st : Stmt) (t : TS) (m : M Fl) : Prop where
  ps : PS X st t
  snd : SndS C P W t m
structure SS (C : VC) (P : List Nat) (X : Cx) (W : WX) (st : List Stmt) (t : TS) (m : M Fl) : Prop where
  ps : PSs X st t
  snd : SndS C P W t m

theorem getD_set_eq {α : Type} {l : List (Option α)} {i : Nat} {a : Option α} (h : i < l.length) : (l.set i a).getD i none = a := by
  rw [List.getD_eq_getElem?_getD, List.getElem?_set_self h]
  rfl
theorem getD_set_ne {α : Type} {l : List (Option α)} {i j : Nat} {a : Option α} (h : j ≠ i) : (l.set i a).getD j none = l.getD j none := by
  rw [List.getD_eq_getElem?_getD, List.getElem?_set_ne (Ne.symm h), List.getD_eq_getElem?_getD]

section
variable {C : VC} {B : Bd} {P : List Nat} {W : WX} {ρ : En} {σ : L2.St} {G H : Hp} {v : V} {s : SV}
theorem view_set {x : Option (SV × V)} {i : Nat} {a : Option SV} {b : Option V} (h1 : i < ρ.length) (h2 : i < σ.length) : view (ρ.set i a) (σ.set i b) x = upS (view ρ σ x) (some i) (a, b) := by
  funext j
  cases j with
  | none => exact (upS_ne (by simp)).symm
  | some j =>
    by_cases hj : j = i
    · subst hj
      rw [upS_same]
      show ((ρ.set j a).getD j none, (σ.set j b).getD j none) = _
      rw [getD_set_eq h1, getD_set_eq h2]
    · rw [upS_ne (by simpa using hj)]
      show ((ρ.set i a).getD j none, (σ.set i b).getD j none) = _
      rw [getD_set_ne hj, getD_set_ne hj] <;> rfl
theorem view_set1 {x : Option (SV × V)} {i : Nat} {a : Option SV} {b : Option V} (h1 : i < ρ.length) (h2 : σ.getD i none = b) : view (ρ.set i a) σ x = upS (view ρ σ x) (some i) (a, b) := by
  funext j
  cases j with
  | none => exact (upS_ne (by simp)).symm
  | some j =>
    by_cases hj : j = i
    · subst hj
      rw [upS_same]
      show ((ρ.set j a).getD j none, σ.getD j none) = _
      rw [getD_set_eq h1, h2]
    · rw [upS_ne (by simpa using hj)]
      show ((ρ.set i a).getD j none, σ.getD j none) = _
      rw [getD_set_ne hj] <;> rfl
/-- the result is stored in slot i -/
theorem EnvR.store (E : EnvR C B ρ σ (some (s, v)) G H) (i : Nat) : EnvR C B (ρ.set i (some s)) (σ.set i (some v)) none G H := by
  refine ⟨?_, by simp [E.len]⟩
  by_cases h : i < ρ.length
  · have h2 : i < σ.length := by rw [← E.len]; exact h
    have m := E.fr.move (some i) none (by simp) none
    rw [view_set h h2]
    have e : upS (upS (view ρ σ (some (s, v))) (some i) (view ρ σ (some (s, v)) none)) none (none, none) = upS (view ρ σ none) (some i) (some s, some v) := by
      funext j
      cases j with
      | none => rw [upS_same, upS_ne (by simp)] <;> rfl
      | some j =>
        rw [upS_ne (by simp)]
        by_cases hj : j = i
        · subst hj
          rw [upS_same, upS_same] <;> rfl
        · rw [upS_ne (by simpa using hj), upS_ne (by simpa using hj)] <;> rfl
    rw [e] at m
    exact m
  · have h2 : ¬ i < σ.length := by rw [← E.len]; exact h
    rw [List.set_eq_of_length_le (by omega), List.set_eq_of_length_le (by omega)]
    exact E.nox.fr
/-- slot i's thing is the result, the slot is empty -/
theorem EnvR.take {i : Nat} (E : EnvR C B ρ σ none G H) (hi : ρ.getD i none = some s) (hv : σ[i]? = some (some v)) : EnvR C B (ρ.set i none) σ (some (s, v)) G H := by
  refine ⟨?_, by simp [E.len]⟩
  have h1 : i < ρ.length := by
    by_cases h : i < ρ.length
    · exact h
    · rw [List.getD_eq_getElem?_getD, List.getElem?_eq_none (by omega)] at hi
      cases hi
  have hs : σ.getD i none = some v := by
    rw [List.getD_eq_getElem?_getD, hv] <;> rfl
  have m := E.fr.move none (some i) (by simp) (some v)
  rw [view_set1 h1 hs]
  have e : upS (upS (view ρ σ none) none (view ρ σ none (some i))) (some i) (none, some v) = upS (view ρ σ (some (s, v))) (some i) (none, some v) := by
    funext j
    by_cases hj : j = some i
    · rw [hj, upS_same, upS_same]
    · rw [upS_ne hj, upS_ne hj]
      cases j with
      | none =>
        rw [upS_same]
        show (ρ.getD i none, σ.getD i none) = (some s, some v)
        rw [hi, hs]
      | some j => exact upS_ne (by simp)
  rw [e] at m
  exact m
/-- slot i's thing becomes data -/
theorem EnvR.frz {i : Nat} {x : D} (E : EnvR C B ρ σ none G H) (hi : ρ.getD i none = some s) (hx : s.frz = some x) (hv : σ[i]? = some (some v)) : ∃ G', Same G G' ∧ EnvR C B (ρ.set i (some (.d x))) σ none G' H ∧ Rp C G' v x := by
  obtain ⟨G', S, E2, r⟩ := (E.take hi hv).frzRes hx
  refine ⟨G', S, ?_, r⟩
  have E3 := (E2.res r).store i
  have e1 : (ρ.set i none).set i (some (SV.d x)) = ρ.set i (some (.d x)) := List.set_set ..
  have e2 : σ.set i (some v) = σ := by
    apply List.ext_getElem?
    intro j
    by_cases hj : i = j
    · subst hj
      rw [List.getElem?_set_self (by
        rcases List.getElem?_eq_some_iff.mp hv with ⟨h, _⟩
        exact h), hv]
    · rw [List.getElem?_set_ne hj]
  rw [e1, e2] at E3
  exact E3
theorem PinOk.set {i : Nat} {x : Option V} (p : PinOk P B σ) (hi : i ∉ P) : PinOk P B (σ.set i x) := fun j hj => by
  have hne : i ≠ j := fun z => hi (z ▸ hj)
  rw [List.getElem?_set_ne hne]
  exact p j hj
end

/-! ### sequences -/
def mSeq (a b : M Fl) : M Fl := M.bind a fun f => match f with
  | .nx => b
  | f => M.ret f
section
variable {C : VC} {P : List Nat} {X : Cx} {W : WX} {st : Stmt} {rest : List Stmt} {t u : TS} {m n : M Fl} {pos : Pos} {e : Expr} {te : TE} {me : M Ref}
theorem snd_seq {C : VC} (h1 : SndS C P W t m) (h2 : SndS C P W u n) : SndS C P W (tSeq t u) (mSeq m n) := by
  intro B ρ σ G H D E pn Q
  refine h1 B ρ σ G H _ E pn ?_
  unfold mSeq at Q
  rw [mbind] at Q
  cases q : m ρ with
  | stuck => rw [q] at Q; exact Q
  | err c ρ' => rw [q] at Q; exact Q
  | ok f ρ1 =>
    rw [q, bind_ok] at Q
    cases f with
    | nx => exact fun σ1 G1 H1 E1 S1 p1 => h2 B ρ1 σ1 G1 H1 D E1 p1 (Q.same S1)
    | bk => exact Q
    | ct => exact Q
    | rt s => exact Q
theorem snd_nx {C : VC} : SndS C P W tNext (M.ret .nx) := fun B ρ σ G H D E pn Q => Q σ G H E (Same.refl _) pn
theorem ss_nil : SS C P X W [] tNext (M.ret .nx) := ⟨pss_nil, snd_nx⟩
theorem ss_cons (h1 : S1 C P X W st t m) (h2 : SS C P X W rest u n) : SS C P X W (st :: rest) (tSeq t u) (mSeq m n) := ⟨pss_cons h1.ps h2.ps, snd_seq h1.snd h2.snd⟩
theorem ss_one (h1 : S1 C P X W st t m) : SS C P X W [st] t m := ⟨pss_one h1.ps, h1.snd⟩
theorem s_pass : S1 C P X W (.Pass pos) tNext (M.ret .nx) := ⟨ps_pass, snd_nx⟩
theorem s_break : S1 C P X W (.Break pos) tBreak (M.ret .bk) := ⟨ps_break, fun B ρ σ G H D E pn Q => Q σ G H E (Same.refl _) pn⟩
theorem s_continue : S1 C P X W (.Continue pos) tCont (M.ret .ct) := ⟨ps_continue, fun B ρ σ G H D E pn Q => Q σ G H E (Same.refl _) pn⟩
/-- an expression alone -/
def mDrop (a : M Ref) : M Fl := M.bind a fun _ => M.ret .nx
theorem snd_drop {C : VC} (h : SndE C W te me) : SndS C P W (tDrop te) (mDrop me) := by
  intro B ρ σ G H D E pn Q
  refine h B ρ σ G H _ E ?_
  unfold mDrop at Q
  rw [mbind] at Q
  cases q : me ρ with
  | stuck => rw [q] at Q; exact Q
  | err c ρ' => rw [q] at Q; exact fun G' H' Ca E' hc => Q σ G' H' Ca E' pn hc
  | ok r ρ1 =>
    rw [q, bind_ok] at Q
    cases r with
    | sv s => exact fun v G' H' E' S' => Q σ G' H' E'.nox S' pn
    | loc i => exact fun v G' H' E' S' _ => Q σ G' H' E' S' pn
theorem s_expr (h : SE C X W e te me) (hs : swapsWith e none pos.line X.env = pure false := by rfl) : S1 C P X W (.Expr e pos) (tDrop te) (mDrop me) := ⟨ps_expr h.pe hs, snd_drop h.snd⟩
/-- return e: a name's own thing leaves with it -/
def mRet (P : List Nat) (a : M Ref) : M Fl := M.bind a fun r => match r with
  | .sv s => M.ret (.rt s)
  | .loc i => fun ρ => match ρ.getD i none with
    | some (.d x) => .ok (.rt (.d x)) ρ
    | some s => if i ∈ P then .stuck else .ok (.rt s) (ρ.set i none)
    | none => .stuck
theorem snd_ret {C : VC} (h : SndE C W te me) : SndS C P W (tRet te) (mRet P me) := by
  intro B ρ σ G H D E pn Q
  refine h B ρ σ G H _ E ?_
  unfold mRet at Q
  rw [mbind] at Q
  cases q : me ρ with
  | stuck => rw [q] at Q; exact Q
  | err c ρ' => rw [q] at Q; exact fun G' H' Ca E' hc => Q σ G' H' Ca E' pn hc
  | ok r ρ1 =>
    rw [q, bind_ok] at Q
    cases r with
    | sv s => exact fun v G' H' E' S' => Q v σ G' H' E' S' pn
    | loc i =>
      intro v G' H' E' S' hv
      dsimp only at Q
      cases q2 : ρ1.getD i none with
      | none => rw [q2] at Q; exact Q.elim
      | some s =>
        rw [q2] at Q
        have go : ∀ s', ρ1.getD i none = some s' → PostS C B P W G D (if i ∈ P then Rs.stuck else .ok (.rt s') (ρ1.set i none)) → D.rt v H' := by
          intro s' e z
          by_cases hp : i ∈ P
          · rw [if_pos hp] at z; exact z.elim
          · rw [if_neg hp] at z
            exact z v σ G' H' (E'.take e hv) S' pn
        cases s with
        | d x =>
          obtain ⟨w, fp, e1, o⟩ := E'.own q2
          have e2 : some (some w) = some (some v) := e1.symm.trans hv
          cases e2
          exact Q v σ G' H' (E'.res o.2) S' pn
        | ol x => exact go _ q2 Q
        | od x => exact go _ q2 Q
        | dr x => exact go _ q2 Q
        | sc x => exact go _ q2 Q
        | oi c x => exact go _ q2 Q
theorem s_ret (h : SE C X W e te me) : S1 C P X W (.Return (some e) pos) (tRet te) (mRet P me) := ⟨ps_ret h.pe, snd_ret h.snd⟩
theorem s_retN : S1 C P X W (.Return none pos) tRetN (M.ret (.rt (.d .non))) := ⟨ps_retN, fun B ρ σ G H D E pn Q => Q .non σ G H (E.res .non) (Same.refl _) pn⟩
/-- if -/
def mIf (c : M Bool) (a b : M Fl) : M Fl := M.bind c fun k => if k = true then a else b
variable {c : Expr} {sa sb : List Stmt} {uc : TT} {nc : M Bool}
theorem snd_if {C : VC} (hc : SndT C W uc nc) (ha : SndS C P W t m) (hb : SndS C P W u n) : SndS C P W (tIfS uc t u) (mIf nc m n) := by
  intro B ρ σ G H D E pn Q
  refine hc B ρ σ G H _ E ?_
  unfold mIf at Q
  rw [mbind] at Q
  cases q : nc ρ with
  | stuck => rw [q] at Q; exact Q
  | err c ρ' => rw [q] at Q; exact fun G' H' Ca E' hc => Q σ G' H' Ca E' pn hc
  | ok k ρ1 =>
    rw [q, bind_ok] at Q
    intro G1 H1 E1 S1
    cases k with
    | true =>
      rw [if_pos rfl] at Q ⊢
      exact ha B ρ1 σ G1 H1 D E1 pn (Q.same S1)
    | false =>
      rw [if_neg Bool.false_ne_true] at Q ⊢
      exact hb B ρ1 σ G1 H1 D E1 pn (Q.same S1)
theorem s_if (hc : ST C X W c uc nc) (ha : SS C P X W sa t m) (hb : SS C P X W sb u n) : S1 C P X W (.If c sa sb pos) (tIfS uc t u) (mIf nc m n) := ⟨ps_if hc.pt ha.ps hb.ps, snd_if hc.snd ha.snd hb.snd⟩
/-- x = e: another name's own thing stands still from then on -/
def stRef (i : Nat) : Ref → M Fl
  | .sv s => fun ρ => .ok .nx (ρ.set i (some s))
  | .loc j => fun ρ => match (ρ.getD j none).bind SV.frz with
    | some x => .ok .nx ((ρ.set j (some (.d x))).set i (some (.d x)))
    | none => .stuck
def mSet (i : Nat) (a : M Ref) : M Fl := M.bind a (stRef i)
theorem snd_set {C : VC} {i : Nat} (hi : i ∉ P) (h : SndE C W te me) : SndS C P W (tAsg te (gName i)) (mSet i me) := by
  intro B ρ σ G H D E pn Q
  refine h B ρ σ G H _ E ?_
  unfold mSet at Q
  rw [mbind] at Q
  cases q : me ρ with
  | stuck => rw [q] at Q; exact Q
  | err c ρ' => rw [q] at Q; exact fun G' H' Ca E' hc => Q σ G' H' Ca E' pn hc
  | ok r ρ1 =>
    rw [q, bind_ok] at Q
    cases r with
    | sv s => exact fun v G' H' E' S' => Q (σ.set i (some v)) G' H' (E'.store i) S' (pn.set hi)
    | loc j =>
      intro v G' H' E' S' hv
      unfold stRef at Q
      dsimp only at Q
      cases q2 : ρ1.getD j none with
      | none => rw [q2] at Q; exact Q.elim
      | some s =>
        rw [q2] at Q
        have Q : PostS C B P W G D (match s.frz with | some x => .ok .nx ((ρ1.set j (some (.d x))).set i (some (.d x))) | none => .stuck) := Q
        cases q3 : s.frz with
        | none => rw [q3] at Q; exact Q.elim
        | some x =>
          rw [q3] at Q
          obtain ⟨G2, S2, E2, r⟩ := E'.frz q2 q3 hv
          exact Q (σ.set i (some v)) G2 H' ((E2.res r).store i) (S'.trans S2) (pn.set hi)
theorem s_set {i : Nat} {x : Str} {pos' : Pos} (hN : X.N.Nodup) (hx : X.N[i]? = some x) (hl : Loc X.env.scope x) (h : SE C X W e te me) (hi : i ∉ P := by decide)
    (hs : swapsWith e (some (.Name x pos')) pos.line X.env = pure false := by rfl) (hf : X.fn x = true ∨ X.env.scope.names.lookup x = some .local := by first | exact .inl rfl | exact .inr rfl | assumption) :
    S1 C P X W (.Assign [.Name x pos'] e pos) (tAsg te (gName i)) (mSet i me) := ⟨ps_set hN hx hl h.pe hs hf, snd_set hi h.snd⟩

/-! ### raise of an own class with a text -/
def mRaise (c : Str) : M Fl := fun ρ => .err c ρ
/-- an own exception class: what K says of it -/
structure EO (C : VC) (x : Str) (Ca : Addr) : Prop where
  hx : PySem.W.excIn C.K Ca He.veBase "ValueError.__new__" = true
  g : C.mg x = some (.ref Ca)
  k : PySem.W.keepIn C.K (.ref Ca) = true
theorem s_raise {x ms : Str} {j : Nat} {p p2 cp : Pos} {Ca : Addr} (hc : X.calm = true) (tk : Takes X W) (hg : Gl X x) (E : EO C x Ca) (hr : Raises X (.ref Ca)) (hK : X.K = C.K := by rfl) (hm : X.mg = C.mg := by rfl) (hdb : (x == ("__debug__" : Str)) = false := by decide) :
    S1 C P X W (.Raise (some (.Call (.Name x p) [.Constant (.str ms) j p2] [] cp)) none pos) (fun _ σ H => W (.ref Ca) none σ H) (mRaise x) :=
  ⟨ps_raise hc tk (pmk_own PySem.F.excBase_ValueError (by rw [hK]; exact E.hx) (by rw [hm]; exact E.g) (by rw [hK]; exact E.k) hr hg hdb), fun B ρ σ G H D F pn Q => Q σ G H Ca F pn E.g⟩
end
end VS

/-! VS4: argument lists, defs, calls. -/
namespace VS
open PySem PySem.Spec PyProof.Rows L2

/-! ### argument lists -/
inductive OpdsR (C : VC) (σ : L2.St) (G : Hp) : List Opd → List V → Prop
  | nil : OpdsR C σ G [] []
  | cons {o : Opd} {v : V} {os : List Opd} {vs : List V} : OpdR C σ G o v → OpdsR C σ G os vs → OpdsR C σ G (o :: os) (v :: vs)
section
variable {C : VC} {σ : L2.St} {G G' : Hp}
theorem OpdsR.mono (S : Same G G') : ∀ {os : List Opd} {vs : List V}, OpdsR C σ G os vs → OpdsR C σ G' os vs
  | _, _, .nil => .nil
  | _, _, .cons h t => .cons (h.mono S) (OpdsR.mono S t)
theorem OpdsR.length : ∀ {os : List Opd} {vs : List V}, OpdsR C σ G os vs → os.length = vs.length
  | _, _, .nil => rfl
  | _, _, .cons h t => congrArg Nat.succ (OpdsR.length t)
theorem OpdsR.get : ∀ {os : List Opd} {vs : List V} {j : Nat} {o : Opd}, OpdsR C σ G os vs → os[j]? = some o → ∃ v, vs[j]? = some v ∧ OpdR C σ G o v
  | _, _, _, _, .nil, h => by simp at h
  | _, _, 0, _, .cons r _, h => by simp at h; subst h; exact ⟨_, rfl, r⟩
  | _, _, j + 1, _, .cons _ t, h => by
    obtain ⟨v, h1, h2⟩ := OpdsR.get (j := j) t (by simpa using h)
    exact ⟨v, by simpa using h1, h2⟩
end
def PostA (C : VC) (B : Bd) (W : WX) (σ : L2.St) (G : Hp) (Q : List V → Hp → Prop) : Rs (List Opd) → Prop
  | .ok os ρ => ∀ vs G' H', EnvR C B ρ σ none G' H' → Same G G' → OpdsR C σ G' os vs → Q vs H'
  | .err c ρ => ∀ G' H' Ca, EnvR C B ρ σ none G' H' → C.mg c = some (.ref Ca) → W (.ref Ca) none σ H'
  | .stuck => False
def SndA (C : VC) (W : WX) (t : TA) (m : M (List Opd)) : Prop := ∀ B ρ σ G H Q, EnvR C B ρ σ none G H → PostA C B W σ G Q (m ρ) → t σ H Q
structure SA (C : VC) (X : Cx) (W : WX) (es : List Expr) (t : TA) (m : M (List Opd)) : Prop where
  pa : PA X es t
  snd : SndA C W t m
def mCons (a : M Ref) (r : M (List Opd)) : M (List Opd) := M.bind (opd a) fun o => M.bind r fun os => M.ret (o :: os)
section
variable {C : VC} {X : Cx} {W : WX} {e : Expr} {es : List Expr} {te : TE} {t : TA} {me : M Ref} {m : M (List Opd)}
theorem snd_nil {C : VC} : SndA C W tNil (M.ret []) := fun B ρ σ G H Q E P => P [] G H E (Same.refl _) .nil
theorem snd_cons {C : VC} (h : SndE C W te me) (r : SndA C W t m) : SndA C W (tCons te t) (mCons me m) := by
  intro B ρ σ G H Q E P
  refine h.o B ρ σ G H _ E ?_
  unfold mCons at P
  rw [mbind] at P
  cases q : opd me ρ with
  | stuck => rw [q] at P; exact P
  | err c ρ' => rw [q] at P; exact P
  | ok o ρ1 =>
    rw [q, bind_ok, mbind] at P
    intro v G1 H1 E1 S1 r1
    refine r B ρ1 σ G1 H1 _ E1 ?_
    cases q2 : m ρ1 with
    | stuck => rw [q2] at P; exact P
    | err c ρ' => rw [q2] at P; exact P
    | ok os ρ2 =>
      rw [q2, bind_ok] at P
      exact fun vs G2 H2 E2 S2 r2 => P (v :: vs) G2 H2 E2 (S1.trans S2) (.cons (r1.mono S2) r2)
theorem sa_nil : SA C X W [] tNil (M.ret []) := ⟨pa_nil, snd_nil⟩
theorem sa_cons (h : SE C X W e te me) (r : SA C X W es t m) (hs : starEach (e :: es) X.env = (false, eval e X.env) :: starEach es X.env := by rfl) : SA C X W (e :: es) (tCons te t) (mCons me m) := ⟨pa_cons h.pe r.pa hs, snd_cons h.snd r.snd⟩
end

/-- how many arguments there are -/
def Len (m : M (List Opd)) (n : Nat) : Prop := ∀ ρ os ρ', m ρ = .ok os ρ' → os.length = n
theorem len_nil : Len (M.ret []) 0 := fun ρ os ρ' h => by cases h; rfl
theorem len_cons {a : M Ref} {m : M (List Opd)} {n : Nat} (h : Len m n) : Len (mCons a m) (n + 1) := fun ρ os ρ' e => by
  unfold mCons at e
  rw [mbind] at e
  cases q : opd a ρ with
  | stuck => rw [q] at e; cases e
  | err c ρ1 => rw [q] at e; cases e
  | ok o ρ1 =>
    rw [q, bind_ok, mbind] at e
    cases q2 : m ρ1 with
    | stuck => rw [q2] at e; cases e
    | err c ρ1 => rw [q2] at e; cases e
    | ok os' ρ2 =>
      rw [q2, bind_ok] at e
      cases e
      exact congrArg Nat.succ (h _ _ _ q2)
/-! ### promises -/
abbrev Den := List SV → Rs SV
def PostC (C : VC) (B : Bd) (vs : List V) (Q : VK) (E : XK) : Rs SV → Prop
  | .ok s outs => ∀ v G' H', EnvR C B outs (vs.map some) (some (s, v)) G' H' → Q v H'
  | .err c outs => ∀ G' H' Ca, EnvR C B outs (vs.map some) none G' H' → C.mg c = some (.ref Ca) → E (.ref Ca) none H'
  | .stuck => False
def spD (C : VC) (n : Nat) (den : Den) : Sp := fun vs H Q E => vs.length = n ∧ ∃ (B : Bd) (args : List SV), B.H0 = H ∧ (∀ j, j < n → vs[j]? = some (B.pv j)) ∧ EnvR C B (args.map some) (vs.map some) none B.G0 H ∧ PostC C B vs Q E (den args)
structure FV (C : VC) (P : Program) (w : World) (base : Heap) (k : Nat) (x : Str) (st : Stmt) (ps : List Str) (den : Den) : Prop where
  fn : ∃ fd, FnOk P w C.K C.mg base (L2.CX P w) k (He.ga C.K x) fd ps (spD C ps.length den) ∧ ∃ (kV doc pm : Value) (an : Option Addr) (cdv ct : Value), fd = PySem.W.fnOf x x (defArgs st) (defBody st) (defScope st) .none kV doc pm an cdv ct
  kp : PySem.W.keepIn C.K (.ref (He.ga C.K x)) = true
  gl : C.mg x = some (.ref (He.ga C.K x))
theorem FV.mono {C : VC} {P : Program} {w : World} {base : Heap} {k k' : Nat} {x : Str} {st : Stmt} {ps : List Str} {den : Den} (F : FV C P w base k x st ps den) (h : k ≤ k') : FV C P w base k' x st ps den := by
  obtain ⟨⟨fd, a, b⟩, c, d⟩ := F
  exact ⟨⟨fd, a.mono h, b⟩, c, d⟩
theorem FV.den {C : VC} {P : Program} {w : World} {base : Heap} {k : Nat} {x : Str} {st : Stmt} {ps : List Str} {den den' : Den} (F : FV C P w base k x st ps den) (h : ∀ args, den' args ≠ .stuck → den args = den' args) : FV C P w base k x st ps den' := by
  obtain ⟨⟨fd, a, b⟩, c, d⟩ := F
  refine ⟨⟨fd, a.imp fun vs H Q E z => ?_, b⟩, c, d⟩
  obtain ⟨h1, B, args, h2, h3, h4, h5⟩ := z
  refine ⟨h1, B, args, h2, h3, h4, ?_⟩
  rw [h args (fun z => by rw [z] at h5; exact h5)]
  exact h5

def mask (n : Nat) (pin : List Nat) (ρ : En) : En := (List.range n).map fun j => if j ∈ pin then ρ.getD j none else none
def denOf (n l : Nat) (pin : List Nat) (m : M Fl) : Den := fun args => match m (args.map some ++ List.replicate l none) with
  | .ok (.rt s) ρ => .ok s (mask n pin ρ)
  | .ok .nx ρ => .ok (.d .non) (mask n pin ρ)
  | .ok _ _ => .stuck
  | .err c ρ => .err c (mask n pin ρ)
  | .stuck => .stuck

theorem getD_some {α : Type} (vs : List α) (j : Nat) : (vs.map some).getD j none = vs[j]? := by
  rw [List.getD_eq_getElem?_getD, List.getElem?_map]
  cases vs[j]? <;> rfl
theorem getD_st {σ : L2.St} {i : Nat} {v : V} (h : σ[i]? = some (some v)) : σ.getD i none = some v := by
  rw [List.getD_eq_getElem?_getD, h] <;> rfl
theorem mask_get {n : Nat} {pin : List Nat} {ρ : En} {j : Nat} : (mask n pin ρ).getD j none = if j < n ∧ j ∈ pin then ρ.getD j none else none := by
  unfold mask
  rw [List.getD_eq_getElem?_getD, List.getElem?_map]
  by_cases h : j < n
  · rw [List.getElem?_range h]
    by_cases h2 : j ∈ pin
    · rw [if_pos ⟨h, h2⟩]
      show (if j ∈ pin then ρ.getD j none else none) = _
      rw [if_pos h2]
    · rw [if_neg (fun z => h2 z.2)]
      show (if j ∈ pin then ρ.getD j none else none) = _
      rw [if_neg h2]
  · rw [if_neg (fun z => h z.1), List.getElem?_eq_none (by simpa using h)] <;> rfl
theorem EnvR.mask {C : VC} {B : Bd} {ρ : En} {σ : L2.St} {x : Option (SV × V)} {G H : Hp} {n : Nat} {pin : List Nat} {vs : List V} (E : EnvR C B ρ σ x G H) (pn : PinOk pin B σ) (hn : vs.length = n) (hv : ∀ j, j < n → vs[j]? = some (B.pv j)) :
    EnvR C B (mask n pin ρ) (vs.map some) x G H := by
  refine ⟨?_, by simp [VS.mask, hn]⟩
  refine E.fr.remap (fun i => match i with | none => some none | some j => if j < n ∧ j ∈ pin then some (some j) else none) (fun i j k h1 h2 => ?_) fun i => ?_
  · cases i with
    | none =>
      cases j with
      | none => rfl
      | some j =>
        dsimp only at h1 h2
        split at h2
        · cases h1; cases h2
        · cases h2
    | some i =>
      cases j with
      | none =>
        dsimp only at h1 h2
        split at h1
        · cases h1; cases h2
        · cases h1
      | some j =>
        dsimp only at h1 h2
        split at h1
        · split at h2
          · cases h1; cases h2; rfl
          · cases h2
        · cases h1
  · cases i with
    | none => exact .inl ⟨none, rfl, rfl⟩
    | some j =>
      by_cases h : j < n ∧ j ∈ pin
      · refine .inl ⟨some j, if_pos h, ?_⟩
        show ((VS.mask n pin ρ).getD j none, (vs.map some).getD j none) = (ρ.getD j none, σ.getD j none)
        rw [mask_get, if_pos h, getD_some, hv j h.1, getD_st (pn j h.2)]
      · refine .inr ⟨if_neg h, .inl ?_⟩
        show (VS.mask n pin ρ).getD j none = none
        rw [mask_get, if_neg h]

section
variable {C : VC} {P : Program} {w : World} {base : Heap}
theorem getD_append_left {α : Type} {l r : List (Option α)} {i : Nat} (h : i < l.length) : (l ++ r).getD i none = l.getD i none := by
  rw [List.getD_eq_getElem?_getD, List.getElem?_append_left h, List.getD_eq_getElem?_getD]
theorem getD_append_rep {α : Type} {l : List (Option α)} {k i : Nat} : (l ++ List.replicate k none).getD i none = l.getD i none := by
  by_cases h : i < l.length
  · exact getD_append_left h
  · have e1 : l.getD i none = none := by
      rw [List.getD_eq_getElem?_getD, List.getElem?_eq_none (by omega)] <;> rfl
    rw [e1, List.getD_eq_getElem?_getD, List.getElem?_append_right (by omega), List.getElem?_replicate]
    split <;> rfl
/-- THE RULE for a def -/
theorem fd_ofF {N ps : List Str} {k : Nat} {x qual : Str} {f : Addr} {st : Stmt} {fd : FuncData} {pin : List Nat} {m : M Fl} (F : FunD C.K x qual (defArgs st) (defBody st) (defScope st) [] [] f fd) (S : FnScope N ps (defScope st)) (hp : ∀ j ∈ pin, j < ps.length)
    (hbody : ∀ (cdv : Value), (∃ oc od osl fd', C.K.lookup f = some ⟨oc, od, .func fd', osl⟩ ∧ fd'.code = cdv ∧ PySem.W.codeIn C.K cdv qual = true) → ∀ (A : Around) (outer : List Env) (s : Shared) (H : Hp) (E : XK), Room k (A.deeper (envOfC qual (defScope st) s.heap.objs.size f cdv)) →
      ∃ t, SS C pin (cxOf (L2.CX P w) P w C.K C.mg base N qual (defScope st) f cdv A outer s H E) (fun cls d _ H => E cls d H) (defBody st) t m) :
    FnOk P w C.K C.mg base (L2.CX P w) (k + 1) f fd ps (spD C ps.length (denOf ps.length (N.length - ps.length) pin m)) ∧ ∃ (kV doc pm : Value) (an : Option Addr) (cdv ct : Value), fd = PySem.W.fnOf x qual (defArgs st) (defBody st) (defScope st) .none kV doc pm an cdv ct := by
  have e := F.ex
  obtain ⟨oc, od, dV, kV, doc, pm, an, cdv, ct, osl, e1, lk, hcd, hD, hK⟩ := e
  have hdV : dV = .none := by
    rcases hD with ⟨_, h⟩ | ⟨h, _⟩
    · exact h
    · exact absurd rfl h
  subst hdV
  refine ⟨?_, kV, doc, pm, an, cdv, ct, e1⟩
  subst e1
  refine fn_of lk hcd S (fun vs H Q E h => h.1) (fun A outer s H vs Q E hr h => ?_)
  obtain ⟨hl, B, args, hB, hv, EV, P0⟩ := h
  obtain ⟨t, ht⟩ := hbody cdv ⟨_, _, _, _, lk, rfl, hcd⟩ A outer s H E hr
  refine ⟨t, ht.ps, ?_⟩
  have hal : args.length = vs.length := by have := EV.len; simpa using this
  have E0 : EnvR C B (args.map some ++ List.replicate (N.length - ps.length) none) (L2.start N vs) none B.G0 H := by
    refine ⟨?_, ?_⟩
    · have e2 : view (args.map some ++ List.replicate (N.length - ps.length) none) (L2.start N vs) none = view (args.map some) (vs.map some) none := by
        funext i
        cases i with
        | none => rfl
        | some i =>
          show ((args.map some ++ List.replicate (N.length - ps.length) none).getD i none, (L2.start N vs).getD i none) = ((args.map some).getD i none, (vs.map some).getD i none)
          unfold L2.start
          rw [getD_append_rep, getD_append_rep]
      rw [e2]
      exact EV.fr
    · unfold L2.start
      simp [hal, hl]
  have p0 : PinOk pin B (L2.start N vs) := fun j hj => by
    have hjl : j < ps.length := hp j hj
    unfold L2.start
    rw [List.getElem?_append_left (by simp [hl, hjl]), List.getElem?_map, hv j hjl] <;> rfl
  refine ht.snd B _ _ _ _ _ E0 p0 ?_
  have hm : (args.map some ++ List.replicate (N.length - ps.length) none : En) = args.map some ++ List.replicate (N.length - ps.length) none := rfl
  unfold denOf at P0
  cases q : m (args.map some ++ List.replicate (N.length - ps.length) none) with
  | stuck => rw [q] at P0; exact P0
  | err c ρ' =>
    rw [q] at P0
    exact fun σ' G' H' Ca E' pn hc => P0 G' H' Ca (E'.mask pn hl hv) hc
  | ok f ρ' =>
    rw [q] at P0
    cases f with
    | nx => exact fun σ' G' H' E' _ pn => P0 .non G' H' ((E'.res .non).mask pn hl hv)
    | bk => exact P0.elim
    | ct => exact P0.elim
    | rt s => exact fun v σ' G' H' E' _ pn => P0 v G' H' (E'.mask pn hl hv)
theorem fd_of {N ps : List Str} {k : Nat} {x qual : Str} {f : Addr} {st : Stmt} {fd : FuncData} {pin : List Nat} {m : M Fl} (F : FunD C.K x qual (defArgs st) (defBody st) (defScope st) [] [] f fd) (S : FnScope N ps (defScope st)) (hp : ∀ j ∈ pin, j < ps.length)
    (hbody : ∀ (cdv : Value), (∃ oc od osl fd', C.K.lookup f = some ⟨oc, od, .func fd', osl⟩ ∧ fd'.code = cdv ∧ PySem.W.codeIn C.K cdv qual = true) → ∀ (A : Around) (outer : List Env) (s : Shared) (H : Hp) (E : XK), Room k (A.deeper (envOfC qual (defScope st) s.heap.objs.size f cdv)) →
      ∃ t, SS C pin (cxOf (L2.CX P w) P w C.K C.mg base N qual (defScope st) f cdv A outer s H E) (fun cls d _ H => E cls d H) (defBody st) t m) :
    ∃ fd, FnOk P w C.K C.mg base (L2.CX P w) (k + 1) f fd ps (spD C ps.length (denOf ps.length (N.length - ps.length) pin m)) ∧ ∃ (kV doc pm : Value) (an : Option Addr) (cdv ct : Value), fd = PySem.W.fnOf x qual (defArgs st) (defBody st) (defScope st) .none kV doc pm an cdv ct := ⟨fd, fd_ofF F S hp hbody⟩
theorem fv_of {N ps : List Str} {k : Nat} {x : Str} {st : Stmt} {fd : FuncData} {pin : List Nat} {m : M Fl} (F : FunD C.K x x (defArgs st) (defBody st) (defScope st) [] [] (He.ga C.K x) fd) (S : FnScope N ps (defScope st)) (gl : C.mg x = some (.ref (He.ga C.K x))) (hp : ∀ j ∈ pin, j < ps.length)
    (hbody : ∀ (cdv : Value) (A : Around) (outer : List Env) (s : Shared) (H : Hp) (E : XK), Room k (A.deeper (envOfC x (defScope st) s.heap.objs.size (He.ga C.K x) cdv)) →
      ∃ t, SS C pin (cxOf (L2.CX P w) P w C.K C.mg base N x (defScope st) (He.ga C.K x) cdv A outer s H E) (fun cls d _ H => E cls d H) (defBody st) t m) :
    FV C P w base (k + 1) x st ps (denOf ps.length (N.length - ps.length) pin m) := ⟨fd_of F S hp fun cdv _ => hbody cdv, F.kp, gl⟩
/-- a def that makes lambdas: its code object is known -/
theorem fv_ofL {N ps : List Str} {k : Nat} {x : Str} {st : Stmt} {fd : FuncData} {pin : List Nat} {m : M Fl} (F : FunD C.K x x (defArgs st) (defBody st) (defScope st) [] [] (He.ga C.K x) fd) (S : FnScope N ps (defScope st)) (gl : C.mg x = some (.ref (He.ga C.K x))) (hp : ∀ j ∈ pin, j < ps.length)
    (hbody : ∀ (A : Around) (outer : List Env) (s : Shared) (H : Hp) (E : XK), Room k (A.deeper (envOfC x (defScope st) s.heap.objs.size (He.ga C.K x) (.ref (He.cT C.K (x, none)).1))) →
      ∃ t, SS C pin (cxOf (L2.CX P w) P w C.K C.mg base N x (defScope st) (He.ga C.K x) (.ref (He.cT C.K (x, none)).1) A outer s H E) (fun cls d _ H => E cls d H) (defBody st) t m) :
    FV C P w base (k + 1) x st ps (denOf ps.length (N.length - ps.length) pin m) := ⟨fd_of F S hp fun cdv hc => by
      obtain ⟨oc, od, osl, fd', lk, e, hcd⟩ := hc
      obtain ⟨c, hc⟩ := He.codeIn_ref hcd
      have e2 : He.codeOf C.K (x, none) = c := He.codeOf_eq (p := (x, none)) lk (by rw [e, hc])
      rw [hc, ← e2]
      exact hbody, F.kp, gl⟩
theorem fm_of {N ps : List Str} {k : Nat} {f : Addr} {qual x : Str} {st : Stmt} {fd : FuncData} {pin : List Nat} {m : M Fl} (F : FunD C.K x qual (defArgs st) (defBody st) (defScope st) [] [] f fd) (S : FnScope N ps (defScope st)) (hp : ∀ j ∈ pin, j < ps.length)
    (hbody : ∀ (cdv : Value) (A : Around) (outer : List Env) (s : Shared) (H : Hp) (E : XK), Room k (A.deeper (envOfC qual (defScope st) s.heap.objs.size f cdv)) →
      ∃ t, SS C pin (cxOf (L2.CX P w) P w C.K C.mg base N qual (defScope st) f cdv A outer s H E) (fun cls d _ H => E cls d H) (defBody st) t m) :
    ∃ fd, FnOk P w C.K C.mg base (L2.CX P w) (k + 1) f fd ps (spD C ps.length (denOf ps.length (N.length - ps.length) pin m)) ∧ ∃ (kV doc pm : Value) (an : Option Addr) (cdv ct : Value), fd = PySem.W.fnOf x qual (defArgs st) (defBody st) (defScope st) .none kV doc pm an cdv ct := fd_of F S hp fun cdv _ => hbody cdv
/-- a method's function -/
structure FM (C : VC) (P : Program) (w : World) (base : Heap) (k : Nat) (f : Addr) (qual x : Str) (st : Stmt) (ps : List Str) (den : Den) : Prop where
  fn : ∃ fd, FnOk P w C.K C.mg base (L2.CX P w) k f fd ps (spD C ps.length den) ∧ ∃ (kV doc pm : Value) (an : Option Addr) (cdv ct : Value), fd = PySem.W.fnOf x qual (defArgs st) (defBody st) (defScope st) .none kV doc pm an cdv ct
theorem FM.mono {k k' : Nat} {f : Addr} {qual x : Str} {st : Stmt} {ps : List Str} {den : Den} (F : FM C P w base k f qual x st ps den) (h : k ≤ k') : FM C P w base k' f qual x st ps den := by
  obtain ⟨fd, a, b⟩ := F.fn
  exact ⟨fd, a.mono h, b⟩
end

/-! ### calls -/
/-- the slot holds a thing that may change -/
def isOwn : Option SV → Bool
  | some (.ol _) => true
  | some (.od _) => true
  | some (.dr _) => true
  | some (.oi _ _) => true
  | _ => false
def ownIx (ρ : En) : List Opd → List Nat
  | [] => []
  | .d _ :: os => ownIx ρ os
  | .loc i :: os => if isOwn (ρ.getD i none) = true then i :: ownIx ρ os else ownIx ρ os
def argSV (ρ : En) : List Opd → Option (List SV)
  | [] => some []
  | .d x :: os => (argSV ρ os).map (SV.d x :: ·)
  | .loc i :: os => (ρ.getD i none).bind fun s => (argSV ρ os).map (s :: ·)
def wb (ρ : En) : List Opd → En → En
  | [], _ => ρ
  | .d _ :: os, outs => wb ρ os outs.tail
  | .loc i :: os, outs => if isOwn (ρ.getD i none) = true then (wb ρ os outs.tail).set i (outs.getD 0 none) else wb ρ os outs.tail
def callD (den : Den) (os : List Opd) : M Ref := fun ρ => match argSV ρ os with
  | none => .stuck
  | some args => if (ownIx ρ os).Nodup then (match den args with
    | .ok s outs => .ok (.sv s) (wb ρ os outs)
    | .err c outs => .err c (wb ρ os outs)
    | .stuck => .stuck) else .stuck
def mCall (den : Den) (a : M (List Opd)) : M Ref := M.bind a (callD den)

section
variable {C : VC} {B : Bd} {ρ : En} {σ : L2.St} {G H : Hp}
theorem argSV_get : ∀ {os : List Opd} {args : List SV} {j : Nat}, argSV ρ os = some args → (∀ x, os[j]? = some (Opd.d x) → args[j]? = some (SV.d x)) ∧ (∀ i, os[j]? = some (Opd.loc i) → ∃ s, ρ.getD i none = some s ∧ args[j]? = some s) ∧ (os[j]? = none → args[j]? = none)
  | [], args, j, h => by
    cases h
    exact ⟨fun x h => by simp at h, fun i h => by simp at h, fun _ => by simp⟩
  | .d y :: os, args, j, h => by
    unfold argSV at h
    cases q : argSV ρ os with
    | none => rw [q] at h; cases h
    | some r =>
      rw [q] at h
      cases h
      cases j with
      | zero => exact ⟨fun x h => by simpa using h, fun i h => by simp at h, fun h => by simp at h⟩
      | succ j =>
        obtain ⟨a, b, c⟩ := argSV_get (j := j) q
        exact ⟨fun x h => by simpa using a x (by simpa using h), fun i h => by simpa using b i (by simpa using h), fun h => by simpa using c (by simpa using h)⟩
  | .loc y :: os, args, j, h => by
    unfold argSV at h
    cases q0 : ρ.getD y none with
    | none => rw [q0] at h; cases h
    | some s =>
      rw [q0] at h
      have h : (argSV ρ os).map (s :: ·) = some args := h
      cases q : argSV ρ os with
      | none => rw [q] at h; cases h
      | some r =>
        rw [q] at h
        cases h
        cases j with
        | zero => exact ⟨fun x h => by simp at h, fun i h => by simp at h; subst h; exact ⟨s, q0, rfl⟩, fun h => by simp at h⟩
        | succ j =>
          obtain ⟨a, b, c⟩ := argSV_get (j := j) q
          exact ⟨fun x h => by simpa using a x (by simpa using h), fun i h => by simpa using b i (by simpa using h), fun h => by simpa using c (by simpa using h)⟩
theorem mem_ownIx {i : Nat} : ∀ {os : List Opd}, i ∈ ownIx ρ os ↔ isOwn (ρ.getD i none) = true ∧ ∃ j : Nat, os[j]? = some (Opd.loc i)
  | [] => by simp [ownIx]
  | .d y :: os => by
    unfold ownIx
    rw [mem_ownIx]
    constructor
    · rintro ⟨h, j, e⟩
      exact ⟨h, j + 1, by simpa using e⟩
    · rintro ⟨h, j, e⟩
      cases j with
      | zero => simp at e
      | succ j => exact ⟨h, j, by simpa using e⟩
  | .loc y :: os => by
    unfold ownIx
    by_cases hy : isOwn (ρ.getD y none) = true
    · rw [if_pos hy, List.mem_cons, mem_ownIx]
      constructor
      · rintro (h | ⟨h, j, e⟩)
        · subst h
          exact ⟨hy, 0, rfl⟩
        · exact ⟨h, j + 1, by simpa using e⟩
      · rintro ⟨h, j, e⟩
        cases j with
        | zero =>
          simp at e
          exact .inl e.symm
        | succ j => exact .inr ⟨h, j, by simpa using e⟩
    · rw [if_neg hy, mem_ownIx]
      constructor
      · rintro ⟨h, j, e⟩
        exact ⟨h, j + 1, by simpa using e⟩
      · rintro ⟨h, j, e⟩
        cases j with
        | zero =>
          simp at e
          subst e
          exact absurd h hy
        | succ j => exact ⟨h, j, by simpa using e⟩
/-- an owned slot is passed once -/
theorem own_once {i : Nat} : ∀ {os : List Opd} {j k : Nat}, (ownIx ρ os).Nodup → isOwn (ρ.getD i none) = true → os[j]? = some (Opd.loc i) → os[k]? = some (Opd.loc i) → j = k
  | [], j, k, _, _, h, _ => by simp at h
  | .d y :: os, j, k, nd, ho, h1, h2 => by
    cases j with
    | zero => simp at h1
    | succ j =>
      cases k with
      | zero => simp at h2
      | succ k =>
        have := own_once (os := os) (j := j) (k := k) (by simpa [ownIx] using nd) ho (by simpa using h1) (by simpa using h2)
        omega
  | .loc y :: os, j, k, nd, ho, h1, h2 => by
    have nd2 : (ownIx ρ os).Nodup := by
      unfold ownIx at nd
      split at nd
      · exact (List.nodup_cons.mp nd).2
      · exact nd
    have no0 : ∀ l : Nat, y = i → os[l]? = some (Opd.loc i) → False := fun l e hl => by
      subst e
      unfold ownIx at nd
      rw [if_pos ho] at nd
      exact (List.nodup_cons.mp nd).1 (mem_ownIx.mpr ⟨ho, l, hl⟩)
    cases j with
    | zero =>
      cases k with
      | zero => rfl
      | succ k =>
        simp at h1
        exact (no0 k h1 (by simpa using h2)).elim
    | succ j =>
      cases k with
      | zero =>
        simp at h2
        exact (no0 j h2 (by simpa using h1)).elim
      | succ k =>
        have := own_once (os := os) (j := j) (k := k) nd2 ho (by simpa using h1) (by simpa using h2)
        omega
theorem getD_tail {outs : En} {j : Nat} : outs.tail.getD j none = outs.getD (j + 1) none := by
  cases outs with
  | nil => simp
  | cons a r => simp
theorem wb_len : ∀ {os : List Opd} {outs : En}, (wb ρ os outs).length = ρ.length
  | [], _ => rfl
  | .d y :: os, outs => wb_len (os := os)
  | .loc y :: os, outs => by
    unfold wb
    split
    · rw [List.length_set]
      exact wb_len (os := os)
    · exact wb_len (os := os)
theorem wb_get {i : Nat} : ∀ {os : List Opd} {outs : En}, (ownIx ρ os).Nodup → (∀ j, isOwn (ρ.getD i none) = true → os[j]? = some (Opd.loc i) → (wb ρ os outs).getD i none = outs.getD j none) ∧ (i ∉ ownIx ρ os → (wb ρ os outs).getD i none = ρ.getD i none)
  | [], outs, _ => ⟨fun j _ h => by simp at h, fun _ => rfl⟩
  | .d y :: os, outs, nd => by
    obtain ⟨a, b⟩ := wb_get (i := i) (os := os) (outs := outs.tail) (by simpa [ownIx] using nd)
    refine ⟨fun j ho h => ?_, fun h => b (by simpa [ownIx] using h)⟩
    cases j with
    | zero => simp at h
    | succ j =>
      have := a j ho (by simpa using h)
      rw [getD_tail] at this
      exact this
  | .loc y :: os, outs, nd => by
    have nd2 : (ownIx ρ os).Nodup := by
      unfold ownIx at nd
      split at nd
      · exact (List.nodup_cons.mp nd).2
      · exact nd
    obtain ⟨a, b⟩ := wb_get (i := i) (os := os) (outs := outs.tail) nd2
    by_cases hy : isOwn (ρ.getD y none) = true
    · have e0 : wb ρ (.loc y :: os) outs = (wb ρ os outs.tail).set y (outs.getD 0 none) := if_pos hy
      have e1 : ownIx ρ (.loc y :: os) = y :: ownIx ρ os := if_pos hy
      rw [e0]
      by_cases hiy : i = y
      · subst hiy
        have hl : i < (wb ρ os outs.tail).length := by
          rw [wb_len]
          by_cases h : i < ρ.length
          · exact h
          · rw [List.getD_eq_getElem?_getD, List.getElem?_eq_none (by omega)] at hy
            cases hy
        refine ⟨fun j ho h => ?_, fun h => ?_⟩
        · rw [getD_set_eq hl]
          have := own_once (ρ := ρ) (i := i) (os := .loc i :: os) (j := j) (k := 0) nd ho h rfl
          rw [this]
        · rw [e1] at h
          exact absurd List.mem_cons_self h
      · rw [getD_set_ne hiy]
        refine ⟨fun j ho h => ?_, fun h => b fun z => h (by rw [e1]; exact List.mem_cons_of_mem _ z)⟩
        cases j with
        | zero =>
          simp at h
          exact absurd h.symm hiy
        | succ j =>
          have := a j ho (by simpa using h)
          rw [getD_tail] at this
          exact this
    · have e0 : wb ρ (.loc y :: os) outs = wb ρ os outs.tail := if_neg hy
      have e1 : ownIx ρ (.loc y :: os) = ownIx ρ os := if_neg hy
      rw [e0]
      refine ⟨fun j ho h => ?_, fun h => b (by rw [e1] at h; exact h)⟩
      cases j with
      | zero =>
        simp at h
        subst h
        exact absurd ho hy
      | succ j =>
        have := a j ho (by simpa using h)
        rw [getD_tail] at this
        exact this

theorem SlotOk.noOwn {x : Slot} {fp : List Addr} (h : SlotOk C G H x fp) (n : isOwn x.1 = false) : fp = [] := by
  obtain ⟨a, b⟩ := x
  cases a with
  | none => exact h
  | some s =>
    obtain ⟨v, e, o⟩ := h
    cases s with
    | d y => exact o.1
    | sc y => exact o.1
    | oi c y => cases n
    | ol y => cases n
    | od y => cases n
    | dr y => cases n

/-- the callee's environment, and back -/
theorem call_env {os : List Opd} {vs : List V} {args : List SV} (E : EnvR C B ρ σ none G H) (r : OpdsR C σ G os vs) (ha : argSV ρ os = some args) (nd : (ownIx ρ os).Nodup) :
    ∃ B' : Bd, B'.H0 = H ∧ B'.G0 = G ∧ (∀ j, j < vs.length → vs[j]? = some (B'.pv j)) ∧ EnvR C B' (args.map some) (vs.map some) none G H ∧
      ∀ outs x G2 H2, EnvR C B' outs (vs.map some) x G2 H2 → EnvR C B (wb ρ os outs) σ x G2 H2 ∧ Same G G2 := by
  obtain ⟨fp, h1, h2, h3⟩ := E.fr.ex
  have hvl := r.length
  have hal : args.length = os.length := by
    have hz : ∀ j, args[j]? = none ↔ os[j]? = none := fun j => by
      obtain ⟨a, b, c⟩ := argSV_get (j := j) ha
      refine ⟨fun h => ?_, c⟩
      cases q : os[j]? with
      | none => rfl
      | some o =>
        cases o with
        | d x => rw [a x q] at h; cases h
        | loc i =>
          obtain ⟨s, _, e⟩ := b i q
          rw [e] at h; cases h
    have z1 := (hz os.length).mpr (by simp)
    have z2 := (hz args.length).mp (by simp)
    rw [List.getElem?_eq_none_iff] at z1 z2
    omega
  -- slot i's own position
  have tracked : ∀ i p, p ∈ fp i → ∃ u, H p = some u ∧ Plain u := fun i p hp => (h1 i).there hp
  let S' : Addr → Prop := fun p => ∃ i, i ∈ ownIx ρ os ∧ p ∈ fp (some i)
  let B' : Bd := ⟨H, G, S', fun j => (vs[j]?).getD .non⟩
  let fq : Option Nat → List Addr := fun i => match i with
    | none => []
    | some j => (match os[j]? with
      | some (.loc i) => if isOwn (ρ.getD i none) = true then fp (some i) else []
      | _ => [])
  have fq_mem : ∀ j p, p ∈ fq (some j) → ∃ i, os[j]? = some (Opd.loc i) ∧ isOwn (ρ.getD i none) = true ∧ p ∈ fp (some i) := fun j p hp => by
    have hp : p ∈ (match os[j]? with
      | some (.loc i) => if isOwn (ρ.getD i none) = true then fp (some i) else []
      | _ => []) := hp
    cases q : os[j]? with
    | none => rw [q] at hp; cases hp
    | some o =>
      rw [q] at hp
      cases o with
      | d x => cases hp
      | loc i =>
        dsimp only at hp
        split at hp
        · rename_i z
          exact ⟨i, rfl, z, hp⟩
        · cases hp
  refine ⟨B', rfl, rfl, fun j hj => ?_, ⟨⟨⟨fq, fun i => ?_, fun i j p hij hp hp2 => ?_, fun i p hp => ?_⟩, E.fr.gh, Same.refl _, fun a h => .inl h, fun b o e _ _ => e, E.fr.nt, E.fr.tb⟩, by simp [hal, hvl]⟩, fun outs x G2 H2 E2 => ?_⟩
  · show vs[j]? = some ((vs[j]?).getD .non)
    rw [List.getElem?_eq_getElem hj] <;> rfl
  · cases i with
    | none => rfl
    | some j =>
      show SlotOk C G H ((args.map some).getD j none, (vs.map some).getD j none) (fq (some j))
      obtain ⟨a, b, c⟩ := argSV_get (j := j) ha
      cases q : os[j]? with
      | none =>
        have e : (args.map some).getD j none = none := by
          rw [getD_some, c q]
        rw [e]
        show fq (some j) = []
        show (match os[j]? with
          | some (.loc i) => if isOwn (ρ.getD i none) = true then fp (some i) else []
          | _ => []) = []
        rw [q]
      | some o =>
        obtain ⟨v, hv, ro⟩ := r.get q
        have ev : (vs.map some).getD j none = some v := by
          rw [getD_some, hv]
        rw [ev]
        cases o with
        | d y =>
          have e : (args.map some).getD j none = some (.d y) := by
            rw [getD_some, a y q]
          rw [e]
          refine ⟨v, rfl, ?_, ro⟩
          show (match os[j]? with
            | some (.loc i) => if isOwn (ρ.getD i none) = true then fp (some i) else []
            | _ => []) = []
          rw [q]
        | loc i =>
          obtain ⟨s, hs, e1⟩ := b i q
          have e : (args.map some).getD j none = some s := by
            rw [getD_some, e1]
          rw [e]
          have ok := h1 (some i)
          have eview : view ρ σ none (some i) = (some s, some v) := by
            show (ρ.getD i none, σ.getD i none) = _
            rw [hs, getD_st ro]
          rw [eview] at ok
          have efq : fq (some j) = fp (some i) := by
            show (match os[j]? with
              | some (.loc i) => if isOwn (ρ.getD i none) = true then fp (some i) else []
              | _ => []) = fp (some i)
            rw [q]
            dsimp only
            by_cases hown : isOwn (ρ.getD i none) = true
            · rw [if_pos hown]
            · rw [if_neg hown]
              have hz : isOwn (some s) = false := by
                rw [← hs]
                exact Bool.eq_false_iff.mpr hown
              exact (ok.noOwn hz).symm
          rw [efq]
          exact ok
  · cases i with
    | none => cases hp
    | some i =>
      cases j with
      | none => cases hp2
      | some j =>
        obtain ⟨a, q1, o1, m1⟩ := fq_mem i p hp
        obtain ⟨b, q2, o2, m2⟩ := fq_mem j p hp2
        by_cases hab : a = b
        · subst hab
          exact hij (congrArg some (own_once nd o1 q1 q2))
        · exact h2 (some a) (some b) p (by simpa using hab) m1 m2
  · cases i with
    | none => cases hp
    | some j =>
      obtain ⟨a, q1, o1, m1⟩ := fq_mem j p hp
      exact ⟨(h3 _ p m1).1, fun _ _ _ => ⟨a, mem_ownIx.mpr ⟨o1, j, q1⟩, m1⟩⟩
  · -- back
    obtain ⟨fz, k1, k2, k3⟩ := E2.fr.ex
    have notS : ∀ i p, i ∉ ownIx ρ os → p ∈ fp (some i) → ¬ S' p := fun i p hi hp ⟨i', hi', hp'⟩ => by
      by_cases e : i = i'
      · subst e; exact hi hi'
      · exact h2 (some i) (some i') p (by simpa using e) hp hp'
    have keepO : ∀ i p, i ∉ ownIx ρ os → p ∈ fp (some i) → H2 p = H p := fun i p hi hp => by
      obtain ⟨u, hu, pl⟩ := tracked _ p hp
      rw [E2.fr.kp p u hu pl.1 (notS i p hi hp), hu]
    have old : ∀ i p, i ∉ ownIx ρ os → p ∈ fp (some i) → ∀ j, p ∉ fz j := fun i p hi hp j hj => by
      obtain ⟨u, hu, pl⟩ := tracked _ p hp
      exact notS i p hi hp ((k3 j p hj).2 u hu pl.1)
    have findJ : ∀ i, i ∈ ownIx ρ os → ∃ j : Nat, os[j]? = some (Opd.loc i) := fun i hi => (mem_ownIx.mp hi).2
    have pick : ∃ pos : Nat → Nat, ∀ i, i ∈ ownIx ρ os → os[pos i]? = some (Opd.loc i) := ⟨fun i => if h : i ∈ ownIx ρ os then (findJ i h).choose else 0, fun i hi => by
      dsimp only
      rw [dif_pos hi]
      exact (findJ i hi).choose_spec⟩
    obtain ⟨pos, hpos⟩ := pick
    have SG : Same G G2 := E2.fr.g0
    have frOf : ∀ {p}, B'.Fr p → B.Fr p := fun {p} z o e n => by
      by_cases hs : B.S p
      · exact hs
      · obtain ⟨i', _, hp'⟩ := z o (E.fr.kp p o e n hs) n
        exact (h3 _ p hp').2 o e n
    refine ⟨⟨⟨⟨fun i => match i with
      | none => fz none
      | some i => if i ∈ ownIx ρ os then fz (some (pos i)) else fp (some i), fun i => ?_, fun i j p hij hp hp2 => ?_, fun i p hp => ?_⟩, E2.fr.gh, E.fr.g0.trans SG, fun a ha => ?_, fun b o e n ns => ?_, E2.fr.nt, E2.fr.tb⟩, by rw [wb_len]; exact E.len⟩, SG⟩
    · cases i with
      | none => exact k1 none
      | some i =>
        show SlotOk C G2 H2 ((wb ρ os outs).getD i none, σ.getD i none) (if i ∈ ownIx ρ os then fz (some (pos i)) else fp (some i))
        obtain ⟨w1, w2⟩ := wb_get (i := i) (outs := outs) nd
        by_cases hi : i ∈ ownIx ρ os
        · rw [if_pos hi]
          have ho := (mem_ownIx.mp hi).1
          rw [w1 (pos i) ho (hpos i hi)]
          have z := k1 (some (pos i))
          obtain ⟨v, hv, ro⟩ := r.get (hpos i hi)
          have e1 : view outs (vs.map some) x (some (pos i)) = (outs.getD (pos i) none, σ.getD i none) := by
            show (outs.getD (pos i) none, (vs.map some).getD (pos i) none) = _
            rw [getD_some, hv, getD_st ro]
          rw [e1] at z
          exact z
        · rw [if_neg hi, w2 hi]
          exact (h1 (some i)).mono SG fun p hp => keepO i p hi hp
    · cases i with
      | none =>
        cases j with
        | none => exact hij rfl
        | some j =>
          dsimp only at hp hp2
          by_cases hj : j ∈ ownIx ρ os
          · rw [if_pos hj] at hp2
            exact k2 none (some (pos j)) p (by simp) hp hp2
          · rw [if_neg hj] at hp2
            exact old j p hj hp2 none hp
      | some i =>
        dsimp only at hp
        cases j with
        | none =>
          dsimp only at hp2
          by_cases hi : i ∈ ownIx ρ os
          · rw [if_pos hi] at hp
            exact k2 (some (pos i)) none p (by simp) hp hp2
          · rw [if_neg hi] at hp
            exact old i p hi hp none hp2
        | some j =>
          dsimp only at hp2
          by_cases hi : i ∈ ownIx ρ os
          · rw [if_pos hi] at hp
            by_cases hj : j ∈ ownIx ρ os
            · rw [if_pos hj] at hp2
              refine k2 (some (pos i)) (some (pos j)) p (fun z => hij ?_) hp hp2
              have z2 : pos i = pos j := by simpa using z
              have a1 := hpos i hi
              rw [z2, hpos j hj] at a1
              cases a1
              rfl
            · rw [if_neg hj] at hp2
              exact old j p hj hp2 _ hp
          · rw [if_neg hi] at hp
            by_cases hj : j ∈ ownIx ρ os
            · rw [if_pos hj] at hp2
              exact old i p hi hp _ hp2
            · rw [if_neg hj] at hp2
              exact h2 (some i) (some j) p hij hp hp2
    · have fresh : ∀ q, p ∈ fz q → G2 p = none ∧ B.Fr p := fun q hq => by
        obtain ⟨z1, z2⟩ := k3 q p hq
        exact ⟨z1, frOf z2⟩
      cases i with
      | none => exact fresh none hp
      | some i =>
        dsimp only at hp
        by_cases hi : i ∈ ownIx ρ os
        · rw [if_pos hi] at hp
          exact fresh _ hp
        · rw [if_neg hi] at hp
          refine ⟨?_, (h3 _ p hp).2⟩
          cases q : G2 p with
          | none => rfl
          | some u =>
            exfalso
            obtain ⟨u', hu, pl⟩ := tracked _ p hp
            rcases E2.fr.gf p (by rw [q]; simp) with z | z
            · exact z (h3 _ p hp).1
            · exact notS i p hi hp (z u' hu pl.1)
    · rcases E2.fr.gf a ha with z | z
      · exact E.fr.gf a z
      · exact .inr (frOf z)
    · exact E2.fr.kp b o (E.fr.kp b o e n ns) n fun ⟨i', _, hp'⟩ => ns ((h3 _ b hp').2 o e n)
end

section
variable {C : VC} {X : Cx} {W : WX} {k : Nat} {x : Str} {st : Stmt} {ps : List Str} {den : Den} {e : Expr} {es : List Expr} {t : TA} {ma : M (List Opd)} {p pos : Pos} {fd : FuncData}
theorem post_call {C : VC} {B : Bd} {ρ : En} {σ : L2.St} {G H : Hp} {Q : VK} {os : List Opd} {vs : List V} {n : Nat} (hn : vs.length = n) (E : EnvR C B ρ σ none G H) (r : OpdsR C σ G os vs) (P : PostE C B W σ G Q (callD den os ρ)) : spD C n den vs H Q (WE W σ) := by
  unfold callD at P
  cases q : argSV ρ os with
  | none => rw [q] at P; exact P.elim
  | some args =>
    rw [q] at P
    dsimp only at P
    by_cases nd : (ownIx ρ os).Nodup
    · rw [if_pos nd] at P
      obtain ⟨B', b1, b2, b3, b4, b5⟩ := call_env E r q nd
      refine ⟨hn, B', args, b1, fun j hj => b3 j (by omega), by rw [b2]; exact b4, ?_⟩
      cases q2 : den args with
      | stuck => rw [q2] at P; exact P
      | err c outs =>
        rw [q2] at P
        exact fun G' H' Ca E' hc => P G' H' Ca (b5 outs none G' H' E').1 hc
      | ok s outs =>
        rw [q2] at P
        exact fun v G' H' E' => P v G' H' (b5 outs _ G' H' E').1 (b5 outs _ G' H' E').2
    · rw [if_neg nd] at P
      exact P.elim
def tCallV (C : VC) (n : Nat) (den : Den) (W : WX) (t : TA) : TE := fun σ H Q => t σ H fun vs H1 => vs.length = n ∧ spD C n den vs H1 Q (WE W σ)
theorem snd_call {C : VC} {n : Nat} (ha : SndA C W t ma) (hl : ∀ ρ os ρ', ma ρ = .ok os ρ' → os.length = n) : SndE C W (tCallS (spD C n den) (WE W) t) (mCall den ma) := by
  intro B ρ σ G H Q E P
  refine ha B ρ σ G H _ E ?_
  unfold mCall at P
  rw [mbind] at P
  cases q : ma ρ with
  | stuck => rw [q] at P; exact P
  | err c ρ' => rw [q] at P; exact P
  | ok os ρ1 =>
    rw [q, bind_ok] at P
    exact fun vs G1 H1 E1 S1 r1 => post_call (r1.length.symm.trans (hl _ _ _ q)) E1 r1 (P.same S1)
/-- f(e, ..) -/
theorem se_call (F : FV C X.prog X.w X.base k x st ps den) (tk : Takes X W) (hr : Room k X.A) (hg : Gl X x) (ha : SA C X W (e :: es) t ma)
    (hb : ∀ (kV doc pm : Value) (an : Option Addr) (cdv ct : Value) (us : List Value), us.length = ps.length → bindArgs (PySem.W.fnOf x x (defArgs st) (defBody st) (defScope st) .none kV doc pm an cdv ct) ⟨us, []⟩ = pure (ps.zip us))
    (hl : Len ma ps.length) (hK : X.K = C.K := by rfl) (hm : X.mg = C.mg := by rfl)
    (hdb : (x == ("__debug__" : Str)) = false := by decide) (he : starEach (e :: es) X.env = (false, eval e X.env) :: starEach es X.env := by rfl) (hpl : (backTo pos (starEach es X.env)).any (·.1) = false := by rfl) :
    SE C X W (.Call (.Name x p) (e :: es) [] pos) (tCallS (spD C ps.length den) (WE W) t) (mCall den ma) := by
  refine ⟨?_, snd_call ha.snd hl⟩
  obtain ⟨fd, G, kV, doc, pm, an, cdv, ct, e1⟩ := F.fn
  rw [← hK, ← hm] at G
  refine pe_callS G hr hg (by rw [hm, hK]; exact F.gl) (by rw [hK]; exact F.kp) (.all fun us h => ?_) (passAt tk) ha.pa hdb he hpl
  rw [e1]
  exact hb kV doc pm an cdv ct us h
end
end VS

/-! VS5: operators, comparisons, subscripts, built-in functions. -/
namespace VS
open PySem PySem.Spec PyProof.Rows L2

section
variable {X : Cx}
theorem opOr {f : Value → Value → Sem Value} {r r' : R2} (h : OpR X f r) (h' : OpR X f r') : OpR X f (fun x y H Q => r x y H Q ∨ r' x y H Q) := by
  intro pins s σ H x y v u Q I rx ry z
  rcases z with z | z
  · exact h pins s σ H x y v u Q I rx ry z
  · exact h' pins s σ H x y v u Q I rx ry z
theorem callOr {f : Value} {r r' : List V → Hp → VK → Prop} (h : CallR X f r) (h' : CallR X f r') : CallR X f (fun x H Q => r x H Q ∨ r' x H Q) := by
  intro pins s σ H x v Q I rx z
  rcases z with z | z
  · exact h pins s σ H x v Q I rx z
  · exact h' pins s σ H x v Q I rx z
end

theorem opK {X : Cx} {f : Value → Value → Sem Value} {r : PySem.W.Frag → R2} {K : PySem.W.Frag} (h : OpR X f (r X.K)) (e : X.K = K := by rfl) : OpR X f (r K) := by rw [← e]; exact h
theorem crK {X : Cx} {f : Value} {r : PySem.W.Frag → List V → Hp → VK → Prop} {K : PySem.W.Frag} (h : CallR X f (r X.K)) (e : X.K = K := by rfl) : CallR X f (r K) := by rw [← e]; exact h
theorem ixK {X : Cx} {r : PySem.W.Frag → R2} {K : PySem.W.Frag} (h : IxR X (r X.K)) (e : X.K = K := by rfl) : IxR X (r K) := by rw [← e]; exact h
theorem pgK {X : Cx} {tg : Expr} {g : PySem.W.Frag → TG} {K : PySem.W.Frag} (h : PG X tg (g X.K)) (e : X.K = K := by rfl) : PG X tg (g K) := by rw [← e]; exact h
section
variable {C : VC} {G H : Hp} {v : V}
theorem rs_int {i : Int} (r : RpS C G H v (.int i)) : v = .int i := by cases (show Rp C G v (.int i) from r); rfl
theorem rs_bl {b : Bool} (r : RpS C G H v (.bl b)) : v = .bl b := by cases (show Rp C G v (.bl b) from r); rfl
theorem rs_str {x : Str} (r : RpS C G H v (.str x)) : v = .str x := by cases (show Rp C G v (.str x) from r); rfl
theorem rs_non (r : RpS C G H v .non) : v = .non := by cases (show Rp C G v .non from r); rfl
theorem rs_tup {xs : List D} (r : RpS C G H v (.tup xs)) (S : Same G H) : ∃ a vs, v = .ref a ∧ SqT C.K H a vs ∧ RpL C G vs xs := by
  cases (show Rp C G v (.tup xs) from r) with
  | tup h q => exact ⟨_, _, rfl, VS.Same.sqt S h, q⟩
theorem rs_lst {xs : List D} (r : RpS C G H v (.lst xs)) : ∃ a vs, v = .ref a ∧ H a = some (.lst vs) ∧ RpL C G vs xs := r
theorem rs_dic {xs : List (Key × D)} (r : RpS C G H v (.dic xs)) : ∃ a vs, v = .ref a ∧ H a = some (.dK vs) ∧ RpK C G vs xs := r
end

/-! ### arithmetic -/
def dAdd : D → D → Option Rv
  | .int i, .int j => some (.sc (.int (i + j)))
  | .lst xs, .lst ys => if xs.length + ys.length ≤ sizeLine then some (.nl (xs ++ ys)) else none
  | .tup xs, .tup ys => if xs ≠ [] ∧ ys ≠ [] ∧ xs.length + ys.length ≤ sizeLine then some (.nt (xs ++ ys)) else none
  | .str x, .str y => if x.length + y.length ≤ sizeLine then some (.sc (.str (x ++ y))) else none
  | _, _ => none
def dSub : D → D → Option Rv
  | .int i, .int j => some (.sc (.int (i - j)))
  | _, _ => none
noncomputable def dMul : D → D → Option Rv
  | .int i, .int j => @ite _ ((-(2 ^ 64) < i ∧ i < 2 ^ 64) ∨ (-(2 ^ 64) < j ∧ j < 2 ^ 64)) (Classical.propDecidable _) (some (.sc (.int (i * j)))) none
  | _, _ => none
def dMod : D → D → Option Rv
  | .int i, .int j => if j ≠ 0 then some (.sc (.int (i.fmod j))) else none
  | _, _ => none
noncomputable def dDiv : D → D → Option Rv
  | .int i, .int j => @ite _ (j ≠ 0 ∧ j.natAbs < 1073741824) (Classical.propDecidable _) (some (.sc (.int (i.fdiv j)))) none
  | _, _ => none
noncomputable def dPow : D → D → Option Rv
  | .int i, .int j => @ite _ (0 ≤ j ∧ j ≤ 1000000 ∧ i.natAbs < 2 ^ 64) (Classical.propDecidable _) (some (.sc (.int (i ^ j.toNat)))) none
  | _, _ => none
def dCmp (p : Int → Int → Bool) : D → D → Option Rv
  | .int i, .int j => some (.sc (.bl (p i j)))
  | _, _ => none
abbrev rAdd (K : PySem.W.Frag) : R2 := fun x y H Q => rI0 (fun i j => V.int (i + j)) x y H Q ∨ rCat x y H Q ∨ rCatT K x y H Q ∨ (∃ i j, x = .str i ∧ y = .str j ∧ i.length + j.length ≤ sizeLine ∧ Q (.str (i ++ j)) H)
section
variable {X : Cx} {C : VC}
theorem op_addX : OpR X (binaryOp .Add) (rAdd X.K) := opOr op_add (opOr op_cat (opOr op_catT op_add_str))
theorem rule_add : RuleB C (rAdd C.K) dAdd := by
  intro G H v w x y r Q S h1 h2 e q
  cases x <;> cases y <;> (try (cases e; done))
  · rename_i i j
    cases e
    exact .inl ⟨i, j, rs_int h1, rs_int h2, q⟩
  · rename_i i j
    dsimp only [dAdd] at e
    split at e
    · rename_i hs
      cases e
      exact .inr (.inr (.inr ⟨i, j, rs_str h1, rs_str h2, hs, q⟩))
    · cases e
  · rename_i xs ys
    dsimp only [dAdd] at e
    split at e
    · rename_i hs
      cases e
      obtain ⟨a, vs, rfl, b1, b2⟩ := rs_tup h1 S
      obtain ⟨b, us, rfl, c1, c2⟩ := rs_tup h2 S
      have l1 := b2.length
      have l2 := c2.length
      refine .inr (.inr (.inl ⟨a, b, vs, us, rfl, rfl, b1, c1, fun z => ?_, by rw [l1, l2]; exact hs.2.2, fun z => ?_, fun _ p hp => q _ p (b2.app c2) hp⟩))
      · rw [z] at l1
        exact hs.1 (List.length_eq_zero_iff.mp l1.symm)
      · rw [z] at l2
        exact (hs.2.1 (List.length_eq_zero_iff.mp l2.symm)).elim
    · cases e
  · rename_i xs ys
    dsimp only [dAdd] at e
    split at e
    · rename_i hs
      cases e
      obtain ⟨a, vs, rfl, b1, b2⟩ := rs_lst h1
      obtain ⟨b, us, rfl, c1, c2⟩ := rs_lst h2
      exact .inr (.inl ⟨a, b, vs, us, rfl, rfl, b1, c1, by rw [b2.length, c2.length]; exact hs, fun p hp => q _ p (b2.app c2) hp⟩)
    · cases e
theorem rule_sub : RuleB C (rI0 fun i j => .int (i - j)) dSub := by
  intro G H v w x y r Q S h1 h2 e q
  cases x <;> cases y <;> (try (cases e; done))
  cases e
  exact ⟨_, _, rs_int h1, rs_int h2, q⟩
theorem rule_mul : RuleB C (rI CMul fun i j => .int (i * j)) dMul := by
  intro G H v w x y r Q S h1 h2 e q
  cases x <;> cases y <;> (try (cases e; done))
  dsimp only [dMul] at e
  split at e
  · rename_i hs
    cases e
    exact ⟨_, _, rs_int h1, rs_int h2, hs, q⟩
  · cases e
theorem rule_mod : RuleB C (rI (fun _ j => j ≠ 0) fun i j => .int (i.fmod j)) dMod := by
  intro G H v w x y r Q S h1 h2 e q
  cases x <;> cases y <;> (try (cases e; done))
  dsimp only [dMod] at e
  split at e
  · rename_i hs
    cases e
    exact ⟨_, _, rs_int h1, rs_int h2, hs, q⟩
  · cases e
theorem rule_div : RuleB C (rI CDivN fun i j => .int (i.fdiv j)) dDiv := by
  intro G H v w x y r Q S h1 h2 e q
  cases x <;> cases y <;> (try (cases e; done))
  dsimp only [dDiv] at e
  split at e
  · rename_i hs
    cases e
    exact ⟨_, _, rs_int h1, rs_int h2, hs, q⟩
  · cases e
theorem rule_pow : RuleB C (rI CPow fun i j => .int (i ^ j.toNat)) dPow := by
  intro G H v w x y r Q S h1 h2 e q
  cases x <;> cases y <;> (try (cases e; done))
  dsimp only [dPow] at e
  split at e
  · rename_i hs
    cases e
    exact ⟨_, _, rs_int h1, rs_int h2, hs, q⟩
  · cases e
theorem rule_cmp {p : Int → Int → Bool} : RuleB C (rI0 fun i j => .bl (p i j)) (dCmp p) := by
  intro G H v w x y r Q S h1 h2 e q
  cases x <;> cases y <;> (try (cases e; done))
  cases e
  exact ⟨_, _, rs_int h1, rs_int h2, q⟩
end
abbrev dLt := dCmp fun i j => decide (i < j)
abbrev dLe := dCmp fun i j => decide (i ≤ j)
abbrev dGt := dCmp fun i j => decide (j < i)
abbrev dGe := dCmp fun i j => decide (j ≤ i)

/-! ### is -/
def isNon : D → Bool
  | .non => true
  | _ => false
def dIs (neg : Bool) : D → D → Option Rv
  | x, .non => some (.sc (.bl (neg ^^ isNon x)))
  | .bl a, .bl b => some (.sc (.bl (neg ^^ decide (a = b))))
  | _, _ => none
abbrev rIs : R2 := fun x y H Q => (y = .non ∧ Q (.bl (decide (x = .non))) H) ∨ rIsB x y H Q
abbrev rIsNot : R2 := fun x y H Q => (y = .non ∧ Q (.bl (!decide (x = .non))) H) ∨ rNotB x y H Q
section
variable {X : Cx} {C : VC} {G H : Hp} {v : V} {x : D}
theorem rs_isNon (r : RpS C G H v x) : decide (v = .non) = isNon x := by
  cases x with
  | non => rw [rs_non r]; rfl
  | bl b => rw [rs_bl r]; rfl
  | int b => rw [rs_int r]; rfl
  | str b => rw [rs_str r]; rfl
  | lst b => obtain ⟨a, vs, rfl, _⟩ := rs_lst r; rfl
  | dic b => obtain ⟨a, vs, rfl, _⟩ := rs_dic r; rfl
  | tup b => cases (show Rp C G v (.tup b) from r); rfl
  | ins a b =>
    obtain ⟨_, _, _, _, rfl, _⟩ := r
    rfl
  | exc a => cases (show Rp C G v (.exc a) from r); rfl
theorem op_isX : OpR X (compareOp .Is) rIs := opOr op_isN op_isBl
theorem op_isNotX : OpR X (compareOp .IsNot) rIsNot := opOr op_notN op_notBl
theorem rule_is : RuleB C rIs (dIs false) := by
  intro G H v w x y r Q S h1 h2 e q
  cases y with
  | non =>
    have e : some (Rv.sc (.bl (false ^^ isNon x))) = some r := by cases x <;> exact e
    cases e
    refine .inl ⟨rs_non h2, ?_⟩
    rw [rs_isNon h1]
    rw [Bool.false_xor] at q
    exact q
  | bl b =>
    cases x with
    | bl a =>
      cases e
      rw [Bool.false_xor] at q
      exact .inr ⟨a, b, rs_bl h1, rs_bl h2, q⟩
    | _ => cases e
  | _ => cases x <;> cases e
theorem rule_isNot : RuleB C rIsNot (dIs true) := by
  intro G H v w x y r Q S h1 h2 e q
  cases y with
  | non =>
    have e : some (Rv.sc (.bl (true ^^ isNon x))) = some r := by cases x <;> exact e
    cases e
    refine .inl ⟨rs_non h2, ?_⟩
    rw [rs_isNon h1]
    rw [Bool.true_xor] at q
    exact q
  | bl b =>
    cases x with
    | bl a =>
      cases e
      rw [Bool.true_xor] at q
      exact .inr ⟨a, b, rs_bl h1, rs_bl h2, q⟩
    | _ => cases e
  | _ => cases x <;> cases e
end

/-! ### ==, in -/
mutual
def toPy : D → Option PyData
  | .non => some .none
  | .bl b => some (.bool b)
  | .int i => some (.int i)
  | .str x => some (.str x)
  | .tup xs => (toPys xs).map .tuple
  | .lst xs => (toPys xs).map .list
  | _ => none
def toPys : List D → Option (List PyData)
  | [] => some []
  | x :: xs => (toPy x).bind fun d => (toPys xs).map (d :: ·)
end
section
variable {C : VC} {H : Hp}
mutual
theorem dp_of : ∀ {v : V} {x : D} {d : PyData}, Rp C H v x → toPy x = some d → Dp C.K H v d
  | _, _, _, .non, h => by simp only [toPy] at h; cases h; exact .non
  | _, _, _, .bl b, h => by simp only [toPy] at h; cases h; exact .bl b
  | _, _, _, .int b, h => by simp only [toPy] at h; cases h; exact .int b
  | _, _, _, .str b, h => by simp only [toPy] at h; cases h; exact .str b
  | _, _, _, .tup (ds := ds) a r, h => by
    simp only [toPy] at h
    cases q : toPys ds with
    | none => rw [q] at h; cases h
    | some es =>
      rw [q] at h
      cases h
      exact .tup a (dp_ofs r q)
  | _, _, _, .lst (ds := ds) a r, h => by
    simp only [toPy] at h
    cases q : toPys ds with
    | none => rw [q] at h; cases h
    | some es =>
      rw [q] at h
      cases h
      exact .lst (.of a) (dp_ofs r q)
  | _, _, _, .dic a r, h => by simp only [toPy] at h; cases h
  | _, _, _, .ins a b c r, h => by simp only [toPy] at h; cases h
  | _, _, _, .exc a r, h => by simp only [toPy] at h; cases h
theorem dp_ofs : ∀ {vs : List V} {xs : List D} {ds : List PyData}, RpL C H vs xs → toPys xs = some ds → DpAll C.K H vs ds
  | _, _, _, .nil, h => by simp only [toPys] at h; cases h; exact .nil
  | _, _, _, .cons (d := d) (ds := ds) r t, h => by
    simp only [toPys] at h
    cases q : toPy d with
    | none => rw [q] at h; cases h
    | some e =>
      rw [q] at h
      have h : (toPys ds).map (e :: ·) = some _ := h
      cases q2 : toPys ds with
      | none => rw [q2] at h; cases h
      | some es =>
        rw [q2] at h
        cases h
        exact .cons (dp_of r q) (dp_ofs t q2)
end
end
/-- the data of x, if it may be compared -/
def cmpD (x : D) : Option PyData := (toPy x).bind fun d => if SeqAt.shaped d = true then some d else none
theorem cmpD_some {x : D} {d : PyData} (h : cmpD x = some d) : toPy x = some d ∧ SeqAt.shaped d = true := by
  unfold cmpD at h
  cases q : toPy x with
  | none => rw [q] at h; cases h
  | some e =>
    rw [q] at h
    have h : (if SeqAt.shaped e = true then some e else none) = some d := h
    by_cases hs : SeqAt.shaped e = true
    · rw [if_pos hs] at h
      cases h
      exact ⟨rfl, hs⟩
    · rw [if_neg hs] at h
      cases h
def dEq (neg : Bool) (x y : D) : Option Rv := (cmpD x).bind fun d => (cmpD y).bind fun e => some (.sc (.bl (neg ^^ PyData.eqv d e)))
def dIn (neg : Bool) : D → D → Option Rv
  | x, .lst ys => (cmpD x).bind fun d => (cmpD (.lst ys)).bind fun e => match e with
    | .list es => some (.sc (.bl (neg ^^ es.any fun z => PyData.eqv z d)))
    | _ => none
  | _, _ => none
section
variable {X : Cx} {C : VC} {G H : Hp} {v : V} {x : D}
theorem rule_eqG {rr : R2} (neg : Bool) (hrr : ∀ x y H Q d e, Dp C.K H x d → Dp C.K H y e → SeqAt.shaped d = true → SeqAt.shaped e = true → Q (.bl (neg ^^ PyData.eqv d e)) H → rr x y H Q) : RuleB C rr (dEq neg) := by
  intro G H v w x y r Q S h1 h2 e q
  unfold dEq at e
  cases q1 : cmpD x with
  | none => rw [q1] at e; cases e
  | some d =>
    rw [q1] at e
    cases q2 : cmpD y with
    | none => rw [q2] at e; cases e
    | some d' =>
      rw [q2] at e
      cases e
      obtain ⟨a1, a2⟩ := cmpD_some q1
      obtain ⟨b1, b2⟩ := cmpD_some q2
      exact hrr v w H Q d d' (dp_of (h1.toH S) a1) (dp_of (h2.toH S) b1) a2 b2 q
theorem rule_eq : RuleB C (rEqD C.K) (dEq false) := rule_eqG false fun x y H Q d e h1 h2 h3 h4 q => ⟨d, e, h1, h2, h3, h4, by rw [Bool.false_xor] at q; exact q⟩
theorem rule_ne : RuleB C (rNeD C.K) (dEq true) := rule_eqG true fun x y H Q d e h1 h2 h3 h4 q => ⟨d, e, h1, h2, h3, h4, by rw [Bool.true_xor] at q; exact q⟩
theorem rule_inG {rr : R2} (neg : Bool) (hrr : ∀ x y H Q d es, Dp C.K H x d → Dp C.K H y (.list es) → SeqAt.shaped d = true → SeqAt.shaped (.list es) = true → Q (.bl (neg ^^ es.any fun z => PyData.eqv z d)) H → rr x y H Q) : RuleB C rr (dIn neg) := by
  intro G H v w x y r Q S h1 h2 e q
  cases y with
  | lst ys =>
    have e : ((cmpD x).bind fun d => (cmpD (.lst ys)).bind fun e => match e with
      | .list es => some (Rv.sc (.bl (neg ^^ es.any fun z => PyData.eqv z d)))
      | _ => none) = some r := by cases x <;> exact e
    cases q1 : cmpD x with
    | none => rw [q1] at e; cases e
    | some d =>
      rw [q1] at e
      cases q2 : cmpD (.lst ys) with
      | none => rw [q2] at e; cases e
      | some d' =>
        rw [q2] at e
        obtain ⟨a1, a2⟩ := cmpD_some q1
        obtain ⟨b1, b2⟩ := cmpD_some q2
        cases d' with
        | list es =>
          cases e
          exact hrr v w H Q d es (dp_of (h1.toH S) a1) (dp_of (h2.toH S) b1) a2 b2 q
        | _ => cases e
  | _ => cases x <;> cases e
theorem rule_in : RuleB C (rInD C.K) (dIn false) := rule_inG false fun x y H Q d e h1 h2 h3 h4 q => ⟨d, e, h1, h2, h3, h4, by rw [Bool.false_xor] at q; exact q⟩
theorem rule_notIn : RuleB C (rNotInD C.K) (dIn true) := rule_inG true fun x y H Q d e h1 h2 h3 h4 q => ⟨d, e, h1, h2, h3, h4, by rw [Bool.true_xor] at q; exact q⟩
end

/-! ### subscripts -/
def dIx : D → D → Option Rv
  | .lst xs, .int i => (atI xs i).map .it
  | .tup xs, .int i => (atI xs i).map .it
  | .str z, .int i => if z.length ≤ sizeLine then (atI z.cps.toList i).map fun c => .sc (.str ⟨#[c]⟩) else none
  | _, _ => none
section
variable {C : VC} {G H : Hp}
theorem RpL.at {vs : List V} {xs : List D} {i : Int} {x : D} (r : RpL C G vs xs) (h : atI xs i = some x) : ∃ v, atI vs i = some v ∧ Rp C G v x := by
  unfold atI at h ⊢
  rw [r.length]
  cases q : ixN xs.length i with
  | none => rw [q] at h; cases h
  | some j =>
    rw [q] at h
    exact r.get h
theorem rule_ix : RuleB C (rIx C.K) dIx := by
  intro G H v w x y r Q S h1 h2 e q
  cases y with
  | int i =>
    have ew := rs_int h2
    subst ew
    cases x with
    | lst xs =>
      obtain ⟨a, vs, rfl, b1, b2⟩ := rs_lst h1
      have e : (atI xs i).map Rv.it = some r := e
      cases q2 : atI xs i with
      | none => rw [q2] at e; cases e
      | some x =>
        rw [q2] at e
        cases e
        obtain ⟨u, c1, c2⟩ := b2.at q2
        exact .inl ⟨a, vs, i, u, rfl, rfl, .of b1, c1, q u c2⟩
    | tup xs =>
      obtain ⟨a, vs, rfl, b1, b2⟩ := rs_tup h1 S
      have e : (atI xs i).map Rv.it = some r := e
      cases q2 : atI xs i with
      | none => rw [q2] at e; cases e
      | some x =>
        rw [q2] at e
        cases e
        obtain ⟨u, c1, c2⟩ := b2.at q2
        exact .inr (.inl ⟨a, vs, i, u, rfl, rfl, b1, c1, q u c2⟩)
    | str z =>
      have ev := rs_str h1
      subst ev
      have e : (if z.length ≤ sizeLine then (atI z.cps.toList i).map fun c => Rv.sc (.str ⟨#[c]⟩) else none) = some r := e
      split at e
      · rename_i hz
        cases q2 : atI z.cps.toList i with
        | none => rw [q2] at e; cases e
        | some c =>
          rw [q2] at e
          cases e
          exact .inr (.inr ⟨z, i, c, rfl, rfl, hz, q2, q⟩)
      · cases e
    | _ => cases e
  | _ => cases x <;> cases e
end

/-! ### built-in functions -/
inductive RpSL (C : VC) (G H : Hp) : List V → List D → Prop
  | nil : RpSL C G H [] []
  | cons {v : V} {x : D} {vs : List V} {xs : List D} : RpS C G H v x → RpSL C G H vs xs → RpSL C G H (v :: vs) (x :: xs)
def lookAll (ρ : En) : List Opd → Option (List D)
  | [] => some []
  | o :: os => (vwO ρ o).bind fun x => (lookAll ρ os).map (x :: ·)
@[simp] theorem lookAll_nil (ρ : En) : lookAll ρ [] = some [] := (rfl)
@[simp] theorem lookAll_cons (ρ : En) (o : Opd) (os : List Opd) : lookAll ρ (o :: os) = (vwO ρ o).bind fun x => (lookAll ρ os).map (x :: ·) := (rfl)
/-- a function of the arguments' data -/
def mFn (f : List D → Option Rv) (a : M (List Opd)) : M Ref := M.bind a fun os ρ => (M.opt ((lookAll ρ os).bind f)).bind (fun r => M.ret r.ref) ρ
def RuleC (C : VC) (rr : List V → Hp → VK → Prop) (f : List D → Option Rv) : Prop := ∀ G H vs xs r Q, Same G H → RpSL C G H vs xs → f xs = some r → Fin C G H Q r → rr vs H Q
section
variable {C : VC} {X : Cx} {W : WX} {C : VC} {B : Bd} {ρ : En} {σ : L2.St} {G H : Hp} {e : Expr} {es : List Expr} {t : TA} {ma : M (List Opd)} {x : Str} {p pos : Pos} {id T' : String} {rr : List V → Hp → VK → Prop} {f : List D → Option Rv}
theorem lookAll_rp (E : EnvR C B ρ σ none G H) : ∀ {os : List Opd} {vs : List V} {xs : List D}, OpdsR C σ G os vs → lookAll ρ os = some xs → RpSL C G H vs xs
  | _, _, _, .nil, h => by cases h; exact .nil
  | _, _, _, .cons (o := o) (os := os) r t, h => by
    unfold lookAll at h
    cases q : vwO ρ o with
    | none => rw [q] at h; cases h
    | some y =>
      rw [q] at h
      have h : (lookAll ρ os).map (y :: ·) = some _ := h
      cases q2 : lookAll ρ os with
      | none => rw [q2] at h; cases h
      | some ys =>
        rw [q2] at h
        cases h
        exact .cons (vw_rp E r q) (lookAll_rp E t q2)
theorem snd_fn (hr : RuleC C rr f) (ha : SndA C W t ma) : SndE C W (tCB rr t) (mFn f ma) := by
  intro B ρ σ G H Q E P
  refine ha B ρ σ G H _ E ?_
  unfold mFn at P
  rw [mbind] at P
  cases q : ma ρ with
  | stuck => rw [q] at P; exact P
  | err c ρ' => rw [q] at P; exact P
  | ok os ρ1 =>
    rw [q, bind_ok] at P
    intro vs G1 H1 E1 S1 r1
    cases q2 : lookAll ρ1 os with
    | none => rw [q2] at P; exact P.elim
    | some xs =>
      rw [q2] at P
      cases q3 : f xs with
      | none =>
        rw [show (some xs).bind f = none from q3] at P
        exact P.elim
      | some r =>
        rw [show (some xs).bind f = some r from q3] at P
        exact hr G1 H1 vs xs r Q E1.fr.gh (lookAll_rp E1 r1 q2) q3 (fin_of E1 S1 P)
theorem se_fnB (hc : CallR X (.builtin id) rr) (hr : RuleC C rr f) (hg : Gl X x) (hm : X.mg x = none) (hv : bootBuiltins x = some (.builtin id)) (ha : SA C X W (e :: es) t ma)
    (hn : x ≠ "__name__" := by decide) (hdb : (x == ("__debug__" : Str)) = false := by decide) (he : starEach (e :: es) X.env = (false, eval e X.env) :: starEach es X.env := by rfl) (hpl : (backTo pos (starEach es X.env)).any (·.1) = false := by rfl) :
    SE C X W (.Call (.Name x p) (e :: es) [] pos) (tCB rr t) (mFn f ma) := ⟨pe_callB hc hg hm hv ha.pa hn hdb he hpl, snd_fn hr ha.snd⟩
theorem se_fnT (hc : CallR X (.type T') rr) (hr : RuleC C rr f) (hg : Gl X x) (hm : X.mg x = none) (hv : bootBuiltins x = some (.type T')) (ha : SA C X W (e :: es) t ma)
    (hn : x ≠ "__name__" := by decide) (hdb : (x == ("__debug__" : Str)) = false := by decide) (he : starEach (e :: es) X.env = (false, eval e X.env) :: starEach es X.env := by rfl) (hpl : (backTo pos (starEach es X.env)).any (·.1) = false := by rfl) :
    SE C X W (.Call (.Name x p) (e :: es) [] pos) (tCB rr t) (mFn f ma) := ⟨pe_callTy hc hg hm hv ha.pa hn hdb he hpl, snd_fn hr ha.snd⟩
end
def fLen : List D → Option Rv
  | [.lst xs] => some (.sc (.int xs.length))
  | [.tup xs] => some (.sc (.int xs.length))
  | [.dic xs] => some (.sc (.int xs.length))
  | [.str z] => if z.length ≤ sizeLine then some (.sc (.int z.length)) else none
  | _ => none
def fAbs : List D → Option Rv
  | [.int i] => some (.sc (.int (if i < 0 then -i else i)))
  | _ => none
def fMax : List D → Option Rv
  | [.int i, .int j] => some (.sc (.int (if j > i then j else i)))
  | _ => none
def fMin : List D → Option Rv
  | [.int i, .int j] => some (.sc (.int (if j < i then j else i)))
  | _ => none
def fInt : List D → Option Rv
  | [.int i] => some (.sc (.int i))
  | [.bl k] => some (.sc (.int (if k then 1 else 0)))
  | _ => none
def fList : List D → Option Rv
  | [.lst xs] => some (.nl xs)
  | [.tup xs] => some (.nl xs)
  | _ => none
def fTuple : List D → Option Rv
  | [.lst xs] => some (.nt xs)
  | [.tup xs] => some (.it (.tup xs))
  | _ => none
def bools : List D → Option (List Bool)
  | [] => some []
  | .bl b :: xs => (bools xs).map (b :: ·)
  | _ => none
def fAll : List D → Option Rv
  | [.lst xs] => (bools xs).map fun bs => .sc (.bl (bs.all id))
  | _ => none
def fAny : List D → Option Rv
  | [.lst xs] => (bools xs).map fun bs => .sc (.bl (bs.any id))
  | _ => none
def fStr : List D → Option Rv
  | [.int i] => if i.natAbs.log2 < 1920 then some (.sc (.str (toString i))) else none
  | _ => none
abbrev rLenX (K : PySem.W.Frag) : List V → Hp → VK → Prop := fun xs H Q => (∃ p ys, xs = [.ref p] ∧ (SqL K H p ys ∨ SqT K H p ys) ∧ Q (.int ys.length) H) ∨ (∃ a kvs, xs = [V.ref a] ∧ H a = some (.dK kvs) ∧ Q (.int kvs.length) H) ∨ (∃ z, xs = [.str z] ∧ z.length ≤ sizeLine ∧ Q (.int z.length) H)
section
variable {X : Cx} {C : VC} {G H : Hp}
theorem RpSL.one {vs : List V} {x : D} (r : RpSL C G H vs [x]) : ∃ v, vs = [v] ∧ RpS C G H v x := by
  cases r with
  | cons a t => cases t; exact ⟨_, rfl, a⟩
theorem RpSL.two {vs : List V} {x y : D} (r : RpSL C G H vs [x, y]) : ∃ v w, vs = [v, w] ∧ RpS C G H v x ∧ RpS C G H w y := by
  cases r with
  | cons a t =>
    cases t with
    | cons b t => cases t; exact ⟨_, _, rfl, a, b⟩
theorem RpK.length : ∀ {v : List (Key × V)} {d : List (Key × D)}, RpK C G v d → v.length = d.length
  | _, _, .nil => rfl
  | _, _, .cons _ t => congrArg Nat.succ (RpK.length t)
theorem cr_lenX : CallR X (.builtin "len") (rLenX X.K) := callOr call_len_seq (callOr call_lenD call_len_str)
theorem rule_len : RuleC C (rLenX C.K) fLen := by
  intro G H vs xs r Q S h e q
  unfold fLen at e
  split at e
  · obtain ⟨v, rfl, hv⟩ := h.one
    obtain ⟨a, us, rfl, b1, b2⟩ := rs_lst hv
    cases e
    refine .inl ⟨a, us, rfl, .inl (.of b1), ?_⟩
    rw [b2.length]
    exact q
  · obtain ⟨v, rfl, hv⟩ := h.one
    obtain ⟨a, us, rfl, b1, b2⟩ := rs_tup hv S
    cases e
    refine .inl ⟨a, us, rfl, .inr b1, ?_⟩
    rw [b2.length]
    exact q
  · obtain ⟨v, rfl, hv⟩ := h.one
    obtain ⟨a, us, rfl, b1, b2⟩ := rs_dic hv
    cases e
    refine .inr (.inl ⟨a, us, rfl, b1, ?_⟩)
    rw [b2.length]
    exact q
  · obtain ⟨v, rfl, hv⟩ := h.one
    have ev := rs_str hv
    subst ev
    split at e
    · rename_i hz
      cases e
      exact .inr (.inr ⟨_, rfl, hz, q⟩)
    · cases e
  · cases e
theorem rule_abs : RuleC C (fun xs H Q => ∃ i, xs = [.int i] ∧ Q (.int (if i < 0 then -i else i)) H) fAbs := by
  intro G H vs xs r Q S h e q
  unfold fAbs at e
  split at e
  · obtain ⟨v, rfl, hv⟩ := h.one
    cases e
    rw [rs_int hv]
    exact ⟨_, rfl, q⟩
  · cases e
theorem rule_max : RuleC C (fun xs H Q => ∃ i j, xs = [.int i, .int j] ∧ Q (.int (if j > i then j else i)) H) fMax := by
  intro G H vs xs r Q S h e q
  unfold fMax at e
  split at e
  · obtain ⟨v, w, rfl, h1, h2⟩ := h.two
    cases e
    rw [rs_int h1, rs_int h2]
    exact ⟨_, _, rfl, q⟩
  · cases e
theorem rule_min : RuleC C (fun xs H Q => ∃ i j, xs = [.int i, .int j] ∧ Q (.int (if j < i then j else i)) H) fMin := by
  intro G H vs xs r Q S h e q
  unfold fMin at e
  split at e
  · obtain ⟨v, w, rfl, h1, h2⟩ := h.two
    cases e
    rw [rs_int h1, rs_int h2]
    exact ⟨_, _, rfl, q⟩
  · cases e
theorem rule_int : RuleC C (fun xs H Q => (∃ i, xs = [.int i] ∧ Q (.int i) H) ∨ ∃ k, xs = [.bl k] ∧ Q (.int (if k then 1 else 0)) H) fInt := by
  intro G H vs xs r Q S h e q
  unfold fInt at e
  split at e
  · obtain ⟨v, rfl, hv⟩ := h.one
    cases e
    rw [rs_int hv]
    exact .inl ⟨_, rfl, q⟩
  · obtain ⟨v, rfl, hv⟩ := h.one
    cases e
    rw [rs_bl hv]
    exact .inr ⟨_, rfl, q⟩
  · cases e
theorem rule_list : RuleC C (fun xs H Q => ∃ p ys, xs = [.ref p] ∧ (SqL C.K H p ys ∨ SqT C.K H p ys) ∧ ∀ l, H l = none → Q (.ref l) (upd H l (.lst ys))) fList := by
  intro G H vs xs r Q S h e q
  unfold fList at e
  split at e
  · obtain ⟨v, rfl, hv⟩ := h.one
    obtain ⟨a, us, rfl, b1, b2⟩ := rs_lst hv
    cases e
    exact ⟨a, us, rfl, .inl (.of b1), fun l hl => q us l b2 hl⟩
  · obtain ⟨v, rfl, hv⟩ := h.one
    obtain ⟨a, us, rfl, b1, b2⟩ := rs_tup hv S
    cases e
    exact ⟨a, us, rfl, .inr b1, fun l hl => q us l b2 hl⟩
  · cases e
theorem rule_tuple : RuleC C (fun xs H Q => ∃ p ys, xs = [.ref p] ∧ ((SqL C.K H p ys ∧ ∀ l, H l = none → Q (.ref l) (upd H l (.tup ys))) ∨ (SqT C.K H p ys ∧ Q (.ref p) H))) fTuple := by
  intro G H vs xs r Q S h e q
  unfold fTuple at e
  split at e
  · obtain ⟨v, rfl, hv⟩ := h.one
    obtain ⟨a, us, rfl, b1, b2⟩ := rs_lst hv
    cases e
    exact ⟨a, us, rfl, .inl ⟨.of b1, fun l hl => q us l b2 hl⟩⟩
  · obtain ⟨v, rfl, hv⟩ := h.one
    obtain ⟨a, us, rfl, b1, b2⟩ := rs_tup hv S
    cases e
    exact ⟨a, us, rfl, .inr ⟨b1, q _ hv⟩⟩
  · cases e
theorem rpl_bools : ∀ {vs : List V} {xs : List D} {bs : List Bool}, RpL C G vs xs → bools xs = some bs → vs = bs.map V.bl
  | _, _, _, .nil, h => by cases h; rfl
  | _, _, _, .cons (d := d) (ds := ds) r t, h => by
    cases d with
    | bl b =>
      have h : (bools ds).map (b :: ·) = some _ := h
      cases q : bools ds with
      | none => rw [q] at h; cases h
      | some cs =>
        rw [q] at h
        cases h
        cases r
        rw [rpl_bools t q]
        rfl
    | _ => cases h
theorem rule_all : RuleC C (rAll C.K) fAll := by
  intro G H vs xs r Q S h e q
  unfold fAll at e
  split at e
  · obtain ⟨v, rfl, hv⟩ := h.one
    obtain ⟨a, us, rfl, b1, b2⟩ := rs_lst hv
    rename_i ys
    cases q2 : bools ys with
    | none => rw [q2] at e; cases e
    | some bs =>
      rw [q2] at e
      cases e
      refine ⟨a, bs, rfl, ?_, q⟩
      rw [← rpl_bools b2 q2]
      exact .of b1
  · cases e
theorem rule_any : RuleC C (rAny C.K) fAny := by
  intro G H vs xs r Q S h e q
  unfold fAny at e
  split at e
  · obtain ⟨v, rfl, hv⟩ := h.one
    obtain ⟨a, us, rfl, b1, b2⟩ := rs_lst hv
    rename_i ys
    cases q2 : bools ys with
    | none => rw [q2] at e; cases e
    | some bs =>
      rw [q2] at e
      cases e
      refine ⟨a, bs, rfl, ?_, q⟩
      rw [← rpl_bools b2 q2]
      exact .of b1
  · cases e
theorem rule_str : RuleC C (fun xs H Q => ∃ i, xs = [.int i] ∧ i.natAbs.log2 < 1920 ∧ Q (.str (toString i)) H) fStr := by
  intro G H vs xs r Q S h e q
  unfold fStr at e
  split at e
  · obtain ⟨v, rfl, hv⟩ := h.one
    split at e
    · rename_i hz
      cases e
      rw [rs_int hv]
      exact ⟨_, rfl, hz, q⟩
    · cases e
  · cases e
end
/-! ### -x -/
def dNeg : D → Option Rv
  | .int i => some (.sc (.int (-i)))
  | _ => none
def mUn (f : D → Option Rv) (a : M Ref) : M Ref := M.bind (val a) fun x => M.bind (M.opt (f x)) fun r => M.ret r.ref
section
variable {C : VC} {X : Cx} {W : WX} {e : Expr} {te : TE} {me : M Ref} {pos : Pos}
theorem snd_neg {C : VC} (h : SndE C W te me) : SndE C W (tUn (rU fun i => .int (-i)) te) (mUn dNeg me) := by
  intro B ρ σ G H Q E P
  refine h.v B ρ σ G H _ E ?_
  unfold mUn at P
  rw [mbind] at P
  cases q : val me ρ with
  | stuck => rw [q] at P; exact P
  | err c ρ' => rw [q] at P; exact P
  | ok x ρ1 =>
    rw [q, bind_ok, mbind] at P
    intro v G1 H1 E1 S1 r1
    cases x with
    | int i => exact ⟨i, rs_int r1, P _ G1 H1 (E1.res (Sc.rp (.int (-i)))) S1⟩
    | _ => exact P.elim
theorem se_neg (h : SE C X W e te me) : SE C X W (.UnaryOp .USub e pos) (tUn (rU fun i => .int (-i)) te) (mUn dNeg me) := ⟨pe_un un_neg h.pe, snd_neg h.snd⟩
end
end VS

/-! VS6: displays, targets, for loops, list comprehensions. -/
namespace VS
open PySem PySem.Spec PyProof.Rows L2

/-! ### a thing held aside -/
theorem FR.frame {C : VC} {B : Bd} {vw : Option Nat → Slot} {s : SV} {v : V} {G H : Hp} {j0 : Option Nat} (F : FR C B vw G H) (hx : vw j0 = (some s, some v)) :
    ∃ B' : Bd, B'.pv = B.pv ∧ FR C B' (upS vw j0 (none, none)) G H ∧ ∀ vw2 G2 H2, FR C B' vw2 G2 H2 → Same G G2 ∧ ∀ i, FR C B (upS vw2 i (some s, some v)) G2 H2 := by
  obtain ⟨fp, h1, h2, h3⟩ := F.ex
  let S' : Addr → Prop := fun p => ∃ i, i ≠ j0 ∧ p ∈ fp i
  let B' : Bd := ⟨H, G, S', B.pv⟩
  have E0 : FR C B' (upS vw j0 (none, none)) G H := by
    refine ⟨⟨fun i => if i = j0 then [] else fp i, fun i => ?_, fun i j p hij hp => ?_, fun i p hp => ?_⟩, F.gh, Same.refl _, fun a h => .inl h, fun b o e _ _ => e, F.nt, F.tb⟩
    · dsimp only
      by_cases hi : i = j0
      · rw [hi, upS_same, if_pos rfl]
        rfl
      · rw [upS_ne hi, if_neg hi]
        exact h1 i
    · dsimp only at hp ⊢
      by_cases hi : i = j0
      · rw [if_pos hi] at hp; cases hp
      · rw [if_neg hi] at hp
        by_cases hj : j = j0
        · rw [if_pos hj]; exact List.not_mem_nil
        · rw [if_neg hj]; exact h2 _ _ p hij hp
    · dsimp only at hp
      by_cases hi : i = j0
      · rw [if_pos hi] at hp; cases hp
      · rw [if_neg hi] at hp
        exact ⟨(h3 _ p hp).1, fun _ _ _ => ⟨i, hi, hp⟩⟩
  refine ⟨B', rfl, E0, fun vw2 G2 H2 E2 => ?_⟩
  obtain ⟨fz, k1, k2, k3⟩ := E2.ex
  have notS : ∀ p, p ∈ fp j0 → ¬ S' p := fun p hp ⟨i, hn, hi⟩ => h2 j0 i p (Ne.symm hn) hp hi
  have trk : ∀ p, p ∈ fp j0 → ∃ u, H p = some u ∧ Plain u := fun p hp => (h1 j0).there hp
  have keepO : ∀ p, p ∈ fp j0 → H2 p = H p := fun p hp => by
    obtain ⟨u, hu, pl⟩ := trk p hp
    rw [E2.kp p u hu pl.1 (notS p hp), hu]
  have old : ∀ p, p ∈ fp j0 → ∀ j, p ∉ fz j := fun p hp j hj => by
    obtain ⟨u, hu, pl⟩ := trk p hp
    exact notS p hp ((k3 j p hj).2 u hu pl.1)
  have SG : Same G G2 := E2.g0
  have frOf : ∀ {p}, B'.Fr p → B.Fr p := fun {p} z o e n => by
    by_cases hs : B.S p
    · exact hs
    · obtain ⟨i', _, hp'⟩ := z o (F.kp p o e n hs) n
      exact (h3 _ p hp').2 o e n
  refine ⟨SG, fun i0 => ⟨⟨fun i => if i = i0 then fp j0 else fz i, fun i => ?_, fun i j p hij hp => ?_, fun i p hp => ?_⟩, E2.gh, F.g0.trans SG, fun a ha => ?_, fun b o e n ns => ?_, E2.nt, E2.tb⟩⟩
  · dsimp only
    by_cases hi : i = i0
    · rw [hi, upS_same, if_pos rfl]
      have z := h1 j0
      rw [hx] at z
      exact z.mono SG fun p hp => keepO p hp
    · rw [upS_ne hi, if_neg hi]
      exact k1 i
  · dsimp only at hp ⊢
    by_cases hi : i = i0
    · rw [if_pos hi] at hp
      rw [if_neg (fun z => hij (hi.trans z.symm))]
      exact old p hp j
    · rw [if_neg hi] at hp
      by_cases hj : j = i0
      · rw [if_pos hj]; exact fun z => old p z i hp
      · rw [if_neg hj]; exact k2 _ _ p hij hp
  · dsimp only at hp
    by_cases hi : i = i0
    · rw [if_pos hi] at hp
      refine ⟨?_, (h3 _ p hp).2⟩
      cases q : G2 p with
      | none => rfl
      | some u =>
        exfalso
        obtain ⟨u', hu, pl⟩ := trk p hp
        rcases E2.gf p (by rw [q]; simp) with z | z
        · exact z (h3 _ p hp).1
        · exact notS p hp (z u' hu pl.1)
    · rw [if_neg hi] at hp
      exact ⟨(k3 _ p hp).1, frOf (k3 _ p hp).2⟩
  · rcases E2.gf a ha with z | z
    · exact F.gf a z
    · exact .inr (frOf z)
  · exact E2.kp b o (F.kp b o e n ns) n fun ⟨i', _, hi'⟩ => ns ((h3 _ b hi').2 o e n)
theorem EnvR.frame {C : VC} {B : Bd} {ρ : En} {σ : L2.St} {s : SV} {v : V} {G H : Hp} (E : EnvR C B ρ σ (some (s, v)) G H) :
    ∃ B' : Bd, B'.pv = B.pv ∧ EnvR C B' ρ σ none G H ∧ (∀ ρ' σ' G2 H2, EnvR C B' ρ' σ' none G2 H2 → EnvR C B ρ' σ' (some (s, v)) G2 H2 ∧ Same G G2) ∧
      ∀ ρ' σ' x G2 H2 i, i < ρ'.length → EnvR C B' ρ' σ' x G2 H2 → EnvR C B (ρ'.set i (some s)) (σ'.set i (some v)) x G2 H2 ∧ Same G G2 := by
  obtain ⟨B', b1, b2, b3⟩ := E.fr.frame (j0 := none) rfl
  refine ⟨B', b1, ⟨?_, E.len⟩, fun ρ' σ' G2 H2 E2 => ?_, fun ρ' σ' x G2 H2 i hi E2 => ?_⟩
  · rw [show ((none, none) : Slot) = ((none : Option (SV × V)).map (·.1), (none : Option (SV × V)).map (·.2)) from rfl, upS_view_none] at b2
    exact b2
  · obtain ⟨S, z⟩ := b3 _ G2 H2 E2.fr
    have z := z none
    rw [show ((some s, some v) : Slot) = ((some (s, v)).map (·.1), (some (s, v)).map (·.2)) from rfl, upS_view_none] at z
    exact ⟨⟨z, E2.len⟩, S⟩
  · obtain ⟨S, z⟩ := b3 _ G2 H2 E2.fr
    have z := z (some i)
    rw [← view_set hi (by rw [← E2.len]; exact hi)] at z
    exact ⟨⟨z, by simp [E2.len]⟩, S⟩

/-! ### operands that go into a container -/
def frz1 (i : Nat) (ρ : En) : Option (D × En) := match ρ.getD i none with
  | some (.d x) => some (x, ρ)
  | some s => s.frz.map fun x => (x, ρ.set i (some (.d x)))
  | none => none
def frzAll : List Opd → M (List D)
  | [] => M.ret []
  | .d x :: os => M.bind (frzAll os) fun xs => M.ret (x :: xs)
  | .loc i :: os => fun ρ => match frz1 i ρ with
    | some (x, ρ') => M.bind (frzAll os) (fun xs => M.ret (x :: xs)) ρ'
    | none => .stuck
section
variable {C : VC} {B : Bd} {σ : L2.St} {H : Hp}
theorem frz1_ok {i : Nat} {ρ ρ' : En} {x : D} {v : V} {G : Hp} (E : EnvR C B ρ σ none G H) (h : frz1 i ρ = some (x, ρ')) (hv : σ[i]? = some (some v)) : ∃ G', Same G G' ∧ EnvR C B ρ' σ none G' H ∧ Rp C G' v x := by
  unfold frz1 at h
  cases q : ρ.getD i none with
  | none => rw [q] at h; cases h
  | some s =>
    rw [q] at h
    have go : s.frz.map (fun x => (x, ρ.set i (some (SV.d x)))) = some (x, ρ') → ∃ G', Same G G' ∧ EnvR C B ρ' σ none G' H ∧ Rp C G' v x := by
      intro h
      cases q2 : s.frz with
      | none => rw [q2] at h; cases h
      | some y =>
        rw [q2] at h
        cases h
        exact E.frz q q2 hv
    cases s with
    | d y =>
      cases h
      obtain ⟨w, fp, e1, o⟩ := E.own q
      have e2 : some (some w) = some (some v) := e1.symm.trans hv
      cases e2
      exact ⟨G, Same.refl _, E, o.2⟩
    | ol y => exact go h
    | od y => exact go h
    | dr y => exact go h
    | sc y => exact go h
    | oi c y => exact go h
theorem frzAll_ok : ∀ {os : List Opd} {vs : List V} {ρ ρ' : En} {xs : List D} {G : Hp}, EnvR C B ρ σ none G H → OpdsR C σ G os vs → frzAll os ρ = .ok xs ρ' → ∃ G', Same G G' ∧ EnvR C B ρ' σ none G' H ∧ RpL C G' vs xs
  | [], vs, ρ, ρ', xs, G, E, r, h => by
    cases r
    cases h
    exact ⟨G, Same.refl _, E, .nil⟩
  | .d y :: os, vs, ρ, ρ', xs, G, E, r, h => by
    cases r with
    | cons r1 r2 =>
      unfold frzAll at h
      rw [mbind] at h
      cases q : frzAll os ρ with
      | stuck => rw [q] at h; cases h
      | err c ρ1 => rw [q] at h; cases h
      | ok ys ρ1 =>
        rw [q, bind_ok] at h
        cases h
        obtain ⟨G', S, E', r'⟩ := frzAll_ok E r2 q
        exact ⟨G', S, E', .cons (Rp.mono S r1) r'⟩
  | .loc i :: os, vs, ρ, ρ', xs, G, E, r, h => by
    cases r with
    | cons r1 r2 =>
      unfold frzAll at h
      cases q0 : frz1 i ρ with
      | none => rw [q0] at h; cases h
      | some p =>
        obtain ⟨y, ρ0⟩ := p
        rw [q0] at h
        have h : M.bind (frzAll os) (fun xs => M.ret (y :: xs)) ρ0 = .ok xs ρ' := h
        rw [mbind] at h
        obtain ⟨G0, S0, E0, ry⟩ := frz1_ok E q0 r1
        cases q : frzAll os ρ0 with
        | stuck => rw [q] at h; cases h
        | err c ρ1 => rw [q] at h; cases h
        | ok ys ρ1 =>
          rw [q, bind_ok] at h
          cases h
          obtain ⟨G', S, E', r'⟩ := frzAll_ok E0 (r2.mono S0) q
          exact ⟨G', S0.trans S, E', .cons (Rp.mono S ry) r'⟩
theorem frzAll_noErr : ∀ {os : List Opd} {ρ : En} {c : Str} {ρ' : En}, frzAll os ρ ≠ .err c ρ'
  | [], ρ, c, ρ', h => by cases h
  | .d y :: os, ρ, c, ρ', h => by
    unfold frzAll at h
    rw [mbind] at h
    cases q : frzAll os ρ with
    | stuck => rw [q] at h; cases h
    | err c ρ1 => exact frzAll_noErr q
    | ok ys ρ1 => rw [q, bind_ok] at h; cases h
  | .loc i :: os, ρ, c, ρ', h => by
    unfold frzAll at h
    cases q0 : frz1 i ρ with
    | none => rw [q0] at h; cases h
    | some p =>
      obtain ⟨y, ρ0⟩ := p
      rw [q0] at h
      have h : M.bind (frzAll os) (fun xs => M.ret (y :: xs)) ρ0 = .err c ρ' := h
      rw [mbind] at h
      cases q : frzAll os ρ0 with
      | stuck => rw [q] at h; cases h
      | err c ρ1 => exact frzAll_noErr q
      | ok ys ρ1 => rw [q, bind_ok] at h; cases h
end
def mTup (a : M (List Opd)) : M Ref := M.bind a fun os => M.bind (frzAll os) fun xs => M.ret (.sv (.d (.tup xs)))
def mLst (a : M (List Opd)) : M Ref := M.bind a fun os => M.bind (frzAll os) fun xs => M.ret (.sv (.ol xs))
section
variable {C : VC} {X : Cx} {W : WX} {es : List Expr} {t : TA} {m : M (List Opd)} {pos : Pos} {n : Nat}
theorem snd_disp {C : VC} {B : Bd} {ρ : En} {σ : L2.St} {G H : Hp} {Q : List V → Hp → Prop} {k : List D → M Ref} {Qv : VK} (h : SndA C W t m) (E : EnvR C B ρ σ none G H) (P : PostE C B W σ G Qv (M.bind m (fun os => M.bind (frzAll os) k) ρ))
    (hk : ∀ vs xs ρ' G' H', EnvR C B ρ' σ none G' H' → Same G G' → RpL C G' vs xs → (∃ os ρ1, m ρ = .ok os ρ1 ∧ os.length = vs.length) → PostE C B W σ G' Qv (k xs ρ') → Q vs H') : t σ H Q := by
  refine h B ρ σ G H _ E ?_
  rw [mbind] at P
  cases q : m ρ with
  | stuck => rw [q] at P; exact P
  | err c ρ' => rw [q] at P; exact P
  | ok os ρ1 =>
    rw [q, bind_ok, mbind] at P
    intro vs G1 H1 E1 S1 r1
    cases q2 : frzAll os ρ1 with
    | stuck => rw [q2] at P; exact P.elim
    | err c ρ' => exact absurd q2 frzAll_noErr
    | ok xs ρ2 =>
      rw [q2, bind_ok] at P
      obtain ⟨G2, S2, E2, r2⟩ := frzAll_ok E1 r1 q2
      exact hk vs xs ρ2 G2 H1 E2 (S1.trans S2) r2 ⟨os, ρ1, q, r1.length⟩ (P.same (S1.trans S2))
theorem snd_tup {C : VC} (h : SndA C W t m) (hn : Len m n) (hz : n ≤ sizeLine) : SndE C W (tTup t) (mTup m) := by
  intro B ρ σ G H Q E P
  refine snd_disp (Q := fun xs H1 => xs.length ≤ sizeLine ∧ ∀ p, H1 p = none → Q (.ref p) (upd H1 p (.tup xs))) h E P fun vs xs ρ' G' H' E' S' r hl P' => ⟨?_, fun p hp => ?_⟩
  · obtain ⟨os, ρ1, e, l⟩ := hl
    rw [← l, hn _ _ _ e]
    exact hz
  · exact P' _ _ _ (E'.newT hp r).1 (E'.newT hp r).2
theorem snd_lst {C : VC} (h : SndA C W t m) (hn : Len m n) (hz : n ≤ sizeLine) : SndE C W (tLst t) (mLst m) := by
  intro B ρ σ G H Q E P
  refine snd_disp (Q := fun xs H1 => xs.length ≤ sizeLine ∧ ∀ p, H1 p = none → Q (.ref p) (upd H1 p (.lst xs))) h E P fun vs xs ρ' G' H' E' S' r hl P' => ⟨?_, fun p hp => ?_⟩
  · obtain ⟨os, ρ1, e, l⟩ := hl
    rw [← l, hn _ _ _ e]
    exact hz
  · exact P' _ _ _ (E'.newL hp r) (Same.refl _)
theorem se_tup {x1} (h : SA C X W es t m) (hn : Len m n) (hz : n ≤ sizeLine := by decide) : SE C X W (.Tuple es x1 pos) (tTup t) (mTup m) := ⟨pe_tup h.pa, snd_tup h.snd hn hz⟩
theorem se_lst (h : SA C X W es t m) (hn : Len m n) (hz : n ≤ sizeLine := by decide) : SE C X W (.List es pos) (tLst t) (mLst m) := ⟨pe_lst h.pa, snd_lst h.snd hn hz⟩
end

/-! ### targets -/
abbrev Tg := D → En → Option En
/-- the slots but those of is are as they were -/
def Off (is : List Nat) (σ σ' : L2.St) : Prop := σ'.length = σ.length ∧ ∀ j, j ∉ is → σ'[j]? = σ[j]?
theorem Off.refl {is : List Nat} {σ : L2.St} : Off is σ σ := ⟨rfl, fun _ _ => rfl⟩
theorem Off.trans {is : List Nat} {σ σ' σ2 : L2.St} (a : Off is σ σ') (b : Off is σ' σ2) : Off is σ σ2 := ⟨b.1.trans a.1, fun j h => (b.2 j h).trans (a.2 j h)⟩
theorem Off.mono {is js : List Nat} {σ σ' : L2.St} (a : Off is σ σ') (h : ∀ i ∈ is, i ∈ js) : Off js σ σ' := ⟨a.1, fun j hj => a.2 j fun z => hj (h j z)⟩
theorem Off.set {is : List Nat} {σ : L2.St} {i : Nat} {x : Option V} (h : i ∈ is) : Off is σ (σ.set i x) := ⟨by simp, fun j hj => List.getElem?_set_ne (fun z => hj (by rw [← z]; exact h))⟩
def SndG (C : VC) (P is : List Nat) (g : TG) (mg : Tg) : Prop := ∀ B ρ σ G H (Q : L2.St → Hp → Prop) x v ρ', EnvR C B ρ σ none G H → PinOk P B σ → Rp C G v x → mg x ρ = some ρ' →
  (∀ σ', EnvR C B ρ' σ' none G H → PinOk P B σ' → Off is σ σ' → Q σ' H) → g v σ H Q
def tgName (i : Nat) : Tg := fun x ρ => some (ρ.set i (some (.d x)))
def tgNames : List Nat → List D → En → Option En
  | [], [], ρ => some ρ
  | i :: is, x :: xs, ρ => tgNames is xs (ρ.set i (some (.d x)))
  | _, _, _ => none
def tgTup (is : List Nat) : Tg := fun x ρ => match x with
  | .tup xs => tgNames is xs ρ
  | _ => none
def gNames : List Nat → TGs
  | [] => gNil
  | i :: is => gCons (gName i) (gNames is)
section
variable {C : VC} {P : List Nat}
theorem sg_name {i : Nat} (hi : i ∉ P) : SndG C P [i] (gName i) (tgName i) := fun B ρ σ G H Q x v ρ' E pn r e h => by
  cases e
  exact h (σ.set i (some v)) ((E.res r).store i) (pn.set hi) (.set (by simp))
theorem sg_names : ∀ {is : List Nat}, (∀ i ∈ is, i ∉ P) → ∀ B ρ σ G H (Q : L2.St → Hp → Prop) xs vs ρ', EnvR C B ρ σ none G H → PinOk P B σ → RpL C G vs xs → tgNames is xs ρ = some ρ' →
    (∀ σ', EnvR C B ρ' σ' none G H → PinOk P B σ' → Off is σ σ' → Q σ' H) → gNames is vs σ H Q
  | [], _, B, ρ, σ, G, H, Q, xs, vs, ρ', E, pn, r, e, h => by
    cases r with
    | nil => cases e; exact ⟨rfl, h σ E pn .refl⟩
    | cons a b => cases e
  | i :: is, hi, B, ρ, σ, G, H, Q, xs, vs, ρ', E, pn, r, e, h => by
    cases r with
    | nil => cases e
    | cons a b => exact ⟨_, _, rfl, sg_names (fun j hj => hi j (List.mem_cons_of_mem _ hj)) B _ _ G H Q _ _ ρ' ((E.res a).store i) (pn.set (hi i List.mem_cons_self)) b e fun σ' E' pn' o => h σ' E' pn' ((Off.set (by simp)).trans (o.mono fun j hj => List.mem_cons_of_mem _ hj))⟩
theorem tgNames_len : ∀ {is : List Nat} {ds : List D} {ρ ρ' : En}, tgNames is ds ρ = some ρ' → ds.length = is.length
  | [], [], _, _, _ => rfl
  | [], _ :: _, _, _, h => by cases h
  | _ :: _, [], _, _, h => by cases h
  | i :: is, x :: xs, ρ, ρ', h => congrArg Nat.succ (tgNames_len (is := is) (ds := xs) h)
theorem sg_tup {is : List Nat} {n : Nat} (hi : ∀ i ∈ is, i ∉ P) (hn : is.length = n) : SndG C P is (gTup C.K n (gNames is)) (tgTup is) := by
  intro B ρ σ G H Q x v ρ' E pn r e h
  cases r with
  | tup ha rl =>
    have e : tgNames is _ ρ = some ρ' := e
    exact ⟨_, _, rfl, VS.Same.sqt E.fr.gh ha, by rw [rl.length, tgNames_len e, hn], sg_names hi B ρ σ G H Q _ _ ρ' E pn rl e h⟩
  | _ => cases e
end

/-! ### what is walked -/
structure Walks (C : VC) (J : It) (xs : List D) (Kp : Hp → Hp → Prop) : Prop where
  stop : ∀ G1 H1, Kp G1 H1 → J.stop xs.length H1
  go : ∀ i y G1 H1, xs[i]? = some y → Kp G1 H1 → J.go i H1
  yld : ∀ i y v H2 {B : Bd} {ρ : En} {σ : L2.St} G1 H1, xs[i]? = some y → Kp G1 H1 → EnvR C B ρ σ none G1 H1 → J.yld i H1 v H2 → ∃ G2, Same G1 G2 ∧ EnvR C B ρ σ none G2 H2 ∧ Rp C G2 v y
/-- the walked thing stands still -/
def KStill (G : Hp) : Hp → Hp → Prop := fun G1 H1 => Same G G1 ∧ Same G1 H1
def PostI (C : VC) (B : Bd) (W : WX) (σ : L2.St) (G : Hp) (R : It → Hp → Prop) : Rs (List D) → Prop
  | .ok xs ρ => ∀ J G' H', EnvR C B ρ σ none G' H' → Same G G' → Walks C J xs (KStill G') → R J H'
  | .err c ρ => ∀ G' H' Ca, EnvR C B ρ σ none G' H' → C.mg c = some (.ref Ca) → W (.ref Ca) none σ H'
  | .stuck => False
def SndI (C : VC) (W : WX) (wi : TI) (m : M (List D)) : Prop := ∀ B ρ σ G H R, EnvR C B ρ σ none G H → PostI C B W σ G R (m ρ) → wi σ H R
structure SI (C : VC) (X : Cx) (W : WX) (tg iter : Expr) (wi : TI) (m : M (List D)) : Prop where
  pi : PI X tg iter wi
  snd : SndI C W wi m
theorem piOr {X : Cx} {tg iter : Expr} {w w' : TI} (h : PI X tg iter w) (h' : PI X tg iter w') : PI X tg iter (fun σ H R => w σ H R ∨ w' σ H R) := by
  refine ⟨fun pins s σ H R I z => ?_⟩
  rcases z with z | z
  · exact h.run pins s σ H R I z
  · exact h'.run pins s σ H R I z
abbrev iSeq (K : PySem.W.Frag) (tl : TE) : TI := fun σ H R => iList K tl σ H R ∨ iTup K tl σ H R
/-- data's items, a thing of its own standing still from then on -/
def seqOf : D → Option (List D)
  | .lst xs => some xs
  | .tup xs => some xs
  | _ => none
/-- an operand as data that stands still -/
def frzO : Opd → M D
  | .d x => M.ret x
  | .loc i => fun ρ => match frz1 i ρ with
    | some (x, ρ') => .ok x ρ'
    | none => .stuck
def mFrz (a : M Ref) : M D := M.bind (opd a) frzO
def mSeqI (a : M Ref) : M (List D) := M.bind (mFrz a) fun x => M.opt (seqOf x)
def PostF (C : VC) (B : Bd) (W : WX) (σ : L2.St) (G : Hp) (Q : VK) : Rs D → Prop
  | .ok x ρ => ∀ v G' H', EnvR C B ρ σ none G' H' → Same G G' → Rp C G' v x → Q v H'
  | .err c ρ => ∀ G' H' Ca, EnvR C B ρ σ none G' H' → C.mg c = some (.ref Ca) → W (.ref Ca) none σ H'
  | .stuck => False
section
variable {C : VC} {B : Bd} {σ : L2.St} {G H : Hp}
theorem frzO_ok {o : Opd} {ρ ρ' : En} {x : D} {v : V} (E : EnvR C B ρ σ none G H) (h : frzO o ρ = .ok x ρ') (r : OpdR C σ G o v) : ∃ G', Same G G' ∧ EnvR C B ρ' σ none G' H ∧ Rp C G' v x := by
  cases o with
  | d y => cases h; exact ⟨G, Same.refl _, E, r⟩
  | loc i =>
    have h : (match frz1 i ρ with | some (x, ρ') => Rs.ok x ρ' | none => .stuck) = .ok x ρ' := h
    cases q : frz1 i ρ with
    | none => rw [q] at h; cases h
    | some p =>
      obtain ⟨y, ρ0⟩ := p
      rw [q] at h
      cases h
      exact frz1_ok E q r
theorem frzO_noErr {o : Opd} {ρ ρ' : En} {c : Str} (h : frzO o ρ = .err c ρ') : False := by
  cases o with
  | d y => cases h
  | loc i =>
    have h : (match frz1 i ρ with | some (x, ρ') => Rs.ok x ρ' | none => .stuck) = .err c ρ' := h
    cases q : frz1 i ρ with
    | none => rw [q] at h; cases h
    | some p => rw [q] at h; cases h
theorem walks_list {a : Addr} {vs : List V} {xs : List D} (ha : G a = some (.lst vs)) (r : RpL C G vs xs) : Walks C (Itl C.K a) xs (KStill G) where
  stop := fun G1 H1 k => ⟨vs, .of (k.2 _ _ (k.1 _ _ ha)), by rw [r.length]; simp⟩
  go := fun i y G1 H1 hy k => by
    obtain ⟨v, hv, _⟩ := r.get hy
    exact ⟨vs, v, .of (k.2 _ _ (k.1 _ _ ha)), hv⟩
  yld := fun i y v H2 B ρ σ G1 H1 hy k E q => by
    obtain ⟨u, hu, ru⟩ := r.get hy
    obtain ⟨e1, e2⟩ := q
    subst e1
    have e3 := e2 vs (.of (k.2 _ _ (k.1 _ _ ha)))
    rw [hu] at e3
    cases e3
    exact ⟨G1, Same.refl _, E, ru.mono k.1⟩
theorem walks_tup {a : Addr} {vs : List V} {xs : List D} (ha : SqT C.K G a vs) (r : RpL C G vs xs) : Walks C (Itt C.K a) xs (KStill G) where
  stop := fun G1 H1 k => ⟨vs, VS.Same.sqt k.2 (VS.Same.sqt k.1 ha), by rw [r.length]; simp⟩
  go := fun i y G1 H1 hy k => by
    obtain ⟨v, hv, _⟩ := r.get hy
    exact ⟨vs, v, VS.Same.sqt k.2 (VS.Same.sqt k.1 ha), hv⟩
  yld := fun i y v H2 B ρ σ G1 H1 hy k E q => by
    obtain ⟨u, hu, ru⟩ := r.get hy
    obtain ⟨e1, e2⟩ := q
    subst e1
    have e3 := e2 vs (VS.Same.sqt k.2 (VS.Same.sqt k.1 ha))
    rw [hu] at e3
    cases e3
    exact ⟨G1, Same.refl _, E, ru.mono k.1⟩
end
section
variable {C : VC} {X : Cx} {W : WX} {e tg : Expr} {te : TE} {me : M Ref} {pos p : Pos} {x : Str}
theorem SndE.f {C : VC} (h : SndE C W te me) {B : Bd} {ρ : En} {σ : L2.St} {G H : Hp} {Q : VK} (E : EnvR C B ρ σ none G H) (P : PostF C B W σ G Q (mFrz me ρ)) : te σ H Q := by
  refine h.o B ρ σ G H Q E ?_
  unfold mFrz at P
  rw [mbind] at P
  cases q : opd me ρ with
  | stuck => rw [q] at P; exact P
  | err c ρ' => rw [q] at P; exact P
  | ok o ρ1 =>
    rw [q, bind_ok] at P
    intro v G1 H1 E1 S1 r1
    cases q2 : frzO o ρ1 with
    | stuck => rw [q2] at P; exact P.elim
    | err c ρ' => exact (frzO_noErr q2).elim
    | ok x ρ2 =>
      rw [q2] at P
      obtain ⟨G2, S2, E2, r2⟩ := frzO_ok E1 q2 r1
      exact P v G2 H1 E2 (S1.trans S2) r2
theorem snd_seqI {C : VC} (h : SndE C W te me) : SndI C W (iSeq C.K te) (mSeqI me) := by
  intro B ρ σ G H R E P
  unfold mSeqI at P
  rw [mbind] at P
  cases q : mFrz me ρ with
  | stuck => rw [q] at P; exact P.elim
  | err c ρ' =>
    rw [q] at P
    exact .inl (h.f E (by rw [q]; exact P))
  | ok x ρ1 =>
    rw [q, bind_ok] at P
    cases x with
    | lst xs =>
      refine .inl (h.f E ?_)
      rw [q]
      intro v G1 H1 E1 S1 r1
      cases r1 with
      | lst a b => exact ⟨_, rfl, ⟨_, .of (E1.fr.gh _ _ a)⟩, P _ G1 H1 E1 S1 (walks_list a b)⟩
    | tup xs =>
      refine .inr (h.f E ?_)
      rw [q]
      intro v G1 H1 E1 S1 r1
      cases r1 with
      | tup a b => exact ⟨_, rfl, ⟨_, VS.Same.sqt E1.fr.gh a⟩, P _ G1 H1 E1 S1 (walks_tup a b)⟩
    | _ => exact P.elim
theorem si_seq (h : SE C X W e te me) (hK : X.K = C.K := by rfl) : SI C X W tg e (iSeq C.K te) (mSeqI me) := ⟨by rw [← hK]; exact piOr (pi_list h.pe) (pi_tup h.pe), snd_seqI h.snd⟩
/-- range -/
def intsD (lo : Int) (n : Nat) : List D := (List.range n).map fun i => .int (lo + (i : Nat))
noncomputable def rng1 : List D → Option (List D)
  | [.int j] => @ite _ (-(2 ^ 62) ≤ j ∧ j < 2 ^ 62) (Classical.propDecidable _) (some (intsD 0 j.toNat)) none
  | _ => none
noncomputable def rng2 : List D → Option (List D)
  | [.int i, .int j] => @ite _ (-(2 ^ 62) ≤ i ∧ i < 2 ^ 62 ∧ -(2 ^ 62) ≤ j ∧ j < 2 ^ 62) (Classical.propDecidable _) (some (intsD i (j - i).toNat)) none
  | _ => none
def mRng (f : List D → Option (List D)) (a : M (List Opd)) : M (List D) := M.bind a fun os ρ => M.opt ((lookAll ρ os).bind f) ρ
theorem intsD_get {lo : Int} {n i : Nat} {y : D} (h : (intsD lo n)[i]? = some y) : i < n ∧ y = .int (lo + (i : Nat)) := by
  unfold intsD at h
  rw [List.getElem?_map] at h
  by_cases hi : i < n
  · rw [List.getElem?_range hi] at h
    exact ⟨hi, (Option.some.inj h).symm⟩
  · rw [List.getElem?_eq_none (by simpa using hi)] at h
    cases h
theorem intsD_len {lo : Int} {n : Nat} : (intsD lo n).length = n := by simp [intsD]
theorem walks_rng {C : VC} {G : Hp} {lo : Int} {n : Nat} : Walks C (Itr lo n) (intsD lo n) (KStill G) where
  stop := fun G1 H1 k => by rw [intsD_len]; exact Nat.le_refl n
  go := fun i y G1 H1 hy k => (intsD_get hy).1
  yld := fun i y v H2 B ρ σ G1 H1 hy k E q => by
    obtain ⟨e1, e2⟩ := q
    subst e1 e2
    rw [(intsD_get hy).2]
    exact ⟨G1, Same.refl _, E, .int _⟩
variable {a : Expr} {ta : TA} {ma : M (List Opd)}
theorem snd_rng1 {C : VC} (h : SndA C W ta ma) : SndI C W (iRng1 ta) (mRng rng1 ma) := by
  intro B ρ σ G H R E P
  refine h B ρ σ G H _ E ?_
  unfold mRng at P
  rw [mbind] at P
  cases q : ma ρ with
  | stuck => rw [q] at P; exact P
  | err c ρ' => rw [q] at P; exact P
  | ok os ρ1 =>
    rw [q, bind_ok] at P
    intro vs G1 H1 E1 S1 r1
    cases q2 : lookAll ρ1 os with
    | none => rw [q2] at P; exact P.elim
    | some xs =>
      rw [q2] at P
      replace P : PostI C B W σ G R (M.opt (rng1 xs) ρ1) := P
      have rr := lookAll_rp E1 r1 q2
      unfold rng1 at P
      split at P
      · obtain ⟨v, rfl, hv⟩ := rr.one
        rename_i j
        by_cases hb : -(2 ^ 62) ≤ j ∧ j < 2 ^ 62
        · rw [if_pos hb] at P
          rw [rs_int hv]
          exact ⟨j, rfl, hb.1, hb.2, P _ G1 H1 E1 S1 walks_rng⟩
        · rw [if_neg hb] at P
          exact P.elim
      · exact P.elim
theorem snd_rng2 {C : VC} (h : SndA C W ta ma) : SndI C W (iRng2 ta) (mRng rng2 ma) := by
  intro B ρ σ G H R E P
  refine h B ρ σ G H _ E ?_
  unfold mRng at P
  rw [mbind] at P
  cases q : ma ρ with
  | stuck => rw [q] at P; exact P
  | err c ρ' => rw [q] at P; exact P
  | ok os ρ1 =>
    rw [q, bind_ok] at P
    intro vs G1 H1 E1 S1 r1
    cases q2 : lookAll ρ1 os with
    | none => rw [q2] at P; exact P.elim
    | some xs =>
      rw [q2] at P
      replace P : PostI C B W σ G R (M.opt (rng2 xs) ρ1) := P
      have rr := lookAll_rp E1 r1 q2
      unfold rng2 at P
      split at P
      · obtain ⟨v, w, rfl, hv, hw⟩ := rr.two
        rename_i i j
        by_cases hb : -(2 ^ 62) ≤ i ∧ i < 2 ^ 62 ∧ -(2 ^ 62) ≤ j ∧ j < 2 ^ 62
        · rw [if_pos hb] at P
          rw [rs_int hv, rs_int hw]
          exact ⟨i, j, rfl, hb, P _ G1 H1 E1 S1 walks_rng⟩
        · rw [if_neg hb] at P
          exact P.elim
      · exact P.elim
theorem si_rng1 (hg : Gl X "range") (hm : X.mg "range" = none) (h : SA C X W [a] ta ma) (hs : starEach [a] X.env = [(false, eval a X.env)] := by rfl) :
    SI C X W tg (.Call (.Name "range" p) [a] [] pos) (iRng1 ta) (mRng rng1 ma) := ⟨pi_range1 hg hm h.pa hs, snd_rng1 h.snd⟩
theorem si_rng2 {b : Expr} (hg : Gl X "range") (hm : X.mg "range" = none) (h : SA C X W [a, b] ta ma) (hs : starEach [a, b] X.env = [(false, eval a X.env), (false, eval b X.env)] := by rfl) (hs2 : starEach [b] X.env = [(false, eval b X.env)] := by rfl) :
    SI C X W tg (.Call (.Name "range" p) [a, b] [] pos) (iRng2 ta) (mRng rng2 ma) := ⟨pi_range2 hg hm h.pa hs hs2, snd_rng2 h.snd⟩
end

/-! ### for -/
def forR (mg : Tg) (b : M Fl) : List D → M Fl
  | [] => M.ret .nx
  | x :: xs => fun ρ => match mg x ρ with
    | none => .stuck
    | some ρ' => (b ρ').bind fun f => match f with
      | .nx => forR mg b xs
      | .ct => forR mg b xs
      | .bk => M.ret .nx
      | .rt s => M.ret (.rt s)
def mFor (mi : M (List D)) (mg : Tg) (b : M Fl) : M Fl := M.bind mi (forR mg b)
section
variable {C : VC} {P is : List Nat} {X : Cx} {W : WX} {tg iter : Expr} {body : List Stmt} {wi : TI} {g : TG} {tb : TS} {mi : M (List D)} {mg : Tg} {m : M Fl} {pos : Pos}
theorem snd_for {C : VC} (hi : SndI C W wi mi) (hg : SndG C P is g mg) (hb : SndS C P W tb m) : SndS C P W (tFor wi g tb) (mFor mi mg m) := by
  intro B ρ σ G H D E pn Q
  refine hi B ρ σ G H _ E ?_
  unfold mFor at Q
  rw [mbind] at Q
  cases q : mi ρ with
  | stuck => rw [q] at Q; exact Q
  | err c ρ' => rw [q] at Q; exact fun G' H' Ca E' hc => Q σ G' H' Ca E' pn hc
  | ok xs ρ1 =>
    rw [q, bind_ok] at Q
    intro J G1 H1 E1 S1 wk
    have Q := Q.same S1
    refine ⟨fun i m' σ' H' => i + m' = xs.length ∧ ∃ ρ' G', Same G1 G' ∧ EnvR C B ρ' σ' none G' H' ∧ PinOk P B σ' ∧ PostS C B P W G1 D (forR mg m (xs.drop i) ρ'), ⟨xs.length, by simp, ρ1, G1, Same.refl _, E1, pn, by rw [List.drop_zero]; exact Q⟩, ?_⟩
    rintro i m' σ2 H2 ⟨him, ρ2, G2, S2, E2, pn2, Q2⟩
    by_cases hil : i < xs.length
    · refine .inr ⟨wk.go i xs[i] G2 H2 (by simp [hil]) ⟨S2, E2.fr.gh⟩, fun σ' H' => i + 1 + (m' - 1) = xs.length ∧ ∃ ρ' G', Same G1 G' ∧ EnvR C B ρ' σ' none G' H' ∧ PinOk P B σ' ∧ PostS C B P W G1 D (forR mg m (xs.drop (i + 1)) ρ'), fun σ' H' h => ⟨m' - 1, by omega, h⟩, fun x H3 hy => ?_⟩
      obtain ⟨G3, S3, E3, r3⟩ := wk.yld i xs[i] x H3 G2 H2 (by simp [hil]) ⟨S2, E2.fr.gh⟩ E2 hy
      rw [List.drop_eq_getElem_cons hil] at Q2
      unfold forR at Q2
      cases q3 : mg xs[i] ρ2 with
      | none => rw [q3] at Q2; exact Q2.elim
      | some ρ3 =>
        rw [q3] at Q2
        dsimp only at Q2
        refine hg B ρ2 σ2 G3 H3 _ xs[i] x ρ3 E3 pn2 r3 q3 fun σ4 E4 pn4 _ => ?_
        refine hb B ρ3 σ4 G3 H3 _ E4 pn4 ?_
        have S13 : Same G1 G3 := S2.trans S3
        have nxt : ∀ ρ', PostS C B P W G1 D (forR mg m (xs.drop (i + 1)) ρ') → ∀ σ' G' H', EnvR C B ρ' σ' none G' H' → Same G3 G' → PinOk P B σ' → (i + 1 + (m' - 1) = xs.length ∧ ∃ ρ' G', Same G1 G' ∧ EnvR C B ρ' σ' none G' H' ∧ PinOk P B σ' ∧ PostS C B P W G1 D (forR mg m (xs.drop (i + 1)) ρ')) := fun ρ' z σ' G' H' E' S' pn' => ⟨by omega, ρ', G', S13.trans S', E', pn', z⟩
        cases q4 : m ρ3 with
        | stuck => rw [q4] at Q2; exact Q2
        | err c ρ' => rw [q4] at Q2; exact Q2
        | ok f ρ4 =>
          rw [q4] at Q2
          cases f with
          | nx => exact fun σ' G' H' E' S' pn' => nxt ρ4 Q2 σ' G' H' E' S' pn'
          | ct => exact fun σ' G' H' E' S' pn' => nxt ρ4 Q2 σ' G' H' E' S' pn'
          | bk => exact fun σ' G' H' E' S' pn' => Q2 σ' G' H' E' (S13.trans S') pn'
          | rt s => exact fun v σ' G' H' E' S' pn' => Q2 v σ' G' H' E' (S13.trans S') pn'
    · have hi2 : i = xs.length := by omega
      subst hi2
      rw [List.drop_length] at Q2
      exact .inl ⟨wk.stop G2 H2 ⟨S2, E2.fr.gh⟩, Q2 σ2 G2 H2 E2 S2 pn2⟩
theorem s_for (hc : X.calm = true) (hp : PassesOwn (model X.prog X.w) X.A X.env X.xe) (hi : SI C X W tg iter wi mi) (hg : PG X tg g) (sg : SndG C P is g mg) (hb : SS C P X W body tb m)
    (hs : ∀ x, foldedSetIterable iter X.env x = pure x := by intro _; rfl) :
    S1 C P X W (.For tg iter body [] pos) (tFor wi g tb) (mFor mi mg m) := ⟨ps_for hp hc hi.pi hg hb.ps hs, snd_for hi.snd sg hb.snd⟩
end
end VS

/-! VS7: owned results, parallel assignment, methods of owned lists and dicts, comprehensions, isinstance. -/
namespace VS
open PySem PySem.Spec PyProof.Rows L2

/-! ### a result with what it owns -/
def PostV (C : VC) (B : Bd) (W : WX) (σ : L2.St) (G : Hp) (Q : VK) : Rs SV → Prop
  | .ok s ρ => ∀ v G' H', EnvR C B ρ σ (some (s, v)) G' H' → Same G G' → Q v H'
  | .err c ρ => ∀ G' H' Ca, EnvR C B ρ σ none G' H' → C.mg c = some (.ref Ca) → W (.ref Ca) none σ H'
  | .stuck => False
def ownO : Ref → M SV
  | .sv s => M.ret s
  | .loc i => fun ρ => match frz1 i ρ with
    | some (x, ρ') => .ok (.d x) ρ'
    | none => .stuck
def mOwn (a : M Ref) : M SV := M.bind a ownO
section
variable {C : VC} {B : Bd} {W : WX} {ρ : En} {σ : L2.St} {G G1 H : Hp} {Q : VK} {te : TE} {me : M Ref}
theorem PostV.same {r : Rs SV} (P : PostV C B W σ G Q r) (S : Same G G1) : PostV C B W σ G1 Q r := by
  cases r with
  | stuck => exact P
  | err c ρ => exact P
  | ok s ρ => exact fun v G' H' E S' => P v G' H' E (S.trans S')
theorem PostF.same {r : Rs D} (P : PostF C B W σ G Q r) (S : Same G G1) : PostF C B W σ G1 Q r := by
  cases r with
  | stuck => exact P
  | err c ρ => exact P
  | ok s ρ => exact fun v G' H' E S' => P v G' H' E (S.trans S')
theorem SndE.own (h : SndE C W te me) (E : EnvR C B ρ σ none G H) (P : PostV C B W σ G Q (mOwn me ρ)) : te σ H Q := by
  refine h B ρ σ G H Q E ?_
  unfold mOwn at P
  rw [mbind] at P
  cases q : me ρ with
  | stuck => rw [q] at P; exact P
  | err c ρ' => rw [q] at P; exact P
  | ok r ρ1 =>
    rw [q, bind_ok] at P
    cases r with
    | sv s => exact P
    | loc i =>
      intro v G1 H1 E1 S1 hv
      replace P : PostV C B W σ G Q (match frz1 i ρ1 with | some (x, ρ') => .ok (.d x) ρ' | none => .stuck) := P
      cases q2 : frz1 i ρ1 with
      | none => rw [q2] at P; exact P.elim
      | some p =>
        obtain ⟨x, ρ2⟩ := p
        rw [q2] at P
        obtain ⟨G2, S2, E2, r2⟩ := frz1_ok E1 q2 hv
        exact P v G2 H1 (E2.res r2) (S1.trans S2)
/-- a thing held aside goes to slot i -/
theorem EnvR.frame' {s : SV} {v : V} (E : EnvR C B ρ σ (some (s, v)) G H) :
    ∃ B' : Bd, B'.pv = B.pv ∧ EnvR C B' ρ σ none G H ∧ (∀ ρ' σ' G2 H2, EnvR C B' ρ' σ' none G2 H2 → EnvR C B ρ' σ' (some (s, v)) G2 H2 ∧ Same G G2) ∧
      ∀ ρ' σ' G2 H2 i, EnvR C B' ρ' σ' none G2 H2 → EnvR C B (ρ'.set i (some s)) (σ'.set i (some v)) none G2 H2 := by
  obtain ⟨B', b1, b2, b3, b4⟩ := E.frame
  refine ⟨B', b1, b2, b3, fun ρ' σ' G2 H2 i E2 => ?_⟩
  by_cases hi : i < ρ'.length
  · exact (b4 ρ' σ' none G2 H2 i hi E2).1
  · rw [List.set_eq_of_length_le (by omega), List.set_eq_of_length_le (by rw [← E2.len]; omega)]
    exact (b3 ρ' σ' G2 H2 E2).1.nox
end

/-! ### a, b = e, f -/
def mPar (i j : Nat) (a b : M Ref) : M Fl := M.bind (mOwn a) fun x => M.bind (mOwn b) fun y => fun ρ => .ok .nx ((ρ.set i (some x)).set j (some y))
def mPar3 (i j l : Nat) (a b c : M Ref) : M Fl := M.bind (mOwn a) fun x => M.bind (mOwn b) fun y => M.bind (mOwn c) fun z => fun ρ => .ok .nx (((ρ.set i (some x)).set j (some y)).set l (some z))
section
variable {C : VC} {P : List Nat} {W : WX} {ta tb tc : TE} {ma mb mc : M Ref} {i j l : Nat}
theorem snd_par (hij : i ≠ j) (hi : i ∉ P) (hj : j ∉ P) (ha : SndE C W ta ma) (hb : SndE C W tb mb) : SndS C P W (tPar i j (tCons ta (tCons tb tNil))) (mPar i j ma mb) := by
  intro B ρ σ G H D E pn Q
  refine ha.own E ?_
  unfold mPar at Q
  rw [mbind] at Q
  cases q : mOwn ma ρ with
  | stuck => rw [q] at Q; exact Q
  | err c ρ' => rw [q] at Q; exact fun G' H' Ca E' hc => Q σ G' H' Ca E' pn hc
  | ok s1 ρ1 =>
    rw [q, bind_ok, mbind] at Q
    intro v1 G1 H1 E1 S1
    obtain ⟨B', b1, b2, b3, b4⟩ := E1.frame'
    refine hb.own b2 ?_
    cases q2 : mOwn mb ρ1 with
    | stuck => rw [q2] at Q; exact Q
    | err c ρ' => rw [q2] at Q; exact fun G' H' Ca E' hc => Q σ G' H' Ca (b3 _ _ _ _ E').1.nox pn hc
    | ok s2 ρ2 =>
      rw [q2] at Q
      intro v2 G2 H2 E2 S2
      refine ⟨v1, v2, rfl, Q _ G2 H2 ?_ (S1.trans S2) ((pn.set hi).set hj)⟩
      have z := b4 _ _ G2 H2 i (E2.store j)
      rw [List.set_comm _ _ (Ne.symm hij), List.set_comm (some v2) (some v1) (Ne.symm hij)] at z
      exact z
theorem snd_par3 (hij : i ≠ j) (hil : i ≠ l) (hjl : j ≠ l) (hi : i ∉ P) (hj : j ∉ P) (hl : l ∉ P) (ha : SndE C W ta ma) (hb : SndE C W tb mb) (hc : SndE C W tc mc) : SndS C P W (tPar3 i j l (tCons ta (tCons tb (tCons tc tNil)))) (mPar3 i j l ma mb mc) := by
  intro B ρ σ G H D E pn Q
  refine ha.own E ?_
  unfold mPar3 at Q
  rw [mbind] at Q
  cases q : mOwn ma ρ with
  | stuck => rw [q] at Q; exact Q
  | err c ρ' => rw [q] at Q; exact fun G' H' Ca E' hc => Q σ G' H' Ca E' pn hc
  | ok s1 ρ1 =>
    rw [q, bind_ok, mbind] at Q
    intro v1 G1 H1 E1 S1
    obtain ⟨B', b1, b2, b3, b4⟩ := E1.frame'
    refine hb.own b2 ?_
    cases q2 : mOwn mb ρ1 with
    | stuck => rw [q2] at Q; exact Q
    | err c ρ' => rw [q2] at Q; exact fun G' H' Ca E' hc => Q σ G' H' Ca (b3 _ _ _ _ E').1.nox pn hc
    | ok s2 ρ2 =>
      rw [q2, bind_ok, mbind] at Q
      intro v2 G2 H2 E2 S2
      obtain ⟨B2, d1, d2, d3, d4⟩ := E2.frame'
      refine hc.own d2 ?_
      cases q3 : mOwn mc ρ2 with
      | stuck => rw [q3] at Q; exact Q
      | err c ρ' => rw [q3] at Q; exact fun G' H' Ca E' hc => Q σ G' H' Ca (b3 _ _ _ _ (d3 _ _ _ _ E').1.nox).1.nox pn hc
      | ok s3 ρ3 =>
        rw [q3] at Q
        intro v3 G3 H3 E3 S3
        refine ⟨v1, v2, v3, rfl, Q _ G3 H3 ?_ ((S1.trans S2).trans S3) (((pn.set hi).set hj).set hl)⟩
        have z := b4 _ _ G3 H3 i (d4 _ _ G3 H3 j (E3.store l))
        rw [List.set_comm _ _ (Ne.symm hjl), List.set_comm (some v3) (some v2) (Ne.symm hjl)] at z
        rw [List.set_comm _ _ (Ne.symm hil), List.set_comm (some v3) (some v1) (Ne.symm hil)] at z
        rw [List.set_comm _ _ (Ne.symm hij), List.set_comm (some v2) (some v1) (Ne.symm hij)] at z
        exact z
variable {X : Cx} {x y z : Str} {a b c : Expr} {px py pz pt pos pt2 : Pos} {kt k2 : Nat}
theorem s_par (hc : X.calm = true) (hN : X.N.Nodup) (hxi : X.N[i]? = some x) (hyj : X.N[j]? = some y) (ha : SE C X W a ta ma) (hb : SE C X W b tb mb)
    (hw : swappedStores [.Tuple [.Name x px, .Name y py] kt pt] (.Tuple [a, b] k2 pt2) X.env = pure (some [x, y])) (hij : i ≠ j := by decide) (hi : i ∉ P := by decide) (hj : j ∉ P := by decide)
    (hx : X.env.scope.names.lookup x = some .local := by rfl) (hy : X.env.scope.names.lookup y = some .local := by rfl)
    (h1 : starEach [a, b] X.env = (false, eval a X.env) :: starEach [b] X.env := by rfl) (h2 : starEach [b] X.env = (false, eval b X.env) :: starEach [] X.env := by rfl)
    (hs : swapsWithSole [.Tuple [.Name x px, .Name y py] kt pt] (.Tuple [a, b] k2 pt2) pos.line X.env = pure false := by rfl) :
    S1 C P X W (.Assign [.Tuple [.Name x px, .Name y py] kt pt] (.Tuple [a, b] k2 pt2) pos) (tPar i j (tCons ta (tCons tb tNil))) (mPar i j ma mb) :=
  ⟨ps_par hc hN hxi hyj hij hx hy (pa_cons ha.pe (pa_cons hb.pe pa_nil h2) h1) hw hs, snd_par hij hi hj ha.snd hb.snd⟩
theorem s_par3 (hc : X.calm = true) (hN : X.N.Nodup) (hxi : X.N[i]? = some x) (hyj : X.N[j]? = some y) (hzl : X.N[l]? = some z) (ha : SE C X W a ta ma) (hb : SE C X W b tb mb) (hcc : SE C X W c tc mc)
    (hw : swappedStores [.Tuple [.Name x px, .Name y py, .Name z pz] kt pt] (.Tuple [a, b, c] k2 pt2) X.env = pure (some [x, y, z])) (hij : i ≠ j := by decide) (hil : i ≠ l := by decide) (hjl : j ≠ l := by decide) (hi : i ∉ P := by decide) (hj : j ∉ P := by decide) (hl : l ∉ P := by decide)
    (hx : X.env.scope.names.lookup x = some .local := by rfl) (hy : X.env.scope.names.lookup y = some .local := by rfl) (hz : X.env.scope.names.lookup z = some .local := by rfl)
    (h1 : starEach [a, b, c] X.env = (false, eval a X.env) :: starEach [b, c] X.env := by rfl) (h2 : starEach [b, c] X.env = (false, eval b X.env) :: starEach [c] X.env := by rfl) (h3 : starEach [c] X.env = (false, eval c X.env) :: starEach [] X.env := by rfl)
    (hs : swapsWithSole [.Tuple [.Name x px, .Name y py, .Name z pz] kt pt] (.Tuple [a, b, c] k2 pt2) pos.line X.env = pure false := by rfl) :
    S1 C P X W (.Assign [.Tuple [.Name x px, .Name y py, .Name z pz] kt pt] (.Tuple [a, b, c] k2 pt2) pos) (tPar3 i j l (tCons ta (tCons tb (tCons tc tNil)))) (mPar3 i j l ma mb mc) :=
  ⟨ps_par3 hc hN hxi hyj hzl hij hil hjl hx hy hz (pa_cons ha.pe (pa_cons hb.pe (pa_cons hcc.pe pa_nil h3) h2) h1) hw hs, snd_par3 hij hil hjl hi hj hl ha.snd hb.snd hcc.snd⟩
/-- target = e, data -/
def mAsg (a : M Ref) (mg : Tg) : M Fl := M.bind (mFrz a) fun x ρ => match mg x ρ with
  | some ρ' => .ok .nx ρ'
  | none => .stuck
variable {is : List Nat} {g : TG} {mg : Tg} {tg e : Expr}
theorem snd_asg (ha : SndE C W ta ma) (hg : SndG C P is g mg) : SndS C P W (tAsg ta g) (mAsg ma mg) := by
  intro B ρ σ G H D E pn Q
  refine ha.f E ?_
  unfold mAsg at Q
  rw [mbind] at Q
  cases q : mFrz ma ρ with
  | stuck => rw [q] at Q; exact Q
  | err c ρ' => rw [q] at Q; exact fun G' H' Ca E' hc => Q σ G' H' Ca E' pn hc
  | ok x ρ1 =>
    rw [q, bind_ok] at Q
    intro v G1 H1 E1 S1 r1
    cases q2 : mg x ρ1 with
    | none => rw [q2] at Q; exact Q.elim
    | some ρ2 =>
      rw [q2] at Q
      exact hg B ρ1 σ G1 H1 D.nx x v ρ2 E1 pn r1 q2 fun σ' E' pn' _ => Q σ' G1 H1 E' S1 pn'
end
/-! ### an owned list or dict changes -/
section
variable {C : VC} {B : Bd} {ρ : En} {σ : L2.St} {G H : Hp} {i : Nat} {v : V}
theorem slot_lt {s : SV} (hi : ρ.getD i none = some s) : i < ρ.length := by
  by_cases h : i < ρ.length
  · exact h
  · rw [List.getD_eq_getElem?_getD, List.getElem?_eq_none (by omega)] at hi
    cases hi
theorem EnvR.chgL {xs : List D} (E : EnvR C B ρ σ none G H) (hi : ρ.getD i none = some (.ol xs)) (hv : σ[i]? = some (some v)) :
    ∃ p vs, v = .ref p ∧ H p = some (.lst vs) ∧ RpL C G vs xs ∧ ∀ xs' vs', RpL C G vs' xs' → EnvR C B (ρ.set i (some (.ol xs'))) σ none G (upd H p (.lst vs')) := by
  have hs : view ρ σ none (some i) = (some (.ol xs), some v) := by
    show (ρ.getD i none, σ.getD i none) = _
    rw [hi, getD_st hv]
  obtain ⟨p, u, rfl, hp, ow, k⟩ := E.fr.chg hs (.inl ⟨xs, rfl⟩)
  obtain ⟨p', vs, a1, a2, a3, a4⟩ := ow
  cases a1
  refine ⟨p, vs, rfl, a3, a4, fun xs' vs' r => ⟨?_, by simp [E.len]⟩⟩
  have z := k (.ol xs') (.lst vs') ⟨(fun _ z => nomatch z), fun _ z => nomatch z⟩ ⟨p, vs', rfl, rfl, upd_same, r⟩
  rw [view_set1 (slot_lt hi) (getD_st hv)]
  exact z
theorem EnvR.chgD {xs : List (Key × D)} (E : EnvR C B ρ σ none G H) (hi : ρ.getD i none = some (.od xs)) (hv : σ[i]? = some (some v)) :
    ∃ p vs, v = .ref p ∧ H p = some (.dK vs) ∧ RpK C G vs xs ∧ ∀ xs' vs', RpK C G vs' xs' → EnvR C B (ρ.set i (some (.od xs'))) σ none G (upd H p (.dK vs')) := by
  have hs : view ρ σ none (some i) = (some (.od xs), some v) := by
    show (ρ.getD i none, σ.getD i none) = _
    rw [hi, getD_st hv]
  obtain ⟨p, u, rfl, hp, ow, k⟩ := E.fr.chg hs (.inr (.inl ⟨xs, rfl⟩))
  obtain ⟨p', vs, a1, a2, a3, a4⟩ := ow
  cases a1
  refine ⟨p, vs, rfl, a3, a4, fun xs' vs' r => ⟨?_, by simp [E.len]⟩⟩
  have z := k (.od xs') (.dK vs') ⟨(fun _ z => nomatch z), fun _ z => nomatch z⟩ ⟨p, vs', rfl, rfl, upd_same, r⟩
  rw [view_set1 (slot_lt hi) (getD_st hv)]
  exact z
/-- .. the result itself -/
theorem EnvR.chgX {xs : List D} (E : EnvR C B ρ σ (some (.ol xs, v)) G H) :
    ∃ p vs, v = .ref p ∧ H p = some (.lst vs) ∧ RpL C G vs xs ∧ ∀ xs' vs', RpL C G vs' xs' → EnvR C B ρ σ (some (.ol xs', v)) G (upd H p (.lst vs')) := by
  obtain ⟨p, u, rfl, hp, ow, k⟩ := E.fr.chg (i := none) (s := .ol xs) (v := v) rfl (.inl ⟨xs, rfl⟩)
  obtain ⟨p', vs, a1, a2, a3, a4⟩ := ow
  cases a1
  refine ⟨p, vs, rfl, a3, a4, fun xs' vs' r => ⟨?_, E.len⟩⟩
  have z := k (.ol xs') (.lst vs') ⟨(fun _ z => nomatch z), fun _ z => nomatch z⟩ ⟨p, vs', rfl, rfl, upd_same, r⟩
  rw [show ((some (SV.ol xs'), some (V.ref p)) : Slot) = ((some (SV.ol xs', V.ref p)).map (·.1), (some (SV.ol xs', V.ref p)).map (·.2)) from rfl, upS_view_none] at z
  exact z
end
/-- arguments as data -/
def mFrzs (a : M (List Opd)) : M (List D) := M.bind a frzAll
/-- a method of an owned list in slot i: what it gives, the list behind -/
def methD (i : Nat) (f : List D → List D → Option (D × List D)) (ys : List D) : M Ref := fun ρ => match ρ.getD i none with
  | some (.ol xs) => (match f xs ys with
    | some (r, xs') => .ok (.sv (.d r)) (ρ.set i (some (.ol xs')))
    | none => .stuck)
  | _ => .stuck
def isOl : Option SV → Bool
  | some (.ol _) => true
  | _ => false
def mMeth (i : Nat) (f : List D → List D → Option (D × List D)) (a : M (List Opd)) : M Ref := fun ρ => if isOl (ρ.getD i none) = true then M.bind (mFrzs a) (methD i f) ρ else .stuck
def PostAF (C : VC) (B : Bd) (W : WX) (σ : L2.St) (G : Hp) (Q : List V → Hp → Prop) : Rs (List D) → Prop
  | .ok xs ρ => ∀ vs G' H', EnvR C B ρ σ none G' H' → Same G G' → RpL C G' vs xs → Q vs H'
  | .err c ρ => ∀ G' H' Ca, EnvR C B ρ σ none G' H' → C.mg c = some (.ref Ca) → W (.ref Ca) none σ H'
  | .stuck => False
/-- the method's rule: the list at p, the arguments, the result -/
def RuleM (C : VC) (r : V → List V → Hp → VK → Prop) (f : List D → List D → Option (D × List D)) : Prop := ∀ G H p vs xs us ys z xs' Q, Same G H → H p = some (.lst vs) → RpL C G vs xs → RpL C G us ys → f xs ys = some (z, xs') →
  (∀ v vs', Rp C G v z → RpL C G vs' xs' → Q v (upd H p (.lst vs'))) → r (.ref p) us H Q
section
variable {C : VC} {P : List Nat} {W : WX} {i : Nat} {t : TA} {m : M (List Opd)} {r : V → List V → Hp → VK → Prop} {f : List D → List D → Option (D × List D)}
theorem SndA.frz (h : SndA C W t m) {B : Bd} {ρ : En} {σ : L2.St} {G H : Hp} {Q : List V → Hp → Prop} (E : EnvR C B ρ σ none G H) (P : PostAF C B W σ G Q (mFrzs m ρ)) : t σ H Q := by
  refine h B ρ σ G H Q E ?_
  unfold mFrzs at P
  rw [mbind] at P
  cases q : m ρ with
  | stuck => rw [q] at P; exact P
  | err c ρ' => rw [q] at P; exact P
  | ok os ρ1 =>
    rw [q, bind_ok] at P
    intro vs G1 H1 E1 S1 r1
    cases q2 : frzAll os ρ1 with
    | stuck => rw [q2] at P; exact P.elim
    | err c ρ' => exact absurd q2 frzAll_noErr
    | ok xs ρ2 =>
      rw [q2] at P
      obtain ⟨G2, S2, E2, r2⟩ := frzAll_ok E1 r1 q2
      exact P vs G2 H1 E2 (S1.trans S2) r2
theorem isOl_some {o : Option SV} (h : isOl o = true) : ∃ xs, o = some (.ol xs) := by
  unfold isOl at h
  split at h
  · exact ⟨_, rfl⟩
  · cases h
theorem post_meth (hr : RuleM C r f) {B : Bd} {ρ : En} {σ : L2.St} {G G0 H : Hp} {Q : VK} {v : V} {us : List V} {ys : List D} (E : EnvR C B ρ σ none G H) (S : Same G0 G) (hv : σ[i]? = some (some v)) (ru : RpL C G us ys) (P : PostE C B W σ G0 Q (methD i f ys ρ)) : r v us H Q := by
  unfold methD at P
  cases q : ρ.getD i none with
  | none => rw [q] at P; exact P.elim
  | some s =>
    rw [q] at P
    cases s with
    | ol xs =>
      dsimp only at P
      cases q2 : f xs ys with
      | none => rw [q2] at P; exact P.elim
      | some z =>
        obtain ⟨z, xs'⟩ := z
        rw [q2] at P
        obtain ⟨p, vs, rfl, hp, rl, k⟩ := E.chgL q hv
        exact hr G H p vs xs us ys z xs' Q E.fr.gh hp rl ru q2 fun v vs' rz rl' => P v G _ ((k xs' vs' rl').res rz) S
    | d x => exact P.elim
    | od x => exact P.elim
    | dr x => exact P.elim
    | sc x => exact P.elim
    | oi c x => exact P.elim
theorem snd_meth (hr : RuleM C r f) (h : SndA C W t m) : SndE C W (tBM C.K "list" r (tVar i) t) (mMeth i f m) := by
  intro B ρ σ G H Q E P
  unfold mMeth at P
  split at P
  · rename_i ho
    obtain ⟨xs, hx⟩ := isOl_some ho
    obtain ⟨v, hv, _⟩ := E.slot hx
    obtain ⟨p, vs, rfl, hp, _, _⟩ := E.chgL hx hv
    refine ⟨_, hv, .inl ⟨rfl, vs, .of hp⟩, h.frz E ?_⟩
    rw [mbind] at P
    cases q : mFrzs m ρ with
    | stuck => rw [q] at P; exact P
    | err c ρ' => rw [q] at P; exact P
    | ok ys ρ1 =>
      rw [q, bind_ok] at P
      exact fun us G1 H1 E1 S1 ru => post_meth hr E1 S1 hv ru P
  · exact P.elim
theorem snd_meth0 (hr : RuleM C r f) : SndE C W (tBM0 C.K "list" r (tVar i)) (mMeth i f (M.ret [])) := by
  intro B ρ σ G H Q E P
  unfold mMeth at P
  split at P
  · rename_i ho
    obtain ⟨xs, hx⟩ := isOl_some ho
    obtain ⟨v, hv, _⟩ := E.slot hx
    obtain ⟨p, vs, rfl, hp, _, _⟩ := E.chgL hx hv
    exact ⟨_, hv, .inl ⟨rfl, vs, .of hp⟩, post_meth hr E (Same.refl _) hv .nil P⟩
  · exact P.elim
variable {X : Cx} {x name : Str} {id : String} {p apos cpos : Pos} {e : Expr} {es : List Expr}
theorem se_meth (slot : PySem.Slot "list" name id) (hty : typeOf (.builtin id) = pure (.type "method_descriptor")) (hm : MtR X id r) (hr : RuleM C r f) (hv : PE X (.Name x p) (tVar i)) (h : SA C X W (e :: es) t m) (hK : X.K = C.K := by rfl)
    (hbase : attributeBase (.Name x p) name X.env (eval (.Name x p) X.env) = eval (.Name x p) X.env := by rfl)
    (hfew : ((backTo cpos (starEach (e :: es) X.env)).all (fun x => !x.1) && (backToKw cpos (keywordEach [] X.env)).all (fun x => x.1.isSome)
      && decide ((e :: es).length + ([] : List Keyword).length + (if ([] : List Keyword).isEmpty then 0 else 1) < 30)) = true := by rfl)
    (hline : (apos.endLine == cpos.line) = true := by rfl) (hs : starEach (e :: es) X.env = (false, eval e X.env) :: starEach es X.env := by rfl) (hplain : (backTo cpos (starEach es X.env)).any (·.1) = false := by rfl) :
    SE C X W (.Call (.Attribute (.Name x p) name apos) (e :: es) [] cpos) (tBM C.K "list" r (tVar i) t) (mMeth i f m) :=
  ⟨by rw [← hK]; exact pe_bm PySem.F.plainAttrs_list slot hty hm hv h.pa hbase hfew hline hs hplain, snd_meth hr h.snd⟩
theorem se_meth0 (slot : PySem.Slot "list" name id) (hty : typeOf (.builtin id) = pure (.type "method_descriptor")) (hm : MtR X id r) (hr : RuleM C r f) (hv : PE X (.Name x p) (tVar i)) (hK : X.K = C.K := by rfl)
    (hbase : attributeBase (.Name x p) name X.env (eval (.Name x p) X.env) = eval (.Name x p) X.env := by rfl) (hline : (apos.endLine == cpos.line) = true := by rfl) :
    SE C X W (.Call (.Attribute (.Name x p) name apos) [] [] cpos) (tBM0 C.K "list" r (tVar i)) (mMeth i f (M.ret [])) :=
  ⟨by rw [← hK]; exact pe_bm0 PySem.F.plainAttrs_list slot hty hm hv hbase hline, snd_meth0 hr⟩
end
def gAppend : List D → List D → Option (D × List D)
  | xs, [y] => if xs.length < sizeLine then some (.non, xs ++ [y]) else none
  | _, _ => none
def gExtend : List D → List D → Option (D × List D)
  | xs, [.lst ys] => if xs.length + ys.length ≤ sizeLine then some (.non, xs ++ ys) else none
  | _, _ => none
def gPop : List D → List D → Option (D × List D)
  | xs, [] => (xs[xs.length - 1]?).map fun y => (y, xs.dropLast)
  | _, _ => none
noncomputable def gPopAt : List D → List D → Option (D × List D)
  | xs, [.int i] => @ite _ (-(2 ^ 63) ≤ i ∧ i < 2 ^ 63) (Classical.propDecidable _) ((seqIndex? i xs.length).bind fun k => (xs[k]?).map fun y => (y, xs.eraseIdx k)) none
  | _, _ => none
section
variable {C : VC} {G H : Hp}
theorem RpL.dropLast : ∀ {vs : List V} {xs : List D}, RpL C G vs xs → RpL C G vs.dropLast xs.dropLast := fun {vs xs} r => by
  rw [List.dropLast_eq_take, List.dropLast_eq_take, r.length]
  exact r.take _
theorem rule_append : RuleM C rAppend gAppend := by
  intro G H p vs xs us ys z xs' Q S hp rl ru e q
  unfold gAppend at e
  split at e
  · cases ru with
    | cons r1 t =>
      cases t
      split at e
      · rename_i hl
        cases e
        exact ⟨p, vs, _, rfl, rfl, hp, by rw [rl.length]; exact hl, q _ _ .non (rl.app (.cons r1 .nil))⟩
      · cases e
  · cases e
theorem rule_extend : RuleM C rExtend gExtend := by
  intro G H p vs xs us ys z xs' Q S hp rl ru e q
  unfold gExtend at e
  split at e
  · cases ru with
    | cons r1 t =>
      cases t
      split at e
      · rename_i hl
        cases e
        cases r1 with
        | lst ha rb => exact ⟨p, _, vs, _, rfl, rfl, hp, S _ _ ha, by rw [rl.length, rb.length]; exact hl, q _ _ .non (rl.app rb)⟩
      · cases e
  · cases e
theorem rule_pop : RuleM C rPop gPop := by
  intro G H p vs xs us ys z xs' Q S hp rl ru e q
  unfold gPop at e
  split at e
  · cases ru
    cases q1 : xs[xs.length - 1]? with
    | none => rw [q1] at e; cases e
    | some y =>
      rw [q1] at e
      cases e
      obtain ⟨v, hv, rv⟩ := rl.get q1
      refine ⟨p, vs, v, rfl, rfl, hp, by rw [rl.length]; exact hv, q v _ rv rl.dropLast⟩
  · cases e
theorem rule_popAt : RuleM C rPopAt gPopAt := by
  intro G H p vs xs us ys z xs' Q S hp rl ru e q
  unfold gPopAt at e
  split at e
  · rename_i i
    cases ru with
    | cons r1 t =>
      cases t
      cases r1
      split at e
      · rename_i hb
        cases q1 : seqIndex? i xs.length with
        | none => rw [q1] at e; cases e
        | some k =>
          rw [q1] at e
          replace e : (xs[k]?).map (fun y => (y, xs.eraseIdx k)) = some (z, xs') := e
          cases q2 : xs[k]? with
          | none => rw [q2] at e; cases e
          | some y =>
            rw [q2] at e
            cases e
            obtain ⟨v, hv, rv⟩ := rl.get q2
            exact ⟨p, vs, i, k, v, rfl, rfl, hp, hb.1, hb.2, by rw [rl.length]; exact q1, hv, q v _ rv (rl.erase k)⟩
      · cases e
  · cases e
end
end VS

/-! VS8: list comprehensions. -/
namespace VS
open PySem PySem.Spec PyProof.Rows L2

def wipeE (ρ : En) : List Nat → En
  | [] => ρ
  | v :: vs => (wipeE ρ vs).set v none
def isData : Option SV → Bool
  | none => true
  | some (.d _) => true
  | _ => false
def restE (ρ0 ρ : En) : List Nat → En
  | [] => ρ
  | v :: vs => (restE ρ0 ρ vs).set v (ρ0.getD v none)
def lcR (ρ0 : En) (vs : List Nat) (mg : Tg) (mt : M Bool) (me : M Ref) : List D → List D → M (List D)
  | [], acc => M.ret acc
  | x :: xs, acc => fun ρ => match mg x (wipeE ρ vs) with
    | none => .stuck
    | some ρ1 => match mt ρ1 with
      | .ok false ρ2 => lcR ρ0 vs mg mt me xs acc (restE ρ0 ρ2 vs)
      | .ok true ρ2 => (match mFrz me ρ2 with
        | .ok y ρ3 => if acc.length < sizeLine then lcR ρ0 vs mg mt me xs (acc ++ [y]) (restE ρ0 ρ3 vs) else .stuck
        | _ => .stuck)
      | _ => .stuck
def mLc (mi : M (List D)) (vs : List Nat) (mg : Tg) (mt : M Bool) (me : M Ref) : M Ref := M.bind mi fun xs ρ => if (vs.all fun v => isData (ρ.getD v none)) = true then M.bind (lcR ρ vs mg mt me xs []) (fun ys => M.ret (.sv (.ol ys))) ρ else .stuck

theorem wipe_get {α : Type} (f : List Nat → List (Option α) → List (Option α)) : True := trivial
theorem wipe_at {σ : L2.St} {j : Nat} : ∀ {vs : List Nat}, (wipe σ vs)[j]? = if j ∈ vs then (σ[j]?).map (fun _ => none) else σ[j]?
  | [] => by simp [wipe]
  | v :: vs => by
    unfold wipe
    by_cases hj : j = v
    · subst hj
      rw [if_pos List.mem_cons_self, List.getElem?_set]
      rw [if_pos rfl, wipe_length]
      by_cases h : j < σ.length
      · rw [if_pos h, List.getElem?_eq_getElem h] <;> rfl
      · rw [if_neg h, List.getElem?_eq_none (by omega)] <;> rfl
    · rw [List.getElem?_set_ne (Ne.symm hj), wipe_at]
      have e : (j ∈ v :: vs) = (j ∈ vs) := by simp [hj]
      simp only [e]
theorem rest_at {ρ0 ρ : En} {j : Nat} (hl : ρ0.length = ρ.length) : ∀ {vs : List Nat}, (restE ρ0 ρ vs).getD j none = if j ∈ vs then ρ0.getD j none else ρ.getD j none
  | [] => by simp [restE]
  | v :: vs => by
    have len : ∀ ws : List Nat, (restE ρ0 ρ ws).length = ρ.length := fun ws => by
      induction ws with
      | nil => rfl
      | cons a b ih => unfold restE; rw [List.length_set, ih]
    unfold restE
    by_cases hj : j = v
    · subst hj
      rw [if_pos List.mem_cons_self]
      by_cases h : j < ρ.length
      · exact getD_set_eq (by rw [len]; exact h)
      · rw [List.getD_eq_getElem?_getD, List.getElem?_eq_none (by rw [List.length_set, len]; omega), List.getD_eq_getElem?_getD, List.getElem?_eq_none (by omega)]
    · rw [getD_set_ne hj, rest_at hl]
      have e : (j ∈ v :: vs) = (j ∈ vs) := by simp [hj]
      simp only [e]
theorem rest_len {ρ0 ρ : En} : ∀ {vs : List Nat}, (restE ρ0 ρ vs).length = ρ.length
  | [] => rfl
  | v :: vs => by unfold restE; rw [List.length_set, rest_len]
theorem wipe_eq {σ σ2 : L2.St} {vs is : List Nat} (o : Off is (wipe σ vs) σ2) (hs : ∀ i ∈ is, i ∈ vs) : wipe σ2 vs = wipe σ vs := by
  apply List.ext_getElem?
  intro j
  rw [wipe_at, wipe_at]
  have hl : σ2.length = σ.length := by rw [o.1, wipe_length]
  by_cases hj : j ∈ vs
  · rw [if_pos hj, if_pos hj]
    by_cases h : j < σ.length
    · rw [List.getElem?_eq_getElem h, List.getElem?_eq_getElem (by omega)] <;> rfl
    · rw [List.getElem?_eq_none (by omega), List.getElem?_eq_none (by omega)]
  · rw [if_neg hj, if_neg hj, o.2 j (fun z => hj (hs j z)), wipe_at, if_neg hj]
section
variable {C : VC} {B : Bd} {W : WX} {ρ ρ0 : En} {σ σ2 : L2.St} {G G1 H : Hp}
theorem EnvR.clear (E : EnvR C B ρ σ none G H) (i : Nat) : EnvR C B (ρ.set i none) (σ.set i none) none G H := by
  refine ⟨?_, by simp [E.len]⟩
  by_cases h : i < ρ.length
  · rw [view_set h (by rw [← E.len]; exact h)]
    exact E.fr.drop (some i) none
  · rw [List.set_eq_of_length_le (by omega), List.set_eq_of_length_le (by rw [← E.len]; omega)]
    exact E.fr
theorem EnvR.wipe (E : EnvR C B ρ σ none G H) : ∀ vs : List Nat, EnvR C B (wipeE ρ vs) (L2.wipe σ vs) none G H
  | [] => E
  | v :: vs => (E.wipe vs).clear v
/-- the block's own slots are as ahead of it -/
theorem EnvR.rest {vs : List Nat} (E : EnvR C B ρ σ2 none G H) (hl : ρ0.length = σ.length) (hl2 : σ2.length = σ.length) (hσ : ∀ j, j ∉ vs → σ2[j]? = σ[j]?)
    (hd : ∀ j ∈ vs, isData (ρ0.getD j none) = true) (hr : ∀ j x, ρ0.getD j none = some (.d x) → ∃ v, σ[j]? = some (some v) ∧ Rp C G v x) : EnvR C B (restE ρ0 ρ vs) σ none G H := by
  have hl3 : ρ0.length = ρ.length := by rw [E.len, hl, hl2]
  refine ⟨?_, by rw [rest_len, E.len, hl2]⟩
  refine E.fr.remap (fun i => match i with | none => some none | some j => if j ∈ vs then none else some (some j)) (fun i j k h1 h2 => ?_) fun i => ?_
  · cases i with
    | none =>
      cases j with
      | none => rfl
      | some j =>
        dsimp only at h1 h2
        split at h2
        · cases h2
        · cases h1; cases h2
    | some i =>
      cases j with
      | none =>
        dsimp only at h1 h2
        split at h1
        · cases h1
        · cases h1; cases h2
      | some j =>
        dsimp only at h1 h2
        split at h1
        · cases h1
        · split at h2
          · cases h2
          · cases h1; cases h2; rfl
  · cases i with
    | none => exact .inl ⟨none, rfl, rfl⟩
    | some j =>
      by_cases h : j ∈ vs
      · refine .inr ⟨if_pos h, ?_⟩
        have e0 : view (restE ρ0 ρ vs) σ none (some j) = (ρ0.getD j none, σ.getD j none) := by
          show ((restE ρ0 ρ vs).getD j none, σ.getD j none) = _
          rw [rest_at hl3, if_pos h]
        rw [e0]
        have hdj := hd j h
        cases q : ρ0.getD j none with
        | none => exact .inl rfl
        | some s =>
          rw [q] at hdj
          cases s with
          | d x =>
            obtain ⟨v, e1, r⟩ := hr j x q
            exact .inr ⟨x, v, by rw [getD_st e1], r⟩
          | ol x => cases hdj
          | od x => cases hdj
          | dr x => cases hdj
          | sc x => cases hdj
          | oi c x => cases hdj
      · refine .inl ⟨some j, if_neg h, ?_⟩
        show ((restE ρ0 ρ vs).getD j none, σ.getD j none) = (ρ.getD j none, σ2.getD j none)
        rw [rest_at hl3, if_neg h, List.getD_eq_getElem?_getD, List.getD_eq_getElem?_getD, List.getD_eq_getElem?_getD, hσ j h]
end

/-! ### the loop -/
structure SQ (C : VC) (X : Cx) (W : WX) (ifs : List Expr) (t : TT) (m : M Bool) : Prop where
  pts : PTs X ifs t
  snd : SndT C W t m
abbrev W0 : WX := fun _ _ _ _ => False
theorem sq_nil {C : VC} {X : Cx} {W : WX} : SQ C X W [] tYes (M.ret true) := ⟨pts_nil, fun B ρ σ G H Q E P => P G H E (Same.refl _)⟩
theorem sq_one {C : VC} {X : Cx} {W : WX} {c : Expr} {t : TT} {m : M Bool} (h : ST C X W c t m) : SQ C X W [c] t m := ⟨pts_one h.pt, h.snd⟩
section
variable {C : VC} {B : Bd} {σ : L2.St} {is vs : List Nat} {g : TG} {tt : TT} {te : TE} {mg : Tg} {mt : M Bool} {me : M Ref}
/-- the invariant ahead of turn i -/
def LcI (C : VC) (B : Bd) (σ : L2.St) (vs : List Nat) (ρ0 : En) (G0 : Hp) (Dd : Addr) (R : List D → En → Prop) (acc : List D) (H : Hp) : Prop := ∃ ρ G, EnvR C B ρ σ (some (.ol acc, .ref Dd)) G H ∧ Same G0 G ∧ R acc ρ
/-- one turn -/
theorem lc_turn {ρ ρ0 : En} {G0 G H : Hp} {Dd : Addr} {acc : List D} {x : D} {J : It} {i : Nat} {xs : List D} (sg : SndG C [] is g mg) (ht : SndT C W0 tt mt) (he : SndE C W0 te me) (hsub : ∀ i ∈ is, i ∈ vs) (wk : Walks C J xs (KStill G0)) (hx : xs[i]? = some x)
    (hl0 : ρ0.length = σ.length) (hd : ∀ j ∈ vs, isData (ρ0.getD j none) = true) (hr : ∀ j x, ρ0.getD j none = some (.d x) → ∃ v, σ[j]? = some (some v) ∧ Rp C G0 v x) (E : EnvR C B ρ σ (some (.ol acc, .ref Dd)) G H) (S : Same G0 G) {Nx : Hp → Prop} {rest : List D}
    (nx : ∀ acc' ρ' G' H', EnvR C B ρ' σ (some (.ol acc', .ref Dd)) G' H' → Same G0 G' → lcR ρ0 vs mg mt me rest acc' ρ' ≠ .stuck → lcR ρ0 vs mg mt me (x :: rest) acc ρ = lcR ρ0 vs mg mt me rest acc' ρ' → Nx H') (hn : lcR ρ0 vs mg mt me (x :: rest) acc ρ ≠ .stuck) :
    ∀ v H', J.yld i H v H' → g v (wipe σ vs) H' fun σ2 H2 => wipe σ2 vs = wipe σ vs ∧ tt σ2 H2 fun b H3 => if b = true then te σ2 H3 fun y H4 => ∃ acc, H4 Dd = some (.lst acc) ∧ acc.length < sizeLine ∧ Nx (upd H4 Dd (.lst (acc ++ [y]))) else Nx H3 := by
  intro v H' hy
  obtain ⟨B', b1, b2, b3, _⟩ := E.frame
  obtain ⟨G2, S2, E2, r2⟩ := wk.yld i x v H' G H hx ⟨S, E.fr.gh⟩ b2 hy
  have e0 : lcR ρ0 vs mg mt me (x :: rest) acc ρ = (match mg x (wipeE ρ vs) with
    | none => .stuck
    | some ρ1 => match mt ρ1 with
      | .ok false ρ2 => lcR ρ0 vs mg mt me rest acc (restE ρ0 ρ2 vs)
      | .ok true ρ2 => (match mFrz me ρ2 with
        | .ok y ρ3 => if acc.length < sizeLine then lcR ρ0 vs mg mt me rest (acc ++ [y]) (restE ρ0 ρ3 vs) else .stuck
        | _ => .stuck)
      | _ => .stuck) := rfl
  rw [e0] at hn
  cases q1 : mg x (wipeE ρ vs) with
  | none => rw [q1] at hn; exact absurd rfl hn
  | some ρ1 =>
    rw [q1] at hn e0
    dsimp only at hn e0
    refine sg B' _ _ G2 H' _ x v ρ1 (E2.wipe vs) (fun j hj => absurd hj (by simp)) r2 q1 fun σ2 E3 _ off => ⟨wipe_eq off hsub, ?_⟩
    have hlen : σ2.length = σ.length := by rw [off.1, wipe_length]
    have hσ : ∀ j, j ∉ vs → σ2[j]? = σ[j]? := fun j hj => by rw [off.2 j (fun z => hj (hsub j z)), wipe_at, if_neg hj]
    refine ht B' ρ1 σ2 G2 H' _ E3 ?_
    cases q2 : mt ρ1 with
    | stuck => rw [q2] at hn; exact absurd rfl hn
    | err c ρ' => rw [q2] at hn; exact absurd rfl hn
    | ok b ρ2 =>
      rw [q2] at hn e0
      intro G3 H3 E4 S3
      have S03 : Same G0 G3 := (S.trans S2).trans S3
      cases b with
      | false =>
        rw [if_neg Bool.false_ne_true]
        have E5 := E4.rest hl0 hlen hσ hd fun j x e => by
          obtain ⟨v, h1, h2⟩ := hr j x e
          exact ⟨v, h1, h2.mono S03⟩
        exact nx acc _ G3 H3 (b3 _ _ _ _ E5).1 S03 hn e0
      | true =>
        rw [if_pos rfl]
        dsimp only at hn e0
        refine he.f E4 ?_
        cases q3 : mFrz me ρ2 with
        | stuck => rw [q3] at hn; exact absurd rfl hn
        | err c ρ' => rw [q3] at hn; exact absurd rfl hn
        | ok y ρ3 =>
          rw [q3] at hn e0
          dsimp only at hn e0
          intro w G4 H4 E5 S4 rw
          by_cases hz : acc.length < sizeLine
          · rw [if_pos hz] at hn e0
            have S04 : Same G0 G4 := S03.trans S4
            have E6 := E5.rest hl0 hlen hσ hd fun j x e => by
              obtain ⟨v, h1, h2⟩ := hr j x e
              exact ⟨v, h1, h2.mono S04⟩
            obtain ⟨p, us, e1, hp, rl, k⟩ := (b3 _ _ _ _ E6).1.chgX
            cases e1
            exact ⟨us, hp, by rw [rl.length]; exact hz, nx (acc ++ [y]) _ G4 _ (k _ _ (rl.app (.cons rw .nil))) S04 hn e0⟩
          · rw [if_neg hz] at hn
            exact absurd rfl hn
/-- all turns -/
theorem lc_loop {ρ ρ0 : En} {G0 H : Hp} {Dd : Addr} {acc : List D} {J : It} {xs : List D} (sg : SndG C [] is g mg) (ht : SndT C W0 tt mt) (he : SndE C W0 te me) (hsub : ∀ i ∈ is, i ∈ vs) (wk : Walks C J xs (KStill G0))
    (hl0 : ρ0.length = σ.length) (hd : ∀ j ∈ vs, isData (ρ0.getD j none) = true) (hr : ∀ j x, ρ0.getD j none = some (.d x) → ∃ v, σ[j]? = some (some v) ∧ Rp C G0 v x) (E : EnvR C B ρ σ (some (.ol acc, .ref Dd)) G0 H) {Kf : Hp → Prop}
    (hn : lcR ρ0 vs mg mt me xs acc ρ ≠ .stuck) (fin : ∀ acc' ρ' G' H', lcR ρ0 vs mg mt me xs acc ρ = .ok acc' ρ' → EnvR C B ρ' σ (some (.ol acc', .ref Dd)) G' H' → Same G0 G' → Kf H') :
    ∃ Wn : Nat → Nat → Hp → Prop, (∃ m, Wn 0 m H) ∧ ∀ i m H, Wn i m H → (J.stop i H ∧ Kf H) ∨ (J.go i H ∧ ∃ Nx : Hp → Prop, (∀ H', Nx H' → ∃ m', m' < m ∧ Wn (i + 1) m' H') ∧ ∀ x H', J.yld i H x H' →
      g x (wipe σ vs) H' fun σ2 H2 => wipe σ2 vs = wipe σ vs ∧ tt σ2 H2 fun b H3 => if b = true then te σ2 H3 fun y H4 => ∃ acc, H4 Dd = some (.lst acc) ∧ acc.length < sizeLine ∧ Nx (upd H4 Dd (.lst (acc ++ [y]))) else Nx H3) := by
  refine ⟨fun i m H' => i + m = xs.length ∧ ∃ acc' ρ' G', EnvR C B ρ' σ (some (.ol acc', .ref Dd)) G' H' ∧ Same G0 G' ∧ lcR ρ0 vs mg mt me (xs.drop i) acc' ρ' ≠ .stuck ∧ lcR ρ0 vs mg mt me xs acc ρ = lcR ρ0 vs mg mt me (xs.drop i) acc' ρ',
    ⟨xs.length, by simp, acc, ρ, G0, E, Same.refl _, by rw [List.drop_zero]; exact hn, by rw [List.drop_zero]⟩, ?_⟩
  rintro i m H1 ⟨him, acc1, ρ1, G1, E1, S1, n1, e1⟩
  by_cases hil : i < xs.length
  · have ed := List.drop_eq_getElem_cons hil
    rw [ed] at n1 e1
    refine .inr ⟨wk.go i xs[i] G1 H1 (by simp [hil]) ⟨S1, E1.fr.gh⟩, fun H' => i + 1 + (m - 1) = xs.length ∧ ∃ acc' ρ' G', EnvR C B ρ' σ (some (.ol acc', .ref Dd)) G' H' ∧ Same G0 G' ∧ lcR ρ0 vs mg mt me (xs.drop (i + 1)) acc' ρ' ≠ .stuck ∧ lcR ρ0 vs mg mt me xs acc ρ = lcR ρ0 vs mg mt me (xs.drop (i + 1)) acc' ρ',
      fun H' h => ⟨m - 1, by omega, h⟩, lc_turn sg ht he hsub wk (by simp [hil]) hl0 hd hr E1 S1 (fun acc' ρ' G' H' E' S' n' e' => ⟨by omega, acc', ρ', G', E', S', n', e1.trans e'⟩) n1⟩
  · have hi2 : i = xs.length := by omega
    subst hi2
    rw [List.drop_length] at e1
    exact .inl ⟨wk.stop G1 H1 ⟨S1, E1.fr.gh⟩, fin acc1 ρ1 G1 H1 e1 E1 S1⟩
theorem lcR_noErr {ρ0 : En} {vs : List Nat} {mg : Tg} {mt : M Bool} {me : M Ref} : ∀ {xs acc : List D} {ρ : En} {c : Str} {ρ' : En}, lcR ρ0 vs mg mt me xs acc ρ ≠ .err c ρ'
  | [], acc, ρ, c, ρ', h => by cases h
  | x :: xs, acc, ρ, c, ρ', h => by
    unfold lcR at h
    split at h
    · cases h
    · split at h
      · exact lcR_noErr h
      · split at h
        · split at h
          · exact lcR_noErr h
          · cases h
        · cases h
      · cases h
variable {W : WX} {wi : TI} {mi : M (List D)}
theorem snd_lc (hi : SndI C W wi mi) (sg : SndG C [] is g mg) (ht : SndT C W0 tt mt) (he : SndE C W0 te me) (hsub : ∀ i ∈ is, i ∈ vs) : SndE C W (tLc wi g tt te vs) (mLc mi vs mg mt me) := by
  intro B ρ σ G H Q E P
  refine hi B ρ σ G H _ E ?_
  unfold mLc at P
  rw [mbind] at P
  cases q : mi ρ with
  | stuck => rw [q] at P; exact P
  | err c ρ' => rw [q] at P; exact P
  | ok xs ρ1 =>
    rw [q, bind_ok] at P
    by_cases hd : (vs.all fun v => isData (ρ1.getD v none)) = true
    · rw [if_pos hd, mbind] at P
      intro J G1 H1 E1 S1 wk Dd hD
      refine lc_loop (ρ0 := ρ1) sg ht he hsub wk E1.len (fun j hj => List.all_eq_true.mp hd j hj) (fun j x e => ?_) (E1.newL hD .nil) (fun z => ?_) fun acc' ρ' G' H' e E' S' => ?_
      · obtain ⟨v, fp, h1, o⟩ := E1.own e
        exact ⟨v, h1, o.2⟩
      · rw [z] at P; exact P
      · rw [e, bind_ok] at P
        exact P _ G' H' E' (S1.trans S')
    · rw [if_neg hd] at P
      exact P.elim
variable {X : Cx} {tg iter elt : Expr} {ifs : List Expr} {scope : Scope} {own : List (Str × Nat)} {pos spos py : Pos} {i : Nat} {y : Str} {P : List Nat}
theorem se_lc (hc : X.calm = true) (hN : X.N.Nodup) (hi : SI C X W tg iter wi mi) (ok : BlkOk X.N X.env.scope scope own) (hg : ∀ (s : Shared) (H : Hp) (A : Addr) (cl : List (Str × Addr)) (fp : List Addr), PG (X.blk s H scope (compEnvC scope cl A X.env) fp) tg g) (sg : SndG C [] is g mg)
    (hq : ∀ (s : Shared) (H : Hp) (A : Addr) (cl : List (Str × Addr)) (fp : List Addr), SQ C (X.blk s H scope (compEnvC scope cl A X.env) fp) W0 ifs tt mt)
    (he : ∀ (s : Shared) (H : Hp) (A : Addr) (cl : List (Str × Addr)) (fp : List Addr), SE C (X.blk s H scope (compEnvC scope cl A X.env) fp) W0 elt te me) (hsub : ∀ i ∈ is, i ∈ own.map (·.2) := by decide)
    (hs : ∀ x, foldedSetIterable iter X.env x = pure x := by intro _; rfl) : SE C X W (.ListComp elt [⟨tg, iter, ifs, 0⟩] scope pos) (tLc wi g tt te (own.map (·.2))) (mLc mi (own.map (·.2)) mg mt me) :=
  ⟨pe_lc hc hN hi.pi ok hg (fun s H A cl fp => (hq s H A cl fp).pts) (fun s H A cl fp => (he s H A cl fp).pe) hs, snd_lc hi.snd sg (hq X.s_0 X.H_0 0 [] []).snd (he X.s_0 X.H_0 0 [] []).snd hsub⟩
theorem s_setLc (hc : X.calm = true) (hN : X.N.Nodup) (hy : X.N[i]? = some y) (hi : SI C X W tg iter wi mi) (ok : BlkOk X.N X.env.scope scope own) (hg : ∀ (s : Shared) (H : Hp) (A : Addr) (cl : List (Str × Addr)) (fp : List Addr), PG (X.blk s H scope (compEnvC scope cl A X.env) fp) tg g) (sg : SndG C [] is g mg)
    (hq : ∀ (s : Shared) (H : Hp) (A : Addr) (cl : List (Str × Addr)) (fp : List Addr), SQ C (X.blk s H scope (compEnvC scope cl A X.env) fp) W0 ifs tt mt)
    (he : ∀ (s : Shared) (H : Hp) (A : Addr) (cl : List (Str × Addr)) (fp : List Addr), SE C (X.blk s H scope (compEnvC scope cl A X.env) fp) W0 elt te me)
    (hsw : swapsWith (.ListComp elt [⟨tg, iter, ifs, 0⟩] scope pos) (some (.Name y py)) spos.line X.env = pure true) (hip : i ∉ P := by decide) (hsub : ∀ i ∈ is, i ∈ own.map (·.2) := by decide) (hyl : X.env.scope.names.lookup y = some .local := by rfl)
    (hs : ∀ x, foldedSetIterable iter X.env x = pure x := by intro _; rfl) : S1 C P X W (.Assign [.Name y py] (.ListComp elt [⟨tg, iter, ifs, 0⟩] scope pos) spos) (tAsg (tLc wi g tt te (own.map (·.2))) (gName i)) (mSet i (mLc mi (own.map (·.2)) mg mt me)) :=
  ⟨ps_setLc hc hN hy hyl hsw hi.pi ok hg (fun s H A cl fp => (hq s H A cl fp).pts) (fun s H A cl fp => (he s H A cl fp).pe) hs, snd_set hip (snd_lc hi.snd sg (hq X.s_0 X.H_0 0 [] []).snd (he X.s_0 X.H_0 0 [] []).snd hsub)⟩
end
end VS

/-! VS9: comprehensions with two for, chains, dicts. -/
namespace VS
open PySem PySem.Spec PyProof.Rows L2

/-! ### [e for .. for ..] -/
def lcR2 (ρ0 : En) (vs : List Nat) (mg : Tg) (mt : M Bool) (mi1 : M (List D)) (vs1 : List Nat) (mg1 : Tg) (mt1 : M Bool) (me : M Ref) : List D → List D → M (List D)
  | [], acc => M.ret acc
  | x :: xs, acc => fun ρ => match mg x (wipeE ρ vs) with
    | none => .stuck
    | some ρ1 => match mt ρ1 with
      | .ok false ρ2 => lcR2 ρ0 vs mg mt mi1 vs1 mg1 mt1 me xs acc (restE ρ0 ρ2 vs)
      | .ok true ρ2 => (match mi1 ρ2 with
        | .ok ys ρ3 => if (vs1.all fun v => isData (ρ3.getD v none)) = true then (match lcR ρ3 vs1 mg1 mt1 me ys acc ρ3 with
          | .ok acc' ρ4 => lcR2 ρ0 vs mg mt mi1 vs1 mg1 mt1 me xs acc' (restE ρ0 ρ4 vs)
          | _ => .stuck) else .stuck
        | _ => .stuck)
      | _ => .stuck
def mLc2 (mi : M (List D)) (vs : List Nat) (mg : Tg) (mt : M Bool) (mi1 : M (List D)) (vs1 : List Nat) (mg1 : Tg) (mt1 : M Bool) (me : M Ref) : M Ref := M.bind mi fun xs ρ => if (vs.all fun v => isData (ρ.getD v none)) = true then M.bind (lcR2 ρ vs mg mt mi1 vs1 mg1 mt1 me xs []) (fun ys => M.ret (.sv (.ol ys))) ρ else .stuck
section
variable {C : VC} {B : Bd} {σ : L2.St} {is vs is1 vs1 : List Nat} {g g1 : TG} {tt tt1 : TT} {te : TE} {wi wi1 : TI} {mg mg1 : Tg} {mt mt1 : M Bool} {me : M Ref} {mi mi1 : M (List D)} {W : WX}
theorem snd_lc2 (hi : SndI C W wi mi) (sg : SndG C [] is g mg) (ht : SndT C W0 tt mt) (hi1 : SndI C W0 wi1 mi1) (sg1 : SndG C [] is1 g1 mg1) (ht1 : SndT C W0 tt1 mt1) (he : SndE C W0 te me) (hsub : ∀ i ∈ is, i ∈ vs) (hsub1 : ∀ i ∈ is1, i ∈ vs1) :
    SndE C W (tLc2 wi g tt wi1 g1 tt1 te vs vs1) (mLc2 mi vs mg mt mi1 vs1 mg1 mt1 me) := by
  intro B ρ σ G H Q E P
  refine hi B ρ σ G H _ E ?_
  unfold mLc2 at P
  rw [mbind] at P
  cases q : mi ρ with
  | stuck => rw [q] at P; exact P
  | err c ρ' => rw [q] at P; exact P
  | ok xs ρ0 =>
    rw [q, bind_ok] at P
    by_cases hd0 : (vs.all fun v => isData (ρ0.getD v none)) = true
    · rw [if_pos hd0, mbind] at P
      intro J G0 H0 E0 S0 wk Dd hD
      have hd : ∀ j ∈ vs, isData (ρ0.getD j none) = true := fun j hj => List.all_eq_true.mp hd0 j hj
      have hr : ∀ j x, ρ0.getD j none = some (.d x) → ∃ v, σ[j]? = some (some v) ∧ Rp C G0 v x := fun j x e => by
        obtain ⟨v, fp, h1, o⟩ := E0.own e
        exact ⟨v, h1, o.2⟩
      refine ⟨fun i m H' => i + m = xs.length ∧ ∃ acc' ρ' G', EnvR C B ρ' σ (some (.ol acc', .ref Dd)) G' H' ∧ Same G0 G' ∧ PostE C B W σ G Q ((lcR2 ρ0 vs mg mt mi1 vs1 mg1 mt1 me (xs.drop i) acc' ρ').bind fun ys => M.ret (.sv (.ol ys))),
        ⟨xs.length, by simp, [], ρ0, G0, E0.newL hD .nil, Same.refl _, by rw [List.drop_zero]; exact P⟩, ?_⟩
      rintro i m H1 ⟨him, acc1, ρ1, G1, E1, S1, P1⟩
      by_cases hil : i < xs.length
      · rw [List.drop_eq_getElem_cons hil] at P1
        refine .inr ⟨wk.go i xs[i] G1 H1 (by simp [hil]) ⟨S1, E1.fr.gh⟩, fun H' => i + 1 + (m - 1) = xs.length ∧ ∃ acc' ρ' G', EnvR C B ρ' σ (some (.ol acc', .ref Dd)) G' H' ∧ Same G0 G' ∧ PostE C B W σ G Q ((lcR2 ρ0 vs mg mt mi1 vs1 mg1 mt1 me (xs.drop (i + 1)) acc' ρ').bind fun ys => M.ret (.sv (.ol ys))),
          fun H' h => ⟨m - 1, by omega, h⟩, fun v H2 hy => ?_⟩
        obtain ⟨B', b1, b2, b3, _⟩ := E1.frame
        obtain ⟨G2, S2, E2, r2⟩ := wk.yld i xs[i] v H2 G1 H1 (by simp [hil]) ⟨S1, E1.fr.gh⟩ b2 hy
        unfold lcR2 at P1
        cases q1 : mg xs[i] (wipeE ρ1 vs) with
        | none => rw [q1] at P1; exact P1.elim
        | some ρa =>
          rw [q1] at P1
          dsimp only at P1
          refine sg B' _ _ G2 H2 _ xs[i] v ρa (E2.wipe vs) (fun j hj => absurd hj (by simp)) r2 q1 fun σ2 E3 _ off => ⟨wipe_eq off hsub, ?_⟩
          have hlen : σ2.length = σ.length := by rw [off.1, wipe_length]
          have hσ : ∀ j, j ∉ vs → σ2[j]? = σ[j]? := fun j hj => by rw [off.2 j (fun z => hj (hsub j z)), wipe_at, if_neg hj]
          have hrG : ∀ {G'}, Same G0 G' → ∀ j x, ρ0.getD j none = some (.d x) → ∃ v, σ[j]? = some (some v) ∧ Rp C G' v x := fun S j x e => by
            obtain ⟨v, h1, h2⟩ := hr j x e
            exact ⟨v, h1, h2.mono S⟩
          refine ht B' ρa σ2 G2 H2 _ E3 ?_
          cases q2 : mt ρa with
          | stuck => rw [q2] at P1; exact P1.elim
          | err c ρ' => rw [q2] at P1; exact P1.elim
          | ok b ρb =>
            rw [q2] at P1
            intro G3 H3 E4 S3
            have S03 : Same G0 G3 := (S1.trans S2).trans S3
            cases b with
            | false =>
              rw [if_neg Bool.false_ne_true]
              exact ⟨by omega, acc1, _, G3, (b3 _ _ _ _ (E4.rest E0.len hlen hσ hd (hrG S03))).1, S03, P1⟩
            | true =>
              rw [if_pos rfl]
              dsimp only at P1
              refine hi1 B' ρb σ2 G3 H3 _ E4 ?_
              cases q3 : mi1 ρb with
              | stuck => rw [q3] at P1; exact P1.elim
              | err c ρ' => rw [q3] at P1; exact P1.elim
              | ok ys ρc =>
                rw [q3] at P1
                dsimp only at P1
                intro J1 G4 H4 E5 S4 wk1
                have S04 : Same G0 G4 := S03.trans S4
                by_cases hd1 : (vs1.all fun v => isData (ρc.getD v none)) = true
                · rw [if_pos hd1] at P1
                  refine lc_loop (ρ0 := ρc) (Dd := Dd) sg1 ht1 he hsub1 wk1 E5.len (fun j hj => List.all_eq_true.mp hd1 j hj) (fun j x e => ?_) (b3 _ _ _ _ E5).1 (fun z => ?_) fun acc' ρ' G' H' e E' S' => ?_
                  · obtain ⟨v, fp, h1, o⟩ := E5.own e
                    exact ⟨v, h1, o.2⟩
                  · rw [z] at P1; exact P1
                  · rw [e] at P1
                    obtain ⟨B2, d1, d2, d3, _⟩ := E'.frame
                    have S05 : Same G0 G' := S04.trans S'
                    exact ⟨by omega, acc', _, G', (d3 _ _ _ _ (d2.rest E0.len hlen hσ hd (hrG S05))).1, S05, P1⟩
                · rw [if_neg hd1] at P1
                  exact P1.elim
      · have hi2 : i = xs.length := by omega
        subst hi2
        rw [List.drop_length] at P1
        exact .inl ⟨wk.stop G1 H1 ⟨S1, E1.fr.gh⟩, P1 _ G1 H1 E1 (S0.trans S1)⟩
    · rw [if_neg hd0] at P
      exact P.elim
variable {X : Cx} {tg iter elt tg1 iter1 : Expr} {ifs ifs1 : List Expr} {scope : Scope} {own : List (Str × Nat)} {pos spos py : Pos} {i : Nat} {y : Str} {P : List Nat}
abbrev Blk (X : Cx) (scope : Scope) (p : Cx → Prop) : Prop := ∀ (s : Shared) (H : Hp) (A : Addr) (cl : List (Str × Addr)) (fp : List Addr), p (X.blk s H scope (compEnvC scope cl A X.env) fp)
theorem se_lc2 (hc : X.calm = true) (hN : X.N.Nodup) (hi : SI C X W tg iter wi mi) (ok : BlkOk X.N X.env.scope scope own) (hv : ∀ i ∈ vs1, i ∈ own.map (·.2)) (hg : Blk X scope fun Y => PG Y tg g) (sg : SndG C [] is g mg) (hq : Blk X scope fun Y => SQ C Y W0 ifs tt mt)
    (hi1 : Blk X scope fun Y => SI C Y W0 tg1 iter1 wi1 mi1) (hg1 : Blk X scope fun Y => PG Y tg1 g1) (sg1 : SndG C [] is1 g1 mg1) (hq1 : Blk X scope fun Y => SQ C Y W0 ifs1 tt1 mt1) (he : Blk X scope fun Y => SE C Y W0 elt te me)
    (hsub : ∀ i ∈ is, i ∈ own.map (·.2) := by decide) (hsub1 : ∀ i ∈ is1, i ∈ vs1 := by decide) (hs : ∀ x, foldedSetIterable iter X.env x = pure x := by intro _; rfl) (hs1 : ∀ env x, foldedSetIterable iter1 env x = pure x := by intro _ _; rfl) :
    SE C X W (.ListComp elt [⟨tg, iter, ifs, 0⟩, ⟨tg1, iter1, ifs1, 0⟩] scope pos) (tLc2 wi g tt wi1 g1 tt1 te (own.map (·.2)) vs1) (mLc2 mi (own.map (·.2)) mg mt mi1 vs1 mg1 mt1 me) :=
  ⟨pe_lc2 hc hN hi.pi ok hv hg (fun s H A cl fp => (hq s H A cl fp).pts) (fun s H A cl fp => (hi1 s H A cl fp).pi) hg1 (fun s H A cl fp => (hq1 s H A cl fp).pts) (fun s H A cl fp => (he s H A cl fp).pe) hs hs1,
    snd_lc2 hi.snd sg (hq X.s_0 X.H_0 0 [] []).snd (hi1 X.s_0 X.H_0 0 [] []).snd sg1 (hq1 X.s_0 X.H_0 0 [] []).snd (he X.s_0 X.H_0 0 [] []).snd hsub hsub1⟩
end

/-! ### a < b < c -/
def mChain (f f' : D → D → Option Rv) (a b c : M Ref) : M Ref := M.bind (opd a) fun x => M.bind (opd b) fun y => M.bind (look x) fun d => M.bind (look y) fun e => M.bind (M.opt (f d e)) fun r => match r with
  | .sc (.bl true) => M.bind (opd c) fun z => M.bind (look y) fun e2 => M.bind (look z) fun d2 => M.bind (M.opt (f' e2 d2)) fun r' => M.ret r'.ref
  | .sc (.bl false) => M.ret (rSc (.bl false))
  | _ => fun _ => .stuck
section
variable {C : VC} {X : Cx} {W : WX} {a b c : Expr} {ta tb tc : TE} {ma mb mc : M Ref} {pos : Pos} {r r' : R2} {f f' : D → D → Option Rv}
theorem snd_chain (hr : RuleB C r f) (hr' : RuleB C r' f') (ha : SndE C W ta ma) (hb : SndE C W tb mb) (hc : SndE C W tc mc) : SndE C W (tChain r r' ta tb tc) (mChain f f' ma mb mc) := by
  intro B ρ σ G H Q E P
  refine ha.o B ρ σ G H _ E ?_
  unfold mChain at P
  rw [mbind] at P
  cases q1 : opd ma ρ with
  | stuck => rw [q1] at P; exact P
  | err c ρ' => rw [q1] at P; exact P
  | ok o1 ρ1 =>
    rw [q1, bind_ok, mbind] at P
    intro v G1 H1 E1 S1 r1
    refine hb.o B ρ1 σ G1 H1 _ E1 ?_
    cases q2 : opd mb ρ1 with
    | stuck => rw [q2] at P; exact P
    | err c ρ' => rw [q2] at P; exact P
    | ok o2 ρ2 =>
      rw [q2, bind_ok, mbind] at P
      intro w G2 H2 E2 S2 r2
      have S12 := S1.trans S2
      unfold look at P
      cases q3 : vwO ρ2 o1 with
      | none => rw [q3] at P; exact P.elim
      | some d =>
        rw [q3, mopt_some, mret, bind_ok, mbind] at P
        cases q4 : vwO ρ2 o2 with
        | none => rw [q4] at P; exact P.elim
        | some e =>
          rw [q4, mopt_some, mret, bind_ok, mbind] at P
          cases q5 : f d e with
          | none => rw [q5] at P; exact P.elim
          | some z =>
            rw [q5, mopt_some, mret, bind_ok] at P
            refine hr G2 H2 v w d e z _ E2.fr.gh (vw_rp E2 (r1.mono S2) q3) (vw_rp E2 r2 q4) q5 ?_
            cases z with
            | sc s =>
              cases s with
              | bl k =>
                refine ⟨k, rfl, ?_⟩
                cases k with
                | true =>
                  rw [if_pos rfl]
                  replace P : PostE C B W σ G Q (M.bind (opd mc) (fun z => M.bind (look o2) fun e2 => M.bind (look z) fun d2 => M.bind (M.opt (f' e2 d2)) fun r' => M.ret r'.ref) ρ2) := P
                  rw [mbind] at P
                  refine hc.o B ρ2 σ G2 H2 _ E2 ?_
                  cases q6 : opd mc ρ2 with
                  | stuck => rw [q6] at P; exact P
                  | err c ρ' => rw [q6] at P; exact P
                  | ok o3 ρ3 =>
                    rw [q6, bind_ok, mbind] at P
                    intro u G3 H3 E3 S3 r3
                    unfold look at P
                    cases q7 : vwO ρ3 o2 with
                    | none => rw [q7] at P; exact P.elim
                    | some e2 =>
                      rw [q7, mopt_some, mret, bind_ok, mbind] at P
                      cases q8 : vwO ρ3 o3 with
                      | none => rw [q8] at P; exact P.elim
                      | some d2 =>
                        rw [q8, mopt_some, mret, bind_ok, mbind] at P
                        cases q9 : f' e2 d2 with
                        | none => rw [q9] at P; exact P.elim
                        | some z' =>
                          rw [q9, mopt_some, mret, bind_ok] at P
                          exact hr' G3 H3 w u e2 d2 z' _ E3.fr.gh (vw_rp E3 (r2.mono S3) q7) (vw_rp E3 r3 q8) q9 (fin_of E3 (S12.trans S3) P)
                | false =>
                  rw [if_neg Bool.false_ne_true]
                  exact P _ G2 H2 (E2.res (Sc.rp (.bl false))) S12
              | _ => exact P.elim
            | _ => exact P.elim
theorem se_chain {op op' : CmpOp} (ho : OpR X (compareOp op) r) (ho' : OpR X (compareOp op') r') (hr : RuleB C r f) (hr' : RuleB C r' f') (ha : SE C X W a ta ma) (hb : SE C X W b tb mb) (hcc : SE C X W c tc mc)
    (hm : lastMarks [op, op'] [b, c] = false := by with_unfolding_all rfl) : SE C X W (.Compare a [op, op'] [b, c] pos) (tChain r r' ta tb tc) (mChain f f' ma mb mc) :=
  ⟨pe_chain ho ho' ha.pe hb.pe hcc.pe hm, snd_chain hr hr' ha.snd hb.snd hcc.snd⟩
end
end VS

/-! VR: sorted lists of tuples of whole numbers of any sign, sets. -/
namespace VR
open PySem PySem.Spec PyProof.Rows L2

def lexI : List Int → List Int → Bool
  | [], [] => false
  | [], _ :: _ => true
  | _ :: _, [] => false
  | x :: xs, y :: ys => if x = y then lexI xs ys else decide (x < y)
theorem lexI_asym : ∀ {a b : List Int}, lexI a b = true → lexI b a = false
  | [], [], h => by cases h
  | [], _ :: _, _ => rfl
  | _ :: _, [], h => by cases h
  | x :: xs, y :: ys, h => by
    unfold lexI at h ⊢
    by_cases e : x = y
    · rw [if_pos e] at h
      rw [if_pos e.symm]
      exact lexI_asym h
    · rw [if_neg e] at h
      rw [if_neg (Ne.symm e)]
      have := of_decide_eq_true h
      exact decide_eq_false (by omega)
theorem lexI_tr : ∀ {a b c : List Int}, lexI b a = false → lexI c b = false → lexI c a = false
  | [], [], c, _, h2 => h2
  | [], b :: bs, c, h1, h2 => by
    cases c with
    | nil => cases h2
    | cons c cs => rfl
  | a :: as, [], c, h1, h2 => by cases h1
  | a :: as, b :: bs, [], h1, h2 => by cases h2
  | a :: as, b :: bs, c :: cs, h1, h2 => by
    unfold lexI at h1 h2 ⊢
    by_cases e1 : b = a
    · rw [if_pos e1] at h1
      by_cases e2 : c = b
      · rw [if_pos e2] at h2
        rw [if_pos (e2.trans e1)]
        exact lexI_tr h1 h2
      · rw [if_neg e2] at h2
        rw [if_neg (by omega)]
        have := of_decide_eq_false h2
        exact decide_eq_false (by omega)
    · rw [if_neg e1] at h1
      have k1 := of_decide_eq_false h1
      by_cases e2 : c = b
      · rw [if_neg (by omega)]
        exact decide_eq_false (by omega)
      · rw [if_neg e2] at h2
        have k2 := of_decide_eq_false h2
        rw [if_neg (by omega)]
        exact decide_eq_false (by omega)
theorem lexI_eq : ∀ {a b : List Int}, lexI a b = false → lexI b a = false → a = b
  | [], [], _, _ => rfl
  | [], _ :: _, h, _ => by cases h
  | _ :: _, [], _, h => by cases h
  | x :: xs, y :: ys, h1, h2 => by
    unfold lexI at h1 h2
    by_cases e : x = y
    · rw [if_pos e] at h1
      rw [if_pos e.symm] at h2
      rw [e, lexI_eq h1 h2]
    · rw [if_neg e] at h1
      rw [if_neg (Ne.symm e)] at h2
      have k1 := of_decide_eq_false h1
      have k2 := of_decide_eq_false h2
      omega
section
variable {pr : Program} {wd : World} {Ar : Around} {st : Shared}
theorem walk_lex {R : Bool → Shared → Prop} {b fin : Bool} : ∀ {us ws : List Value} {as bs : List Int} (i : Nat), IntsAre us as → IntsAre ws bs → fin = decide (as.length < bs.length) → R (lexI as bs) st → PySem.W.KatLex pr wd Ar b fin R (us.zip ws) i st
  | _, _, _, _, i, .nil, .nil, e, h => by
    subst e
    exact PySem.W.kat_nil h
  | _, _, _, _, i, .nil, .cons n t r, e, h => by
    subst e
    exact PySem.W.kat_nil (by simpa [lexI] using h)
  | _, _, _, _, i, .cons n t r, .nil, e, h => by
    subst e
    exact PySem.W.kat_nil (by simpa [lexI] using h)
  | _, _, _, _, i, .cons (ns := as) n t r, .cons (ns := bs) m u q, e, h => by
    refine PySem.W.kat_cons (wpAny_eqBool_int ?_)
    unfold lexI at h
    by_cases hnm : n = m
    · rw [if_pos hnm] at h
      rw [show (n == m) = true from beq_iff_eq.mpr hnm]
      exact PySem.W.kat_yes (walk_lex (i + 1) r q (by rw [e]; simp) h)
    · rw [if_neg hnm] at h
      rw [show (n == m) = false from beq_eq_false_iff_ne.mpr hnm]
      exact PySem.W.kat_no (TS.oneLt_ints _ h)
/-- tuples with at least one whole number -/
def TupsAny (hp : Heap) (vs : List Value) : Prop := ∀ v ∈ vs, ∃ ns, TS.TupInts hp v ns ∧ ns ≠ []
theorem firsts_any {hp : Heap} : ∀ {vs : List Value}, TupsAny hp vs → ∃ fs, PySem.W.KatTups hp vs fs ∧ fs.length = vs.length ∧ ∀ f ∈ fs, ∃ n t, f = Value.int n t
  | [], _ => ⟨[], .nil, rfl, fun f hf => by cases hf⟩
  | v :: vs, x => by
    obtain ⟨fs, k, hl, hi⟩ := firsts_any (vs := vs) fun u hu => x u (List.mem_cons_of_mem _ hu)
    obtain ⟨ns, ⟨a, xs, rfl, ⟨o, ho, hc, n, hd⟩, i⟩, hn⟩ := x v List.mem_cons_self
    obtain ⟨xl⟩ := xs
    cases i with
    | nil => exact absurd rfl hn
    | cons m t r =>
      refine ⟨.int m t :: fs, .cons ho hc hd rfl k, congrArg Nat.succ hl, fun f hf => ?_⟩
      rcases List.mem_cons.mp hf with rfl | hf
      · exact ⟨m, t, rfl⟩
      · exact hi f hf
abbrev ltT (hp : Heap) (v u : Value) : Bool := lexI (TS.intsOf hp v) (TS.intsOf hp u)
theorem swo_T (hp : Heap) : SrtO.Swo (ltT hp) := ⟨fun _ _ h => lexI_asym h, fun _ _ _ h1 h2 => lexI_tr h1 h2⟩
theorem tups_sortable {a : Addr} {vs : List Value} (h0 : 0 < vs.length) (x : TupsAny st.heap vs) (hl : ∀ o, st.heap.get? a = some o → o.cls ≠ .type "tuple") : SrtO.SortableO pr wd Ar st a vs (ltT st.heap) := by
  intro h' keep
  have kt : ∀ b o, st.heap.get? b = some o → o.cls = .type "tuple" → h'.get? b = some o := fun b o e c => keep b o (fun z => by subst z; exact hl o e c) e
  have x' : TupsAny h' vs := fun v hv => by
    obtain ⟨ns, t, hn⟩ := x v hv
    exact ⟨ns, t.keeps kt, hn⟩
  obtain ⟨fs, h1, h2, h3⟩ := firsts_any x'
  refine ⟨tuples' true, fun Q E hq => ?_, fun p q hp hq => ?_⟩
  · refine PySem.W.kat_kind (T := .type "int") h1 (by omega) (fun f hm => ?_) (by rfl) ?_
    · obtain ⟨n, t, rfl⟩ := h3 f hm
      exact PySem.W.Looks.now
    · rw [show (Value.type "int" != Value.type "tuple") = true by decide +kernel]
      exact hq
  · obtain ⟨ns, t1, _⟩ := x p.1 hp
    obtain ⟨ms, t2, _⟩ := x q.1 hq
    have e1 : TS.intsOf st.heap p.1 = ns := t1.ints
    have e2 : TS.intsOf st.heap q.1 = ms := t2.ints
    obtain ⟨a1, x1, ea, ⟨o1, ho1, _, n1, hd1⟩, i1⟩ := t1.keeps kt
    obtain ⟨a2, x2, eb, ⟨o2, ho2, _, n2, hd2⟩, i2⟩ := t2.keeps kt
    rw [show SrtO.lt2 (ltT st.heap) p q = lexI ns ms by
      show lexI (TS.intsOf st.heap p.1) (TS.intsOf st.heap q.1) = _
      rw [e1, e2]]
    rw [ea, eb]
    refine PySem.W.kat_lt ho1 hd1 ho2 hd2 (walk_lex 0 i1 i2 ?_ ⟨rfl, rfl⟩)
    have l1 := i1.length
    have l2 := i2.length
    rw [Array.length_toList] at l1 l2
    rw [l1, l2]
end
/-- sorted(xs), xs a list of tuples of whole numbers -/
def rSortL (K : PySem.W.Frag) : List V → Hp → VK → Prop := fun vs H Q => ∃ (a : Addr) (ps : List (Addr × List Int)), vs = [V.ref a] ∧ SqL K H a (ps.map fun p => V.ref p.1) ∧ (∀ p ∈ ps, SqT K H p.1 (p.2.map V.int) ∧ p.2 ≠ []) ∧
  ∀ (ps' : List (Addr × List Int)) (q : Addr), ps'.Perm ps → (ps'.Pairwise fun x y => lexI y.2 x.2 = false) → H q = none → Q (.ref q) (upd H q (.lst (ps'.map fun p => V.ref p.1)))
theorem cr_sortL {X : Cx} : CallR X (.builtin "sorted") (rSortL X.K) := by
  intro pins s σ H vs us Q I r h
  obtain ⟨a, ps, rfl, hs, hx, q⟩ := h
  obtain ⟨its, rv, hl, hz⟩ := I.list hs
  rw [Vals.ref1 r]
  have ei : its = ps.map fun p => Value.ref p.1 := refs_of_vals rv
  have kint : ∀ p ∈ ps, TS.TupInts s.heap (.ref p.1) p.2 := fun p hp => tupI_raw I (hx p hp).1
  have hk : ∀ v ∈ its, ∃ p ∈ ps, v = Value.ref p.1 := fun v hv => by
    rw [ei] at hv
    obtain ⟨p, hp, e⟩ := List.mem_map.mp hv
    exact ⟨p, hp, e.symm⟩
  have hlen : its.length = ps.length := by rw [ei, List.length_map]
  refine SrtO.sorted_ord (swo_T s.heap) hl.isList (by rw [hlen]; rw [List.length_map] at hz; exact hz) (fun h2 h₁ a' ha' kk => ?_) fun out h1 h2 => ?_
  · have same : ∀ p ∈ ps, TS.TupInts h₁ (.ref p.1) p.2 := fun p hp => (kint p hp).keeps fun b o e _ => (kk b o e).2
    have z : SrtO.SortableO X.prog X.w X.A.in1.in1 { s with heap := h₁ } a' its (ltT h₁) := tups_sortable (st := { s with heap := h₁ }) (by omega) (fun v hv => by
      obtain ⟨p, hp, e⟩ := hk v hv
      subst e
      exact ⟨_, same p hp, (hx p hp).2⟩) fun o e => by
      have e' : some o = some (seqObj "list" its.toArray 0) := e.symm.trans ha'
      cases e'
      intro c
      exact absurd (Value.type.inj c) (by decide)
    intro h' keep
    obtain ⟨κ, z1, z2⟩ := z h' keep
    refine ⟨κ, z1, fun p p' hp hp' => ?_⟩
    have e0 : SrtO.lt2 (ltT s.heap) p p' = SrtO.lt2 (ltT h₁) p p' := by
      show lexI (TS.intsOf s.heap p.1) (TS.intsOf s.heap p'.1) = lexI (TS.intsOf h₁ p.1) (TS.intsOf h₁ p'.1)
      obtain ⟨a1, m1, e1⟩ := hk _ hp
      obtain ⟨a2, m2, e2⟩ := hk _ hp'
      rw [e1, e2, (kint _ m1).ints, (kint _ m2).ints, (same _ m1).ints, (same _ m2).ints]
    rw [e0]
    exact z2 p p' hp hp'
  · obtain ⟨ep, he'⟩ := PyProof.Rows.sortedAll_at s.heap its out.toArray
    -- the order, said of the pairs
    let un : Value → Addr × List Int := fun v => match v with
      | .ref t => (t, TS.intsOf s.heap v)
      | _ => (0, [])
    have un_of : ∀ p ∈ ps, un (Value.ref p.1) = p := fun p hp => by
      show (p.1, TS.intsOf s.heap (.ref p.1)) = p
      rw [(kint p hp).ints]
    have pm : (out.map un).Perm ps := by
      have z := h2.perm.map un
      rw [ei, List.map_map] at z
      have e : ps.map (un ∘ fun p => Value.ref p.1) = ps := by
        conv => rhs; rw [← List.map_id ps]
        exact List.map_congr_left fun p hp => un_of p hp
      rw [e] at z
      exact z
    have eo : out = (out.map un).map fun p => Value.ref p.1 := by
      rw [List.map_map]
      conv => lhs; rw [← List.map_id out]
      refine List.map_congr_left fun v hv => ?_
      obtain ⟨p, hp, e⟩ := hk v (h2.perm.mem_iff.mp hv)
      rw [e]
      show Value.ref p.1 = Value.ref (un (.ref p.1)).1
      rw [un_of p hp]
    have rv2 : Vals ((out.map un).map fun p => V.ref p.1) out := by
      conv => rhs; rw [eo]
      exact vals_of_refs _
    refine ⟨.ref _, upd H (s.heap.objs.size + 1) (.lst ((out.map un).map fun p => V.ref p.1)), I.laid (t' := s.toks) (fun _ _ => PyProof.Rows.sortedAll_old) (Nat.le_succ _) ⟨by rw [List.length_map, pm.length_eq]; rw [List.length_map] at hz; exact hz, out, ep, rv2, he'⟩, rfl, q _ _ pm ?_ (I.hok.fresh (Nat.le_succ _))⟩
    rw [List.pairwise_map]
    refine List.Pairwise.imp_of_mem (fun {u v} hu hv huv => ?_) h1
    obtain ⟨p, hp, e1⟩ := hk u (h2.perm.mem_iff.mp hu)
    obtain ⟨p', hp', e2⟩ := hk v (h2.perm.mem_iff.mp hv)
    rw [e1, e2] at huv ⊢
    rw [un_of p hp, un_of p' hp']
    have huv : lexI (TS.intsOf s.heap (.ref p'.1)) (TS.intsOf s.heap (.ref p.1)) = false := huv
    rw [(kint p hp).ints, (kint p' hp').ints] at huv
    exact huv
end VR

/-! VR2: the set of a list of whole numbers, its length, sorted. -/
namespace VR
open PySem PySem.Spec PyProof.Rows L2
section
variable {P : Program} {w : World} {A : Around} {E : Value → Shared → Prop} {s : Shared}
abbrev emp (w : World) : Obj := { cls := .type "set", dict := none, data := .set #[] 0 (.fresh 0 0 (!w.params.followText "set-order")) }
/-- what the making leaves -/
def Made (w : World) (s : Shared) (ks : List Int) (s2 : Shared) : Prop := ∃ (hh : Heap) (tk c : Nat), s2 = { s with heap := hh, toks := tk } ∧ SetR w hh s.heap.objs.size (fun j => decide (j ∈ ks)) c ∧ c ≤ ks.length ∧ ∀ b o, s.heap.get? b = some o → hh.get? b = some o
set_option maxHeartbeats 3200000 in
theorem set_of_list {l : Addr} {its : Array Value} (ks : List Int) {Q : Value → Shared → Prop} (nh : A.handled = none) (isl : s.heap.IsList l its) (hin : IntsAre its.toList ks) (few : ks.length + 1 < scanBound)
    (fin : ∀ s2, Made w s ks s2 → Q (.ref s.heap.objs.size) s2) : wpAny (model P w) A (call (.type "set") [.ref l]) Q E s := by
  have size : its.size = ks.length := by
    have z := hin.length
    rwa [Array.length_toList] at z
  obtain ⟨c, tl, g1⟩ := F.called_set.mro
  have g2 := F.called_set.made
  have g3 := F.called_set.sub
  have g4 := F.called_set.notType
  have g5 := F.called_set.canCreate
  have g6 := F.typeCall_set_1 (.ref l)
  refine wpAny_call (codeAny_of_tree ?_)
  show wpAny _ _ (callAny (.type "set") _) _ _ _
  refine wpAny_pure ⟨Code.quiet_builtin _ (by decide +kernel), codeAny_builtin F.entry_type_call ?_⟩
  rw [Around.under_plain (weight_type_call_type "set" [.ref l] []) rfl]
  repeat (any_goals (first | assumption | wp_step))
  refine codeAny_mono (code_set_led1 (.ref l) (E := E) (Q₁ := fun ob s₁ => ob = .ref s.heap.objs.size ∧ s₁ = { s with heap := s.heap.push (emp w) }) ⟨rfl, rfl⟩) fun r s₁ k => ?_
  cases r with
  | error e => exact k
  | ok f =>
    cases f with
    | ret ob =>
      obtain ⟨rfl, rfl⟩ := k
      have at_ : (s.heap.push (emp w)).get? s.heap.objs.size = some (emp w) := Heap.get?_push_size _ rfl
      have ty : Shared.TypeIs { s with heap := s.heap.push (emp w) } (.ref s.heap.objs.size) "set" := ⟨_, at_, rfl⟩
      have g7 := F.called_set.init.lookup
      have g8 := F.called_set.init.bind (.ref s.heap.objs.size)
      repeat (any_goals (first | assumption | wp_step))
      refine codeAny_mono (codeAny_call_builtin (R := wants (fun r s₂ => r = .none ∧ Made w s ks s₂) E) F.called_set.init.plain F.entry_set_init (check_set_init_1 ty ?_)) fun r₂ s₂ k₂ => ?_
      · obtain ⟨ol, hol, hcl, nl, hdl⟩ := isl
        obtain ⟨oc, od, oda, osl⟩ := ol
        simp only at hcl hdl
        subst hcl hdl
        have isl2 : (s.heap.push (emp w)).IsList l its := ⟨_, Heap.get?_push_of_some _ hol, rfl, nl, rfl⟩
        have g9 := F.sub_list_set
        have g10 := F.sub_list_frozenset
        have g11 : (Value.type "list" == Value.type "dict") = false := by decide
        have g12 : (s.heap.push (emp w)).get? l = some { cls := .type "list", dict := od, data := .seq its nl, slots := osl } := Heap.get?_push_of_some _ hol
        unfold Builtin.«set.__init__» noKeywords Builtin.Frozenset.updateFrom
        generalize hIt : pyIter = It
        wp_walk
        subst hIt
        refine wpAny_pyIter_list isl2 (wpAny_bind (wpAny_runValue ?_))
        have lt : l < s.heap.objs.size := Heap.lt_size hol
        have nl : l ≠ (s.heap.push (emp w)).objs.size := by
          rw [Heap.size_push]
          exact Nat.ne_of_lt (Nat.lt_succ_of_lt lt)
        have off : s.heap.objs.size ∉ [(s.heap.push (emp w)).objs.size, l] := by
          rw [Heap.size_push]
          intro z
          rcases List.mem_cons.mp z with z | z
          · exact Nat.succ_ne_self _ z.symm
          · exact Nat.ne_of_gt lt (List.mem_singleton.mp z)
        have val : ∀ (i : Nat) (v : Value), its[i]? = some v → ∃ k t, ks[i]? = some k ∧ v = .int k t := fun i v hv => by
          have hi : i < ks.length := by
            rw [← size]
            exact (Array.getElem?_eq_some_iff.mp hv).1
          obtain ⟨t, e⟩ := PyProof.Rows.IntsAre.int_at hin i v (by rw [Array.getElem?_toList]; exact hv)
          exact ⟨ks[i], t, List.getElem?_eq_getElem hi, by rw [e, List.getD_eq_getElem?_getD, List.getElem?_eq_getElem hi] <;> rfl⟩
        refine set_update_ints ((Walks.list (by simp [nh]) _ l nl its).toS) s.heap.objs.size off ks size few val (its.size - 0) 0 _ (by omega) (Nat.zero_le _) ⟨⟨_, Heap.get?_push_size _ rfl, rfl, rfl⟩, isl2.push _⟩
          ⟨0, Nat.le_refl 0, setR_new_at (Heap.get?_push_of_some _ at_)⟩ fun s' c' hm hc' hS' => ?_
        obtain ⟨hp', gg, dd, tk', os'⟩ := s'
        have eg : gg = s.gens := hm.gens
        have ed : dd = s.drawn := hm.drawn
        have eo : os' = s.os := hm.os
        subst eg ed eo
        show wpAny _ _ _ _ _ _
        refine wpAny_pure ?_
        show wpAny _ _ (ret Value.none) _ _ _
        refine wpAny_pure ⟨rfl, hp', tk', c', rfl, hS', by rw [← size]; exact hc', fun b o e => ?_⟩
        have bl : b < s.heap.objs.size := Heap.lt_size e
        refine hm.heap b o (fun z => ?_) (Heap.get?_push_of_some _ (Heap.get?_push_of_some _ e))
        rcases List.mem_cons.mp z with z | z
        · exact Nat.ne_of_lt bl z
        · rw [List.mem_singleton.mp z, Heap.size_push] at bl
          exact Nat.lt_irrefl _ (Nat.lt_trans bl (Nat.lt_succ_self _))
      · cases r₂ with
        | error e => exact k₂
        | ok f₂ =>
          cases f₂ with
          | ret r =>
            obtain ⟨rfl, hh, tk, c', rfl, hS', hc', kk⟩ := k₂
            repeat (any_goals (first | assumption | wp_step))
            exact fin _ ⟨hh, tk, c', rfl, hS', hc', kk⟩
          | _ => exact k₂.elim
    | _ => exact k.elim
end
end VR

/-! VR3: sets as rules of the layer. -/
namespace VR
open PySem PySem.Spec PyProof.Rows L2
section
variable {X : Cx}
/-- set(xs), xs a list of whole numbers -/
def rSetL (K : PySem.W.Frag) (w : World) : List V → Hp → VK → Prop := fun xs H Q => ∃ (l : Addr) (ns : List Int), xs = [V.ref l] ∧ SqL K H l (ns.map V.int) ∧ ns.length + 1 < scanBound ∧
  ∀ (a : Addr) (c : Nat), H a = none → c ≤ ns.length → Q (.ref a) (upd H a (SetO w a (fun j => decide (j ∈ ns)) c))
theorem cr_setL (hc : X.calm = true) : CallR X (.type "set") (rSetL X.K X.w) := by
  intro pins s σ H vs us Q I r h
  obtain ⟨l, ns, rfl, hs, hb, q⟩ := h
  obtain ⟨its, rv, hl, hz⟩ := I.list hs
  rw [Vals.ref1 r]
  refine set_of_list ns (I.ok.hd hc) hl.isList (by simpa using rv.ints) hb fun s2 hm => ?_
  obtain ⟨hh, tk, c, rfl, R, hc2, k⟩ := hm
  have hn : H s.heap.objs.size = none := I.hok.fresh (Nat.le_refl _)
  exact ⟨.ref _, upd H s.heap.objs.size (SetO X.w s.heap.objs.size (fun j => decide (j ∈ ns)) c), I.laid (t' := tk) k (Nat.le_refl _) (setO_new R), rfl, q _ c hn hc2⟩
/-- len(s), s a set of whole numbers -/
def rLenS (w : World) : List V → Hp → VK → Prop := fun xs H Q => ∃ (a : Addr) (S : Int → Bool) (n : Nat), xs = [V.ref a] ∧ H a = some (SetO w a S n) ∧ ∀ ms : List Int, ms.Nodup → (∀ k, k ∈ ms ↔ S k = true) → Q (.int ms.length) H
theorem cr_lenS : CallR X (.builtin "len") (rLenS X.w) := by
  intro pins s σ H vs us Q I r h
  obtain ⟨a, S, n, rfl, ha, q⟩ := h
  rw [Vals.ref1 r]
  obtain ⟨o, es, ep, t, ho, hx, hd, g, nd, hm, hb, hf, hn, _⟩ := setO_get I ha
  have hb2 : es.size < 4096 := hb
  refine call_len_set ho hx hd hf (by omega) ⟨.int es.size, H, I.tok _, ⟨_, rfl⟩, ?_⟩
  have z := q (es.toList.map keyOf) nd fun k => (hm k).symm
  rw [List.length_map, Array.length_toList] at z
  exact z
/-- .. of tuples of whole numbers -/
def rLenT2 (P : Program) (w : World) : List V → Hp → VK → Prop := fun xs H Q => ∃ (a : Addr) (L : List (Addr × List Int)), xs = [V.ref a] ∧ H a = some (SetTO P w a L) ∧ ((L.map (·.2)).Nodup → Q (.int L.length) H)
theorem cr_lenT2 : CallR X (.builtin "len") (rLenT2 X.prog X.w) := by
  intro pins s σ H vs us Q I r h
  obtain ⟨a, L, rfl, ha, q⟩ := h
  rw [Vals.ref1 r]
  have R0 : SetT0 X.prog X.w s.heap a L := (I.hok a _ ha).1
  obtain ⟨es, ep, t, ⟨o, ho, hx, hd⟩, rows, tab, nd, pl, led, room, few⟩ := R0.ex
  have hsz : es.size = L.length := by
    have z := congrArg List.length rows
    unfold rowsOf at z
    rw [Array.length_toList, List.length_map] at z
    exact z
  have hf : t.fits es.size = true := by
    have h1 := tab.sz
    rw [List.length_map] at h1
    unfold SetTable.fits SetTable.fill
    rw [tab.dm, Bool.and_eq_true, beq_iff_eq, decide_eq_true_eq]
    show t.place.size = es.size ∧ t.place.size + 0 ≤ t.mask
    omega
  exact call_len_set ho hx hd hf (by omega) ⟨.int L.length, H, I.tok _, ⟨_, by rw [hsz]⟩, q nd⟩
end
/-! ### sorting, said of data -/
def sortI (ns : List Int) : List Int := ns.mergeSort fun a b => decide (a ≤ b)
def sortL (ks : List (List Int)) : List (List Int) := ks.mergeSort fun a b => !lexI b a
theorem sortI_perm (ns : List Int) : (sortI ns).Perm ns := List.mergeSort_perm ns _
theorem sortL_perm (ns : List (List Int)) : (sortL ns).Perm ns := List.mergeSort_perm ns _
theorem sortI_sorted (ns : List Int) : (sortI ns).Pairwise (· ≤ ·) := by
  have z := List.pairwise_mergeSort (le := fun a b : Int => decide (a ≤ b)) (fun a b c h1 h2 => decide_eq_true (Int.le_trans (of_decide_eq_true h1) (of_decide_eq_true h2))) (fun a b => by
    rcases Int.le_total a b with h | h
    · simp [h]
    · simp [h]) ns
  exact z.imp fun h => of_decide_eq_true h
theorem sortL_sorted (ns : List (List Int)) : (sortL ns).Pairwise fun x y => lexI y x = false := by
  have z := List.pairwise_mergeSort (le := fun a b : List Int => !lexI b a) (fun a b c h1 h2 => by
      rw [Bool.not_eq_true'] at h1 h2 ⊢
      exact lexI_tr h1 h2) (fun a b => by
    cases q : lexI b a with
    | false => rfl
    | true =>
      rw [lexI_asym q]
      rfl) ns
  exact z.imp fun h => by
    rw [Bool.not_eq_true'] at h
    exact h
theorem sortI_uniq {a ns : List Int} (p : a.Perm ns) (h : a.Pairwise (· ≤ ·)) : a = sortI ns :=
  List.Perm.eq_of_pairwise (le := (· ≤ ·)) (fun a b _ _ h1 h2 => Int.le_antisymm h1 h2) h (sortI_sorted ns) (p.trans (sortI_perm ns).symm)
theorem sortL_uniq {a ns : List (List Int)} (p : a.Perm ns) (h : a.Pairwise fun x y => lexI y x = false) : a = sortL ns :=
  List.Perm.eq_of_pairwise (le := fun x y => lexI y x = false) (fun a b _ _ h1 h2 => lexI_eq h2 h1) h (sortL_sorted ns) (p.trans (sortL_perm ns).symm)
def ddup [DecidableEq α] : List α → List α
  | [] => []
  | x :: xs => if x ∈ xs then ddup xs else x :: ddup xs
theorem mem_ddup [DecidableEq α] {x : α} : ∀ {xs : List α}, x ∈ ddup xs ↔ x ∈ xs
  | [] => Iff.rfl
  | y :: ys => by
    unfold ddup
    by_cases h : y ∈ ys
    · rw [if_pos h, mem_ddup, List.mem_cons]
      constructor
      · exact .inr
      · rintro (e | e)
        · rw [e]; exact h
        · exact e
    · rw [if_neg h, List.mem_cons, List.mem_cons, mem_ddup]
theorem nodup_ddup [DecidableEq α] : ∀ {xs : List α}, (ddup xs).Nodup
  | [] => List.nodup_nil
  | y :: ys => by
    unfold ddup
    by_cases h : y ∈ ys
    · rw [if_pos h]
      exact nodup_ddup
    · rw [if_neg h]
      exact List.nodup_cons.mpr ⟨fun z => h (mem_ddup.mp z), nodup_ddup⟩
theorem ddup_len [DecidableEq α] {xs ms : List α} (n : ms.Nodup) (h : ∀ k, k ∈ ms ↔ k ∈ xs) : ms.Perm (ddup xs) :=
  (List.perm_ext_iff_of_nodup n nodup_ddup).mpr fun k => (h k).trans mem_ddup.symm
end VR

/-! VS10: dicts, subscripts, enumerate, isinstance, sets, sorted. -/
namespace VS
open PySem PySem.Spec PyProof.Rows L2

/-! ### dicts -/
def keyOf : D → Option Key
  | .int i => some (.inl i)
  | .str x => some (.inr x)
  | _ => none
def valD (kvs : List (Key × D)) (k : Key) : Option D := (kvs.find? fun kv => decide (kv.1 = k)).map (·.2)
def putD (kvs : List (Key × D)) (k : Key) (v : D) : List (Key × D) :=
  if (kvs.any fun kv => decide (kv.1 = k)) = true then kvs.map (fun kv => if kv.1 = k then (kv.1, v) else kv) else kvs ++ [(k, v)]
section
variable {C : VC} {G H : Hp}
theorem rs_key {x : D} {v : V} {k : Key} (r : RpS C G H v x) (h : keyOf x = some k) : v = kV k := by
  cases x with
  | int i => cases h; exact rs_int r
  | str i => cases h; exact rs_str r
  | _ => cases h
theorem RpK.val {k : Key} : ∀ {vs : List (Key × V)} {ds : List (Key × D)}, RpK C G vs ds → (∀ x, valD ds k = some x → ∃ v, valV vs k = some v ∧ Rp C G v x) ∧ (valD ds k = none → valV vs k = none)
  | _, _, .nil => ⟨fun x h => (nomatch h), fun _ => rfl⟩
  | _, _, .cons (k := k') (v := v) (vs := vs) (d := d) (ds := ds) r t => by
    by_cases e : k' = k
    · have e1 : valD ((k', d) :: ds) k = some d := by simp [valD, List.find?_cons, e]
      have e2 : valV ((k', v) :: vs) k = some v := by simp [valV, List.find?_cons, e]
      rw [e1, e2]
      exact ⟨fun x h => by cases h; exact ⟨v, rfl, r⟩, fun h => (nomatch h)⟩
    · have e1 : valD ((k', d) :: ds) k = valD ds k := by simp [valD, List.find?_cons, e]
      have e2 : valV ((k', v) :: vs) k = valV vs k := by simp [valV, List.find?_cons, e]
      rw [e1, e2]
      exact RpK.val t
theorem RpK.any {k : Key} : ∀ {vs : List (Key × V)} {ds : List (Key × D)}, RpK C G vs ds → (vs.any fun kv => decide (kv.1 = k)) = ds.any fun kv => decide (kv.1 = k)
  | _, _, .nil => rfl
  | _, _, .cons r t => by
    rw [List.any_cons, List.any_cons, RpK.any t]
theorem RpK.mapP {k : Key} {v : V} {d : D} (h : Rp C G v d) : ∀ {vs : List (Key × V)} {ds : List (Key × D)}, RpK C G vs ds → RpK C G (vs.map fun kv => if kv.1 = k then (kv.1, v) else kv) (ds.map fun kv => if kv.1 = k then (kv.1, d) else kv)
  | _, _, .nil => .nil
  | _, _, .cons (k := k') r t => by
    rw [List.map_cons, List.map_cons]
    by_cases e : k' = k
    · rw [if_pos e, if_pos e]
      exact .cons h (RpK.mapP h t)
    · rw [if_neg e, if_neg e]
      exact .cons r (RpK.mapP h t)
theorem RpK.app : ∀ {vs us : List (Key × V)} {ds es : List (Key × D)}, RpK C G vs ds → RpK C G us es → RpK C G (vs ++ us) (ds ++ es)
  | _, _, _, _, .nil, s => s
  | _, _, _, _, .cons r t, s => .cons r (RpK.app t s)
theorem RpK.put {k : Key} {v : V} {d : D} {vs : List (Key × V)} {ds : List (Key × D)} (r : RpK C G vs ds) (h : Rp C G v d) : RpK C G (putK vs k v) (putD ds k d) := by
  unfold putK putD
  rw [r.any]
  split
  · exact r.mapP h
  · exact r.app (.cons h .nil)
end
section
variable {C : VC} {X : Cx} {W : WX} {pos : Pos}
theorem snd_dnew : SndE C W tDNewK (M.ret (.sv (.od []))) := by
  intro B ρ σ G H Q E P p hp
  exact P _ G _ (E.newD hp .nil) (Same.refl _)
theorem se_dnew : SE C X W (.Dict [] [] pos) tDNewK (M.ret (.sv (.od []))) := ⟨pe_dnewK, snd_dnew⟩
end
/-- slot i [k] = v -/
def dputD (i : Nat) (k v : D) : M Fl := fun ρ => match ρ.getD i none, keyOf k with
  | some (.od kvs), some q => if kvs.length < sizeLine then .ok .nx (ρ.set i (some (.od (putD kvs q v)))) else .stuck
  | _, _ => .stuck
def mDPut (i : Nat) (k v : M Ref) : M Fl := M.bind (mFrz v) fun x ρ => if (ρ.getD i none).isSome = true then M.bind (mFrz k) (fun y => dputD i y x) ρ else .stuck
section
variable {C : VC} {X : Cx} {W : WX} {P : List Nat} {i : Nat} {tk tv : TE} {mk mv : M Ref} {k value : Expr} {x : Str} {p pos pos' : Pos}
theorem snd_dput (hk : SndE C W tk mk) (hv : SndE C W tv mv) : SndS C P W (sDPut (tVar i) tk tv) (mDPut i mk mv) := by
  intro B ρ σ G H D E pn Q
  refine hv.f E ?_
  unfold mDPut at Q
  rw [mbind] at Q
  cases q : mFrz mv ρ with
  | stuck => rw [q] at Q; exact Q
  | err c ρ' => rw [q] at Q; exact fun G' H' Ca E' hc => Q σ G' H' Ca E' pn hc
  | ok x ρ1 =>
    rw [q, bind_ok] at Q
    intro v G1 H1 E1 S1 r1
    by_cases hs : (ρ1.getD i none).isSome = true
    · rw [if_pos hs, mbind] at Q
      obtain ⟨s0, hs0⟩ := Option.isSome_iff_exists.mp hs
      obtain ⟨w, hw, _⟩ := E1.slot hs0
      refine ⟨w, hw, hk.f E1 ?_⟩
      cases q2 : mFrz mk ρ1 with
      | stuck => rw [q2] at Q; exact Q
      | err c ρ' => rw [q2] at Q; exact fun G' H' Ca E' hc => Q σ G' H' Ca E' pn hc
      | ok y ρ2 =>
        rw [q2, bind_ok] at Q
        intro u G2 H2 E2 S2 r2
        unfold dputD at Q
        cases q3 : ρ2.getD i none with
        | none => rw [q3] at Q; exact Q.elim
        | some s =>
          rw [q3] at Q
          cases s with
          | od kvs =>
            cases q4 : keyOf y with
            | none => rw [q4] at Q; exact Q.elim
            | some κ =>
              rw [q4] at Q
              dsimp only at Q
              by_cases hz : kvs.length < sizeLine
              · rw [if_pos hz] at Q
                obtain ⟨pp, vs, rfl, hp, rk, ch⟩ := E2.chgD q3 hw
                have eu : u = kV κ := rs_key (r2.toS E2.fr.gh) q4
                subst eu
                exact ⟨pp, _, rfl, DPut.k hp (by rw [rk.length]; exact hz), Q σ G2 _ (ch _ _ (rk.put (r1.mono S2))) (S1.trans S2) pn⟩
              · rw [if_neg hz] at Q
                exact Q.elim
          | d x => exact Q.elim
          | ol x => exact Q.elim
          | dr x => exact Q.elim
          | sc x => exact Q.elim
          | oi c x => exact Q.elim
    · rw [if_neg hs] at Q
      exact Q.elim
theorem s_dput (hu : X.A.units + 64 < cLine) (hv : PE X (.Name x p) (tVar i)) (hk : SE C X W k tk mk) (hval : SE C X W value tv mv) (hs : swapsWith value (some (.Subscript (.Name x p) k pos')) pos.line X.env = pure false := by rfl) :
    S1 C P X W (.Assign [.Subscript (.Name x p) k pos'] value pos) (sDPut (tVar i) tk tv) (mDPut i mk mv) := ⟨ps_dput (by omega) hv hk.pe hval.pe hs, snd_dput hk.snd hval.snd⟩
end
/-! ### a[b] -/
def dIxX : D → D → Option Rv
  | .dic kvs, k => (keyOf k).bind fun q => (valD kvs q).map .it
  | x, y => dIx x y
abbrev tIx (K : PySem.W.Frag) (ta tb : TE) : TE := fun σ H Q => tOp (rIx K) ta tb σ H Q ∨ tDGet ta tb σ H Q
theorem peOr {X : Cx} {e : Expr} {t t' : TE} (h : PE X e t) (h' : PE X e t') : PE X e (fun σ H Q => t σ H Q ∨ t' σ H Q) := by
  refine ⟨fun pins s σ H Q I z => ?_⟩
  rcases z with z | z
  · exact h.run pins s σ H Q I z
  · exact h'.run pins s σ H Q I z
section
variable {C : VC} {X : Cx} {W : WX} {a b : Expr} {ta tb : TE} {ma mb : M Ref} {pos : Pos}
theorem snd_ixX (ha : SndE C W ta ma) (hb : SndE C W tb mb) : SndE C W (tIx C.K ta tb) (mBin dIxX ma mb) := by
  intro B ρ σ G H Q E P
  have go : (∀ p ρ', val2 ma mb ρ = .ok p ρ' → ∀ kvs, p.1 ≠ .dic kvs) → tOp (rIx C.K) ta tb σ H Q := fun hn => by
    refine snd_bin (C := C) rule_ix ha hb B ρ σ G H Q E ?_
    unfold mBin at P ⊢
    rw [mbind] at P ⊢
    cases q : val2 ma mb ρ with
    | stuck => rw [q] at P; exact P
    | err c ρ' => rw [q] at P; exact P
    | ok p ρ1 =>
      rw [q, bind_ok] at P
      rw [bind_ok]
      have e : dIxX p.1 p.2 = dIx p.1 p.2 := by
        obtain ⟨x, y⟩ := p
        cases x with
        | dic kvs => exact absurd rfl (hn _ ρ1 q kvs)
        | _ => rfl
      rw [← e]
      exact P
  cases q : val2 ma mb ρ with
  | stuck => exact .inl (go fun p ρ' h => by rw [q] at h; cases h)
  | err c ρ' => exact .inl (go fun p ρ' h => by rw [q] at h; cases h)
  | ok p ρ1 =>
    obtain ⟨x, y⟩ := p
    cases x with
    | dic kvs =>
      right
      refine SndE.two (Q := fun x y H2 => ∃ a v, x = .ref a ∧ DGet H2 a y (some v) ∧ Q v H2) ha hb E ?_
      unfold mBin at P
      rw [mbind, q, bind_ok, mbind] at P
      rw [q]
      intro v w G1 H1 E1 S1 r1 r2
      replace P : PostE C B W σ G Q ((M.opt ((keyOf y).bind fun q => (valD kvs q).map Rv.it) ρ1).bind fun r : Rv => M.ret r.ref) := P
      cases q4 : keyOf y with
      | none => rw [q4] at P; exact P.elim
      | some κ =>
        rw [q4] at P
        replace P : PostE C B W σ G Q ((M.opt ((valD kvs κ).map Rv.it) ρ1).bind fun r : Rv => M.ret r.ref) := P
        cases q5 : valD kvs κ with
        | none => rw [q5] at P; exact P.elim
        | some x =>
          rw [q5] at P
          obtain ⟨a, vs, rfl, ha', rk⟩ := rs_dic r1
          have ew : w = kV κ := rs_key r2 q4
          subst ew
          obtain ⟨u, hu, ru⟩ := rk.val.1 x q5
          refine ⟨a, u, rfl, ?_, P u G1 H1 (E1.res ru) S1⟩
          rw [← hu]
          exact .k ha'
    | _ => exact .inl (go fun p ρ' h kvs => by rw [q] at h; cases h; intro z; cases z)
theorem se_ixX (hu : X.A.units + 64 < cLine) (ha : SE C X W a ta ma) (hb : SE C X W b tb mb) (hK : X.K = C.K := by rfl) (hs : PlainIx b := by exact fun _ _ => rfl) (hs2 : NoSl b := by exact fun _ _ => rfl) : SE C X W (.Subscript a b pos) (tIx C.K ta tb) (mBin dIxX ma mb) :=
  ⟨by rw [← hK]; exact peOr (pe_ix ix_seq ha.pe hb.pe hs) (pe_dget (by omega) ha.pe hb.pe hs2), snd_ixX ha.snd hb.snd⟩
end
end VS

/-! VS11: isinstance, sets, sorted, enumerate. -/
namespace VS
open PySem PySem.Spec PyProof.Rows L2 VR

/-- as Fin, with something new laid that nobody looks at any more -/
def FinX (C : VC) (G H : Hp) (Q : VK) (r : Rv) : Prop := Fin C G H Q r ∧ ∀ a o, H a = none → Fin C G (upd H a o) Q r
/-- a function of one value -/
def RuleU (C : VC) (rr : V → Hp → VK → Prop) (f : D → Option Rv) : Prop := ∀ G H v x r Q, Same G H → RpS C G H v x → f x = some r → FinX C G H Q r → rr v H Q
def tU (rr : V → Hp → VK → Prop) (te : TE) : TE := fun σ H Q => te σ H fun x H1 => rr x H1 Q
section
variable {C : VC} {X : Cx} {W : WX} {e : Expr} {te : TE} {me : M Ref} {rr : V → Hp → VK → Prop} {f : D → Option Rv}
theorem snd_u (hr : RuleU C rr f) (h : SndE C W te me) : SndE C W (tU rr te) (mUn f me) := by
  intro B ρ σ G H Q E P
  refine h.v B ρ σ G H _ E ?_
  unfold mUn at P
  rw [mbind] at P
  cases q : val me ρ with
  | stuck => rw [q] at P; exact P
  | err c ρ' => rw [q] at P; exact P
  | ok x ρ1 =>
    rw [q, bind_ok, mbind] at P
    intro v G1 H1 E1 S1 r1
    cases q2 : f x with
    | none => rw [q2] at P; exact P.elim
    | some r =>
      rw [q2, mopt_some, mret, bind_ok] at P
      exact hr G1 H1 v x r Q E1.fr.gh r1 q2 ⟨fin_of E1 S1 P, fun a o ha => fin_of ⟨E1.fr.alloc ha, E1.len⟩ S1 P⟩
end

/-! ### isinstance -/
inductive CN where
  | ty (T : String) | own (x : Str)
def tyN : D → String
  | .non => "NoneType" | .bl _ => "bool" | .int _ => "int" | .str _ => "str" | .tup _ => "tuple" | .lst _ => "list" | .dic _ => "dict" | .ins _ _ => "" | .exc _ => ""
def biB (T t : String) : Bool := t == T || (t == "bool" && T == "int")
def tyNs : List String := ["NoneType", "bool", "int", "str", "tuple", "list", "dict"]
def clNs : List String := ["bool", "int", "str", "tuple", "list", "dict"]
theorem bi_ok : (tyNs.all fun t => clNs.all fun T => kitB t T == some (biB T t)) = true := by decide +kernel
/-- what the written part says of the own classes: cs plain ones, es exceptions; anc: is the one a heir of the other, or it itself -/
structure KO (C : VC) (cs es : List Str) (anc : Str → Str → Bool) : Prop where
  cls : ∀ c ∈ cs, ∃ Ca, C.mg c = some (.ref Ca) ∧ Cls C.K Ca ∧ PySem.W.findIn C.K (.ref Ca) "__class__" = some (some (.builtin "object.__class__")) ∧ PySem.W.mroIn C.K Ca (.type "object") = some true
  exc : ∀ c ∈ es, ∃ Ca, C.mg c = some (.ref Ca) ∧ ExcC C.K Ca
  hn : PySem.W.specialIn C.K (.builtin "object.__class__") "__get__" = some (some (.builtin "getset_descriptor.__get__"))
  ht : PySem.W.takesIn C.K (.builtin "object.__class__") = some true
  own : ∀ c ∈ cs ++ es, ∀ x ∈ cs ++ es, ∀ Ca Xa, C.mg c = some (.ref Ca) → C.mg x = some (.ref Xa) → PySem.W.kitOne C.K (.ref Ca) (.ref Xa) = some (anc c x)
  ty : ∀ c ∈ cs ++ es, ∀ T ∈ clNs, ∀ Ca, C.mg c = some (.ref Ca) → PySem.W.kitOne C.K (.ref Ca) (.type T) = some false
  bi : ∀ t ∈ tyNs, ∀ x ∈ cs ++ es, ∀ Xa, C.mg x = some (.ref Xa) → PySem.W.kitOne C.K (.type t) (.ref Xa) = some false
def isiB (u : CN) (t : String) : Option Bool := match u with
  | .ty T => some (biB T t)
  | .own _ => some false
def isiO (anc : Str → Str → Bool) (u : CN) (c : Str) : Option Bool := match u with
  | .ty _ => some false
  | .own x => some (anc c x)
def isiD (cs es : List Str) (anc : Str → Str → Bool) (u : CN) (d : D) : Option Bool := match d with
  | .ins c _ => if c ∈ cs then isiO anc u c else none
  | .exc c => if c ∈ es then isiO anc u c else none
  | d => isiB u (tyN d)
/-- isinstance(e, c), e an exception's object -/
def rIsX (K : PySem.W.Frag) : List V → Hp → VK → Prop := fun xs H Q => ∃ (a Da : Addr) (c : V) (cv : Value) (b : Bool), xs = [.ref a, c] ∧ H a = some (ExV (.ref Da) a) ∧ ExcC K Da ∧ ClsV c cv ∧ PySem.W.kitOne K (.ref Da) cv = some b ∧ Q (.bl b) H
theorem cr_isX {X : Cx} : CallR X (.builtin "isinstance") (rIsX X.K) := by
  intro pins s σ H xs us Q I r h
  obtain ⟨a, Da, c, cv, b, rfl, ha, C, k, e, q⟩ := h
  obtain ⟨u1, u2, rfl, r1, r2⟩ := vals2 r
  have e2 := k.eq r2
  subst e2
  cases (show u1 = Value.ref a from r1)
  obtain ⟨oe, vs, hget, hz, hv⟩ := (show ∃ (oe : Obj) (vs : Array Value), s.heap.get? a = some oe ∧ Zc (.ref Da) none oe ∧ oe.data = .fields vs from (I.hok a _ ha).1)
  have J : PySem.W.InstAt s.heap a oe Da none := by
    obtain ⟨oc, od, oda, osl⟩ := oe
    obtain ⟨h1, h2⟩ := hz
    dsimp only at h1 h2 hv
    subst h1 h2 hv
    exact ⟨hget, rfl, rfl, trivial⟩
  exact PySem.W.kia_one (PySem.W.handS_kitx_exc C.hg C.hk C.hs C.hd C.ha C.hn C.ht C.hm) I.kIn J e (fun z => nomatch z) fun tk => ⟨.bl b, H, I.kept (t' := tk) fun _ _ z => z, rfl, q⟩
abbrev rIsiX (K : PySem.W.Frag) : List V → Hp → VK → Prop := fun xs H Q => rIsi K xs H Q ∨ rIsX K xs H Q
theorem cr_isiX {X : Cx} : CallR X (.builtin "isinstance") (rIsiX X.K) := callOr call_isi cr_isX
section
variable {C : VC} {G H : Hp} {v : V} {x : D} {cs es : List Str} {anc : Str → Str → Bool}
/-- a value's type -/
theorem ty_of (h : RpS C G H v x) (S : Same G H) (n1 : ∀ c fs, x ≠ .ins c fs) (n2 : ∀ c, x ≠ .exc c) : TyX C.K H v (.type (tyN x)) := by
  cases x with
  | non => rw [rs_non h]; exact .base .non
  | bl b => rw [rs_bl h]; exact .base (.bl b)
  | int b => rw [rs_int h]; exact .base (.int b)
  | str b => rw [rs_str h]; exact .base (.str b)
  | lst xs =>
    obtain ⟨a, vs, rfl, h1, _⟩ := rs_lst h
    exact .base (.lst h1)
  | dic xs =>
    obtain ⟨a, vs, rfl, h1, _⟩ := rs_dic h
    exact .base (.dK h1)
  | tup xs =>
    obtain ⟨a, vs, rfl, h1, _⟩ := rs_tup h S
    rcases h1 with (h1 | ⟨o, h1⟩) | h1
    · exact .base (.tup h1)
    · exact .fTuple h1
    · obtain ⟨o, its, n, z1, z2, _⟩ := h1
      exact .kTuple z1 z2
  | ins c fs => exact absurd rfl (n1 c fs)
  | exc c => exact absurd rfl (n2 c)
theorem tyN_in (n1 : ∀ c fs, x ≠ .ins c fs) (n2 : ∀ c, x ≠ .exc c) : tyN x ∈ tyNs := by
  cases x with
  | ins c fs => exact absurd rfl (n1 c fs)
  | exc c => exact absurd rfl (n2 c)
  | _ => simp [tyN, tyNs]
/-- the class as a value, and its name -/
inductive CNV (C : VC) : CN → V → Prop where
  | ty {T : String} (h : T ∈ clNs) : CNV C (.ty T) (.ty T)
  | own {x : Str} {a : Addr} (h : C.mg x = some (.ref a)) : CNV C (.own x) (.ref a)
def cnIn (cs es : List Str) : CN → Bool
  | .ty T => clNs.contains T
  | .own x => (cs ++ es).contains x
theorem kit_is (O : KO C cs es anc) {u : CN} {c : V} (hc : CNV C u c) (hu : cnIn cs es u = true) {b : Bool} (h : RpS C G H v x) (S : Same G H) (hb : isiD cs es anc u x = some b) {Q : VK} (q : Q (.bl b) H) : rIsiX C.K [v, c] H Q := by
  have gen : (∀ c fs, x ≠ .ins c fs) → (∀ c, x ≠ .exc c) → isiB u (tyN x) = some b → rIsiX C.K [v, c] H Q := by
    intro n1 n2 e
    have ht := tyN_in n1 n2
    cases hc with
    | @ty T hT =>
      have k := List.all_eq_true.mp (List.all_eq_true.mp bi_ok _ ht) _ hT
      have k : kitB (tyN x) T = some (biB T (tyN x)) := by simpa using k
      exact .inl ⟨v, .ty T, _, _, b, rfl, .ty T, ty_of h S n1 n2, by rw [kit_ty k]; exact e, q⟩
    | @own y a hy =>
      have hm : y ∈ cs ++ es := by
        have z : (cs ++ es).contains y = true := hu
        exact List.contains_iff_mem.mp z
      exact .inl ⟨v, .ref a, _, _, b, rfl, .own a, ty_of h S n1 n2, by rw [O.bi _ ht y hm a hy]; exact e, q⟩
  cases x with
  | ins d fs =>
    have hb : (if d ∈ cs then isiO anc u d else none) = some b := hb
    by_cases hd : d ∈ cs
    · rw [if_pos hd] at hb
      obtain ⟨Da, g1, g2, g3, g4⟩ := O.cls d hd
      obtain ⟨a, Ca, dx, fs', rfl, m1, m2, m3, m4⟩ := (show ∃ a Ca dx vs, v = V.ref a ∧ C.mg d = some (.ref Ca) ∧ H a = some (.ins Ca dx vs) ∧ G dx = some (.own a) ∧ RpF C G vs fs from h)
      rw [g1] at m1
      cases m1
      have ty : TyX C.K H (.ref a) (.ref Da) := .base (.ins m2 g2 g3 O.hn O.ht g4)
      have hdm : d ∈ cs ++ es := List.mem_append_left _ hd
      cases hc with
      | @ty T hT => exact .inl ⟨_, .ty T, _, _, b, rfl, .ty T, ty, by rw [O.ty d hdm T hT Da g1]; exact hb, q⟩
      | @own y a' hy =>
        have hm : y ∈ cs ++ es := by
          have z : (cs ++ es).contains y = true := hu
          exact List.contains_iff_mem.mp z
        exact .inl ⟨_, .ref a', _, _, b, rfl, .own a', ty, by rw [O.own d hdm y hm Da a' g1 hy]; exact hb, q⟩
    · rw [if_neg hd] at hb
      cases hb
  | exc d =>
    have hb : (if d ∈ es then isiO anc u d else none) = some b := hb
    by_cases hd : d ∈ es
    · rw [if_pos hd] at hb
      obtain ⟨Da, g1, g2⟩ := O.exc d hd
      cases (show Rp C G v (.exc d) from h) with
      | @exc a Ca _ m1 m2 =>
        rw [g1] at m1
        cases m1
        have hdm : d ∈ cs ++ es := List.mem_append_right _ hd
        cases hc with
        | @ty T hT => exact .inr ⟨a, Da, .ty T, _, b, rfl, S _ _ m2, g2, .ty T, by rw [O.ty d hdm T hT Da g1]; exact hb, q⟩
        | @own y a' hy =>
          have hm : y ∈ cs ++ es := by
            have z : (cs ++ es).contains y = true := hu
            exact List.contains_iff_mem.mp z
          exact .inr ⟨a, Da, .ref a', _, b, rfl, S _ _ m2, g2, .own a', by rw [O.own d hdm y hm Da a' g1 hy]; exact hb, q⟩
    · rw [if_neg hd] at hb
      cases hb
  | non => exact gen (fun _ _ z => nomatch z) (fun _ z => nomatch z) hb
  | bl y => exact gen (fun _ _ z => nomatch z) (fun _ z => nomatch z) hb
  | int y => exact gen (fun _ _ z => nomatch z) (fun _ z => nomatch z) hb
  | str y => exact gen (fun _ _ z => nomatch z) (fun _ z => nomatch z) hb
  | tup y => exact gen (fun _ _ z => nomatch z) (fun _ z => nomatch z) hb
  | lst y => exact gen (fun _ _ z => nomatch z) (fun _ z => nomatch z) hb
  | dic y => exact gen (fun _ _ z => nomatch z) (fun _ z => nomatch z) hb
end
def dIsi (cs es : List Str) (anc : Str → Str → Bool) (u : CN) (d : D) : Option Rv := (isiD cs es anc u d).map fun b => .sc (.bl b)
section
variable {C : VC} {X : Cx} {W : WX} {e c : Expr} {te : TE} {me : M Ref} {p pos : Pos} {cs es : List Str} {anc : Str → Str → Bool} {u : CN} {cv : V}
theorem snd_isi (O : KO C cs es anc) (hc : CNV C u cv) (hu : cnIn cs es u = true) (h : SndE C W te me) : SndE C W (tCB (rIsiX C.K) (tCons te (tCons (tC cv) tNil))) (mUn (dIsi cs es anc u) me) := by
  refine snd_u (rr := fun v H Q => rIsiX C.K [v, cv] H Q) (fun G H v x r Q S hr hf hF => ?_) h
  unfold dIsi at hf
  cases q : isiD cs es anc u x with
  | none => rw [q] at hf; cases hf
  | some b =>
    rw [q] at hf
    cases hf
    exact kit_is O hc hu hr S q hF.1
theorem se_isi (O : KO C cs es anc) (hg : Gl X "isinstance") (hm : X.mg "isinstance" = none) (hc : CNV C u cv) (hpc : PE X c (tC cv)) (h : SE C X W e te me) (hu : cnIn cs es u = true := by rfl) (hK : X.K = C.K := by rfl)
    (h1 : starEach [e, c] X.env = (false, eval e X.env) :: starEach [c] X.env := by rfl) (h2 : starEach [c] X.env = (false, eval c X.env) :: starEach [] X.env := by rfl) (hpl : (backTo pos (starEach [c] X.env)).any (·.1) = false := by rfl) :
    SE C X W (.Call (.Name "isinstance" p) [e, c] [] pos) (tCB (rIsiX C.K) (tCons te (tCons (tC cv) tNil))) (mUn (dIsi cs es anc u) me) :=
  ⟨pe_callB (crK cr_isiX hK) hg hm (by first | exact PySem.boot_isinstance | rfl | decide +kernel) (pa_cons h.pe (pa_cons hpc pa_nil h2) h1) (by decide) (by decide) h1 hpl, snd_isi O hc hu h.snd⟩
end
end VS

/-! VS12: isinstance with several classes, sets, sorted, enumerate. -/
namespace VS
open PySem PySem.Spec PyProof.Rows L2 VR

theorem RpS.ext {C : VC} {G H H' : Hp} {v : V} {x : D} (r : RpS C G H v x) (S : Same H H') : RpS C G H' v x := by
  cases x with
  | lst xs =>
    obtain ⟨a, vs, e, h, q⟩ := r
    exact ⟨a, vs, e, S _ _ h, q⟩
  | dic xs =>
    obtain ⟨a, vs, e, h, q⟩ := r
    exact ⟨a, vs, e, S _ _ h, q⟩
  | ins c fs =>
    obtain ⟨a, Ca, dx, vs, e, m, h, q⟩ := r
    exact ⟨a, Ca, dx, vs, e, m, S _ _ h, q⟩
  | _ => exact r
/-! ### isinstance(x, (c1, c2)) -/
def isiA (us : List String) (d : D) : Option Bool := match d with
  | .ins _ _ => none
  | .exc _ => none
  | d => some (us.any fun T => biB T (tyN d))
def dIsiA (us : List String) (d : D) : Option Rv := (isiA us d).map fun b => .sc (.bl b)
def tys : List String → TA
  | [] => tNil
  | T :: us => tCons (tC (.ty T)) (tys us)
section
variable {C : VC} {G H : Hp}
theorem kit_anyB {t : String} (ht : t ∈ tyNs) : ∀ {us : List String}, (∀ T ∈ us, T ∈ clNs) → PySem.W.kitAny C.K (.type t) (us.map Value.type) = some (us.any fun T => biB T t)
  | [], _ => rfl
  | T :: us, h => by
    have k := List.all_eq_true.mp (List.all_eq_true.mp bi_ok _ ht) _ (h T List.mem_cons_self)
    have k : kitB t T = some (biB T t) := by simpa using k
    rw [List.map_cons, List.any_cons]
    refine kitAny_cons (b := biB T t) (kit_ty k) (fun hb => ?_) (fun hb => by rw [hb] <;> rfl)
    rw [hb, Bool.false_or]
    exact kit_anyB ht fun S hS => h S (List.mem_cons_of_mem _ hS)
theorem tys_run {σ : L2.St} {H : Hp} {Q : List V → Hp → Prop} : ∀ (us : List String), Q (us.map V.ty) H → tys us σ H Q
  | [], h => h
  | T :: us, h => tys_run us h
theorem tys_paired : ∀ us : List String, Paired ClsV (us.map V.ty) (us.map Value.type)
  | [] => .nil
  | T :: us => .cons (.ty T) (tys_paired us)
variable {X : Cx} {W : WX} {e : Expr} {cs : List Expr} {te : TE} {me : M Ref} {p pos pt : Pos} {us : List String} {kk : Nat}
theorem snd_isiA (hu : ∀ T ∈ us, T ∈ clNs) (hz : us.length ≤ sizeLine) (h : SndE C W te me) : SndE C W (tCB (rIsiT C.K) (tCons te (tCons (tTup (tys us)) tNil))) (mUn (dIsiA us) me) := by
  intro B ρ σ G H Q E P
  refine snd_u (C := C) (f := dIsiA us) (rr := fun v H Q => tTup (tys us) σ H fun w H2 => rIsiT C.K [v, w] H2 Q) (fun G H v x r Q S hr hf hF => ?_) h B ρ σ G H Q E P
  unfold dIsiA at hf
  cases q : isiA us x with
  | none => rw [q] at hf; cases hf
  | some b =>
    rw [q] at hf
    cases hf
    have n1 : ∀ c fs, x ≠ .ins c fs := fun c fs z => by subst z; cases q
    have n2 : ∀ c, x ≠ .exc c := fun c z => by subst z; cases q
    have q : some (us.any fun T => biB T (tyN x)) = some b := by
      cases x with
      | ins c fs => exact absurd rfl (n1 c fs)
      | exc c => exact absurd rfl (n2 c)
      | _ => exact q
    cases q
    refine tys_run us ⟨by rw [List.length_map]; exact hz, fun T hT => ⟨v, T, us.map V.ty, _, us.map Value.type, _, rfl, upd_same, tys_paired us, ?_, kit_anyB (tyN_in n1 n2) hu, hF.2 T _ hT⟩⟩
    exact ty_of (RpS.ext hr (same_up hT)) (S.trans (same_up hT)) n1 n2
theorem se_isiA (hg : Gl X "isinstance") (hm : X.mg "isinstance" = none) (hu : ∀ T ∈ us, T ∈ clNs) (hz : us.length ≤ sizeLine) (hcs : PA X cs (tys us)) (h : SE C X W e te me) (hK : X.K = C.K := by rfl)
    (h1 : starEach [e, .Tuple cs kk pt] X.env = (false, eval e X.env) :: starEach [.Tuple cs kk pt] X.env := by rfl) (h2 : starEach [.Tuple cs kk pt] X.env = (false, eval (.Tuple cs kk pt) X.env) :: starEach [] X.env := by rfl) (hpl : (backTo pos (starEach [.Tuple cs kk pt] X.env)).any (·.1) = false := by rfl) :
    SE C X W (.Call (.Name "isinstance" p) [e, .Tuple cs kk pt] [] pos) (tCB (rIsiT C.K) (tCons te (tCons (tTup (tys us)) tNil))) (mUn (dIsiA us) me) :=
  ⟨pe_callB (crK call_isiT hK) hg hm PyProof.Rows.boot_isinstance (pa_cons h.pe (pa_cons (pe_tup hcs) pa_nil h2) h1) (by decide) (by decide) h1 hpl, snd_isiA hu hz h.snd⟩
end
/-! ### whole numbers and tuples of them -/
def intsOfD : List D → Option (List Int)
  | [] => some []
  | .int i :: xs => (intsOfD xs).map (i :: ·)
  | _ => none
def tupOf : D → Option (List Int)
  | .tup xs => intsOfD xs
  | _ => none
def tupsOf : List D → Option (List (List Int))
  | [] => some []
  | x :: xs => (tupOf x).bind fun k => (tupsOf xs).map (k :: ·)
def intD (ns : List Int) : List D := ns.map .int
def tupD (ks : List (List Int)) : List D := ks.map fun k => .tup (intD k)
section
variable {C : VC} {G H : Hp}
theorem intsOfD_eq : ∀ {xs : List D} {ns : List Int}, intsOfD xs = some ns → xs = intD ns
  | [], ns, h => by cases h; rfl
  | x :: xs, ns, h => by
    cases x with
    | int i =>
      have h : (intsOfD xs).map (i :: ·) = some ns := h
      cases q : intsOfD xs with
      | none => rw [q] at h; cases h
      | some ms =>
        rw [q] at h
        cases h
        rw [intsOfD_eq q]
        rfl
    | _ => cases h
@[simp] theorem intsOfD_intD : ∀ ns : List Int, intsOfD (intD ns) = some ns
  | [] => rfl
  | i :: ns => by
    show (intsOfD (intD ns)).map (i :: ·) = _
    rw [intsOfD_intD] <;> rfl
theorem rpl_ints : ∀ {vs : List V} {ns : List Int}, RpL C G vs (intD ns) → vs = ns.map V.int
  | _, [], .nil => rfl
  | _, i :: ns, .cons r t => by
    cases r
    rw [rpl_ints t]
    rfl
theorem ints_rpl : ∀ ns : List Int, RpL C G (ns.map V.int) (intD ns)
  | [] => .nil
  | i :: ns => .cons (.int i) (ints_rpl ns)
theorem tupsOf_eq : ∀ {xs : List D} {ks : List (List Int)}, tupsOf xs = some ks → xs = tupD ks
  | [], ks, h => by cases h; rfl
  | x :: xs, ks, h => by
    have h : ((tupOf x).bind fun k => (tupsOf xs).map (k :: ·)) = some ks := h
    cases x with
    | tup ys =>
      have h : ((intsOfD ys).bind fun k => (tupsOf xs).map (k :: ·)) = some ks := h
      cases q : intsOfD ys with
      | none => rw [q] at h; cases h
      | some k =>
        rw [q] at h
        have h : (tupsOf xs).map (k :: ·) = some ks := h
        cases q2 : tupsOf xs with
        | none => rw [q2] at h; cases h
        | some ms =>
          rw [q2] at h
          cases h
          rw [tupsOf_eq q2, intsOfD_eq q]
          rfl
    | _ => cases h
@[simp] theorem tupsOf_tupD : ∀ ks : List (List Int), tupsOf (tupD ks) = some ks
  | [] => rfl
  | k :: ks => by
    show ((intsOfD (intD k)).bind fun k => (tupsOf (tupD ks)).map (k :: ·)) = _
    rw [intsOfD_intD, tupsOf_tupD] <;> rfl
/-- the addresses of such tuples -/
theorem rpl_tups : ∀ {vs : List V} {ks : List (List Int)}, RpL C G vs (tupD ks) → ∃ ps : List (Addr × List Int), vs = ps.map (fun p => V.ref p.1) ∧ ps.map (·.2) = ks ∧ ∀ p ∈ ps, SqT C.K G p.1 (p.2.map V.int)
  | _, [], .nil => ⟨[], rfl, rfl, fun p hp => nomatch hp⟩
  | _, k :: ks, .cons r t => by
    obtain ⟨ps, h1, h2, h3⟩ := rpl_tups t
    cases r with
    | tup h q =>
      rename_i a us
      refine ⟨(a, k) :: ps, by rw [h1]; rfl, by rw [← h2]; rfl, fun p hp => ?_⟩
      rcases List.mem_cons.mp hp with e | hp
      · rw [e]
        rw [← rpl_ints q]
        exact h
      · exact h3 p hp
theorem tups_rpl : ∀ {ps : List (Addr × List Int)}, (∀ p ∈ ps, SqT C.K G p.1 (p.2.map V.int)) → RpL C G (ps.map fun p => V.ref p.1) (tupD (ps.map (·.2)))
  | [], _ => .nil
  | p :: ps, h => .cons (.tup (h p List.mem_cons_self) (ints_rpl p.2)) (tups_rpl fun q hq => h q (List.mem_cons_of_mem _ hq))
end
/-! ### sorted -/
def dSorted : D → Option Rv
  | .lst xs => match intsOfD xs with
    | some ns => some (.nl (intD (sortI ns)))
    | none => match tupsOf xs with
      | some ks => if ks.all (fun k => !k.isEmpty) = true then some (.nl (tupD (sortL ks))) else none
      | none => none
  | _ => none
abbrev rSrt (K : PySem.W.Frag) : List V → Hp → VK → Prop := fun xs H Q => rSortedI K xs H Q ∨ rSortL K xs H Q
section
variable {C : VC} {X : Cx} {W : WX} {e : Expr} {te : TE} {me : M Ref} {p pos : Pos}
theorem rule_sorted : RuleU C (fun v H Q => rSrt C.K [v] H Q) dSorted := by
  intro G H v x r Q S h hf hF
  cases x with
  | lst xs =>
    obtain ⟨a, vs, rfl, ha, rl⟩ := rs_lst h
    have hf : (match intsOfD xs with
      | some ns => some (Rv.nl (intD (sortI ns)))
      | none => match tupsOf xs with
        | some ks => if ks.all (fun k => !k.isEmpty) = true then some (.nl (tupD (sortL ks))) else none
        | none => none) = some r := hf
    cases q : intsOfD xs with
    | some ns =>
      rw [q] at hf
      cases hf
      rw [intsOfD_eq q] at rl
      refine .inl ⟨a, ns, rfl, ?_, fun ns' p pm sr hp => ?_⟩
      · rw [← rpl_ints rl]
        exact .of ha
      · rw [sortI_uniq pm sr]
        exact hF.1 _ p (ints_rpl _) hp
    | none =>
      rw [q] at hf
      cases q2 : tupsOf xs with
      | none => rw [q2] at hf; cases hf
      | some ks =>
        rw [q2] at hf
        replace hf : (if ks.all (fun k => !k.isEmpty) = true then some (Rv.nl (tupD (sortL ks))) else none) = some r := hf
        by_cases hk : ks.all (fun k => !k.isEmpty) = true
        · rw [if_pos hk] at hf
          cases hf
          rw [tupsOf_eq q2] at rl
          obtain ⟨ps, e1, e2, e3⟩ := rpl_tups rl
          subst e1 e2
          refine .inr ⟨a, ps, rfl, .of ha, fun p hp => ⟨VS.Same.sqt S (e3 p hp), fun z => ?_⟩, fun ps' p pm sr hp => ?_⟩
          · have k := List.all_eq_true.mp hk p.2 (List.mem_map.mpr ⟨p, hp, rfl⟩)
            rw [z] at k
            cases k
          · have e : ps'.map (·.2) = sortL (ps.map (·.2)) := sortL_uniq (pm.map _) (List.pairwise_map.mpr sr)
            rw [← e] at hF
            exact hF.1 _ p (tups_rpl fun q hq => e3 q (pm.mem_iff.mp hq)) hp
        · rw [if_neg hk] at hf
          cases hf
  | _ => cases hf
theorem se_sorted (hg : Gl X "sorted") (hm : X.mg "sorted" = none) (h : SE C X W e te me) (hK : X.K = C.K := by rfl)
    (h1 : starEach [e] X.env = (false, eval e X.env) :: starEach [] X.env := by rfl) : SE C X W (.Call (.Name "sorted" p) [e] [] pos) (tCB (rSrt C.K) (tCons te tNil)) (mUn dSorted me) :=
  ⟨pe_callB (crK (r := rSrt) (callOr cr_sortedI cr_sortL) hK) hg hm (by decide +kernel) (pa_cons h.pe pa_nil h1) (by decide) (by decide) h1 (by rfl), snd_u rule_sorted h.snd⟩
/-! ### sets, at once measured or sorted -/
def dLenSet : D → Option Rv
  | .lst xs => match intsOfD xs with
    | some ns => if ns.length + 1 < scanBound then some (.sc (.int (ddup ns).length)) else none
    | none => match tupsOf xs with
      | some ks => if ks.length < 64 then some (.sc (.int (ddup ks).length)) else none
      | none => none
  | _ => none
def dSortSet : D → Option Rv
  | .lst xs => match intsOfD xs with
    | some ns => if ns.length < 64 then some (.nl (intD (sortI (ddup ns)))) else none
    | none => none
  | _ => none
abbrev rMkS (C : VC) : List V → Hp → VK → Prop := fun xs H Q => rSetL C.K C.w xs H Q ∨ rSetOfT C.K C.P C.w xs H Q
abbrev rLenX2 (C : VC) : List V → Hp → VK → Prop := fun xs H Q => rLenS C.w xs H Q ∨ rLenT2 C.P C.w xs H Q
theorem rule_lenSet : RuleU C (fun v H Q => rMkS C [v] H fun w H2 => rLenX2 C [w] H2 Q) dLenSet := by
  intro G H v x r Q S h hf hF
  cases x with
  | lst xs =>
    obtain ⟨a, vs, rfl, ha, rl⟩ := rs_lst h
    have hf : (match intsOfD xs with
      | some ns => if ns.length + 1 < scanBound then some (Rv.sc (.int (ddup ns).length)) else none
      | none => match tupsOf xs with
        | some ks => if ks.length < 64 then some (.sc (.int (ddup ks).length)) else none
        | none => none) = some r := hf
    cases q : intsOfD xs with
    | some ns =>
      rw [q] at hf
      replace hf : (if ns.length + 1 < scanBound then some (Rv.sc (.int (ddup ns).length)) else none) = some r := hf
      by_cases hb : ns.length + 1 < scanBound
      · rw [if_pos hb] at hf
        cases hf
        rw [intsOfD_eq q] at rl
        refine .inl ⟨a, ns, rfl, ?_, hb, fun l c hl hc => .inl ⟨l, _, c, rfl, upd_same, fun ms nd hm => ?_⟩⟩
        · rw [← rpl_ints rl]
          exact .of ha
        · have e := (ddup_len nd fun k => by rw [hm k, decide_eq_true_eq] : ms.Perm (ddup ns)).length_eq
          rw [e]
          exact hF.2 l _ hl
      · rw [if_neg hb] at hf
        cases hf
    | none =>
      rw [q] at hf
      cases q2 : tupsOf xs with
      | none => rw [q2] at hf; cases hf
      | some ks =>
        rw [q2] at hf
        replace hf : (if ks.length < 64 then some (Rv.sc (.int (ddup ks).length)) else none) = some r := hf
        by_cases hb : ks.length < 64
        · rw [if_pos hb] at hf
          cases hf
          rw [tupsOf_eq q2] at rl
          obtain ⟨ps, e1, e2, e3⟩ := rpl_tups rl
          subst e1 e2
          refine .inr ⟨a, ps, rfl, .of ha, fun p hp => VS.Same.sqt S (e3 p hp), by rw [List.length_map] at hb; exact hb, fun l L hl m1 m2 => .inr ⟨l, L, rfl, upd_same, fun nd => ?_⟩⟩
          have e : (L.map (·.2)).Perm (ddup (ps.map (·.2))) := ddup_len nd fun k => by
            constructor
            · intro hk
              obtain ⟨p, hp, e⟩ := List.mem_map.mp hk
              exact List.mem_map.mpr ⟨p, m1 p hp, e⟩
            · intro hk
              obtain ⟨p, hp, e⟩ := List.mem_map.mp hk
              rw [← e]
              exact m2 p hp
          have e := e.length_eq
          rw [List.length_map] at e
          rw [e]
          exact hF.2 l _ hl
        · rw [if_neg hb] at hf
          cases hf
  | _ => cases hf
theorem rule_sortSet : RuleU C (fun v H Q => rSetL C.K C.w [v] H fun w H2 => rSortedSet C.w [w] H2 Q) dSortSet := by
  intro G H v x r Q S h hf hF
  cases x with
  | lst xs =>
    obtain ⟨a, vs, rfl, ha, rl⟩ := rs_lst h
    have hf : (match intsOfD xs with
      | some ns => if ns.length < 64 then some (Rv.nl (intD (sortI (ddup ns)))) else none
      | none => none) = some r := hf
    cases q : intsOfD xs with
    | some ns =>
      rw [q] at hf
      replace hf : (if ns.length < 64 then some (Rv.nl (intD (sortI (ddup ns)))) else none) = some r := hf
      by_cases hb : ns.length < 64
      · rw [if_pos hb] at hf
        cases hf
        rw [intsOfD_eq q] at rl
        refine ⟨a, ns, rfl, ?_, ?_, fun l c hl hc => ⟨l, _, c, rfl, upd_same, by omega, fun ms p sr hm hn hp => ?_⟩⟩
        · rw [← rpl_ints rl]
          exact .of ha
        · unfold scanBound
          omega
        · have nd : ms.Nodup := sr.imp fun h => Int.ne_of_lt h
          have e : ms.Perm (ddup ns) := ddup_len nd fun k => by rw [hm k, decide_eq_true_eq]
          rw [sortI_uniq e (sr.imp fun h => Int.le_of_lt h)]
          exact hF.2 l _ hl _ p (ints_rpl _) hp
      · rw [if_neg hb] at hf
        cases hf
    | none =>
      rw [q] at hf
      cases hf
  | _ => cases hf
variable {p2 q2 : Pos}
theorem se_lenSet (hc : X.calm = true) (hu : X.A.units + 64 < cLine) (hg : Gl X "len") (hm : X.mg "len" = none) (hg2 : Gl X "set") (hm2 : X.mg "set" = none) (h : SE C X W e te me) (hK : X.K = C.K := by rfl) (hP : X.prog = C.P := by rfl) (hw : X.w = C.w := by rfl)
    (h1 : starEach [e] X.env = (false, eval e X.env) :: starEach [] X.env := by rfl) (h2 : starEach [.Call (.Name "set" p2) [e] [] q2] X.env = (false, eval (.Call (.Name "set" p2) [e] [] q2) X.env) :: starEach [] X.env := by rfl) :
    SE C X W (.Call (.Name "len" p) [.Call (.Name "set" p2) [e] [] q2] [] pos) (tCB (rLenX2 C) (tCons (tCB (rMkS C) (tCons te tNil)) tNil)) (mUn dLenSet me) := by
  have k1 : CallR X (.builtin "len") (rLenX2 C) := by
    have z := callOr (X := X) cr_lenS cr_lenT2
    rw [hP, hw] at z
    exact z
  have k2 : CallR X (.type "set") (rMkS C) := by
    have z := callOr (X := X) (cr_setL hc) (cr_setOfT hc hu)
    rw [hP, hw, hK] at z
    exact z
  exact ⟨pe_callB k1 hg hm (by decide +kernel) (pa_cons (pe_callTy k2 hg2 hm2 (by decide +kernel) (pa_cons h.pe pa_nil h1) (by decide) (by decide) h1 (by rfl)) pa_nil h2) (by decide) (by decide) h2 (by rfl), snd_u (te := te) (rr := fun v H Q => rMkS C [v] H fun w H2 => rLenX2 C [w] H2 Q) rule_lenSet h.snd⟩
theorem se_sortSet (hc : X.calm = true) (hg : Gl X "sorted") (hm : X.mg "sorted" = none) (hg2 : Gl X "set") (hm2 : X.mg "set" = none) (h : SE C X W e te me) (hK : X.K = C.K := by rfl) (hw : X.w = C.w := by rfl)
    (h1 : starEach [e] X.env = (false, eval e X.env) :: starEach [] X.env := by rfl) (h2 : starEach [.Call (.Name "set" p2) [e] [] q2] X.env = (false, eval (.Call (.Name "set" p2) [e] [] q2) X.env) :: starEach [] X.env := by rfl) :
    SE C X W (.Call (.Name "sorted" p) [.Call (.Name "set" p2) [e] [] q2] [] pos) (tCB (rSortedSet C.w) (tCons (tCB (rSetL C.K C.w) (tCons te tNil)) tNil)) (mUn dSortSet me) := by
  have k1 : CallR X (.builtin "sorted") (rSortedSet C.w) := by
    have z := cr_sortedSet (X := X) hc
    rw [hw] at z
    exact z
  have k2 : CallR X (.type "set") (rSetL C.K C.w) := by
    have z := cr_setL (X := X) hc
    rw [hw, hK] at z
    exact z
  exact ⟨pe_callB k1 hg hm (by decide +kernel) (pa_cons (pe_callTy k2 hg2 hm2 (by decide +kernel) (pa_cons h.pe pa_nil h1) (by decide) (by decide) h1 (by rfl)) pa_nil h2) (by decide) (by decide) h2 (by rfl), snd_u (te := te) (rr := fun v H Q => rSetL C.K C.w [v] H fun w H2 => rSortedSet C.w [w] H2 Q) rule_sortSet h.snd⟩
end
/-! ### enumerate -/
def enumD (xs : List D) : List D := xs.zipIdx.map fun p => .tup [.int (p.2 : Nat), p.1]
def enumOf : D → Option (List D)
  | .lst xs => some (enumD xs)
  | _ => none
def mEnum (a : M Ref) : M (List D) := M.bind (mFrz a) fun x => M.opt (enumOf x)
section
variable {C : VC} {X : Cx} {W : WX} {e : Expr} {te : TE} {me : M Ref} {p pos tpos : Pos} {elts : List Expr} {kk : Nat}
theorem enumD_get {xs : List D} {i : Nat} {y : D} (h : (enumD xs)[i]? = some y) : ∃ x, xs[i]? = some x ∧ y = .tup [.int (i : Nat), x] := by
  unfold enumD at h
  rw [List.getElem?_map, List.getElem?_zipIdx] at h
  cases q : xs[i]? with
  | none => rw [q] at h; cases h
  | some x =>
    rw [q] at h
    refine ⟨x, rfl, ?_⟩
    have h : some (D.tup [.int ((0 + i : Nat) : Int), x]) = some y := h
    rw [Nat.zero_add] at h
    exact (Option.some.inj h).symm
theorem enumD_len {xs : List D} : (enumD xs).length = xs.length := by simp [enumD]
theorem walks_enum {G : Hp} {a : Addr} {vs : List V} {xs : List D} (ha : G a = some (.lst vs)) (r : RpL C G vs xs) : Walks C (Ite C.K a) (enumD xs) (KStill G) where
  stop := fun G1 H1 k => ⟨vs, .of (k.2 _ _ (k.1 _ _ ha)), by rw [enumD_len, r.length]; exact Nat.le_refl _⟩
  go := fun i y G1 H1 hy k => by
    obtain ⟨x, hx, _⟩ := enumD_get hy
    obtain ⟨v, hv, _⟩ := r.get hx
    exact ⟨vs, v, .of (k.2 _ _ (k.1 _ _ ha)), hv⟩
  yld := fun i y v H2 B ρ σ G1 H1 hy k E q => by
    obtain ⟨x, hx, ey⟩ := enumD_get hy
    obtain ⟨u, hu, ru⟩ := r.get hx
    obtain ⟨T, z, e1, e2, e3, e4⟩ := q
    have e5 := e4 vs (.of (k.2 _ _ (k.1 _ _ ha)))
    rw [hu] at e5
    cases e5
    subst e1 e3 ey
    have hg : G1 T = none := E.fr.gh.free e2
    have E2 : EnvR C B ρ σ none (upd G1 T (.tup [.int (i : Nat), u])) (upd H1 T (.tup [.int (i : Nat), u])) := ⟨E.fr.lay e2 (fun _ z => nomatch z), E.len⟩
    exact ⟨_, same_up hg, E2, .tup (.of upd_same) (.cons (.int _) (.cons ((ru.mono k.1).mono (same_up hg)) .nil))⟩
theorem snd_enum (h : SndE C W te me) : SndI C W (iEnum C.K (tCons te tNil)) (mEnum me) := by
  intro B ρ σ G H R E P
  refine h.f (Q := fun v H1 => ∃ a xs, [v] = [.ref a] ∧ SqL C.K H1 a xs ∧ R (Ite C.K a) H1) E ?_
  unfold mEnum at P
  rw [mbind] at P
  cases q : mFrz me ρ with
  | stuck => rw [q] at P; exact P
  | err c ρ' => rw [q] at P; exact P
  | ok x ρ1 =>
    rw [q, bind_ok] at P
    cases x with
    | lst xs =>
      intro v G1 H1 E1 S1 r1
      cases r1 with
      | lst a b => exact ⟨_, _, rfl, .of (E1.fr.gh _ _ a), P _ G1 H1 E1 S1 (walks_enum a b)⟩
    | _ => exact P.elim
theorem si_enum (hg : Gl X "enumerate") (hm : X.mg "enumerate" = none) (h : SE C X W e te me) (hK : X.K = C.K := by rfl) (hs : starEach [e] X.env = [(false, eval e X.env)] := by rfl) :
    SI C X W (.Tuple elts kk tpos) (.Call (.Name "enumerate" p) [e] [] pos) (iEnum C.K (tCons te tNil)) (mEnum me) := ⟨by rw [← hK]; exact pi_enum hg hm (pa_cons h.pe pa_nil hs) hs, snd_enum h.snd⟩
end
end VS

/-! VS13: keyword calls, instances. -/
namespace VS
open PySem PySem.Spec PyProof.Rows L2

/-- what is wished of an exception does not look at the slots -/
def Free (W : WX) : Prop := ∀ c d σ σ' H, W c d σ H → W c d σ' H
theorem free_of {E : XK} : Free (fun c d _ H => E c d H) := fun _ _ _ _ _ h => h
def xOf (W : WX) : XK := fun c d H => ∀ σ, W c d σ H
theorem pass_of {X : Cx} {W : WX} (tk : Takes X W) : Passes (L2.CX X.prog X.w) X (xOf W) := passes_call tk fun _ _ σ _ h => h σ
theorem pass_no {X : Cx} (H : Hp) (s : Shared) (e : Value) (s' : Shared) (pins : List (Addr × Obj)) (σ : L2.St) (s0 : Shared) (I : Inv X pins σ H s) (c : L2.CX X.prog X.w X.stack H s (fun _ _ _ => False) e s') : False := by
  have z := XE.of_call (X := X) (W := fun _ _ _ _ => False) (σ := σ) I (fun _ _ _ h => h) c
  obtain ⟨_, _, _, _, _, _, _, _, _, _, _, _, _, _, _, _, w⟩ := z
  exact w
section
variable {C : VC} {B : Bd} {W : WX} {ρ : En} {σ : L2.St} {G H : Hp} {den : Den}
theorem post_callX {Q : VK} {os : List Opd} {vs : List V} {n : Nat} (fr : Free W) (hn : vs.length = n) (E : EnvR C B ρ σ none G H) (r : OpdsR C σ G os vs) (P : PostE C B W σ G Q (callD den os ρ)) : spD C n den vs H Q (xOf W) :=
  post_call (W := fun c d _ H => xOf W c d H) (σ := σ) hn E r (by
    cases q : callD den os ρ with
    | stuck => rw [q] at P; exact P
    | err c ρ' => rw [q] at P; exact fun G' H' Ca E' hc σ' => fr _ _ _ _ _ (P G' H' Ca E' hc)
    | ok x ρ' =>
      rw [q] at P
      cases x with
      | sv s => exact P
      | loc i => exact P)
end
/-! ### f(e, .., k = v, ..), the keywords in the parameters' order -/
structure SK (C : VC) (X : Cx) (W : WX) (kws : List Keyword) (t : TA) (m : M (List Opd)) : Prop where
  pk : PK X kws t
  snd : SndA C W t m
def mCallK (den : Den) (a k : M (List Opd)) : M Ref := M.bind a fun os => M.bind k fun ks => callD den (os ++ ks)
theorem OpdsR.app {C : VC} {σ : L2.St} {G : Hp} : ∀ {os ks : List Opd} {vs us : List V}, OpdsR C σ G os vs → OpdsR C σ G ks us → OpdsR C σ G (os ++ ks) (vs ++ us)
  | _, _, _, _, .nil, s => s
  | _, _, _, _, .cons r t, s => .cons r (OpdsR.app t s)
section
variable {C : VC} {X : Cx} {W : WX} {k n : Nat} {x : Str} {st : Stmt} {ps ks : List Str} {den : Den} {e : Expr} {es : List Expr} {kws : List Keyword} {t tk : TA} {ma mk : M (List Opd)} {p pos kpos : Pos} {nm : Option Str} {te : TE} {me : M Ref}
theorem sk_nil : SK C X W [] tNil (M.ret []) := ⟨pk_nil, snd_nil⟩
theorem sk_cons (h : SE C X W e te me) (r : SK C X W kws t ma) : SK C X W (⟨nm, e, kpos⟩ :: kws) (tCons te t) (mCons me ma) := ⟨pk_cons h.pe r.pk, snd_cons h.snd r.snd⟩
theorem snd_callK (fr : Free W) (ha : SndA C W t ma) (hk : SndA C W tk mk) (hl : Len ma n) (hl2 : Len mk ks.length) (hn : n + ks.length = ps.length) : SndE C W (tCallN n ks.length (spD C ps.length den) (fun vs zs => vs ++ zs) (xOf W) t tk) (mCallK den ma mk) := by
  intro B ρ σ G H Q E P
  refine ha B ρ σ G H _ E ?_
  unfold mCallK at P
  rw [mbind] at P
  cases q : ma ρ with
  | stuck => rw [q] at P; exact P
  | err c ρ' => rw [q] at P; exact P
  | ok os ρ1 =>
    rw [q, bind_ok, mbind] at P
    intro vs G1 H1 E1 S1 r1
    refine hk B ρ1 σ G1 H1 _ E1 ?_
    cases q2 : mk ρ1 with
    | stuck => rw [q2] at P; exact P
    | err c ρ' => rw [q2] at P; exact P
    | ok os2 ρ2 =>
      rw [q2, bind_ok] at P
      intro us G2 H2 E2 S2 r2
      have l1 : vs.length = n := r1.length.symm.trans (hl _ _ _ q)
      have l2 : us.length = ks.length := r2.length.symm.trans (hl2 _ _ _ q2)
      exact ⟨l1, l2, post_callX fr (by rw [List.length_append, l1, l2, hn]) E2 ((r1.mono S2).app r2) (P.same (S1.trans S2))⟩
theorem kbn_of {K : PySem.W.Frag} {kV doc pm : Value} {an : Option Addr} {cdv ct : Value} (hb : ∀ (us ws : List Value), us.length = n → ws.length = ks.length → bindArgs (PySem.W.fnOf x x (defArgs st) (defBody st) (defScope st) .none kV doc pm an cdv ct) ⟨us, ks.zip ws⟩ = pure (ps.zip (us ++ ws))) :
    KBn K (PySem.W.fnOf x x (defArgs st) (defBody st) (defScope st) .none kV doc pm an cdv ct) ps n ks (fun us ws => us ++ ws) (fun vs zs => vs ++ zs) := ⟨fun s us ws _ h1 h2 => .of_eq (hb us ws h1 h2), fun r1 r2 => r1.append r2⟩
theorem se_callK (F : FV C X.prog X.w X.base k x st ps den) (tk' : Takes X W) (fr : Free W) (hr : Room k X.A) (hg : Gl X x) (ha : SA C X W (e :: es) t ma) (hkw : SK C X W kws tk mk)
    (hb : ∀ (kV doc pm : Value) (an : Option Addr) (cdv ct : Value) (us ws : List Value), us.length = n → ws.length = ks.length → bindArgs (PySem.W.fnOf x x (defArgs st) (defBody st) (defScope st) .none kV doc pm an cdv ct) ⟨us, ks.zip ws⟩ = pure (ps.zip (us ++ ws)))
    (hl : Len ma n) (hl2 : Len mk ks.length) (hn : n + ks.length = ps.length := by rfl) (hK : X.K = C.K := by rfl) (hm : X.mg = C.mg := by rfl)
    (hall : (backToKw pos (keywordEach kws X.env)).all (·.1.isSome) = true := by rfl) (hks : (backToKw pos (keywordEach kws X.env)).filterMap (·.1) = ks := by rfl)
    (hdb : (x == ("__debug__" : Str)) = false := by decide) (he : starEach (e :: es) X.env = (false, eval e X.env) :: starEach es X.env := by rfl)
    (hpl : ((backTo pos (starEach (e :: es) X.env)).any (·.1) || (backToKw pos (keywordEach kws X.env)).any (·.1.isNone)) = false := by rfl) :
    SE C X W (.Call (.Name x p) (e :: es) kws pos) (tCallN n ks.length (spD C ps.length den) (fun vs zs => vs ++ zs) (xOf W) t tk) (mCallK den ma mk) := by
  refine ⟨?_, snd_callK fr ha.snd hkw.snd hl hl2 hn⟩
  obtain ⟨fd, G, kV, doc, pm, an, cdv, ct, e1⟩ := F.fn
  rw [← hK, ← hm] at G
  subst e1
  exact pe_callN G hr hg (by rw [hm, hK]; exact F.gl) (by rw [hK]; exact F.kp) (kbn_of (hb kV doc pm an cdv ct)) (pass_of tk') ha.pa hkw.pk hall hks hdb he hpl
/-- .. keywords alone -/
theorem se_callK0 (F : FV C X.prog X.w X.base k x st ps den) (tk' : Takes X W) (fr : Free W) (hr : Room k X.A) (hg : Gl X x) (hkw : SK C X W kws tk mk)
    (hb : ∀ (kV doc pm : Value) (an : Option Addr) (cdv ct : Value) (us ws : List Value), us.length = 0 → ws.length = ks.length → bindArgs (PySem.W.fnOf x x (defArgs st) (defBody st) (defScope st) .none kV doc pm an cdv ct) ⟨us, ks.zip ws⟩ = pure (ps.zip (us ++ ws)))
    (hl2 : Len mk ks.length) (hn : 0 + ks.length = ps.length := by rfl) (hK : X.K = C.K := by rfl) (hm : X.mg = C.mg := by rfl)
    (hall : (backToKw pos (keywordEach kws X.env)).all (·.1.isSome) = true := by rfl) (hks : (backToKw pos (keywordEach kws X.env)).filterMap (·.1) = ks := by rfl)
    (hdb : (x == ("__debug__" : Str)) = false := by decide)
    (hpl : ((backTo pos (starEach [] X.env)).any (·.1) || (backToKw pos (keywordEach kws X.env)).any (·.1.isNone)) = false := by rfl) :
    SE C X W (.Call (.Name x p) [] kws pos) (tCallN 0 ks.length (spD C ps.length den) (fun vs zs => vs ++ zs) (xOf W) tNil tk) (mCallK den (M.ret []) mk) := by
  refine ⟨⟨fun pins s σ H Q I h => ?_⟩, snd_callK fr snd_nil hkw.snd len_nil hl2 hn⟩
  obtain ⟨fd, G, kV, doc, pm, an, cdv, ct, e1⟩ := F.fn
  rw [← hK, ← hm] at G
  subst e1
  have gk : PySem.W.keepIn X.K (.ref (He.ga X.K x)) = true := by rw [hK]; exact F.kp
  have gm : X.mg x = some (.ref (He.ga X.K x)) := by rw [hm, hK]; exact F.gl
  refine wpAny_Call_Name_kw (ld_glob I hg gm ?_ hdb)
  refine PySem.W.callWith_KW0 (h₀ := X.base) I.ok.mod.kin gk hall (thn (hkw.pk.run pos pins s σ H _ I h) fun ws s2 ⟨zs, H2, I2, rz, l1, l2, q2⟩ => ⟨I2.kIn, ?_⟩) hpl
  rw [hks]
  exact run_fnN (us := []) (vs := []) G hr (kbn_of (hb kV doc pm an cdv ct)) (pass_of tk') I2 .nil rz l1 l2 q2
end
/-! ### e.f -/
/-- what the written part says of an own class's fields -/
structure CF (C : VC) (c : Str) (fs : List Str) : Prop where
  ex : ∃ Ca, C.mg c = some (.ref Ca) ∧ Cls C.K Ca ∧ ∀ f ∈ fs, NoAttr C.K Ca f
def dFld (cf : List (Str × List Str)) (f : Str) : D → Option Rv
  | .ins c gs => (cf.lookup c).bind fun fs => if f ∈ fs then (gs.lookup f).map .it else none
  | _ => none
def putFD (f : Str) (v : D) : List (Str × D) → List (Str × D)
  | [] => [(f, v)]
  | (g, x) :: r => if g = f then (g, v) :: r else (g, x) :: putFD f v r
abbrev rFld (K : PySem.W.Frag) (f : Str) : V → Hp → VK → Prop := fun x H1 Q => ∃ a C dx fs v, x = .ref a ∧ H1 a = some (.ins C dx fs) ∧ Cls K C ∧ NoAttr K C f ∧ fs.lookup f = some v ∧ Q v H1
section
variable {C : VC} {X : Cx} {W : WX} {P : List Nat} {e value : Expr} {te tv : TE} {me mv : M Ref} {f x : Str} {p pos pos' : Pos} {cf : List (Str × List Str)} {i : Nat}
theorem RpF.look {G : Hp} {f : Str} : ∀ {vs : List (Str × V)} {ds : List (Str × D)} {d : D}, RpF C G vs ds → ds.lookup f = some d → ∃ v, vs.lookup f = some v ∧ Rp C G v d
  | _, _, _, .nil, h => by cases h
  | _, _, d, .cons (k := k) (v := v) (vs := vs) (d := d') (ds := ds) r t, h => by
    by_cases e : f = k
    · subst e
      have h : (match f == f with | true => some d' | false => List.lookup f ds) = some d := h
      have eb : (f == f) = true := beq_iff_eq.mpr rfl
      rw [eb] at h
      cases h
      refine ⟨v, ?_, r⟩
      show (match f == f with | true => some v | false => List.lookup f vs) = some v
      rw [eb]
    · have eb : (f == k) = false := beq_eq_false_iff_ne.mpr e
      have h : (match f == k with | true => some d' | false => List.lookup f ds) = some d := h
      rw [eb] at h
      obtain ⟨u, h1, h2⟩ := RpF.look t h
      refine ⟨u, ?_, h2⟩
      show (match f == k with | true => some v | false => List.lookup f vs) = some u
      rw [eb]
      exact h1
theorem RpF.put {G : Hp} {f : Str} {v : V} {d : D} (r : Rp C G v d) : ∀ {vs : List (Str × V)} {ds : List (Str × D)}, RpF C G vs ds → RpF C G (putF f v vs) (putFD f d ds)
  | _, _, .nil => .cons r .nil
  | _, _, .cons (k := k) q t => by
    unfold putF putFD
    by_cases e : k = f
    · rw [if_pos e, if_pos e]
      exact .cons r t
    · rw [if_neg e, if_neg e]
      exact .cons q (RpF.put r t)
theorem RpF.length {G : Hp} : ∀ {vs : List (Str × V)} {ds : List (Str × D)}, RpF C G vs ds → vs.length = ds.length
  | _, _, .nil => rfl
  | _, _, .cons _ t => congrArg Nat.succ (RpF.length t)
theorem rule_fld (h : ∀ q ∈ cf, CF C q.1 q.2) : RuleU C (rFld C.K f) (dFld cf f) := by
  intro G H v x r Q S hr hf hF
  cases x with
  | ins c gs =>
    have hf : ((cf.lookup c).bind fun fs => if f ∈ fs then (gs.lookup f).map Rv.it else none) = some r := hf
    cases q : cf.lookup c with
    | none => rw [q] at hf; cases hf
    | some fs =>
      rw [q] at hf
      have hf : (if f ∈ fs then (gs.lookup f).map Rv.it else none) = some r := hf
      by_cases hm : f ∈ fs
      · rw [if_pos hm] at hf
        cases q2 : gs.lookup f with
        | none => rw [q2] at hf; cases hf
        | some d =>
          rw [q2] at hf
          cases hf
          obtain ⟨a, Ca, dx, vs, rfl, m1, m2, m3, m4⟩ := (show ∃ a Ca dx vs, v = V.ref a ∧ C.mg c = some (.ref Ca) ∧ H a = some (.ins Ca dx vs) ∧ G dx = some (.own a) ∧ RpF C G vs gs from hr)
          obtain ⟨Ca', n1, n2, n3⟩ := (h (c, fs) (PySem.mem_of_lookup q)).ex
          rw [m1] at n1
          cases n1
          obtain ⟨u, h1, h2⟩ := m4.look q2
          exact ⟨a, Ca, dx, vs, u, rfl, m2, n2, n3 f hm, h1, hF.1 u h2⟩
      · rw [if_neg hm] at hf
        cases hf
  | _ => cases hf
theorem se_fld (h : ∀ q ∈ cf, CF C q.1 q.2) (he : SE C X W e te me) (hK : X.K = C.K := by rfl) (hb : attributeBase e f X.env (eval e X.env) = eval e X.env := by rfl) : SE C X W (.Attribute e f pos) (tFld C.K te f) (mUn (dFld cf f) me) :=
  ⟨by rw [← hK]; exact pe_fld he.pe hb, snd_u (rule_fld h) he.snd⟩
/-- slot i . f = e -/
def fputD (cf : List (Str × List Str)) (i : Nat) (f : Str) (v : D) : M Fl := fun ρ => match ρ.getD i none with
  | some (.oi c gs) => (match cf.lookup c with
    | some fs => if f ∈ fs ∧ gs.length < 1000 then .ok .nx (ρ.set i (some (.oi c (putFD f v gs)))) else .stuck
    | none => .stuck)
  | _ => .stuck
def mFPut (cf : List (Str × List Str)) (i : Nat) (f : Str) (v : M Ref) : M Fl := M.bind (mFrz v) (fputD cf i f)
theorem snd_fput (h : ∀ q ∈ cf, CF C q.1 q.2) (hv : SndE C W tv mv) : SndS C P W (sFld C.K (tVar i) tv f) (mFPut cf i f mv) := by
  intro B ρ σ G H D E pn Q
  refine hv.f E ?_
  unfold mFPut at Q
  rw [mbind] at Q
  cases q : mFrz mv ρ with
  | stuck => rw [q] at Q; exact Q
  | err c ρ' => rw [q] at Q; exact fun G' H' Ca E' hc => Q σ G' H' Ca E' pn hc
  | ok x ρ1 =>
    rw [q, bind_ok] at Q
    intro v G1 H1 E1 S1 r1
    unfold fputD at Q
    cases q3 : ρ1.getD i none with
    | none => rw [q3] at Q; exact Q.elim
    | some s =>
      rw [q3] at Q
      cases s with
      | oi c gs =>
        dsimp only at Q
        cases q4 : cf.lookup c with
        | none => rw [q4] at Q; exact Q.elim
        | some fs =>
          rw [q4] at Q
          dsimp only at Q
          by_cases hm : f ∈ fs ∧ gs.length < 1000
          · rw [if_pos hm] at Q
            obtain ⟨w, hw, hvw⟩ := E1.slot q3
            obtain ⟨p, u, rfl, hp, ow, ch⟩ := E1.fr.chg hvw (.inr (.inr ⟨c, gs, rfl⟩))
            obtain ⟨p', Ca, dx, vs, a1, a2, a3, a4, a5, a6⟩ := ow
            cases a1
            obtain ⟨Ca', n1, n2, n3⟩ := (h (c, fs) (PySem.mem_of_lookup q4)).ex
            rw [a3] at n1
            cases n1
            refine ⟨_, hw, p, Ca, dx, vs, rfl, a4, n2, n3 f hm.1, by rw [a6.length]; exact hm.2, Q σ G1 _ ⟨?_, by simp [E1.len]⟩ S1 pn⟩
            have z := ch (.oi c (putFD f x gs)) (.ins Ca dx (putF f v vs)) ⟨(fun _ z => nomatch z), fun _ z => nomatch z⟩ ⟨p, Ca, dx, _, rfl, rfl, a3, upd_same, a5, a6.put r1⟩
            rw [view_set1 (slot_lt q3) (getD_st hw)]
            exact z
          · rw [if_neg hm] at Q
            exact Q.elim
      | d x => exact Q.elim
      | ol x => exact Q.elim
      | od x => exact Q.elim
      | dr x => exact Q.elim
      | sc x => exact Q.elim
theorem s_fput (h : ∀ q ∈ cf, CF C q.1 q.2) (ho : PE X (.Name x p) (tVar i)) (hv : SE C X W value tv mv) (hK : X.K = C.K := by rfl) (hs : swapsWith value (some (.Attribute (.Name x p) f pos')) pos.line X.env = pure false := by rfl) :
    S1 C P X W (.Assign [.Attribute (.Name x p) f pos'] value pos) (sFld C.K (tVar i) tv f) (mFPut cf i f mv) := ⟨by rw [← hK]; exact ps_fld ho hv.pe hs, snd_fput h hv.snd⟩
end
end VS

/-! VS14: instances are made, len of an instance. -/
namespace VS
open PySem PySem.Spec PyProof.Rows L2

section
variable {C : VC} {B : Bd} {W : WX} {ρ : En} {σ : L2.St} {G H : Hp} {s : SV} {v : V}
/-- the result as one slot more -/
theorem EnvR.push (E : EnvR C B ρ σ (some (s, v)) G H) : EnvR C B (ρ ++ [some s]) (σ ++ [some v]) none G H := by
  refine ⟨?_, by simp [E.len]⟩
  have gl : ∀ j, j ≠ ρ.length → (ρ ++ [some s]).getD j none = ρ.getD j none := fun j hj => by
    by_cases h : j < ρ.length
    · exact getD_append_left h
    · rw [List.getD_eq_getElem?_getD, List.getElem?_eq_none (by simp; omega), List.getD_eq_getElem?_getD, List.getElem?_eq_none (by omega)]
  have gl2 : ∀ j, j ≠ σ.length → (σ ++ [some v]).getD j none = σ.getD j none := fun j hj => by
    by_cases h : j < σ.length
    · exact getD_append_left h
    · rw [List.getD_eq_getElem?_getD, List.getElem?_eq_none (by simp; omega), List.getD_eq_getElem?_getD, List.getElem?_eq_none (by omega)]
  refine E.fr.remap (fun i => match i with | none => none | some j => if j = ρ.length then some none else some (some j)) (fun i j k h1 h2 => ?_) fun i => ?_
  · cases i with
    | none => cases h1
    | some i =>
      cases j with
      | none => cases h2
      | some j =>
        dsimp only at h1 h2
        by_cases hi : i = ρ.length
        · rw [if_pos hi] at h1
          by_cases hj : j = ρ.length
          · rw [hi, hj]
          · rw [if_neg hj] at h2
            cases h1; cases h2
        · rw [if_neg hi] at h1
          by_cases hj : j = ρ.length
          · rw [if_pos hj] at h2
            cases h1; cases h2
          · rw [if_neg hj] at h2
            cases h1; cases h2; rfl
  · cases i with
    | none => exact .inr ⟨rfl, .inl rfl⟩
    | some j =>
      by_cases hj : j = ρ.length
      · refine .inl ⟨none, if_pos hj, ?_⟩
        subst hj
        show ((ρ ++ [some s]).getD ρ.length none, (σ ++ [some v]).getD ρ.length none) = (some s, some v)
        rw [E.len]
        have h1 : (ρ ++ [some s]).getD σ.length none = some s := by
          rw [← E.len, List.getD_eq_getElem?_getD, List.getElem?_append_right (Nat.le_refl _)]
          simp
        have h2 : (σ ++ [some v]).getD σ.length none = some v := by
          rw [List.getD_eq_getElem?_getD, List.getElem?_append_right (Nat.le_refl _)]
          simp
        rw [h1, h2]
      · refine .inl ⟨some j, if_neg hj, ?_⟩
        show ((ρ ++ [some s]).getD j none, (σ ++ [some v]).getD j none) = (ρ.getD j none, σ.getD j none)
        rw [gl j hj, gl2 j (by rw [← E.len]; exact hj)]
/-- the last slots forgotten -/
theorem EnvR.cut {τ : L2.St} {x : Option (SV × V)} (E : EnvR C B ρ (σ ++ τ) x G H) : EnvR C B (ρ.take σ.length) σ x G H := by
  have hl : σ.length ≤ ρ.length := by rw [E.len]; simp
  refine ⟨?_, by simp [hl]⟩
  refine E.fr.remap (fun i => match i with | none => some none | some j => if j < σ.length then some (some j) else none) (fun i j k h1 h2 => ?_) fun i => ?_
  · cases i with
    | none =>
      cases j with
      | none => rfl
      | some j =>
        dsimp only at h1 h2
        split at h2
        · cases h1; cases h2
        · cases h2
    | some i =>
      cases j with
      | none =>
        dsimp only at h1 h2
        split at h1
        · cases h1; cases h2
        · cases h1
      | some j =>
        dsimp only at h1 h2
        split at h1
        · split at h2
          · cases h1; cases h2; rfl
          · cases h2
        · cases h1
  · cases i with
    | none => exact .inl ⟨none, rfl, rfl⟩
    | some j =>
      by_cases h : j < σ.length
      · refine .inl ⟨some j, if_pos h, ?_⟩
        show ((ρ.take σ.length).getD j none, σ.getD j none) = (ρ.getD j none, (σ ++ τ).getD j none)
        have h1 : (ρ.take σ.length).getD j none = ρ.getD j none := by
          rw [List.getD_eq_getElem?_getD, List.getElem?_take_of_lt h, List.getD_eq_getElem?_getD]
        rw [h1, getD_append_left h]
      · refine .inr ⟨if_neg h, .inl ?_⟩
        show (ρ.take σ.length).getD j none = none
        rw [List.getD_eq_getElem?_getD, List.getElem?_eq_none (by simp; omega)] <;> rfl
theorem OpdsR.push {τ : L2.St} : ∀ {os : List Opd} {vs : List V}, OpdsR C σ G os vs → OpdsR C (σ ++ τ) G os vs
  | _, _, .nil => .nil
  | _, _, .cons (o := o) (v := v) h t => .cons (by
    cases o with
    | d x => exact h
    | loc i =>
      have h : σ[i]? = some (some v) := h
      show (σ ++ τ)[i]? = some (some v)
      rw [List.getElem?_append_left (List.getElem?_eq_some_iff.mp h).1]
      exact h) (OpdsR.push t)
/-- a thing not yet finished is made of the class c -/
theorem EnvR.newI {c : Str} {Ca x dx : Addr} (E : EnvR C B ρ σ none G H) (hc : C.mg c = some (.ref Ca)) (hx : H x = none) (hdx : H dx = none) (hne : dx ≠ x) :
    ∃ G', Same G G' ∧ EnvR C B ρ σ (some (.oi c [], .ref x)) G' (upd (upd H dx (.own x)) x (.ins Ca dx [])) := by
  have F1 := E.fr.lay (o := .own x) hdx (fun _ z => nomatch z)
  have hx1 : upd H dx (.own x) x = none := by rw [upd_ne (Ne.symm hne)]; exact hx
  have F2 := F1.layOwn (o := .ins Ca dx []) hx1 ⟨(fun _ z => nomatch z), fun _ z => nomatch z⟩ none (s := .oi c []) (v := .ref x) ⟨x, Ca, dx, [], rfl, rfl, hc, upd_same, upd_same, .nil⟩
  refine ⟨upd G dx (.own x), same_up (E.fr.gh.free hdx), ?_, E.len⟩
  rw [show ((some (SV.oi c []), some (V.ref x)) : Slot) = ((some (SV.oi c [], V.ref x)).map (·.1), (some (SV.oi c [], V.ref x)).map (·.2)) from rfl, upS_view_none] at F2
  exact F2
end
/-- C(e, ..): den is what __init__ does with the new thing and the arguments -/
def makeD (c : Str) (den : Den) (os : List Opd) : M Ref := fun ρ => match callD den (.loc ρ.length :: os) (ρ ++ [some (.oi c [])]) with
  | .ok (.sv (.d .non)) ρ' => (match ρ'.getD ρ.length none with
    | some (.oi c' fs) => .ok (.sv (.d (.ins c' fs))) (ρ'.take ρ.length)
    | _ => .stuck)
  | .err e ρ' => .err e (ρ'.take ρ.length)
  | _ => .stuck
def mMake (c : Str) (den : Den) (a : M (List Opd)) : M Ref := M.bind a (makeD c den)
section
variable {C : VC} {X : Cx} {W : WX} {k : Nat} {x c : Str} {st : Stmt} {ps : List Str} {den : Den} {e : Expr} {es : List Expr} {t : TA} {ma : M (List Opd)} {p pos : Pos} {qual y : Str} {f Ca : Addr}
theorem snd_make (fr : Free W) (hc : C.mg c = some (.ref Ca)) (ha : SndA C W t ma) (hl : Len ma ps.length) : SndE C W (tMake Ca (spD C (ps.length + 1) den) [] (xOf W) t) (mMake c den ma) := by
  intro B ρ σ G H Q E P
  refine ha B ρ σ G H _ E ?_
  unfold mMake at P
  rw [mbind] at P
  cases q : ma ρ with
  | stuck => rw [q] at P; exact P
  | err c ρ' => rw [q] at P; exact P
  | ok os ρ1 =>
    rw [q, bind_ok] at P
    intro vs G1 H1 E1 S1 r1 x dx hx hdx hne
    obtain ⟨G2, S2, E2⟩ := E1.newI hc hx hdx hne
    have E3 := E2.push
    have slot : (σ ++ [some (V.ref x)])[σ.length]? = some (some (.ref x)) := by
      rw [List.getElem?_append_right (Nat.le_refl _)]
      simp
    have len : ρ1.length = σ.length := E1.len
    have ro : OpdsR C (σ ++ [some (V.ref x)]) G2 (.loc ρ1.length :: os) (.ref x :: vs) := .cons (by
      show (σ ++ [some (V.ref x)])[ρ1.length]? = _
      rw [len]
      exact slot) ((r1.mono S2).push)
    rw [List.append_nil]
    refine post_call (W := fun c d _ H => xOf W c d H) (σ := σ ++ [some (V.ref x)]) (by rw [List.length_cons, r1.length.symm.trans (hl _ _ _ q)]) E3 ro ?_
    unfold makeD at P
    cases q2 : callD den (.loc ρ1.length :: os) (ρ1 ++ [some (.oi c [])]) with
    | stuck => rw [q2] at P; exact P
    | err e ρ' =>
      rw [q2] at P
      intro G' H' Ea E' he σ'
      refine fr _ _ _ _ _ (P G' H' Ea ?_ he)
      rw [len]
      exact E'.cut
    | ok rf ρ' =>
      rw [q2] at P
      cases rf with
      | loc i => exact P.elim
      | sv s =>
        cases s with
        | d z =>
          cases z with
          | non =>
            intro v G' H' E' S'
            have ev : v = .non := by
              cases E'.resOf
              rfl
            refine ⟨ev, ?_⟩
            dsimp only at P
            cases q3 : ρ'.getD ρ1.length none with
            | none => rw [q3] at P; exact P.elim
            | some s2 =>
              rw [q3] at P
              cases s2 with
              | oi c' fs =>
                rw [len] at q3
                have E4 := (E'.nox).take q3 slot
                obtain ⟨G5, S5, E5, r5⟩ := E4.frzRes (y := .ins c' fs) rfl
                have E6 := E5.cut.res r5
                have et : (ρ'.set σ.length none).take σ.length = ρ'.take ρ1.length := by
                  rw [len]
                  apply List.ext_getElem?
                  intro j
                  by_cases hj : j < σ.length
                  · rw [List.getElem?_take_of_lt hj, List.getElem?_take_of_lt hj, List.getElem?_set_ne (by omega)]
                  · rw [List.getElem?_eq_none (by simp; omega), List.getElem?_eq_none (by simp; omega)]
                rw [et] at E6
                exact P _ G5 H' E6 (S1.trans (S2.trans (S'.trans S5)))
              | d z => exact P.elim
              | ol z => exact P.elim
              | od z => exact P.elim
              | dr z => exact P.elim
              | sc z => exact P.elim
          | _ => exact P.elim
        | _ => exact P.elim
/-- a class: what the written part says of its making -/
structure CM (C : VC) (c : Str) (Ca f : Addr) : Prop where
  g : C.mg c = some (.ref Ca)
  m : Mk C.K Ca f
theorem se_make (M : CM C c Ca f) (F : FM C X.prog X.w X.base k f qual x st (y :: ps) den) (tk : Takes X W) (fr : Free W) (hr : Room (k + 1) X.A) (hg : Gl X c) (ha : SA C X W (e :: es) t ma)
    (hb : ∀ (kV doc pm : Value) (an : Option Addr) (cdv ct : Value) (us : List Value), us.length = (y :: ps).length → bindArgs (PySem.W.fnOf x qual (defArgs st) (defBody st) (defScope st) .none kV doc pm an cdv ct) ⟨us, []⟩ = pure ((y :: ps).zip us))
    (hl : Len ma ps.length) (hK : X.K = C.K := by rfl) (hm : X.mg = C.mg := by rfl)
    (hdb : (c == ("__debug__" : Str)) = false := by decide) (he : starEach (e :: es) X.env = (false, eval e X.env) :: starEach es X.env := by rfl) (hpl : (backTo pos (starEach es X.env)).any (·.1) = false := by rfl) :
    SE C X W (.Call (.Name c p) (e :: es) [] pos) (tMake Ca (spD C (ps.length + 1) den) [] (xOf W) t) (mMake c den ma) := by
  refine ⟨?_, snd_make fr M.g ha.snd hl⟩
  obtain ⟨fd, G, kV, doc, pm, an, cdv, ct, e1⟩ := F.fn
  rw [← hK, ← hm] at G
  subst e1
  exact pe_make (by rw [hK]; exact M.m) G hr hg (by rw [hm]; exact M.g) (.all (hb kV doc pm an cdv ct)) .nil (pass_of tk) ha.pa hdb he hpl
end
end VS

/-! VS15: len of an instance. -/
namespace VS
open PySem PySem.Spec PyProof.Rows L2

/-- len(e), e an instance of the class at Ca -/
def rLenI (Ca : Addr) (sp : Sp) : List V → Hp → VK → Prop := fun xs H Q => ∃ (a dx : Addr) (fs : List (Str × V)), xs = [V.ref a] ∧ H a = some (.ins Ca dx fs) ∧ sp [V.ref a] H (fun v H2 => ∃ n : Int, v = .int n ∧ (0 ≤ n ∧ n < 2 ^ 63) ∧ Q (.int n) H2) (fun _ _ _ => False)
theorem cr_lenI {X : Cx} {k : Nat} {Ca f : Addr} {fd : FuncData} {ps : List Str} {sp : Sp} (M : Meth X.K Ca "__len__" f) (F : FnOk X.prog X.w X.K X.mg X.base (L2.CX X.prog X.w) k f fd ps sp) (hb : Binds X.K fd ps []) (hr : Room (k + 1) X.A) : CallR X (.builtin "len") (rLenI Ca sp) := by
  intro pins s σ H xs us Q I r h
  obtain ⟨a, dx, fs, rfl, ha, q⟩ := h
  rw [Vals.ref1 r]
  obtain ⟨mA, J, _⟩ := ins_get I.hok ha
  obtain ⟨od, L, _⟩ := J.look
  obtain ⟨m, hF⟩ := I.fr
  obtain ⟨mf, mk, _⟩ := M
  refine PySem.W.len_K hF I.ok.mod.kin L mf mk ?_
  have rv : Vals [V.ref a] [Value.ref a] := .cons rfl .nil
  have hl : ([Value.ref a] : List Value).length = ps.length := F.len _ _ _ _ q
  refine wpAny_call (codeAny_mono (F.run X.A.in1 X.stack s H ⟨[.ref a], []⟩ [.ref a] [.ref a] _ _ hr.in1 I.env0.in1 (by
    have z := hb s [.ref a] I.kIn (by rw [List.append_nil]; exact hl)
    rw [List.append_nil] at z
    exact z) rv q) fun r s' hq => ?_)
  cases r with
  | error e => exact (pass_no H s e s' pins σ s I hq).elim
  | ok fl =>
    cases fl with
    | ret u =>
      obtain ⟨v, H', I', rz, n, rfl, hb, qz⟩ := I.after hq
      obtain ⟨t, rfl⟩ := (show ∃ t, u = Value.int n t from rz)
      exact ⟨hb, .int n, H', I'.tok _, ⟨_, rfl⟩, qz⟩
    | next => exact False.elim hq
    | brk => exact False.elim hq
    | cont => exact False.elim hq
/-- len of data that may be an instance: the method's promise -/
noncomputable def lenD (c : Str) (den : Den) (x : D) : M Ref := fun ρ => match x with
  | .ins c' fs => if c' = c then (match den [.d (.ins c' fs)] with
    | .ok (.d (.int n)) _ => @ite _ (0 ≤ n ∧ n < 2 ^ 63) (Classical.propDecidable _) (.ok (rSc (.int n)) ρ) .stuck
    | _ => .stuck) else .stuck
  | _ => .stuck
noncomputable def mLenI (c : Str) (den : Den) (a : M Ref) : M Ref := M.bind (mFrz a) (lenD c den)
section
variable {C : VC} {X : Cx} {W : WX} {k : Nat} {x c : Str} {st : Stmt} {den : Den} {e : Expr} {te : TE} {me : M Ref} {p pos : Pos} {qual y : Str} {f Ca : Addr}
theorem snd_lenI (hc : C.mg c = some (.ref Ca)) (h : SndE C W te me) : SndE C W (tCB (rLenI Ca (spD C 1 den)) (tCons te tNil)) (mLenI c den me) := by
  intro B ρ σ G H Q E P
  refine h.f (Q := fun v H1 => rLenI Ca (spD C 1 den) [v] H1 Q) E ?_
  unfold mLenI at P
  rw [mbind] at P
  cases q : mFrz me ρ with
  | stuck => rw [q] at P; exact P
  | err c ρ' => rw [q] at P; exact P
  | ok z ρ1 =>
    rw [q, bind_ok] at P
    intro v G1 H1 E1 S1 r1
    unfold lenD at P
    cases z with
    | ins c' fs =>
      dsimp only at P
      by_cases hcc : c' = c
      · rw [if_pos hcc] at P
        subst hcc
        cases r1 with
        | ins m1 m2 m3 m4 =>
          rename_i a Ca' dx vs
          rw [hc] at m1
          cases m1
          refine ⟨a, dx, vs, rfl, E1.fr.gh _ _ m2, ?_⟩
          have ro : OpdsR C σ G1 [.d (.ins c' fs)] [.ref a] := .cons (Rp.ins hc m2 m3 m4) .nil
          obtain ⟨B', b1, b2, b3, b4, b5⟩ := call_env E1 ro (args := [.d (.ins c' fs)]) rfl List.nodup_nil
          refine ⟨rfl, B', _, b1, fun j hj => b3 j hj, by rw [b2]; exact b4, ?_⟩
          cases q2 : den [.d (.ins c' fs)] with
          | stuck => rw [q2] at P; exact P
          | err c ρ' => rw [q2] at P; exact P.elim
          | ok s outs =>
            rw [q2] at P
            cases s with
            | d w =>
              cases w with
              | int n =>
                dsimp only at P
                by_cases hn : 0 ≤ n ∧ n < 2 ^ 63
                · rw [if_pos hn] at P
                  intro v G' H' E'
                  have ev : v = .int n := by
                    cases E'.resOf
                    rfl
                  obtain ⟨z1, z2⟩ := b5 outs _ G' H' E'
                  exact ⟨n, ev, hn, P _ G' H' (by rw [← ev]; exact z1) (S1.trans z2)⟩
                · rw [if_neg hn] at P
                  exact P.elim
              | _ => exact P.elim
            | _ => exact P.elim
      · rw [if_neg hcc] at P
        exact P.elim
    | _ => exact P.elim
theorem se_lenI (hc : C.mg c = some (.ref Ca)) (M : Meth C.K Ca "__len__" f) (F : FM C X.prog X.w X.base k f qual x st [y] den) (hr : Room (k + 1) X.A) (hg : Gl X "len") (hmn : X.mg "len" = none) (h : SE C X W e te me)
    (hb : ∀ (kV doc pm : Value) (an : Option Addr) (cdv ct : Value) (us : List Value), us.length = ([y] : List Str).length → bindArgs (PySem.W.fnOf x qual (defArgs st) (defBody st) (defScope st) .none kV doc pm an cdv ct) ⟨us, []⟩ = pure (([y] : List Str).zip us))
    (hK : X.K = C.K := by rfl) (hm : X.mg = C.mg := by rfl)
    (h1 : starEach [e] X.env = (false, eval e X.env) :: starEach [] X.env := by rfl) :
    SE C X W (.Call (.Name "len" p) [e] [] pos) (tCB (rLenI Ca (spD C 1 den)) (tCons te tNil)) (mLenI c den me) := by
  refine ⟨?_, snd_lenI hc h.snd⟩
  obtain ⟨fd, G, kV, doc, pm, an, cdv, ct, e1⟩ := F.fn
  rw [← hK, ← hm] at G
  subst e1
  exact pe_callB (cr_lenI (by rw [hK]; exact M) G (.all (hb kV doc pm an cdv ct)) hr) hg hmn (by decide +kernel) (pa_cons h.pe pa_nil h1) (by decide) (by decide) h1 (by rfl)
end
end VS

/-! VT: try .. except X as n, where the exception is known as a value behind the clause. -/
namespace VT
open PySem PySem.Spec PyProof.Rows L2 VS
section
variable {X : Cx} {pins : List (Addr × Obj)} {σ : L2.St} {H : Hp} {s : Shared}
/-- the pinned exception is tracked from now on -/
theorem known {a : Addr} {oe : Obj} {vs : Array Value} {cls : Value} (I : Inv X ((a, oe) :: pins) σ H s) (hz : Zc cls none oe) (hd : oe.data = .fields vs) (h0 : X.s_0.heap.get? a = none) (hp : ∀ p ∈ X.pn ++ pins, p.1 ≠ a) : Inv X pins σ (upd H a (ExV cls a)) s := by
  obtain ⟨ha, na, nL, nF, nc⟩ := I.pin (a, oe) (List.mem_append_right _ List.mem_cons_self)
  have ha : s.heap.get? a = some oe := ha
  have ne0 : ∀ b o, X.s_0.heap.get? b = some o → b ≠ a := fun b o e z => by
    rw [z, h0] at e
    cases e
  have neH : ∀ b o, H b = some o → b ≠ a := fun b o e z => by
    rw [z, show H a = none from na] at e
    cases e
  refine ⟨I.ok, I.os, I.bare, ⟨I.base.keep, I.base.slot, fun b o e n hx => ?_, I.base.there, fun b xs e => ?_, fun b o xs e => ?_, fun b ps e => ?_⟩, I.loc, I.cell, ?_, fun y c e => ?_, fun p m => ?_, fun b u e => ?_, I.len⟩
  · rw [upd_ne (ne0 b o e)]
    exact I.base.free b o e n hx
  · have z := I.base.tups b xs e
    rw [upd_ne (neH _ _ z)]
    exact z
  · have z := I.base.frzs b o xs e
    rw [upd_ne (neH _ _ z)]
    exact z
  · obtain ⟨more, z⟩ := I.base.tbls b ps e
    exact ⟨more, by rw [upd_ne (neH _ _ z)]; exact z⟩
  · rw [upd_ne (Ne.symm nL)]
    exact I.free
  · have nca : c ≠ a := fun z => by
      obtain ⟨v, o, ho, hdc⟩ := I.cell y c e
      rw [z, ha] at ho
      cases ho
      rw [hd] at hdc
      cases hdc
    rw [upd_ne nca]
    exact I.freeC y c e
  · obtain ⟨p1, p2, p3, p4, p5⟩ := I.pin p (by
      rcases List.mem_append.mp m with m | m
      · exact List.mem_append_left _ m
      · exact List.mem_append_right _ (List.mem_cons_of_mem _ m))
    exact ⟨p1, by rw [upd_ne (hp p m)]; exact p2, p3, p4, p5⟩
  · by_cases hb : b = a
    · subst hb
      rw [upd_same] at e
      cases e
      exact ⟨⟨oe, vs, ha, hz, hd⟩, ⟨oe, ha⟩, fun _ _ ⟨o, v, q, r⟩ k => ⟨o, v, k o q, r⟩⟩
    · rw [upd_ne hb] at e
      exact (I.hok b u e).stay (fun c v _ q => q) (fun c q => by rw [upd_ne (neH _ _ q)]; exact q) fun c xs q => by rw [upd_ne (neH _ _ q)]; exact q
end
/-- what the clause wishes of an exception of the body -/
def wKeep (K : PySem.W.Frag) (c : Value) (i : Nat) (ts : Addr → Value → TS) (Wout : WX) (D : Ends) : WX := fun cls d σ H =>
  ∃ b, PySem.W.exmOne K cls c = some b ∧ (b = true → d = none ∧ ∀ a, H a = none → ts a cls { nx := fun σ' H' => D.nx (σ'.set i none) (upd H' a (ExV cls a)), rt := fun _ _ => False, bk := fun _ _ => False, ct := fun _ _ => False } (σ.set i (some (.ref a))) H) ∧ (b = false → Wout cls d σ H)
section
variable {X : Cx} {x n : Str} {c : Value} {i : Nat} {body suite : List Stmt} {st₀ : Stmt} {np pos pos' : Pos} {tb : WX → TS} {ts : Addr → Value → TS} {Wout : WX}
theorem try_keep (hex : X.ex = []) (stk : X.stack = X.env :: X.outer) (frm : X.env.frame = some X.env.locals) (hN : X.N.Nodup) (hi : X.N[i]? = some n) (hln : X.env.kindOf n = some .local) (hc : Names X x c) (tk : Takes X Wout)
    (hbody : ∀ (W : WX) (pn : List (Addr × Obj)) (xe : Value → Shared → Prop), Takes (X.tr pn xe) W → PassesOwn (model X.prog X.w) X.A X.env xe → PSs (X.tr pn xe) body (tb W))
    (hsuite : ∀ (a : Addr) (oe : Obj) (cls : Value) (pn : List (Addr × Obj)), PSs (X.suite a ((a, oe) :: pn)) (st₀ :: suite) (ts a cls)) :
    PS X (.Try body [.ExceptHandler (some (.Name x np)) (some n) (st₀ :: suite) pos'] [] [] pos) (fun D σ H => tb (wKeep X.K c i ts Wout D) D σ H) := by
  refine ⟨fun pins s σ H D I start => ?_⟩
  have ok := I.ok
  have frs_ : X.A.frames = some (X.env :: X.outer) := by rw [ok.frames, stk]
  have here : Loc X.env.scope n := .inl hln
  refine wpAny_Try_except ?_
  refine wpAny_mono ((hbody (wKeep X.K c i ts Wout D) (X.pn ++ pins) (fun e s₁ => wpAny (model X.prog X.w) X.A (noteFrame e X.env) (fun _ s₂ => wpAny (model X.prog X.w) X.A (setFlight e none) (fun _ s₃ =>
    wpAny (model X.prog X.w) X.A (handleBy e X.env [.ExceptHandler (some (.Name x np)) (some n) (st₀ :: suite) pos']) (SP X pins D) X.xe s₃) X.xe s₂) X.xe s₁) (fun u s' air => ?_) PassesOwn.looking).run [] s σ H D (I.toTry _) start) (fun f s1 done => ?_) (fun e s1 he => he)
  · obtain ⟨a, B, sI, pins', σ', H', cls, d, rfl, J', nb, up, sky, na, os, ag, b, isa, yes, no⟩ := air
    have J : Inv X pins σ' H' sI := J'.ofTry ok
    have sky' : Sky B (X.env :: X.outer) a (Zc cls d) X.env.locals s'.heap := by rw [← stk]; exact sky
    show wpAny (model X.prog X.w) X.A (noteFrame (.ref a) X.env) _ _ _
    refine Sky.land Zc.steady frs_ frm sky' fun h3 fl3 up3 => ?_
    have J3 : Inv X pins σ' H' { s' with heap := h3 } := J.landed nb fl3.1 (up.trans up3) os ag
    obtain ⟨oe3, vs3, at3, hz3, hd3⟩ := fl3.there
    have off : a ∉ frs (X.env :: X.outer) := fun hm => by
      obtain ⟨_, o', e', hnf⟩ := fl3.2.2.1.mem hm
      rw [at3] at e'
      cases e'
      exact hnf _ hd3
    have nL : a ≠ X.env.locals := fun z => off (List.mem_filterMap.mpr ⟨X.env, List.mem_cons_self, by rw [frm, z]⟩)
    have nF : a ∉ X.fs := fun hm => by
      obtain ⟨e, he, q⟩ := List.mem_filterMap.mp hm
      exact off (List.mem_filterMap.mpr ⟨e, List.mem_cons_of_mem _ he, q⟩)
    -- it is new
    have newI : sI.heap.get? a = none := by
      cases q : sI.heap.get? a with
      | none => rfl
      | some o =>
        have z := nb a o q (by rw [stk]; exact off)
        rw [fl3.2.1] at z
        cases z
    have new0 : ∀ (hx : a ∉ X.ex), X.s_0.heap.get? a = none := fun hx => by
      cases q : X.s_0.heap.get? a with
      | none => rfl
      | some o =>
        obtain ⟨o', z⟩ := J.base.there a o q hx
        rw [newI] at z
        cases z
    have offP : ∀ p ∈ X.pn ++ pins, p.1 ≠ a := fun p hp z => by
      have q := (J.pin p hp).1
      rw [z, newI] at q
      cases q
    have S3 := J3.suite at3 hd3 na nL nF
    refine wpAny_handleBy_cons (codeAny_handlers_test ?_) (by intro q; cases q)
    have LT : PySem.W.Looks (model X.prog X.w) h3 (typeOf (.ref a)) cls := fun A Q E s k q => wpAny_typeOf_ref (k _ _ at3) (by rw [hz3.1]; exact q)
    have LM := PySem.W.exm_one (M := model X.prog X.w) (J3.kIn) LT isa
    have look : ∀ {Q : Value → Shared → Prop} {E : Value → Shared → Prop}, Q c { s' with heap := h3 } → wpAny (model X.prog X.w) (X.A.mark (some (.ref a))) (eval (.Name x np) X.env) Q E { s' with heap := h3 } := fun {Q E} q => by
      obtain ⟨g1, g2, g3 | ⟨g3, g4, g5⟩⟩ := hc
      · exact ld_glob (X := X.suite a ((a, oe3) :: (X.pn ++ pins))) S3 g1 g3 q g2
      · exact ld_blt (X := X.suite a ((a, oe3) :: (X.pn ++ pins))) S3 g1 g3 g4 q g5 g2
    refine look (LM.here ?_)
    cases b with
    | true =>
      obtain ⟨dn, run⟩ := yes rfl
      subst dn
      refine codeAny_handlers_suite_as ?_
      refine HandSPX.lands_againZ fl3 fun h4 fl4 up4 => ?_
      have J4 : Inv X pins σ' H' { s' with heap := h4 } := J.landed nb fl4.1 ((up.trans up3).trans up4) os ag
      obtain ⟨oe4, vs4, at4, hz4, hd4⟩ := fl4.there
      have S4 := J4.suite at4 hd4 na nL nF
      refine store_ok (X := X.suite a ((a, oe4) :: (X.pn ++ pins))) (v := .ref a) S4 hN hi here rfl (fun s5 S5 => ?_) (.inr hln)
      refine wpAny_mono ((hsuite a oe4 cls (X.pn ++ pins)).run [] s5 _ H' _ S5 (run a na)) (fun f s6 done => ?_) (fun _ _ z => False.elim z)
      cases f with
      | next =>
        obtain ⟨σ6, H6, S6, q6⟩ := done
        have K6 : Inv X ((a, oe4) :: pins) σ6 H6 s6 := ⟨ok, S6.os, S6.bare, S6.base, S6.loc, S6.cell, S6.free, S6.freeC, fun p hp => S6.pin p (by
          show p ∈ ((a, oe4) :: (X.pn ++ pins)) ++ []
          rw [List.append_nil]
          rcases List.mem_append.mp hp with hp | hp
          · exact List.mem_cons_of_mem _ (List.mem_append_left _ hp)
          · rcases List.mem_cons.mp hp with hp | hp
            · rw [hp]
              exact List.mem_cons_self
            · exact List.mem_cons_of_mem _ (List.mem_append_right _ hp)), S6.hok, S6.len⟩
        refine gone_ok K6 hN hi hln fun s7 J7 => ⟨_, _, known J7 hz4 hd4 (new0 (by rw [hex]; simp)) offP, q6⟩
      | ret u =>
        obtain ⟨_, _, _, _, _, z⟩ := done
        exact z.elim
      | brk =>
        obtain ⟨_, _, _, z⟩ := done
        exact z.elim
      | cont =>
        obtain ⟨_, _, _, z⟩ := done
        exact z.elim
    | false =>
      show wpAny _ X.A (handleBy (.ref a) X.env []) _ _ _
      refine wpAny_handleBy_nil ?_
      obtain ⟨k1, k2, k3, oe, vs, T, oT, ts', he, hz, hd, h1, hr⟩ := id fl3
      unfold PySem.passOn
      refine wpAny_bind (wpAny_field he hd h1 ?_)
      rw [if_neg (show ¬ ((Value.ref T == Value.none) = true) from by simp)]
      have fin : wpAny (model X.prog X.w) X.A (setFlight (.ref a) X.env.frame) (fun _ s4 => wpAny (model X.prog X.w) X.A (throw (.ref a) : Sem Flow) (SP X pins D) X.xe s4) X.xe { s' with heap := h3 } := by
        rw [frm]
        refine HandSPX.setFlight_upZ fl3 fun h4 hh4 up4 => wpAny_throw (tk _ _ ?_)
        exact ⟨a, B, sI, pins, σ', H', cls, d, rfl, J, nb, (up.trans up3).trans up4, .inr (.inr (by rw [stk]; exact hh4)), na, os, ag, no rfl⟩
      first
        | exact wpAny_bind (wpAny_pure (wpAny_bind fin))
        | exact wpAny_bind fin
  · cases f with
    | next =>
      obtain ⟨σ', H', J', q⟩ := done
      exact wpAny_execs_nil ⟨σ', H', J'.ofTry ok, q⟩
    | brk =>
      obtain ⟨σ', H', J', q⟩ := done
      exact ⟨σ', H', J'.ofTry ok, q⟩
    | cont =>
      obtain ⟨σ', H', J', q⟩ := done
      exact ⟨σ', H', J'.ofTry ok, q⟩
    | ret u =>
      obtain ⟨v, σ', H', J', r, q⟩ := done
      exact ⟨v, σ', H', J'.ofTry ok, r, q⟩
end
end VT

/-! VS16: a lambda handed to the def that gives back what was raised. -/
namespace VS
open PySem PySem.Spec PyProof.Rows L2 LamX

theorem EnvR.extN {C : VC} {B : Bd} {ρ : En} {σ : L2.St} {G H H1 : Hp} {x : Option (SV × V)} (E : EnvR C B ρ σ x G H) (e : ExtN H H1) (t : Tabs C.T H1) : EnvR C B ρ σ x G H1 := by
  have F := E.fr
  obtain ⟨fp, h1, h2, h3⟩ := F.ex
  refine ⟨⟨⟨fp, fun i => (h1 i).mono (Same.refl _) fun p hp => ?_, h2, h3⟩, fun b u q => e b u (F.gh _ _ q) fun ps z => F.nt b ps (by rw [← z]; exact q), F.g0, F.gf, fun b o q n ns => e b o (F.kp b o q n ns) n, F.nt, t⟩, E.len⟩
  obtain ⟨u, hu, pl⟩ := (h1 i).there hp
  rw [hu, e p u hu pl.1]
/-- what the def makes of the lambda's reading -/
def TTc (K : PySem.W.Frag) (c : Value) : (XK → Hp → VK → Prop) → Hp → VK → Prop := fun tl H Q =>
  tl (fun cls d H' => ∃ b, PySem.W.exmOne K cls c = some b ∧ (b = true → d = none ∧ ∀ a, H' a = none → Q (.ref a) (upd H' a (ExV cls a))) ∧ (b = false → False)) H (fun _ H' => Q .non H')
section
variable {X : Cx} {x a r n e q : Str} {sg : Scope} {g CS : Addr} {cdg : Value} {p1 p2 p3 p4 p5 p6 p7 p8 p9 q1 q2 q3 q4 q5 q6 q7 : Pos} {j : Nat}
theorem caught_gives (hr : sg.names.lookup r = some .local) (hnn : sg.names.lookup n = some .local) (hge : sg.names.lookup e = some .globalImplicit) (nd : [a, r, n].Nodup) (hme : X.mg e = some (.ref CS)) (hde : (e == ("__debug__" : Str)) = false)
    (dr : (r == ("__debug__" : Str)) = false) (dn : (n == ("__debug__" : Str)) = false) (cr : (r == ("__classdict__" : Str)) = false) (cn : (n == ("__classdict__" : Str)) = false) :
    GivesTo X [a, r, n] x sg g cdg [.Assign [.Name r p1] (.Constant .none j p2) p3, .Try [.Expr (.Call (.Name a p4) [] [] p5) p6] [.ExceptHandler (some (.Name e p7)) (some n) [.Assign [.Name r p8] (.Name n p9) q1] q2] [] [] q3, .Return (some (.Name r q4)) q5] a q (TTc X.K (.ref CS)) := by
  intro f c' s H Q tl act hc h
  have hgl : Gl (cxOf C8.CX0 X.prog X.w X.K X.mg X.base [a, r, n] x sg g cdg X.A X.stack s H C8.E0).nox e := hge
  have t1 : PS (cxOf C8.CX0 X.prog X.w X.K X.mg X.base [a, r, n] x sg g cdg X.A X.stack s H C8.E0).nox (.Assign [.Name r p1] (.Constant .none j p2) p3) (tAsg (tC .non) (gName 1)) := ps_set (i := 1) nd rfl (.inl hr) pe_non rfl (.inr hr)
  have t3 : PS (cxOf C8.CX0 X.prog X.w X.K X.mg X.base [a, r, n] x sg g cdg X.A X.stack s H C8.E0).nox (.Return (some (.Name r q4)) q5) (tRet (tVar 1)) := ps_ret (pe_var (i := 1) rfl (.inl hr) dr cr)
  have t2 := VT.try_keep (X := (cxOf C8.CX0 X.prog X.w X.K X.mg X.base [a, r, n] x sg g cdg X.A X.stack s H C8.E0).nox) (x := e) (n := n) (c := .ref CS) (i := 2) (np := p7) (pos := q3) (pos' := q2) (Wout := fun _ _ _ _ => False) (body := [.Expr (.Call (.Name a p4) [] [] p5) p6]) (st₀ := .Assign [.Name r p8] (.Name n p9) q1) (suite := [])
      (tb := fun W D σ H => ∃ Ech : XK, (∀ cls d σ' H', Ech cls d H' → W cls d σ' H') ∧ σ[0]? = some (some (.ref f)) ∧ H c' = some (CodeO c' q) ∧ ∃ Kn : Hp → Prop, (∀ H', Kn H' → D.nx σ H') ∧ tl Ech H (fun _ H' => Kn H'))
      (ts := fun _ _ D σ H => σ.length = ([a, r, n] : List Str).length → tAsg (tVar 2) (gName 1) D σ H)
      rfl rfl rfl nd rfl hnn ⟨hgl, hde, .inl hme⟩ LamX.takes0 (fun W pn xe tk _ => ?_) (fun a oe cls pn => ⟨fun pins s' σ H' D I h' => (pss_one (ps_set (i := 1) nd rfl (.inl hr) (pe_var (i := 2) rfl (.inl hnn) dn cn) rfl (.inr hr))).run pins s' σ H' D I (h' I.len)⟩)
  · refine ⟨_, pss_cons t1 (pss_cons t2 (pss_one t3)), ?_⟩
    refine ⟨fun cls d H' => ∃ b, PySem.W.exmOne X.K cls (.ref CS) = some b ∧ (b = true → d = none ∧ ∀ a, H' a = none → Q (.ref a) (upd H' a (ExV cls a))) ∧ (b = false → False), fun cls d σ' H' ⟨b, e1, e2, e3⟩ => ⟨b, e1, fun hb => ⟨(e2 hb).1, fun a ha => ?_⟩, fun hb => e3 hb⟩, rfl, hc, fun H' => Q .non H', fun H' hq => ⟨.non, rfl, hq⟩, h⟩
    intro hl
    have hl3 : σ'.length = 3 := by
      rw [List.length_set] at hl
      exact hl
    refine ⟨.ref a, by rw [List.getElem?_set_self (by omega)], .ref a, ?_, (e2 hb).2 a ha⟩
    rw [List.getElem?_set_ne (by decide), List.getElem?_set_self (by simp; omega)]
  · refine ⟨fun pins s' σ H' D I h' => ?_⟩
    obtain ⟨Ech, hW, h1, h2, Kn, hK, h3⟩ := h'
    have hp := act W pn xe Ech p4 p5 tk hW
    refine (pss_one (t := fun D σ H => σ[0]? = some (some (.ref f)) ∧ H c' = some (CodeO c' q) ∧ ∃ Kn : Hp → Prop, (∀ H', Kn H' → D.nx σ H') ∧ tl Ech H (fun _ H' => Kn H')) ⟨fun pins s' σ H' D I h' => ?_⟩).run pins s' σ H' D I ⟨h1, h2, Kn, hK, h3⟩
    obtain ⟨h1, h2, Kn, hK, h3⟩ := h'
    exact wpAny_Expr_any (thn (hp.run pins s' σ H' (fun _ H1 => Kn H1) I ⟨h1, h2, h3⟩) fun v s1 ⟨x, H1, I1, r1, q1⟩ => ⟨σ, H1, I1, hK H1 q1⟩) I.quiet (by rfl)
end
end VS

/-! VS17: caught(lambda: ..). -/
namespace VS
open PySem PySem.Spec PyProof.Rows L2 LamX

def mCaught (es : List Str) (m : M Ref) : M Ref := fun ρ => match m ρ with
  | .ok _ ρ' => .ok (.sv (.d .non)) ρ'
  | .err c ρ' => if c ∈ es then .ok (.sv (.d (.exc c))) ρ' else .stuck
  | .stuck => .stuck
section
variable {C : VC} {X : Cx} {W : WX} {t : XK → TE} {mb : M Ref} {es : List Str} {CS : Addr}
theorem snd_caught (hx : ∀ c ∈ es, ∀ Ca, C.mg c = some (.ref Ca) → PySem.W.exmOne C.K (.ref Ca) (.ref CS) = some true) (h : ∀ E : XK, SndE C (fun cls d _ H => E cls d H) (t E) mb) : SndE C W (tLam C.T (TTc C.K (.ref CS)) t) (mCaught es mb) := by
  intro B ρ σ G H Q E P
  refine ⟨E.fr.tb, fun H1 eN T1 => ?_⟩
  have E1 := E.extN eN T1
  obtain ⟨B', _, b2, b3, _⟩ := (E1.res Rp.non).frame
  refine h _ B' ρ σ G H1 _ b2 ?_
  unfold mCaught at P
  cases q : mb ρ with
  | stuck => rw [q] at P; exact P
  | ok r ρ' =>
    rw [q] at P
    cases r with
    | sv s => exact fun v G' H' E' S' => P .non G' H' ((b3 _ _ _ _ E'.nox).1.nox.res .non) S'
    | loc i => exact fun v G' H' E' S' _ => P .non G' H' ((b3 _ _ _ _ E').1.nox.res .non) S'
  | err c ρ' =>
    rw [q] at P
    dsimp only at P
    by_cases hc : c ∈ es
    · rw [if_pos hc] at P
      intro G' H' Ca E0 hg
      obtain ⟨E1', S1⟩ := b3 _ _ _ _ E0
      have E' := E1'.nox
      refine ⟨true, hx c hc Ca hg, fun _ => ⟨rfl, fun a ha => ?_⟩, fun z => nomatch z⟩
      have E2 : EnvR C B ρ' σ none (upd G' a (ExV (.ref Ca) a)) (upd H' a (ExV (.ref Ca) a)) := ⟨E'.fr.lay ha (fun _ z => nomatch z), E'.len⟩
      have sg : Same G' (upd G' a (ExV (.ref Ca) a)) := same_up (E'.fr.gh.free ha)
      exact P (.ref a) _ _ (E2.res (.exc hg upd_same)) (S1.trans sg)
    · rw [if_neg hc] at P
      exact P.elim
variable {x a : Str} {st : Stmt} {Ng : List Str} {cc Pt : Addr} {k : Nat} {params : Arguments} {body : Expr} {scope : Scope} {p lpos pos : Pos}
/-- x(lambda: body), x gives back the exception that the lambda raised, or None -/
theorem se_caught (F : ∃ fd, FunD C.K x x (defArgs st) (defBody st) (defScope st) [] [] (He.ga C.K x) fd) (gl : C.mg x = some (.ref (He.ga C.K x))) (Sg : FnScope Ng [a] (defScope st)) (hNg : Ng[0]? = some a) (hva : Vis (defScope st) a)
    (hb : ∀ (kV doc pm : Value) (an : Option Addr) (cdv ct : Value) (us : List Value), us.length = ([a] : List Str).length → bindArgs (PySem.W.fnOf x x (defArgs st) (defBody st) (defScope st) .none kV doc pm an cdv ct) ⟨us, []⟩ = pure (([a] : List Str).zip us))
    (hG : ∀ cdg, GivesTo X Ng x (defScope st) (He.ga X.K x) cdg (defBody st) a (X.env.qual ++ "<lambda>") (TTc X.K (.ref CS)))
    (hx : ∀ c ∈ es, ∀ Ca, C.mg c = some (.ref Ca) → PySem.W.exmOne C.K (.ref Ca) (.ref CS) = some true)
    (hg : Gl X x) (TB : TabB X.base X.mg cc Pt) (hcode : X.env.code = .ref cc) (hT : (Pt, X.env.qual ++ "<lambda>") ∈ C.T) (hu : ∀ p ∈ C.T, p.1 = Pt → p.2 = X.env.qual ++ "<lambda>") (hr : Room (k + 2) X.A) (L : LamS X.env.scope scope)
    (hbody : ∀ (A : Around) (outer : List Env) (s : Shared) (H : Hp) (E : XK) (f c' : Addr), Room k (A.deeper (lamEnv X scope s.heap.objs.size f c')) → SE C (lamCx X A outer s H E scope f c') (fun cls d _ H => E cls d H) body (t E) mb)
    (hbind : ∀ (q : Str) (cl : List (Str × Addr)) (pm cv ctv : Value), bindArgs (PySem.W.kla_fn "<lambda>" q params body scope cl pm cv ctv) ⟨[], []⟩ = pure [])
    (hdef : defaultsOf params X.env = ([], []) := by rfl) (hK : X.K = C.K := by rfl) (hm : X.mg = C.mg := by rfl)
    (hdb : (x == ("__debug__" : Str)) = false := by decide) (hd : (a == ("__debug__" : Str)) = false := by decide) (hcd : (a == ("__classdict__" : Str)) = false := by decide) :
    SE C X W (.Call (.Name x p) [.Lambda params body scope lpos] [] pos) (tLam C.T (TTc C.K (.ref CS)) t) (mCaught es mb) := by
  refine ⟨?_, snd_caught hx fun E => (hbody X.A [] X.s_0 X.H_0 E 0 0 ((Room.deeper (k := k + 1) hr _).mono (Nat.le_succ _))).snd⟩
  obtain ⟨fd, F⟩ := F
  obtain ⟨oc, od, dV, kV, doc, pm, an, cdv, ct, osl, e1, lk, hcd', hD, _⟩ := F.ex
  have hdV : dV = .none := by
    rcases hD with ⟨_, h⟩ | ⟨h, _⟩
    · exact h
    · exact absurd rfl h
  subst hdV e1
  rw [← hK] at lk hcd'
  rw [← hK]
  exact pe_lamcall hg (by rw [hm, hK]; exact gl) (by rw [hK]; exact F.kp) lk hcd' (.all (hb kV doc pm an cdv ct)) Sg hNg hva (hG cdv) TB hcode hT hu hr L hdef hbind (fun A outer s H E f c' h => (hbody A outer s H E f c' h).pe) hdb hd hcd
end
end VS

/-! VD: the law's draws. -/
namespace VS
open PySem PySem.Spec PyProof.Rows L2

abbrev drK (a : Addr) (g c : Addr) (l t : Int) : List (Key × V) := [(.inr "great", .ref g), (.inr "cells", .ref c), (.inr "left", .int l), (.inr "turn", .int t)]
section
variable {C : VC} {B : Bd} {vw : Option Nat → Slot} {ρ : En} {σ : L2.St} {G H : Hp} {i : Nat} {v : V} {s : Draw}
/-- a draw's things, and what may be done with them -/
theorem FR.drw (F : FR C B vw G H) {j : Option Nat} (hi : vw j = (some (.dr s), some v)) :
    ∃ a g c, v = .ref a ∧ a ≠ g ∧ H a = some (.dK (drK a g c s.left s.turn)) ∧ H g = some (.lst (s.great.map V.int)) ∧ G c = some (.lst (s.cells.map V.int)) ∧
      (∀ l t, FR C B (upS vw j (some (.dr { s with left := l, turn := t }), some v)) G (upd H a (.dK (drK a g c l t)))) ∧
      ∀ gs, FR C B (upS vw j (some (.dr { s with great := gs }), some v)) G (upd H g (.lst (gs.map V.int))) := by
  obtain ⟨fp, h1, h2, h3⟩ := F.ex
  have o1 := h1 j
  rw [hi] at o1
  obtain ⟨v2, e1, a, g, c, h4, h5, h6, h7, h8, h9⟩ := o1
  cases e1
  subst h4
  have ina : a ∈ fp j := by rw [h5]; exact List.mem_cons_self
  have ing : g ∈ fp j := by rw [h5]; exact List.mem_cons_of_mem _ List.mem_cons_self
  have key : ∀ (p : Addr) (o' : HO) (s' : SV), p ∈ fp j → (∃ u, H p = some u ∧ Plain u) → Own C G (upd H p o') s' (.ref a) (fp j) → FR C B (upS vw j (some s', some (.ref a))) G (upd H p o') := by
    intro p o' s' pj hu hs
    have hg : G p = none := (h3 j p pj).1
    obtain ⟨u, hp, pl⟩ := hu
    refine ⟨⟨fp, fun k => ?_, h2, h3⟩, fun b w e => ?_, F.g0, F.gf, fun b w e n ns => ?_, F.nt, tabs_upd F.tb fun w e => by rw [hp] at e; cases e; exact pl⟩
    · by_cases hk : k = j
      · rw [hk, upS_same]
        exact ⟨_, rfl, hs⟩
      · rw [upS_ne hk]
        exact (h1 k).mono (Same.refl _) fun q hq => upd_ne fun z => by
          rw [z] at hq
          exact h2 k j p hk hq pj
    · rw [upd_ne (fun z => by rw [z, hg] at e; cases e)]
      exact F.gh _ _ e
    · by_cases hb : b = p
      · subst hb
        exact absurd ((h3 j b pj).2 w e n) ns
      · rw [upd_ne hb]
        exact F.kp b w e n ns
  refine ⟨a, g, c, rfl, h6, h7, h8, h9, fun l t => key a _ _ ina ⟨_, h7, (fun _ z => nomatch z), fun _ z => nomatch z⟩ ?_, fun gs => key g _ _ ing ⟨_, h8, (fun _ z => nomatch z), fun _ z => nomatch z⟩ ?_⟩
  · exact ⟨a, g, c, rfl, h5, h6, upd_same, by rw [upd_ne (Ne.symm h6)]; exact h8, h9⟩
  · exact ⟨a, g, c, rfl, h5, h6, by rw [upd_ne h6]; exact h7, upd_same, h9⟩
theorem EnvR.drw (E : EnvR C B ρ σ none G H) (hi : ρ.getD i none = some (.dr s)) (hv : σ[i]? = some (some v)) :
    ∃ a g c, v = .ref a ∧ a ≠ g ∧ H a = some (.dK (drK a g c s.left s.turn)) ∧ H g = some (.lst (s.great.map V.int)) ∧ G c = some (.lst (s.cells.map V.int)) ∧
      (∀ l t, EnvR C B (ρ.set i (some (.dr { s with left := l, turn := t }))) σ none G (upd H a (.dK (drK a g c l t)))) ∧
      ∀ gs, EnvR C B (ρ.set i (some (.dr { s with great := gs }))) σ none G (upd H g (.lst (gs.map V.int))) := by
  have hs : view ρ σ none (some i) = (some (.dr s), some v) := by
    show (ρ.getD i none, σ.getD i none) = _
    rw [hi, getD_st hv]
  obtain ⟨a, g, c, h1, h2, h3, h4, h5, h6, h7⟩ := E.fr.drw hs
  refine ⟨a, g, c, h1, h2, h3, h4, h5, fun l t => ⟨?_, by simp [E.len]⟩, fun gs => ⟨?_, by simp [E.len]⟩⟩
  · rw [view_set1 (slot_lt hi) (getD_st hv)]
    exact h6 l t
  · rw [view_set1 (slot_lt hi) (getD_st hv)]
    exact h7 gs
end
/-! ### reading it -/
inductive DrK where
  | left | turn | cells
def DrK.key : DrK → Str
  | .left => "left" | .turn => "turn" | .cells => "cells"
def drGet (k : DrK) (s : Draw) : D := match k with
  | .left => .int s.left
  | .turn => .int s.turn
  | .cells => .lst (s.cells.map .int)
def drV (k : DrK) (s : Draw) (c : Addr) : V := match k with
  | .left => .int s.left
  | .turn => .int s.turn
  | .cells => .ref c
theorem drV_eq {s : Draw} {a g c : Addr} (k : DrK) : valV (drK a g c s.left s.turn) (.inr k.key) = some (drV k s c) := by
  cases k <;> rfl
def mDr (i : Nat) (k : DrK) : M Ref := fun ρ => match ρ.getD i none with
  | some (.dr s) => .ok (.sv (.d (drGet k s))) ρ
  | _ => .stuck
section
variable {C : VC} {X : Cx} {W : WX} {P : List Nat} {i : Nat} {x : Str} {p kp pos pos' : Pos} {kj : Nat} {value : Expr} {tv : TE} {mv : M Ref}
theorem rpl_map_ints {G : Hp} : ∀ ns : List Int, RpL C G (ns.map V.int) (ns.map D.int)
  | [] => .nil
  | i :: ns => .cons (.int i) (rpl_map_ints ns)
theorem snd_dr (k : DrK) : SndE C W (tDGet (tVar i) (tC (.str k.key))) (mDr i k) := by
  intro B ρ σ G H Q E P
  unfold mDr at P
  cases q : ρ.getD i none with
  | none => rw [q] at P; exact P.elim
  | some z =>
    rw [q] at P
    cases z with
    | dr s =>
      obtain ⟨v, hv, _⟩ := E.slot q
      obtain ⟨a, g, c, rfl, h2, h3, h4, h5, _, _⟩ := E.drw q hv
      refine ⟨_, hv, a, drV k s c, rfl, ?_, ?_⟩
      · have z : DGet H a (kV (.inr k.key)) (valV (drK a g c s.left s.turn) (.inr k.key)) := .k h3
        rw [drV_eq k] at z
        exact z
      · cases k with
        | left => exact P _ G H (E.res (.int _)) (Same.refl _)
        | turn => exact P _ G H (E.res (.int _)) (Same.refl _)
        | cells => exact P _ G H (E.res (.lst h5 (rpl_map_ints _))) (Same.refl _)
    | d z => exact P.elim
    | ol z => exact P.elim
    | od z => exact P.elim
    | sc z => exact P.elim
    | oi c z => exact P.elim
theorem se_dr (k : DrK) (hu : X.A.units + 64 < cLine) (hv : PE X (.Name x p) (tVar i)) : SE C X W (.Subscript (.Name x p) (.Constant (.str k.key) kj kp) pos) (tDGet (tVar i) (tC (.str k.key))) (mDr i k) :=
  ⟨pe_dget (by omega) hv pe_str (fun _ _ => rfl), snd_dr k⟩
/-- great is not empty -/
def mDrG (i : Nat) : M Ref := fun ρ => match ρ.getD i none with
  | some (.dr s) => .ok (.sv (.d (.bl (!s.great.isEmpty)))) ρ
  | _ => .stuck
theorem shaped_ints : ∀ ns : List Int, PyData.canLayAll0 (ns.map PyData.int) = true
  | [] => rfl
  | i :: ns => by
    rw [List.map_cons, PyData.canLayAll0, shaped_ints ns, Bool.and_true]
    rfl
theorem depth_ints : ∀ ns : List Int, PyData.depthAll (ns.map PyData.int) = 0
  | [] => rfl
  | i :: ns => by
    rw [List.map_cons, PyData.depthAll, depth_ints ns]
    rfl
theorem shaped_intl (ns : List Int) : SeqAt.shaped (.list (ns.map PyData.int)) = true := by
  unfold SeqAt.shaped
  rw [PyData.canLay0, shaped_ints, PyData.depth, depth_ints]
  rfl
theorem dpa_ints {K : PySem.W.Frag} {H : Hp} : ∀ ns : List Int, DpAll K H (ns.map V.int) (ns.map PyData.int)
  | [] => .nil
  | i :: ns => .cons (.int i) (dpa_ints ns)
theorem snd_drG : SndE C W (tOp (rNeD C.K) (tDGet (tVar i) (tC (.str "great"))) (tLst tNil)) (mDrG i) := by
  intro B ρ σ G H Q E P
  unfold mDrG at P
  cases q : ρ.getD i none with
  | none => rw [q] at P; exact P.elim
  | some z =>
    rw [q] at P
    cases z with
    | dr s =>
      obtain ⟨v, hv, _⟩ := E.slot q
      obtain ⟨a, g, c, rfl, h2, h3, h4, h5, _, _⟩ := E.drw q hv
      refine ⟨_, hv, a, .ref g, rfl, ?_, by decide, fun l hl => ⟨.list (s.great.map PyData.int), .list [], .lst (.of (same_up hl _ _ h4)) (dpa_ints _), .lst (.of upd_same) .nil, shaped_intl _, by rfl, ?_⟩⟩
      · have z : DGet H a (kV (.inr "great")) (valV (drK a g c s.left s.turn) (.inr "great")) := .k h3
        exact z
      · have e : (!PyData.eqv (.list (s.great.map PyData.int)) (.list [])) = !s.great.isEmpty := by
          cases s.great with
          | nil => rfl
          | cons x xs => rfl
        rw [e]
        exact P _ G _ (EnvR.res ⟨E.fr.alloc hl, E.len⟩ (.bl _)) (Same.refl _)
    | d z => exact P.elim
    | ol z => exact P.elim
    | od z => exact P.elim
    | sc z => exact P.elim
    | oi c z => exact P.elim
theorem se_drG {q1 q2 : Pos} (hu : X.A.units + 64 < cLine) (hv : PE X (.Name x p) (tVar i)) (hK : X.K = C.K := by rfl) (hm : behindInMarks .NotEq (.List [] q1) = false := by rfl) : SE C X W (.Compare (.Subscript (.Name x p) (.Constant (.str "great") kj kp) pos) [.NotEq] [.List [] q1] q2) (tOp (rNeD C.K) (tDGet (tVar i) (tC (.str "great"))) (tLst tNil)) (mDrG i) :=
  ⟨pe_cmpR (opK (r := rNeD) (op_neD hu) hK) (pe_dget (by omega) hv pe_str (fun _ _ => rfl)) (pe_lst pa_nil) hm, snd_drG⟩
/-- great.pop(0) -/
def mDrP (i : Nat) : M Ref := fun ρ => match ρ.getD i none with
  | some (.dr s) => (match s.great with
    | z :: zs => .ok (.sv (.d (.int z))) (ρ.set i (some (.dr { s with great := zs })))
    | [] => .stuck)
  | _ => .stuck
theorem snd_drP : SndE C W (tBM C.K "list" rPopAt (tDGet (tVar i) (tC (.str "great"))) (tCons (tC (.int 0)) tNil)) (mDrP i) := by
  intro B ρ σ G H Q E P
  unfold mDrP at P
  cases q : ρ.getD i none with
  | none => rw [q] at P; exact P.elim
  | some z =>
    rw [q] at P
    cases z with
    | dr s =>
      dsimp only at P
      cases hgr : s.great with
      | nil => rw [hgr] at P; exact P.elim
      | cons z zs =>
        rw [hgr] at P
        obtain ⟨v, hv, _⟩ := E.slot q
        obtain ⟨a, g, c, rfl, h2, h3, h4, h5, _, ch⟩ := E.drw q hv
        refine ⟨_, hv, a, .ref g, rfl, ?_, .inl ⟨rfl, _, .of h4⟩, g, s.great.map V.int, 0, 0, .int z, rfl, rfl, h4, by decide, by decide, ?_, ?_, ?_⟩
        · have z : DGet H a (kV (.inr "great")) (valV (drK a g c s.left s.turn) (.inr "great")) := .k h3
          exact z
        · rw [hgr, List.length_map]
          unfold seqIndex?
          simp
        · rw [hgr]
          rfl
        · have e : (s.great.map V.int).eraseIdx 0 = zs.map V.int := by
            rw [hgr]
            rfl
          rw [e]
          exact P _ G _ ((ch zs).res (.int z)) (Same.refl _)
    | d z => exact P.elim
    | ol z => exact P.elim
    | od z => exact P.elim
    | sc z => exact P.elim
    | oi c z => exact P.elim
theorem se_drP {q1 apos cpos : Pos} {nj : Nat} (hu : X.A.units + 64 < cLine) (hv : PE X (.Name x p) (tVar i)) (hK : X.K = C.K := by rfl)
    (hbase : attributeBase (.Subscript (.Name x p) (.Constant (.str "great") kj kp) pos) "pop" X.env (eval (.Subscript (.Name x p) (.Constant (.str "great") kj kp) pos) X.env) = eval (.Subscript (.Name x p) (.Constant (.str "great") kj kp) pos) X.env := by rfl)
    (hline : (apos.endLine == cpos.line) = true := by rfl) : SE C X W (.Call (.Attribute (.Subscript (.Name x p) (.Constant (.str "great") kj kp) pos) "pop" apos) [.Constant (.int 0) nj q1] [] cpos) (tBM C.K "list" rPopAt (tDGet (tVar i) (tC (.str "great"))) (tCons (tC (.int 0)) tNil)) (mDrP i) :=
  ⟨by rw [← hK]; exact pe_bm PySem.F.plainAttrs_list PySem.F.slot_list_pop PySem.F.type_list_pop mt_popAt (pe_dget (by omega) hv pe_str (fun _ _ => rfl)) (pa_cons pe_int pa_nil) hbase (by rfl) hline (by rfl) (by rfl), snd_drP⟩
/-- left, turn are written -/
def drputD (i : Nat) (k : DrK) (v : D) : M Fl := fun ρ => match ρ.getD i none, v, k with
  | some (.dr s), .int n, .left => .ok .nx (ρ.set i (some (.dr { s with left := n })))
  | some (.dr s), .int n, .turn => .ok .nx (ρ.set i (some (.dr { s with turn := n })))
  | _, _, _ => .stuck
def mDrPut (i : Nat) (k : DrK) (v : M Ref) : M Fl := M.bind (mFrz v) (drputD i k)
theorem snd_drput (k : DrK) (hv : SndE C W tv mv) : SndS C P W (sDPut (tVar i) (tC (.str k.key)) tv) (mDrPut i k mv) := by
  intro B ρ σ G H D E pn Q
  refine hv.f E ?_
  unfold mDrPut at Q
  rw [mbind] at Q
  cases q : mFrz mv ρ with
  | stuck => rw [q] at Q; exact Q
  | err c ρ' => rw [q] at Q; exact fun G' H' Ca E' hc => Q σ G' H' Ca E' pn hc
  | ok x ρ1 =>
    rw [q, bind_ok] at Q
    intro v G1 H1 E1 S1 r1
    cases q3 : ρ1.getD i none with
    | none => unfold drputD at Q; rw [q3] at Q; exact Q.elim
    | some z =>
      cases z with
      | dr s =>
        cases x with
        | int n =>
          cases r1
          obtain ⟨w, hw, _⟩ := E1.slot q3
          obtain ⟨a, g, c, rfl, h2, h3, h4, h5, ch, _⟩ := E1.drw q3 hw
          have hl : (drK a g c s.left s.turn).length < sizeLine := by
            show 4 < sizeLine
            rw [sizeLine_eq]
            decide
          cases k with
          | left =>
            refine ⟨_, hw, a, _, rfl, DPut.k (k := .inr "left") h3 hl, ?_⟩
            unfold drputD at Q
            rw [q3] at Q
            exact Q σ G1 _ (ch n s.turn) S1 pn
          | turn =>
            refine ⟨_, hw, a, _, rfl, DPut.k (k := .inr "turn") h3 hl, ?_⟩
            unfold drputD at Q
            rw [q3] at Q
            exact Q σ G1 _ (ch s.left n) S1 pn
          | cells => unfold drputD at Q; rw [q3] at Q; exact Q.elim
        | _ => unfold drputD at Q; rw [q3] at Q; cases k <;> exact Q.elim
      | _ => unfold drputD at Q; rw [q3] at Q; cases x <;> cases k <;> exact Q.elim
theorem s_drput (k : DrK) (hu : X.A.units + 64 < cLine) (hv : PE X (.Name x p) (tVar i)) (hval : SE C X W value tv mv) (hs : swapsWith value (some (.Subscript (.Name x p) (.Constant (.str k.key) kj kp) pos')) pos.line X.env = pure false := by rfl) :
    S1 C P X W (.Assign [.Subscript (.Name x p) (.Constant (.str k.key) kj kp) pos'] value pos) (sDPut (tVar i) (tC (.str k.key)) tv) (mDrPut i k mv) := ⟨ps_dput (by omega) hv pe_str hval.pe hs, snd_drput k hval.snd⟩
end
end VS

/-! VD2: the draws' dict is made. -/
namespace VS
open PySem PySem.Spec PyProof.Rows L2

section
variable {C : VC} {B : Bd} {ρ : En} {σ : L2.St} {G H : Hp} {i : Nat} {p : Addr} {v : V} {gs cs : List Int}
theorem EnvR.joinDr (E : EnvR C B ρ σ (some (.od [], .ref p)) G H) (hi : ρ.getD i none = some (.ol (intD gs))) (hv : σ[i]? = some (some v)) {c : Addr} (hc : G c = some (.lst (cs.map V.int))) (l t : Int) :
    ∃ g, v = .ref g ∧ EnvR C B (ρ.set i none) σ (some (.dr ⟨gs, cs, l, t⟩, .ref p)) G (upd H p (.dK (drK p g c l t))) := by
  have hs : view ρ σ (some (.od [], .ref p)) (some i) = (some (.ol (intD gs)), some v) := by
    show (ρ.getD i none, σ.getD i none) = _
    rw [hi, getD_st hv]
  obtain ⟨fp, h1, h2, h3⟩ := E.fr.ex
  have o1 := h1 (some i)
  rw [hs] at o1
  obtain ⟨v2, e1, g, us, g1, g2, g3, g4⟩ := o1
  cases e1
  subst g1
  obtain ⟨v3, e3, p', ws, p1, p2, p3, p4⟩ := h1 none
  cases e3
  cases p1
  have hpg : p ≠ g := fun z => h2 none (some i) p (by simp) (by rw [p2]; exact List.mem_singleton.mpr rfl) (by rw [g2, z]; exact List.mem_singleton.mpr rfl)
  have hG : G p = none := (h3 none p (by rw [p2]; exact List.mem_singleton.mpr rfl)).1
  have eu : us = gs.map V.int := rpl_ints g4
  subst eu
  refine ⟨g, rfl, ⟨⟨⟨fun k => match k with | none => [p, g] | some j => if j = i then [] else fp (some j), fun k => ?_, fun j k q hjk hq hq2 => ?_, fun k q hq => ?_⟩, fun b w e => ?_, E.fr.g0, E.fr.gf, fun b w e n ns => ?_, E.fr.nt, tabs_upd E.fr.tb fun w e => by rw [p3] at e; cases e; exact ⟨(fun _ z => nomatch z), fun _ z => nomatch z⟩⟩, by simp [E.len]⟩⟩
  · cases k with
    | none => exact ⟨.ref p, rfl, p, g, c, rfl, rfl, hpg, upd_same, by rw [upd_ne (Ne.symm hpg)]; exact g3, hc⟩
    | some j =>
      show SlotOk C G _ ((ρ.set i none).getD j none, σ.getD j none) (if j = i then [] else fp (some j))
      by_cases hj : j = i
      · rw [if_pos hj, hj, getD_set_eq (slot_lt hi)]
        rfl
      · rw [if_neg hj, getD_set_ne hj]
        exact (h1 (some j)).mono (Same.refl _) fun q hq => upd_ne fun z => by
          rw [z] at hq
          exact h2 none (some j) p (by simp) (by rw [p2]; exact List.mem_singleton.mpr rfl) hq
  · have one : ∀ j q, j ≠ i → q ∈ fp (some j) → q ∉ [p, g] := fun j q hj hq z => by
      rcases List.mem_cons.mp z with z | z
      · exact h2 none (some j) q (by simp) (by rw [p2, z]; exact List.mem_singleton.mpr rfl) hq
      · exact h2 (some i) (some j) q (by simpa using Ne.symm hj) (by rw [g2]; exact z) hq
    cases j with
    | none =>
      cases k with
      | none => exact hjk rfl
      | some k =>
        dsimp only at hq hq2
        by_cases hk : k = i
        · rw [if_pos hk] at hq2; cases hq2
        · rw [if_neg hk] at hq2
          exact one k q hk hq2 hq
    | some j =>
      dsimp only at hq
      by_cases hj : j = i
      · rw [if_pos hj] at hq; cases hq
      · rw [if_neg hj] at hq
        cases k with
        | none => exact one j q hj hq hq2
        | some k =>
          dsimp only at hq2
          by_cases hk : k = i
          · rw [if_pos hk] at hq2; cases hq2
          · rw [if_neg hk] at hq2
            exact h2 _ _ q hjk hq hq2
  · cases k with
    | none =>
      rcases List.mem_cons.mp hq with z | z
      · exact h3 none q (by rw [p2, z]; exact List.mem_singleton.mpr rfl)
      · exact h3 (some i) q (by rw [g2]; exact z)
    | some j =>
      dsimp only at hq
      by_cases hj : j = i
      · rw [if_pos hj] at hq; cases hq
      · rw [if_neg hj] at hq
        exact h3 _ q hq
  · rw [upd_ne (fun z => by rw [z, hG] at e; cases e)]
    exact E.fr.gh _ _ e
  · by_cases hb : b = p
    · subst hb
      exact absurd ((h3 none b (by rw [p2]; exact List.mem_singleton.mpr rfl)).2 w e n) ns
    · rw [upd_ne hb]
      exact E.fr.kp b w e n ns
end
/-- {'great': slot i, 'cells': mc, 'left': 0, 'turn': 0} -/
def drNew (i : Nat) (x : D) : M Ref := fun ρ => match ρ.getD i none, x with
  | some (.ol gs), .lst cs => (match intsOfD gs, intsOfD cs with
    | some gs, some cs => .ok (.sv (.dr ⟨gs, cs, 0, 0⟩)) (ρ.set i none)
    | _, _ => .stuck)
  | _, _ => .stuck
def mDrNew (i : Nat) (mc : M Ref) : M Ref := fun ρ => if isOl (ρ.getD i none) = true then M.bind (mFrz mc) (drNew i) ρ else .stuck
section
variable {C : VC} {X : Cx} {W : WX} {i : Nat} {x : Str} {p q1 q2 q3 q4 q5 q6 pos : Pos} {j1 j2 j3 j4 j5 j6 : Nat} {ec : Expr} {tc : TE} {mc : M Ref}
theorem snd_drNew (hc : SndE C W tc mc) : SndE C W (tDisp [(tC (.str "great"), tVar i), (tC (.str "cells"), tc), (tC (.str "left"), tC (.int 0)), (tC (.str "turn"), tC (.int 0))]) (mDrNew i mc) := by
  intro B ρ σ G H Q E P q hq
  unfold mDrNew at P
  split at P
  · rename_i ho
    obtain ⟨xs, hx⟩ := isOl_some ho
    obtain ⟨v, hv, _⟩ := E.slot hx
    have E0 := E.newD hq .nil
    obtain ⟨B', _, b2, b3, _⟩ := E0.frame
    refine ⟨v, hv, hc.f b2 ?_⟩
    rw [mbind] at P
    cases q2 : mFrz mc ρ with
    | stuck => rw [q2] at P; exact P
    | err c ρ' => rw [q2] at P; exact fun G' H' Ca E' hg => P G' H' Ca (b3 _ _ _ _ E').1.nox hg
    | ok y ρ1 =>
      rw [q2, bind_ok] at P
      intro w G1 H1 E1 S1 r1
      obtain ⟨E2, S2⟩ := b3 _ _ _ _ E1
      unfold drNew at P
      cases q3 : ρ1.getD i none with
      | none => rw [q3] at P; exact P.elim
      | some s =>
        rw [q3] at P
        cases s with
        | ol gs =>
          cases y with
          | lst cs =>
            dsimp only at P
            cases q4 : intsOfD gs with
            | none => rw [q4] at P; exact P.elim
            | some ng =>
              rw [q4] at P
              cases q5 : intsOfD cs with
              | none => rw [q5] at P; exact P.elim
              | some nc =>
                rw [q5] at P
                dsimp only at P
                rw [intsOfD_eq q4] at q3
                cases r1 with
                | lst hcl rl =>
                  rename_i ca vs
                  rw [intsOfD_eq q5] at rl
                  rw [rpl_ints rl] at hcl
                  obtain ⟨g, rfl, E3⟩ := E2.joinDr q3 hv hcl 0 0
                  have hp : H1 q = some (.dK []) := by
                    obtain ⟨fp, h1, _⟩ := E2.fr.ex
                    obtain ⟨v3, e3, p', ws, p1, p2, p3, p4⟩ := h1 none
                    cases e3
                    cases p1
                    cases p4
                    exact p3
                  exact ⟨hp, drK q g ca 0 0, rfl, by show 4 ≤ 15; omega, P _ G1 _ E3 S2⟩
          | _ => exact P.elim
        | d z => exact P.elim
        | od z => exact P.elim
        | dr z => exact P.elim
        | sc z => exact P.elim
        | oi c z => exact P.elim
  · exact P.elim
theorem se_drNew (hv : PE X (.Name x p) (tVar i)) (hc : SE C X W ec tc mc) : SE C X W (.Dict [some (.Constant (.str "great") j1 q1), some (.Constant (.str "cells") j2 q2), some (.Constant (.str "left") j3 q3), some (.Constant (.str "turn") j4 q4)] [.Name x p, ec, .Constant (.int 0) j5 q5, .Constant (.int 0) j6 q6] pos)
    (tDisp [(tC (.str "great"), tVar i), (tC (.str "cells"), tc), (tC (.str "left"), tC (.int 0)), (tC (.str "turn"), tC (.int 0))]) (mDrNew i mc) :=
  ⟨pe_disp (pps_cons pe_str hv (pps_cons pe_str hc.pe (pps_cons pe_str pe_int (pps_cons pe_str pe_int pps_nil)))) (by rfl) (by rfl) (by simp) (by show 4 ≤ 15; omega), snd_drNew hc.snd⟩
end
end VS

/-! VG: short names for the printed walks. -/
namespace VS
open PySem PySem.Spec PyProof.Rows L2

theorem u65 {k : Nat} {A : Around} (r : Room k A) : A.units + 65 < cLine := by have := r.un; omega
theorem u64 {k : Nat} {A : Around} (r : Room k A) : A.units + 64 < cLine := r.units
theorem u1 {k : Nat} {A : Around} (r : Room k A) : A.units + 1 < cLine := by have := r.un; omega
theorem rmono {j k : Nat} {A : Around} (r : Room k A) (h : j ≤ k) : Room j A := r.mono h
section
variable {C : VC} {X : Cx} {W : WX} {a b : Expr} {ta tb : TE} {ma mb : M Ref} {pos p : Pos} {e : Expr} {es : List Expr} {t : TA} {m : M (List Opd)}
theorem b_add (ha : SE C X W a ta ma) (hb : SE C X W b tb mb) (hK : X.K = C.K := by rfl) : SE C X W (.BinOp a .Add b pos) (tOp (rAdd C.K) ta tb) (mBin dAdd ma mb) := se_bin (opK (r := rAdd) op_addX hK) rule_add ha hb
theorem b_sub (ha : SE C X W a ta ma) (hb : SE C X W b tb mb) : SE C X W (.BinOp a .Sub b pos) (tOp (rI0 fun i j => .int (i - j)) ta tb) (mBin dSub ma mb) := se_bin op_sub rule_sub ha hb
theorem b_mul (ha : SE C X W a ta ma) (hb : SE C X W b tb mb) : SE C X W (.BinOp a .Mult b pos) (tOp (rI CMul fun i j => .int (i * j)) ta tb) (mBin dMul ma mb) := se_bin op_mul rule_mul ha hb
theorem b_mod (ha : SE C X W a ta ma) (hb : SE C X W b tb mb) : SE C X W (.BinOp a .Mod b pos) (tOp (rI (fun _ j => j ≠ 0) fun i j => .int (i.fmod j)) ta tb) (mBin dMod ma mb) := se_bin op_modN rule_mod ha hb
theorem b_div (ha : SE C X W a ta ma) (hb : SE C X W b tb mb) : SE C X W (.BinOp a .FloorDiv b pos) (tOp (rI CDivN fun i j => .int (i.fdiv j)) ta tb) (mBin dDiv ma mb) := se_bin op_fdivN rule_div ha hb
theorem b_pow (ha : SE C X W a ta ma) (hb : SE C X W b tb mb) : SE C X W (.BinOp a .Pow b pos) (tOp (rI CPow fun i j => .int (i ^ j.toNat)) ta tb) (mBin dPow ma mb) := se_bin op_pow rule_pow ha hb
/-- a comparison: what each operator does -/
structure CO (C : VC) (X : Cx) (op : CmpOp) (rr : R2) (f : D → D → Option Rv) : Prop where
  o : OpR X (compareOp op) rr
  r : RuleB C rr f
theorem o_lt : CO C X .Lt (rI0 fun i j => .bl (decide (i < j))) dLt := ⟨op_lt, rule_cmp⟩
theorem o_le : CO C X .LtE (rI0 fun i j => .bl (decide (i ≤ j))) dLe := ⟨op_le, rule_cmp⟩
theorem o_gt : CO C X .Gt (rI0 fun i j => .bl (decide (j < i))) dGt := ⟨op_gt, rule_cmp⟩
theorem o_ge : CO C X .GtE (rI0 fun i j => .bl (decide (j ≤ i))) dGe := ⟨op_ge, rule_cmp⟩
theorem o_eq (hu : X.A.units + 65 < cLine) (hK : X.K = C.K := by rfl) : CO C X .Eq (rEqD C.K) (dEq false) := ⟨opK (r := rEqD) (op_eqD (by omega)) hK, rule_eq⟩
theorem o_ne (hu : X.A.units + 65 < cLine) (hK : X.K = C.K := by rfl) : CO C X .NotEq (rNeD C.K) (dEq true) := ⟨opK (r := rNeD) (op_neD (by omega)) hK, rule_ne⟩
theorem o_in (hu : X.A.units + 65 < cLine) (hK : X.K = C.K := by rfl) : CO C X .In (rInD C.K) (dIn false) := ⟨opK (r := rInD) (op_inD hu) hK, rule_in⟩
theorem o_nin (hu : X.A.units + 65 < cLine) (hK : X.K = C.K := by rfl) : CO C X .NotIn (rNotInD C.K) (dIn true) := ⟨opK (r := rNotInD) (op_notInD hu) hK, rule_notIn⟩
theorem o_is : CO C X .Is rIs (dIs false) := ⟨op_isX, rule_is⟩
theorem o_isn : CO C X .IsNot rIsNot (dIs true) := ⟨op_isNotX, rule_isNot⟩
variable {op op' : CmpOp} {rr rr' : R2} {f f' : D → D → Option Rv} {c : Expr} {tc : TE} {mc : M Ref}
theorem cmp (o : CO C X op rr f) (ha : SE C X W a ta ma) (hb : SE C X W b tb mb) (hm : behindInMarks op b = false := by rfl) : SE C X W (.Compare a [op] [b] pos) (tOp rr ta tb) (mBin f ma mb) := se_cmp o.o o.r ha hb hm
theorem tcmp (o : CO C X op rr f) (ha : SE C X W a ta ma) (hb : SE C X W b tb mb) (hm : behindInMarks op b = false := by rfl) : ST C X W (.Compare a [op] [b] pos) (tTest (tOp rr ta tb)) (mB (mBin f ma mb)) := st_cmp o.o o.r ha hb hm
theorem chn (o : CO C X op rr f) (o' : CO C X op' rr' f') (ha : SE C X W a ta ma) (hb : SE C X W b tb mb) (hc : SE C X W c tc mc) (hm : lastMarks [op, op'] [b, c] = false := by with_unfolding_all rfl) : SE C X W (.Compare a [op, op'] [b, c] pos) (tChain rr rr' ta tb tc) (mChain f f' ma mb mc) :=
  se_chain o.o o'.o o.r o'.r ha hb hc hm
theorem tchn (o : CO C X op rr f) (o' : CO C X op' rr' f') (ha : SE C X W a ta ma) (hb : SE C X W b tb mb) (hc : SE C X W c tc mc) (hm : lastMarks [op, op'] [b, c] = false := by with_unfolding_all rfl) : ST C X W (.Compare a [op, op'] [b, c] pos) (tTest (tChain rr rr' ta tb tc)) (mB (mChain f f' ma mb mc)) :=
  ⟨pt_chain o.o o'.o ha.pe hb.pe hc.pe hm, snd_test (snd_chain o.r o'.r ha.snd hb.snd hc.snd)⟩
abbrev rAbs1 : List V → Hp → VK → Prop := fun xs H Q => ∃ i, xs = [.int i] ∧ Q (.int (if i < 0 then -i else i)) H
abbrev rMax2 : List V → Hp → VK → Prop := fun xs H Q => ∃ i j, xs = [.int i, .int j] ∧ Q (.int (if j > i then j else i)) H
abbrev rMin2 : List V → Hp → VK → Prop := fun xs H Q => ∃ i j, xs = [.int i, .int j] ∧ Q (.int (if j < i then j else i)) H
abbrev rInt1 : List V → Hp → VK → Prop := fun xs H Q => (∃ i, xs = [.int i] ∧ Q (.int i) H) ∨ ∃ k, xs = [.bl k] ∧ Q (.int (if k then 1 else 0)) H
abbrev rListOf (K : PySem.W.Frag) : List V → Hp → VK → Prop := fun xs H Q => ∃ p ys, xs = [.ref p] ∧ (SqL K H p ys ∨ SqT K H p ys) ∧ ∀ l, H l = none → Q (.ref l) (upd H l (.lst ys))
abbrev rTupOf (K : PySem.W.Frag) : List V → Hp → VK → Prop := fun xs H Q => ∃ p ys, xs = [.ref p] ∧ ((SqL K H p ys ∧ ∀ l, H l = none → Q (.ref l) (upd H l (.tup ys))) ∨ (SqT K H p ys ∧ Q (.ref p) H))
abbrev rStrI : List V → Hp → VK → Prop := fun xs H Q => ∃ i, xs = [.int i] ∧ i.natAbs.log2 < 1920 ∧ Q (.str (toString i)) H
/-- built-in functions -/
structure FB (C : VC) (X : Cx) (fv : Value) (rr : List V → Hp → VK → Prop) (f : List D → Option Rv) : Prop where
  o : CallR X fv rr
  r : RuleC C rr f
theorem f_len (hK : X.K = C.K := by rfl) : FB C X (.builtin "len") (rLenX C.K) fLen := ⟨crK (r := rLenX) cr_lenX hK, rule_len⟩
theorem f_abs : FB C X (.builtin "abs") rAbs1 fAbs := ⟨call_abs, rule_abs⟩
theorem f_max (hc : X.calm = true := by rfl) : FB C X (.builtin "max") rMax2 fMax := ⟨call_max2 hc, rule_max⟩
theorem f_min (hc : X.calm = true := by rfl) : FB C X (.builtin "min") rMin2 fMin := ⟨call_min2 hc, rule_min⟩
theorem f_int : FB C X (.type "int") rInt1 fInt := ⟨call_int1, rule_int⟩
theorem f_list (hK : X.K = C.K := by rfl) : FB C X (.type "list") (rListOf C.K) fList := ⟨crK (r := rListOf) call_list_of hK, rule_list⟩
theorem f_tuple (hK : X.K = C.K := by rfl) : FB C X (.type "tuple") (rTupOf C.K) fTuple := ⟨crK (r := rTupOf) call_tuple_of hK, rule_tuple⟩
theorem f_all (hc : X.calm = true := by rfl) (hK : X.K = C.K := by rfl) : FB C X (.builtin "all") (rAll C.K) fAll := ⟨crK (r := rAll) (cr_all hc) hK, rule_all⟩
theorem f_any (hc : X.calm = true := by rfl) (hK : X.K = C.K := by rfl) : FB C X (.builtin "any") (rAny C.K) fAny := ⟨crK (r := rAny) (cr_any hc) hK, rule_any⟩
theorem f_str : FB C X (.type "str") rStrI fStr := ⟨call_str_int, rule_str⟩
variable {x : Str} {id T' : String} {rc : List V → Hp → VK → Prop} {g : List D → Option Rv}
theorem fnb (o : FB C X (.builtin id) rc g) (hm : X.mg x = none) (ha : SA C X W (e :: es) t m) (hv : bootBuiltins x = some (.builtin id) := by decide +kernel) (hg : Gl X x := by rfl)
    (hn : x ≠ "__name__" := by decide) (hdb : (x == ("__debug__" : Str)) = false := by decide) (he : starEach (e :: es) X.env = (false, eval e X.env) :: starEach es X.env := by rfl) (hpl : (backTo pos (starEach es X.env)).any (·.1) = false := by rfl) :
    SE C X W (.Call (.Name x p) (e :: es) [] pos) (tCB rc t) (mFn g m) := se_fnB o.o o.r hg hm hv ha hn hdb he hpl
theorem fnt (o : FB C X (.type T') rc g) (hm : X.mg x = none) (ha : SA C X W (e :: es) t m) (hv : bootBuiltins x = some (.type T') := by decide +kernel) (hg : Gl X x := by rfl)
    (hn : x ≠ "__name__" := by decide) (hdb : (x == ("__debug__" : Str)) = false := by decide) (he : starEach (e :: es) X.env = (false, eval e X.env) :: starEach es X.env := by rfl) (hpl : (backTo pos (starEach es X.env)).any (·.1) = false := by rfl) :
    SE C X W (.Call (.Name x p) (e :: es) [] pos) (tCB rc t) (mFn g m) := se_fnT o.o o.r hg hm hv ha hn hdb he hpl
/-- a whole number of the top -/
theorem se_gi {n : Int} {u : Value} (hm : X.mg x = some u) (hr : RelV (.int n) u) (hg : Gl X x := by rfl) (hd : (x == ("__debug__" : Str)) = false := by decide) : SE C X W (.Name x pos) (tC (.int n)) (M.ret (rSc (.int n))) := ⟨pe_glob hg hm hr hd, snd_const (.int n)⟩
end
end VS
namespace VS
open PySem PySem.Spec PyProof.Rows L2
theorem s_asg {C : VC} {X : Cx} {W : WX} {P is : List Nat} {e tg : Expr} {te : TE} {me : M Ref} {g : TG} {mg : Tg} {pos : Pos} (h : SE C X W e te me) (hg : PG X tg g) (sg : SndG C P is g mg) (hs : swapsWithSole [tg] e pos.line X.env = pure false := by rfl) (hw : swappedStores [tg] e X.env = pure none := by rfl)
    (h1 : (assignEach [tg] X.env).map (·.2) = [assign tg X.env] := by rfl) : S1 C P X W (.Assign [tg] e pos) (tAsg te g) (mAsg me mg) := ⟨ps_asg h.pe hg hs hw h1, snd_asg h.snd sg⟩
/-! ### the script -/
def mScI (i : Nat) : M (List D) := fun ρ => match ρ.getD i none with
  | some (.sc ns) => .ok (intD ns) ρ
  | _ => .stuck
def mScL (i : Nat) : M Ref := fun ρ => match ρ.getD i none with
  | some (.sc ns) => .ok (.sv (.d (.int ns.length))) ρ
  | _ => .stuck
section
variable {C : VC} {X : Cx} {W : WX} {i : Nat} {x : Str} {p pos : Pos} {tg : Expr}
theorem sc_at {B : Bd} {ρ : En} {σ : L2.St} {G H : Hp} {ns : List Int} (E : EnvR C B ρ σ none G H) (h : ρ.getD i none = some (.sc ns)) : ∃ a, σ[i]? = some (some (.ref a)) ∧ SqL C.K G a (ns.map V.int) := by
  obtain ⟨v, fp, e, _, a, rfl, s⟩ := E.own h
  exact ⟨a, e, s⟩
theorem intD_get {ns : List Int} {j : Nat} {y : D} (h : (intD ns)[j]? = some y) : ∃ k, ns[j]? = some k ∧ y = .int k := by
  unfold intD at h
  rw [List.getElem?_map] at h
  cases q : ns[j]? with
  | none => rw [q] at h; cases h
  | some k => rw [q] at h; exact ⟨k, rfl, (Option.some.inj h).symm⟩
theorem snd_scI : SndI C W (iSeq C.K (tVar i)) (mScI i) := by
  intro B ρ σ G H R E P
  unfold mScI at P
  cases q : ρ.getD i none with
  | none => rw [q] at P; exact P.elim
  | some z =>
    rw [q] at P
    cases z with
    | sc ns =>
      obtain ⟨a, e, s⟩ := sc_at E q
      refine .inl ⟨_, e, a, rfl, ⟨_, E.fr.gh.seq s⟩, P _ G H E (Same.refl _) ⟨fun G1 H1 k => ⟨_, k.2.seq (k.1.seq s), by simp [intD]⟩, fun j y G1 H1 hy k => ?_, fun j y v H2 B ρ σ G1 H1 hy k E q => ?_⟩⟩
      · obtain ⟨n, hn, _⟩ := intD_get hy
        exact ⟨_, .int n, k.2.seq (k.1.seq s), by rw [List.getElem?_map, hn] <;> rfl⟩
      · obtain ⟨n, hn, rfl⟩ := intD_get hy
        obtain ⟨e1, e2⟩ := q
        subst e1
        have e3 := e2 _ (k.2.seq (k.1.seq s))
        rw [List.getElem?_map, hn] at e3
        cases e3
        exact ⟨G1, Same.refl _, E, .int n⟩
    | d z => exact P.elim
    | ol z => exact P.elim
    | od z => exact P.elim
    | dr z => exact P.elim
    | oi c z => exact P.elim
theorem si_sc (h : PE X (.Name x p) (tVar i)) (hK : X.K = C.K := by rfl) : SI C X W tg (.Name x p) (iSeq C.K (tVar i)) (mScI i) := ⟨by rw [← hK]; exact piOr (pi_list h) (pi_tup h), snd_scI⟩
theorem snd_scL : SndE C W (tCB (rLenX C.K) (tCons (tVar i) tNil)) (mScL i) := by
  intro B ρ σ G H Q E P
  unfold mScL at P
  cases q : ρ.getD i none with
  | none => rw [q] at P; exact P.elim
  | some z =>
    rw [q] at P
    cases z with
    | sc ns =>
      obtain ⟨a, e, s⟩ := sc_at E q
      refine ⟨_, e, .inl ⟨a, _, rfl, .inl (E.fr.gh.seq s), ?_⟩⟩
      rw [List.length_map]
      exact P _ G H (E.res (.int _)) (Same.refl _)
    | d z => exact P.elim
    | ol z => exact P.elim
    | od z => exact P.elim
    | dr z => exact P.elim
    | oi c z => exact P.elim
theorem se_scL (h : PE X (.Name x p) (tVar i)) (hm : X.mg "len" = none) (hg : Gl X "len" := by rfl) (hK : X.K = C.K := by rfl) (h1 : starEach [.Name x p] X.env = (false, eval (.Name x p) X.env) :: starEach [] X.env := by rfl) {q : Pos} :
    SE C X W (.Call (.Name "len" q) [.Name x p] [] pos) (tCB (rLenX C.K) (tCons (tVar i) tNil)) (mScL i) := ⟨pe_callB (crK (r := rLenX) cr_lenX hK) hg hm (by decide +kernel) (pa_cons h pa_nil h1) (by decide) (by decide) h1 (by rfl), snd_scL⟩
end
/-! ### what the head looks at besides: the own classes and isinstance -/
def koB (K : PySem.W.Frag) (cs es : List Str) (anc : Str → Str → Bool) : Bool :=
  (cs.all fun c => He.eqO (PySem.W.findIn K (.ref (He.ga K c)) "__class__") (some (some (.builtin "object.__class__"))) && decide (PySem.W.mroIn K (He.ga K c) (.type "object") = some true)) &&
  ((es.all fun c => He.eqO (PySem.W.findIn K (.ref (He.ga K c)) "__getattribute__") (some (some (.builtin "BaseException.__getattribute__"))) && (He.eqO (PySem.W.findIn K (.ref (He.ga K c)) "__getattr__") (some none) &&
    (decide (PySem.W.subIn K (.ref (He.ga K c)) (.type "BaseException") = some true) && (PySem.W.hasDictIn K (He.ga K c) && (He.eqO (PySem.W.findIn K (.ref (He.ga K c)) "__class__") (some (some (.builtin "object.__class__"))) && decide (PySem.W.mroIn K (He.ga K c) (.type "object") = some true)))))) &&
  (He.eqO (PySem.W.specialIn K (.builtin "object.__class__") "__get__") (some (some (.builtin "getset_descriptor.__get__"))) && (decide (PySem.W.takesIn K (.builtin "object.__class__") = some true) &&
  (((cs ++ es).all fun c => (cs ++ es).all fun x => decide (PySem.W.kitOne K (.ref (He.ga K c)) (.ref (He.ga K x)) = some (anc c x))) && (((cs ++ es).all fun c => clNs.all fun T => decide (PySem.W.kitOne K (.ref (He.ga K c)) (.type T) = some false)) &&
  (tyNs.all fun t => (cs ++ es).all fun x => decide (PySem.W.kitOne K (.type t) (.ref (He.ga K x)) = some false)))))))
theorem ko_of {C : VC} {cs es : List Str} {anc : Str → Str → Bool} (h : koB C.K cs es anc = true) (g : ∀ c ∈ cs ++ es, C.mg c = some (.ref (He.ga C.K c))) (hc : ∀ c ∈ cs, Cls C.K (He.ga C.K c)) : KO C cs es anc := by
  obtain ⟨h1, h⟩ := He.ba h
  obtain ⟨h2, h⟩ := He.ba h
  obtain ⟨h3, h⟩ := He.ba h
  obtain ⟨h4, h⟩ := He.ba h
  obtain ⟨h5, h⟩ := He.ba h
  obtain ⟨h6, h7⟩ := He.ba h
  have hn := He.eqO_ok h3
  have ht := of_decide_eq_true h4
  have adr : ∀ c ∈ cs ++ es, ∀ Ca, C.mg c = some (.ref Ca) → Ca = He.ga C.K c := fun c m Ca e => by
    rw [g c m] at e
    cases e
    rfl
  refine ⟨fun c m => ?_, fun c m => ?_, hn, ht, fun c m x mx Ca Xa e1 e2 => ?_, fun c m T mT Ca e1 => ?_, fun t mt x mx Xa e1 => ?_⟩
  · obtain ⟨a1, a2⟩ := He.ba (List.all_eq_true.mp h1 c m)
    exact ⟨_, g c (List.mem_append_left _ m), hc c m, He.eqO_ok a1, of_decide_eq_true a2⟩
  · obtain ⟨a1, a⟩ := He.ba (List.all_eq_true.mp h2 c m)
    obtain ⟨a2, a⟩ := He.ba a
    obtain ⟨a3, a⟩ := He.ba a
    obtain ⟨a4, a⟩ := He.ba a
    obtain ⟨a5, a6⟩ := He.ba a
    exact ⟨_, g c (List.mem_append_right _ m), He.eqO_ok a1, He.eqO_ok a2, of_decide_eq_true a3, a4, He.eqO_ok a5, hn, ht, of_decide_eq_true a6⟩
  · rw [adr c m Ca e1, adr x mx Xa e2]
    exact of_decide_eq_true (List.all_eq_true.mp (List.all_eq_true.mp h5 c m) x mx)
  · rw [adr c m Ca e1]
    exact of_decide_eq_true (List.all_eq_true.mp (List.all_eq_true.mp h6 c m) T mT)
  · rw [adr x mx Xa e1]
    exact of_decide_eq_true (List.all_eq_true.mp (List.all_eq_true.mp h7 t mt) x mx)
end VS

/-! VE: the law's end. -/
namespace VS
open PySem PySem.Spec PyProof.Rows L2 LamX

/-- the law's def is called at the start: a script, the tables of code -/
theorem start_sp {C : VC} {den : Den} {H : Hp} {a : Addr} {ns : List Int} (hT : ∀ p ∈ C.T, H p.1 = some (.tbl #[])) (hS : SqL C.K H a (ns.map V.int)) (hden : ∃ outs, den [.sc ns] = .ok (.d (.bl true)) outs) :
    spD C 1 den [.ref a] H (fun v _ => v = .bl true) fun _ _ _ => False := by
  obtain ⟨outs, hd⟩ := hden
  let G0 : Hp := fun b => if b = a then (match H a with | some (.tbl _) => none | o => o) else none
  have gH : ∀ b o, G0 b = some o → H b = some o ∧ ∀ ps, o ≠ .tbl ps := fun b o e => by
    have e : (if b = a then (match H a with | some (.tbl _) => none | o => o) else none) = some o := e
    by_cases hb : b = a
    · rw [if_pos hb] at e
      subst hb
      cases q : H b with
      | none => rw [q] at e; cases e
      | some u =>
        rw [q] at e
        cases u with
        | tbl ps => cases e
        | _ => cases e; exact ⟨rfl, fun ps z => nomatch z⟩
    · rw [if_neg hb] at e
      cases e
  have sq : SqL C.K G0 a (ns.map V.int) := by
    have same : ∀ o, H a = some o → (∀ ps, o ≠ .tbl ps) → G0 a = some o := fun o e n => by
      show (if a = a then (match H a with | some (.tbl _) => none | o => o) else none) = some o
      rw [if_pos rfl, e]
      cases o with
      | tbl ps => exact absurd rfl (n ps)
      | _ => rfl
    rcases hS with (h | ⟨o, h⟩) | h
    · exact .inl (.inl (same _ h fun ps z => nomatch z))
    · exact .inl (.inr ⟨o, same _ h fun ps z => nomatch z⟩)
    · exact .inr h
  refine ⟨rfl, ⟨H, G0, fun _ => False, fun _ => .ref a⟩, [.sc ns], rfl, fun j hj => ?_, ⟨⟨⟨fun _ => [], fun i => ?_, fun i j p _ hp => absurd (show p ∈ ([] : List Addr) from hp) (by simp), fun i p hp => absurd (show p ∈ ([] : List Addr) from hp) (by simp)⟩, fun b o e => (gH b o e).1, Same.refl _, fun b h => .inl h, fun b o e _ _ => e, fun b ps e => (gH b _ e).2 ps rfl, fun p hp => TabS.nil (hT p hp)⟩, rfl⟩, ?_⟩
  · have : j = 0 := by omega
    subst this
    rfl
  · cases i with
    | none => rfl
    | some i =>
      cases i with
      | zero => exact ⟨.ref a, rfl, rfl, a, rfl, sq⟩
      | succ i => rfl
  · rw [hd]
    intro v G' H' E'
    have z := E'.resOf
    cases z
    rfl
theorem law_end {l : PySem.W.OpenLaw} {w : World} {K : PySem.W.Frag} {mg : Str → Option Value} {k n : Nat} {x : Str} {fa : Addr} {h : Heap} {tf : List He.Defn} {fd : FuncData} {den : Den} {T : List (Addr × Str)}
    (h1 : ∀ p ∈ tf, h.get? (He.cT K p).2 = some { cls := .none, data := .fields #[] }) (h2 : ∀ p ∈ tf, K.lookup (He.cT K p).2 = none) (h3 : ∀ p ∈ tf, PySem.W.CodeHd h (He.cT K p).1 (He.cT K p).2)
    (hT : T = tf.map fun p => ((He.cT K p).2, p.1 ++ ".<locals>." ++ "<lambda>")) (hb : ∀ (s : Shared) (u : Value), BindsTo s fd ⟨[u], []⟩ [(x, u)])
    (hF : ∀ base : Heap, K.In base → base.Ns mainGlobals mg → (∀ p ∈ tf, TabB base mg (He.cT K p).1 (He.cT K p).2) → FnOk l.prog w K mg base (L2.CX l.prog w) k fa fd [x] (spD ⟨K, mg, T, l.prog, w⟩ 1 den))
    (hden : ∀ ns : List Int, ns.length ≤ n → ∃ outs, den [.sc ns] = .ok (.d (.bl true)) outs) : LawAtS l w K (L2.CX l.prog w) k n x mg fa h := by
  have mem : ∀ {q : Addr × Addr → Prop}, (∀ p ∈ tf, q (He.cT K p)) → ∀ p ∈ tf.map (He.cT K), q p := fun {q} z p hp => by
    obtain ⟨d, hd, e⟩ := List.mem_map.mp hp
    rw [← e]
    exact z d hd
  refine ⟨fd, tf.map (He.cT K), spD ⟨K, mg, T, l.prog, w⟩ 1 den, mem h1, mem h2, mem h3, hb, fun H a ns hl _ ht hS => start_sp (fun p hp => ?_) hS (hden ns hl), fun base b1 b2 b3 => hF base b1 b2 fun p hp => b3 _ (List.mem_map.mpr ⟨p, hp, rfl⟩)⟩
  have hp : p ∈ T := hp
  rw [hT] at hp
  obtain ⟨d, hd, e⟩ := List.mem_map.mp hp
  rw [← e]
  exact ht _ (List.mem_map.mpr ⟨d, hd, rfl⟩)
theorem cx_false {P : Program} (w : World) (H : Hp) (s : Shared) (e : Value) (s' : Shared) (h : L2.CX P w [] H s (fun _ _ _ => False) e s') : False := by
  obtain ⟨_, _, _, _, _, _, _, _, _, _, _, _, z⟩ := h
  exact z
end VS

/-! VX: any, all of a generator expression whose block may call defs. -/
namespace GX
open PySem PySem.Spec PyProof.Rows L2 LamX

/-- where a generator expression's block runs: a frame of its own over the maker's; pn: the generator's object -/
abbrev gx (X : Cx) (A' : Around) (s : Shared) (H : Hp) (ce : Env) (fp : List Addr) (pn : List (Addr × Obj)) : Cx :=
  { X with A := A', s_0 := s, H_0 := H, env := ce, outer := X.stack, stack := ce :: X.stack, ex := fp, fn := fun _ => false, pn := pn, xe := fun _ _ => False }
/-- its names: the walked thing, its own ones (with their places), captured ones -/
structure GNs (N : List Str) (sc scope : Scope) (own : List (Str × Nat)) : Prop where
  kind : scope.kind = .function
  co : scope.isCoroutine = false
  cell : ∀ y ∈ scope.names, y.2 ≠ .cell
  dot : scope.names.lookup (".0" : Str) = some NameKind.local
  ix : ∀ p ∈ own, N[p.2]? = some p.1
  free : ∀ y ∈ scope.names, y.2 = .free → sc.names.lookup y.1 = some .cell ∨ sc.names.lookup y.1 = some .free
  mine : ∀ y ∈ scope.names, y.2 = .local → y.1 ∈ own.map (·.1) ∨ y.1 ∉ N
def gnsB (N : List Str) (sc scope : Scope) (own : List (Str × Nat)) : Bool :=
  decide (scope.kind = .function) && !scope.isCoroutine && decide (scope.names.lookup (".0" : Str) = some NameKind.local) && (own.all fun p => decide (N[p.2]? = some p.1)) &&
    scope.names.all fun y => !decide (y.2 = .cell) && (!decide (y.2 = .free) || decide (sc.names.lookup y.1 = some .cell) || decide (sc.names.lookup y.1 = some .free)) && (!decide (y.2 = .local) || decide (y.1 ∈ own.map (·.1)) || !decide (y.1 ∈ N))
theorem gns_by {N : List Str} {sc scope : Scope} {own : List (Str × Nat)} (h : gnsB N sc scope own = true) : GNs N sc scope own := by
  unfold gnsB at h
  simp only [Bool.and_eq_true, Bool.or_eq_true, Bool.not_eq_true', decide_eq_true_eq, decide_eq_false_iff_not, List.all_eq_true] at h
  obtain ⟨⟨⟨⟨h1, h2⟩, h3⟩, h4⟩, h5⟩ := h
  refine ⟨h1, h2, fun y hy => (h5 y hy).1.1, h3, h4, fun y hy e => ?_, fun y hy e => ?_⟩
  · rcases (h5 y hy).1.2 with (z | z) | z
    · exact absurd e z
    · exact .inl z
    · exact .inr z
  · rcases (h5 y hy).2 with (z | z) | z
    · exact absurd e z
    · exact .inl z
    · exact .inr z
section
variable {X : Cx} {pins : List (Addr × Obj)} {σ : L2.St} {H : Hp} {s : Shared} {scope : Scope} {own : List (Str × Nat)} {fp : List Addr}
theorem GNs.has (ok : GNs X.N X.env.scope scope own) (o : X.Ok) : ∀ y ∈ scope.names, y.2 = .free → ∃ c, X.env.cells.lookup y.1 = some c := fun y hy e => by
  rcases ok.free y hy e with k | k
  · exact o.has _ (.inl k)
  · exact o.has _ (.inr k)
/-- frames that stand are older than what is new -/
theorem old_frame (I : Inv X pins σ H s) {b : Addr} (hb : b ∈ frs X.stack) : b < s.heap.objs.size := by
  rcases List.mem_cons.mp (I.stkSub b hb) with z | z
  · rw [z]
    exact I.lt
  · rcases Nat.lt_or_ge b s.heap.objs.size with h | h
    · exact h
    · exact absurd z (I.nofs h)
theorem gx_start {A' : Around} {code : Value} {s2 : Shared} {m : Str → Option Value} {pn : List (Addr × Obj)} (I : Inv X pins σ H s) (ok : GNs X.N X.env.scope scope own) (hN : X.N.Nodup)
    (hfp : ∀ b ∈ fp, FpOk X pins H b ∧ b < s.heap.objs.size) (hA : A'.frames = some (genEnv scope (cloFrom X.env.cells scope.names []) s.heap.objs.size code builtinsNs X.env :: X.stack)) (hh : A'.handled = none)
    (hos : s2.os = s.os) (bare : AllBare s2.gens) (kp : ∀ b o, s.heap.get? b = some o → s2.heap.get? b = some o) (hns : s2.heap.Ns s.heap.objs.size m)
    (hpn : ∀ p ∈ pn, s2.heap.get? p.1 = some p.2 ∧ s.heap.objs.size < p.1 ∧ ∀ v, p.2.data ≠ .cell v) :
    Inv (gx X A' s H (genEnv scope (cloFrom X.env.cells scope.names []) s.heap.objs.size code builtinsNs X.env) fp pn) [] (wipe σ (own.map (·.2))) H s2 := by
  have look : ∀ {y : Str} {c : Addr}, (cloFrom X.env.cells scope.names []).lookup y = some c → X.env.cells.lookup y = some c ∧ c < s.heap.objs.size ∧ (y, NameKind.free) ∈ scope.names := fun {y c} e => by
    rcases cloFrom_mem (PySem.mem_of_lookup e) with z | ⟨h1, h2⟩
    · cases z
    · obtain ⟨d, hd⟩ := ok.has I.ok _ h1 rfl
      have hd : X.env.cells.lookup y = some d := hd
      rw [hd] at h2
      have h2 : c = d := h2
      subst h2
      obtain ⟨w, z⟩ := I.cell _ _ hd
      exact ⟨hd, z.lt, h1⟩
  have there : ∀ {y : Str}, (y, NameKind.free) ∈ scope.names → ∃ c, (cloFrom X.env.cells scope.names []).lookup y = some c := fun {y} h => mem_lookup (cloFrom_has (cells := X.env.cells) (acc := []) h)
  have okG : (gx X A' s H (genEnv scope (cloFrom X.env.cells scope.names []) s.heap.objs.size code builtinsNs X.env) fp pn).Ok := by
    refine ⟨I.ok.mod, ok.kind, I.ok.glob, rfl, Nat.le_refl _, fun y z c h1 h2 => I.ok.inj y z c (look h1).1 (look h2).1, fun y hy => ?_, fun y c z _ => (by cases z), fun _ => hh, hA, .inr ⟨rfl, rfl⟩, fun b hb => ⟨Nat.ne_of_lt (hfp b hb).2, fun y c e z => ?_⟩, I.bs, Nat.le_trans I.ok.bsz I.sz, fun b o e hb => ?_, fun b hb z => ?_, I.stack, I.stkFree⟩
    · have hy : scope.names.lookup y = some .cell ∨ scope.names.lookup y = some .free := hy
      rcases hy with hy | hy
      · exact absurd rfl (ok.cell _ (PySem.mem_of_lookup hy))
      · exact there (PySem.mem_of_lookup hy)
    · exact (hfp b hb).1.2.2.2.2.1 y c (look e).1 z
    · rcases (hfp b hb).1.2.2.2.1 with z | z
      · exact I.ok.noex b o e z
      · exact absurd (Nat.lt_of_lt_of_le (Heap.lt_size e) (Nat.le_trans I.ok.bsz z)) (Nat.lt_irrefl _)
    · rcases List.mem_cons.mp (I.stkSub b z) with z | z
      · exact (hfp b hb).1.2.1 z
      · exact (hfp b hb).1.2.2.1 z
  refine ⟨okG, hos, bare, Un.kept kp, ⟨m, hns, fun i y v e1 e2 e3 => ?_⟩, fun y c e => ?_, I.hok.fresh (Nat.le_refl _), fun y c e => I.freeC y c (look e).1, fun p hp => ?_, I.hok.kept kp, by rw [wipe_length]; exact I.len⟩
  · obtain ⟨e2, hne⟩ := wipe_some e2
    have e3 : Vis scope y := e3
    have hfr : scope.names.lookup y = some .free := by
      rcases e3 with e3 | e3 | e3
      · rcases ok.mine _ (PySem.mem_of_lookup e3) rfl with z | z
        · obtain ⟨p, hp, hpy⟩ := List.mem_map.mp z
          have q := ok.ix p hp
          have hpy : p.1 = y := hpy
          rw [hpy] at q
          exact absurd (List.mem_map.mpr ⟨p, hp, nodup_ix hN q e1⟩) hne
        · exact absurd (List.mem_of_getElem? e1) z
      · exact absurd rfl (ok.cell _ (PySem.mem_of_lookup e3))
      · exact e3
    obtain ⟨mm, hn, hl⟩ := I.loc
    have hvis : Vis X.env.scope y := (ok.free _ (PySem.mem_of_lookup hfr) rfl).elim (fun k => .inr (.inl k)) (fun k => .inr (.inr k))
    obtain ⟨u, r, q⟩ := hl i y v e1 e2 hvis
    obtain ⟨c, hc⟩ := there (PySem.mem_of_lookup hfr)
    refine ⟨u, r, .inr ⟨.inr hfr, c, hc, ?_⟩⟩
    rcases q with ⟨k, _⟩ | ⟨_, c', e', z⟩
    · have k : X.env.scope.names.lookup y = some .local := k
      rcases ok.free _ (PySem.mem_of_lookup hfr) rfl with k' | k' <;> rw [show X.env.scope.names.lookup y = _ from k'] at k <;> cases k
    · rw [(look hc).1] at e'
      cases e'
      exact z.keeps kp
  · obtain ⟨w, z⟩ := I.cell y c (look e).1
    exact ⟨w, z.keeps kp⟩
  · have hp : p ∈ pn := by simpa using hp
    obtain ⟨h1, h2, h3⟩ := hpn p hp
    refine ⟨h1, I.hok.fresh (Nat.le_of_lt h2), Nat.ne_of_gt h2, fun z => ?_, h3⟩
    exact absurd (Nat.lt_trans (old_frame I z) h2) (Nat.lt_irrefl _)
end

/-! ### the walked generator -/
/-- what is handed out is a truth value; where it is w the walk ends -/
def YB (w : Bool) (a : Addr) (g : Nat) (Pt : Shared → Prop) : Protocol := fun _ _ v s kap =>
  ∃ b, v = .bool b ∧ s.heap.IsGen a g ∧ s.heap.NoLimit ∧ AllBare s.gens ∧ (b = w → Pt s) ∧ (b ≠ w → ∀ G, AllBare G → kap (.send .none) { s with gens := G })
abbrev RB (Pe : Shared → Prop) : GenEnd := fun _ _ r s₁ => r = .ok .next ∧ Pe s₁
section
variable {P : Program} {w : World} {A : Around} {R : Result → Shared → Prop} {a : Addr} {g : Nat} {Pe Pt : Shared → Prop}
theorem drain_any (hh : A.handled = none) (hd : A.depth < recursionLimit)
    (hend : ∀ s1, Pe s1 → ∀ h', (∀ b o, s1.heap.get? b = some o → h'.get? b = some o) → R (.ok (.ret (.bool false))) { s1.setGen g .finished with heap := h' })
    (hstop : ∀ s1 gs', gs'.bare = true → AllBare s1.gens → Pt s1 → R (.ok (.ret (.bool true))) (s1.setGen g gs')) :
    ∀ (m : Nat) (s : Shared), s.heap.IsGen a g → s.heap.NoLimit → (∃ gs, s.gens[g]? = some gs ∧ gs.Goes (model P w) A.in1.in1 (RB Pe) (YB true a g Pt) m (.send .none) (s.setGen g .running)) →
      codeAny (model P w) A (.builtin "any.loop" ⟨[.ref a], []⟩) R s := by
  intro m
  induction m with
  | zero =>
    intro s hg hl ⟨gs, hgs, hgo⟩
    refine codeAny_builtin F.entry_any_loop ?_
    rw [Around.under_plainId F.plain_any_loop _]
    show wpAny _ A.in1 (pyNext (.ref a) >>= _) _ _ s
    refine wpAny_bind (wpAny_pyNext_genexpQ (A := A.in1) (P := fun _ _ s₁ => Pe s₁) hh hl hd hg hgs hgo (fun v s₁ gs' hb hv => ?_) (fun s₁ hp h' hk => ?_))
    · obtain ⟨b, rfl, hg1, hl1, hb1, ht, hn⟩ := hv
      cases b with
      | true =>
        refine wpAny_bind (wpAny_holding (wpAny_truthy_bool ?_))
        refine wpAny_bind (wpAny_letGo ?_)
        simp only [if_true]
        exact wpAny_bind (wpAny_rule (wpAny_pure (hstop s₁ gs' hb hb1 (ht rfl))))
      | false => exact (hn (by decide) s₁.gens hb1).elim
    · exact wpAny_bind (wpAny_rule (wpAny_pure (hend s₁ hp h' hk)))
  | succ m ih =>
    intro s hg hl ⟨gs, hgs, hgo⟩
    have hgl : g < s.gens.size := (Array.getElem?_eq_some_iff.mp hgs).1
    refine codeAny_builtin F.entry_any_loop ?_
    rw [Around.under_plainId F.plain_any_loop _]
    show wpAny _ A.in1 (pyNext (.ref a) >>= _) _ _ s
    refine wpAny_bind (GenW.wpAny_gsz (n := g + 1) hgl (wpAny_pyNext_genexpQ (A := A.in1) (P := fun _ _ s₁ => Pe s₁) hh hl hd hg hgs hgo (fun v s₁ gs' hb hv => ?_) (fun s₁ hp h' hk => ?_)))
    · intro hsz
      obtain ⟨b, rfl, hg1, hl1, hb1, ht, hn⟩ := hv
      cases b with
      | true =>
        refine wpAny_bind (wpAny_holding (wpAny_truthy_bool ?_))
        refine wpAny_bind (wpAny_letGo ?_)
        simp only [if_true]
        exact wpAny_bind (wpAny_rule (wpAny_pure (hstop s₁ gs' hb hb1 (ht rfl))))
      | false =>
        refine wpAny_bind (wpAny_holding (wpAny_truthy_bool ?_))
        refine wpAny_bind (wpAny_letGo ?_)
        simp only [Bool.false_eq_true, if_false]
        have hsz1 : g < s₁.gens.size := by
          have q : (s₁.setGen g gs').gens.size = s₁.gens.size := GenW.setGen_size _ _ _
          have hsz' : g + 1 ≤ (s₁.setGen g gs').gens.size := hsz
          omega
        refine wpAny_pure ⟨plainId_quiet F.plain_any_loop _, ih (s₁.setGen g gs') hg1 hl1 ⟨gs', setGen_at hsz1, ?_⟩⟩
        exact hn (by decide) _ (allBare_setGen (s := s₁.setGen g gs') (allBare_setGen hb1 hb) rfl)
    · intro hsz
      exact wpAny_bind (wpAny_rule (wpAny_pure (hend s₁ hp h' hk)))
theorem drain_all (hh : A.handled = none) (hd : A.depth < recursionLimit)
    (hend : ∀ s1, Pe s1 → ∀ h', (∀ b o, s1.heap.get? b = some o → h'.get? b = some o) → R (.ok (.ret (.bool true))) { s1.setGen g .finished with heap := h' })
    (hstop : ∀ s1 gs', gs'.bare = true → AllBare s1.gens → Pt s1 → R (.ok (.ret (.bool false))) (s1.setGen g gs')) :
    ∀ (m : Nat) (s : Shared), s.heap.IsGen a g → s.heap.NoLimit → (∃ gs, s.gens[g]? = some gs ∧ gs.Goes (model P w) A.in1.in1 (RB Pe) (YB false a g Pt) m (.send .none) (s.setGen g .running)) →
      codeAny (model P w) A (.builtin "all.loop" ⟨[.ref a], []⟩) R s := by
  intro m
  induction m with
  | zero =>
    intro s hg hl ⟨gs, hgs, hgo⟩
    refine codeAny_builtin F.entry_all_loop ?_
    rw [Around.under_plainId F.plain_all_loop _]
    show wpAny _ A.in1 (pyNext (.ref a) >>= _) _ _ s
    refine wpAny_bind (wpAny_pyNext_genexpQ (A := A.in1) (P := fun _ _ s₁ => Pe s₁) hh hl hd hg hgs hgo (fun v s₁ gs' hb hv => ?_) (fun s₁ hp h' hk => ?_))
    · obtain ⟨b, rfl, hg1, hl1, hb1, ht, hn⟩ := hv
      cases b with
      | false =>
        refine wpAny_bind (wpAny_holding (wpAny_truthy_bool ?_))
        refine wpAny_bind (wpAny_letGo ?_)
        simp only [Bool.false_eq_true, if_false]
        exact wpAny_bind (wpAny_rule (wpAny_pure (hstop s₁ gs' hb hb1 (ht rfl))))
      | true => exact (hn (by decide) s₁.gens hb1).elim
    · exact wpAny_bind (wpAny_rule (wpAny_pure (hend s₁ hp h' hk)))
  | succ m ih =>
    intro s hg hl ⟨gs, hgs, hgo⟩
    have hgl : g < s.gens.size := (Array.getElem?_eq_some_iff.mp hgs).1
    refine codeAny_builtin F.entry_all_loop ?_
    rw [Around.under_plainId F.plain_all_loop _]
    show wpAny _ A.in1 (pyNext (.ref a) >>= _) _ _ s
    refine wpAny_bind (GenW.wpAny_gsz (n := g + 1) hgl (wpAny_pyNext_genexpQ (A := A.in1) (P := fun _ _ s₁ => Pe s₁) hh hl hd hg hgs hgo (fun v s₁ gs' hb hv => ?_) (fun s₁ hp h' hk => ?_)))
    · intro hsz
      obtain ⟨b, rfl, hg1, hl1, hb1, ht, hn⟩ := hv
      cases b with
      | false =>
        refine wpAny_bind (wpAny_holding (wpAny_truthy_bool ?_))
        refine wpAny_bind (wpAny_letGo ?_)
        simp only [Bool.false_eq_true, if_false]
        exact wpAny_bind (wpAny_rule (wpAny_pure (hstop s₁ gs' hb hb1 (ht rfl))))
      | true =>
        refine wpAny_bind (wpAny_holding (wpAny_truthy_bool ?_))
        refine wpAny_bind (wpAny_letGo ?_)
        simp only [if_true]
        have hsz1 : g < s₁.gens.size := by
          have q : (s₁.setGen g gs').gens.size = s₁.gens.size := GenW.setGen_size _ _ _
          have hsz' : g + 1 ≤ (s₁.setGen g gs').gens.size := hsz
          omega
        refine wpAny_pure ⟨plainId_quiet F.plain_all_loop _, ih (s₁.setGen g gs') hg1 hl1 ⟨gs', setGen_at hsz1, ?_⟩⟩
        exact hn (by decide) _ (allBare_setGen (s := s₁.setGen g gs') (allBare_setGen hb1 hb) rfl)
    · intro hsz
      exact wpAny_bind (wpAny_rule (wpAny_pure (hend s₁ hp h' hk)))
end

/-! ### the block, turn by turn -/
/-- any (w = true), all (w = false) of test for target in iter if ..: behind the maker's table may have grown -/
def tAA (w : Bool) (T : List (Addr × Str)) (wi : TI) (gt : TG) (tt : TT) (te : TE) (vs : List Nat) : TE := fun σ H Q => wi σ H fun J H1 => Tabs T H1 ∧ ∀ H2, ExtN H1 H2 → Tabs T H2 → ∃ W : Nat → Nat → Hp → Prop, (∃ m, W 0 m H2) ∧ ∀ i m H, W i m H →
  (J.stop i H ∧ Q (.bl (!w)) H) ∨ (J.go i H ∧ ∃ Nx : Hp → Prop, (∀ H', Nx H' → ∃ m', m' < m ∧ W (i + 1) m' H') ∧ ∀ x H', J.yld i H x H' → gt x (wipe σ vs) H' fun σ2 H2 => wipe σ2 vs = wipe σ vs ∧ tt σ2 H2 fun b H3 =>
    if b = true then te σ2 H3 fun y H4 => ∃ c : Bool, y = .bl c ∧ (if c = w then Q (.bl w) H4 else Nx H4) else Nx H3)
theorem over_gen {A : Around} {elt : Expr} {gens : List Comprehension} {scope : Scope} {pos : Pos} {it acc : Value} {env : Env} : A.over (.compLoop (.GeneratorExp elt gens scope pos) 0 it acc env) [] = A.deeper env := by
  first
    | rfl
    | (obtain ⟨hd, d, fr, gs, u⟩ := A; simp [Around.over, Around.deeper, marksOver, frameCount, unitsOf, envsOf, guardsOf, pushEnvs, pushGuards, Code.envs, Code.env?, Code.isFrame, Code.guards, Code.isGuard, Code.weight, Code.frames, Code.isCreation, Code.isCaller, Code.cUnits])
theorem over_gen0 {A : Around} {elt : Expr} {gens : List Comprehension} {scope : Scope} {pos : Pos} {it acc : Value} {env : Env} : A.over (.compStart (.GeneratorExp elt gens scope pos) 0 it acc env) [] = A.deeper env := by
  first
    | rfl
    | (obtain ⟨hd, d, fr, gs, u⟩ := A; simp [Around.over, Around.deeper, marksOver, frameCount, unitsOf, envsOf, guardsOf, pushEnvs, pushGuards, Code.envs, Code.env?, Code.isFrame, Code.guards, Code.isGuard, Code.weight, Code.frames, Code.isCreation, Code.isCaller, Code.cUnits])
section
variable {X : Cx} {pins : List (Addr × Obj)} {σ : L2.St} {H : Hp} {s : Shared} {fp : List Addr} {ce : Env} {A0 : Around} {go : Obj} {a : Addr} {g : Nat}
theorem seg_block {w : Bool} {elt tg iter : Expr} {ifs : List Expr} {scope : Scope} {pos : Pos} {it : Addr} {J : It} {tn : Nat → Heap → Prop} {gt : TG} {tt : TT} {te : TE} {vs : List Nat} {W : Nat → Nat → Hp → Prop} {Q : VK}
    (hc : X.calm = true) (T : Turn X.prog X.w X.K tg J fp it tn) (hco : ce.scope.isCoroutine = false)
    (pg : PG (gx X (A0.deeper ce) s H ce fp [(a, go)]) tg gt) (pt : PTs (gx X (A0.deeper ce) s H ce fp [(a, go)]) ifs tt) (pe : PE (gx X (A0.deeper ce) s H ce fp [(a, go)]) elt te)
    (hfp : ∀ b ∈ fp, b ≠ ce.locals ∧ b ∉ frs X.stack ∧ (∀ x c, ce.cells.lookup x = some c → c ≠ b) ∧ b ≠ a) (hgen : ∀ h : Heap, h.get? a = some go → h.IsGen a g)
    (back : ∀ σ' H' s', Inv (gx X (A0.deeper ce) s H ce fp [(a, go)]) [] σ' H' s' → Inv X pins σ H' s')
    (turn : ∀ i m H, W i m H → (J.stop i H ∧ Q (.bl (!w)) H) ∨ (J.go i H ∧ ∃ Nx : Hp → Prop, (∀ H', Nx H' → ∃ m', m' < m ∧ W (i + 1) m' H') ∧ ∀ x H', J.yld i H x H' → gt x (wipe σ vs) H' fun σ2 H2 => wipe σ2 vs = wipe σ vs ∧ tt σ2 H2 fun b H3 =>
      if b = true then te σ2 H3 fun y H4 => ∃ c : Bool, y = .bl c ∧ (if c = w then Q (.bl w) H4 else Nx H4) else Nx H3)) :
    ∀ (m n i : Nat) (H5 : Hp) (s5 s₀ : Shared), m < n → W i m H5 → Inv (gx X (A0.deeper ce) s H ce fp [(a, go)]) [] (wipe σ vs) H5 s5 → tn i s5.heap → (∀ b ∈ fp, H5 b = none) →
      Seg (model X.prog X.w) A0 (RB fun s' => ∃ H', Inv X pins σ H' s' ∧ Q (.bl (!w)) H') (YB w a g fun s' => ∃ H', Inv X pins σ H' s' ∧ Q (.bl w) H') n s₀
        (.compLoop (.GeneratorExp elt [⟨tg, iter, ifs, 0⟩] scope pos) 0 (.ref it) .none ce) ((model X.prog X.w).den (.compLoop (.GeneratorExp elt [⟨tg, iter, ifs, 0⟩] scope pos) 0 (.ref it) .none ce)) [] s5 := by
  intro m
  induction m using Nat.strongRecOn with
  | ind m ih =>
    intro n i H5 s5 s₀ hmn w5 I5 st5 n5
    have stat : ∀ {σ' : L2.St} {H' : Hp} {s' : Shared}, Inv (gx X (A0.deeper ce) s H ce fp [(a, go)]) [] σ' H' s' → (∀ b ∈ fp, H' b = none) → ∀ b ∈ fp, FpOk (gx X (A0.deeper ce) s H ce fp [(a, go)]) [] H' b := fun {σ' H' s'} I' hn b hb =>
      ⟨hn b hb, (hfp b hb).1, (hfp b hb).2.1, .inl hb, (hfp b hb).2.2.1, fun p hp => by
        have hp : p = (a, go) := by simpa using hp
        rw [hp]
        exact Ne.symm (hfp b hb).2.2.2⟩
    show Seg _ A0 _ _ n s₀ _ ((compTurn (.GeneratorExp elt [⟨tg, iter, ifs, 0⟩] scope pos) 0 (.ref it) .none ce).onRaise (leaving ce)) [] s5
    rw [compTurn_gen, Sem.onRaise_eq_wrap]
    refine seg_bind_wrap (wpAny_standAt ?_)
    rcases turn i m H5 w5 with ⟨stop, qq⟩ | ⟨gone, Nx, hNx, step⟩
    · refine seg_bind_wrap ?_
      rw [over_gen]
      refine wpAny_mono (T.done (gx X (A0.deeper ce) s H ce fp [(a, go)]) rfl rfl rfl hc i [] s5 _ H5 (fun _ _ => False) I5 (stat I5 n5) st5 stop) (fun r s6 h6 => ?_) fun _ _ z => z.elim
      obtain ⟨rfl, I6⟩ := h6
      exact seg_end (.ok .next) ⟨rfl, H5, back _ _ _ I6, qq⟩
    · refine seg_bind_wrap ?_
      rw [over_gen]
      refine wpAny_mono (T.item (gx X (A0.deeper ce) s H ce fp [(a, go)]) rfl rfl rfl hc i [] s5 _ H5 (fun _ _ => False) I5 (stat I5 n5) st5 gone) (fun r s6 h6 => ?_) fun _ _ z => z.elim
      obtain ⟨u, rfl, h6⟩ := h6
      refine seg_bind_wrap ?_
      rw [over_gen]
      refine wpAny_mono h6 (fun _ s7 h7 => ?_) fun _ _ z => z.elim
      obtain ⟨x, H7, I7, r7, y7, st7, n7⟩ := h7
      have I7' := I7.pinned (stat I7 n7) (T.obj _ _ st7)
      refine seg_bind_wrap ?_
      rw [over_gen]
      refine wpAny_mono (pg.run _ s7 _ H7 x u _ I7' r7 (step x H7 y7)) (fun _ s8 h8 => ?_) fun _ _ z => z.elim
      obtain ⟨σ8, H8, I8, hw8, q8⟩ := h8
      refine seg_bind_wrap ?_
      rw [over_gen]
      refine wpAny_mono (pt.run _ s8 σ8 H8 _ I8 q8) (fun b s9 h9 => ?_) fun _ _ z => z.elim
      obtain ⟨H9, I9, q9⟩ := h9
      -- the next turn, from where this one ends
      have next : ∀ {n' : Nat} {s' s₁ : Shared} {H' : Hp}, m ≤ n' → Inv (gx X (A0.deeper ce) s H ce fp [(a, go)]) ([] ++ pinsAt fp s7.heap) σ8 H' s' → Nx H' →
          Seg (model X.prog X.w) A0 (RB fun s' => ∃ H', Inv X pins σ H' s' ∧ Q (.bl (!w)) H') (YB w a g fun s' => ∃ H', Inv X pins σ H' s' ∧ Q (.bl w) H') n' s₁
            (.compLoop (.GeneratorExp elt [⟨tg, iter, ifs, 0⟩] scope pos) 0 (.ref it) .none ce) ((model X.prog X.w).den (.compLoop (.GeneratorExp elt [⟨tg, iter, ifs, 0⟩] scope pos) 0 (.ref it) .none ce)) [] s' := fun {n' s' s₁ H'} hn' I' nx => by
        obtain ⟨m', hm, w'⟩ := hNx H' nx
        have kept : ∀ b ∈ fp, ∀ o, s7.heap.get? b = some o → s'.heap.get? b = some o ∧ H' b = none := fun b hb o e =>
          let z := I'.pin (b, o) (List.mem_append_right _ (List.mem_append_right _ (mem_pinsAt hb e)))
          ⟨z.1, z.2.1⟩
        refine ih m' hm n' (i + 1) H' s' s₁ (by omega) w' ((I'.unpinned (pins := [])).weak (by rw [← hw8, wipe_length]) fun j v e => ?_) (T.keep _ _ _ st7 fun b hb o e => (kept b hb o e).1) fun b hb => ?_
        · rw [← hw8] at e
          exact (wipe_some e).1
        · obtain ⟨o, e, _⟩ := T.obj _ _ st7 b hb
          exact (kept b hb o e).2
      cases b with
      | false =>
        simp only [Bool.false_eq_true, if_false] at q9 ⊢
        exact seg_again rfl (next (by omega) I9 q9)
      | true =>
        simp only [if_true] at q9 ⊢
        have hy : ∀ v, yieldOut ce v = yieldValue v := fun v => by simp only [yieldOut, hco, Bool.false_eq_true, if_false]
        simp only [hy]
        rw [Sem.bind_eq_wrap', Sem.bind_eq_wrap', Sem.wrap_wrap, Sem.wrap_wrap]
        refine seg_wrap ?_
        rw [over_gen]
        refine wpAny_mono (pe.run _ s9 σ8 H9 _ I9 q9) (fun z s10 h10 => ?_) fun _ _ z => z.elim
        obtain ⟨y, H10, I10, r10, c, ey, q10⟩ := h10
        subst ey
        cases (show z = Value.bool c from r10)
        obtain ⟨n', rfl⟩ : ∃ n', n = n' + 1 := ⟨n - 1, by omega⟩
        have hg10 : s10.heap.IsGen a g := hgen _ (I10.pin (a, go) (List.mem_append_left _ (List.mem_singleton.mpr rfl))).1
        refine seg_at (seg_yield rfl rfl rfl ⟨c, rfl, hg10, I10.nolimit, I10.bare, fun e => ?_, fun e G hG => ?_⟩)
        · rw [if_pos e] at q10
          exact ⟨H10, back _ _ _ I10.unpinned, q10⟩
        · rw [if_neg e] at q10
          have I11 : Inv (gx X (A0.deeper ce) s H ce fp [(a, go)]) ([] ++ pinsAt fp s7.heap) σ8 H10 { s10 with gens := G } := I10.call' (ch := []) rfl (Un.kept fun b o e => e) I10.hok hG fun b hb => (by cases hb)
          exact seg_again rfl (next (by omega) I11 q10)
end

/-! ### made, and walked to its end -/
section
variable {X : Cx} {pins : List (Addr × Obj)} {σ : L2.St} {H : Hp} {s : Shared} {scope : Scope} {own : List (Str × Nat)} {T : List (Addr × Str)} {c P : Addr} {k : Nat}
  {elt tg iter : Expr} {ifs : List Expr} {p pos gpos : Pos} {wi : TI} {gt : TG} {tt : TT} {te : TE} {w : Bool}
abbrev gE (X : Cx) (scope : Scope) (L : Addr) (code : Value) : Env := genEnv scope (cloFrom X.env.cells scope.names []) L code builtinsNs X.env
theorem back_of {A' : Around} {ce : Env} {fp : List Addr} {pn : List (Addr × Obj)} (I : Inv X pins σ H s) (hf : ∀ b ∈ fp, FpOk X pins H b) (σ' : L2.St) (H' : Hp) (s' : Shared) (I' : Inv (gx X A' s H ce fp pn) [] σ' H' s') : Inv X pins σ H' s' :=
  I.call' (ch := fp) I'.os I'.base I'.hok I'.bare fun b hb => ⟨(hf b hb).2.2.2.1, (hf b hb).2.1, (hf b hb).2.2.2.2.1, (hf b hb).2.2.2.2.2⟩
theorem gen_made {Q' : Value → Shared → Prop} {Q : VK} (hr : Room (k + 3) X.A) (hc : X.calm = true) (hN : X.N.Nodup) (TB : TabB X.base X.mg c P) (hcode : X.env.code = .ref c) (hm : (P, X.env.qual ++ "<genexpr>") ∈ T)
    (hu : ∀ p ∈ T, p.1 = P → p.2 = X.env.qual ++ "<genexpr>") (ok : GNs X.N X.env.scope scope own) (hi : PI X tg iter wi)
    (hg : ∀ (A' : Around) (s : Shared) (H : Hp) (L : Addr) (code : Value) (fp : List Addr) (pn : List (Addr × Obj)), Room k A' → PG (gx X A' s H (gE X scope L code) fp pn) tg gt)
    (ht : ∀ (A' : Around) (s : Shared) (H : Hp) (L : Addr) (code : Value) (fp : List Addr) (pn : List (Addr × Obj)), Room k A' → PTs (gx X A' s H (gE X scope L code) fp pn) ifs tt)
    (he : ∀ (A' : Around) (s : Shared) (H : Hp) (L : Addr) (code : Value) (fp : List Addr) (pn : List (Addr × Obj)), Room k A' → PE (gx X A' s H (gE X scope L code) fp pn) elt te)
    (hs : ∀ v, genFold iter X.env v = pure v) (I : Inv X pins σ H s) (h : tAA w T wi gt tt te (own.map (·.2)) σ H Q)
    (hQ : ∀ (a : Addr) (g m : Nat) (s5 : Shared), s5.heap.IsGen a g → s5.heap.NoLimit → (∃ gs, s5.gens[g]? = some gs ∧ gs.Goes (model X.prog X.w) X.A.in1.in1 (RB fun s' => ∃ H', Inv X pins σ H' s' ∧ Q (.bl (!w)) H') (YB w a g fun s' => ∃ H', Inv X pins σ H' s' ∧ Q (.bl w) H') m (.send .none) (s5.setGen g .running)) → Q' (.ref a) s5) :
    wpAny (model X.prog X.w) X.A (eval (.GeneratorExp elt [⟨tg, iter, ifs, 0⟩] scope gpos) X.env) Q' X.xe s := by
  refine wpAny_GeneratorExp_make ok.co (closure_ok (ok.has I.ok)) ok.cell ok.dot ok.kind (by have := hr.dp; omega) ?_ hs
  refine thn (hi.run pins s σ H _ I h) fun xv s1 hx => thn hx fun itv s2 h2 => ?_
  obtain ⟨it, fp, tn, J, H2, e, I2, Tr, st2, f2, hT, q⟩ := h2
  subst e
  refine ⟨I2.nolimit, ?_⟩
  obtain ⟨ps, hP, htr, ha⟩ := hT _ hm
  have old : ∀ b ∈ fp, b < s2.heap.objs.size := fun b hb => by
    obtain ⟨o, e, _⟩ := Tr.obj _ _ st2 b hb
    exact Heap.lt_size e
  have cont : ∀ (code : Value) (H3 : Hp) (s3 : Shared), Inv X pins σ H3 s3 → ExtN H2 H3 → Tabs T H3 → (∀ b ∈ fp, ∀ o, s2.heap.get? b = some o → s3.heap.get? b = some o) → s2.heap.objs.size ≤ s3.heap.objs.size → (∀ b ∈ fp, H3 b = none) →
      wpAny (model X.prog X.w) X.A (builtinsFor X.env.globals X.env.builtins) (fun bi s₄ =>
        ∀ h', h'.Ns s₄.heap.objs.size (fun y => if y = ".0" then some (.ref it) else none) → Heap.SameBut s₄.heap.objs.size (s₄.heap.push { cls := .type "frame", data := .dict #[] }) h' →
          Q' (.ref h'.objs.size) { s₄ with
            gens := s₄.gens.push (.fresh (.compStart (.GeneratorExp elt [⟨tg, iter, ifs, 0⟩] scope gpos) 0 (.ref it) .none (genEnv scope (cloFrom X.env.cells scope.names []) s₄.heap.objs.size code bi X.env))),
            toks := s₄.toks + 1 + 1 + 1,
            heap := h'.push { cls := .type "generator", data := .fields #[.int s₄.gens.size 0, .str "<genexpr>" (s₄.toks + 1), .str (X.env.qual ++ "<genexpr>") (s₄.toks + 1 + 1)] } }) X.xe s3 := by
    intro code H3 s3 I3 eN hT3 k3 sz3 n3
    obtain ⟨bm, ob, e1, e2, e3, e4, e5, e6, e7, e8⟩ := TB.bm
    refine wpAny_builtinsFor (m := X.mg) (by rw [I3.ok.glob]; exact I3.mod.glob.keeps I3.bk) e1 e2 (I3.bk _ _ e5) e6 e7 e8 ?_
    obtain ⟨W, ⟨m0, w0⟩, turn⟩ := q H3 eN hT3
    intro h' hn' hs'
    have hsz : h'.objs.size = s3.heap.objs.size + 1 := by rw [hs'.1, Heap.size_push]
    have keep' : ∀ b o, s3.heap.get? b = some o → h'.get? b = some o := fun b o e => hs'.extBut b o (Nat.ne_of_lt (Heap.lt_size e)) (Heap.get?_push_of_some _ e)
    have f3 : ∀ b ∈ fp, FpOk X pins H3 b ∧ b < s3.heap.objs.size := fun b hb => ⟨⟨n3 b hb, (f2 b hb).2⟩, Nat.lt_of_lt_of_le (old b hb) sz3⟩
    generalize hgo : ({ cls := .type "generator", data := .fields #[.int s3.gens.size 0, .str "<genexpr>" (s3.toks + 1), .str (X.env.qual ++ "<genexpr>") (s3.toks + 1 + 1)] } : Obj) = go
    have hgen : ∀ h : Heap, h.get? h'.objs.size = some go → h.IsGen h'.objs.size s3.gens.size := fun h e => ⟨go, _, _, e, by rw [← hgo], by rw [← hgo], by rw [← hgo]⟩
    have at5 : (h'.push go).get? h'.objs.size = some go := by
      rw [← hgo]
      exact Heap.get?_push_size _ rfl
    have keep5 : ∀ b o, s3.heap.get? b = some o → (h'.push go).get? b = some o := fun b o e => Heap.get?_push_of_some _ (keep' b o e)
    refine hQ h'.objs.size s3.gens.size (m0 + 1) _ (hgen _ at5) (I3.nolimit.keeps keep5) ⟨_, Array.getElem?_push_size .., rfl, ?_⟩
    have hrd : Room k (X.A.in1.in1.deeper (gE X scope s3.heap.objs.size code)) := (hr.in1.in1).deeper _
    have bare5 : AllBare (({ s3 with gens := s3.gens.push (.fresh (.compStart (.GeneratorExp elt [⟨tg, iter, ifs, 0⟩] scope gpos) 0 (.ref it) .none (gE X scope s3.heap.objs.size code))), toks := s3.toks + 1 + 1 + 1, heap := h'.push go } : Shared).setGen s3.gens.size .running).gens := allBare_setGen (AllBare.push I3.bare rfl) rfl
    have I5 := gx_start (A' := X.A.in1.in1.deeper (gE X scope s3.heap.objs.size code)) (code := code) (pn := [(h'.objs.size, go)]) (fp := fp) I3 ok hN f3 (Around.frames_deeper I3.ok.frames) hrd.hd
      (s2 := ({ s3 with gens := s3.gens.push (.fresh (.compStart (.GeneratorExp elt [⟨tg, iter, ifs, 0⟩] scope gpos) 0 (.ref it) .none (gE X scope s3.heap.objs.size code))), toks := s3.toks + 1 + 1 + 1, heap := h'.push go } : Shared).setGen s3.gens.size .running)
      rfl bare5 keep5 (hn'.push _) (fun p hp => by
        rw [List.mem_singleton.mp hp]
        exact ⟨at5, by show s3.heap.objs.size < h'.objs.size; omega, fun v e => by rw [← hgo] at e; cases e⟩)
    have st5 : tn 0 (h'.push go) := Tr.keep _ _ _ st2 fun b hb o e => keep5 b o (k3 b hb o e)
    have loop := fun s₀ => seg_block (iter := iter) (pos := gpos) (scope := scope) (A0 := X.A.in1.in1) (w := w) (Q := Q) hc Tr ok.co (hg _ _ _ _ _ _ _ hrd) (ht _ _ _ _ _ _ _ hrd) (he _ _ _ _ _ _ _ hrd)
      (fun b hb => ⟨Nat.ne_of_lt (f3 b hb).2, fun z => by
        rcases List.mem_cons.mp (I3.stkSub b z) with z | z
        · exact (f2 b hb).2.1 z
        · exact (f2 b hb).2.2.1 z, fun x d e z => by
        rcases cloFrom_mem (PySem.mem_of_lookup e) with y | ⟨h1, h2⟩
        · cases y
        · obtain ⟨d', hd⟩ := ok.has I3.ok _ h1 rfl
          have hd : X.env.cells.lookup x = some d' := hd
          rw [hd] at h2
          have h2 : d = d' := h2
          rw [← h2] at hd
          exact (f2 b hb).2.2.2.2.1 x d hd z, fun z => by
        have h1 : b < s3.heap.objs.size := (f3 b hb).2
        rw [z, hsz] at h1
        exact Nat.lt_irrefl _ (Nat.lt_trans (Nat.lt_succ_self _) h1)⟩) hgen (back_of I3 fun b hb => (f3 b hb).1) turn m0 (m0 + 1) 0 H3 _ s₀ (Nat.lt_succ_self _) w0 I5 st5 n3
    show Seg _ X.A.in1.in1 _ _ _ _ _ ((compStart (.GeneratorExp elt [⟨tg, iter, ifs, 0⟩] scope gpos) 0 (.ref it) .none (gE X scope s3.heap.objs.size code)).onRaise (leaving (gE X scope s3.heap.objs.size code))) [] _
    unfold compStart
    rw [Sem.onRaise_eq_wrap]
    show Seg _ X.A.in1.in1 _ _ _ _ _ ((ask >>= _).wrap _ _ _ _) [] _
    refine seg_bind_wrap (wpAny_askSetting ?_)
    split
    · exact seg_again rfl (loop _)
    · first
        | exact seg_bind_wrap (wpAny_rule (seg_bind_wrap (wpAny_standAt (seg_bind_wrap (Tr.self _ 0 _ _ _ st5 (seg_again rfl (loop _)))))))
        | (refine seg_bind_wrap (wpAny_rule ?_); show Seg _ X.A.in1.in1 _ _ _ _ _ ((standAt iter.pos >>= _).wrap _ _ _ _) [] _; exact seg_bind_wrap (wpAny_standAt (seg_bind_wrap (Tr.self _ 0 _ _ _ st5 (seg_again rfl (loop _))))))
  have cd : PySem.W.CodeHd s2.heap c P := TB.code.keeps I2.bk
  have hP' : s2.heap.get? P = some { cls := .none, data := .fields ps } := I2.hok P _ hP
  cases hf : codeAmong gpos ps.toList with
  | some cv =>
    refine wpAny_genexprCode_hit hcode (cd.code hP' htr) hf ?_
    exact cont cv H2 s2 I2 (ExtN.refl _) hT (fun _ _ _ e => e) (Nat.le_refl _) fun b hb => (f2 b hb).1
  | none =>
    refine wpAny_genexprCodeX hcode (cd.code hP' htr) (cd.tab hP') hf fun c' h' tk hx hge hlt hcd hrec htab _ => ?_
    obtain ⟨c2, oc, vs, t, e2, hoc, hd, hv⟩ := hrec
    cases e2
    have nC : H2 c' = none := I2.hok.fresh hge
    have I3 := inv_table (q := X.env.qual ++ "<genexpr>") (t' := tk) (more := #[rawInt gpos.line, rawInt gpos.col, .ref c']) (h' := h') I2 hP (fun b o hb e => hx b o hb e) htab.2 hge ⟨oc, vs, t, hoc, hd, hv⟩
    have eN : ExtN H2 (upd (upd H2 P (.tbl (ps ++ #[rawInt gpos.line, rawInt gpos.col, .ref c']))) c' (CodeO c' (X.env.qual ++ "<genexpr>"))) := fun b o e n => by
      rw [upd_ne (ne_of_none e nC), upd_ne (fun z => n ps (Option.some.inj (e.symm.trans (by rw [z]; exact hP))))]
      exact e
    have eL : (ps ++ #[rawInt gpos.line, rawInt gpos.col, .ref c']).toList = ps.toList ++ [rawInt gpos.line, rawInt gpos.col, .ref c'] := by simp
    have nP : ∀ b ∈ fp, b ≠ P := fun b hb z => by
      have := (f2 b hb).1
      rw [z, hP] at this
      cases this
    refine cont (.ref c') _ _ I3 eN (fun p hp => ?_) (fun b hb o e => hx b o (nP b hb) e) (Nat.le_trans hge (Nat.le_of_lt hlt)) fun b hb => ?_
    · by_cases hb : p.1 = P
      · rw [hu p hp hb, hb]
        refine ⟨_, by rw [upd_ne (ne_of_none hP nC), upd_same], by rw [eL]; exact PySem.TriplesOk_snoc _ _ _ _ htr, fun p' cv hcv => ?_⟩
        rw [eL] at hcv
        rcases among_app _ htr hcv with z | z
        · obtain ⟨c0, e1, e2⟩ := ha p' cv z
          exact ⟨c0, e1, eN _ _ e2 codeO_ne⟩
        · exact ⟨c', z, upd_same⟩
      · obtain ⟨ps', a1, a2, a3⟩ := hT p hp
        refine ⟨ps', by rw [upd_ne (ne_of_none a1 nC), upd_ne hb]; exact a1, a2, fun p' cv hcv => ?_⟩
        obtain ⟨c0, e1, e2⟩ := a3 p' cv hcv
        exact ⟨c0, e1, eN _ _ e2 codeO_ne⟩
    · rw [upd_ne (fun z => by
        have h1 := old b hb
        rw [z] at h1
        exact Nat.lt_irrefl _ (Nat.lt_of_lt_of_le h1 hge)), upd_ne (nP b hb)]
      exact (f2 b hb).1

theorem inv_gens {G : Array GenState} {H' : Hp} {h' : Heap} (I : Inv X pins σ H' s) (hG : AllBare G) (k : ∀ b o, s.heap.get? b = some o → h'.get? b = some o) : Inv X pins σ H' { s with gens := G, heap := h' } :=
  I.call' (ch := []) rfl (Un.kept k) (I.hok.kept k) hG fun b hb => (by cases hb)
theorem pe_any (hr : Room (k + 3) X.A) (hc : X.calm = true) (hN : X.N.Nodup) (gl : Gl X "any") (gm : X.mg "any" = none) (TB : TabB X.base X.mg c P) (hcode : X.env.code = .ref c) (hm : (P, X.env.qual ++ "<genexpr>") ∈ T)
    (hu : ∀ p ∈ T, p.1 = P → p.2 = X.env.qual ++ "<genexpr>") (ok : GNs X.N X.env.scope scope own) (hi : PI X tg iter wi)
    (hg : ∀ (A' : Around) (s : Shared) (H : Hp) (L : Addr) (code : Value) (fp : List Addr) (pn : List (Addr × Obj)), Room k A' → PG (gx X A' s H (gE X scope L code) fp pn) tg gt)
    (ht : ∀ (A' : Around) (s : Shared) (H : Hp) (L : Addr) (code : Value) (fp : List Addr) (pn : List (Addr × Obj)), Room k A' → PTs (gx X A' s H (gE X scope L code) fp pn) ifs tt)
    (he : ∀ (A' : Around) (s : Shared) (H : Hp) (L : Addr) (code : Value) (fp : List Addr) (pn : List (Addr × Obj)), Room k A' → PE (gx X A' s H (gE X scope L code) fp pn) elt te)
    (hs : ∀ v, genFold iter X.env v = pure v := by intro _; rfl)
    (h1 : starEach [.GeneratorExp elt [⟨tg, iter, ifs, 0⟩] scope gpos] X.env = (false, eval (.GeneratorExp elt [⟨tg, iter, ifs, 0⟩] scope gpos) X.env) :: starEach [] X.env := by rfl) :
    PE X (.Call (.Name "any" p) [.GeneratorExp elt [⟨tg, iter, ifs, 0⟩] scope gpos] [] pos) (tAA true T wi gt tt te (own.map (·.2))) := by
  refine ⟨fun pins s σ H Q I h => ?_⟩
  refine wpAny_Call_Name_kw (ld_blt I gl gm boot_any ?_)
  refine PyProof.Rows.callWith_builtin1 ?_ h1 (by rfl)
  rw [h1]
  show wpAny _ _ (spliced ((false, eval (.GeneratorExp elt [⟨tg, iter, ifs, 0⟩] scope gpos) X.env) :: backTo pos (starEach [] X.env))) _ _ s
  refine Calls.spliced_cons (gen_made hr hc hN TB hcode hm hu ok hi hg ht he hs I h fun a g m s5 hgen hl hgo => ?_)
  refine Calls.spliced_nil ?_
  refine call_function_tree F.kind_any F.plain_any F.entry_any (F.args_any1 _) ?_
  unfold Builtin.«any»
  refine wpAny_bind (m := oneArg "any" _) (wpAny_pure ?_)
  refine wpAny_bind (wpAny_pyIter_gen hgen ?_)
  refine wpAny_pure ⟨plainId_quiet F.plain_any_loop _, drain_any hr.hd (by have := hr.dp; omega) (fun s1 hp h' hk => ?_) (fun s1 gs' hb hB hp => ?_) m s5 hgen hl hgo⟩
  · obtain ⟨H', I', q⟩ := hp
    exact ⟨.bl false, H', inv_gens (s := s1) (G := (s1.setGen g .finished).gens) I' (allBare_setGen I'.bare rfl) hk, rfl, q⟩
  · obtain ⟨H', I', q⟩ := hp
    exact ⟨.bl true, H', inv_gens (s := s1) (h' := s1.heap) (G := (s1.setGen g gs').gens) I' (allBare_setGen I'.bare hb) (fun _ _ e => e), rfl, q⟩
theorem pe_all (hr : Room (k + 3) X.A) (hc : X.calm = true) (hN : X.N.Nodup) (gl : Gl X "all") (gm : X.mg "all" = none) (TB : TabB X.base X.mg c P) (hcode : X.env.code = .ref c) (hm : (P, X.env.qual ++ "<genexpr>") ∈ T)
    (hu : ∀ p ∈ T, p.1 = P → p.2 = X.env.qual ++ "<genexpr>") (ok : GNs X.N X.env.scope scope own) (hi : PI X tg iter wi)
    (hg : ∀ (A' : Around) (s : Shared) (H : Hp) (L : Addr) (code : Value) (fp : List Addr) (pn : List (Addr × Obj)), Room k A' → PG (gx X A' s H (gE X scope L code) fp pn) tg gt)
    (ht : ∀ (A' : Around) (s : Shared) (H : Hp) (L : Addr) (code : Value) (fp : List Addr) (pn : List (Addr × Obj)), Room k A' → PTs (gx X A' s H (gE X scope L code) fp pn) ifs tt)
    (he : ∀ (A' : Around) (s : Shared) (H : Hp) (L : Addr) (code : Value) (fp : List Addr) (pn : List (Addr × Obj)), Room k A' → PE (gx X A' s H (gE X scope L code) fp pn) elt te)
    (hs : ∀ v, genFold iter X.env v = pure v := by intro _; rfl)
    (h1 : starEach [.GeneratorExp elt [⟨tg, iter, ifs, 0⟩] scope gpos] X.env = (false, eval (.GeneratorExp elt [⟨tg, iter, ifs, 0⟩] scope gpos) X.env) :: starEach [] X.env := by rfl) :
    PE X (.Call (.Name "all" p) [.GeneratorExp elt [⟨tg, iter, ifs, 0⟩] scope gpos] [] pos) (tAA false T wi gt tt te (own.map (·.2))) := by
  refine ⟨fun pins s σ H Q I h => ?_⟩
  refine wpAny_Call_Name_kw (ld_blt I gl gm (by decide +kernel : bootBuiltins "all" = some (.builtin "all")) ?_)
  refine PyProof.Rows.callWith_builtin1 ?_ h1 (by rfl)
  rw [h1]
  show wpAny _ _ (spliced ((false, eval (.GeneratorExp elt [⟨tg, iter, ifs, 0⟩] scope gpos) X.env) :: backTo pos (starEach [] X.env))) _ _ s
  refine Calls.spliced_cons (gen_made hr hc hN TB hcode hm hu ok hi hg ht he hs I h fun a g m s5 hgen hl hgo => ?_)
  refine Calls.spliced_nil ?_
  refine call_function_tree F.kind_all F.plain_all F.entry_all (F.args_all1 _) ?_
  unfold Builtin.«all»
  refine wpAny_bind (m := oneArg "all" _) (wpAny_pure ?_)
  refine wpAny_bind (wpAny_pyIter_gen hgen ?_)
  refine wpAny_pure ⟨plainId_quiet F.plain_all_loop _, drain_all hr.hd (by have := hr.dp; omega) (fun s1 hp h' hk => ?_) (fun s1 gs' hb hB hp => ?_) m s5 hgen hl hgo⟩
  · obtain ⟨H', I', q⟩ := hp
    exact ⟨.bl true, H', inv_gens (s := s1) (G := (s1.setGen g .finished).gens) I' (allBare_setGen I'.bare rfl) hk, rfl, q⟩
  · obtain ⟨H', I', q⟩ := hp
    exact ⟨.bl false, H', inv_gens (s := s1) (h' := s1.heap) (G := (s1.setGen g gs').gens) I' (allBare_setGen I'.bare hb) (fun _ _ e => e), rfl, q⟩
end
end GX

/-! VX2: any, all of generator expressions, as computations. -/
namespace VS
open PySem PySem.Spec PyProof.Rows L2 LamX GX
/-- any (w = true), all (w = false): the walk ends at the first item whose test is w -/
def anR (w : Bool) (ρ0 : En) (vs : List Nat) (mg : Tg) (mt : M Bool) (me : M Ref) : List D → M Bool
  | [] => M.ret (!w)
  | x :: xs => fun ρ => match mg x (wipeE ρ vs) with
    | none => .stuck
    | some ρ1 => match mt ρ1 with
      | .ok false ρ2 => anR w ρ0 vs mg mt me xs (restE ρ0 ρ2 vs)
      | .ok true ρ2 => (match mB me ρ2 with
        | .ok b ρ3 => if b = w then .ok w (restE ρ0 ρ3 vs) else anR w ρ0 vs mg mt me xs (restE ρ0 ρ3 vs)
        | _ => .stuck)
      | _ => .stuck
def mAA (w : Bool) (mi : M (List D)) (vs : List Nat) (mg : Tg) (mt : M Bool) (me : M Ref) : M Ref := M.bind mi fun xs ρ => if (vs.all fun v => isData (ρ.getD v none)) = true then M.bind (anR w ρ vs mg mt me xs) (fun b => M.ret (rSc (.bl b))) ρ else .stuck
section
variable {C : VC} {B : Bd} {σ : L2.St} {is vs : List Nat} {g : TG} {tt : TT} {te : TE} {mg : Tg} {mt : M Bool} {me : M Ref} {w : Bool}
theorem an_turn {ρ ρ0 : En} {G0 G H : Hp} {x : D} {J : It} {i : Nat} {xs : List D} {Q : VK} (sg : SndG C [] is g mg) (ht : SndT C W0 tt mt) (he : SndE C W0 te me) (hsub : ∀ i ∈ is, i ∈ vs) (wk : Walks C J xs (KStill G0)) (hx : xs[i]? = some x)
    (hl0 : ρ0.length = σ.length) (hd : ∀ j ∈ vs, isData (ρ0.getD j none) = true) (hr : ∀ j x, ρ0.getD j none = some (.d x) → ∃ v, σ[j]? = some (some v) ∧ Rp C G0 v x) (E : EnvR C B ρ σ none G H) (S : Same G0 G) {Nx : Hp → Prop} {rest : List D}
    (nx : ∀ ρ' G' H', EnvR C B ρ' σ none G' H' → Same G0 G' → anR w ρ0 vs mg mt me rest ρ' ≠ .stuck → anR w ρ0 vs mg mt me (x :: rest) ρ = anR w ρ0 vs mg mt me rest ρ' → Nx H')
    (fin : ∀ ρ' G' H', EnvR C B ρ' σ none G' H' → Same G0 G' → anR w ρ0 vs mg mt me (x :: rest) ρ = .ok w ρ' → Q (.bl w) H') (hn : anR w ρ0 vs mg mt me (x :: rest) ρ ≠ .stuck) :
    ∀ v H', J.yld i H v H' → g v (wipe σ vs) H' fun σ2 H2 => wipe σ2 vs = wipe σ vs ∧ tt σ2 H2 fun b H3 => if b = true then te σ2 H3 fun y H4 => ∃ c : Bool, y = .bl c ∧ (if c = w then Q (.bl w) H4 else Nx H4) else Nx H3 := by
  intro v H' hy
  obtain ⟨G2, S2, E2, r2⟩ := wk.yld i x v H' G H hx ⟨S, E.fr.gh⟩ E hy
  have e0 : anR w ρ0 vs mg mt me (x :: rest) ρ = (match mg x (wipeE ρ vs) with
    | none => .stuck
    | some ρ1 => match mt ρ1 with
      | .ok false ρ2 => anR w ρ0 vs mg mt me rest (restE ρ0 ρ2 vs)
      | .ok true ρ2 => (match mB me ρ2 with
        | .ok b ρ3 => if b = w then .ok w (restE ρ0 ρ3 vs) else anR w ρ0 vs mg mt me rest (restE ρ0 ρ3 vs)
        | _ => .stuck)
      | _ => .stuck) := rfl
  rw [e0] at hn
  cases q1 : mg x (wipeE ρ vs) with
  | none => rw [q1] at hn; exact absurd rfl hn
  | some ρ1 =>
    rw [q1] at hn e0
    dsimp only at hn e0
    refine sg B _ _ G2 H' _ x v ρ1 (E2.wipe vs) (fun j hj => absurd hj (by simp)) r2 q1 fun σ2 E3 _ off => ⟨wipe_eq off hsub, ?_⟩
    have hlen : σ2.length = σ.length := by rw [off.1, wipe_length]
    have hσ : ∀ j, j ∉ vs → σ2[j]? = σ[j]? := fun j hj => by rw [off.2 j (fun z => hj (hsub j z)), wipe_at, if_neg hj]
    refine ht B ρ1 σ2 G2 H' _ E3 ?_
    cases q2 : mt ρ1 with
    | stuck => rw [q2] at hn; exact absurd rfl hn
    | err c ρ' => rw [q2] at hn; exact absurd rfl hn
    | ok b ρ2 =>
      rw [q2] at hn e0
      intro G3 H3 E4 S3
      have S03 : Same G0 G3 := (S.trans S2).trans S3
      have back : ∀ {ρ' : En} {G' H' : Hp}, EnvR C B ρ' σ2 none G' H' → Same G0 G' → EnvR C B (restE ρ0 ρ' vs) σ none G' H' := fun {ρ' G' H'} E' S' => E'.rest hl0 hlen hσ hd fun j x e => by
        obtain ⟨v, h1, h2⟩ := hr j x e
        exact ⟨v, h1, h2.mono S'⟩
      cases b with
      | false =>
        rw [if_neg Bool.false_ne_true]
        exact nx _ G3 H3 (back E4 S03) S03 hn e0
      | true =>
        rw [if_pos rfl]
        dsimp only at hn e0
        refine he.v B ρ2 σ2 G3 H3 _ E4 ?_
        have eB : mB me ρ2 = (val me ρ2).bind fun x => match x with
          | .bl b => M.ret b
          | _ => fun _ => .stuck := rfl
        rw [eB] at hn e0
        cases q3 : val me ρ2 with
        | stuck => rw [q3] at hn; exact absurd rfl hn
        | err c ρ' => rw [q3] at hn; exact absurd rfl hn
        | ok y ρ3 =>
          rw [q3, bind_ok] at hn e0
          intro u G4 H4 E5 S4 ru
          cases y with
          | bl b =>
            dsimp only [M.ret] at hn e0
            cases (show Rp _ G4 u (.bl b) from ru)
            have S04 : Same G0 G4 := S03.trans S4
            refine ⟨b, rfl, ?_⟩
            by_cases hb : b = w
            · rw [if_pos hb] at e0 ⊢
              exact fin _ G4 H4 (back E5 S04) S04 e0
            · rw [if_neg hb] at hn e0 ⊢
              exact nx _ G4 H4 (back E5 S04) S04 hn e0
          | _ => exact absurd rfl hn
theorem an_loop {ρ ρ0 : En} {G0 H : Hp} {J : It} {xs : List D} {Q : VK} (sg : SndG C [] is g mg) (ht : SndT C W0 tt mt) (he : SndE C W0 te me) (hsub : ∀ i ∈ is, i ∈ vs) (wk : Walks C J xs (KStill G0))
    (hl0 : ρ0.length = σ.length) (hd : ∀ j ∈ vs, isData (ρ0.getD j none) = true) (hr : ∀ j x, ρ0.getD j none = some (.d x) → ∃ v, σ[j]? = some (some v) ∧ Rp C G0 v x) (E : EnvR C B ρ σ none G0 H)
    (hn : anR w ρ0 vs mg mt me xs ρ ≠ .stuck) (fin : ∀ b ρ' G' H', anR w ρ0 vs mg mt me xs ρ = .ok b ρ' → EnvR C B ρ' σ none G' H' → Same G0 G' → Q (.bl b) H') :
    ∃ Wn : Nat → Nat → Hp → Prop, (∃ m, Wn 0 m H) ∧ ∀ i m H, Wn i m H → (J.stop i H ∧ Q (.bl (!w)) H) ∨ (J.go i H ∧ ∃ Nx : Hp → Prop, (∀ H', Nx H' → ∃ m', m' < m ∧ Wn (i + 1) m' H') ∧ ∀ x H', J.yld i H x H' →
      g x (wipe σ vs) H' fun σ2 H2 => wipe σ2 vs = wipe σ vs ∧ tt σ2 H2 fun b H3 => if b = true then te σ2 H3 fun y H4 => ∃ c : Bool, y = .bl c ∧ (if c = w then Q (.bl w) H4 else Nx H4) else Nx H3) := by
  refine ⟨fun i m H' => i + m = xs.length ∧ ∃ ρ' G', EnvR C B ρ' σ none G' H' ∧ Same G0 G' ∧ anR w ρ0 vs mg mt me (xs.drop i) ρ' ≠ .stuck ∧ anR w ρ0 vs mg mt me xs ρ = anR w ρ0 vs mg mt me (xs.drop i) ρ',
    ⟨xs.length, by simp, ρ, G0, E, Same.refl _, by rw [List.drop_zero]; exact hn, by rw [List.drop_zero]⟩, ?_⟩
  rintro i m H1 ⟨him, ρ1, G1, E1, S1, n1, e1⟩
  by_cases hil : i < xs.length
  · have ed := List.drop_eq_getElem_cons hil
    rw [ed] at n1 e1
    refine .inr ⟨wk.go i xs[i] G1 H1 (by simp [hil]) ⟨S1, E1.fr.gh⟩, fun H' => i + 1 + (m - 1) = xs.length ∧ ∃ ρ' G', EnvR C B ρ' σ none G' H' ∧ Same G0 G' ∧ anR w ρ0 vs mg mt me (xs.drop (i + 1)) ρ' ≠ .stuck ∧ anR w ρ0 vs mg mt me xs ρ = anR w ρ0 vs mg mt me (xs.drop (i + 1)) ρ',
      fun H' h => ⟨m - 1, by omega, h⟩, an_turn sg ht he hsub wk (by simp [hil]) hl0 hd hr E1 S1 (fun ρ' G' H' E' S' n' e' => ⟨by omega, ρ', G', E', S', n', e1.trans e'⟩) (fun ρ' G' H' E' S' e' => fin w ρ' G' H' (e1.trans e') E' S') n1⟩
  · have hi2 : i = xs.length := by omega
    subst hi2
    rw [List.drop_length] at e1
    exact .inl ⟨wk.stop G1 H1 ⟨S1, E1.fr.gh⟩, fin _ ρ1 G1 H1 e1 E1 S1⟩
variable {W : WX} {wi : TI} {mi : M (List D)}
theorem anR_noErr {ρ0 : En} : ∀ {xs : List D} {ρ : En} {c : Str} {ρ' : En}, anR w ρ0 vs mg mt me xs ρ ≠ .err c ρ'
  | [], ρ, c, ρ', h => by cases h
  | x :: xs, ρ, c, ρ', h => by
    unfold anR at h
    split at h
    · cases h
    · split at h
      · exact anR_noErr h
      · split at h
        · split at h
          · cases h
          · exact anR_noErr h
        · cases h
      · cases h
theorem snd_aa (hi : SndI C W wi mi) (sg : SndG C [] is g mg) (ht : SndT C W0 tt mt) (he : SndE C W0 te me) (hsub : ∀ i ∈ is, i ∈ vs) : SndE C W (tAA w C.T wi g tt te vs) (mAA w mi vs mg mt me) := by
  intro B ρ σ G H Q E P
  refine hi B ρ σ G H _ E ?_
  unfold mAA at P
  rw [mbind] at P
  cases q : mi ρ with
  | stuck => rw [q] at P; exact P
  | err c ρ' => rw [q] at P; exact P
  | ok xs ρ1 =>
    rw [q, bind_ok] at P
    by_cases hd : (vs.all fun v => isData (ρ1.getD v none)) = true
    · rw [if_pos hd, mbind] at P
      intro J G1 H1 E1 S1 wk
      refine ⟨E1.fr.tb, fun H2 eN T2 => ?_⟩
      have E2 := E1.extN eN T2
      refine an_loop (ρ0 := ρ1) sg ht he hsub wk E1.len (fun j hj => List.all_eq_true.mp hd j hj) (fun j x e => ?_) E2 (fun z => ?_) fun b ρ' G' H' e E' S' => ?_
      · obtain ⟨v, fp, h1, o⟩ := E1.own e
        exact ⟨v, h1, o.2⟩
      · rw [z] at P; exact P
      · rw [e, bind_ok, mret] at P
        exact P _ G' H' (E'.res (Sc.rp (.bl b))) (S1.trans S')
    · rw [if_neg hd] at P
      exact P.elim
variable {X : Cx} {tg iter elt : Expr} {ifs : List Expr} {scope : Scope} {own : List (Str × Nat)} {p pos gpos : Pos} {k : Nat} {cc Pt : Addr}
theorem se_any (hr : Room (k + 3) X.A) (hc : X.calm = true) (hN : X.N.Nodup) (gl : Gl X "any") (gm : X.mg "any" = none) (TB : TabB X.base X.mg cc Pt) (hcode : X.env.code = .ref cc) (hT : (Pt, X.env.qual ++ "<genexpr>") ∈ C.T)
    (hu : ∀ p ∈ C.T, p.1 = Pt → p.2 = X.env.qual ++ "<genexpr>") (ok : GNs X.N X.env.scope scope own) (hi : SI C X W tg iter wi mi)
    (hg : ∀ (A' : Around) (s : Shared) (H : Hp) (L : Addr) (code : Value) (fp : List Addr) (pn : List (Addr × Obj)), Room k A' → PG (gx X A' s H (gE X scope L code) fp pn) tg g) (sg : SndG C [] is g mg)
    (hq : ∀ (A' : Around) (s : Shared) (H : Hp) (L : Addr) (code : Value) (fp : List Addr) (pn : List (Addr × Obj)), Room k A' → SQ C (gx X A' s H (gE X scope L code) fp pn) W0 ifs tt mt)
    (he : ∀ (A' : Around) (s : Shared) (H : Hp) (L : Addr) (code : Value) (fp : List Addr) (pn : List (Addr × Obj)), Room k A' → SE C (gx X A' s H (gE X scope L code) fp pn) W0 elt te me) (hsub : ∀ i ∈ is, i ∈ own.map (·.2) := by decide)
    (hs : ∀ v, genFold iter X.env v = pure v := by intro _; rfl)
    (h1 : starEach [.GeneratorExp elt [⟨tg, iter, ifs, 0⟩] scope gpos] X.env = (false, eval (.GeneratorExp elt [⟨tg, iter, ifs, 0⟩] scope gpos) X.env) :: starEach [] X.env := by rfl) :
    SE C X W (.Call (.Name "any" p) [.GeneratorExp elt [⟨tg, iter, ifs, 0⟩] scope gpos] [] pos) (tAA true C.T wi g tt te (own.map (·.2))) (mAA true mi (own.map (·.2)) mg mt me) :=
  ⟨pe_any hr hc hN gl gm TB hcode hT hu ok hi.pi hg (fun A' s H L code fp pn r => (hq A' s H L code fp pn r).pts) (fun A' s H L code fp pn r => (he A' s H L code fp pn r).pe) hs h1,
    snd_aa hi.snd sg (hq X.A X.s_0 X.H_0 0 .none [] [] (hr.mono (by omega))).snd (he X.A X.s_0 X.H_0 0 .none [] [] (hr.mono (by omega))).snd hsub⟩
theorem se_all (hr : Room (k + 3) X.A) (hc : X.calm = true) (hN : X.N.Nodup) (gl : Gl X "all") (gm : X.mg "all" = none) (TB : TabB X.base X.mg cc Pt) (hcode : X.env.code = .ref cc) (hT : (Pt, X.env.qual ++ "<genexpr>") ∈ C.T)
    (hu : ∀ p ∈ C.T, p.1 = Pt → p.2 = X.env.qual ++ "<genexpr>") (ok : GNs X.N X.env.scope scope own) (hi : SI C X W tg iter wi mi)
    (hg : ∀ (A' : Around) (s : Shared) (H : Hp) (L : Addr) (code : Value) (fp : List Addr) (pn : List (Addr × Obj)), Room k A' → PG (gx X A' s H (gE X scope L code) fp pn) tg g) (sg : SndG C [] is g mg)
    (hq : ∀ (A' : Around) (s : Shared) (H : Hp) (L : Addr) (code : Value) (fp : List Addr) (pn : List (Addr × Obj)), Room k A' → SQ C (gx X A' s H (gE X scope L code) fp pn) W0 ifs tt mt)
    (he : ∀ (A' : Around) (s : Shared) (H : Hp) (L : Addr) (code : Value) (fp : List Addr) (pn : List (Addr × Obj)), Room k A' → SE C (gx X A' s H (gE X scope L code) fp pn) W0 elt te me) (hsub : ∀ i ∈ is, i ∈ own.map (·.2) := by decide)
    (hs : ∀ v, genFold iter X.env v = pure v := by intro _; rfl)
    (h1 : starEach [.GeneratorExp elt [⟨tg, iter, ifs, 0⟩] scope gpos] X.env = (false, eval (.GeneratorExp elt [⟨tg, iter, ifs, 0⟩] scope gpos) X.env) :: starEach [] X.env := by rfl) :
    SE C X W (.Call (.Name "all" p) [.GeneratorExp elt [⟨tg, iter, ifs, 0⟩] scope gpos] [] pos) (tAA false C.T wi g tt te (own.map (·.2))) (mAA false mi (own.map (·.2)) mg mt me) :=
  ⟨pe_all hr hc hN gl gm TB hcode hT hu ok hi.pi hg (fun A' s H L code fp pn r => (hq A' s H L code fp pn r).pts) (fun A' s H L code fp pn r => (he A' s H L code fp pn r).pe) hs h1,
    snd_aa hi.snd sg (hq X.A X.s_0 X.H_0 0 .none [] [] (hr.mono (by omega))).snd (he X.A X.s_0 X.H_0 0 .none [] [] (hr.mono (by omega))).snd hsub⟩
end
end VS

/-! VK: sorted(xs, key=f) whose f may make things of its own. -/
namespace KX
open PySem PySem.Spec PyProof.Rows L2 LamX PySem.W

/-- within the two built-ins; nothing is raised -/
abbrev sx (X : Cx) : Cx := { X with A := X.A.in1.in1, xe := fun _ _ => False }
section
variable {X : Cx} {pins : List (Addr × Obj)} {σ : L2.St} {H : Hp} {s : Shared} {h' : Heap}
theorem sx_ok (o : X.Ok) : (sx X).Ok := ⟨o.mod, o.kind, o.glob, o.blt, o.above, o.inj, o.has, o.cab, o.hd, o.frames, o.stk, o.exf, o.bs, o.bsz, o.noex, o.exfs, o.funs, o.frf⟩
theorem sx_inv (I : Inv X pins σ H s) : Inv (sx X) pins σ H s := ⟨sx_ok I.ok, I.os, I.bare, I.base, I.loc, I.cell, I.free, I.freeC, I.pin, I.hok, I.len⟩
theorem sx_back (o : X.Ok) (I : Inv (sx X) pins σ H s) : Inv X pins σ H s := ⟨o, I.os, I.bare, I.base, I.loc, I.cell, I.free, I.freeC, I.pin, I.hok, I.len⟩
/-- an address of ours that nothing else is -/
def Loose (X : Cx) (pins : List (Addr × Obj)) (b : Addr) : Prop :=
  X.s_0.heap.objs.size ≤ b ∧ b ≠ X.env.locals ∧ (∀ x c, X.env.cells.lookup x = some c → c ≠ b) ∧ (∀ p ∈ X.pn ++ pins, p.1 ≠ b) ∧ b ∉ X.fs
theorem loose_new (I : Inv X pins σ H s) {b : Addr} (hb : s.heap.objs.size ≤ b) : Loose X pins b := by
  have ol : ∀ {c o}, s.heap.get? c = some o → c ≠ b := fun {c o} e => Nat.ne_of_lt (Nat.lt_of_lt_of_le (Heap.lt_size e) hb)
  refine ⟨Nat.le_trans I.sz hb, Nat.ne_of_gt (Nat.lt_of_lt_of_le I.lt hb), fun x c e => ?_, fun p hp => ol (I.pin p hp).1, I.nofs hb⟩
  obtain ⟨v, o, ho, _⟩ := I.cell x c e
  exact ol ho
/-- untracked things of ours have become others -/
theorem turnedN {ch : List Addr} {t' : Nat} (I : Inv X pins σ H s) (hch : ∀ b ∈ ch, Loose X pins b ∧ H b = none) (k : ∀ b o, b ∉ ch → s.heap.get? b = some o → h'.get? b = some o) (th : ∀ b ∈ ch, True) :
    Inv X pins σ H { s with heap := h', toks := t' } := by
  have far : ∀ b u, H b = some u → b ∉ ch := fun b u e z => by
    rw [(hch b z).2] at e
    cases e
  refine I.step (g' := s.gens) (d' := s.drawn) (ch := ch) (fun b hb => ⟨.inr (hch b hb).1.1, (hch b hb).1.2.1, (hch b hb).1.2.2.1, (hch b hb).1.2.2.2.1⟩) (fun b o _ _ hc e _ => k b o hc e) (fun b o _ _ hc e _ => ⟨o.slots, k b o hc e⟩) (fun _ _ _ _ n => n)
    (fun b o hc e => ⟨o, k b o hc e⟩) (fun _ _ e => e) (fun _ _ _ e => e) (fun b ps e => ⟨#[], by rw [e]; simp⟩) (fun m hm => ?_) (fun b u e => ?_) I.bare
  · obtain ⟨o, es, ep, ho, r⟩ := hm
    exact ⟨o, es, ep, k _ o (fun z => (hch _ z).1.2.1 rfl) ho, r⟩
  · refine (I.hok b u e).stay (fun c v hc q => k c v ?_ q) (fun _ q => q) fun _ _ q => q
    rcases hc with z | z
    · rw [z]
      exact far b u e
    · exact far c _ z
/-- an untracked thing of ours is known from now on -/
theorem taken {a : Addr} {o : HO} (I : Inv X pins σ H s) (L : Loose X pins a) (hn : H a = none) (new : ObjOk X.prog X.w (upd H a o) s.heap a o) : Inv X pins σ (upd H a o) s := by
  have far : ∀ b u, H b = some u → b ≠ a := fun b u e => ne_of_none e hn
  have J := I.step (H' := upd H a o) (g' := s.gens) (d' := s.drawn) (t' := s.toks) (h' := s.heap) (ch := [a]) (fun b hb => by
      have e : b = a := by simpa using hb
      rw [e]
      exact ⟨.inr L.1, L.2.1, L.2.2.1, L.2.2.2.1⟩) (fun b o _ _ _ e _ => e) (fun b o _ _ _ e _ => ⟨o.slots, e⟩) (fun b o hc _ n => by
      rw [upd_ne (fun z => hc (by simp [z]))]
      exact n) (fun b o _ e => ⟨o, e⟩) (fun b xs e => by rw [upd_ne (far b _ e)]; exact e) (fun b o u e => by rw [upd_ne (far b _ e)]; exact e) (fun b ps e => ⟨#[], by rw [upd_ne (far b _ e), e]; simp⟩) (fun m hm => hm) (fun b u e => by
      by_cases hb : b = a
      · subst hb
        rw [upd_same] at e
        cases e
        exact new
      · rw [upd_ne hb] at e
        exact (I.hok b u e).stay (fun _ _ _ q => q) (fun d q => by rw [upd_ne (far d _ q)]; exact q) fun d xs q => by rw [upd_ne (far d _ q)]; exact q) I.bare
  exact J
theorem pinOf (I : Inv X pins σ H s) {b : Addr} {o : Obj} (L : Loose X pins b) (ho : s.heap.get? b = some o) (hn : H b = none) (nc : ∀ v, o.data ≠ .cell v) : Inv X ((b, o) :: pins) σ H s :=
  I.pins_of fun p hp => by
    rcases List.mem_cons.mp hp with rfl | hp
    · exact ⟨ho, hn, L.2.1, L.2.2.2.2, nc⟩
    · exact I.pin p (List.mem_append_right _ hp)
theorem unpin {q : Addr × Obj} (I : Inv X (q :: pins) σ H s) : Inv X pins σ H s := I.pins_of fun p hp => I.pin p (List.mem_append_right _ (List.mem_cons_of_mem _ hp))
theorem pin_at {p : Addr × Obj} (I : Inv X pins σ H s) (hp : p ∈ pins) : s.heap.get? p.1 = some p.2 ∧ H p.1 = none := ⟨(I.pin p (List.mem_append_right _ hp)).1, (I.pin p (List.mem_append_right _ hp)).2.1⟩
theorem Loose.more {a b : Addr} {o : Obj} (L : Loose X pins b) (h : a ≠ b) : Loose X ((a, o) :: pins) b := by
  refine ⟨L.1, L.2.1, L.2.2.1, fun p hp => ?_, L.2.2.2.2⟩
  rcases List.mem_append.mp hp with z | z
  · exact L.2.2.2.1 p (List.mem_append_left _ z)
  · rcases List.mem_cons.mp z with rfl | z
    · exact h
    · exact L.2.2.2.1 p (List.mem_append_right _ z)
theorem dp_each (I : Inv X pins σ H s) : ∀ {ys : List V} {us : List Value} {ds : List PyData}, Vals ys us → DpAll X.K H ys ds → EachIs (fun v d => ∃ as, Reads s.heap v d as) us ds
  | _, _, _, .nil, h => by
    cases h
    exact .nil
  | _, _, _, .cons r rs, h => by
    cases h with
    | cons h1 h2 => exact .cons (Dp.reads I _ _ _ h1 r) (dp_each I rs h2)
theorem each_zip : ∀ {xs : List V} {vs : List Value} {ds : List PyData}, Vals xs vs → ds.length = xs.length → EachIs (fun v (p : V × PyData) => RelV p.1 v) vs (xs.zip ds)
  | _, _, _, .nil, _ => by rw [List.zip_nil_left]; exact .nil
  | _, _, [], .cons _ _, h => by simp at h
  | _, _, d :: ds, .cons r rs, h => .cons r (each_zip rs (by simpa using h))
theorem vals_each : ∀ {out : List Value} {ps : List (V × PyData)}, EachIs (fun v (p : V × PyData) => RelV p.1 v) out ps → Vals (ps.map Prod.fst) out
  | _, _, .nil => .nil
  | _, _, .cons r rs => .cons r (vals_each rs)

theorem vals_back : ∀ {xs : List V} {vs : List Value} {j : Nat} {u : Value}, Vals xs vs → vs[j]? = some u → ∃ x, xs[j]? = some x ∧ RelV x u
  | _, _, _, _, .nil, h => by simp at h
  | _, _, 0, _, .cons r _, h => by
    simp at h
    subst h
    exact ⟨_, rfl, r⟩
  | _, _, j + 1, _, .cons _ rs, h => by
    obtain ⟨x, h1, h2⟩ := vals_back (j := j) rs (by simpa using h)
    exact ⟨x, by simpa using h1, h2⟩
/-- what the keys must be -/
def KeysOk (ds : List PyData) : Prop := AllAlike ds ∧ Sortable ds ∧ ∀ d ∈ ds, d.depth < 60
def byKey (rev : Bool) (xs : List V) (ds : List PyData) : List V := ((xs.zip ds).mergeSort (dataLe rev Prod.snd)).map Prod.fst
/-- the keys, one after another -/
def Keyed (K : PySem.W.Frag) (rev : Bool) (tf : V → Hp → VK → Prop) (xs : List V) (H : Hp) (Q : VK) : Prop := ∃ W : Nat → List V → Hp → Prop, W 0 [] H ∧
  (∀ i ys H1 x, xs[i]? = some x → W i ys H1 → tf x H1 fun y H2 => W (i + 1) (ys ++ [y]) H2) ∧
  ∀ ys H1, W xs.length ys H1 → ∃ ds, ds.length = xs.length ∧ DpAll K H1 ys ds ∧ KeysOk ds ∧ ∀ p, H1 p = none → Q (.ref p) (upd H1 p (.lst (byKey rev xs ds)))
/-- f called with one thing, P0 and R standing -/
def Calls1 (X : Cx) (σ : L2.St) (P0 : List (Addr × Obj)) (R : Hp → Prop) (f : Value) (tf : V → Hp → VK → Prop) : Prop :=
  ∀ (pins : List (Addr × Obj)) (s : Shared) (H : Hp) (x : V) (u : Value) (Q : VK), (∀ p ∈ P0, p ∈ pins) → Inv (sx X) pins σ H s → R H → RelV x u → tf x H Q →
    wpAny (model X.prog X.w) X.A.in1.in1 (call f [u]) (EP (sx X) pins σ fun y H' => R H' ∧ Q y H') (fun _ _ => False) s
theorem sk_rest {P0 : List (Addr × Obj)} {R : Hp → Prop} {f : Value} {rev : Bool} {tf : V → Hp → VK → Prop} {xs : List V} {vs : List Value} {a kS : Addr} {e1 : Nat} {Q : VK} {PF : PySem.Fin → Shared → Prop} {EF : Value → Shared → Prop}
    (ok : X.Ok) (cf : Calls1 X σ P0 R f tf) (I : Inv (sx X) ((kS, seqObj "list" #[] 0) :: (a, seqObj "list" #[] e1) :: (P0 ++ pins)) σ H s) (hR : R H) (hu : X.A.units + 200 < cLine) (hka : kS ≠ a) (Lk : Loose (sx X) (P0 ++ pins) kS) (La : Loose (sx X) (P0 ++ pins) a)
    (rv : Vals xs vs) (hz : vs.length ≤ sizeLine) (kd : Keyed X.K rev tf xs H Q)
    (fin : ∀ H' s', Inv X (P0 ++ pins) σ H' s' → Q (.ref a) H' → PF (.done (.ret .none)) s') :
    wpAny (model X.prog X.w) X.A.in1.in1 (ksk_rest a f rev vs.toArray e1 (.ref kS)) PF EF s := by
  obtain ⟨W, w0, wt, wd⟩ := kd
  have hl : xs.length = vs.length := rv.length
  have nc : ∀ (o : Array Value) (n : Nat) v, (seqObj "list" o n).data ≠ .cell v := fun o n v z => by cases z
  unfold ksk_rest
  refine wpAny_bind (wpAny_rule ?_)
  first
    | rw [List.forIn_toArray]
    | (rw [← Array.forIn_toList]; simp only [List.toList_toArray])
    | rw [← Array.forIn_toList]
  refine wpAny_bind (ksk_fold (fun i s' => ∃ H' ys us n, Inv (sx X) ((kS, seqObj "list" us n) :: (a, seqObj "list" #[] e1) :: (P0 ++ pins)) σ H' s' ∧ R H' ∧ Vals ys us.toList ∧ ys.length = i ∧ W i ys H') vs 0 s ⟨H, [], #[], 0, I, hR, .nil, rfl, w0⟩ ?turn ?last)
  case turn =>
    rintro j u s1 hu1 ⟨H1, ys, us, n, I1, R1, ry, ly, w1⟩
    simp only [Nat.zero_add] at ly w1 ⊢
    have hj : j < vs.length := (List.getElem?_eq_some_iff.mp hu1).1
    obtain ⟨x, hx, rx⟩ := vals_back rv hu1
    have hsz : us.size ≤ sizeLine := by
      have e : ys.length = us.toList.length := ry.length
      have e2 : us.toList.length = us.size := by simp
      omega
    refine wpAny_bind (wpAny_attempt (wpAny_mono (cf _ s1 H1 x u _ (fun p hp => List.mem_cons_of_mem _ (List.mem_cons_of_mem _ (List.mem_append_left _ hp))) I1 R1 rx (wt j ys H1 x hx w1)) (fun v s2 hv => ?_) fun _ _ z => z.elim))
    obtain ⟨y, H2, I2, r2, R2, w2⟩ := hv
    try dsimp only
    obtain ⟨k1, k2⟩ := pin_at I2 (.head _)
    obtain ⟨c1, c2⟩ := pin_at I2 (.tail _ (.head _))
    have sb := Heap.SameBut.update s2.heap kS (Obj.mapSeq (·.push v))
    obtain ⟨n3, e3⟩ : ∃ n3, (s2.heap.update kS (Obj.mapSeq (·.push v))).get? kS = some (seqObj "list" (us.push v) n3) := ⟨_, get?_update_seq k1 (·.push v)⟩
    refine wpAny_bind (listUpdate_at k1 rfl ?_ hsz (by rw [Array.size_push]; exact Nat.succ_le_succ hsz))
    have I3 : Inv (sx X) ((a, seqObj "list" #[] e1) :: (P0 ++ pins)) σ H2 { s2 with heap := s2.heap.update kS (Obj.mapSeq (·.push v)) } := turnedN (ch := [kS]) (t' := s2.toks) (unpin I2) (fun b hb => by
        have e : b = kS := by simpa using hb
        rw [e]
        exact ⟨Lk.more hka.symm, k2⟩) (fun b o hb e => (sb.2 b (fun z => hb (by simp [z]))).trans e) fun _ _ => True.intro
    refine wpAny_pure ⟨rfl, H2, ys ++ [y], us.push v, n3, pinOf I3 (Lk.more hka.symm) e3 k2 (nc _ _), R2, ?_, by rw [List.length_append, ly]; rfl, w2⟩
    rw [Array.toList_push]
    exact ry.append (.cons r2 .nil)
  case last =>
    rintro s1 ⟨H1, ys, us, n, I1, R1, ry, ly, w1⟩
    simp only [Nat.zero_add] at ly w1
    rw [← hl] at w1 ly
    obtain ⟨ds, dl, dd, ⟨da, dk, dq⟩, q⟩ := wd ys H1 w1
    obtain ⟨k1, k2⟩ := pin_at I1 (.head _)
    obtain ⟨c1, c2⟩ := pin_at I1 (.tail _ (.head _))
    have hsz : us.size = vs.length := by
      have e : ys.length = us.toList.length := ry.length
      have e2 : us.toList.length = us.size := by simp
      omega
    have ev := dp_each I1 ry dd
    obtain ⟨h0, g1, g2⟩ := restrict s1.heap fun b => decide (b ≠ kS)
    have hk0 : h0.get? kS = none := g2 kS (by simp)
    have kp : KeepsBut a h0 s1.heap := fun b o _ e => by
      by_cases hb : b = kS
      · rw [hb, hk0] at e
        cases e
      · rw [← g1 b (by simp [hb])]
        exact e
    try dsimp only
    refine wpAny_bind (listItems_at k1 rfl ?_)
    refine keyH_end (κ := dataKind s1.heap ds) (h₁ := h0) kp hk0 k1 c1 hka (SortsAt.data ev da dk fun d hd => ?_) hsz hz fun h3 tk n3 kp3 e3 => ?_
    · have := dq d hd
      show X.A.units + 1 + 1 + d.depth < cLine
      omega
    · have I2 : Inv (sx X) (P0 ++ pins) σ H1 { s1 with heap := h3, toks := tk } := turnedN (ch := [kS, a]) (t' := tk) (unpin (unpin I1)) (fun b hb => by
          rcases List.mem_cons.mp hb with rfl | hb
          · exact ⟨Lk, k2⟩
          · have e : b = a := by simpa using hb
            rw [e]
            exact ⟨La, c2⟩) (fun b o hb e => kp3 b o (fun z => hb (by simp [z])) ((g1 b (by
              have : b ≠ kS := fun z => hb (by simp [z])
              simp [this])).trans e)) fun _ _ => True.intro
      have eo : EachIs (fun v (p : V × PyData) => RelV p.1 v) (sortVals (dataKind s1.heap ds) rev us.toList vs) ((xs.zip ds).mergeSort (dataLe rev Prod.snd)) := by
        refine keyedOut_each Prod.snd ?_ (each_zip rv dl)
        have e0 : (xs.zip ds).map Prod.snd = ds := List.map_snd_zip (by omega)
        rw [e0]
        exact ⟨s1.heap, us.toList, da, rfl, ev⟩
      have ro := vals_each eo
      have hlen : (byKey rev xs ds).length ≤ sizeLine := by
        unfold byKey
        rw [List.length_map, List.length_mergeSort, List.length_zip]
        omega
      exact fin _ _ (sx_back ok (taken (o := .lst (byKey rev xs ds)) I2 La c2 (show ObjOk X.prog X.w _ h3 a (.lst (byKey rev xs ds)) from ⟨hlen, _, n3, ro, e3⟩))) (q a c2)
end
end KX

/-! VK2: sorted(xs, key=..): the key a def, or a lambda of one parameter. -/
namespace KX
open PySem PySem.Spec PyProof.Rows L2 LamX PySem.W
/-- a lambda's names: its one parameter, captured ones, globals -/
structure LamP (N : List Str) (sc scope : Scope) (y : Str) (i : Nat) : Prop where
  kind : scope.kind = .function
  co : scope.isCoroutine = false
  gen : scope.isGenerator = false
  par : scope.names.lookup y = some .local
  ix : N[i]? = some y
  own : ∀ z ∈ scope.names, (z.2 = .local → z.1 = y) ∧ z.2 ≠ .cell
  free : ∀ z ∈ scope.names, z.2 = .free → sc.names.lookup z.1 = some .cell ∨ sc.names.lookup z.1 = some .free
def lamPB (N : List Str) (sc scope : Scope) (y : Str) (i : Nat) : Bool :=
  decide (scope.kind = .function) && !scope.isCoroutine && !scope.isGenerator && decide (scope.names.lookup y = some NameKind.local) && decide (N[i]? = some y) &&
    scope.names.all fun z => (!decide (z.2 = .local) || decide (z.1 = y)) && !decide (z.2 = .cell) && (!decide (z.2 = .free) || decide (sc.names.lookup z.1 = some .cell) || decide (sc.names.lookup z.1 = some .free))
theorem lamP_by {N : List Str} {sc scope : Scope} {y : Str} {i : Nat} (h : lamPB N sc scope y i = true) : LamP N sc scope y i := by
  unfold lamPB at h
  simp only [Bool.and_eq_true, Bool.or_eq_true, Bool.not_eq_true', decide_eq_true_eq, decide_eq_false_iff_not, List.all_eq_true] at h
  obtain ⟨⟨⟨⟨⟨h1, h2⟩, h3⟩, h4⟩, h5⟩, h6⟩ := h
  refine ⟨h1, h2, h3, h4, h5, fun z hz => ⟨fun e => ?_, (h6 z hz).1.2⟩, fun z hz e => ?_⟩
  · rcases (h6 z hz).1.1 with q | q
    · exact absurd e q
    · exact q
  · rcases (h6 z hz).2 with (q | q) | q
    · exact absurd e q
    · exact .inl q
    · exact .inr q
section
variable {X : Cx} {pins : List (Addr × Obj)} {σ : L2.St} {H : Hp} {s : Shared} {scope : Scope} {y : Str} {i : Nat}
theorem LamP.has (L : LamP X.N X.env.scope scope y i) (o : X.Ok) : ∀ z ∈ scope.names, z.2 = .free → ∃ c, X.env.cells.lookup z.1 = some c := fun z hz e => by
  rcases L.free z hz e with k | k
  · exact o.has _ (.inl k)
  · exact o.has _ (.inr k)
theorem lamP_start {A : Around} {E : XK} {f c' : Addr} {v : V} {u : Value} {h₁ : Heap} {tk : Nat} (I : Inv X pins σ H s) (L : LamP X.N X.env.scope scope y i) (hN : X.N.Nodup) (e0 : Env0 X.prog X.w X.K X.mg X.base A X.stack s H) (hd : A.handled = none)
    (hns : h₁.Ns s.heap.objs.size fun z => ([(y, u)] : List (Str × Value)).reverse.lookup z) (kp : ∀ b o, s.heap.get? b = some o → h₁.get? b = some o) (r : RelV v u) :
    Inv (lamCx X A X.stack s H E scope f c') [] (σ.set i (some v)) H { s with heap := h₁, toks := tk } := by
  have look : ∀ {z : Str} {c : Addr}, (cloFrom X.env.cells scope.names []).lookup z = some c → X.env.cells.lookup z = some c := fun {z c} e => by
    rcases cloFrom_mem (PySem.mem_of_lookup e) with q | ⟨h1, h2⟩
    · cases q
    · obtain ⟨d, hd⟩ := L.has I.ok _ h1 rfl
      have hd : X.env.cells.lookup z = some d := hd
      rw [hd] at h2
      have h2 : c = d := h2
      rw [h2]
      exact hd
  have there : ∀ {z : Str}, (z, NameKind.free) ∈ scope.names → ∃ c, (cloFrom X.env.cells scope.names []).lookup z = some c := fun {z} h => mem_lookup (cloFrom_has (cells := X.env.cells) (acc := []) h)
  have none_ : ∀ b : Addr, b ∉ (lamCx X A X.stack s H E scope f c').ex := fun b z => absurd (show b ∈ ([] : List Addr) from z) (by simp)
  have okL : (lamCx X A X.stack s H E scope f c').Ok := by
    refine ⟨e0.mod, L.kind, rfl, rfl, Nat.le_refl _, fun a b c h1 h2 => I.ok.inj a b c (look h1) (look h2), fun z hz => ?_, fun z c q _ => ?_, fun _ => hd, Around.frames_deeper e0.frames, .inr ⟨rfl, rfl⟩, fun b z => absurd z (none_ b), e0.bs, e0.bsz, fun b _ _ => none_ b, fun b z => absurd z (none_ b), e0.funs, e0.frf⟩
    · have hz : scope.names.lookup z = some .cell ∨ scope.names.lookup z = some .free := hz
      rcases hz with hz | hz
      · exact absurd rfl (L.own _ (PySem.mem_of_lookup hz)).2
      · exact there (PySem.mem_of_lookup hz)
    · have q : false = true := q
      cases q
  refine ⟨okL, rfl, e0.bare, Un.kept kp, ⟨_, hns, fun j z w h1 h2 h3 => ?_⟩, fun z c e => ?_, e0.hok.fresh (Nat.le_refl _), fun z c e => I.freeC z c (look e), fun q hq => absurd (show q ∈ ([] : List (Addr × Obj)) ++ [] from hq) (by simp), e0.hok.kept kp, by rw [List.length_set]; exact I.len⟩
  · have h3 : Vis scope z := h3
    have h1 : X.N[j]? = some z := h1
    by_cases hj : j = i
    · subst hj
      obtain rfl : z = y := by
        have := L.ix
        rw [h1] at this
        exact Option.some.inj this
      have hl : j < σ.length := by
        rw [I.len]
        exact (List.getElem?_eq_some_iff.mp h1).1
      rw [List.getElem?_set_self hl] at h2
      cases h2
      exact ⟨u, r, .inl ⟨L.par, by simp⟩⟩
    · rw [List.getElem?_set_ne (Ne.symm hj)] at h2
      have hne : z ≠ y := fun e => hj (nodup_ix hN (e ▸ h1) L.ix)
      rcases h3 with q | q | q
      · exact absurd ((L.own _ (PySem.mem_of_lookup q)).1 rfl) hne
      · exact absurd rfl (L.own _ (PySem.mem_of_lookup q)).2
      · obtain ⟨m, hn, hl⟩ := I.loc
        have hv : Vis X.env.scope z := (L.free _ (PySem.mem_of_lookup q) rfl).elim (fun k => .inr (.inl k)) (fun k => .inr (.inr k))
        obtain ⟨w', r', p⟩ := hl j z w h1 h2 hv
        obtain ⟨c2, hc2⟩ := there (PySem.mem_of_lookup q)
        refine ⟨w', r', .inr ⟨.inr q, c2, hc2, ?_⟩⟩
        have hc1 := look hc2
        rcases p with ⟨k', _⟩ | ⟨_, c3, e', zc⟩
        · have k' : X.env.scope.names.lookup z = some .local := k'
          rcases L.free _ (PySem.mem_of_lookup q) rfl with k2 | k2 <;> rw [show X.env.scope.names.lookup z = _ from k2] at k' <;> cases k'
        · rw [hc1] at e'
          cases e'
          exact zc.keeps kp
  · obtain ⟨w', zc⟩ := I.cell z c (look e)
    exact ⟨w', zc.keeps kp⟩
abbrev lamObj (X : Cx) (params : Arguments) (body : Expr) (scope : Scope) (pm : Value) (c' : Addr) (ctv : Value) : Obj := PySem.W.kla_obj "<lambda>" (X.env.qual ++ "<lambda>") params body scope (cloFrom X.env.cells scope.names []) pm c' ctv
abbrev noE : XK := fun _ _ _ => False
/-- the lambda is called -/
theorem calls_lam {f c' : Addr} {pm ctv : Value} {params : Arguments} {body : Expr} {tb : TE} {k : Nat} (L : LamP X.N X.env.scope scope y i) (hN : X.N.Nodup) (hr : Room (k + 3) X.A)
    (hbind : ∀ (q : Str) (cl : List (Str × Addr)) (pm cv ctv u : Value), bindArgs (PySem.W.kla_fn "<lambda>" q params body scope cl pm cv ctv) ⟨[u], []⟩ = pure [(y, u)])
    (hbody : ∀ (A : Around) (outer : List Env) (s : Shared) (H : Hp) (f c' : Addr), Room k (A.deeper (lamEnv X scope s.heap.objs.size f c')) → PE (lamCx X A outer s H noE scope f c') body tb) :
    Calls1 X σ [(f, lamObj X params body scope pm c' ctv)] (fun H => H c' = some (CodeO c' (X.env.qual ++ "<lambda>"))) (.ref f) (fun v H Q => tb (σ.set i (some v)) H fun w H' => H' c' = some (CodeO c' (X.env.qual ++ "<lambda>")) ∧ Q w H') := by
  intro pins s H x u Q hp I hR rx ht
  have hr2 : Room (k + 1) X.A.in1.in1 := (hr.in1).in1
  obtain ⟨hf, _⟩ := pin_at I (hp _ (.head _))
  obtain ⟨⟨oc, vs, t, o1, o2, o3⟩, _, _⟩ := I.hok c' _ hR
  have e0 : Env0 X.prog X.w X.K X.mg X.base X.A.in1.in1 X.stack s H := I.env0
  have rc : codeAny (model X.prog X.w) X.A.in1.in1 (.call (.ref f) ⟨[u], []⟩) (CR (L2.CX X.prog X.w) X.stack X.prog X.w H s (fun w H' => H' c' = some (CodeO c' (X.env.qual ++ "<lambda>")) ∧ Q w H') noE) s := by
    refine PySem.W.kla_callFunE hr2.depth hf rfl L.co L.gen rfl ⟨c', oc, vs, t, rfl, o1, o2, o3⟩ ?_
    rw [hbind]
    refine wpAny_pure (wpAny_newFunctionEnv (fun z hz => (L.own z hz).2) (fun z hz => ?_) (fun h₁ hns hsb => ⟨I.nolimit.fresh _ hsb, ?_⟩) L.kind)
    · have e : z = (y, u) := by simpa using hz
      rw [e]
      exact L.par
    · show codeAny _ _ (.expr body (lamEnv X scope s.heap.objs.size f c')) _ _
      have kp : ∀ b o, s.heap.get? b = some o → h₁.get? b = some o := fun b o e => hsb.extBut b o (Nat.ne_of_lt (Heap.lt_size e)) (Heap.get?_push_of_some _ e)
      have J : Inv (lamCx X X.A.in1.in1 X.stack s H noE scope f c') [] (σ.set i (some x)) H { s with heap := h₁, toks := s.toks + ([(y, u)] : List (Str × Value)).length } :=
        lamP_start (X := sx X) I L hN e0 hr2.hd hns kp rx
      refine PySem.W.kla_codeExpr (wpAny_mono ((hbody _ _ s H f c' (hr2.deeper _)).run [] _ _ H _ J ht) (fun w s' hq => ?_) fun e s' hq => hq)
      obtain ⟨w', H', J', rw', q⟩ := hq
      exact ⟨w', H', J'.os, J'.bare, J'.base, J'.hok, rw', q⟩
  refine wpAny_call (codeAny_mono rc fun r s' hq => ?_)
  cases r with
  | error e =>
    obtain ⟨_, _, _, _, _, _, _, _, _, _, _, _, z⟩ := (show L2.CX X.prog X.w X.stack H s noE e s' from hq)
    exact z.elim
  | ok fl =>
    cases fl with
    | ret w => exact I.after hq
    | next => exact False.elim hq
    | brk => exact False.elim hq
    | cont => exact False.elim hq
/-- a def is called -/
theorem calls_def {f : Addr} {fd : FuncData} {pn : Str} {k : Nat} {sp : Sp} (F : FnOk X.prog X.w X.K X.mg X.base (L2.CX X.prog X.w) k f fd [pn] sp) (hr : Room (k + 2) X.A) (hb : Binds X.K fd [pn] []) : Calls1 X σ [] (fun _ => True) (.ref f) (fun v H Q => sp [v] H Q noE) := by
  intro pins s H x u Q hp I hR rx ht
  refine wpAny_mono (run_fn (X := sx X) (E := noE) F ((hr.in1).in1) hb (dvs := []) .nil (fun _ _ _ _ e s' _ c => ?_) I (.cons rx .nil) (by simpa using ht)) (fun w s' hq => ?_) fun _ _ z => z
  · obtain ⟨_, _, _, _, _, _, _, _, _, _, _, _, z⟩ := c
    exact z
  · obtain ⟨w', H', J, rw', q⟩ := hq
    exact ⟨w', H', J, rw', True.intro, q⟩
/-- sorted is called -/
theorem sorted_keyed {P0 : List (Addr × Obj)} {R : Hp → Prop} {f : Value} {rev : Bool} {tf : V → Hp → VK → Prop} {xs : List V} {l : Addr} {kw : List (Str × Value)} {Q : VK}
    (cf : Calls1 X σ P0 R f tf) (I : Inv X (P0 ++ pins) σ H s) (hR : R H) (hu : X.A.units + 200 < cLine) (hs : SqL X.K H l xs) (kd : Keyed X.K rev tf xs H Q)
    (ha1 : argsOk "sorted" ⟨[.ref l], kw⟩) (ha2 : ∀ x, argsOk "list.sort" ⟨[.ref x], kw⟩) (ht : ∀ x, Builtin.«list.sort» ⟨[.ref x], kw⟩ = ksk_tree x f rev) :
    wpAny (model X.prog X.w) X.A (call (.builtin "sorted") [.ref l] kw) (EP X pins σ Q) X.xe s := by
  obtain ⟨vs, rv, hl, hz⟩ := I.list hs
  have hz2 : vs.length ≤ sizeLine := by
    rw [← rv.length]
    exact hz
  refine sorted_of_sort hl.isList hz2 ha1 ha2 fun E' => ?_
  rw [ht]
  have o0 := copyHeap_at s.heap vs
  obtain ⟨n1, o1⟩ : ∃ n1, ((copyHeap s.heap vs).update (s.heap.objs.size + 1) (Obj.mapSeq fun _ => (#[] : Array Value))).get? (s.heap.objs.size + 1) = some (seqObj "list" #[] n1) := ⟨_, get?_update_seq o0 fun _ => #[]⟩
  unfold ksk_tree
  refine wpAny_bind (listItems_at o0 rfl ?_)
  refine wpAny_bind (listUpdate_at o0 rfl ?_ (by rw [List.size_toArray]; exact hz2) (Nat.zero_le _))
  refine wpAny_bind (seqEpoch_at o1 rfl ?_)
  refine wpAny_bind (wpAny_newTuple ?_ (by show vs.length ≤ _; exact hz2))
  refine wpAny_bind (wpAny_newList ?_ (Nat.zero_le _))
  refine wpAny_holding ?_
  have hsz : s.heap.objs.size + 1 < (copyHeap s.heap vs).objs.size := Heap.lt_size o0
  have hk : (((copyHeap s.heap vs).update (s.heap.objs.size + 1) (Obj.mapSeq fun _ => (#[] : Array Value))).push (seqObj "tuple" vs.toArray 0)).objs.size = (copyHeap s.heap vs).objs.size + 1 := by rw [size_push', Heap.size_update]
  have La : Loose X (P0 ++ pins) (s.heap.objs.size + 1) := loose_new I (Nat.le_succ _)
  have Lk : Loose X (P0 ++ pins) (((copyHeap s.heap vs).update (s.heap.objs.size + 1) (Obj.mapSeq fun _ => (#[] : Array Value))).push (seqObj "tuple" vs.toArray 0)).objs.size := loose_new I (by rw [hk]; omega)
  have na : H (s.heap.objs.size + 1) = none := I.hok.fresh (Nat.le_succ _)
  have nk : H (((copyHeap s.heap vs).update (s.heap.objs.size + 1) (Obj.mapSeq fun _ => (#[] : Array Value))).push (seqObj "tuple" vs.toArray 0)).objs.size = none := I.hok.fresh (by rw [hk]; omega)
  have nc : ∀ (o : Array Value) (n : Nat) v, (seqObj "list" o n).data ≠ .cell v := fun o n v z => by cases z
  have I2 : Inv X (P0 ++ pins) σ H { s with heap := sortingHeap (copyHeap s.heap vs) (s.heap.objs.size + 1) vs } := I.kept (t' := s.toks) fun b o e => sorting_copy_old e
  have hne : s.heap.objs.size + 1 ≠ (((copyHeap s.heap vs).update (s.heap.objs.size + 1) (Obj.mapSeq fun _ => (#[] : Array Value))).push (seqObj "tuple" vs.toArray 0)).objs.size := by
    rw [hk]
    omega
  have I3 := pinOf I2 La (o := seqObj "list" #[] n1) (Heap.get?_push_of_some _ (Heap.get?_push_of_some _ o1)) na (nc _ _)
  have I4 := pinOf I3 (Lk.more hne) (o := seqObj "list" #[] 0) (Heap.get?_push_size _ rfl) nk (nc _ _)
  refine sk_rest I.ok cf (sx_inv I4) hR hu hne.symm Lk La rv hz2 kd fun H' s' J q => ⟨rfl, .ref _, H', ?_, rfl, q⟩
  exact J.pins_of fun p hp => J.pin p (List.mem_append_right _ (List.mem_append_right _ hp))
end
end KX

/-! VK3: sorted(xs, key=..) as a computation. -/
namespace VS
open PySem PySem.Spec PyProof.Rows L2 LamX KX PySem.W

/-- all things stay that a call may not touch -/
theorem FR.stay {C : VC} {B : Bd} {vw : Option Nat → Slot} {G H : Hp} (F : FR C B vw G H) :
    ∃ B' : Bd, B'.pv = B.pv ∧ FR C B' vw G H ∧ ∀ vw2 G2 H2, FR C B' vw2 G2 H2 → Same G G2 ∧ FR C B vw2 G2 H2 ∧ ∀ b φ, H b = some (.ext φ) → H2 b = some (.ext φ) := by
  obtain ⟨fp, h1, h2, h3⟩ := F.ex
  refine ⟨⟨H, G, fun p => ∃ i, p ∈ fp i, B.pv⟩, rfl, ⟨⟨fp, h1, h2, fun i p hp => ⟨(h3 i p hp).1, fun _ _ _ => ⟨i, hp⟩⟩⟩, F.gh, Same.refl _, fun a h => .inl h, fun b o e _ _ => e, F.nt, F.tb⟩, fun vw2 G2 H2 E2 => ?_⟩
  have frOf : ∀ {p}, Bd.Fr ⟨H, G, fun p => ∃ i, p ∈ fp i, B.pv⟩ p → B.Fr p := fun {p} z o e n => by
    by_cases hs : B.S p
    · exact hs
    · obtain ⟨i, hp⟩ := z o (F.kp p o e n hs) n
      exact (h3 i p hp).2 o e n
  obtain ⟨fz, k1, k2, k3⟩ := E2.ex
  refine ⟨E2.g0, ⟨⟨fz, k1, k2, fun i p hp => ⟨(k3 i p hp).1, frOf (k3 i p hp).2⟩⟩, E2.gh, F.g0.trans E2.g0, fun a ha => ?_, fun b o e n ns => ?_, E2.nt, E2.tb⟩, fun b φ e => ?_⟩
  · rcases E2.gf a ha with z | z
    · exact F.gf a z
    · exact .inr (frOf z)
  · exact E2.kp b o (F.kp b o e n ns) n fun ⟨i, hi⟩ => ns ((h3 i b hi).2 o e n)
  · refine E2.kp b _ e (fun ps z => nomatch z) fun ⟨i, hi⟩ => ?_
    obtain ⟨u, hu, pl⟩ := (h1 i).there hi
    rw [e] at hu
    cases hu
    exact pl.2 φ rfl
section
variable {C : VC} {B : Bd} {W : WX} {ρ : En} {σ : L2.St} {G H : Hp} {Q : VK} {a : M Ref}
theorem EnvR.stay (E : EnvR C B ρ σ none G H) : ∃ B' : Bd, EnvR C B' ρ σ none G H ∧ ∀ ρ' σ' G2 H2, EnvR C B' ρ' σ' none G2 H2 → EnvR C B ρ' σ' none G2 H2 ∧ ∀ b φ, H b = some (.ext φ) → H2 b = some (.ext φ) := by
  obtain ⟨B', _, b2, b3⟩ := E.fr.stay
  exact ⟨B', ⟨b2, E.len⟩, fun ρ' σ' G2 H2 E2 => ⟨⟨(b3 _ G2 H2 E2.fr).2.1, E2.len⟩, (b3 _ G2 H2 E2.fr).2.2⟩⟩
theorem post_o (P : PostO C B W σ G Q (opd a ρ)) : PostE C B W σ G Q (a ρ) := by
  unfold opd at P
  rw [mbind] at P
  cases q : a ρ with
  | stuck => rw [q] at P; exact P
  | err c ρ' => rw [q] at P; exact P
  | ok r ρ' =>
    rw [q, bind_ok] at P
    cases r with
    | loc i => exact P
    | sv s =>
      intro v G' H' E' S'
      dsimp only at P
      cases q2 : s.frz with
      | none => rw [q2] at P; exact P.elim
      | some x =>
        rw [q2] at P
        obtain ⟨G2, S2, E2, r⟩ := E'.frzRes q2
        exact P v G2 H' E2 (S'.trans S2) r
theorem post_f (P : PostF C B W σ G Q (mFrz a ρ)) : PostE C B W σ G Q (a ρ) := by
  refine post_o ?_
  unfold mFrz at P
  rw [mbind] at P
  cases q : opd a ρ with
  | stuck => rw [q] at P; exact P
  | err c ρ' => rw [q] at P; exact P
  | ok o ρ1 =>
    rw [q, bind_ok] at P
    intro v G1 H1 E1 S1 r1
    cases q2 : frzO o ρ1 with
    | stuck => rw [q2] at P; exact P.elim
    | err c ρ' => exact (frzO_noErr q2).elim
    | ok x ρ2 =>
      rw [q2] at P
      obtain ⟨G2, S2, E2, r2⟩ := frzO_ok E1 q2 r1
      exact P v G2 H1 E2 (S1.trans S2) r2
end

/-! ### the keys -/
def keyR (mf : D → M D) : List D → List D → M (List D)
  | [], acc => M.ret acc
  | x :: xs, acc => fun ρ => match mf x ρ with
    | .ok y ρ' => keyR mf xs (acc ++ [y]) ρ'
    | _ => .stuck
def sortByK (rev : Bool) (xs : List D) (ds : List PyData) : List D := ((xs.zip ds).mergeSort (dataLe rev Prod.snd)).map Prod.fst
noncomputable def srtK (rev : Bool) (xs ks : List D) : M Ref := match toPys ks with
  | some ds => @ite _ (KeysOk ds) (Classical.propDecidable _) (M.ret (.sv (.ol (sortByK rev xs ds)))) (fun _ => .stuck)
  | none => fun _ => .stuck
noncomputable def mSortK (rev : Bool) (mf : D → M D) (me : M Ref) : M Ref := M.bind (val me) fun x => match x with
  | .lst xs => M.bind (keyR mf xs []) (srtK rev xs)
  | _ => fun _ => .stuck
/-- what the key's reading makes of a thing -/
def SndK (C : VC) (R : Hp → Prop) (tf : L2.St → V → Hp → VK → Prop) (mf : D → M D) : Prop := ∀ B ρ σ G H x v y ρ' (Q : VK), EnvR C B ρ σ none G H → R H → Rp C G v x → mf x ρ = .ok y ρ' →
  (∀ w G' H', EnvR C B ρ' σ none G' H' → Same G G' → Rp C G' w y → R H' → Q w H') → tf σ v H Q
def mKeyD (den : Den) : D → M D := fun x => mFrz (callD den [.d x])
def mKeyL (i : Nat) (mb : M Ref) : D → M D := fun x ρ => if isData (ρ.getD i none) = true then (match mFrz mb (ρ.set i (some (.d x))) with
  | .ok y ρ' => .ok y (restE ρ ρ' [i])
  | _ => .stuck) else .stuck
section
variable {C : VC}
theorem sndk_def {den : Den} : SndK C (fun _ => True) (fun σ v H Q => spD C 1 den [v] H Q noE) (mKeyD den) := by
  intro B ρ σ G H x v y ρ' Q E _ r e q
  have P : PostF C B W0 σ G Q (mFrz (callD den [.d x]) ρ) := by
    rw [show mFrz (callD den [.d x]) ρ = .ok y ρ' from e]
    exact fun w G' H' E' S' r' => q w G' H' E' S' r' True.intro
  exact post_call rfl E (OpdsR.cons (o := .d x) r .nil) (post_f P)
theorem sndk_lam {i : Nat} {c' : Addr} {q : Str} {tb : TE} {mb : M Ref} (h : SndE C W0 tb mb) :
    SndK C (fun H => H c' = some (CodeO c' q)) (fun σ v H Q => tb (σ.set i (some v)) H fun w H' => H' c' = some (CodeO c' q) ∧ Q w H') (mKeyL i mb) := by
  intro B ρ σ G H x v y ρ' Q E hR r e q
  obtain ⟨B', E1, back⟩ := E.stay
  have E2 : EnvR C B' (ρ.set i (some (.d x))) (σ.set i (some v)) none G H :=
    sg_name (P := []) (by simp) B' ρ σ G H (fun σ' H' => EnvR C B' (ρ.set i (some (.d x))) σ' none G H') x v _ E1 (fun j hj => absurd hj (by simp)) r rfl fun σ' E' _ _ => E'
  refine h.f E2 ?_
  unfold mKeyL at e
  by_cases hd : isData (ρ.getD i none) = true
  · rw [if_pos hd] at e
    cases q2 : mFrz mb (ρ.set i (some (.d x))) with
    | stuck => rw [q2] at e; cases e
    | err c ρ2 => rw [q2] at e; cases e
    | ok y2 ρ2 =>
      rw [q2] at e
      cases e
      intro w G' H' E3 S3 r3
      obtain ⟨E4, k⟩ := back _ _ _ _ E3
      refine ⟨k c' _ hR, q w G' H' (E4.rest E.len (by simp) (fun j hj => ?_) (fun j hj => ?_) fun j x e => ?_) S3 r3 (k c' _ hR)⟩
      · rw [List.getElem?_set_ne (fun z => hj (by simp [z]))]
      · have e : j = i := by simpa using hj
        rw [e]
        exact hd
      · obtain ⟨v, fp, h1, o⟩ := E.own e
        exact ⟨v, h1, Rp.mono S3 o.2⟩
  · rw [if_neg hd] at e
    cases e
theorem toPys_len : ∀ {xs : List D} {ds : List PyData}, toPys xs = some ds → ds.length = xs.length
  | [], ds, h => by
    rw [toPys] at h
    cases h
    rfl
  | x :: xs, ds, h => by
    rw [toPys] at h
    cases q : toPy x with
    | none => rw [q] at h; cases h
    | some d =>
      rw [q] at h
      cases q2 : toPys xs with
      | none => rw [q2] at h; cases h
      | some es =>
        rw [q2] at h
        cases h
        rw [List.length_cons, List.length_cons, toPys_len q2]
theorem rpl_of {G : Hp} {α : Type} {f : α → V} {g : α → D} : ∀ {ps : List α}, (∀ p ∈ ps, Rp C G (f p) (g p)) → RpL C G (ps.map f) (ps.map g)
  | [], _ => .nil
  | p :: ps, h => .cons (h p (.head _)) (rpl_of fun p hp => h p (.tail _ hp))
theorem rpl_zip {G : Hp} : ∀ {vs : List V} {xs : List D}, RpL C G vs xs → ∀ p ∈ vs.zip xs, Rp C G p.1 p.2
  | _, _, .nil, p, hp => by simp at hp
  | _, _, .cons r rs, p, hp => by
    rw [List.zip_cons_cons] at hp
    rcases List.mem_cons.mp hp with rfl | hp
    · exact r
    · exact rpl_zip rs p hp
theorem rpl_byKey {G : Hp} {rev : Bool} {vs : List V} {xs : List D} {ds : List PyData} (r : RpL C G vs xs) (hl : ds.length = xs.length) : RpL C G (byKey rev vs ds) (sortByK rev xs ds) := by
  have hv := r.length
  have e1 : vs.zip ds = ((vs.zip xs).zip ds).map fun p => (p.1.1, p.2) := by
    rw [show (fun p : (V × D) × PyData => (p.1.1, p.2)) = Prod.map Prod.fst id from rfl, ← List.zip_map_left, List.map_fst_zip (by omega)]
  have e2 : xs.zip ds = ((vs.zip xs).zip ds).map fun p => (p.1.2, p.2) := by
    rw [show (fun p : (V × D) × PyData => (p.1.2, p.2)) = Prod.map Prod.snd id from rfl, ← List.zip_map_left, List.map_snd_zip (by omega)]
  unfold byKey sortByK
  have f1 := List.map_mergeSort (f := fun p : (V × D) × PyData => (p.1.1, p.2)) (s := dataLe rev Prod.snd) (r := dataLe rev fun p : (V × D) × PyData => p.2) (l := (vs.zip xs).zip ds) (fun _ _ _ _ => rfl)
  have f2 := List.map_mergeSort (f := fun p : (V × D) × PyData => (p.1.2, p.2)) (s := dataLe rev Prod.snd) (r := dataLe rev fun p : (V × D) × PyData => p.2) (l := (vs.zip xs).zip ds) (fun _ _ _ _ => rfl)
  rw [e1, e2, ← f1, ← f2, List.map_map, List.map_map]
  refine rpl_of fun p hp => ?_
  have hm : p ∈ (vs.zip xs).zip ds := List.mem_mergeSort.mp hp
  exact rpl_zip r p.1 (List.of_mem_zip hm).1
theorem keyed_of {R : Hp → Prop} {tf : L2.St → V → Hp → VK → Prop} {mf : D → M D} {rev : Bool} {B : Bd} {ρ ρ2 : En} {σ : L2.St} {G H : Hp} {vs : List V} {xs ks : List D} {ds : List PyData} {Q : VK} (hf : SndK C R tf mf) (E : EnvR C B ρ σ none G H) (hR : R H) (r : RpL C G vs xs)
    (e : keyR mf xs [] ρ = .ok ks ρ2) (ed : toPys ks = some ds) (ho : KeysOk ds) (q : ∀ v G' H', EnvR C B ρ2 σ (some (.ol (sortByK rev xs ds), v)) G' H' → Same G G' → Q v H') : Keyed C.K rev (tf σ) vs H Q := by
  have hv := r.length
  refine ⟨fun i ys H1 => ∃ ρ1 G1 ks1, EnvR C B ρ1 σ none G1 H1 ∧ Same G G1 ∧ R H1 ∧ RpL C G1 ys ks1 ∧ ks1.length = i ∧ keyR mf (xs.drop i) ks1 ρ1 = .ok ks ρ2, ⟨ρ, G, [], E, Same.refl _, hR, .nil, rfl, e⟩, ?_, ?_⟩
  · rintro i ys H1 v hi ⟨ρ1, G1, ks1, E1, S1, R1, rk, lk, e1⟩
    have hix : i < xs.length := by
      have := (List.getElem?_eq_some_iff.mp hi).1
      omega
    rw [List.drop_eq_getElem_cons hix] at e1
    unfold keyR at e1
    obtain ⟨x, hx, rx⟩ := r.getV hi
    obtain rfl : xs[i] = x := by
      have := hx
      rw [List.getElem?_eq_getElem hix] at this
      exact Option.some.inj this
    cases q1 : mf xs[i] ρ1 with
    | stuck => rw [q1] at e1; cases e1
    | err c ρ' => rw [q1] at e1; cases e1
    | ok y ρ' =>
      rw [q1] at e1
      exact hf B ρ1 σ G1 H1 _ v y ρ' _ E1 R1 (rx.mono S1) q1 fun w G' H' E' S' r' R' => ⟨ρ', G', ks1 ++ [y], E', S1.trans S', R', (rk.mono S').app (.cons r' .nil), by rw [List.length_append, lk]; rfl, e1⟩
  · rintro ys H1 ⟨ρ1, G1, ks1, E1, S1, R1, rk, lk, e1⟩
    rw [hv, List.drop_length] at e1
    obtain ⟨rfl, rfl⟩ : ks1 = ks ∧ ρ1 = ρ2 := by
      unfold keyR M.ret at e1
      cases e1
      exact ⟨rfl, rfl⟩
    have dl := toPys_len ed
    exact ⟨ds, by omega, dp_ofs (rk.mono E1.fr.gh) ed, ho, fun p hp => q _ G1 _ (E1.newL hp (rpl_byKey (r.mono S1) (by omega))) S1⟩
/-- the whole, with the list at hand -/
theorem sortk_core {R : Hp → Prop} {tf : L2.St → V → Hp → VK → Prop} {mf : D → M D} {rev : Bool} {B : Bd} {W : WX} {ρ : En} {σ : L2.St} {G H : Hp} {xs : List D} {v : V} {Q : VK} (hf : SndK C R tf mf) (E : EnvR C B ρ σ none G H) (hR : R H) (r : RpS C G H v (.lst xs))
    (P : PostE C B W σ G Q ((M.bind (keyR mf xs []) (srtK rev xs)) ρ)) : ∃ l vs, v = .ref l ∧ SqL C.K H l vs ∧ Keyed C.K rev (tf σ) vs H Q := by
  obtain ⟨l, vs, rfl, hl, rl⟩ := rs_lst r
  refine ⟨l, vs, rfl, .of hl, ?_⟩
  rw [mbind] at P
  have noErr : ∀ {xs acc : List D} {ρ : En} {c : Str} {ρ' : En}, keyR mf xs acc ρ ≠ .err c ρ' := by
    intro xs
    induction xs with
    | nil => exact fun h => by cases h
    | cons x xs ih =>
      intro acc ρ c ρ' h
      unfold keyR at h
      split at h
      · exact ih h
      · cases h
  cases q : keyR mf xs [] ρ with
  | stuck => rw [q] at P; exact P.elim
  | err c ρ' => exact absurd q noErr
  | ok ks ρ1 =>
    rw [q, bind_ok] at P
    unfold srtK at P
    cases q2 : toPys ks with
    | none => rw [q2] at P; exact P.elim
    | some ds =>
      rw [q2] at P
      dsimp only at P
      by_cases ho : KeysOk ds
      · rw [if_pos ho] at P
        exact keyed_of hf E hR rl q q2 ho P
      · rw [if_neg ho] at P
        exact P.elim
end
end VS

/-! VK4: sorted(xs, key=..) in the walk. -/
namespace VS
open PySem PySem.Spec PyProof.Rows L2 LamX KX PySem.W
/-- the values of the keywords, and the keys -/
def rSK (K : PySem.W.Frag) (rev : Bool) (zs0 : List V) (tf : V → Hp → VK → Prop) : List V → List V → Hp → VK → Prop := fun vs zs H Q => ∃ (l : Addr) (xs : List V), vs = [V.ref l] ∧ zs = zs0 ∧ SqL K H l xs ∧ Keyed K rev tf xs H Q
def tSKL (K : PySem.W.Frag) (T : List (Addr × Str)) (q : Str) (i : Nat) (te tb : TE) : TE := fun σ H Q => te σ H fun a H1 => Tabs T H1 ∧ ∀ H2, ExtN H1 H2 → Tabs T H2 → ∀ c', H2 c' = some (CodeO c' q) →
  ∃ (l : Addr) (xs : List V), a = V.ref l ∧ SqL K H2 l xs ∧ Keyed K false (fun v H Q => tb (σ.set i (some v)) H fun w H' => H' c' = some (CodeO c' q) ∧ Q w H') xs H2 Q
section
variable {C : VC} {X : Cx} {W : WX} {e : Expr} {te tb : TE} {me mb : M Ref} {p fp kp rp pos : Pos} {x pn : Str} {st : Stmt} {k : Nat} {den : Den}
theorem snd_sk {f : Addr} {rev : Bool} {zs : List V} {tk : TA} (hk : ∀ σ H Q, Q zs H → tk σ H Q) (h : SndE C W te me) : SndE C W (tCKw (rSK C.K rev zs fun v H Q => spD C 1 den [v] H Q noE) (tCons te tNil) tk) (mSortK rev (mKeyD den) me) := by
  intro B ρ σ G H Q E P
  refine h.v B ρ σ G H _ E ?_
  unfold mSortK at P
  rw [mbind] at P
  cases q : val me ρ with
  | stuck => rw [q] at P; exact P
  | err c ρ' => rw [q] at P; exact P
  | ok x ρ1 =>
    rw [q, bind_ok] at P
    intro v G1 H1 E1 S1 r1
    refine hk σ H1 _ ?_
    cases x with
    | lst xs =>
      obtain ⟨l, vs, rfl, hs, kd⟩ := sortk_core (sndk_def (C := C) (den := den)) E1 True.intro r1 (P.same S1)
      exact ⟨l, vs, rfl, rfl, hs, kd⟩
    | _ => exact P.elim
theorem fv_calls (F : FV C X.prog X.w X.base k x st [pn] den) (hr : Room (k + 2) X.A) (hb : ∀ (kV doc pm : Value) (an : Option Addr) (cdv ct : Value) (us : List Value), us.length = ([pn] : List Str).length → bindArgs (PySem.W.fnOf x x (defArgs st) (defBody st) (defScope st) .none kV doc pm an cdv ct) ⟨us, []⟩ = pure (([pn] : List Str).zip us))
    (hK : X.K = C.K) (hm : X.mg = C.mg) {σ : L2.St} : Calls1 X σ [] (fun _ => True) (.ref (He.ga C.K x)) (fun v H Q => spD C 1 den [v] H Q noE) := by
  obtain ⟨fd, G, kV, doc, pm, an, cdv, ct, e1⟩ := F.fn
  rw [← hK, ← hm] at G
  rw [← hK]
  refine calls_def G hr (.all fun us h => ?_)
  rw [e1]
  exact hb kV doc pm an cdv ct us h
/-- sorted(e, key=f) -/
theorem se_skd (F : FV C X.prog X.w X.base k x st [pn] den) (hr : Room (k + 2) X.A) (hg : Gl X "sorted") (hm0 : X.mg "sorted" = none) (hgx : Gl X x) (h : SE C X W e te me)
    (hb : ∀ (kV doc pm : Value) (an : Option Addr) (cdv ct : Value) (us : List Value), us.length = ([pn] : List Str).length → bindArgs (PySem.W.fnOf x x (defArgs st) (defBody st) (defScope st) .none kV doc pm an cdv ct) ⟨us, []⟩ = pure (([pn] : List Str).zip us))
    (hK : X.K = C.K := by rfl) (hm : X.mg = C.mg := by rfl) (hdb : (x == ("__debug__" : Str)) = false := by decide) (h1 : starEach [e] X.env = (false, eval e X.env) :: starEach [] X.env := by rfl)
    (he : backTo pos (starEach [e] X.env) = (false, eval e X.env) :: backTo pos (starEach [] X.env) := by rfl) (hpl : (backTo pos (starEach [e] X.env)).any (·.1) = false := by rfl)
    (hall : (backToKw pos (keywordEach [⟨some "key", .Name x fp, kp⟩] X.env)).all (·.1.isSome) = true := by rfl) (hnone : (backToKw pos (keywordEach [⟨some "key", .Name x fp, kp⟩] X.env)).any (·.1.isNone) = false := by rfl) (hks : (backToKw pos (keywordEach [⟨some "key", .Name x fp, kp⟩] X.env)).filterMap (·.1) = [Str.ofString "key"] := by rfl) :
    SE C X W (.Call (.Name "sorted" p) [e] [⟨some "key", .Name x fp, kp⟩] pos) (tCKw (rSK C.K false [.ref (He.ga C.K x)] fun v H Q => spD C 1 den [v] H Q noE) (tCons te tNil) (tCons (tC (.ref (He.ga C.K x))) tNil)) (mSortK false (mKeyD den) me) := by
  suffices cr : CallRK X (.builtin "sorted") [Str.ofString "key"] (rSK C.K false [.ref (He.ga C.K x)] fun v H Q => spD C 1 den [v] H Q noE) from ⟨pe_callBK cr hg hm0 (by decide +kernel) (pa_cons h.pe pa_nil h1) (pk_cons (pe_glob hgx (by rw [hm]; exact F.gl) rfl hdb) pk_nil) (by decide) (by decide) he hpl hall hnone hks, snd_sk (f := 0) (fun _ _ _ z => z) h.snd⟩
  intro pins s σ H vs zs us ws Q I r rz hq
  obtain ⟨l, xs, rfl, rfl, hs, kd⟩ := hq
  obtain rfl := Vals.ref1 r
  obtain ⟨w1, rfl, e1⟩ := vals1 rz
  obtain rfl : w1 = Value.ref (He.ga C.K x) := e1
  rw [← hK] at hs kd
  have un := hr.un
  exact sorted_keyed (P0 := []) (fv_calls F hr hb hK hm) I True.intro (by omega) hs kd (ksk_s1 _ _) (fun _ => ksk_l1 _ _) (fun _ => ksk_t1 _ _)
/-- sorted(e, key=f, reverse=b) -/
theorem se_skdr {b : Bool} {j : Nat} {bp : Pos} (F : FV C X.prog X.w X.base k x st [pn] den) (hr : Room (k + 2) X.A) (hg : Gl X "sorted") (hm0 : X.mg "sorted" = none) (hgx : Gl X x) (h : SE C X W e te me)
    (hb : ∀ (kV doc pm : Value) (an : Option Addr) (cdv ct : Value) (us : List Value), us.length = ([pn] : List Str).length → bindArgs (PySem.W.fnOf x x (defArgs st) (defBody st) (defScope st) .none kV doc pm an cdv ct) ⟨us, []⟩ = pure (([pn] : List Str).zip us))
    (hK : X.K = C.K := by rfl) (hm : X.mg = C.mg := by rfl) (hdb : (x == ("__debug__" : Str)) = false := by decide) (h1 : starEach [e] X.env = (false, eval e X.env) :: starEach [] X.env := by rfl)
    (he : backTo pos (starEach [e] X.env) = (false, eval e X.env) :: backTo pos (starEach [] X.env) := by rfl) (hpl : (backTo pos (starEach [e] X.env)).any (·.1) = false := by rfl)
    (hall : (backToKw pos (keywordEach [⟨some "key", .Name x fp, kp⟩, ⟨some "reverse", .Constant (.bool b) j bp, rp⟩] X.env)).all (·.1.isSome) = true := by rfl) (hnone : (backToKw pos (keywordEach [⟨some "key", .Name x fp, kp⟩, ⟨some "reverse", .Constant (.bool b) j bp, rp⟩] X.env)).any (·.1.isNone) = false := by rfl)
    (hks : (backToKw pos (keywordEach [⟨some "key", .Name x fp, kp⟩, ⟨some "reverse", .Constant (.bool b) j bp, rp⟩] X.env)).filterMap (·.1) = [Str.ofString "key", Str.ofString "reverse"] := by rfl) :
    SE C X W (.Call (.Name "sorted" p) [e] [⟨some "key", .Name x fp, kp⟩, ⟨some "reverse", .Constant (.bool b) j bp, rp⟩] pos) (tCKw (rSK C.K b [.ref (He.ga C.K x), .bl b] fun v H Q => spD C 1 den [v] H Q noE) (tCons te tNil) (tCons (tC (.ref (He.ga C.K x))) (tCons (tC (.bl b)) tNil))) (mSortK b (mKeyD den) me) := by
  suffices cr : CallRK X (.builtin "sorted") [Str.ofString "key", Str.ofString "reverse"] (rSK C.K b [.ref (He.ga C.K x), .bl b] fun v H Q => spD C 1 den [v] H Q noE) from ⟨pe_callBK cr hg hm0 (by decide +kernel) (pa_cons h.pe pa_nil h1) (pk_cons (pe_glob hgx (by rw [hm]; exact F.gl) rfl hdb) (pk_cons pe_bl pk_nil)) (by decide) (by decide) he hpl hall hnone hks, snd_sk (f := 0) (fun _ _ _ z => z) h.snd⟩
  intro pins s σ H vs zs us ws Q I r rz hq
  obtain ⟨l, xs, rfl, rfl, hs, kd⟩ := hq
  obtain rfl := Vals.ref1 r
  obtain ⟨w1, w2, rfl, e1, e2⟩ := vals2 rz
  obtain rfl : w1 = Value.ref (He.ga C.K x) := e1
  obtain rfl : w2 = Value.bool b := e2
  rw [← hK] at hs kd
  have un := hr.un
  exact sorted_keyed (P0 := []) (fv_calls F hr hb hK hm) I True.intro (by omega) hs kd (ksk_s2 _ _ _) (fun _ => ksk_l2 _ _ _) (fun _ => ksk_t2 _ _ _)
/-! ### a lambda -/
variable {y : Str} {i : Nat} {cc Pt : Addr} {params : Arguments} {body : Expr} {scope : Scope} {lpos : Pos}
theorem pe_skl (hr : Room (k + 3) X.A) (hN : X.N.Nodup) (hg : Gl X "sorted") (hm0 : X.mg "sorted" = none) (TB : TabB X.base X.mg cc Pt) (hcode : X.env.code = .ref cc) (hT : (Pt, X.env.qual ++ "<lambda>") ∈ C.T) (hu : ∀ p ∈ C.T, p.1 = Pt → p.2 = X.env.qual ++ "<lambda>")
    (L : LamP X.N X.env.scope scope y i) (h : PE X e te)
    (hbind : ∀ (q : Str) (cl : List (Str × Addr)) (pm cv ctv u : Value), bindArgs (PySem.W.kla_fn "<lambda>" q params body scope cl pm cv ctv) ⟨[u], []⟩ = pure [(y, u)])
    (hbody : ∀ (A : Around) (outer : List Env) (s : Shared) (H : Hp) (f c' : Addr), Room k (A.deeper (lamEnv X scope s.heap.objs.size f c')) → PE (lamCx X A outer s H noE scope f c') body tb)
    (hdef : defaultsOf params X.env = ([], [])) (h1 : starEach [e] X.env = (false, eval e X.env) :: starEach [] X.env)
    (he : backTo pos (starEach [e] X.env) = (false, eval e X.env) :: backTo pos (starEach [] X.env)) (hpl : (backTo pos (starEach [e] X.env)).any (·.1) = false)
    (hall : (backToKw pos (keywordEach [⟨some "key", .Lambda params body scope lpos, kp⟩] X.env)).all (·.1.isSome) = true) (hnone : (backToKw pos (keywordEach [⟨some "key", .Lambda params body scope lpos, kp⟩] X.env)).any (·.1.isNone) = false)
    (hks : (backToKw pos (keywordEach [⟨some "key", .Lambda params body scope lpos, kp⟩] X.env)).filterMap (·.1) = [Str.ofString "key"]) :
    PE X (.Call (.Name "sorted" p) [e] [⟨some "key", .Lambda params body scope lpos, kp⟩] pos) (tSKL X.K C.T (X.env.qual ++ "<lambda>") i te tb) := by
  refine ⟨fun pins s σ H Q I hq => ?_⟩
  refine wpAny_Call_Name_kw (ld_blt I hg hm0 (by decide +kernel : bootBuiltins "sorted" = some (.builtin "sorted")) ?_)
  refine PyProof.Rows.callWith_kw (thn ((pa_cons h pa_nil h1).run pos pins s σ H (fun vs H1 => match vs with
    | [a] => Tabs C.T H1 ∧ ∀ H2, ExtN H1 H2 → Tabs C.T H2 → ∀ c', H2 c' = some (CodeO c' (X.env.qual ++ "<lambda>")) →
      ∃ (l : Addr) (xs : List V), a = V.ref l ∧ SqL X.K H2 l xs ∧ Keyed X.K false (fun v H Q => tb (σ.set i (some v)) H fun w H' => H' c' = some (CodeO c' (X.env.qual ++ "<lambda>")) ∧ Q w H') xs H2 Q
    | _ => False) I hq) fun us s1 ⟨vs, H1, I1, r1, q1⟩ => ?_) he hpl hall hnone
  match vs, r1, q1 with
  | [], _, q1 => exact q1.elim
  | _ :: _ :: _, _, q1 => exact q1.elim
  | [a], r1, q1 =>
  obtain ⟨t1, q1⟩ := q1
  rw [hks]
  show wpAny _ _ (evalAll [do let v ← eval (.Lambda params body scope lpos) X.env; standAt pos; pure v]) _ _ s1
  refine wpAny_evalAll_cons (wpAny_bind (lam_make2 I1 TB hcode hT hu t1 hdef (L.has I.ok) fun f c' pm ctv H2 s2 I2 eN T2 hf hfn hfr hco => wpAny_bind (wpAny_standAt (wpAny_pure (wpAny_evalAll_nil ?_)))))
  obtain ⟨l, xs, rfl, hs, kd⟩ := q1 H2 eN T2 c' hco
  obtain rfl := Vals.ref1 r1
  have un := hr.un
  have I3 : Inv X ([(f, lamObj X params body scope pm c' ctv)] ++ pins) σ H2 s2 := I2.pins_of fun z hz => by
    rcases List.mem_cons.mp hz with rfl | hz
    · refine ⟨hf, hfn, fun ef => ?_, fun ef => hfr ?_, fun v z => by cases z⟩
      · obtain ⟨m, ⟨o, es, ep, ho, hd, _⟩, _⟩ := I2.loc
        rw [← ef, hf] at ho
        cases ho
        cases hd
      · rcases I2.ok.stk with k | ⟨k, _⟩
        · rw [k]
          exact ef
        · rw [k]
          have ef : f ∈ (X.outer.filterMap (·.frame)) := ef
          unfold frs
          rw [List.filterMap_cons]
          split
          · exact ef
          · exact List.mem_cons_of_mem _ ef
    · exact I2.pin z (List.mem_append_right _ hz)
  exact sorted_keyed (calls_lam L hN hr hbind hbody) I3 hco (by omega) hs kd (ksk_s1 _ _) (fun _ => ksk_l1 _ _) (fun _ => ksk_t1 _ _)
/-- sorted(e, key=lambda y: body) -/
theorem se_skl (hr : Room (k + 3) X.A) (hN : X.N.Nodup) (hg : Gl X "sorted") (hm0 : X.mg "sorted" = none) (TB : TabB X.base X.mg cc Pt) (hcode : X.env.code = .ref cc) (hT : (Pt, X.env.qual ++ "<lambda>") ∈ C.T) (hu : ∀ p ∈ C.T, p.1 = Pt → p.2 = X.env.qual ++ "<lambda>")
    (L : LamP X.N X.env.scope scope y i) (h : SE C X W e te me)
    (hbody : ∀ (A : Around) (outer : List Env) (s : Shared) (H : Hp) (f c' : Addr), Room k (A.deeper (lamEnv X scope s.heap.objs.size f c')) → SE C (lamCx X A outer s H noE scope f c') W0 body tb mb)
    (hbind : ∀ (q : Str) (cl : List (Str × Addr)) (pm cv ctv u : Value), bindArgs (PySem.W.kla_fn "<lambda>" q params body scope cl pm cv ctv) ⟨[u], []⟩ = pure [(y, u)] := by intros; rfl)
    (hK : X.K = C.K := by rfl) (hdef : defaultsOf params X.env = ([], []) := by rfl) (h1 : starEach [e] X.env = (false, eval e X.env) :: starEach [] X.env := by rfl)
    (he : backTo pos (starEach [e] X.env) = (false, eval e X.env) :: backTo pos (starEach [] X.env) := by rfl) (hpl : (backTo pos (starEach [e] X.env)).any (·.1) = false := by rfl)
    (hall : (backToKw pos (keywordEach [⟨some "key", .Lambda params body scope lpos, kp⟩] X.env)).all (·.1.isSome) = true := by rfl) (hnone : (backToKw pos (keywordEach [⟨some "key", .Lambda params body scope lpos, kp⟩] X.env)).any (·.1.isNone) = false := by rfl)
    (hks : (backToKw pos (keywordEach [⟨some "key", .Lambda params body scope lpos, kp⟩] X.env)).filterMap (·.1) = [Str.ofString "key"] := by rfl) :
    SE C X W (.Call (.Name "sorted" p) [e] [⟨some "key", .Lambda params body scope lpos, kp⟩] pos) (tSKL C.K C.T (X.env.qual ++ "<lambda>") i te tb) (mSortK false (mKeyL i mb) me) := by
  refine ⟨hK ▸ pe_skl hr hN hg hm0 TB hcode hT hu L h.pe hbind (fun A outer s H f c' r => (hbody A outer s H f c' r).pe) hdef h1 he hpl hall hnone hks, ?_⟩
  have hb := (hbody X.A [] X.s_0 X.H_0 0 0 ((Room.deeper (k := k) (hr.mono (by omega)) _))).snd
  intro B ρ σ G H Q E P
  refine h.snd.v B ρ σ G H _ E ?_
  unfold mSortK at P
  rw [mbind] at P
  cases q : val me ρ with
  | stuck => rw [q] at P; exact P
  | err c ρ' => rw [q] at P; exact P
  | ok x ρ1 =>
    rw [q, bind_ok] at P
    intro v G1 H1 E1 S1 r1
    refine ⟨E1.fr.tb, fun H2 eN T2 c' hc => ?_⟩
    cases x with
    | lst xs =>
      have E2 := E1.extN eN T2
      have r2 : RpS C G1 H2 v (.lst xs) := by
        obtain ⟨a, vs, rfl, ha, rl⟩ := rs_lst r1
        exact ⟨a, vs, rfl, eN _ _ ha (fun _ z => nomatch z), rl⟩
      exact sortk_core (sndk_lam hb) E2 hc r2 (P.same S1)
    | _ => exact P.elim
end
end VS

/-! VE3: the end of a law whose tables bear several names. -/
namespace VS
open PySem PySem.Spec PyProof.Rows L2 LamX
theorem tab_one {α β γ : Type} {g : α → β} {nm : α → γ} : ∀ {l : List α}, (l.map g).Nodup → ∀ {f : α}, f ∈ l → ∀ p ∈ l.map (fun x => (g x, nm x)), p.1 = g f → p.2 = nm f
  | [], _, _, h, _, _, _ => nomatch h
  | x :: l, n, f, h, p, hp, e => by
    rw [List.map_cons, List.nodup_cons] at n
    rw [List.map_cons] at hp
    rcases List.mem_cons.mp h with rfl | h
    · rcases List.mem_cons.mp hp with rfl | hp
      · rfl
      · obtain ⟨y, hy, rfl⟩ := List.mem_map.mp hp
        exact absurd (e ▸ List.mem_map.mpr ⟨y, hy, rfl⟩) n.1
    · rcases List.mem_cons.mp hp with rfl | hp
      · have e : g x = g f := e
        exact absurd (e ▸ List.mem_map.mpr ⟨f, h, rfl⟩) n.1
      · exact tab_one n.2 h p hp e
theorem law_end2 {l : PySem.W.OpenLaw} {w : World} {K : PySem.W.Frag} {mg : Str → Option Value} {k n : Nat} {x : Str} {fa : Addr} {h : Heap} {tf : List He.Defn} {fd : FuncData} {den : Den} {T : List (Addr × Str)} {nm : He.Defn → Str}
    (h1 : ∀ p ∈ tf, h.get? (He.cT K p).2 = some { cls := .none, data := .fields #[] }) (h2 : ∀ p ∈ tf, K.lookup (He.cT K p).2 = none) (h3 : ∀ p ∈ tf, PySem.W.CodeHd h (He.cT K p).1 (He.cT K p).2)
    (hT : T = tf.map fun p => ((He.cT K p).2, nm p)) (hb : ∀ (s : Shared) (u : Value), BindsTo s fd ⟨[u], []⟩ [(x, u)])
    (hF : ∀ base : Heap, K.In base → base.Ns mainGlobals mg → (∀ p ∈ tf, TabB base mg (He.cT K p).1 (He.cT K p).2) → FnOk l.prog w K mg base (L2.CX l.prog w) k fa fd [x] (spD ⟨K, mg, T, l.prog, w⟩ 1 den))
    (hden : ∀ ns : List Int, ns.length ≤ n → ∃ outs, den [.sc ns] = .ok (.d (.bl true)) outs) : LawAtS l w K (L2.CX l.prog w) k n x mg fa h := by
  have mem : ∀ {q : Addr × Addr → Prop}, (∀ p ∈ tf, q (He.cT K p)) → ∀ p ∈ tf.map (He.cT K), q p := fun {q} z p hp => by
    obtain ⟨d, hd, e⟩ := List.mem_map.mp hp
    rw [← e]
    exact z d hd
  refine ⟨fd, tf.map (He.cT K), spD ⟨K, mg, T, l.prog, w⟩ 1 den, mem h1, mem h2, mem h3, hb, fun H a ns hl _ ht hS => start_sp (fun p hp => ?_) hS (hden ns hl), fun base b1 b2 b3 => hF base b1 b2 fun p hp => b3 _ (List.mem_map.mpr ⟨p, hp, rfl⟩)⟩
  have hp : p ∈ T := hp
  rw [hT] at hp
  obtain ⟨d, hd, e⟩ := List.mem_map.mp hp
  rw [← e]
  exact ht _ (List.mem_map.mpr ⟨d, hd, rfl⟩)
end VS

/-! VK5: tuple(reversed(a list)). -/
namespace VS
open PySem PySem.Spec PyProof.Rows L2 RT
def dRevT : D → Option Rv
  | .lst xs => some (.nt xs.reverse)
  | _ => none
section
variable {C : VC} {X : Cx} {W : WX} {e : Expr} {te : TE} {me : M Ref} {p pos p2 pos2 : Pos}
theorem rule_revT : RuleU C (fun v H Q => ∃ (a : Addr) (xs : List V), v = .ref a ∧ SqL C.K H a xs ∧ ∀ q, H q = none → Q (.ref q) (upd H q (.tup xs.reverse))) dRevT := by
  intro G H v x r Q S h hf hF
  cases x with
  | lst xs =>
    obtain ⟨a, vs, rfl, ha, rl⟩ := rs_lst h
    cases hf
    exact ⟨a, vs, rfl, .of ha, fun q hq => hF.1 _ q rl.rev hq⟩
  | _ => cases hf
theorem se_tupRev (hc : X.calm = true) (hg : Gl X "tuple") (hm : X.mg "tuple" = none) (hg2 : Gl X "reversed") (hm2 : X.mg "reversed" = none) (h : SE C X W e te me) (hK : X.K = C.K := by rfl)
    (hs : starEach [e] X.env = (false, eval e X.env) :: starEach [] X.env := by rfl)
    (hs2 : starEach [.Call (.Name "reversed" p2) [e] [] pos2] X.env = (false, eval (.Call (.Name "reversed" p2) [e] [] pos2) X.env) :: starEach [] X.env := by rfl) :
    SE C X W (.Call (.Name "tuple" p) [.Call (.Name "reversed" p2) [e] [] pos2] [] pos) (tTupRev C.K te) (mUn dRevT me) := ⟨hK ▸ pe_tupRev hc hg hm hg2 hm2 h.pe hs hs2, snd_u rule_revT h.snd⟩
end
end VS

/-! VO: ==, != and * of instances by the class's own methods. -/
namespace OX
open PySem PySem.Spec PyProof.Rows L2 PySem.W KX
/-- what stands on the right: None, a whole number, a tuple, a list, an instance of the class at Ca -/
def TyR (K : PySem.W.Frag) (Ca : Addr) (y : V) (H : Hp) : Prop :=
  y = .non ∨ (∃ i, y = .int i) ∨ (∃ a xs, y = .ref a ∧ SqT K H a xs) ∨ (∃ a xs, y = .ref a ∧ SqL K H a xs) ∨ ∃ a dx fs, y = .ref a ∧ H a = some (.ins Ca dx fs)
def TyB (Ca : Addr) (tb : Value) : Prop := tb = .ref Ca ∨ ∃ n : String, tb = .type n ∧ n ∈ ["NoneType", "int", "tuple", "list"]
section
variable {X : Cx} {pins : List (Addr × Obj)} {σ : L2.St} {H : Hp} {s : Shared} {Ca : Addr} {M : Model}
theorem ty_look {y : V} {u : Value} (I : Inv X pins σ H s) (r : RelV y u) (h : TyR X.K Ca y H) : ∃ tb, Looks M s.heap (typeOf u) tb ∧ TyB Ca tb := by
  rcases h with rfl | ⟨i, rfl⟩ | ⟨a, xs, rfl, h⟩ | ⟨a, xs, rfl, h⟩ | ⟨a, dx, fs, rfl, h⟩
  · cases r
    exact ⟨_, Looks.of_pure rfl, .inr ⟨"NoneType", rfl, by decide⟩⟩
  · obtain ⟨t, rfl⟩ := r
    exact ⟨_, Looks.of_pure rfl, .inr ⟨"int", rfl, by decide⟩⟩
  · cases r
    obtain ⟨its, _, ⟨o, ho, hc, _⟩, _⟩ := I.tuple h
    exact ⟨.type "tuple", by rw [← hc]; exact (Looks.ld ho).andThen .now, .inr ⟨"tuple", rfl, by decide⟩⟩
  · cases r
    obtain ⟨its, _, ⟨o, n, ho, hc, _⟩, _⟩ := I.list h
    exact ⟨.type "list", by rw [← hc]; exact (Looks.ld ho).andThen .now, .inr ⟨"list", rfl, by decide⟩⟩
  · cases r
    obtain ⟨mB, J, _⟩ := ins_get I.hok h
    obtain ⟨od, J, _⟩ := J.look
    exact ⟨.ref Ca, J.type, .inl rfl⟩
theorem sub_blt {K : PySem.W.Frag} {n : String} (h : n ∈ ["NoneType", "int", "tuple", "list"]) : PySem.W.subIn K (.type n) (.ref Ca) = some false := by
  have e : ∃ l, fastBuiltinMro n = some l ∧ ∀ v ∈ l, ∃ m, v = Value.type m := by
    simp only [List.mem_cons, List.not_mem_nil, or_false] at h
    rcases h with rfl | rfl | rfl | rfl
    · exact ⟨[.type "NoneType", .type "object"], by decide +kernel, by simp⟩
    · exact ⟨[.type "int", .type "object"], by decide +kernel, by simp⟩
    · exact ⟨[.type "tuple", .type "object"], by decide +kernel, by simp⟩
    · exact ⟨[.type "list", .type "object"], by decide +kernel, by simp⟩
  obtain ⟨l, e1, e2⟩ := e
  show (fastBuiltinMro n).map (·.contains (.ref Ca)) = some false
  rw [e1, Option.map_some]
  refine congrArg some (Bool.eq_false_iff.mpr fun z => ?_)
  obtain ⟨m, hm⟩ := e2 _ (List.contains_iff_mem.mp z)
  cases hm
theorem not_first {K : PySem.W.Frag} {tb : Value} (h : TyB Ca tb) : PySem.W.notFirst K Ca tb = true := by
  unfold PySem.W.notFirst
  rcases h with rfl | ⟨n, rfl, h⟩
  · simp
  · rw [sub_blt h]
    simp
end
section
variable {M : Model} {prog : Program} {w : World} {A : Around} {E : Value → Shared → Prop} {s : Shared} {K : PySem.W.Frag} {x C f : Addr} {ox : Obj} {od : Option Obj} {b tb : Value}
theorem bound_ne {args : List Value} {Q : Option Value → Shared → Prop} (X : K.In s.heap) (I : PySem.W.InstAt s.heap x ox C od) (hs : PySem.W.findIn K (.ref C) "__ne__" = some (some (.builtin "object.__ne__")))
    (h : wpAny M A (call (.builtin "object.__ne__") (.ref x :: args)) (fun v => Q (some v)) E s) : wpAny M A (callSpecialIfBound? (.ref x) "__ne__" args) Q E s := by
  simp only [callSpecialIfBound?, bindSpecialIfBound?]
  refine wpAny_holding (wpAny_bind (wpAny_bind (wpAny_bind (I.type.here ((PySem.W.looks_findIn X hs).here ?_)))))
  refine wpAny_bind (wpAny_askSetting (wpAny_ite ?_))
  have done : wpAny M A (call (.builtin "object.__ne__") ([.ref x] ++ args) >>= fun v => pure (some v)) Q E s := wpAny_bind (wpAny_mono h (fun v s' h' => wpAny_pure h') fun _ _ z => z)
  split
  · exact wpAny_bind (wpAny_of_eq (F.cmp_object.ne.bind _) (wpAny_pure (by exact done)))
  · exact wpAny_tryCatch (wpAny_bind (wpAny_of_eq (F.cmp_object.ne.bind _) (wpAny_pure (by exact done))))
/-- x != b by the class's own == -/
theorem rc_ne {Q : Value → Shared → Prop} (hu : A.units + 1 < cLine) (X : K.In s.heap) (I : PySem.W.InstAt s.heap x ox C od) (hb : Looks (model prog w) s.heap (typeOf b) tb) (hn : PySem.W.notFirst K C tb = true)
    (hm : PySem.W.mroIn K C (.type "object") = some true) (hne : PySem.W.findIn K (.ref C) "__ne__" = some (some (.builtin "object.__ne__"))) (hs : PySem.W.findIn K (.ref C) "__eq__" = some (some (.ref f))) (hf : PySem.W.isFn K (.ref f) = true)
    (h : wpAny (model prog w) A.in1 (call (.ref f) [.ref x, b]) (fun v s' => ∃ k, v = .bool k ∧ Q (.bool (!k)) s') E s) : wpAny (model prog w) A (richCompare .NotEq (.ref x) b) Q E s := by
  have hu0 : A.units < cLine := Nat.lt_of_succ_lt hu
  have entry : ∀ {Q' : Fin → Shared → Prop} {E' : Value → Shared → Prop}, wpAny (model prog w) A.in1 (call (.ref f) [.ref x, b]) (fun v s' => ∃ k, v = .bool k ∧ Q' (.done (.ret (.bool (!k)))) s') E' s → wpAny (model prog w) A.in1 (Builtin.«object.__ne__» ⟨[.ref x, b], []⟩) Q' E' s := by
    intro Q' E' hh
    unfold Builtin.«object.__ne__»
    repeat (first
      | with_reducible refine wpAny_cRoomFor (show A.in1.units < cLine from hu) ?_
      | (refine wpAny_bind (m := callSpecialIfBound? (.ref x) (Str.ofString "__eq__") [b]) (PySem.W.ifBound_K X I hs hf (wpAny_mono hh (fun r s' hr => by
          obtain ⟨k, rfl, hq⟩ := hr
          repeat (first | exact hq | exact wpAny_pure hq | exact wpAny_truthy_bool hq | (refine wpAny_bind (m := truthy (.bool _)) (wpAny_truthy_bool ?_)) | wp_step)) fun _ _ z => z)))
      | wp_step)
  have one : wpAny (model prog w) A (tryCompare (.ref x) "__ne__" b) (fun r s' => ∃ v, r = some v ∧ Q v s') E s := by
    unfold tryCompare
    refine wpAny_bind (bound_ne X I hne (wpAny_call (codeAny_call_builtin F.cmp_object.ne.plain F.cmpEntry_ne (PySem.W.check_slot F.cmpKind_ne F.cmpSplit_ne (I.type.andThen (PySem.W.looks_mroIn X hm)) (F.cmpArgs_ne _ _)
      (entry (wpAny_mono h (fun v s' hv => ?_) fun _ _ z => z))))))
    obtain ⟨k, e1, hq⟩ := hv
    first
      | exact ⟨k, e1, wpAny_pure ⟨_, rfl, hq⟩⟩
      | exact ⟨k, e1, _, rfl, wpAny_pure ⟨_, rfl, hq⟩⟩
  unfold richCompare
  simp only [oneThing_ref]
  refine wpAny_holding (wpAny_bind (wpAny_cRoomFor hu0 ?_))
  rw [cmpInfo_NotEq]
  dsimp only
  refine wpAny_bind (I.type.here (wpAny_bind (hb.here ?_)))
  have last : wpAny (model prog w) A (tryCompare (.ref x) "__ne__" b) (fun r s' => ∃ v, r = some v ∧ Q v s') E s := one
  split
  · rename_i q
    have e : PySem.W.subIn K tb (.ref C) = some false := by
      rcases Bool.or_eq_true_iff.mp hn with e | e
      · rw [beq_iff_eq.mp e] at q; simp at q
      · exact beq_iff_eq.mp e
    refine wpAny_bind ((PySem.W.looks_subIn X e).here ?_)
    simp only [Bool.false_eq_true, if_false]
    refine wpAny_bind (wpAny_mono last (fun r s' z => ?_) fun _ _ e => e)
    obtain ⟨v, rfl, hq⟩ := z
    exact wpAny_pure hq
  · refine wpAny_bind (wpAny_pure ?_)
    simp only [Bool.false_eq_true, if_false]
    refine wpAny_bind (wpAny_mono last (fun r s' z => ?_) fun _ _ e => e)
    obtain ⟨v, rfl, hq⟩ := z
    exact wpAny_pure hq
end
end OX

/-! VO2: operators of instances, in the walk. -/
namespace OX
open PySem PySem.Spec PyProof.Rows L2 PySem.W KX PySem.Calls
section
variable {prog : Program} {w : World} {A : Around} {E : Value → Shared → Prop} {s : Shared} {K : Frag} {x C f : Addr} {ox : Obj} {od : Option Obj}
theorem own_bin {op : Operator} {T sym nm : String} {b : Value} {fo ro rc : Option Value} {Q : Value → Shared → Prop} (hi : op.info = (sym, nm)) (X : K.In s.heap) (I : InstAt s.heap x ox C od) (hb : Looks (model prog w) s.heap (typeOf b) (.type T)) (hc : selfFirst K C = true)
    (hs : findIn K (.ref C) (PySem.dunder nm) = some (some (.ref f))) (hf : isFn K (.ref f) = true) (hr : findIn K (.ref C) (dunderR nm) = some rc) (hp : rc = none ∨ ∃ g : Addr, rc = some (.ref g))
    (h1 : findIn K (.type T) (PySem.dunder nm) = some fo) (h2 : findIn K (.type T) (dunderR nm) = some ro) (hsub : subIn K (.type T) (.ref C) = some false)
    (h : wpAny (model prog w) A (call (.ref f) [.ref x, b]) (PySem.W.CmpBack Q) E s) : wpAny (model prog w) A (binaryOp op (.ref x) b) Q E s := by
  obtain ⟨cd, rest, c1, c2⟩ := ksp_first hc
  have once := ksp_try X I hs hf h
  obtain ⟨g, gs, dr, tk, ost⟩ := s
  have T1 : Looks (model prog w) g (typeOf (.ref x)) (.ref C) := I.type
  have T2 : Looks (model prog w) g (typeOf b) (.type T) := hb
  have T3 : Looks (model prog w) g (fillsNumberSlot (.ref C) nm) true := fills_K X c1 c2 hs
  have T4 := ksp_fillsT (M := model prog w) X h1 h2
  have T5 : Looks (model prog w) g (isSubtype (.type T) (.ref C)) false := looks_subIn X hsub
  have T6 := ksp_inPy (M := model prog w) X hs hr hp
  have T7 : Looks (model prog w) g (numberSlotInPython (.type T) nm) false := Looks.of_pure rfl
  have T8 : Looks (model prog w) g (typeLookup (.type T) (dunderR nm)) ro := looks_findIn X h2
  generalize ((fo.isSome && !isSeqSlot fo) || (ro.isSome && !isSeqSlot ro)) = rt at T4
  have nq : (Value.ref C == Value.type T) = false := Bool.eq_false_iff.mpr fun q => nomatch beq_iff_eq.mp q
  simp only [binaryOp, hi]
  refine wpAny_holding (wpAny_bind ?_)
  unfold binaryOp1
  refine wpAny_bind (T1.at (wpAny_bind (T2.at (wpAny_bind (T3.at ?_)))))
  simp only [nq, Bool.false_eq_true, if_false]
  cases rt <;>
  · ksp_lk
    refine wpAny_mono once (fun r s' hv => ?_) fun _ _ e => e
    obtain ⟨v, rfl, hq⟩ := hv
    ksp_lk
    exact hq
theorem mul_facts {T : String} (h : T ∈ ["NoneType", "int", "tuple", "list"]) : ∃ fo ro, findIn K (.type T) (PySem.dunder "mul") = some fo ∧ findIn K (.type T) (dunderR "mul") = some ro := by
  simp only [List.mem_cons, List.not_mem_nil, or_false] at h
  rcases h with rfl | rfl | rfl | rfl
  · exact ⟨none, none, (by decide +kernel : fastLookup "NoneType" (PySem.dunder "mul") = _), (by decide +kernel : fastLookup "NoneType" (dunderR "mul") = _)⟩
  · exact ⟨some (.builtin "int.__mul__"), some (.builtin "int.__rmul__"), (by decide +kernel : fastLookup "int" (PySem.dunder "mul") = _), (by decide +kernel : fastLookup "int" (dunderR "mul") = _)⟩
  · exact ⟨some (.builtin "tuple.__mul__"), some (.builtin "tuple.__rmul__"), (by decide +kernel : fastLookup "tuple" (PySem.dunder "mul") = _), (by decide +kernel : fastLookup "tuple" (dunderR "mul") = _)⟩
  · exact ⟨some (.builtin "list.__mul__"), some (.builtin "list.__rmul__"), (by decide +kernel : fastLookup "list" (PySem.dunder "mul") = _), (by decide +kernel : fastLookup "list" (dunderR "mul") = _)⟩
end
/-- the left one is an instance of the class at Ca -/
def TyL (Ca : Addr) (x : V) (H : Hp) : Prop := ∃ a dx fs, x = .ref a ∧ H a = some (.ins Ca dx fs)
def tOpI (K : Frag) (Ca : Addr) (sp : Sp) (E : L2.St → XK) (ta tb : TE) : TE := fun σ H Q => ta σ H fun x H1 => tb σ H1 fun y H2 => TyL Ca x H2 ∧ TyR K Ca y H2 ∧ sp [x, y] H2 Q (E σ)
def tCmI (K : Frag) (Ca : Addr) (sp : Sp) (neg : Bool) (ta tb : TE) : TE := fun σ H Q => ta σ H fun x H1 => tb σ H1 fun y H2 => TyL Ca x H2 ∧ TyR K Ca y H2 ∧ sp [x, y] H2 (fun v H' => ∃ k, v = .bl k ∧ Q (.bl (neg ^^ k)) H') noE
section
variable {X : Cx} {pins : List (Addr × Obj)} {σ : L2.St} {H : Hp} {s : Shared} {Ca f : Addr} {fd : FuncData} {pa pb : Str} {k : Nat} {sp : Sp} {E : L2.St → XK} {ta tb : TE} {a b : Expr} {pos : Pos} {sym nm : String} {op : Operator}
theorem pe_opI (F : FnOk X.prog X.w X.K X.mg X.base (L2.CX X.prog X.w) k f fd [pa, pb] sp) (hr : Room k X.A) (hb : Binds X.K fd [pa, pb] []) (hx : ∀ σ, PassesAt (L2.CX X.prog X.w) X σ (E σ))
    (M : Meth X.K Ca "__mul__" f) (hc : selfFirst X.K Ca = true) (hrm : findIn X.K (.ref Ca) "__rmul__" = some none) (ha : PE X a ta) (hbb : PE X b tb) : PE X (.BinOp a .Mult b pos) (tOpI X.K Ca sp E ta tb) := by
  refine ⟨fun pins s σ H Q I h => wpAny_BinOp (binT ha hbb I h fun v u s2 x y H2 I2 rx ry q => ?_)⟩
  obtain ⟨⟨c, dx, fs, rfl, hc2⟩, ty, hs⟩ := q
  cases rx
  obtain ⟨mA, J, _⟩ := ins_get I2.hok hc2
  obtain ⟨od, J, _⟩ := J.look
  obtain ⟨tb', lk, tyb⟩ := ty_look (M := model X.prog X.w) I2 ry ty
  have run : wpAny (model X.prog X.w) X.A (call (.ref f) [.ref c, u]) (PySem.W.CmpBack (EP X pins σ Q)) X.xe s2 := by
    refine wpAny_mono (run_fnSD F hr hb (dvs := []) .nil (hx σ) I2 (.cons (a := V.ref c) rfl (.cons ry .nil)) (by simpa using hs)) (fun r s' z => ?_) fun _ _ z => z
    obtain ⟨v', H', I', r', q'⟩ := z
    exact SlX.cmpback r' ⟨v', H', I', r', q'⟩
  rcases tyb with rfl | ⟨T, rfl, hT⟩
  · obtain ⟨m, hF⟩ := I2.fr
    exact binop_K (op := .Mult) hF I2.ok.mod.kin J lk hc M.at_ M.fn run
  · obtain ⟨fo, ro, h1, h2⟩ := mul_facts (K := X.K) hT
    exact own_bin (op := .Mult) (sym := "*") (nm := "mul") rfl I2.kIn J lk hc M.at_ M.fn hrm (.inl rfl) h1 h2 (sub_blt hT) run
theorem cm_run {A : Around} {x y : V} {v u : Value} {Q : VK} {neg : Bool} (F : FnOk X.prog X.w X.K X.mg X.base (L2.CX X.prog X.w) k f fd [pa, pb] sp) (hr : Room k A) (hA : A.frames = X.A.frames) (hh : A.handled = X.A.handled) (hb : Binds X.K fd [pa, pb] [])
    (I : Inv X pins σ H s) (rx : RelV x v) (ry : RelV y u) (hs : sp [x, y] H (fun v H' => ∃ k, v = .bl k ∧ Q (.bl (neg ^^ k)) H') noE) {E1 : Value → Shared → Prop} :
    wpAny (model X.prog X.w) A (call (.ref f) [v, u]) (fun r s' => ∃ k, r = .bool k ∧ EP X pins σ Q (.bool (neg ^^ k)) s') E1 s := by
  have I2 : Inv ({ X with A := A, xe := fun _ _ => False } : Cx) pins σ H s :=
    ⟨⟨I.ok.mod, I.ok.kind, I.ok.glob, I.ok.blt, I.ok.above, I.ok.inj, I.ok.has, I.ok.cab, fun z => (show A.handled = none by rw [hh]; exact I.ok.hd z), (show A.frames = some X.stack by rw [hA]; exact I.ok.frames), I.ok.stk, I.ok.exf, I.ok.bs, I.ok.bsz, I.ok.noex, I.ok.exfs, I.ok.funs, I.ok.frf⟩, I.os, I.bare, I.base, I.loc, I.cell, I.free, I.freeC, I.pin, I.hok, I.len⟩
  refine wpAny_mono (run_fn (X := { X with A := A, xe := fun _ _ => False }) (E := noE) F hr hb (dvs := []) .nil (fun _ _ _ _ e s' _ c => ?_) I2 (.cons rx (.cons ry .nil)) (show sp ([x, y] ++ []) H _ noE from hs)) (fun r s' z => ?_) fun _ _ z => z.elim
  · obtain ⟨_, _, _, _, _, _, _, _, _, _, _, _, z⟩ := c
    exact z
  · obtain ⟨v', H', J, r', kk, rfl, q'⟩ := z
    cases r'
    exact ⟨kk, rfl, .bl (neg ^^ kk), H', ⟨I.ok, J.os, J.bare, J.base, J.loc, J.cell, J.free, J.freeC, J.pin, J.hok, J.len⟩, rfl, q'⟩
theorem cm_op {neg : Bool} (F : FnOk X.prog X.w X.K X.mg X.base (L2.CX X.prog X.w) k f fd [pa, pb] sp) (hr : Room (k + 1) X.A) (hb : Binds X.K fd [pa, pb] []) (M : Meth X.K Ca "__eq__" f) (hm : mroIn X.K Ca (.type "object") = some true)
    (hne : findIn X.K (.ref Ca) "__ne__" = some (some (.builtin "object.__ne__"))) {x y : V} {v u : Value} {Q : VK} (I : Inv X pins σ H s) (rx : RelV x v) (ry : RelV y u) (tx : TyL Ca x H) (ty : TyR X.K Ca y H)
    (hs : sp [x, y] H (fun v H' => ∃ k, v = .bl k ∧ Q (.bl (neg ^^ k)) H') noE) : wpAny (model X.prog X.w) X.A (compareOp (if neg then .NotEq else .Eq) v u) (EP X pins σ Q) X.xe s := by
  obtain ⟨c, dx, fs, rfl, hc2⟩ := tx
  cases rx
  obtain ⟨mA, J, _⟩ := ins_get I.hok hc2
  obtain ⟨od, J, _⟩ := J.look
  obtain ⟨tb', lk, tyb⟩ := ty_look (M := model X.prog X.w) I ry ty
  have un := hr.un
  cases neg with
  | true =>
    show wpAny _ _ (richCompare .NotEq (.ref c) u) _ _ _
    exact rc_ne (by omega) I.kIn J lk (not_first tyb) hm hne M.at_ M.fn (wpAny_mono (cm_run (A := X.A.in1) F hr.in1 rfl rfl hb I (show RelV (V.ref c) (Value.ref c) from rfl) ry hs) (fun r s' ⟨kk, e, z⟩ => ⟨kk, e, by simpa using z⟩) fun _ _ z => z)
  | false =>
    show wpAny _ _ (richCompare .Eq (.ref c) u) _ _ _
    obtain ⟨m, hF⟩ := I.fr
    refine PySem.W.cmp_K (op := .Eq) (by omega) hF I.ok.mod.kin J lk (not_first tyb) M.at_ M.fn (wpAny_mono (cm_run (A := X.A) F (hr.mono (Nat.le_succ _)) rfl rfl hb I (show RelV (V.ref c) (Value.ref c) from rfl) ry hs) (fun r s' ⟨kk, e, z⟩ => ?_) fun _ _ z => z)
    subst e
    have z : EP X pins σ Q (.bool kk) s' := by simpa using z
    exact z
end
end OX
namespace VS
open PySem PySem.Spec PyProof.Rows L2 PySem.W KX OX
/-- the right one may be compared with an instance -/
def okR (c : Str) : D → Bool
  | .non => true
  | .int _ => true
  | .tup _ => true
  | .lst _ => true
  | .ins c' _ => decide (c' = c)
  | _ => false
def okL (c : Str) : D → Bool
  | .ins c' _ => decide (c' = c)
  | _ => false
def ok2 (c : Str) (ρ : En) (o o' : Opd) : Bool := (match vwO ρ o with | some x => okL c x | none => false) && (match vwO ρ o' with | some y => okR c y | none => false)
def mOpI (c : Str) (den : Den) (a b : M Ref) : M Ref := M.bind (opd a) fun o => M.bind (opd b) fun o' => fun ρ => if ok2 c ρ o o' = true then callD den [o, o'] ρ else .stuck
def cmR (neg : Bool) : Rs Ref → Rs Ref
  | .ok (.sv (.d (.bl k))) ρ => .ok (rSc (.bl (neg ^^ k))) ρ
  | _ => .stuck
def mCmI (c : Str) (neg : Bool) (den : Den) (a b : M Ref) : M Ref := M.bind (opd a) fun o => M.bind (opd b) fun o' => fun ρ => if ok2 c ρ o o' = true then cmR neg (callD den [o, o'] ρ) else .stuck
section
variable {C : VC} {X : Cx} {W : WX} {a b : Expr} {ta tb : TE} {ma mb : M Ref} {pos : Pos} {c : Str} {Ca f : Addr} {den : Den} {k : Nat} {qual x pa pb : Str} {st : Stmt}
theorem ok2_ty {B : Bd} {ρ : En} {σ : L2.St} {G H : Hp} {o o' : Opd} {v w : V} (hc : C.mg c = some (.ref Ca)) (E : EnvR C B ρ σ none G H) (r : OpdR C σ G o v) (r' : OpdR C σ G o' w) (h : ok2 c ρ o o' = true) : TyL Ca v H ∧ TyR C.K Ca w H := by
  unfold ok2 at h
  obtain ⟨h1, h2⟩ := Bool.and_eq_true_iff.mp h
  have S := E.fr.gh
  refine ⟨?_, ?_⟩
  · cases q : vwO ρ o with
    | none => rw [q] at h1; cases h1
    | some d =>
      rw [q] at h1
      have z := vw_rp E r q
      cases d with
      | ins c' gs =>
        have e : c' = c := of_decide_eq_true h1
        subst e
        obtain ⟨a, Cb, dx, vs, rfl, e1, e2, _⟩ := z
        rw [hc] at e1
        cases e1
        exact ⟨_, _, _, rfl, e2⟩
      | _ => cases h1
  · cases q : vwO ρ o' with
    | none => rw [q] at h2; cases h2
    | some d =>
      rw [q] at h2
      have z := vw_rp E r' q
      cases d with
      | non => exact .inl (rs_non z)
      | int i => exact .inr (.inl ⟨i, rs_int z⟩)
      | tup xs =>
        obtain ⟨a, vs, e1, e2, _⟩ := rs_tup z S
        exact .inr (.inr (.inl ⟨a, vs, e1, e2⟩))
      | lst xs =>
        obtain ⟨a, vs, e1, e2, _⟩ := rs_lst z
        exact .inr (.inr (.inr (.inl ⟨a, vs, e1, .of e2⟩)))
      | ins c' gs =>
        have e : c' = c := of_decide_eq_true h2
        subst e
        obtain ⟨a, Cb, dx, vs, rfl, e1, e2, _⟩ := z
        rw [hc] at e1
        cases e1
        exact .inr (.inr (.inr (.inr ⟨_, _, _, rfl, e2⟩)))
      | _ => cases h2
theorem snd_opI (hc : C.mg c = some (.ref Ca)) (ha : SndE C W ta ma) (hb : SndE C W tb mb) : SndE C W (tOpI C.K Ca (spD C 2 den) (WE W) ta tb) (mOpI c den ma mb) := by
  intro B ρ σ G H Q E P
  refine ha.o B ρ σ G H _ E ?_
  unfold mOpI at P
  rw [mbind] at P
  cases q : opd ma ρ with
  | stuck => rw [q] at P; exact P
  | err e ρ' => rw [q] at P; exact P
  | ok o ρ1 =>
    rw [q, bind_ok, mbind] at P
    intro v G1 H1 E1 S1 r1
    refine hb.o B ρ1 σ G1 H1 _ E1 ?_
    cases q2 : opd mb ρ1 with
    | stuck => rw [q2] at P; exact P
    | err e ρ' => rw [q2] at P; exact P
    | ok o' ρ2 =>
      rw [q2, bind_ok] at P
      intro w G2 H2 E2 S2 r2
      by_cases hk : ok2 c ρ2 o o' = true
      · rw [if_pos hk] at P
        have t := ok2_ty hc E2 (r1.mono S2) r2 hk
        exact ⟨t.1, t.2, post_call rfl E2 (.cons (r1.mono S2) (.cons r2 .nil)) (P.same (S1.trans S2))⟩
      · rw [if_neg hk] at P
        exact P.elim
theorem snd_cmI {neg : Bool} (hc : C.mg c = some (.ref Ca)) (ha : SndE C W ta ma) (hb : SndE C W tb mb) : SndE C W (tCmI C.K Ca (spD C 2 den) neg ta tb) (mCmI c neg den ma mb) := by
  intro B ρ σ G H Q E P
  refine ha.o B ρ σ G H _ E ?_
  unfold mCmI at P
  rw [mbind] at P
  cases q : opd ma ρ with
  | stuck => rw [q] at P; exact P
  | err e ρ' => rw [q] at P; exact P
  | ok o ρ1 =>
    rw [q, bind_ok, mbind] at P
    intro v G1 H1 E1 S1 r1
    refine hb.o B ρ1 σ G1 H1 _ E1 ?_
    cases q2 : opd mb ρ1 with
    | stuck => rw [q2] at P; exact P
    | err e ρ' => rw [q2] at P; exact P
    | ok o' ρ2 =>
      rw [q2, bind_ok] at P
      intro w G2 H2 E2 S2 r2
      by_cases hk : ok2 c ρ2 o o' = true
      · rw [if_pos hk] at P
        have t := ok2_ty hc E2 (r1.mono S2) r2 hk
        refine ⟨t.1, t.2, post_call (W := W0) rfl E2 (.cons (r1.mono S2) (.cons r2 .nil)) ?_⟩
        have P := P.same (S1.trans S2)
        cases q3 : callD den [o, o'] ρ2 with
        | stuck => rw [q3] at P; exact P
        | err e ρ' => rw [q3] at P; exact P.elim
        | ok r ρ3 =>
          rw [q3] at P
          cases r with
          | loc i => exact P.elim
          | sv sv =>
            cases sv with
            | d d =>
              cases d with
              | bl kk =>
                intro z G' H' E' S'
                have e0 : z = .bl kk := by
                  have := E'.resOf
                  cases this
                  rfl
                subst e0
                exact ⟨kk, rfl, P _ G' H' (E'.nox.res (Sc.rp (.bl (neg ^^ kk)))) S'⟩
              | _ => exact P.elim
            | _ => exact P.elim
      · rw [if_neg hk] at P
        exact P.elim
theorem se_opI (hc : C.mg c = some (.ref Ca)) (M : Meth C.K Ca "__mul__" f) (F : FM C X.prog X.w X.base k f qual x st [pa, pb] den) (tk : Takes X W) (hr : Room k X.A) (h1 : selfFirst C.K Ca = true) (h2 : findIn C.K (.ref Ca) "__rmul__" = some none) (ha : SE C X W a ta ma) (hb : SE C X W b tb mb)
    (hbi : ∀ (kV doc pm : Value) (an : Option Addr) (cdv ct : Value) (us : List Value), us.length = ([pa, pb] : List Str).length → bindArgs (PySem.W.fnOf x qual (defArgs st) (defBody st) (defScope st) .none kV doc pm an cdv ct) ⟨us, []⟩ = pure (([pa, pb] : List Str).zip us))
    (hK : X.K = C.K := by rfl) (hm : X.mg = C.mg := by rfl) : SE C X W (.BinOp a .Mult b pos) (tOpI C.K Ca (spD C 2 den) (WE W) ta tb) (mOpI c den ma mb) := by
  refine ⟨?_, snd_opI hc ha.snd hb.snd⟩
  obtain ⟨fd, G, kV, doc, pm, an, cdv, ct, e1⟩ := F.fn
  rw [← hK, ← hm] at G
  subst e1
  rw [← hK] at M h1 h2 ⊢
  exact pe_opI G hr (.all (hbi kV doc pm an cdv ct)) (passAt tk) M h1 h2 ha.pe hb.pe
structure EqI (C : VC) (Ca f : Addr) : Prop where
  m : Meth C.K Ca "__eq__" f
  o : mroIn C.K Ca (.type "object") = some true
  n : findIn C.K (.ref Ca) "__ne__" = some (some (.builtin "object.__ne__"))
theorem cmI_op {neg : Bool} (N : EqI C Ca f) (F : FM C X.prog X.w X.base k f qual x st [pa, pb] den) (hr : Room (k + 1) X.A)
    (hbi : ∀ (kV doc pm : Value) (an : Option Addr) (cdv ct : Value) (us : List Value), us.length = ([pa, pb] : List Str).length → bindArgs (PySem.W.fnOf x qual (defArgs st) (defBody st) (defScope st) .none kV doc pm an cdv ct) ⟨us, []⟩ = pure (([pa, pb] : List Str).zip us))
    (hK : X.K = C.K) (hm : X.mg = C.mg) : OpR X (compareOp (if neg then .NotEq else .Eq)) (fun v w H Q => TyL Ca v H ∧ TyR C.K Ca w H ∧ spD C 2 den [v, w] H (fun v H' => ∃ k, v = .bl k ∧ Q (.bl (neg ^^ k)) H') noE) := by
  intro pins s σ H v w u1 u2 Q I r1 r2 h
  obtain ⟨fd, G, kV, doc, pm, an, cdv, ct, e1⟩ := F.fn
  rw [← hK, ← hm] at G
  subst e1
  obtain ⟨M, o, n⟩ := N
  rw [← hK] at M o n
  obtain ⟨t1, t2, hs⟩ := h
  rw [← hK] at t2
  exact cm_op G hr (.all (hbi kV doc pm an cdv ct)) M o n I r1 r2 t1 t2 hs
theorem se_eqI (hc : C.mg c = some (.ref Ca)) (N : EqI C Ca f) (F : FM C X.prog X.w X.base k f qual x st [pa, pb] den) (hr : Room (k + 1) X.A) (ha : SE C X W a ta ma) (hb : SE C X W b tb mb)
    (hbi : ∀ (kV doc pm : Value) (an : Option Addr) (cdv ct : Value) (us : List Value), us.length = ([pa, pb] : List Str).length → bindArgs (PySem.W.fnOf x qual (defArgs st) (defBody st) (defScope st) .none kV doc pm an cdv ct) ⟨us, []⟩ = pure (([pa, pb] : List Str).zip us))
    (hK : X.K = C.K := by rfl) (hm : X.mg = C.mg := by rfl) (hmk : behindInMarks .Eq b = false := by rfl) : SE C X W (.Compare a [.Eq] [b] pos) (tCmI C.K Ca (spD C 2 den) false ta tb) (mCmI c false den ma mb) :=
  ⟨pe_cmpR (cmI_op (neg := false) N F hr hbi hK hm) ha.pe hb.pe hmk, snd_cmI hc ha.snd hb.snd⟩
theorem se_neI (hc : C.mg c = some (.ref Ca)) (N : EqI C Ca f) (F : FM C X.prog X.w X.base k f qual x st [pa, pb] den) (hr : Room (k + 1) X.A) (ha : SE C X W a ta ma) (hb : SE C X W b tb mb)
    (hbi : ∀ (kV doc pm : Value) (an : Option Addr) (cdv ct : Value) (us : List Value), us.length = ([pa, pb] : List Str).length → bindArgs (PySem.W.fnOf x qual (defArgs st) (defBody st) (defScope st) .none kV doc pm an cdv ct) ⟨us, []⟩ = pure (([pa, pb] : List Str).zip us))
    (hK : X.K = C.K := by rfl) (hm : X.mg = C.mg := by rfl) (hmk : behindInMarks .NotEq b = false := by rfl) : SE C X W (.Compare a [.NotEq] [b] pos) (tCmI C.K Ca (spD C 2 den) true ta tb) (mCmI c true den ma mb) :=
  ⟨pe_cmpR (cmI_op (neg := true) N F hr hbi hK hm) ha.pe hb.pe hmk, snd_cmI hc ha.snd hb.snd⟩
theorem st_eqI (hc : C.mg c = some (.ref Ca)) (N : EqI C Ca f) (F : FM C X.prog X.w X.base k f qual x st [pa, pb] den) (hr : Room (k + 1) X.A) (ha : SE C X W a ta ma) (hb : SE C X W b tb mb)
    (hbi : ∀ (kV doc pm : Value) (an : Option Addr) (cdv ct : Value) (us : List Value), us.length = ([pa, pb] : List Str).length → bindArgs (PySem.W.fnOf x qual (defArgs st) (defBody st) (defScope st) .none kV doc pm an cdv ct) ⟨us, []⟩ = pure (([pa, pb] : List Str).zip us))
    (hK : X.K = C.K := by rfl) (hm : X.mg = C.mg := by rfl) (hmk : behindInMarks .Eq b = false := by rfl) : ST C X W (.Compare a [.Eq] [b] pos) (tTest (tCmI C.K Ca (spD C 2 den) false ta tb)) (mB (mCmI c false den ma mb)) :=
  ⟨pt_cmpR (cmI_op (neg := false) N F hr hbi hK hm) ha.pe hb.pe hmk, snd_test (snd_cmI hc ha.snd hb.snd)⟩
theorem st_neI (hc : C.mg c = some (.ref Ca)) (N : EqI C Ca f) (F : FM C X.prog X.w X.base k f qual x st [pa, pb] den) (hr : Room (k + 1) X.A) (ha : SE C X W a ta ma) (hb : SE C X W b tb mb)
    (hbi : ∀ (kV doc pm : Value) (an : Option Addr) (cdv ct : Value) (us : List Value), us.length = ([pa, pb] : List Str).length → bindArgs (PySem.W.fnOf x qual (defArgs st) (defBody st) (defScope st) .none kV doc pm an cdv ct) ⟨us, []⟩ = pure (([pa, pb] : List Str).zip us))
    (hK : X.K = C.K := by rfl) (hm : X.mg = C.mg := by rfl) (hmk : behindInMarks .NotEq b = false := by rfl) : ST C X W (.Compare a [.NotEq] [b] pos) (tTest (tCmI C.K Ca (spD C 2 den) true ta tb)) (mB (mCmI c true den ma mb)) :=
  ⟨pt_cmpR (cmI_op (neg := true) N F hr hbi hK hm) ha.pe hb.pe hmk, snd_test (snd_cmI hc ha.snd hb.snd)⟩
end
end VS

/-! VO3: a list taken apart. -/
namespace VS
open PySem PySem.Spec PyProof.Rows L2
def tgLst (is : List Nat) : Tg := fun x ρ => match x with
  | .lst xs => tgNames is xs ρ
  | _ => none
theorem sg_lst {C : VC} {P : List Nat} {is : List Nat} {n : Nat} (hi : ∀ i ∈ is, i ∉ P) (hn : is.length = n) : SndG C P is (gLst C.K n (gNames is)) (tgLst is) := by
  intro B ρ σ G H Q x v ρ' E pn r e h
  cases r with
  | lst ha rl =>
    have e : tgNames is _ ρ = some ρ' := e
    exact ⟨_, _, rfl, .of (E.fr.gh _ _ ha), by rw [rl.length, tgNames_len e, hn], sg_names hi B ρ σ G H Q _ _ ρ' E pn rl e h⟩
  | _ => cases e
theorem fd_ofFL {C : VC} {P : Program} {w : World} {base : Heap} {N ps : List Str} {k : Nat} {x : Str} {st : Stmt} {fd : FuncData} {pin : List Nat} {m : M Fl} (F : FunD C.K x x (defArgs st) (defBody st) (defScope st) [] [] (He.ga C.K x) fd) (S : FnScope N ps (defScope st)) (hp : ∀ j ∈ pin, j < ps.length)
    (hbody : ∀ (A : Around) (outer : List Env) (s : Shared) (H : Hp) (E : XK), Room k (A.deeper (envOfC x (defScope st) s.heap.objs.size (He.ga C.K x) (.ref (He.cT C.K (x, none)).1))) →
      ∃ t, SS C pin (cxOf (L2.CX P w) P w C.K C.mg base N x (defScope st) (He.ga C.K x) (.ref (He.cT C.K (x, none)).1) A outer s H E) (fun cls d _ H => E cls d H) (defBody st) t m) :
    FnOk P w C.K C.mg base (L2.CX P w) (k + 1) (He.ga C.K x) fd ps (spD C ps.length (denOf ps.length (N.length - ps.length) pin m)) := (fd_ofF F S hp fun cdv hc => by
      obtain ⟨oc, od, osl, fd', lk, e, hcd⟩ := hc
      obtain ⟨c, hc⟩ := He.codeIn_ref hcd
      have e2 : He.codeOf C.K (x, none) = c := He.codeOf_eq (p := (x, none)) lk (by rw [e, hc])
      rw [hc, ← e2]
      exact hbody).1
end VS

/-! VP: how the mirrors run, as rows for simp. -/
namespace VS
theorem ite_cl {α : Type} {c : Prop} [d : Decidable c] {a : α} (b : α) : @ite α c (Classical.propDecidable c) a b = if c then a else b := by rw [show Classical.propDecidable c = d from Subsingleton.elim _ _]
open PySem PySem.Spec PyProof.Rows L2
section
variable {ρ : En} {i j : Nat} {a b c : M Ref} {ta tb : M Bool} {m : M (List Opd)} {x y : D}
@[simp] theorem e_var : mVar i ρ = match ρ.getD i none with | some _ => .ok (.loc i) ρ | none => .stuck := (rfl)
@[simp] theorem e_opd : opd a ρ = (a ρ).bind fun r => match r with | .loc i => M.ret (.loc i) | .sv s => M.bind (M.opt s.frz) fun x => M.ret (.d x) := (rfl)
@[simp] theorem e_look (o : Opd) : look o ρ = M.opt (vwO ρ o) ρ := (rfl)
@[simp] theorem e_val : val a ρ = (opd a ρ).bind look := (rfl)
@[simp] theorem e_val2 : val2 a b ρ = (opd a ρ).bind fun x => M.bind (opd b) fun y => M.bind (look x) fun d => M.bind (look y) fun e => M.ret (d, e) := (rfl)
@[simp] theorem e_bin (f : D → D → Option Rv) : mBin f a b ρ = (val2 a b ρ).bind fun p => M.bind (M.opt (f p.1 p.2)) fun r => M.ret r.ref := (rfl)
@[simp] theorem e_un (f : D → Option Rv) : mUn f a ρ = (val a ρ).bind fun x => M.bind (M.opt (f x)) fun r => M.ret r.ref := (rfl)
@[simp] theorem e_fn (f : List D → Option Rv) : mFn f m ρ = (m ρ).bind fun os ρ => (M.opt ((lookAll ρ os).bind f)).bind (fun r => M.ret r.ref) ρ := (rfl)
@[simp] theorem e_cons : mCons a m ρ = (opd a ρ).bind fun o => M.bind m fun os => M.ret (o :: os) := (rfl)
@[simp] theorem e_call (den : Den) : mCall den m ρ = (m ρ).bind (callD den) := (rfl)
@[simp] theorem e_callK (den : Den) (k : M (List Opd)) : mCallK den m k ρ = (m ρ).bind fun os => M.bind k fun ks => callD den (os ++ ks) := (rfl)
@[simp] theorem e_callD (den : Den) (os : List Opd) : callD den os ρ = match argSV ρ os with | none => .stuck | some args => if (ownIx ρ os).Nodup then (match den args with | .ok s outs => .ok (.sv s) (wb ρ os outs) | .err c outs => .err c (wb ρ os outs) | .stuck => .stuck) else .stuck := (rfl)
@[simp] theorem e_arg0 : argSV ρ [] = some [] := (rfl)
@[simp] theorem e_argd (os : List Opd) : argSV ρ (.d x :: os) = (argSV ρ os).map (SV.d x :: ·) := (rfl)
@[simp] theorem e_argl (os : List Opd) : argSV ρ (.loc i :: os) = (ρ.getD i none).bind fun s => (argSV ρ os).map (s :: ·) := (rfl)
@[simp] theorem e_own0 : ownIx ρ [] = [] := (rfl)
@[simp] theorem e_ownd (os : List Opd) : ownIx ρ (.d x :: os) = ownIx ρ os := (rfl)
@[simp] theorem e_ownl (os : List Opd) : ownIx ρ (.loc i :: os) = if isOwn (ρ.getD i none) = true then i :: ownIx ρ os else ownIx ρ os := (rfl)
@[simp] theorem e_isn : isOwn none = false := (rfl)
@[simp] theorem e_isd : isOwn (some (.d x)) = false := (rfl)
@[simp] theorem e_iso (xs : List D) : isOwn (some (.ol xs)) = true := (rfl)
@[simp] theorem e_isod (xs : List (Key × D)) : isOwn (some (.od xs)) = true := (rfl)
@[simp] theorem e_isdr (s : Draw) : isOwn (some (.dr s)) = true := (rfl)
@[simp] theorem e_isi (c : Str) (s : List (Str × D)) : isOwn (some (.oi c s)) = true := (rfl)
@[simp] theorem e_issc (s : List Int) : isOwn (some (.sc s)) = false := (rfl)
@[simp] theorem e_wb0 (o : En) : wb ρ [] o = ρ := (rfl)
@[simp] theorem e_wbd (os : List Opd) (o : En) : wb ρ (.d x :: os) o = wb ρ os o.tail := (rfl)
@[simp] theorem e_wbl (os : List Opd) (o : En) : wb ρ (.loc i :: os) o = if isOwn (ρ.getD i none) = true then (wb ρ os o.tail).set i (o.getD 0 none) else wb ρ os o.tail := (rfl)
@[simp] theorem e_mB : mB a ρ = (val a ρ).bind fun x => match x with | .bl b => M.ret b | _ => fun _ => .stuck := (rfl)
@[simp] theorem e_andT : mAndT ta tb ρ = (ta ρ).bind fun c => if c = true then tb else M.ret false := (rfl)
@[simp] theorem e_orT : mOrT ta tb ρ = (ta ρ).bind fun c => if c = true then M.ret true else tb := (rfl)
@[simp] theorem e_notT : mNotT ta ρ = (ta ρ).bind fun c => M.ret (!c) := (rfl)
@[simp] theorem e_andV : mAndV a b ρ = (mB a ρ).bind fun c => if c = true then b else M.ret (rSc (.bl false)) := (rfl)
@[simp] theorem e_orV : mOrV a b ρ = (mB a ρ).bind fun c => if c = true then M.ret (rSc (.bl true)) else b := (rfl)
@[simp] theorem e_notV : mNotV a ρ = (mB a ρ).bind fun c => M.ret (rSc (.bl (!c))) := (rfl)
@[simp] theorem e_ifE : mIfE ta a b ρ = (ta ρ).bind fun k => if k = true then a else b := (rfl)
@[simp] theorem e_rSc (s : Sc) : rSc s = .sv (.d s.d) := (rfl)
variable {p q : M Fl} {P : List Nat}
@[simp] theorem e_seq : mSeq p q ρ = (p ρ).bind fun f => match f with | .nx => q | f => M.ret f := (rfl)
@[simp] theorem e_drop : mDrop a ρ = (a ρ).bind fun _ => M.ret .nx := (rfl)
@[simp] theorem e_ret : mRet P a ρ = (a ρ).bind fun r => match r with | .sv s => M.ret (.rt s) | .loc i => fun ρ => match ρ.getD i none with | some (.d x) => .ok (.rt (.d x)) ρ | some s => if i ∈ P then .stuck else .ok (.rt s) (ρ.set i none) | none => .stuck := (rfl)
@[simp] theorem e_if : mIf ta p q ρ = (ta ρ).bind fun k => if k = true then p else q := (rfl)
@[simp] theorem e_set : mSet i a ρ = (a ρ).bind (stRef i) := (rfl)
@[simp] theorem e_st1 (s : SV) : stRef i (.sv s) ρ = .ok .nx (ρ.set i (some s)) := (rfl)
@[simp] theorem e_st2 : stRef i (.loc j) ρ = match (ρ.getD j none).bind SV.frz with | some x => .ok .nx ((ρ.set j (some (.d x))).set i (some (.d x))) | none => .stuck := (rfl)
@[simp] theorem e_raise (c : Str) : mRaise c ρ = .err c ρ := (rfl)
@[simp] theorem e_frz : mFrz a ρ = (opd a ρ).bind frzO := (rfl)
@[simp] theorem e_fO1 : frzO (.d x) ρ = .ok x ρ := (rfl)
@[simp] theorem e_fO2 : frzO (.loc i) ρ = match frz1 i ρ with | some (x, ρ') => .ok x ρ' | none => .stuck := (rfl)
@[simp] theorem e_frz1 : frz1 i ρ = match ρ.getD i none with | some (.d x) => some (x, ρ) | some s => s.frz.map fun x => (x, ρ.set i (some (.d x))) | none => none := (rfl)
@[simp] theorem e_own : mOwn a ρ = (a ρ).bind ownO := (rfl)
@[simp] theorem e_ownO1 (s : SV) : ownO (.sv s) ρ = .ok s ρ := (rfl)
@[simp] theorem e_ownO2 : ownO (.loc i) ρ = match frz1 i ρ with | some (x, ρ') => .ok (.d x) ρ' | none => .stuck := (rfl)
@[simp] theorem e_par : mPar i j a b ρ = (mOwn a ρ).bind fun x => M.bind (mOwn b) fun y => fun ρ => .ok .nx ((ρ.set i (some x)).set j (some y)) := (rfl)
@[simp] theorem e_par3 {l : Nat} : mPar3 i j l a b c ρ = (mOwn a ρ).bind fun x => M.bind (mOwn b) fun y => M.bind (mOwn c) fun z => fun ρ => .ok .nx (((ρ.set i (some x)).set j (some y)).set l (some z)) := (rfl)
@[simp] theorem e_asg (mg : Tg) : mAsg a mg ρ = (mFrz a ρ).bind fun x ρ => match mg x ρ with | some ρ' => .ok .nx ρ' | none => .stuck := (rfl)
@[simp] theorem e_tup : mTup m ρ = (m ρ).bind fun os => M.bind (frzAll os) fun xs => M.ret (.sv (.d (.tup xs))) := (rfl)
@[simp] theorem e_lst : mLst m ρ = (m ρ).bind fun os => M.bind (frzAll os) fun xs => M.ret (.sv (.ol xs)) := (rfl)
@[simp] theorem e_fA0 : frzAll [] ρ = .ok [] ρ := (rfl)
@[simp] theorem e_fAd (os : List Opd) : frzAll (.d x :: os) ρ = (frzAll os ρ).bind fun xs => M.ret (x :: xs) := (rfl)
@[simp] theorem e_fAl (os : List Opd) : frzAll (.loc i :: os) ρ = match frz1 i ρ with | some (x, ρ') => (frzAll os ρ').bind (fun xs => M.ret (x :: xs)) | none => .stuck := (rfl)
@[simp] theorem e_frzs : mFrzs m ρ = (m ρ).bind frzAll := (rfl)
@[simp] theorem e_tgN : tgName i x ρ = some (ρ.set i (some (.d x))) := (rfl)
@[simp] theorem e_tgT (is : List Nat) (xs : List D) : tgTup is (.tup xs) ρ = tgNames is xs ρ := (rfl)
@[simp] theorem e_tgs0 : tgNames [] [] ρ = some ρ := (rfl)
@[simp] theorem e_tgs1 (is : List Nat) (xs : List D) : tgNames (i :: is) (x :: xs) ρ = tgNames is xs (ρ.set i (some (.d x))) := (rfl)
@[simp] theorem e_seqI : mSeqI a ρ = (mFrz a ρ).bind fun x => M.opt (seqOf x) := (rfl)
@[simp] theorem e_sq1 (xs : List D) : seqOf (.lst xs) = some xs := (rfl)
@[simp] theorem e_sq2 (xs : List D) : seqOf (.tup xs) = some xs := (rfl)
@[simp] theorem e_rng (f : List D → Option (List D)) : mRng f m ρ = (m ρ).bind fun os ρ => M.opt ((lookAll ρ os).bind f) ρ := (rfl)
@[simp] theorem e_enum : mEnum a ρ = (mFrz a ρ).bind fun x => M.opt (enumOf x) := (rfl)
@[simp] theorem e_enumO (xs : List D) : enumOf (.lst xs) = some (enumD xs) := (rfl)
@[simp] theorem e_for (mi : M (List D)) (mg : Tg) : mFor mi mg p ρ = (mi ρ).bind (forR mg p) := (rfl)
@[simp] theorem e_forN (mg : Tg) : forR mg p [] ρ = .ok .nx ρ := (rfl)
theorem e_forC (mg : Tg) (xs : List D) : forR mg p (x :: xs) ρ = match mg x ρ with | none => .stuck | some ρ' => (p ρ').bind fun f => match f with | .nx => forR mg p xs | .ct => forR mg p xs | .bk => M.ret .nx | .rt s => M.ret (.rt s) := rfl
@[simp] theorem e_meth (f : List D → List D → Option (D × List D)) : mMeth i f m ρ = if isOl (ρ.getD i none) = true then (mFrzs m ρ).bind (methD i f) else .stuck := (rfl)
@[simp] theorem e_methD (f : List D → List D → Option (D × List D)) (ys xs : List D) (h : ρ.getD i none = some (.ol xs)) : methD i f ys ρ = match f xs ys with | some (r, xs') => .ok (.sv (.d r)) (ρ.set i (some (.ol xs'))) | none => .stuck := by
  unfold methD
  rw [h] <;> rfl
@[simp] theorem e_isOl (xs : List D) : isOl (some (.ol xs)) = true := (rfl)
@[simp] theorem e_lc (mi : M (List D)) (vs : List Nat) (mg : Tg) : mLc mi vs mg ta a ρ = (mi ρ).bind fun xs ρ => if (vs.all fun v => isData (ρ.getD v none)) = true then (lcR ρ vs mg ta a xs [] ρ).bind (fun ys => M.ret (.sv (.ol ys))) else .stuck := (rfl)
@[simp] theorem e_lcN (ρ0 : En) (vs : List Nat) (mg : Tg) (acc : List D) : lcR ρ0 vs mg ta a [] acc ρ = .ok acc ρ := (rfl)
@[simp] theorem e_dt0 : isData none = true := (rfl)
@[simp] theorem e_dt1 : isData (some (.d x)) = true := (rfl)
@[simp] theorem e_w0 : wipeE ρ [] = ρ := (rfl)
@[simp] theorem e_w1 (vs : List Nat) : wipeE ρ (i :: vs) = (wipeE ρ vs).set i none := (rfl)
@[simp] theorem e_r0 (ρ0 : En) : restE ρ0 ρ [] = ρ := (rfl)
@[simp] theorem e_r1 (ρ0 : En) (vs : List Nat) : restE ρ0 ρ (i :: vs) = (restE ρ0 ρ vs).set i (ρ0.getD i none) := (rfl)
@[simp] theorem e_dr (k : DrK) : mDr i k ρ = match ρ.getD i none with | some (.dr s) => .ok (.sv (.d (drGet k s))) ρ | _ => .stuck := (rfl)
@[simp] theorem e_drG : mDrG i ρ = match ρ.getD i none with | some (.dr s) => .ok (.sv (.d (.bl (!s.great.isEmpty)))) ρ | _ => .stuck := (rfl)
@[simp] theorem e_drP : mDrP i ρ = match ρ.getD i none with | some (.dr s) => (match s.great with | z :: zs => .ok (.sv (.d (.int z))) (ρ.set i (some (.dr { s with great := zs }))) | [] => .stuck) | _ => .stuck := (rfl)
@[simp] theorem e_drPut (k : DrK) : mDrPut i k a ρ = (mFrz a ρ).bind (drputD i k) := (rfl)
@[simp] theorem e_drL (s : Draw) (n : Int) (h : ρ.getD i none = some (.dr s)) : drputD i .left (.int n) ρ = .ok .nx (ρ.set i (some (.dr { s with left := n }))) := by
  unfold drputD
  rw [h]
@[simp] theorem e_drT (s : Draw) (n : Int) (h : ρ.getD i none = some (.dr s)) : drputD i .turn (.int n) ρ = .ok .nx (ρ.set i (some (.dr { s with turn := n }))) := by
  unfold drputD
  rw [h]
@[simp] theorem e_gl (s : Draw) : drGet .left s = .int s.left := (rfl)
@[simp] theorem e_gt (s : Draw) : drGet .turn s = .int s.turn := (rfl)
@[simp] theorem e_gc (s : Draw) : drGet .cells s = .lst (s.cells.map .int) := (rfl)
@[simp] theorem e_addI (k l : Int) : dAdd (.int k) (.int l) = some (.sc (.int (k + l))) := (rfl)
@[simp] theorem e_subI (k l : Int) : dSub (.int k) (.int l) = some (.sc (.int (k - l))) := (rfl)
@[simp] theorem e_mulI (k l : Int) : dMul (.int k) (.int l) = if (-(2 ^ 64) < k ∧ k < 2 ^ 64) ∨ (-(2 ^ 64) < l ∧ l < 2 ^ 64) then some (.sc (.int (k * l))) else none := ite_cl _
@[simp] theorem e_modI (k l : Int) : dMod (.int k) (.int l) = if l ≠ 0 then some (.sc (.int (k.fmod l))) else none := (rfl)
@[simp] theorem e_divI (k l : Int) : dDiv (.int k) (.int l) = if l ≠ 0 ∧ l.natAbs < 1073741824 then some (.sc (.int (k.fdiv l))) else none := ite_cl _
@[simp] theorem e_powI (k l : Int) : dPow (.int k) (.int l) = if 0 ≤ l ∧ l ≤ 1000000 ∧ k.natAbs < 2 ^ 64 then some (.sc (.int (k ^ l.toNat))) else none := ite_cl _
@[simp] theorem e_cmpI (f : Int → Int → Bool) (k l : Int) : dCmp f (.int k) (.int l) = some (.sc (.bl (f k l))) := (rfl)
@[simp] theorem e_negI (k : Int) : dNeg (.int k) = some (.sc (.int (-k))) := (rfl)
@[simp] theorem e_eqI (n : Bool) (k l : Int) : dEq n (.int k) (.int l) = some (.sc (.bl (n ^^ (k == l)))) := (rfl)
@[simp] theorem e_fInt (k : Int) : fInt [.int k] = some (.sc (.int k)) := (rfl)
@[simp] theorem e_fMax (k l : Int) : fMax [.int k, .int l] = some (.sc (.int (if l > k then l else k))) := (rfl)
@[simp] theorem e_fMin (k l : Int) : fMin [.int k, .int l] = some (.sc (.int (if l < k then l else k))) := (rfl)
@[simp] theorem e_fAbs (k : Int) : fAbs [.int k] = some (.sc (.int (if k < 0 then -k else k))) := (rfl)
@[simp] theorem e_fLen (xs : List D) : fLen [.lst xs] = some (.sc (.int xs.length)) := (rfl)
@[simp] theorem e_fLenT (xs : List D) : fLen [.tup xs] = some (.sc (.int xs.length)) := (rfl)
@[simp] theorem e_fLst (xs : List D) : fList [.lst xs] = some (.nl xs) := (rfl)
@[simp] theorem e_fTup (xs : List D) : fTuple [.lst xs] = some (.nt xs) := (rfl)
@[simp] theorem e_ixL (xs : List D) (k : Int) : dIxX (.lst xs) (.int k) = (atI xs k).map .it := (rfl)
@[simp] theorem e_ixT (xs : List D) (k : Int) : dIxX (.tup xs) (.int k) = (atI xs k).map .it := (rfl)
@[simp] theorem e_ixD (kvs : List (Key × D)) (k : Int) : dIxX (.dic kvs) (.int k) = (valD kvs (.inl k)).map .it := (rfl)
@[simp] theorem e_scI : mScI i ρ = match ρ.getD i none with | some (.sc ns) => .ok (intD ns) ρ | _ => .stuck := (rfl)
@[simp] theorem e_scL : mScL i ρ = match ρ.getD i none with | some (.sc ns) => .ok (.sv (.d (.int ns.length))) ρ | _ => .stuck := (rfl)
@[simp] theorem e_mask0 (pin : List Nat) : mask 0 pin ρ = [] := (rfl)
@[simp] theorem e_mask1 (pin : List Nat) : mask 1 pin ρ = [if 0 ∈ pin then ρ.getD 0 none else none] := (rfl)
@[simp] theorem e_mask2 (pin : List Nat) : mask 2 pin ρ = [if 0 ∈ pin then ρ.getD 0 none else none, if 1 ∈ pin then ρ.getD 1 none else none] := (rfl)
@[simp] theorem e_mask3 (pin : List Nat) : mask 3 pin ρ = [if 0 ∈ pin then ρ.getD 0 none else none, if 1 ∈ pin then ρ.getD 1 none else none, if 2 ∈ pin then ρ.getD 2 none else none] := (rfl)
@[simp] theorem e_mask4 (pin : List Nat) : mask 4 pin ρ = [if 0 ∈ pin then ρ.getD 0 none else none, if 1 ∈ pin then ρ.getD 1 none else none, if 2 ∈ pin then ρ.getD 2 none else none, if 3 ∈ pin then ρ.getD 3 none else none] := (rfl)
@[simp] theorem e_mask5 (pin : List Nat) : mask 5 pin ρ = [if 0 ∈ pin then ρ.getD 0 none else none, if 1 ∈ pin then ρ.getD 1 none else none, if 2 ∈ pin then ρ.getD 2 none else none, if 3 ∈ pin then ρ.getD 3 none else none, if 4 ∈ pin then ρ.getD 4 none else none] := (rfl)
@[simp] theorem e_mask6 (pin : List Nat) : mask 6 pin ρ = [if 0 ∈ pin then ρ.getD 0 none else none, if 1 ∈ pin then ρ.getD 1 none else none, if 2 ∈ pin then ρ.getD 2 none else none, if 3 ∈ pin then ρ.getD 3 none else none, if 4 ∈ pin then ρ.getD 4 none else none, if 5 ∈ pin then ρ.getD 5 none else none] := (rfl)
@[simp] theorem e_mask7 (pin : List Nat) : mask 7 pin ρ = [if 0 ∈ pin then ρ.getD 0 none else none, if 1 ∈ pin then ρ.getD 1 none else none, if 2 ∈ pin then ρ.getD 2 none else none, if 3 ∈ pin then ρ.getD 3 none else none, if 4 ∈ pin then ρ.getD 4 none else none, if 5 ∈ pin then ρ.getD 5 none else none, if 6 ∈ pin then ρ.getD 6 none else none] := (rfl)
end
end VS

/-! VQ: more rows for simp. -/
namespace VS
open PySem PySem.Spec PyProof.Rows L2
section
variable {ρ : En} {i j : Nat} {a b c : M Ref} {ta tb : M Bool} {m : M (List Opd)} {x y : D}
@[simp] theorem e_rng1 (k : Int) : rng1 [.int k] = if -(2 ^ 62) ≤ k ∧ k < 2 ^ 62 then some (intsD 0 k.toNat) else none := ite_cl _
@[simp] theorem e_rng2 (k l : Int) : rng2 [.int k, .int l] = if -(2 ^ 62) ≤ k ∧ k < 2 ^ 62 ∧ -(2 ^ 62) ≤ l ∧ l < 2 ^ 62 then some (intsD k (l - k).toNat) else none := ite_cl _
theorem e_lcC (ρ0 : En) (vs : List Nat) (mg : Tg) (xs acc : List D) : lcR ρ0 vs mg ta a (x :: xs) acc ρ = match mg x (wipeE ρ vs) with
    | none => .stuck
    | some ρ1 => match ta ρ1 with
      | .ok false ρ2 => lcR ρ0 vs mg ta a xs acc (restE ρ0 ρ2 vs)
      | .ok true ρ2 => (match mFrz a ρ2 with
        | .ok y ρ3 => if acc.length < sizeLine then lcR ρ0 vs mg ta a xs (acc ++ [y]) (restE ρ0 ρ3 vs) else .stuck
        | _ => .stuck)
      | _ => .stuck := rfl
theorem e_sizeLine (n : Nat) (h : n < 4096) : n < sizeLine := by
  have : (4096 : Nat) ≤ sizeLine := by decide
  omega
@[simp] theorem e_gApp (xs : List D) : gAppend xs [y] = if xs.length < sizeLine then some (.non, xs ++ [y]) else none := (rfl)
@[simp] theorem e_gPopAt (xs : List D) (k : Int) : gPopAt xs [.int k] = if -(2 ^ 63) ≤ k ∧ k < 2 ^ 63 then (seqIndex? k xs.length).bind fun k => (xs[k]?).map fun y => (y, xs.eraseIdx k) else none := ite_cl _
@[simp] theorem e_dput : mDPut i a b ρ = (mFrz b ρ).bind fun x ρ => if (ρ.getD i none).isSome = true then (mFrz a ρ).bind (fun y => dputD i y x) else .stuck := (rfl)
@[simp] theorem e_dputI (kvs : List (Key × D)) (k : Int) (h : ρ.getD i none = some (.od kvs)) : dputD i (.int k) x ρ = if kvs.length < sizeLine then .ok .nx (ρ.set i (some (.od (putD kvs (.inl k) x)))) else .stuck := by
  unfold dputD
  rw [h] <;> rfl
end
theorem intsD_succ (lo : Int) (n : Nat) : intsD lo (n + 1) = .int lo :: intsD (lo + 1) n := by
  unfold intsD
  rw [List.range_succ_eq_map, List.map_cons, List.map_map]
  congr 1
  · simp
  · apply List.map_congr_left
    intro k _
    show D.int _ = D.int _
    congr 1
    push_cast
    omega
theorem intsD_zero (lo : Int) : intsD lo 0 = [] := rfl
end VS

/-! VL: what runs well, loops by invariants, comprehensions. -/
namespace VS
open PySem PySem.Spec PyProof.Rows L2
/-- the run ends well, and Q holds then -/
inductive Rs.Wp {α : Type} (r : Rs α) (Q : α → En → Prop) : Prop where
  | mk (a : α) (ρ : En) (h : r = .ok a ρ) (q : Q a ρ)
section
variable {α β γ : Type} {r : Rs α} {Q : α → En → Prop} {ρ : En}
@[simp] theorem wp_ok {a : α} : (Rs.ok a ρ).Wp Q ↔ Q a ρ := ⟨fun h => by
  obtain ⟨b, ρ', e, q⟩ := h
  cases e
  exact q, fun q => ⟨a, ρ, rfl, q⟩⟩
@[simp] theorem wp_err {c : Str} : (Rs.err c ρ : Rs α).Wp Q ↔ False := ⟨fun h => (by obtain ⟨_, _, e, _⟩ := h; cases e), fun h => h.elim⟩
@[simp] theorem wp_stuck : (Rs.stuck : Rs α).Wp Q ↔ False := ⟨fun h => (by obtain ⟨_, _, e, _⟩ := h; cases e), fun h => h.elim⟩
theorem wp_bind {f : α → M β} {Q : β → En → Prop} : (r.bind f).Wp Q ↔ r.Wp fun a ρ => (f a ρ).Wp Q := by
  cases r with
  | ok a ρ => rw [bind_ok, wp_ok]
  | err c ρ => rw [bind_err, wp_err, wp_err]
  | stuck => rw [bind_stuck, wp_stuck, wp_stuck]
theorem Rs.Wp.mono {R : α → En → Prop} (h : r.Wp Q) (k : ∀ a ρ, Q a ρ → R a ρ) : r.Wp R := by
  obtain ⟨a, ρ, e, q⟩ := h
  exact ⟨a, ρ, e, k a ρ q⟩
theorem Rs.Wp.bind {f : α → M β} {R : β → En → Prop} (h : r.Wp fun a ρ => (f a ρ).Wp R) : (r.bind f).Wp R := wp_bind.mpr h
theorem Rs.Wp.ex (h : r.Wp Q) : ∃ a ρ, r = .ok a ρ ∧ Q a ρ := by
  obtain ⟨a, ρ, e, q⟩ := h
  exact ⟨a, ρ, e, q⟩
theorem rba (r : Rs α) (f : α → M β) (g : β → M γ) : (r.bind f).bind g = r.bind fun a ρ => (f a ρ).bind g := by cases r <;> rfl
end
/-- a def runs well -/
def finQ (n : Nat) (pin : List Nat) (Q : SV → En → Prop) : Fl → En → Prop
  | .rt s, ρ => Q s (mask n pin ρ)
  | .nx, ρ => Q (.d .non) (mask n pin ρ)
  | _, _ => False
@[simp] theorem finQ_rt (n : Nat) (pin : List Nat) (Q : SV → En → Prop) (s : SV) (ρ : En) : finQ n pin Q (.rt s) ρ = Q s (mask n pin ρ) := (rfl)
@[simp] theorem finQ_nx (n : Nat) (pin : List Nat) (Q : SV → En → Prop) (ρ : En) : finQ n pin Q .nx ρ = Q (.d .non) (mask n pin ρ) := (rfl)
theorem den_wp {n l : Nat} {pin : List Nat} {m : M Fl} {args : List SV} {Q : SV → En → Prop} (h : (m (args.map some ++ List.replicate l none)).Wp (finQ n pin Q)) : ∃ s outs, denOf n l pin m args = .ok s outs ∧ Q s outs := by
  unfold denOf
  obtain ⟨f, ρ, q, h⟩ := h
  rw [q]
  cases f with
  | rt s => exact ⟨s, _, rfl, h⟩
  | nx => exact ⟨_, _, rfl, h⟩
  | bk => exact h.elim
  | ct => exact h.elim
/-! ### for -/
def forS (mg : Tg) (p : M Fl) (x : D) (ρ : En) : Rs Fl := match mg x ρ with
  | none => .stuck
  | some ρ' => p ρ'
def goQ (I : Nat → En → Prop) (i : Nat) (Q : Fl → En → Prop) : Fl → En → Prop
  | .nx, ρ => I (i + 1) ρ
  | .ct, ρ => I (i + 1) ρ
  | .bk, ρ => Q .nx ρ
  | .rt s, ρ => Q (.rt s) ρ
section
variable {I : Nat → En → Prop} {i : Nat} {Q : Fl → En → Prop} {ρ : En} {s : SV}
@[simp] theorem goQ_nx : goQ I i Q .nx ρ = I (i + 1) ρ := (rfl)
@[simp] theorem goQ_ct : goQ I i Q .ct ρ = I (i + 1) ρ := (rfl)
@[simp] theorem goQ_bk : goQ I i Q .bk ρ = Q .nx ρ := (rfl)
@[simp] theorem goQ_rt : goQ I i Q (.rt s) ρ = Q (.rt s) ρ := (rfl)
theorem wp_for {mg : Tg} {p : M Fl} {xs : List D} (I : Nat → En → Prop) (h0 : I 0 ρ) (hs : ∀ i (h : i < xs.length) ρ, I i ρ → (forS mg p xs[i] ρ).Wp (goQ I i Q)) (hq : ∀ ρ, I xs.length ρ → Q .nx ρ) : (forR mg p xs ρ).Wp Q := by
  have : ∀ (xs : List D) (k : Nat) (ρ : En), I k ρ → (∀ i (h : i < xs.length) ρ, I (k + i) ρ → (forS mg p xs[i] ρ).Wp (goQ I (k + i) Q)) → (∀ ρ, I (k + xs.length) ρ → Q .nx ρ) → (forR mg p xs ρ).Wp Q := by
    intro xs
    induction xs with
    | nil => exact fun k ρ h _ q => wp_ok.mpr (q ρ h)
    | cons x xs ih =>
      intro k ρ h hs hq
      rw [e_forC]
      have a := hs 0 (by simp) ρ h
      unfold forS at a
      rw [List.getElem_cons_zero] at a
      cases q : mg x ρ with
      | none => rw [q] at a; exact (wp_stuck.mp a).elim
      | some ρ' =>
        rw [q] at a
        show ((p ρ').bind _).Wp Q
        refine Rs.Wp.bind (Rs.Wp.mono a fun f ρ2 g => ?_)
        have next : I (k + 1) ρ2 → (forR mg p xs ρ2).Wp Q := fun g => ih (k + 1) ρ2 g (fun i hi ρ' z => by
          have b := hs (i + 1) (by simpa using hi) ρ' (by rw [show k + (i + 1) = k + 1 + i by omega]; exact z)
          rw [show k + (i + 1) = k + 1 + i by omega] at b
          exact b) (fun ρ' z => hq ρ' (by rw [show k + (x :: xs).length = k + 1 + xs.length by simp; omega]; exact z))
        cases f with
        | nx => exact next g
        | ct => exact next g
        | bk => exact wp_ok.mpr g
        | rt s => exact wp_ok.mpr g
  refine this xs 0 ρ h0 (fun i h ρ z => ?_) (fun ρ z => hq ρ (by simpa using z))
  rw [Nat.zero_add] at z ⊢
  exact hs i h ρ z
theorem intsDlen (lo : Int) (n : Nat) : (intsD lo n).length = n := by simp [intsD]
theorem intsD_at {lo : Int} {n i : Nat} (h : i < (intsD lo n).length) : (intsD lo n)[i] = .int (lo + i) := by simp [intsD]
/-- .. over a range -/
theorem wp_forI {mg : Tg} {p : M Fl} {lo : Int} {n : Nat} (I : Nat → En → Prop) (h0 : I 0 ρ) (hs : ∀ i, i < n → ∀ ρ, I i ρ → (forS mg p (.int (lo + i)) ρ).Wp (goQ I i Q)) (hq : ∀ ρ, I n ρ → Q .nx ρ) : (forR mg p (intsD lo n) ρ).Wp Q :=
  wp_for I h0 (fun i h ρ z => by rw [intsD_at]; exact hs i (by rw [intsDlen] at h; exact h) ρ z) (by rw [intsDlen]; exact hq)
/-- .. over what a list is made of -/
theorem wp_forM {α : Type} {mg : Tg} {p : M Fl} {ys : List α} {f : α → D} (I : Nat → En → Prop) (h0 : I 0 ρ) (hs : ∀ i (h : i < ys.length) ρ, I i ρ → (forS mg p (f ys[i]) ρ).Wp (goQ I i Q)) (hq : ∀ ρ, I ys.length ρ → Q .nx ρ) : (forR mg p (ys.map f) ρ).Wp Q :=
  wp_for I h0 (fun i h ρ z => by rw [List.getElem_map]; exact hs i (by simpa using h) ρ z) (by rw [List.length_map]; exact hq)
end
/-! ### comprehensions -/
def lcOne (ρ0 : En) (vs : List Nat) (mg : Tg) (mt : M Bool) (me : M Ref) (x : D) (ρ : En) : Rs (Option D) := match mg x (wipeE ρ vs) with
  | none => .stuck
  | some ρ1 => (mt ρ1).bind fun b => if b = true then M.bind (mFrz me) (fun y ρ3 => .ok (some y) (restE ρ0 ρ3 vs)) else fun ρ2 => .ok none (restE ρ0 ρ2 vs)
section
variable {ρ ρ0 : En} {vs : List Nat} {mg : Tg} {mt : M Bool} {me : M Ref} {Q : List D → En → Prop} {xs acc : List D}
theorem lcR_one {x : D} (h : acc.length < sizeLine) {R : List D → En → Prop} (k : (lcOne ρ0 vs mg mt me x ρ).Wp fun o ρ' => (lcR ρ0 vs mg mt me xs (acc ++ o.toList) ρ').Wp R) : (lcR ρ0 vs mg mt me (x :: xs) acc ρ).Wp R := by
  rw [e_lcC]
  unfold lcOne at k
  cases q : mg x (wipeE ρ vs) with
  | none => rw [q] at k; exact (wp_stuck.mp k).elim
  | some ρ1 =>
    rw [q] at k
    cases q2 : mt ρ1 with
    | stuck => simp [q2] at k
    | err c ρ' => simp [q2] at k
    | ok b ρ2 =>
      simp only [q2] at k ⊢
      cases b with
      | false => simpa using k
      | true =>
        have k : ((mFrz me ρ2).bind fun y ρ3 => .ok (some y) (restE ρ0 ρ3 vs)).Wp fun o ρ' => (lcR ρ0 vs mg mt me xs (acc ++ o.toList) ρ').Wp R := k
        cases q3 : mFrz me ρ2 with
        | stuck => rw [q3] at k; exact (wp_stuck.mp k).elim
        | err c ρ' => rw [q3] at k; exact (wp_err.mp k).elim
        | ok y ρ3 =>
          rw [q3] at k
          simp only [q3]
          rw [if_pos h]
          exact wp_ok.mp k
/-- by an invariant: how many are taken, what is there -/
theorem wp_lcI (I : Nat → List D → En → Prop) (hl : acc.length + xs.length < 4096) (h0 : I 0 acc ρ) (hs : ∀ i (h : i < xs.length) a ρ', I i a ρ' → (lcOne ρ0 vs mg mt me xs[i] ρ').Wp fun o ρ2 => I (i + 1) (a ++ o.toList) ρ2) (hq : ∀ a ρ', I xs.length a ρ' → Q a ρ') : (lcR ρ0 vs mg mt me xs acc ρ).Wp Q := by
  have : ∀ (xs acc : List D) (k : Nat) (ρ : En), acc.length + xs.length < 4096 → I k acc ρ → (∀ i (h : i < xs.length) a ρ', I (k + i) a ρ' → (lcOne ρ0 vs mg mt me xs[i] ρ').Wp fun o ρ2 => I (k + i + 1) (a ++ o.toList) ρ2) → (∀ a ρ', I (k + xs.length) a ρ' → Q a ρ') → (lcR ρ0 vs mg mt me xs acc ρ).Wp Q := by
    intro xs
    induction xs with
    | nil => exact fun acc k ρ _ h _ q => wp_ok.mpr (q acc ρ h)
    | cons x xs ih =>
      intro acc k ρ hl h hs hq
      have hl' : acc.length + 1 + xs.length < 4096 := by simp at hl; omega
      refine lcR_one (e_sizeLine _ (by omega)) (Rs.Wp.mono (hs 0 (by simp) acc ρ h) fun o ρ2 g => ?_)
      refine ih _ (k + 1) ρ2 ?_ g (fun i hi a ρ' z => ?_) (fun a ρ' z => hq a ρ' ?_)
      · cases o <;> simp <;> omega
      · have b := hs (i + 1) (by simpa using hi) a ρ' (by rw [show k + (i + 1) = k + 1 + i by omega]; exact z)
        rw [show k + (i + 1) = k + 1 + i by omega] at b
        exact b
      · rw [show k + (x :: xs).length = k + 1 + xs.length by simp; omega]
        exact z
  refine this xs acc 0 ρ hl h0 (fun i h a ρ z => ?_) (fun a ρ z => hq a ρ (by simpa using z))
  rw [Nat.zero_add] at z ⊢
  exact hs i h a ρ z
/-- the environment stays -/
theorem wp_lcA (g : D → Option D) : ∀ (xs acc : List D), acc.length + xs.length < 4096 → (∀ x ∈ xs, (lcOne ρ vs mg mt me x ρ).Wp fun o ρ' => ρ' = ρ ∧ o = g x) → Q (acc ++ xs.filterMap g) ρ → (lcR ρ vs mg mt me xs acc ρ).Wp Q
  | [], acc, _, _, hq => by simpa using hq
  | x :: xs, acc, hl, hx, hq => by
    have hl' : acc.length + 1 + xs.length < 4096 := by simp at hl; omega
    refine lcR_one (e_sizeLine _ (by omega)) (Rs.Wp.mono (hx x List.mem_cons_self) fun o ρ2 h => ?_)
    rw [h.1, h.2]
    refine wp_lcA g xs _ ?_ (fun y hy => hx y (List.mem_cons_of_mem _ hy)) ?_
    · cases g x <;> simp <;> omega
    · cases q : g x with
      | none => rw [List.filterMap_cons_none q] at hq; simpa using hq
      | some y => rw [List.filterMap_cons_some q] at hq; simpa using hq
theorem wp_lc (g : D → Option D) (hl : xs.length < 4096) (hx : ∀ x ∈ xs, (lcOne ρ vs mg mt me x ρ).Wp fun o ρ' => ρ' = ρ ∧ o = g x) (hq : Q (xs.filterMap g) ρ) : (lcR ρ vs mg mt me xs [] ρ).Wp Q := wp_lcA g xs [] (by simpa using hl) hx hq
end
section
variable {ρ : En} {vs : List Nat} {mg : Tg} {mt : M Bool} {me : M Ref} {xs : List D}
theorem lc_eq (g : D → Option D) (hl : xs.length < 4096) (hx : ∀ x ∈ xs, lcOne ρ vs mg mt me x ρ = .ok (g x) ρ) : lcR ρ vs mg mt me xs [] ρ = .ok (xs.filterMap g) ρ := by
  obtain ⟨a, ρ', e, h1, h2⟩ := (wp_lc (Q := fun a ρ' => a = xs.filterMap g ∧ ρ' = ρ) g hl (fun x h => by rw [hx x h]; exact wp_ok.mpr ⟨rfl, rfl⟩) ⟨rfl, rfl⟩).ex
  rw [e, h1, h2]
end
/-! ### two for -/
def lc2One (ρ0 : En) (vs : List Nat) (mg : Tg) (mt : M Bool) (mi1 : M (List D)) (vs1 : List Nat) (mg1 : Tg) (mt1 : M Bool) (me : M Ref) (x : D) (acc : List D) (ρ : En) : Rs (List D) := match mg x (wipeE ρ vs) with
  | none => .stuck
  | some ρ1 => (mt ρ1).bind fun b => if b = true then M.bind mi1 (fun ys ρ3 => if (vs1.all fun v => isData (ρ3.getD v none)) = true then (lcR ρ3 vs1 mg1 mt1 me ys acc ρ3).bind (fun a ρ4 => .ok a (restE ρ0 ρ4 vs)) else .stuck) else fun ρ2 => .ok acc (restE ρ0 ρ2 vs)
section
variable {ρ ρ0 : En} {vs vs1 : List Nat} {mg mg1 : Tg} {mt mt1 : M Bool} {mi1 : M (List D)} {me : M Ref} {Q : List D → En → Prop} {xs acc : List D}
theorem lcR2_one {x : D} {R : List D → En → Prop} (k : (lc2One ρ0 vs mg mt mi1 vs1 mg1 mt1 me x acc ρ).Wp fun a ρ' => (lcR2 ρ0 vs mg mt mi1 vs1 mg1 mt1 me xs a ρ').Wp R) : (lcR2 ρ0 vs mg mt mi1 vs1 mg1 mt1 me (x :: xs) acc ρ).Wp R := by
  unfold lcR2
  unfold lc2One at k
  cases q : mg x (wipeE ρ vs) with
  | none => rw [q] at k; exact (wp_stuck.mp k).elim
  | some ρ1 =>
    rw [q] at k
    cases q2 : mt ρ1 with
    | stuck => simp [q2] at k
    | err c ρ' => simp [q2] at k
    | ok b ρ2 =>
      simp only [q2] at k ⊢
      cases b with
      | false => simpa using k
      | true =>
        have k : ((mi1 ρ2).bind fun ys ρ3 => if (vs1.all fun v => isData (ρ3.getD v none)) = true then (lcR ρ3 vs1 mg1 mt1 me ys acc ρ3).bind (fun a ρ4 => .ok a (restE ρ0 ρ4 vs)) else .stuck).Wp fun a ρ' => (lcR2 ρ0 vs mg mt mi1 vs1 mg1 mt1 me xs a ρ').Wp R := k
        cases q3 : mi1 ρ2 with
        | stuck => rw [q3] at k; exact (wp_stuck.mp k).elim
        | err c ρ' => rw [q3] at k; exact (wp_err.mp k).elim
        | ok ys ρ3 =>
          rw [q3, bind_ok] at k
          simp only [q3]
          by_cases hd : (vs1.all fun v => isData (ρ3.getD v none)) = true
          · rw [if_pos hd] at k ⊢
            cases q4 : lcR ρ3 vs1 mg1 mt1 me ys acc ρ3 with
            | stuck => rw [q4] at k; exact (wp_stuck.mp k).elim
            | err c ρ' => rw [q4] at k; exact (wp_err.mp k).elim
            | ok a ρ4 =>
              rw [q4] at k
              simp only []
              exact wp_ok.mp k
          · rw [if_neg hd] at k
            exact (wp_stuck.mp k).elim
theorem wp_lc2A (g : D → List D) : ∀ (xs acc : List D), (∀ x ∈ xs, ∀ a, a.length + (g x).length ≤ acc.length + (xs.flatMap g).length → (lc2One ρ vs mg mt mi1 vs1 mg1 mt1 me x a ρ).Wp fun a' ρ' => ρ' = ρ ∧ a' = a ++ g x) → Q (acc ++ xs.flatMap g) ρ → (lcR2 ρ vs mg mt mi1 vs1 mg1 mt1 me xs acc ρ).Wp Q
  | [], acc, _, hq => by simpa [lcR2] using hq
  | x :: xs, acc, hx, hq => by
    refine lcR2_one (Rs.Wp.mono (hx x List.mem_cons_self acc (by simp)) fun a ρ2 h => ?_)
    rw [h.1, h.2]
    refine wp_lc2A g xs _ (fun y hy b hb => hx y (List.mem_cons_of_mem _ hy) b ?_) ?_
    · simp at hb ⊢
      omega
    · simpa using hq
theorem wp_lc2 (g : D → List D) (hx : ∀ x ∈ xs, ∀ a, a.length + (g x).length ≤ (xs.flatMap g).length → (lc2One ρ vs mg mt mi1 vs1 mg1 mt1 me x a ρ).Wp fun a' ρ' => ρ' = ρ ∧ a' = a ++ g x) (hq : Q (xs.flatMap g) ρ) : (lcR2 ρ vs mg mt mi1 vs1 mg1 mt1 me xs [] ρ).Wp Q := wp_lc2A g xs [] (fun x h a z => hx x h a (by simpa using z)) hq
end
/-! ### odds and ends -/
section
variable {ρ : En} {a : M Ref} {mi mi1 : M (List D)} {vs vs1 : List Nat} {mg mg1 : Tg} {mt mt1 : M Bool} {me : M Ref}
@[simp] theorem e_lc2 : mLc2 mi vs mg mt mi1 vs1 mg1 mt1 me ρ = (mi ρ).bind fun xs ρ => if (vs.all fun v => isData (ρ.getD v none)) = true then M.bind (lcR2 ρ vs mg mt mi1 vs1 mg1 mt1 me xs []) (fun ys => M.ret (.sv (.ol ys))) ρ else .stuck := (rfl)
end
def gI : D → Int
  | .int i => i
  | _ => 0
@[simp] theorem gI_int (i : Int) : gI (.int i) = i := (rfl)
theorem mem_intsD {lo : Int} {n : Nat} {x : D} (h : x ∈ intsD lo n) : ∃ i : Nat, i < n ∧ x = .int (lo + i) := by
  unfold intsD at h
  obtain ⟨i, hi, e⟩ := List.mem_map.mp h
  exact ⟨i, List.mem_range.mp hi, e.symm⟩
theorem len_flat {α β : Type} {b : Nat} (g : α → List β) : ∀ (xs : List α), (∀ x ∈ xs, (g x).length ≤ b) → (xs.flatMap g).length ≤ xs.length * b
  | [], _ => by simp
  | x :: xs, h => by
    have a := h x List.mem_cons_self
    have c := len_flat g xs fun y hy => h y (List.mem_cons_of_mem _ hy)
    simp only [List.flatMap_cons, List.length_append, List.length_cons, Nat.add_mul, Nat.one_mul]
    omega
end VS

/-! VN: C(k = v, ..), a list's item written. -/
namespace VS
open PySem PySem.Spec PyProof.Rows L2
section
variable {C : VC} {X : Cx} {W : WX} {k : Nat} {c x y qual : Str} {st : Stmt} {ps ks : List Str} {den : Den} {kws : List Keyword} {tk : TA} {mk : M (List Opd)} {p pos : Pos} {f Ca : Addr}
theorem snd_makeK (fr : Free W) (hc : C.mg c = some (.ref Ca)) (ha : SndA C W tk mk) (hl : Len mk ks.length) : SndE C W (tMakeK Ca 0 ks.length (spD C (ks.length + 1) den) (fun vs zs => vs ++ zs) (xOf W) tNil tk) (mMake c den mk) := by
  intro B ρ σ G H Q E P
  refine ha B ρ σ G H _ E ?_
  unfold mMake at P
  rw [mbind] at P
  cases q : mk ρ with
  | stuck => rw [q] at P; exact P
  | err c ρ' => rw [q] at P; exact P
  | ok os ρ1 =>
    rw [q, bind_ok] at P
    intro vs G1 H1 E1 S1 r1
    refine ⟨rfl, r1.length.symm.trans (hl _ _ _ q), fun x dx hx hdx hne => ?_⟩
    obtain ⟨G2, S2, E2⟩ := E1.newI hc hx hdx hne
    have E3 := E2.push
    have slot : (σ ++ [some (V.ref x)])[σ.length]? = some (some (.ref x)) := by
      rw [List.getElem?_append_right (Nat.le_refl _)]
      simp
    have len : ρ1.length = σ.length := E1.len
    have ro : OpdsR C (σ ++ [some (V.ref x)]) G2 (.loc ρ1.length :: os) (.ref x :: vs) := .cons (by
      show (σ ++ [some (V.ref x)])[ρ1.length]? = _
      rw [len]
      exact slot) ((r1.mono S2).push)
    show spD C (ks.length + 1) den (.ref x :: vs) _ _ _
    refine post_call (W := fun c d _ H => xOf W c d H) (σ := σ ++ [some (V.ref x)]) (by rw [List.length_cons, r1.length.symm.trans (hl _ _ _ q)]) E3 ro ?_
    unfold makeD at P
    cases q2 : callD den (.loc ρ1.length :: os) (ρ1 ++ [some (.oi c [])]) with
    | stuck => rw [q2] at P; exact P
    | err e ρ' =>
      rw [q2] at P
      intro G' H' Ea E' he σ'
      refine fr _ _ _ _ _ (P G' H' Ea ?_ he)
      rw [len]
      exact E'.cut
    | ok rf ρ' =>
      rw [q2] at P
      cases rf with
      | loc i => exact P.elim
      | sv s =>
        cases s with
        | d z =>
          cases z with
          | non =>
            intro v G' H' E' S'
            have ev : v = .non := by
              cases E'.resOf
              rfl
            refine ⟨ev, ?_⟩
            dsimp only at P
            cases q3 : ρ'.getD ρ1.length none with
            | none => rw [q3] at P; exact P.elim
            | some s2 =>
              rw [q3] at P
              cases s2 with
              | oi c' fs =>
                rw [len] at q3
                have E4 := (E'.nox).take q3 slot
                obtain ⟨G5, S5, E5, r5⟩ := E4.frzRes (y := .ins c' fs) rfl
                have E6 := E5.cut.res r5
                have et : (ρ'.set σ.length none).take σ.length = ρ'.take ρ1.length := by
                  rw [len]
                  apply List.ext_getElem?
                  intro j
                  by_cases hj : j < σ.length
                  · rw [List.getElem?_take_of_lt hj, List.getElem?_take_of_lt hj, List.getElem?_set_ne (by omega)]
                  · rw [List.getElem?_eq_none (by simp; omega), List.getElem?_eq_none (by simp; omega)]
                rw [et] at E6
                exact P _ G5 H' E6 (S1.trans (S2.trans (S'.trans S5)))
              | d z => exact P.elim
              | ol z => exact P.elim
              | od z => exact P.elim
              | dr z => exact P.elim
              | sc z => exact P.elim
          | _ => exact P.elim
        | _ => exact P.elim
theorem se_makeK0 (M : CM C c Ca f) (F : FM C X.prog X.w X.base k f qual x st (y :: ks) den) (tk' : Takes X W) (fr : Free W) (hr : Room (k + 1) X.A) (hg : Gl X c) (hkw : SK C X W kws tk mk)
    (hb : ∀ (kV doc pm : Value) (an : Option Addr) (cdv ct : Value) (us ws : List Value), us.length = 1 → ws.length = ks.length → bindArgs (PySem.W.fnOf x qual (defArgs st) (defBody st) (defScope st) .none kV doc pm an cdv ct) ⟨us, ks.zip ws⟩ = pure ((y :: ks).zip (us ++ ws)))
    (hl : Len mk ks.length) (hK : X.K = C.K := by rfl) (hm : X.mg = C.mg := by rfl)
    (hall : (backToKw pos (keywordEach kws X.env)).all (·.1.isSome) = true := by rfl) (hks : (backToKw pos (keywordEach kws X.env)).filterMap (·.1) = ks := by rfl) (hdb : (c == ("__debug__" : Str)) = false := by decide)
    (hpl : ((backTo pos (starEach [] X.env)).any (·.1) || (backToKw pos (keywordEach kws X.env)).any (·.1.isNone)) = false := by rfl) :
    SE C X W (.Call (.Name c p) [] kws pos) (tMakeK Ca 0 ks.length (spD C (ks.length + 1) den) (fun vs zs => vs ++ zs) (xOf W) tNil tk) (mMake c den mk) := by
  refine ⟨?_, snd_makeK fr M.g hkw.snd hl⟩
  obtain ⟨fd, G, kV, doc, pm, an, cdv, ct, e1⟩ := F.fn
  rw [← hK, ← hm] at G
  subst e1
  exact pe_makeK0 (by rw [hK]; exact M.m) G hr hg (by rw [hm]; exact M.g) (g := fun us ws => us ++ ws) ⟨fun s us ws _ l1 l2 => BindsTo.of_eq (hb kV doc pm an cdv ct us ws l1 l2), fun r1 r2 => r1.append r2⟩ (pass_of tk') hkw.pk hall hks hdb hpl
end
/-! ### x[k] = v, x a list -/
def sLPut (tl ti tv : TE) : TS := fun D σ H => tv σ H fun v H1 => tl σ H1 fun x H2 => ti σ H2 fun y H3 => rSetL x y v H3 fun H4 => D.nx σ H4
theorem ps_lput {X : Cx} {o i value : Expr} {tl ti tv : TE} {pos pos' : Pos} (ho : PE X o tl) (hi : PE X i ti) (hv : PE X value tv) (hs : swapsWith value (some (.Subscript o i pos')) pos.line X.env = pure false) : PS X (.Assign [.Subscript o i pos'] value pos) (sLPut tl ti tv) := by
  refine ⟨fun pins s σ H D I h => ?_⟩
  refine wpAny_Assign_Subscript (thn (hv.run pins s σ H _ I h) fun r s1 ⟨v, H1, I1, rv, q1⟩ => thn (ho.run pins s1 σ H1 _ I1 q1) fun u s2 ⟨x, H2, I2, rx, q2⟩ => thn (hi.run pins s2 σ H2 _ I2 q2) fun iv s3 ⟨y, H3, I3, ry, q3⟩ => ?_) hs
  exact wpAny_mono (set_list pins s3 σ H3 x y v u iv r _ I3 rx ry rv q3) (fun _ s4 ⟨H4, I4, q4⟩ => ⟨σ, H4, I4, q4⟩) fun _ _ z => z
def lputD (i : Nat) (k v : D) : M Fl := fun ρ => match ρ.getD i none, k with
  | some (.ol xs), .int n => (match ixN xs.length n with
    | some j => .ok .nx (ρ.set i (some (.ol (xs.set j v))))
    | none => .stuck)
  | _, _ => .stuck
def mLPut (i : Nat) (k v : M Ref) : M Fl := M.bind (mFrz v) fun x ρ => if (ρ.getD i none).isSome = true then M.bind (mFrz k) (fun y => lputD i y x) ρ else .stuck
section
variable {C : VC} {X : Cx} {W : WX} {P : List Nat} {i : Nat} {tk tv : TE} {mk mv : M Ref} {k value : Expr} {x : Str} {p pos pos' : Pos}
theorem snd_lput (hk : SndE C W tk mk) (hv : SndE C W tv mv) : SndS C P W (sLPut (tVar i) tk tv) (mLPut i mk mv) := by
  intro B ρ σ G H D E pn Q
  refine hv.f E ?_
  unfold mLPut at Q
  rw [mbind] at Q
  cases q : mFrz mv ρ with
  | stuck => rw [q] at Q; exact Q
  | err c ρ' => rw [q] at Q; exact fun G' H' Ca E' hc => Q σ G' H' Ca E' pn hc
  | ok x ρ1 =>
    rw [q, bind_ok] at Q
    intro v G1 H1 E1 S1 r1
    by_cases hs : (ρ1.getD i none).isSome = true
    · rw [if_pos hs, mbind] at Q
      obtain ⟨s0, hs0⟩ := Option.isSome_iff_exists.mp hs
      obtain ⟨w, hw, _⟩ := E1.slot hs0
      refine ⟨w, hw, hk.f E1 ?_⟩
      cases q2 : mFrz mk ρ1 with
      | stuck => rw [q2] at Q; exact Q
      | err c ρ' => rw [q2] at Q; exact fun G' H' Ca E' hc => Q σ G' H' Ca E' pn hc
      | ok y ρ2 =>
        rw [q2, bind_ok] at Q
        intro u G2 H2 E2 S2 r2
        unfold lputD at Q
        cases q3 : ρ2.getD i none with
        | none => rw [q3] at Q; exact Q.elim
        | some s =>
          rw [q3] at Q
          cases s with
          | ol xs =>
            cases y with
            | int n =>
              dsimp only at Q
              cases q4 : ixN xs.length n with
              | none => rw [q4] at Q; exact Q.elim
              | some j =>
                rw [q4] at Q
                obtain ⟨pp, vs, rfl, hp, rk, ch⟩ := E2.chgL q3 hw
                have eu : u = .int n := by
                  cases r2
                  rfl
                subst eu
                exact ⟨pp, vs, n, j, rfl, rfl, hp, by rw [rk.length]; exact q4, Q σ G2 _ (ch _ _ (rk.set (r1.mono S2) j)) (S1.trans S2) pn⟩
            | _ => exact Q.elim
          | d x => exact Q.elim
          | od x => exact Q.elim
          | dr x => exact Q.elim
          | sc x => exact Q.elim
          | oi c x => exact Q.elim
    · rw [if_neg hs] at Q
      exact Q.elim
theorem s_lput (hv : PE X (.Name x p) (tVar i)) (hk : SE C X W k tk mk) (hval : SE C X W value tv mv) (hs : swapsWith value (some (.Subscript (.Name x p) k pos')) pos.line X.env = pure false := by rfl) :
    S1 C P X W (.Assign [.Subscript (.Name x p) k pos'] value pos) (sLPut (tVar i) tk tv) (mLPut i mk mv) := ⟨ps_lput hv hk.pe hval.pe hs, snd_lput hk.snd hval.snd⟩
end
end VS


namespace HD
open PySem PySem.Spec PyProof.Rows L2
/-! the text by places -/
def top (i : Nat) : Stmt := PySem.Challenge.pw_gapstairs_k86_forms_equal_if_they_do_the.main.body.getD i (.Pass ⟨0, 0, 0, 0⟩)
abbrev s_is_size : Stmt := top 12
abbrev s_is_body : Stmt := top 13
abbrev s_is_corner : Stmt := top 14
abbrev s_up_to : Stmt := top 15
abbrev s_lies_in : Stmt := top 16
abbrev s_lesser : Stmt := top 17
abbrev s_is_stairs : Stmt := top 19
abbrev s_need_stairs : Stmt := top 20
abbrev s__rank : Stmt := top 21
abbrev s_top_corners : Stmt := top 22
abbrev s_has : Stmt := top 23
abbrev s_common : Stmt := top 24
abbrev s_shifted_corner : Stmt := top 25
abbrev s_moved : Stmt := top 26
abbrev s_is_number : Stmt := top 28
abbrev s_is_pair : Stmt := top 29
abbrev s_is_site : Stmt := top 31
abbrev s__plain : Stmt := top 33
abbrev s_need_form : Stmt := top 35
abbrev s_need_form_body : Stmt := top 36
abbrev s_grown : Stmt := top 37
abbrev s_then : Stmt := top 38
abbrev s_end_size : Stmt := top 39
abbrev s_need_stay : Stmt := top 40
abbrev s_still : Stmt := top 41
abbrev s_load_form : Stmt := top 42
abbrev s__law_begun : Stmt := top 44
abbrev s__law_mixed : Stmt := top 45
abbrev s__law_take : Stmt := top 46
abbrev s__law_pick : Stmt := top 47
abbrev s__law_caught : Stmt := top 48
abbrev s__law_least : Stmt := top 49
abbrev s__law_holds : Stmt := top 50
abbrev s__law_rank : Stmt := top 51
abbrev s__law_staircase : Stmt := top 52
abbrev s__law_held : Stmt := top 53
abbrev s__law_size : Stmt := top 54
abbrev s__law_beside : Stmt := top 55
abbrev s__law_few : Stmt := top 56
abbrev s__law_grow : Stmt := top 57
abbrev s__law_raw : Stmt := top 58
abbrev s__law_reach : Stmt := top 59
abbrev s__law_tries : Stmt := top 60
abbrev s__law_same_doing : Stmt := top 61
abbrev s__law_changed : Stmt := top 62
abbrev s__law_loads_ok : Stmt := top 63
abbrev s__law_refused : Stmt := top 64
abbrev s_law : Stmt := top 65
abbrev s_Form___init__ : Stmt := inClass (top 34) 0
abbrev s_Form___eq__ : Stmt := inClass (top 34) 1
abbrev s_Form___mul__ : Stmt := inClass (top 34) 2
def d_is_size : He.DefD := ⟨("is_size", none), "is_size", "is_size", defArgs s_is_size, defBody s_is_size, defScope s_is_size, [], []⟩
def d_is_body : He.DefD := ⟨("is_body", none), "is_body", "is_body", defArgs s_is_body, defBody s_is_body, defScope s_is_body, [], []⟩
def d_is_corner : He.DefD := ⟨("is_corner", none), "is_corner", "is_corner", defArgs s_is_corner, defBody s_is_corner, defScope s_is_corner, [], []⟩
def d_up_to : He.DefD := ⟨("up_to", none), "up_to", "up_to", defArgs s_up_to, defBody s_up_to, defScope s_up_to, [], []⟩
def d_lies_in : He.DefD := ⟨("lies_in", none), "lies_in", "lies_in", defArgs s_lies_in, defBody s_lies_in, defScope s_lies_in, [], []⟩
def d_lesser : He.DefD := ⟨("lesser", none), "lesser", "lesser", defArgs s_lesser, defBody s_lesser, defScope s_lesser, [], []⟩
def d_is_stairs : He.DefD := ⟨("is_stairs", none), "is_stairs", "is_stairs", defArgs s_is_stairs, defBody s_is_stairs, defScope s_is_stairs, [], []⟩
def d_need_stairs : He.DefD := ⟨("need_stairs", none), "need_stairs", "need_stairs", defArgs s_need_stairs, defBody s_need_stairs, defScope s_need_stairs, [], []⟩
def d__rank : He.DefD := ⟨("_rank", none), "_rank", "_rank", defArgs s__rank, defBody s__rank, defScope s__rank, [], []⟩
def d_top_corners : He.DefD := ⟨("top_corners", none), "top_corners", "top_corners", defArgs s_top_corners, defBody s_top_corners, defScope s_top_corners, [], []⟩
def d_has : He.DefD := ⟨("has", none), "has", "has", defArgs s_has, defBody s_has, defScope s_has, [], []⟩
def d_common : He.DefD := ⟨("common", none), "common", "common", defArgs s_common, defBody s_common, defScope s_common, [], []⟩
def d_shifted_corner : He.DefD := ⟨("shifted_corner", none), "shifted_corner", "shifted_corner", defArgs s_shifted_corner, defBody s_shifted_corner, defScope s_shifted_corner, [], []⟩
def d_moved : He.DefD := ⟨("moved", none), "moved", "moved", defArgs s_moved, defBody s_moved, defScope s_moved, [], []⟩
def d_is_number : He.DefD := ⟨("is_number", none), "is_number", "is_number", defArgs s_is_number, defBody s_is_number, defScope s_is_number, [], []⟩
def d_is_pair : He.DefD := ⟨("is_pair", none), "is_pair", "is_pair", defArgs s_is_pair, defBody s_is_pair, defScope s_is_pair, [], []⟩
def d_is_site : He.DefD := ⟨("is_site", none), "is_site", "is_site", defArgs s_is_site, defBody s_is_site, defScope s_is_site, [], []⟩
def d__plain : He.DefD := ⟨("_plain", none), "_plain", "_plain", defArgs s__plain, defBody s__plain, defScope s__plain, [], []⟩
def d_need_form : He.DefD := ⟨("need_form", none), "need_form", "need_form", defArgs s_need_form, defBody s_need_form, defScope s_need_form, [], []⟩
def d_need_form_body : He.DefD := ⟨("need_form_body", none), "need_form_body", "need_form_body", defArgs s_need_form_body, defBody s_need_form_body, defScope s_need_form_body, [], []⟩
def d_grown : He.DefD := ⟨("grown", none), "grown", "grown", defArgs s_grown, defBody s_grown, defScope s_grown, [], []⟩
def d_then : He.DefD := ⟨("then", none), "then", "then", defArgs s_then, defBody s_then, defScope s_then, [], []⟩
def d_end_size : He.DefD := ⟨("end_size", none), "end_size", "end_size", defArgs s_end_size, defBody s_end_size, defScope s_end_size, [], []⟩
def d_need_stay : He.DefD := ⟨("need_stay", none), "need_stay", "need_stay", defArgs s_need_stay, defBody s_need_stay, defScope s_need_stay, [], []⟩
def d_still : He.DefD := ⟨("still", none), "still", "still", defArgs s_still, defBody s_still, defScope s_still, [], []⟩
def d_load_form : He.DefD := ⟨("load_form", none), "load_form", "load_form", defArgs s_load_form, defBody s_load_form, defScope s_load_form, [], []⟩
def d__law_begun : He.DefD := ⟨("_law_begun", none), "_law_begun", "_law_begun", defArgs s__law_begun, defBody s__law_begun, defScope s__law_begun, [], []⟩
def d__law_mixed : He.DefD := ⟨("_law_mixed", none), "_law_mixed", "_law_mixed", defArgs s__law_mixed, defBody s__law_mixed, defScope s__law_mixed, [], []⟩
def d__law_take : He.DefD := ⟨("_law_take", none), "_law_take", "_law_take", defArgs s__law_take, defBody s__law_take, defScope s__law_take, [], []⟩
def d__law_pick : He.DefD := ⟨("_law_pick", none), "_law_pick", "_law_pick", defArgs s__law_pick, defBody s__law_pick, defScope s__law_pick, [], []⟩
def d__law_caught : He.DefD := ⟨("_law_caught", none), "_law_caught", "_law_caught", defArgs s__law_caught, defBody s__law_caught, defScope s__law_caught, [], []⟩
def d__law_least : He.DefD := ⟨("_law_least", none), "_law_least", "_law_least", defArgs s__law_least, defBody s__law_least, defScope s__law_least, [], []⟩
def d__law_holds : He.DefD := ⟨("_law_holds", none), "_law_holds", "_law_holds", defArgs s__law_holds, defBody s__law_holds, defScope s__law_holds, [], []⟩
def d__law_rank : He.DefD := ⟨("_law_rank", none), "_law_rank", "_law_rank", defArgs s__law_rank, defBody s__law_rank, defScope s__law_rank, [], []⟩
def d__law_staircase : He.DefD := ⟨("_law_staircase", none), "_law_staircase", "_law_staircase", defArgs s__law_staircase, defBody s__law_staircase, defScope s__law_staircase, [], []⟩
def d__law_held : He.DefD := ⟨("_law_held", none), "_law_held", "_law_held", defArgs s__law_held, defBody s__law_held, defScope s__law_held, [], []⟩
def d__law_size : He.DefD := ⟨("_law_size", none), "_law_size", "_law_size", defArgs s__law_size, defBody s__law_size, defScope s__law_size, [], []⟩
def d__law_beside : He.DefD := ⟨("_law_beside", none), "_law_beside", "_law_beside", defArgs s__law_beside, defBody s__law_beside, defScope s__law_beside, [], []⟩
def d__law_few : He.DefD := ⟨("_law_few", none), "_law_few", "_law_few", defArgs s__law_few, defBody s__law_few, defScope s__law_few, [], []⟩
def d__law_grow : He.DefD := ⟨("_law_grow", none), "_law_grow", "_law_grow", defArgs s__law_grow, defBody s__law_grow, defScope s__law_grow, [], []⟩
def d__law_raw : He.DefD := ⟨("_law_raw", none), "_law_raw", "_law_raw", defArgs s__law_raw, defBody s__law_raw, defScope s__law_raw, [], []⟩
def d__law_reach : He.DefD := ⟨("_law_reach", none), "_law_reach", "_law_reach", defArgs s__law_reach, defBody s__law_reach, defScope s__law_reach, [], []⟩
def d__law_tries : He.DefD := ⟨("_law_tries", none), "_law_tries", "_law_tries", defArgs s__law_tries, defBody s__law_tries, defScope s__law_tries, [], []⟩
def d__law_same_doing : He.DefD := ⟨("_law_same_doing", none), "_law_same_doing", "_law_same_doing", defArgs s__law_same_doing, defBody s__law_same_doing, defScope s__law_same_doing, [], []⟩
def d__law_changed : He.DefD := ⟨("_law_changed", none), "_law_changed", "_law_changed", defArgs s__law_changed, defBody s__law_changed, defScope s__law_changed, [], []⟩
def d__law_loads_ok : He.DefD := ⟨("_law_loads_ok", none), "_law_loads_ok", "_law_loads_ok", defArgs s__law_loads_ok, defBody s__law_loads_ok, defScope s__law_loads_ok, [], []⟩
def d__law_refused : He.DefD := ⟨("_law_refused", none), "_law_refused", "_law_refused", defArgs s__law_refused, defBody s__law_refused, defScope s__law_refused, [], []⟩
def d_law : He.DefD := ⟨("law", none), "law", "law", defArgs s_law, defBody s_law, defScope s_law, [], []⟩
def d_Form___init__ : He.DefD := ⟨("Form", some "__init__"), "__init__", "Form.__init__", defArgs s_Form___init__, defBody s_Form___init__, defScope s_Form___init__, [], []⟩
def d_Form___eq__ : He.DefD := ⟨("Form", some "__eq__"), "__eq__", "Form.__eq__", defArgs s_Form___eq__, defBody s_Form___eq__, defScope s_Form___eq__, [], []⟩
def d_Form___mul__ : He.DefD := ⟨("Form", some "__mul__"), "__mul__", "Form.__mul__", defArgs s_Form___mul__, defBody s_Form___mul__, defScope s_Form___mul__, [], []⟩
def fn : List He.DefD := (([d_is_size, d_is_body, d_is_corner, d_up_to, d_lies_in, d_lesser, d_is_stairs, d_need_stairs, d__rank, d_top_corners, d_has, d_common, d_shifted_corner, d_moved, d_is_number, d_is_pair, d_is_site, d__plain, d_need_form, d_need_form_body, d_grown, d_then, d_end_size, d_need_stay, d_still, d_load_form, d__law_begun, d__law_mixed, d__law_take, d__law_pick] : List He.DefD)) ++ (([d__law_caught, d__law_least, d__law_holds, d__law_rank, d__law_staircase, d__law_held, d__law_size, d__law_beside, d__law_few, d__law_grow, d__law_raw, d__law_reach, d__law_tries, d__law_same_doing, d__law_changed, d__law_loads_ok, d__law_refused, d_law, d_Form___init__, d_Form___eq__, d_Form___mul__] : List He.DefD))
def fa : List He.Fa := (([.glo "is_size", .glo "is_body", .glo "is_corner", .glo "up_to", .glo "lies_in", .glo "lesser", .glo "is_stairs", .glo "need_stairs", .glo "_rank", .glo "top_corners", .glo "has", .glo "common", .glo "shifted_corner", .glo "moved", .glo "is_number", .glo "is_pair", .glo "is_site", .glo "_plain", .glo "need_form", .glo "need_form_body", .glo "grown", .glo "then", .glo "end_size", .glo "need_stay", .glo "still", .glo "load_form", .glo "_law_begun", .glo "_law_mixed", .glo "_law_take", .glo "_law_pick"] : List He.Fa)) ++ (([.glo "_law_caught", .glo "_law_least", .glo "_law_holds", .glo "_law_rank", .glo "_law_staircase", .glo "_law_held", .glo "_law_size", .glo "_law_beside", .glo "_law_few", .glo "_law_grow", .glo "_law_raw", .glo "_law_reach", .glo "_law_tries", .glo "_law_same_doing", .glo "_law_changed", .glo "_law_loads_ok", .glo "_law_refused", .glo "law", .free "ValueError", .free "abs", .free "any", .free "bool", .free "int", .free "isinstance", .free "len", .free "list", .free "max", .free "min", .free "range", .free "reversed"] : List He.Fa)) ++ (([.free "set", .free "sorted", .free "tuple", .glo "GapError", .exc "GapError", .glo "BadBody", .exc "BadBody", .glo "BadBy", .exc "BadBy", .glo "BadEnd", .exc "BadEnd", .glo "BadForm", .exc "BadForm", .glo "BadLeast", .exc "BadLeast", .glo "BadPlace", .exc "BadPlace", .glo "BadStairs", .exc "BadStairs", .glo "BadStart", .exc "BadStart", .glo "NotJoined", .exc "NotJoined", .glo "Form", .cls "Form", .mkr "Form", .meth "Form" "__eq__", .meth "Form" "__mul__", .noat "Form" "start", .noat "Form" "end"] : List He.Fa)) ++ (([.noat "Form" "stairs", .noat "Form" "least", .noat "Form" "by", .exm "GapError" "GapError" true, .exm "BadBody" "GapError" true, .exm "BadBy" "GapError" true, .exm "BadEnd" "GapError" true, .exm "BadForm" "GapError" true, .exm "BadLeast" "GapError" true, .exm "BadPlace" "GapError" true, .exm "BadStairs" "GapError" true, .exm "BadStart" "GapError" true, .exm "NotJoined" "GapError" true] : List He.Fa))
def tf : List He.Defn := [("has", none), ("_law_staircase", none), ("_law_refused", none)]
def ocs : List PySem.Str := ["Form"]
def oes : List PySem.Str := ["GapError", "BadBody", "BadBy", "BadEnd", "BadForm", "BadLeast", "BadPlace", "BadStairs", "BadStart", "NotJoined"]
def ces : List PySem.Str := ["GapError", "BadBody", "BadBy", "BadEnd", "BadForm", "BadLeast", "BadPlace", "BadStairs", "BadStart", "NotJoined"]
def ancL : List (PySem.Str × List PySem.Str) := [("BadBody", ["GapError"]), ("BadBy", ["GapError"]), ("BadEnd", ["GapError"]), ("BadForm", ["GapError"]), ("BadLeast", ["GapError"]), ("BadPlace", ["GapError"]), ("BadStairs", ["GapError"]), ("BadStart", ["GapError"]), ("NotJoined", ["GapError"])]
def anc (c x : PySem.Str) : Bool := decide (c = x) || ((ancL.lookup c).getD []).contains x
def cf : List (PySem.Str × List PySem.Str) := [("Form", ["start", "end", "stairs", "least", "by"])]
def ex (K : PySem.W.Frag) : Bool := (((((VS.koB K ocs oes anc && decide ((tf.map fun p => (He.cT K p).2).Nodup)) && (PySem.W.mroIn K (He.ga K "Form") (.type "object") == some true)) && (PySem.W.findIn K (.ref (He.ga K "Form")) "__ne__" == some (some (.builtin "object.__ne__")))) && PySem.W.selfFirst K (He.ga K "Form")) && (PySem.W.findIn K (.ref (He.ga K "Form")) "__rmul__" == some none))
def nmL : List (PySem.Str × PySem.Str) := [("has", "<genexpr>"), ("_law_staircase", "<lambda>"), ("_law_refused", "<lambda>")]
def nm (p : He.Defn) : PySem.Str := p.1 ++ ".<locals>." ++ ((nmL.lookup p.1).getD "")
abbrev R : PySem.W.OpenRow := PySem.W.OpenLaw.row PySem.Challenge.rw_gapstairs_k86_forms_equal_if_they_do_the
abbrev hk : PySem.W.Hook := He.hookX 5 fa fn [] tf ex
def ob (s : PySem.W.SharedT) : He.AlX := He.obsX 5 fa fn [] tf ex (HandSHeadRun.getT s)
theorem ob_eq (s : PySem.W.SharedT) : ob s = hk.obs s.abs := He.obsX_eq (HandSHeadRun.getT_eq s)
def loose : List PySem.Str := ((["GapError", "BadBody", "BadBy", "BadEnd", "BadForm", "BadLeast", "BadPlace", "BadStairs", "BadStart", "NotJoined", "is_size", "is_body", "is_corner", "up_to", "lies_in", "lesser", "is_stairs", "need_stairs", "_rank", "top_corners", "has", "common", "shifted_corner", "moved", "is_number", "is_pair", "is_site", "_plain", "Form", "need_form"] : List PySem.Str)) ++ ((["need_form_body", "grown", "then", "end_size", "need_stay", "still", "load_form", "_law_begun", "_law_mixed", "_law_take", "_law_pick", "_law_caught", "_law_least", "_law_holds", "_law_rank", "_law_staircase", "_law_held", "_law_size", "_law_beside", "_law_few", "_law_grow", "_law_raw", "_law_reach", "_law_tries", "_law_same_doing", "_law_changed", "_law_loads_ok", "_law_refused"] : List PySem.Str))
theorem run (w : World) : HandSHeadRun.RunEq R (PySem.W.view R.prog [65]) hk ob 6000 loose w := by
  intro os
  kernel_rfl

open VS LamX OX
/-- what the head tells of the written part -/
structure Z (C : VC) (base : Heap) : Prop where
  d : He.SaysD fa fn C.K
  g : ∃ h, C.K.In h ∧ h.Ns mainGlobals C.mg
  x : ex C.K = true
  tb : ∀ p ∈ tf, TabB base C.mg (He.cT C.K p).1 (He.cT C.K p).2
  T : C.T = tf.map fun p => ((He.cT C.K p).2, nm p)
section
variable {C : VC} {base : Heap}
theorem Z.glo_is_size (Z : Z C base) : C.mg "is_size" = some (.ref (He.ga C.K "is_size")) := by
  obtain ⟨h, X, G⟩ := Z.g
  exact He.glo_ok X G (Z.d.fact 0 (f := .glo "is_size") rfl)
theorem Z.glo_is_body (Z : Z C base) : C.mg "is_body" = some (.ref (He.ga C.K "is_body")) := by
  obtain ⟨h, X, G⟩ := Z.g
  exact He.glo_ok X G (Z.d.fact 1 (f := .glo "is_body") rfl)
theorem Z.glo_is_corner (Z : Z C base) : C.mg "is_corner" = some (.ref (He.ga C.K "is_corner")) := by
  obtain ⟨h, X, G⟩ := Z.g
  exact He.glo_ok X G (Z.d.fact 2 (f := .glo "is_corner") rfl)
theorem Z.glo_up_to (Z : Z C base) : C.mg "up_to" = some (.ref (He.ga C.K "up_to")) := by
  obtain ⟨h, X, G⟩ := Z.g
  exact He.glo_ok X G (Z.d.fact 3 (f := .glo "up_to") rfl)
theorem Z.glo_lies_in (Z : Z C base) : C.mg "lies_in" = some (.ref (He.ga C.K "lies_in")) := by
  obtain ⟨h, X, G⟩ := Z.g
  exact He.glo_ok X G (Z.d.fact 4 (f := .glo "lies_in") rfl)
theorem Z.glo_lesser (Z : Z C base) : C.mg "lesser" = some (.ref (He.ga C.K "lesser")) := by
  obtain ⟨h, X, G⟩ := Z.g
  exact He.glo_ok X G (Z.d.fact 5 (f := .glo "lesser") rfl)
theorem Z.glo_is_stairs (Z : Z C base) : C.mg "is_stairs" = some (.ref (He.ga C.K "is_stairs")) := by
  obtain ⟨h, X, G⟩ := Z.g
  exact He.glo_ok X G (Z.d.fact 6 (f := .glo "is_stairs") rfl)
theorem Z.glo_need_stairs (Z : Z C base) : C.mg "need_stairs" = some (.ref (He.ga C.K "need_stairs")) := by
  obtain ⟨h, X, G⟩ := Z.g
  exact He.glo_ok X G (Z.d.fact 7 (f := .glo "need_stairs") rfl)
theorem Z.glo__rank (Z : Z C base) : C.mg "_rank" = some (.ref (He.ga C.K "_rank")) := by
  obtain ⟨h, X, G⟩ := Z.g
  exact He.glo_ok X G (Z.d.fact 8 (f := .glo "_rank") rfl)
theorem Z.glo_top_corners (Z : Z C base) : C.mg "top_corners" = some (.ref (He.ga C.K "top_corners")) := by
  obtain ⟨h, X, G⟩ := Z.g
  exact He.glo_ok X G (Z.d.fact 9 (f := .glo "top_corners") rfl)
theorem Z.glo_has (Z : Z C base) : C.mg "has" = some (.ref (He.ga C.K "has")) := by
  obtain ⟨h, X, G⟩ := Z.g
  exact He.glo_ok X G (Z.d.fact 10 (f := .glo "has") rfl)
theorem Z.glo_common (Z : Z C base) : C.mg "common" = some (.ref (He.ga C.K "common")) := by
  obtain ⟨h, X, G⟩ := Z.g
  exact He.glo_ok X G (Z.d.fact 11 (f := .glo "common") rfl)
theorem Z.glo_shifted_corner (Z : Z C base) : C.mg "shifted_corner" = some (.ref (He.ga C.K "shifted_corner")) := by
  obtain ⟨h, X, G⟩ := Z.g
  exact He.glo_ok X G (Z.d.fact 12 (f := .glo "shifted_corner") rfl)
theorem Z.glo_moved (Z : Z C base) : C.mg "moved" = some (.ref (He.ga C.K "moved")) := by
  obtain ⟨h, X, G⟩ := Z.g
  exact He.glo_ok X G (Z.d.fact 13 (f := .glo "moved") rfl)
theorem Z.glo_is_number (Z : Z C base) : C.mg "is_number" = some (.ref (He.ga C.K "is_number")) := by
  obtain ⟨h, X, G⟩ := Z.g
  exact He.glo_ok X G (Z.d.fact 14 (f := .glo "is_number") rfl)
theorem Z.glo_is_pair (Z : Z C base) : C.mg "is_pair" = some (.ref (He.ga C.K "is_pair")) := by
  obtain ⟨h, X, G⟩ := Z.g
  exact He.glo_ok X G (Z.d.fact 15 (f := .glo "is_pair") rfl)
theorem Z.glo_is_site (Z : Z C base) : C.mg "is_site" = some (.ref (He.ga C.K "is_site")) := by
  obtain ⟨h, X, G⟩ := Z.g
  exact He.glo_ok X G (Z.d.fact 16 (f := .glo "is_site") rfl)
theorem Z.glo__plain (Z : Z C base) : C.mg "_plain" = some (.ref (He.ga C.K "_plain")) := by
  obtain ⟨h, X, G⟩ := Z.g
  exact He.glo_ok X G (Z.d.fact 17 (f := .glo "_plain") rfl)
theorem Z.glo_need_form (Z : Z C base) : C.mg "need_form" = some (.ref (He.ga C.K "need_form")) := by
  obtain ⟨h, X, G⟩ := Z.g
  exact He.glo_ok X G (Z.d.fact 18 (f := .glo "need_form") rfl)
theorem Z.glo_need_form_body (Z : Z C base) : C.mg "need_form_body" = some (.ref (He.ga C.K "need_form_body")) := by
  obtain ⟨h, X, G⟩ := Z.g
  exact He.glo_ok X G (Z.d.fact 19 (f := .glo "need_form_body") rfl)
theorem Z.glo_grown (Z : Z C base) : C.mg "grown" = some (.ref (He.ga C.K "grown")) := by
  obtain ⟨h, X, G⟩ := Z.g
  exact He.glo_ok X G (Z.d.fact 20 (f := .glo "grown") rfl)
theorem Z.glo_then (Z : Z C base) : C.mg "then" = some (.ref (He.ga C.K "then")) := by
  obtain ⟨h, X, G⟩ := Z.g
  exact He.glo_ok X G (Z.d.fact 21 (f := .glo "then") rfl)
theorem Z.glo_end_size (Z : Z C base) : C.mg "end_size" = some (.ref (He.ga C.K "end_size")) := by
  obtain ⟨h, X, G⟩ := Z.g
  exact He.glo_ok X G (Z.d.fact 22 (f := .glo "end_size") rfl)
theorem Z.glo_need_stay (Z : Z C base) : C.mg "need_stay" = some (.ref (He.ga C.K "need_stay")) := by
  obtain ⟨h, X, G⟩ := Z.g
  exact He.glo_ok X G (Z.d.fact 23 (f := .glo "need_stay") rfl)
theorem Z.glo_still (Z : Z C base) : C.mg "still" = some (.ref (He.ga C.K "still")) := by
  obtain ⟨h, X, G⟩ := Z.g
  exact He.glo_ok X G (Z.d.fact 24 (f := .glo "still") rfl)
theorem Z.glo_load_form (Z : Z C base) : C.mg "load_form" = some (.ref (He.ga C.K "load_form")) := by
  obtain ⟨h, X, G⟩ := Z.g
  exact He.glo_ok X G (Z.d.fact 25 (f := .glo "load_form") rfl)
theorem Z.glo__law_begun (Z : Z C base) : C.mg "_law_begun" = some (.ref (He.ga C.K "_law_begun")) := by
  obtain ⟨h, X, G⟩ := Z.g
  exact He.glo_ok X G (Z.d.fact 26 (f := .glo "_law_begun") rfl)
theorem Z.glo__law_mixed (Z : Z C base) : C.mg "_law_mixed" = some (.ref (He.ga C.K "_law_mixed")) := by
  obtain ⟨h, X, G⟩ := Z.g
  exact He.glo_ok X G (Z.d.fact 27 (f := .glo "_law_mixed") rfl)
theorem Z.glo__law_take (Z : Z C base) : C.mg "_law_take" = some (.ref (He.ga C.K "_law_take")) := by
  obtain ⟨h, X, G⟩ := Z.g
  exact He.glo_ok X G (Z.d.fact 28 (f := .glo "_law_take") rfl)
theorem Z.glo__law_pick (Z : Z C base) : C.mg "_law_pick" = some (.ref (He.ga C.K "_law_pick")) := by
  obtain ⟨h, X, G⟩ := Z.g
  exact He.glo_ok X G (Z.d.fact 29 (f := .glo "_law_pick") rfl)
theorem Z.glo__law_caught (Z : Z C base) : C.mg "_law_caught" = some (.ref (He.ga C.K "_law_caught")) := by
  obtain ⟨h, X, G⟩ := Z.g
  exact He.glo_ok X G (Z.d.fact 30 (f := .glo "_law_caught") rfl)
theorem Z.glo__law_least (Z : Z C base) : C.mg "_law_least" = some (.ref (He.ga C.K "_law_least")) := by
  obtain ⟨h, X, G⟩ := Z.g
  exact He.glo_ok X G (Z.d.fact 31 (f := .glo "_law_least") rfl)
theorem Z.glo__law_holds (Z : Z C base) : C.mg "_law_holds" = some (.ref (He.ga C.K "_law_holds")) := by
  obtain ⟨h, X, G⟩ := Z.g
  exact He.glo_ok X G (Z.d.fact 32 (f := .glo "_law_holds") rfl)
theorem Z.glo__law_rank (Z : Z C base) : C.mg "_law_rank" = some (.ref (He.ga C.K "_law_rank")) := by
  obtain ⟨h, X, G⟩ := Z.g
  exact He.glo_ok X G (Z.d.fact 33 (f := .glo "_law_rank") rfl)
theorem Z.glo__law_staircase (Z : Z C base) : C.mg "_law_staircase" = some (.ref (He.ga C.K "_law_staircase")) := by
  obtain ⟨h, X, G⟩ := Z.g
  exact He.glo_ok X G (Z.d.fact 34 (f := .glo "_law_staircase") rfl)
theorem Z.glo__law_held (Z : Z C base) : C.mg "_law_held" = some (.ref (He.ga C.K "_law_held")) := by
  obtain ⟨h, X, G⟩ := Z.g
  exact He.glo_ok X G (Z.d.fact 35 (f := .glo "_law_held") rfl)
theorem Z.glo__law_size (Z : Z C base) : C.mg "_law_size" = some (.ref (He.ga C.K "_law_size")) := by
  obtain ⟨h, X, G⟩ := Z.g
  exact He.glo_ok X G (Z.d.fact 36 (f := .glo "_law_size") rfl)
theorem Z.glo__law_beside (Z : Z C base) : C.mg "_law_beside" = some (.ref (He.ga C.K "_law_beside")) := by
  obtain ⟨h, X, G⟩ := Z.g
  exact He.glo_ok X G (Z.d.fact 37 (f := .glo "_law_beside") rfl)
theorem Z.glo__law_few (Z : Z C base) : C.mg "_law_few" = some (.ref (He.ga C.K "_law_few")) := by
  obtain ⟨h, X, G⟩ := Z.g
  exact He.glo_ok X G (Z.d.fact 38 (f := .glo "_law_few") rfl)
theorem Z.glo__law_grow (Z : Z C base) : C.mg "_law_grow" = some (.ref (He.ga C.K "_law_grow")) := by
  obtain ⟨h, X, G⟩ := Z.g
  exact He.glo_ok X G (Z.d.fact 39 (f := .glo "_law_grow") rfl)
theorem Z.glo__law_raw (Z : Z C base) : C.mg "_law_raw" = some (.ref (He.ga C.K "_law_raw")) := by
  obtain ⟨h, X, G⟩ := Z.g
  exact He.glo_ok X G (Z.d.fact 40 (f := .glo "_law_raw") rfl)
theorem Z.glo__law_reach (Z : Z C base) : C.mg "_law_reach" = some (.ref (He.ga C.K "_law_reach")) := by
  obtain ⟨h, X, G⟩ := Z.g
  exact He.glo_ok X G (Z.d.fact 41 (f := .glo "_law_reach") rfl)
theorem Z.glo__law_tries (Z : Z C base) : C.mg "_law_tries" = some (.ref (He.ga C.K "_law_tries")) := by
  obtain ⟨h, X, G⟩ := Z.g
  exact He.glo_ok X G (Z.d.fact 42 (f := .glo "_law_tries") rfl)
theorem Z.glo__law_same_doing (Z : Z C base) : C.mg "_law_same_doing" = some (.ref (He.ga C.K "_law_same_doing")) := by
  obtain ⟨h, X, G⟩ := Z.g
  exact He.glo_ok X G (Z.d.fact 43 (f := .glo "_law_same_doing") rfl)
theorem Z.glo__law_changed (Z : Z C base) : C.mg "_law_changed" = some (.ref (He.ga C.K "_law_changed")) := by
  obtain ⟨h, X, G⟩ := Z.g
  exact He.glo_ok X G (Z.d.fact 44 (f := .glo "_law_changed") rfl)
theorem Z.glo__law_loads_ok (Z : Z C base) : C.mg "_law_loads_ok" = some (.ref (He.ga C.K "_law_loads_ok")) := by
  obtain ⟨h, X, G⟩ := Z.g
  exact He.glo_ok X G (Z.d.fact 45 (f := .glo "_law_loads_ok") rfl)
theorem Z.glo__law_refused (Z : Z C base) : C.mg "_law_refused" = some (.ref (He.ga C.K "_law_refused")) := by
  obtain ⟨h, X, G⟩ := Z.g
  exact He.glo_ok X G (Z.d.fact 46 (f := .glo "_law_refused") rfl)
theorem Z.glo_law (Z : Z C base) : C.mg "law" = some (.ref (He.ga C.K "law")) := by
  obtain ⟨h, X, G⟩ := Z.g
  exact He.glo_ok X G (Z.d.fact 47 (f := .glo "law") rfl)
theorem Z.free_ValueError (Z : Z C base) : C.mg "ValueError" = none := by
  obtain ⟨h, X, G⟩ := Z.g
  exact He.free_ok X G (Z.d.fact 48 (f := .free "ValueError") rfl)
theorem Z.free_abs (Z : Z C base) : C.mg "abs" = none := by
  obtain ⟨h, X, G⟩ := Z.g
  exact He.free_ok X G (Z.d.fact 49 (f := .free "abs") rfl)
theorem Z.free_any (Z : Z C base) : C.mg "any" = none := by
  obtain ⟨h, X, G⟩ := Z.g
  exact He.free_ok X G (Z.d.fact 50 (f := .free "any") rfl)
theorem Z.free_bool (Z : Z C base) : C.mg "bool" = none := by
  obtain ⟨h, X, G⟩ := Z.g
  exact He.free_ok X G (Z.d.fact 51 (f := .free "bool") rfl)
theorem Z.free_int (Z : Z C base) : C.mg "int" = none := by
  obtain ⟨h, X, G⟩ := Z.g
  exact He.free_ok X G (Z.d.fact 52 (f := .free "int") rfl)
theorem Z.free_isinstance (Z : Z C base) : C.mg "isinstance" = none := by
  obtain ⟨h, X, G⟩ := Z.g
  exact He.free_ok X G (Z.d.fact 53 (f := .free "isinstance") rfl)
theorem Z.free_len (Z : Z C base) : C.mg "len" = none := by
  obtain ⟨h, X, G⟩ := Z.g
  exact He.free_ok X G (Z.d.fact 54 (f := .free "len") rfl)
theorem Z.free_list (Z : Z C base) : C.mg "list" = none := by
  obtain ⟨h, X, G⟩ := Z.g
  exact He.free_ok X G (Z.d.fact 55 (f := .free "list") rfl)
theorem Z.free_max (Z : Z C base) : C.mg "max" = none := by
  obtain ⟨h, X, G⟩ := Z.g
  exact He.free_ok X G (Z.d.fact 56 (f := .free "max") rfl)
theorem Z.free_min (Z : Z C base) : C.mg "min" = none := by
  obtain ⟨h, X, G⟩ := Z.g
  exact He.free_ok X G (Z.d.fact 57 (f := .free "min") rfl)
theorem Z.free_range (Z : Z C base) : C.mg "range" = none := by
  obtain ⟨h, X, G⟩ := Z.g
  exact He.free_ok X G (Z.d.fact 58 (f := .free "range") rfl)
theorem Z.free_reversed (Z : Z C base) : C.mg "reversed" = none := by
  obtain ⟨h, X, G⟩ := Z.g
  exact He.free_ok X G (Z.d.fact 59 (f := .free "reversed") rfl)
theorem Z.free_set (Z : Z C base) : C.mg "set" = none := by
  obtain ⟨h, X, G⟩ := Z.g
  exact He.free_ok X G (Z.d.fact 60 (f := .free "set") rfl)
theorem Z.free_sorted (Z : Z C base) : C.mg "sorted" = none := by
  obtain ⟨h, X, G⟩ := Z.g
  exact He.free_ok X G (Z.d.fact 61 (f := .free "sorted") rfl)
theorem Z.free_tuple (Z : Z C base) : C.mg "tuple" = none := by
  obtain ⟨h, X, G⟩ := Z.g
  exact He.free_ok X G (Z.d.fact 62 (f := .free "tuple") rfl)
theorem Z.glo_GapError (Z : Z C base) : C.mg "GapError" = some (.ref (He.ga C.K "GapError")) := by
  obtain ⟨h, X, G⟩ := Z.g
  exact He.glo_ok X G (Z.d.fact 63 (f := .glo "GapError") rfl)
theorem Z.exc_GapError (Z : Z C base) : PySem.W.excIn C.K (He.ga C.K "GapError") He.veBase "ValueError.__new__" = true ∧ PySem.W.keepIn C.K (.ref (He.ga C.K "GapError")) = true ∧ PySem.W.subIn C.K (.ref (He.ga C.K "GapError")) (.type "BaseException") = some true ∧ PySem.W.typeIn C.K (.ref (He.ga C.K "GapError")) = some (.type "type") := He.exc_ok (Z.d.fact 64 (f := .exc "GapError") rfl)
theorem Z.eo_GapError (Z : Z C base) : EO C "GapError" (He.ga C.K "GapError") := ⟨Z.exc_GapError.1, Z.glo_GapError, Z.exc_GapError.2.1⟩
theorem Z.rs_GapError (Z : Z C base) {X : Cx} (hK : X.K = C.K := by rfl) : Raises X (.ref (He.ga C.K "GapError")) := raises_own (by rw [hK]; exact Z.exc_GapError.2.2.1) (by rw [hK]; exact Z.exc_GapError.2.2.2)
theorem Z.glo_BadBody (Z : Z C base) : C.mg "BadBody" = some (.ref (He.ga C.K "BadBody")) := by
  obtain ⟨h, X, G⟩ := Z.g
  exact He.glo_ok X G (Z.d.fact 65 (f := .glo "BadBody") rfl)
theorem Z.exc_BadBody (Z : Z C base) : PySem.W.excIn C.K (He.ga C.K "BadBody") He.veBase "ValueError.__new__" = true ∧ PySem.W.keepIn C.K (.ref (He.ga C.K "BadBody")) = true ∧ PySem.W.subIn C.K (.ref (He.ga C.K "BadBody")) (.type "BaseException") = some true ∧ PySem.W.typeIn C.K (.ref (He.ga C.K "BadBody")) = some (.type "type") := He.exc_ok (Z.d.fact 66 (f := .exc "BadBody") rfl)
theorem Z.eo_BadBody (Z : Z C base) : EO C "BadBody" (He.ga C.K "BadBody") := ⟨Z.exc_BadBody.1, Z.glo_BadBody, Z.exc_BadBody.2.1⟩
theorem Z.rs_BadBody (Z : Z C base) {X : Cx} (hK : X.K = C.K := by rfl) : Raises X (.ref (He.ga C.K "BadBody")) := raises_own (by rw [hK]; exact Z.exc_BadBody.2.2.1) (by rw [hK]; exact Z.exc_BadBody.2.2.2)
theorem Z.glo_BadBy (Z : Z C base) : C.mg "BadBy" = some (.ref (He.ga C.K "BadBy")) := by
  obtain ⟨h, X, G⟩ := Z.g
  exact He.glo_ok X G (Z.d.fact 67 (f := .glo "BadBy") rfl)
theorem Z.exc_BadBy (Z : Z C base) : PySem.W.excIn C.K (He.ga C.K "BadBy") He.veBase "ValueError.__new__" = true ∧ PySem.W.keepIn C.K (.ref (He.ga C.K "BadBy")) = true ∧ PySem.W.subIn C.K (.ref (He.ga C.K "BadBy")) (.type "BaseException") = some true ∧ PySem.W.typeIn C.K (.ref (He.ga C.K "BadBy")) = some (.type "type") := He.exc_ok (Z.d.fact 68 (f := .exc "BadBy") rfl)
theorem Z.eo_BadBy (Z : Z C base) : EO C "BadBy" (He.ga C.K "BadBy") := ⟨Z.exc_BadBy.1, Z.glo_BadBy, Z.exc_BadBy.2.1⟩
theorem Z.rs_BadBy (Z : Z C base) {X : Cx} (hK : X.K = C.K := by rfl) : Raises X (.ref (He.ga C.K "BadBy")) := raises_own (by rw [hK]; exact Z.exc_BadBy.2.2.1) (by rw [hK]; exact Z.exc_BadBy.2.2.2)
theorem Z.glo_BadEnd (Z : Z C base) : C.mg "BadEnd" = some (.ref (He.ga C.K "BadEnd")) := by
  obtain ⟨h, X, G⟩ := Z.g
  exact He.glo_ok X G (Z.d.fact 69 (f := .glo "BadEnd") rfl)
theorem Z.exc_BadEnd (Z : Z C base) : PySem.W.excIn C.K (He.ga C.K "BadEnd") He.veBase "ValueError.__new__" = true ∧ PySem.W.keepIn C.K (.ref (He.ga C.K "BadEnd")) = true ∧ PySem.W.subIn C.K (.ref (He.ga C.K "BadEnd")) (.type "BaseException") = some true ∧ PySem.W.typeIn C.K (.ref (He.ga C.K "BadEnd")) = some (.type "type") := He.exc_ok (Z.d.fact 70 (f := .exc "BadEnd") rfl)
theorem Z.eo_BadEnd (Z : Z C base) : EO C "BadEnd" (He.ga C.K "BadEnd") := ⟨Z.exc_BadEnd.1, Z.glo_BadEnd, Z.exc_BadEnd.2.1⟩
theorem Z.rs_BadEnd (Z : Z C base) {X : Cx} (hK : X.K = C.K := by rfl) : Raises X (.ref (He.ga C.K "BadEnd")) := raises_own (by rw [hK]; exact Z.exc_BadEnd.2.2.1) (by rw [hK]; exact Z.exc_BadEnd.2.2.2)
theorem Z.glo_BadForm (Z : Z C base) : C.mg "BadForm" = some (.ref (He.ga C.K "BadForm")) := by
  obtain ⟨h, X, G⟩ := Z.g
  exact He.glo_ok X G (Z.d.fact 71 (f := .glo "BadForm") rfl)
theorem Z.exc_BadForm (Z : Z C base) : PySem.W.excIn C.K (He.ga C.K "BadForm") He.veBase "ValueError.__new__" = true ∧ PySem.W.keepIn C.K (.ref (He.ga C.K "BadForm")) = true ∧ PySem.W.subIn C.K (.ref (He.ga C.K "BadForm")) (.type "BaseException") = some true ∧ PySem.W.typeIn C.K (.ref (He.ga C.K "BadForm")) = some (.type "type") := He.exc_ok (Z.d.fact 72 (f := .exc "BadForm") rfl)
theorem Z.eo_BadForm (Z : Z C base) : EO C "BadForm" (He.ga C.K "BadForm") := ⟨Z.exc_BadForm.1, Z.glo_BadForm, Z.exc_BadForm.2.1⟩
theorem Z.rs_BadForm (Z : Z C base) {X : Cx} (hK : X.K = C.K := by rfl) : Raises X (.ref (He.ga C.K "BadForm")) := raises_own (by rw [hK]; exact Z.exc_BadForm.2.2.1) (by rw [hK]; exact Z.exc_BadForm.2.2.2)
theorem Z.glo_BadLeast (Z : Z C base) : C.mg "BadLeast" = some (.ref (He.ga C.K "BadLeast")) := by
  obtain ⟨h, X, G⟩ := Z.g
  exact He.glo_ok X G (Z.d.fact 73 (f := .glo "BadLeast") rfl)
theorem Z.exc_BadLeast (Z : Z C base) : PySem.W.excIn C.K (He.ga C.K "BadLeast") He.veBase "ValueError.__new__" = true ∧ PySem.W.keepIn C.K (.ref (He.ga C.K "BadLeast")) = true ∧ PySem.W.subIn C.K (.ref (He.ga C.K "BadLeast")) (.type "BaseException") = some true ∧ PySem.W.typeIn C.K (.ref (He.ga C.K "BadLeast")) = some (.type "type") := He.exc_ok (Z.d.fact 74 (f := .exc "BadLeast") rfl)
theorem Z.eo_BadLeast (Z : Z C base) : EO C "BadLeast" (He.ga C.K "BadLeast") := ⟨Z.exc_BadLeast.1, Z.glo_BadLeast, Z.exc_BadLeast.2.1⟩
theorem Z.rs_BadLeast (Z : Z C base) {X : Cx} (hK : X.K = C.K := by rfl) : Raises X (.ref (He.ga C.K "BadLeast")) := raises_own (by rw [hK]; exact Z.exc_BadLeast.2.2.1) (by rw [hK]; exact Z.exc_BadLeast.2.2.2)
theorem Z.glo_BadPlace (Z : Z C base) : C.mg "BadPlace" = some (.ref (He.ga C.K "BadPlace")) := by
  obtain ⟨h, X, G⟩ := Z.g
  exact He.glo_ok X G (Z.d.fact 75 (f := .glo "BadPlace") rfl)
theorem Z.exc_BadPlace (Z : Z C base) : PySem.W.excIn C.K (He.ga C.K "BadPlace") He.veBase "ValueError.__new__" = true ∧ PySem.W.keepIn C.K (.ref (He.ga C.K "BadPlace")) = true ∧ PySem.W.subIn C.K (.ref (He.ga C.K "BadPlace")) (.type "BaseException") = some true ∧ PySem.W.typeIn C.K (.ref (He.ga C.K "BadPlace")) = some (.type "type") := He.exc_ok (Z.d.fact 76 (f := .exc "BadPlace") rfl)
theorem Z.eo_BadPlace (Z : Z C base) : EO C "BadPlace" (He.ga C.K "BadPlace") := ⟨Z.exc_BadPlace.1, Z.glo_BadPlace, Z.exc_BadPlace.2.1⟩
theorem Z.rs_BadPlace (Z : Z C base) {X : Cx} (hK : X.K = C.K := by rfl) : Raises X (.ref (He.ga C.K "BadPlace")) := raises_own (by rw [hK]; exact Z.exc_BadPlace.2.2.1) (by rw [hK]; exact Z.exc_BadPlace.2.2.2)
theorem Z.glo_BadStairs (Z : Z C base) : C.mg "BadStairs" = some (.ref (He.ga C.K "BadStairs")) := by
  obtain ⟨h, X, G⟩ := Z.g
  exact He.glo_ok X G (Z.d.fact 77 (f := .glo "BadStairs") rfl)
theorem Z.exc_BadStairs (Z : Z C base) : PySem.W.excIn C.K (He.ga C.K "BadStairs") He.veBase "ValueError.__new__" = true ∧ PySem.W.keepIn C.K (.ref (He.ga C.K "BadStairs")) = true ∧ PySem.W.subIn C.K (.ref (He.ga C.K "BadStairs")) (.type "BaseException") = some true ∧ PySem.W.typeIn C.K (.ref (He.ga C.K "BadStairs")) = some (.type "type") := He.exc_ok (Z.d.fact 78 (f := .exc "BadStairs") rfl)
theorem Z.eo_BadStairs (Z : Z C base) : EO C "BadStairs" (He.ga C.K "BadStairs") := ⟨Z.exc_BadStairs.1, Z.glo_BadStairs, Z.exc_BadStairs.2.1⟩
theorem Z.rs_BadStairs (Z : Z C base) {X : Cx} (hK : X.K = C.K := by rfl) : Raises X (.ref (He.ga C.K "BadStairs")) := raises_own (by rw [hK]; exact Z.exc_BadStairs.2.2.1) (by rw [hK]; exact Z.exc_BadStairs.2.2.2)
theorem Z.glo_BadStart (Z : Z C base) : C.mg "BadStart" = some (.ref (He.ga C.K "BadStart")) := by
  obtain ⟨h, X, G⟩ := Z.g
  exact He.glo_ok X G (Z.d.fact 79 (f := .glo "BadStart") rfl)
theorem Z.exc_BadStart (Z : Z C base) : PySem.W.excIn C.K (He.ga C.K "BadStart") He.veBase "ValueError.__new__" = true ∧ PySem.W.keepIn C.K (.ref (He.ga C.K "BadStart")) = true ∧ PySem.W.subIn C.K (.ref (He.ga C.K "BadStart")) (.type "BaseException") = some true ∧ PySem.W.typeIn C.K (.ref (He.ga C.K "BadStart")) = some (.type "type") := He.exc_ok (Z.d.fact 80 (f := .exc "BadStart") rfl)
theorem Z.eo_BadStart (Z : Z C base) : EO C "BadStart" (He.ga C.K "BadStart") := ⟨Z.exc_BadStart.1, Z.glo_BadStart, Z.exc_BadStart.2.1⟩
theorem Z.rs_BadStart (Z : Z C base) {X : Cx} (hK : X.K = C.K := by rfl) : Raises X (.ref (He.ga C.K "BadStart")) := raises_own (by rw [hK]; exact Z.exc_BadStart.2.2.1) (by rw [hK]; exact Z.exc_BadStart.2.2.2)
theorem Z.glo_NotJoined (Z : Z C base) : C.mg "NotJoined" = some (.ref (He.ga C.K "NotJoined")) := by
  obtain ⟨h, X, G⟩ := Z.g
  exact He.glo_ok X G (Z.d.fact 81 (f := .glo "NotJoined") rfl)
theorem Z.exc_NotJoined (Z : Z C base) : PySem.W.excIn C.K (He.ga C.K "NotJoined") He.veBase "ValueError.__new__" = true ∧ PySem.W.keepIn C.K (.ref (He.ga C.K "NotJoined")) = true ∧ PySem.W.subIn C.K (.ref (He.ga C.K "NotJoined")) (.type "BaseException") = some true ∧ PySem.W.typeIn C.K (.ref (He.ga C.K "NotJoined")) = some (.type "type") := He.exc_ok (Z.d.fact 82 (f := .exc "NotJoined") rfl)
theorem Z.eo_NotJoined (Z : Z C base) : EO C "NotJoined" (He.ga C.K "NotJoined") := ⟨Z.exc_NotJoined.1, Z.glo_NotJoined, Z.exc_NotJoined.2.1⟩
theorem Z.rs_NotJoined (Z : Z C base) {X : Cx} (hK : X.K = C.K := by rfl) : Raises X (.ref (He.ga C.K "NotJoined")) := raises_own (by rw [hK]; exact Z.exc_NotJoined.2.2.1) (by rw [hK]; exact Z.exc_NotJoined.2.2.2)
theorem Z.glo_Form (Z : Z C base) : C.mg "Form" = some (.ref (He.ga C.K "Form")) := by
  obtain ⟨h, X, G⟩ := Z.g
  exact He.glo_ok X G (Z.d.fact 83 (f := .glo "Form") rfl)
theorem Z.cls_Form (Z : Z C base) : Cls C.K (He.ga C.K "Form") := He.cls_ok (Z.d.fact 84 (f := .cls "Form") rfl)
theorem Z.cm_Form (Z : Z C base) : CM C "Form" (He.ga C.K "Form") (He.ma C.K (He.ga C.K "Form") "__init__") := ⟨Z.glo_Form, He.mkr_ok (Z.d.fact 85 (f := .mkr "Form") rfl)⟩
theorem Z.mt_Form___eq__ (Z : Z C base) : Meth C.K (He.ga C.K "Form") "__eq__" (He.ma C.K (He.ga C.K "Form") "__eq__") := He.meth_ok (Z.d.fact 86 (f := .meth "Form" "__eq__") rfl)
theorem Z.mt_Form___mul__ (Z : Z C base) : Meth C.K (He.ga C.K "Form") "__mul__" (He.ma C.K (He.ga C.K "Form") "__mul__") := He.meth_ok (Z.d.fact 87 (f := .meth "Form" "__mul__") rfl)
theorem Z.na_Form_start (Z : Z C base) : NoAttr C.K (He.ga C.K "Form") "start" := He.noat_ok (Z.d.fact 88 (f := .noat "Form" "start") rfl)
theorem Z.na_Form_end (Z : Z C base) : NoAttr C.K (He.ga C.K "Form") "end" := He.noat_ok (Z.d.fact 89 (f := .noat "Form" "end") rfl)
theorem Z.na_Form_stairs (Z : Z C base) : NoAttr C.K (He.ga C.K "Form") "stairs" := He.noat_ok (Z.d.fact 90 (f := .noat "Form" "stairs") rfl)
theorem Z.na_Form_least (Z : Z C base) : NoAttr C.K (He.ga C.K "Form") "least" := He.noat_ok (Z.d.fact 91 (f := .noat "Form" "least") rfl)
theorem Z.na_Form_by (Z : Z C base) : NoAttr C.K (He.ga C.K "Form") "by" := He.noat_ok (Z.d.fact 92 (f := .noat "Form" "by") rfl)
theorem Z.exm_GapError (Z : Z C base) : PySem.W.exmOne C.K (.ref (He.ga C.K "GapError")) (.ref (He.ga C.K "GapError")) = some true := He.exm_ok (Z.d.fact 93 (f := .exm "GapError" "GapError" true) rfl)
theorem Z.exm_BadBody (Z : Z C base) : PySem.W.exmOne C.K (.ref (He.ga C.K "BadBody")) (.ref (He.ga C.K "GapError")) = some true := He.exm_ok (Z.d.fact 94 (f := .exm "BadBody" "GapError" true) rfl)
theorem Z.exm_BadBy (Z : Z C base) : PySem.W.exmOne C.K (.ref (He.ga C.K "BadBy")) (.ref (He.ga C.K "GapError")) = some true := He.exm_ok (Z.d.fact 95 (f := .exm "BadBy" "GapError" true) rfl)
theorem Z.exm_BadEnd (Z : Z C base) : PySem.W.exmOne C.K (.ref (He.ga C.K "BadEnd")) (.ref (He.ga C.K "GapError")) = some true := He.exm_ok (Z.d.fact 96 (f := .exm "BadEnd" "GapError" true) rfl)
theorem Z.exm_BadForm (Z : Z C base) : PySem.W.exmOne C.K (.ref (He.ga C.K "BadForm")) (.ref (He.ga C.K "GapError")) = some true := He.exm_ok (Z.d.fact 97 (f := .exm "BadForm" "GapError" true) rfl)
theorem Z.exm_BadLeast (Z : Z C base) : PySem.W.exmOne C.K (.ref (He.ga C.K "BadLeast")) (.ref (He.ga C.K "GapError")) = some true := He.exm_ok (Z.d.fact 98 (f := .exm "BadLeast" "GapError" true) rfl)
theorem Z.exm_BadPlace (Z : Z C base) : PySem.W.exmOne C.K (.ref (He.ga C.K "BadPlace")) (.ref (He.ga C.K "GapError")) = some true := He.exm_ok (Z.d.fact 99 (f := .exm "BadPlace" "GapError" true) rfl)
theorem Z.exm_BadStairs (Z : Z C base) : PySem.W.exmOne C.K (.ref (He.ga C.K "BadStairs")) (.ref (He.ga C.K "GapError")) = some true := He.exm_ok (Z.d.fact 100 (f := .exm "BadStairs" "GapError" true) rfl)
theorem Z.exm_BadStart (Z : Z C base) : PySem.W.exmOne C.K (.ref (He.ga C.K "BadStart")) (.ref (He.ga C.K "GapError")) = some true := He.exm_ok (Z.d.fact 101 (f := .exm "BadStart" "GapError" true) rfl)
theorem Z.exm_NotJoined (Z : Z C base) : PySem.W.exmOne C.K (.ref (He.ga C.K "NotJoined")) (.ref (He.ga C.K "GapError")) = some true := He.exm_ok (Z.d.fact 102 (f := .exm "NotJoined" "GapError" true) rfl)
theorem Z.cf (Z : Z C base) : ∀ q ∈ cf, CF C q.1 q.2 := fun q h => by
  rcases List.mem_cons.mp h with e | h
  · subst e
    exact ⟨_, Z.glo_Form, Z.cls_Form, fun f hf => by
      rcases List.mem_cons.mp hf with e | hf
      · rw [e]; exact Z.na_Form_start
      rcases List.mem_cons.mp hf with e | hf
      · rw [e]; exact Z.na_Form_end
      rcases List.mem_cons.mp hf with e | hf
      · rw [e]; exact Z.na_Form_stairs
      rcases List.mem_cons.mp hf with e | hf
      · rw [e]; exact Z.na_Form_least
      rcases List.mem_cons.mp hf with e | hf
      · rw [e]; exact Z.na_Form_by
      cases hf⟩
  cases h
theorem Z.ko (Z : Z C base) : KO C ocs oes anc := ko_of (Bool.and_eq_true_iff.mp (Bool.and_eq_true_iff.mp (Bool.and_eq_true_iff.mp (Bool.and_eq_true_iff.mp (Bool.and_eq_true_iff.mp Z.x).1).1).1).1).1 (fun q h => by
  rcases List.mem_cons.mp h with e | h
  · subst e
    exact Z.glo_Form
  rcases List.mem_cons.mp h with e | h
  · subst e
    exact Z.glo_GapError
  rcases List.mem_cons.mp h with e | h
  · subst e
    exact Z.glo_BadBody
  rcases List.mem_cons.mp h with e | h
  · subst e
    exact Z.glo_BadBy
  rcases List.mem_cons.mp h with e | h
  · subst e
    exact Z.glo_BadEnd
  rcases List.mem_cons.mp h with e | h
  · subst e
    exact Z.glo_BadForm
  rcases List.mem_cons.mp h with e | h
  · subst e
    exact Z.glo_BadLeast
  rcases List.mem_cons.mp h with e | h
  · subst e
    exact Z.glo_BadPlace
  rcases List.mem_cons.mp h with e | h
  · subst e
    exact Z.glo_BadStairs
  rcases List.mem_cons.mp h with e | h
  · subst e
    exact Z.glo_BadStart
  rcases List.mem_cons.mp h with e | h
  · subst e
    exact Z.glo_NotJoined
  cases h) (fun q h => by
  rcases List.mem_cons.mp h with e | h
  · subst e
    exact Z.cls_Form
  cases h)
theorem Z.cx (Z : Z C base) : ∀ c ∈ ces, ∀ Ca, C.mg c = some (.ref Ca) → PySem.W.exmOne C.K (.ref Ca) (.ref (He.ga C.K "GapError")) = some true := fun q h => by
  rcases List.mem_cons.mp h with e | h
  · subst e
    exact fun Ca e => by
      rw [Z.glo_GapError] at e
      cases e
      exact Z.exm_GapError
  rcases List.mem_cons.mp h with e | h
  · subst e
    exact fun Ca e => by
      rw [Z.glo_BadBody] at e
      cases e
      exact Z.exm_BadBody
  rcases List.mem_cons.mp h with e | h
  · subst e
    exact fun Ca e => by
      rw [Z.glo_BadBy] at e
      cases e
      exact Z.exm_BadBy
  rcases List.mem_cons.mp h with e | h
  · subst e
    exact fun Ca e => by
      rw [Z.glo_BadEnd] at e
      cases e
      exact Z.exm_BadEnd
  rcases List.mem_cons.mp h with e | h
  · subst e
    exact fun Ca e => by
      rw [Z.glo_BadForm] at e
      cases e
      exact Z.exm_BadForm
  rcases List.mem_cons.mp h with e | h
  · subst e
    exact fun Ca e => by
      rw [Z.glo_BadLeast] at e
      cases e
      exact Z.exm_BadLeast
  rcases List.mem_cons.mp h with e | h
  · subst e
    exact fun Ca e => by
      rw [Z.glo_BadPlace] at e
      cases e
      exact Z.exm_BadPlace
  rcases List.mem_cons.mp h with e | h
  · subst e
    exact fun Ca e => by
      rw [Z.glo_BadStairs] at e
      cases e
      exact Z.exm_BadStairs
  rcases List.mem_cons.mp h with e | h
  · subst e
    exact fun Ca e => by
      rw [Z.glo_BadStart] at e
      cases e
      exact Z.exm_BadStart
  rcases List.mem_cons.mp h with e | h
  · subst e
    exact fun Ca e => by
      rw [Z.glo_NotJoined] at e
      cases e
      exact Z.exm_NotJoined
  cases h
theorem Z.tn (Z : Z C base) : (tf.map fun p => (He.cT C.K p).2).Nodup := of_decide_eq_true (Bool.and_eq_true_iff.mp (Bool.and_eq_true_iff.mp (Bool.and_eq_true_iff.mp (Bool.and_eq_true_iff.mp (Bool.and_eq_true_iff.mp Z.x).1).1).1).1).2
theorem Z.eqi_Form (Z : Z C base) : EqI C (He.ga C.K "Form") (He.ma C.K (He.ga C.K "Form") "__eq__") := ⟨Z.mt_Form___eq__, beq_iff_eq.mp (Bool.and_eq_true_iff.mp (Bool.and_eq_true_iff.mp (Bool.and_eq_true_iff.mp (Bool.and_eq_true_iff.mp Z.x).1).1).1).2, beq_iff_eq.mp (Bool.and_eq_true_iff.mp (Bool.and_eq_true_iff.mp (Bool.and_eq_true_iff.mp Z.x).1).1).2⟩
theorem Z.sf_Form (Z : Z C base) : PySem.W.selfFirst C.K (He.ga C.K "Form") = true := (Bool.and_eq_true_iff.mp (Bool.and_eq_true_iff.mp Z.x).1).2
theorem Z.rm_Form (Z : Z C base) : PySem.W.findIn C.K (.ref (He.ga C.K "Form")) "__rmul__" = some none := beq_iff_eq.mp (Bool.and_eq_true_iff.mp Z.x).2
theorem Z.tb_has (Z : Z C base) : TabB base C.mg (He.cT C.K ("has", none)).1 (He.cT C.K ("has", none)).2 := Z.tb _ (List.mem_of_getElem? (i := 0) rfl)
theorem Z.tT_has (Z : Z C base) : ((He.cT C.K ("has", none)).2, ("has" : PySem.Str) ++ ".<locals>." ++ "<genexpr>") ∈ C.T := by
  rw [Z.T]
  exact List.mem_map.mpr ⟨("has", none), List.mem_of_getElem? (i := 0) rfl, rfl⟩
theorem Z.tU_has (Z : Z C base) : ∀ p ∈ C.T, p.1 = (He.cT C.K ("has", none)).2 → p.2 = ("has" : PySem.Str) ++ ".<locals>." ++ "<genexpr>" := by
  rw [Z.T]
  exact tab_one Z.tn (f := ("has", none)) (List.mem_of_getElem? (i := 0) rfl)
theorem Z.tb__law_staircase (Z : Z C base) : TabB base C.mg (He.cT C.K ("_law_staircase", none)).1 (He.cT C.K ("_law_staircase", none)).2 := Z.tb _ (List.mem_of_getElem? (i := 1) rfl)
theorem Z.tT__law_staircase (Z : Z C base) : ((He.cT C.K ("_law_staircase", none)).2, ("_law_staircase" : PySem.Str) ++ ".<locals>." ++ "<lambda>") ∈ C.T := by
  rw [Z.T]
  exact List.mem_map.mpr ⟨("_law_staircase", none), List.mem_of_getElem? (i := 1) rfl, rfl⟩
theorem Z.tU__law_staircase (Z : Z C base) : ∀ p ∈ C.T, p.1 = (He.cT C.K ("_law_staircase", none)).2 → p.2 = ("_law_staircase" : PySem.Str) ++ ".<locals>." ++ "<lambda>" := by
  rw [Z.T]
  exact tab_one Z.tn (f := ("_law_staircase", none)) (List.mem_of_getElem? (i := 1) rfl)
theorem Z.tb__law_refused (Z : Z C base) : TabB base C.mg (He.cT C.K ("_law_refused", none)).1 (He.cT C.K ("_law_refused", none)).2 := Z.tb _ (List.mem_of_getElem? (i := 2) rfl)
theorem Z.tT__law_refused (Z : Z C base) : ((He.cT C.K ("_law_refused", none)).2, ("_law_refused" : PySem.Str) ++ ".<locals>." ++ "<lambda>") ∈ C.T := by
  rw [Z.T]
  exact List.mem_map.mpr ⟨("_law_refused", none), List.mem_of_getElem? (i := 2) rfl, rfl⟩
theorem Z.tU__law_refused (Z : Z C base) : ∀ p ∈ C.T, p.1 = (He.cT C.K ("_law_refused", none)).2 → p.2 = ("_law_refused" : PySem.Str) ++ ".<locals>." ++ "<lambda>" := by
  rw [Z.T]
  exact tab_one Z.tn (f := ("_law_refused", none)) (List.mem_of_getElem? (i := 2) rfl)
theorem sc_is_size : FnScope ["thing"] ["thing"] (defScope s_is_size) := ⟨rfl, rfl, rfl, by decide +kernel, rfl, by decide +kernel, by decide +kernel⟩
theorem Z.fd_is_size (Z : Z C base) : ∃ fd, FunD C.K "is_size" "is_size" (defArgs s_is_size) (defBody s_is_size) (defScope s_is_size) [] [] (He.ga C.K "is_size") fd := Z.d.def_ 0 (d := d_is_size) rfl
theorem sc_is_body : FnScope ["thing"] ["thing"] (defScope s_is_body) := ⟨rfl, rfl, rfl, by decide +kernel, rfl, by decide +kernel, by decide +kernel⟩
theorem Z.fd_is_body (Z : Z C base) : ∃ fd, FunD C.K "is_body" "is_body" (defArgs s_is_body) (defBody s_is_body) (defScope s_is_body) [] [] (He.ga C.K "is_body") fd := Z.d.def_ 1 (d := d_is_body) rfl
theorem sc_is_corner : FnScope ["thing"] ["thing"] (defScope s_is_corner) := ⟨rfl, rfl, rfl, by decide +kernel, rfl, by decide +kernel, by decide +kernel⟩
theorem Z.fd_is_corner (Z : Z C base) : ∃ fd, FunD C.K "is_corner" "is_corner" (defArgs s_is_corner) (defBody s_is_corner) (defScope s_is_corner) [] [] (He.ga C.K "is_corner") fd := Z.d.def_ 2 (d := d_is_corner) rfl
theorem sc_up_to : FnScope ["item", "bound"] ["item", "bound"] (defScope s_up_to) := ⟨rfl, rfl, rfl, by decide +kernel, rfl, by decide +kernel, by decide +kernel⟩
theorem Z.fd_up_to (Z : Z C base) : ∃ fd, FunD C.K "up_to" "up_to" (defArgs s_up_to) (defBody s_up_to) (defScope s_up_to) [] [] (He.ga C.K "up_to") fd := Z.d.def_ 3 (d := d_up_to) rfl
theorem sc_lies_in : FnScope ["corner", "other"] ["corner", "other"] (defScope s_lies_in) := ⟨rfl, rfl, rfl, by decide +kernel, rfl, by decide +kernel, by decide +kernel⟩
theorem Z.fd_lies_in (Z : Z C base) : ∃ fd, FunD C.K "lies_in" "lies_in" (defArgs s_lies_in) (defBody s_lies_in) (defScope s_lies_in) [] [] (He.ga C.K "lies_in") fd := Z.d.def_ 4 (d := d_lies_in) rfl
theorem sc_lesser : FnScope ["item", "other"] ["item", "other"] (defScope s_lesser) := ⟨rfl, rfl, rfl, by decide +kernel, rfl, by decide +kernel, by decide +kernel⟩
theorem Z.fd_lesser (Z : Z C base) : ∃ fd, FunD C.K "lesser" "lesser" (defArgs s_lesser) (defBody s_lesser) (defScope s_lesser) [] [] (He.ga C.K "lesser") fd := Z.d.def_ 5 (d := d_lesser) rfl
theorem sc_is_stairs : FnScope ["thing", "k"] ["thing"] (defScope s_is_stairs) := ⟨rfl, rfl, rfl, by decide +kernel, rfl, by decide +kernel, by decide +kernel⟩
theorem Z.fd_is_stairs (Z : Z C base) : ∃ fd, FunD C.K "is_stairs" "is_stairs" (defArgs s_is_stairs) (defBody s_is_stairs) (defScope s_is_stairs) [] [] (He.ga C.K "is_stairs") fd := Z.d.def_ 6 (d := d_is_stairs) rfl
theorem sc_need_stairs : FnScope ["stairs"] ["stairs"] (defScope s_need_stairs) := ⟨rfl, rfl, rfl, by decide +kernel, rfl, by decide +kernel, by decide +kernel⟩
theorem Z.fd_need_stairs (Z : Z C base) : ∃ fd, FunD C.K "need_stairs" "need_stairs" (defArgs s_need_stairs) (defBody s_need_stairs) (defScope s_need_stairs) [] [] (He.ga C.K "need_stairs") fd := Z.d.def_ 7 (d := d_need_stairs) rfl
theorem sc__rank : FnScope ["corner", "first", "second"] ["corner"] (defScope s__rank) := ⟨rfl, rfl, rfl, by decide +kernel, rfl, by decide +kernel, by decide +kernel⟩
theorem Z.fd__rank (Z : Z C base) : ∃ fd, FunD C.K "_rank" "_rank" (defArgs s__rank) (defBody s__rank) (defScope s__rank) [] [] (He.ga C.K "_rank") fd := Z.d.def_ 8 (d := d__rank) rfl
theorem sc_top_corners : FnScope ["corners", "kept", "corner"] ["corners"] (defScope s_top_corners) := ⟨rfl, rfl, rfl, by decide +kernel, rfl, by decide +kernel, by decide +kernel⟩
theorem Z.fd_top_corners (Z : Z C base) : ∃ fd, FunD C.K "top_corners" "top_corners" (defArgs s_top_corners) (defBody s_top_corners) (defScope s_top_corners) [] [] (He.ga C.K "top_corners") fd := Z.d.def_ 9 (d := d_top_corners) rfl
theorem sc_has : FnScope ["stairs", "corner", "own"] ["stairs", "corner"] (defScope s_has) := ⟨rfl, rfl, rfl, by decide +kernel, rfl, by decide +kernel, by decide +kernel⟩
theorem Z.fd_has (Z : Z C base) : ∃ fd, FunD C.K "has" "has" (defArgs s_has) (defBody s_has) (defScope s_has) [] [] (He.ga C.K "has") fd := Z.d.def_ 10 (d := d_has) rfl
theorem sc_common : FnScope ["one", "other", "a", "b"] ["one", "other"] (defScope s_common) := ⟨rfl, rfl, rfl, by decide +kernel, rfl, by decide +kernel, by decide +kernel⟩
theorem Z.fd_common (Z : Z C base) : ∃ fd, FunD C.K "common" "common" (defArgs s_common) (defBody s_common) (defScope s_common) [] [] (He.ga C.K "common") fd := Z.d.def_ 11 (d := d_common) rfl
theorem sc_shifted_corner : FnScope ["corner", "by", "first", "second"] ["corner", "by"] (defScope s_shifted_corner) := ⟨rfl, rfl, rfl, by decide +kernel, rfl, by decide +kernel, by decide +kernel⟩
theorem Z.fd_shifted_corner (Z : Z C base) : ∃ fd, FunD C.K "shifted_corner" "shifted_corner" (defArgs s_shifted_corner) (defBody s_shifted_corner) (defScope s_shifted_corner) [] [] (He.ga C.K "shifted_corner") fd := Z.d.def_ 12 (d := d_shifted_corner) rfl
theorem sc_moved : FnScope ["stairs", "least", "by", "item", "kept", "corner", "later"] ["stairs", "least", "by"] (defScope s_moved) := ⟨rfl, rfl, rfl, by decide +kernel, rfl, by decide +kernel, by decide +kernel⟩
theorem Z.fd_moved (Z : Z C base) : ∃ fd, FunD C.K "moved" "moved" (defArgs s_moved) (defBody s_moved) (defScope s_moved) [] [] (He.ga C.K "moved") fd := Z.d.def_ 13 (d := d_moved) rfl
theorem sc_is_number : FnScope ["thing"] ["thing"] (defScope s_is_number) := ⟨rfl, rfl, rfl, by decide +kernel, rfl, by decide +kernel, by decide +kernel⟩
theorem Z.fd_is_number (Z : Z C base) : ∃ fd, FunD C.K "is_number" "is_number" (defArgs s_is_number) (defBody s_is_number) (defScope s_is_number) [] [] (He.ga C.K "is_number") fd := Z.d.def_ 14 (d := d_is_number) rfl
theorem sc_is_pair : FnScope ["thing"] ["thing"] (defScope s_is_pair) := ⟨rfl, rfl, rfl, by decide +kernel, rfl, by decide +kernel, by decide +kernel⟩
theorem Z.fd_is_pair (Z : Z C base) : ∃ fd, FunD C.K "is_pair" "is_pair" (defArgs s_is_pair) (defBody s_is_pair) (defScope s_is_pair) [] [] (He.ga C.K "is_pair") fd := Z.d.def_ 15 (d := d_is_pair) rfl
theorem sc_is_site : FnScope ["thing"] ["thing"] (defScope s_is_site) := ⟨rfl, rfl, rfl, by decide +kernel, rfl, by decide +kernel, by decide +kernel⟩
theorem Z.fd_is_site (Z : Z C base) : ∃ fd, FunD C.K "is_site" "is_site" (defArgs s_is_site) (defBody s_is_site) (defScope s_is_site) [] [] (He.ga C.K "is_site") fd := Z.d.def_ 16 (d := d_is_site) rfl
theorem sc__plain : FnScope ["most", "least", "by"] ["most", "least", "by"] (defScope s__plain) := ⟨rfl, rfl, rfl, by decide +kernel, rfl, by decide +kernel, by decide +kernel⟩
theorem Z.fd__plain (Z : Z C base) : ∃ fd, FunD C.K "_plain" "_plain" (defArgs s__plain) (defBody s__plain) (defScope s__plain) [] [] (He.ga C.K "_plain") fd := Z.d.def_ 17 (d := d__plain) rfl
theorem sc_need_form : FnScope ["form"] ["form"] (defScope s_need_form) := ⟨rfl, rfl, rfl, by decide +kernel, rfl, by decide +kernel, by decide +kernel⟩
theorem Z.fd_need_form (Z : Z C base) : ∃ fd, FunD C.K "need_form" "need_form" (defArgs s_need_form) (defBody s_need_form) (defScope s_need_form) [] [] (He.ga C.K "need_form") fd := Z.d.def_ 18 (d := d_need_form) rfl
theorem sc_need_form_body : FnScope ["form", "body"] ["form", "body"] (defScope s_need_form_body) := ⟨rfl, rfl, rfl, by decide +kernel, rfl, by decide +kernel, by decide +kernel⟩
theorem Z.fd_need_form_body (Z : Z C base) : ∃ fd, FunD C.K "need_form_body" "need_form_body" (defArgs s_need_form_body) (defBody s_need_form_body) (defScope s_need_form_body) [] [] (He.ga C.K "need_form_body") fd := Z.d.def_ 19 (d := d_need_form_body) rfl
theorem sc_grown : FnScope ["form", "body"] ["form", "body"] (defScope s_grown) := ⟨rfl, rfl, rfl, by decide +kernel, rfl, by decide +kernel, by decide +kernel⟩
theorem Z.fd_grown (Z : Z C base) : ∃ fd, FunD C.K "grown" "grown" (defArgs s_grown) (defBody s_grown) (defScope s_grown) [] [] (He.ga C.K "grown") fd := Z.d.def_ 20 (d := d_grown) rfl
theorem sc_then : FnScope ["one", "other", "stairs", "wide", "high", "by"] ["one", "other"] (defScope s_then) := ⟨rfl, rfl, rfl, by decide +kernel, rfl, by decide +kernel, by decide +kernel⟩
theorem Z.fd_then (Z : Z C base) : ∃ fd, FunD C.K "then" "then" (defArgs s_then) (defBody s_then) (defScope s_then) [] [] (He.ga C.K "then") fd := Z.d.def_ 21 (d := d_then) rfl
theorem sc_end_size : FnScope ["form", "body"] ["form", "body"] (defScope s_end_size) := ⟨rfl, rfl, rfl, by decide +kernel, rfl, by decide +kernel, by decide +kernel⟩
theorem Z.fd_end_size (Z : Z C base) : ∃ fd, FunD C.K "end_size" "end_size" (defArgs s_end_size) (defBody s_end_size) (defScope s_end_size) [] [] (He.ga C.K "end_size") fd := Z.d.def_ 22 (d := d_end_size) rfl
theorem sc_need_stay : FnScope ["place", "stairs"] ["place", "stairs"] (defScope s_need_stay) := ⟨rfl, rfl, rfl, by decide +kernel, rfl, by decide +kernel, by decide +kernel⟩
theorem Z.fd_need_stay (Z : Z C base) : ∃ fd, FunD C.K "need_stay" "need_stay" (defArgs s_need_stay) (defBody s_need_stay) (defScope s_need_stay) [] [] (He.ga C.K "need_stay") fd := Z.d.def_ 23 (d := d_need_stay) rfl
theorem sc_still : FnScope ["place", "stairs"] ["place", "stairs"] (defScope s_still) := ⟨rfl, rfl, rfl, by decide +kernel, rfl, by decide +kernel, by decide +kernel⟩
theorem Z.fd_still (Z : Z C base) : ∃ fd, FunD C.K "still" "still" (defArgs s_still) (defBody s_still) (defScope s_still) [] [] (He.ga C.K "still") fd := Z.d.def_ 24 (d := d_still) rfl
theorem sc_load_form : FnScope ["place", "stairs", "by"] ["place", "stairs", "by"] (defScope s_load_form) := ⟨rfl, rfl, rfl, by decide +kernel, rfl, by decide +kernel, by decide +kernel⟩
theorem Z.fd_load_form (Z : Z C base) : ∃ fd, FunD C.K "load_form" "load_form" (defArgs s_load_form) (defBody s_load_form) (defScope s_load_form) [] [] (He.ga C.K "load_form") fd := Z.d.def_ 25 (d := d_load_form) rfl
theorem sc__law_begun : FnScope ["_law_script", "_law_great", "_law_cell"] ["_law_script"] (defScope s__law_begun) := ⟨rfl, rfl, rfl, by decide +kernel, rfl, by decide +kernel, by decide +kernel⟩
theorem Z.fd__law_begun (Z : Z C base) : ∃ fd, FunD C.K "_law_begun" "_law_begun" (defArgs s__law_begun) (defBody s__law_begun) (defScope s__law_begun) [] [] (He.ga C.K "_law_begun") fd := Z.d.def_ 26 (d := d__law_begun) rfl
theorem sc__law_mixed : FnScope ["_law_draw", "_law_turn", "_law_found", "_law_prime", "_law_blend", "_law_cell"] ["_law_draw"] (defScope s__law_mixed) := ⟨rfl, rfl, rfl, by decide +kernel, rfl, by decide +kernel, by decide +kernel⟩
theorem Z.fd__law_mixed (Z : Z C base) : ∃ fd, FunD C.K "_law_mixed" "_law_mixed" (defArgs s__law_mixed) (defBody s__law_mixed) (defScope s__law_mixed) [] [] (He.ga C.K "_law_mixed") fd := Z.d.def_ 27 (d := d__law_mixed) rfl
theorem sc__law_take : FnScope ["_law_draw", "_law_many", "_law_found"] ["_law_draw", "_law_many"] (defScope s__law_take) := ⟨rfl, rfl, rfl, by decide +kernel, rfl, by decide +kernel, by decide +kernel⟩
theorem Z.fd__law_take (Z : Z C base) : ∃ fd, FunD C.K "_law_take" "_law_take" (defArgs s__law_take) (defBody s__law_take) (defScope s__law_take) [] [] (He.ga C.K "_law_take") fd := Z.d.def_ 28 (d := d__law_take) rfl
theorem sc__law_pick : FnScope ["_law_draw", "_law_some"] ["_law_draw", "_law_some"] (defScope s__law_pick) := ⟨rfl, rfl, rfl, by decide +kernel, rfl, by decide +kernel, by decide +kernel⟩
theorem Z.fd__law_pick (Z : Z C base) : ∃ fd, FunD C.K "_law_pick" "_law_pick" (defArgs s__law_pick) (defBody s__law_pick) (defScope s__law_pick) [] [] (He.ga C.K "_law_pick") fd := Z.d.def_ 29 (d := d__law_pick) rfl
theorem sc__law_caught : FnScope ["_law_task", "_law_caught_here", "error"] ["_law_task"] (defScope s__law_caught) := ⟨rfl, rfl, rfl, by decide +kernel, rfl, by decide +kernel, by decide +kernel⟩
theorem Z.fd__law_caught (Z : Z C base) : ∃ fd, FunD C.K "_law_caught" "_law_caught" (defArgs s__law_caught) (defBody s__law_caught) (defScope s__law_caught) [] [] (He.ga C.K "_law_caught") fd := Z.d.def_ 30 (d := d__law_caught) rfl
theorem sc__law_least : FnScope ["_law_one", "_law_other"] ["_law_one", "_law_other"] (defScope s__law_least) := ⟨rfl, rfl, rfl, by decide +kernel, rfl, by decide +kernel, by decide +kernel⟩
theorem Z.fd__law_least (Z : Z C base) : ∃ fd, FunD C.K "_law_least" "_law_least" (defArgs s__law_least) (defBody s__law_least) (defScope s__law_least) [] [] (He.ga C.K "_law_least") fd := Z.d.def_ 31 (d := d__law_least) rfl
theorem sc__law_holds : FnScope ["_law_corner", "_law_body"] ["_law_corner", "_law_body"] (defScope s__law_holds) := ⟨rfl, rfl, rfl, by decide +kernel, rfl, by decide +kernel, by decide +kernel⟩
theorem Z.fd__law_holds (Z : Z C base) : ∃ fd, FunD C.K "_law_holds" "_law_holds" (defArgs s__law_holds) (defBody s__law_holds) (defScope s__law_holds) [] [] (He.ga C.K "_law_holds") fd := Z.d.def_ 32 (d := d__law_holds) rfl
theorem sc__law_rank : FnScope ["_law_item"] ["_law_item"] (defScope s__law_rank) := ⟨rfl, rfl, rfl, by decide +kernel, rfl, by decide +kernel, by decide +kernel⟩
theorem Z.fd__law_rank (Z : Z C base) : ∃ fd, FunD C.K "_law_rank" "_law_rank" (defArgs s__law_rank) (defBody s__law_rank) (defScope s__law_rank) [] [] (He.ga C.K "_law_rank") fd := Z.d.def_ 33 (d := d__law_rank) rfl
theorem sc__law_staircase : FnScope ["_law_corners", "_law_found", "_law_corner", "_law_other"] ["_law_corners"] (defScope s__law_staircase) := ⟨rfl, rfl, rfl, by decide +kernel, rfl, by decide +kernel, by decide +kernel⟩
theorem Z.fd__law_staircase (Z : Z C base) : ∃ fd, FunD C.K "_law_staircase" "_law_staircase" (defArgs s__law_staircase) (defBody s__law_staircase) (defScope s__law_staircase) [] [] (He.ga C.K "_law_staircase") fd := Z.d.def_ 34 (d := d__law_staircase) rfl
theorem sc__law_held : FnScope ["_law_stairs", "_law_body", "_law_corner"] ["_law_stairs", "_law_body"] (defScope s__law_held) := ⟨rfl, rfl, rfl, by decide +kernel, rfl, by decide +kernel, by decide +kernel⟩
theorem Z.fd__law_held (Z : Z C base) : ∃ fd, FunD C.K "_law_held" "_law_held" (defArgs s__law_held) (defBody s__law_held) (defScope s__law_held) [] [] (He.ga C.K "_law_held") fd := Z.d.def_ 35 (d := d__law_held) rfl
theorem sc__law_size : FnScope ["_law_draw"] ["_law_draw"] (defScope s__law_size) := ⟨rfl, rfl, rfl, by decide +kernel, rfl, by decide +kernel, by decide +kernel⟩
theorem Z.fd__law_size (Z : Z C base) : ∃ fd, FunD C.K "_law_size" "_law_size" (defArgs s__law_size) (defBody s__law_size) (defScope s__law_size) [] [] (He.ga C.K "_law_size") fd := Z.d.def_ 36 (d := d__law_size) rfl
theorem sc__law_beside : FnScope ["_law_draw", "_law_corners", "_law_one", "_law_other"] ["_law_draw", "_law_corners"] (defScope s__law_beside) := ⟨rfl, rfl, rfl, by decide +kernel, rfl, by decide +kernel, by decide +kernel⟩
theorem Z.fd__law_beside (Z : Z C base) : ∃ fd, FunD C.K "_law_beside" "_law_beside" (defArgs s__law_beside) (defBody s__law_beside) (defScope s__law_beside) [] [] (He.ga C.K "_law_beside") fd := Z.d.def_ 37 (d := d__law_beside) rfl
theorem sc__law_few : FnScope ["_law_draw", "_law_most", "_law_found", "_law_lap", "_law_corner", "_law_way"] ["_law_draw", "_law_most"] (defScope s__law_few) := ⟨rfl, rfl, rfl, by decide +kernel, rfl, by decide +kernel, by decide +kernel⟩
theorem Z.fd__law_few (Z : Z C base) : ∃ fd, FunD C.K "_law_few" "_law_few" (defArgs s__law_few) (defBody s__law_few) (defScope s__law_few) [] [] (He.ga C.K "_law_few") fd := Z.d.def_ 38 (d := d__law_few) rfl
theorem sc__law_grow : FnScope ["_law_least_here", "_law_by", "_law_body"] ["_law_least_here", "_law_by", "_law_body"] (defScope s__law_grow) := ⟨rfl, rfl, rfl, by decide +kernel, rfl, by decide +kernel, by decide +kernel⟩
theorem Z.fd__law_grow (Z : Z C base) : ∃ fd, FunD C.K "_law_grow" "_law_grow" (defArgs s__law_grow) (defBody s__law_grow) (defScope s__law_grow) [] [] (He.ga C.K "_law_grow") fd := Z.d.def_ 39 (d := d__law_grow) rfl
theorem sc__law_raw : FnScope ["_law_draw", "_law_least_here"] ["_law_draw"] (defScope s__law_raw) := ⟨rfl, rfl, rfl, by decide +kernel, rfl, by decide +kernel, by decide +kernel⟩
theorem Z.fd__law_raw (Z : Z C base) : ∃ fd, FunD C.K "_law_raw" "_law_raw" (defArgs s__law_raw) (defBody s__law_raw) (defScope s__law_raw) [] [] (He.ga C.K "_law_raw") fd := Z.d.def_ 40 (d := d__law_raw) rfl
theorem sc__law_reach : FnScope ["_law_stairs_here", "_law_k"] ["_law_stairs_here", "_law_k"] (defScope s__law_reach) := ⟨rfl, rfl, rfl, by decide +kernel, rfl, by decide +kernel, by decide +kernel⟩
theorem Z.fd__law_reach (Z : Z C base) : ∃ fd, FunD C.K "_law_reach" "_law_reach" (defArgs s__law_reach) (defBody s__law_reach) (defScope s__law_reach) [] [] (He.ga C.K "_law_reach") fd := Z.d.def_ 41 (d := d__law_reach) rfl
theorem sc__law_tries : FnScope ["_law_raws", "_law_k", "_law_found", "_law_raw_here", "_law_turn", "_law_item"] ["_law_raws", "_law_k"] (defScope s__law_tries) := ⟨rfl, rfl, rfl, by decide +kernel, rfl, by decide +kernel, by decide +kernel⟩
theorem Z.fd__law_tries (Z : Z C base) : ∃ fd, FunD C.K "_law_tries" "_law_tries" (defArgs s__law_tries) (defBody s__law_tries) (defScope s__law_tries) [] [] (He.ga C.K "_law_tries") fd := Z.d.def_ 42 (d := d__law_tries) rfl
theorem sc__law_same_doing : FnScope ["_law_one", "_law_other", "_law_k", "_law_size_here", "_law_body", "_law_first", "_law_second"] ["_law_one", "_law_other"] (defScope s__law_same_doing) := ⟨rfl, rfl, rfl, by decide +kernel, rfl, by decide +kernel, by decide +kernel⟩
theorem Z.fd__law_same_doing (Z : Z C base) : ∃ fd, FunD C.K "_law_same_doing" "_law_same_doing" (defArgs s__law_same_doing) (defBody s__law_same_doing) (defScope s__law_same_doing) [] [] (He.ga C.K "_law_same_doing") fd := Z.d.def_ 43 (d := d__law_same_doing) rfl
theorem sc__law_changed : FnScope ["_law_draw", "_law_raw_here", "_law_way", "_law_least_here", "_law_by", "_law_k"] ["_law_draw", "_law_raw_here"] (defScope s__law_changed) := ⟨rfl, rfl, rfl, by decide +kernel, rfl, by decide +kernel, by decide +kernel⟩
theorem Z.fd__law_changed (Z : Z C base) : ∃ fd, FunD C.K "_law_changed" "_law_changed" (defArgs s__law_changed) (defBody s__law_changed) (defScope s__law_changed) [] [] (He.ga C.K "_law_changed") fd := Z.d.def_ 44 (d := d__law_changed) rfl
theorem sc__law_loads_ok : FnScope ["_law_draw", "_law_place", "_law_one", "_law_calm", "_law_load", "_law_lap", "_law_body", "_law_later", "_law_good"] ["_law_draw", "_law_place", "_law_one"] (defScope s__law_loads_ok) := ⟨rfl, rfl, rfl, by decide +kernel, rfl, by decide +kernel, by decide +kernel⟩
theorem Z.fd__law_loads_ok (Z : Z C base) : ∃ fd, FunD C.K "_law_loads_ok" "_law_loads_ok" (defArgs s__law_loads_ok) (defBody s__law_loads_ok) (defScope s__law_loads_ok) [] [] (He.ga C.K "_law_loads_ok") fd := Z.d.def_ 45 (d := d__law_loads_ok) rfl
theorem sc__law_refused : FnScope ["_law_draw", "_law_first", "_law_one", "_law_bad", "_law_worse", "_law_found", "_law_item"] ["_law_draw", "_law_first", "_law_one"] (defScope s__law_refused) := ⟨rfl, rfl, rfl, by decide +kernel, rfl, by decide +kernel, by decide +kernel⟩
theorem Z.fd__law_refused (Z : Z C base) : ∃ fd, FunD C.K "_law_refused" "_law_refused" (defArgs s__law_refused) (defBody s__law_refused) (defScope s__law_refused) [] [] (He.ga C.K "_law_refused") fd := Z.d.def_ 46 (d := d__law_refused) rfl
theorem sc_law : FnScope ["_law_script", "_law_draw", "_law_start", "_law_end", "_law_one", "_law_other", "_law_first", "_law_second", "_law_least_here", "_law_by", "_law_told", "_law_k", "_law_most", "_law_lap", "_law_body", "_law_due"] ["_law_script"] (defScope s_law) := ⟨rfl, rfl, rfl, by decide +kernel, rfl, by decide +kernel, by decide +kernel⟩
theorem Z.fd_law (Z : Z C base) : ∃ fd, FunD C.K "law" "law" (defArgs s_law) (defBody s_law) (defScope s_law) [] [] (He.ga C.K "law") fd := Z.d.def_ 47 (d := d_law) rfl
theorem sc_Form___init__ : FnScope ["self", "start", "end", "stairs", "least", "by", "wide", "high"] ["self", "start", "end", "stairs", "least", "by"] (defScope s_Form___init__) := ⟨rfl, rfl, rfl, by decide +kernel, rfl, by decide +kernel, by decide +kernel⟩
theorem Z.fd_Form___init__ (Z : Z C base) : ∃ fd, FunD C.K "__init__" "Form.__init__" (defArgs s_Form___init__) (defBody s_Form___init__) (defScope s_Form___init__) [] [] (He.ma C.K (He.ga C.K "Form") "__init__") fd := Z.d.def_ 48 (d := d_Form___init__) rfl
theorem sc_Form___eq__ : FnScope ["self", "other"] ["self", "other"] (defScope s_Form___eq__) := ⟨rfl, rfl, rfl, by decide +kernel, rfl, by decide +kernel, by decide +kernel⟩
theorem Z.fd_Form___eq__ (Z : Z C base) : ∃ fd, FunD C.K "__eq__" "Form.__eq__" (defArgs s_Form___eq__) (defBody s_Form___eq__) (defScope s_Form___eq__) [] [] (He.ma C.K (He.ga C.K "Form") "__eq__") fd := Z.d.def_ 49 (d := d_Form___eq__) rfl
theorem sc_Form___mul__ : FnScope ["self", "other"] ["self", "other"] (defScope s_Form___mul__) := ⟨rfl, rfl, rfl, by decide +kernel, rfl, by decide +kernel, by decide +kernel⟩
theorem Z.fd_Form___mul__ (Z : Z C base) : ∃ fd, FunD C.K "__mul__" "Form.__mul__" (defArgs s_Form___mul__) (defBody s_Form___mul__) (defScope s_Form___mul__) [] [] (He.ma C.K (He.ga C.K "Form") "__mul__") fd := Z.d.def_ 50 (d := d_Form___mul__) rfl
noncomputable def m_is_size : M Fl := mRet [0] (mAndV (mUn (dIsi ocs oes anc (.ty "int")) (mVar 0)) (mAndV (mNotV (mUn (dIsi ocs oes anc (.ty "bool")) (mVar 0))) (mBin dGe (mVar 0) (M.ret (rSc (.int 1))))))
noncomputable def den_is_size : Den := denOf 1 0 [0] m_is_size
noncomputable def m_is_body : M Fl := mRet [0] (mAndV (mUn (dIsi ocs oes anc (.ty "tuple")) (mVar 0)) (mAndV (mBin (dEq false) (mFn fLen (mCons (mVar 0) (M.ret []))) (M.ret (rSc (.int 2)))) (mAndV (mCall den_is_size (mCons (mBin dIxX (mVar 0) (M.ret (rSc (.int 0)))) (M.ret []))) (mCall den_is_size (mCons (mBin dIxX (mVar 0) (M.ret (rSc (.int 1)))) (M.ret []))))))
noncomputable def den_is_body : Den := denOf 1 0 [0] m_is_body
noncomputable def m_is_corner : M Fl := mSeq (mIf (mOrT (mNotT (mB (mUn (dIsi ocs oes anc (.ty "tuple")) (mVar 0)))) (mB (mBin (dEq true) (mFn fLen (mCons (mVar 0) (M.ret []))) (M.ret (rSc (.int 2)))))) (mRet [0] (M.ret (rSc (.bl false)))) (M.ret .nx)) (mRet [0] (mAndV (mOrV (mBin (dIs false) (mBin dIxX (mVar 0) (M.ret (rSc (.int 0)))) (M.ret (rSc .non))) (mCall den_is_size (mCons (mBin dIxX (mVar 0) (M.ret (rSc (.int 0)))) (M.ret [])))) (mOrV (mBin (dIs false) (mBin dIxX (mVar 0) (M.ret (rSc (.int 1)))) (M.ret (rSc .non))) (mCall den_is_size (mCons (mBin dIxX (mVar 0) (M.ret (rSc (.int 1)))) (M.ret []))))))
noncomputable def den_is_corner : Den := denOf 1 0 [0] m_is_corner
noncomputable def m_up_to : M Fl := mRet [0, 1] (mOrV (mBin (dIs false) (mVar 1) (M.ret (rSc .non))) (mAndV (mBin (dIs true) (mVar 0) (M.ret (rSc .non))) (mBin dLe (mVar 0) (mVar 1))))
noncomputable def den_up_to : Den := denOf 2 0 [0, 1] m_up_to
noncomputable def m_lies_in : M Fl := mRet [0, 1] (mAndV (mCall den_up_to (mCons (mBin dIxX (mVar 0) (M.ret (rSc (.int 0)))) (mCons (mBin dIxX (mVar 1) (M.ret (rSc (.int 0)))) (M.ret [])))) (mCall den_up_to (mCons (mBin dIxX (mVar 0) (M.ret (rSc (.int 1)))) (mCons (mBin dIxX (mVar 1) (M.ret (rSc (.int 1)))) (M.ret [])))))
noncomputable def den_lies_in : Den := denOf 2 0 [0, 1] m_lies_in
noncomputable def m_lesser : M Fl := mRet [0, 1] (mIfE (mB (mCall den_up_to (mCons (mVar 0) (mCons (mVar 1) (M.ret []))))) (mVar 0) (mVar 1))
noncomputable def den_lesser : Den := denOf 2 0 [0, 1] m_lesser
noncomputable def m_is_stairs : M Fl := mSeq (mIf (mNotT (mB (mUn (dIsi ocs oes anc (.ty "tuple")) (mVar 0)))) (mRet [0] (M.ret (rSc (.bl false)))) (M.ret .nx)) (mSeq (mFor (mRng rng1 (mCons (mFn fLen (mCons (mVar 0) (M.ret []))) (M.ret []))) (tgName 1) (mSeq (mIf (mNotT (mB (mCall den_is_corner (mCons (mBin dIxX (mVar 0) (mVar 1)) (M.ret []))))) (mRet [0] (M.ret (rSc (.bl false)))) (M.ret .nx)) (mIf (mAndT (mB (mBin dGt (mVar 1) (M.ret (rSc (.int 0))))) (mOrT (mB (mCall den_up_to (mCons (mBin dIxX (mBin dIxX (mVar 0) (mVar 1)) (M.ret (rSc (.int 0)))) (mCons (mBin dIxX (mBin dIxX (mVar 0) (mBin dSub (mVar 1) (M.ret (rSc (.int 1))))) (M.ret (rSc (.int 0)))) (M.ret []))))) (mB (mCall den_up_to (mCons (mBin dIxX (mBin dIxX (mVar 0) (mBin dSub (mVar 1) (M.ret (rSc (.int 1))))) (M.ret (rSc (.int 1)))) (mCons (mBin dIxX (mBin dIxX (mVar 0) (mVar 1)) (M.ret (rSc (.int 1)))) (M.ret []))))))) (mRet [0] (M.ret (rSc (.bl false)))) (M.ret .nx)))) (mRet [0] (M.ret (rSc (.bl true)))))
noncomputable def den_is_stairs : Den := denOf 1 1 [0] m_is_stairs
noncomputable def m_need_stairs : M Fl := mIf (mNotT (mB (mCall den_is_stairs (mCons (mVar 0) (M.ret []))))) (mRaise "BadStairs") (M.ret .nx)
noncomputable def den_need_stairs : Den := denOf 1 0 [0] m_need_stairs
noncomputable def m__rank : M Fl := mSeq (mSet 1 (mIfE (mB (mBin (dIs false) (mBin dIxX (mVar 0) (M.ret (rSc (.int 0)))) (M.ret (rSc .non)))) (mTup (mCons (M.ret (rSc (.int 1))) (mCons (M.ret (rSc (.int 0))) (M.ret [])))) (mTup (mCons (M.ret (rSc (.int 0))) (mCons (mBin dIxX (mVar 0) (M.ret (rSc (.int 0)))) (M.ret [])))))) (mSeq (mSet 2 (mIfE (mB (mBin (dIs false) (mBin dIxX (mVar 0) (M.ret (rSc (.int 1)))) (M.ret (rSc .non)))) (mTup (mCons (M.ret (rSc (.int 1))) (mCons (M.ret (rSc (.int 0))) (M.ret [])))) (mTup (mCons (M.ret (rSc (.int 0))) (mCons (mBin dIxX (mVar 0) (M.ret (rSc (.int 1)))) (M.ret [])))))) (mRet [0] (mTup (mCons (mVar 1) (mCons (mVar 2) (M.ret []))))))
noncomputable def den__rank : Den := denOf 1 2 [0] m__rank
noncomputable def m_top_corners : M Fl := mSeq (mSet 1 (mLst (M.ret []))) (mSeq (mFor (mSeqI (mSortK true (mKeyD den__rank) (mVar 0))) (tgName 2) (mIf (mOrT (mB (mBin (dEq false) (mVar 1) (mLst (M.ret [])))) (mNotT (mB (mCall den_up_to (mCons (mBin dIxX (mVar 2) (M.ret (rSc (.int 1)))) (mCons (mBin dIxX (mBin dIxX (mVar 1) (mUn dNeg (M.ret (rSc (.int 1))))) (M.ret (rSc (.int 1)))) (M.ret []))))))) (mDrop (mMeth 1 gAppend (mCons (mVar 2) (M.ret [])))) (M.ret .nx))) (mRet [0] (mUn dRevT (mVar 1))))
noncomputable def den_top_corners : Den := denOf 1 2 [0] m_top_corners
noncomputable def m_has : M Fl := mRet [0, 1] (mAA true (mSeqI (mVar 0)) [2] (tgName 2) (M.ret true) (mCall den_lies_in (mCons (mVar 1) (mCons (mVar 2) (M.ret [])))))
noncomputable def den_has : Den := denOf 2 1 [0, 1] m_has
noncomputable def m_common : M Fl := mRet [0, 1] (mCall den_top_corners (mCons (mLc2 (mSeqI (mVar 0)) [2, 3] (tgName 2) (M.ret true) (mSeqI (mVar 1)) [3] (tgName 3) (M.ret true) (mTup (mCons (mCall den_lesser (mCons (mBin dIxX (mVar 2) (M.ret (rSc (.int 0)))) (mCons (mBin dIxX (mVar 3) (M.ret (rSc (.int 0)))) (M.ret [])))) (mCons (mCall den_lesser (mCons (mBin dIxX (mVar 2) (M.ret (rSc (.int 1)))) (mCons (mBin dIxX (mVar 3) (M.ret (rSc (.int 1)))) (M.ret [])))) (M.ret []))))) (M.ret [])))
noncomputable def den_common : Den := denOf 2 2 [0, 1] m_common
noncomputable def m_shifted_corner : M Fl := mSeq (mSet 2 (mIfE (mB (mBin (dIs false) (mBin dIxX (mVar 0) (M.ret (rSc (.int 0)))) (M.ret (rSc .non)))) (M.ret (rSc .non)) (mBin dSub (mBin dIxX (mVar 0) (M.ret (rSc (.int 0)))) (mBin dIxX (mVar 1) (M.ret (rSc (.int 0))))))) (mSeq (mSet 3 (mIfE (mB (mBin (dIs false) (mBin dIxX (mVar 0) (M.ret (rSc (.int 1)))) (M.ret (rSc .non)))) (M.ret (rSc .non)) (mBin dSub (mBin dIxX (mVar 0) (M.ret (rSc (.int 1)))) (mBin dIxX (mVar 1) (M.ret (rSc (.int 1))))))) (mSeq (mIf (mOrT (mAndT (mB (mBin (dIs true) (mVar 2) (M.ret (rSc .non)))) (mB (mBin dLt (mVar 2) (M.ret (rSc (.int 1)))))) (mAndT (mB (mBin (dIs true) (mVar 3) (M.ret (rSc .non)))) (mB (mBin dLt (mVar 3) (M.ret (rSc (.int 1))))))) (mRet [0, 1] (M.ret (rSc .non))) (M.ret .nx)) (mRet [0, 1] (mTup (mCons (mVar 2) (mCons (mVar 3) (M.ret [])))))))
noncomputable def den_shifted_corner : Den := denOf 2 2 [0, 1] m_shifted_corner
noncomputable def m_moved : M Fl := mSeq (mDrop (mCall den_need_stairs (mCons (mVar 0) (M.ret [])))) (mSeq (mIf (mNotT (mB (mCall den_is_body (mCons (mVar 1) (M.ret []))))) (mRaise "BadLeast") (M.ret .nx)) (mSeq (mIf (mOrT (mNotT (mB (mUn (dIsi ocs oes anc (.ty "tuple")) (mVar 2)))) (mB (mBin (dEq true) (mFn fLen (mCons (mVar 2) (M.ret []))) (M.ret (rSc (.int 2)))))) (mRaise "BadBy") (M.ret .nx)) (mSeq (mFor (mSeqI (mVar 2)) (tgName 3) (mIf (mOrT (mNotT (mB (mUn (dIsi ocs oes anc (.ty "int")) (mVar 3)))) (mB (mUn (dIsi ocs oes anc (.ty "bool")) (mVar 3)))) (mRaise "BadBy") (M.ret .nx))) (mSeq (mSet 4 (mLst (M.ret []))) (mSeq (mFor (mSeqI (mVar 0)) (tgName 5) (mIf (mB (mCall den_lies_in (mCons (mVar 1) (mCons (mVar 5) (M.ret []))))) (mSeq (mSet 6 (mCall den_shifted_corner (mCons (mVar 5) (mCons (mVar 2) (M.ret []))))) (mIf (mB (mBin (dIs true) (mVar 6) (M.ret (rSc .non)))) (mDrop (mMeth 4 gAppend (mCons (mVar 6) (M.ret [])))) (M.ret .nx))) (M.ret .nx))) (mRet [0, 1, 2] (mFn fTuple (mCons (mVar 4) (M.ret [])))))))))
noncomputable def den_moved : Den := denOf 3 4 [0, 1, 2] m_moved
noncomputable def m_is_number : M Fl := mRet [0] (mAndV (mUn (dIsi ocs oes anc (.ty "int")) (mVar 0)) (mNotV (mUn (dIsi ocs oes anc (.ty "bool")) (mVar 0))))
noncomputable def den_is_number : Den := denOf 1 0 [0] m_is_number
noncomputable def m_is_pair : M Fl := mRet [0] (mAndV (mUn (dIsi ocs oes anc (.ty "tuple")) (mVar 0)) (mAndV (mBin (dEq false) (mFn fLen (mCons (mVar 0) (M.ret []))) (M.ret (rSc (.int 2)))) (mAndV (mCall den_is_number (mCons (mBin dIxX (mVar 0) (M.ret (rSc (.int 0)))) (M.ret []))) (mCall den_is_number (mCons (mBin dIxX (mVar 0) (M.ret (rSc (.int 1)))) (M.ret []))))))
noncomputable def den_is_pair : Den := denOf 1 0 [0] m_is_pair
noncomputable def m_is_site : M Fl := mRet [0] (mAndV (mUn (dIsi ocs oes anc (.ty "tuple")) (mVar 0)) (mAndV (mBin (dEq false) (mFn fLen (mCons (mVar 0) (M.ret []))) (M.ret (rSc (.int 2)))) (mAndV (mCall den_is_number (mCons (mBin dIxX (mVar 0) (M.ret (rSc (.int 0)))) (M.ret []))) (mAndV (mBin dGe (mBin dIxX (mVar 0) (M.ret (rSc (.int 0)))) (M.ret (rSc (.int 0)))) (mCall den_is_pair (mCons (mBin dIxX (mVar 0) (M.ret (rSc (.int 1)))) (M.ret [])))))))
noncomputable def den_is_site : Den := denOf 1 0 [0] m_is_site
noncomputable def m__plain : M Fl := mSeq (mIf (mB (mBin (dIs false) (mVar 0) (M.ret (rSc .non)))) (mRet [0, 1, 2] (mTup (mCons (mFn fMax (mCons (mVar 1) (mCons (mBin dAdd (M.ret (rSc (.int 1))) (mVar 2)) (M.ret [])))) (mCons (mVar 2) (M.ret []))))) (M.ret .nx)) (mRet [0, 1, 2] (mTup (mCons (mFn fMax (mCons (mVar 1) (mCons (mBin dAdd (M.ret (rSc (.int 1))) (mVar 2)) (M.ret [])))) (mCons (mBin dSub (mFn fMax (mCons (mVar 1) (mCons (mBin dAdd (mVar 0) (mVar 2)) (M.ret [])))) (mVar 0)) (M.ret [])))))
noncomputable def den__plain : Den := denOf 3 0 [0, 1, 2] m__plain
noncomputable def m_need_form : M Fl := mIf (mNotT (mB (mUn (dIsi ocs oes anc (.own "Form")) (mVar 0)))) (mRaise "BadForm") (M.ret .nx)
noncomputable def den_need_form : Den := denOf 1 0 [0] m_need_form
noncomputable def m_need_form_body : M Fl := mSeq (mDrop (mCall den_need_form (mCons (mVar 0) (M.ret [])))) (mIf (mNotT (mB (mCall den_is_body (mCons (mVar 1) (M.ret []))))) (mRaise "BadBody") (M.ret .nx))
noncomputable def den_need_form_body : Den := denOf 2 0 [0, 1] m_need_form_body
noncomputable def m_grown : M Fl := mRet [0, 1] (mTup (mCons (mFn fMax (mCons (mBin dIxX (mUn (dFld cf "least") (mVar 0)) (M.ret (rSc (.int 0)))) (mCons (mBin dAdd (mBin dIxX (mVar 1) (M.ret (rSc (.int 0)))) (mBin dIxX (mUn (dFld cf "by") (mVar 0)) (M.ret (rSc (.int 0))))) (M.ret [])))) (mCons (mFn fMax (mCons (mBin dIxX (mUn (dFld cf "least") (mVar 0)) (M.ret (rSc (.int 1)))) (mCons (mBin dAdd (mBin dIxX (mVar 1) (M.ret (rSc (.int 1)))) (mBin dIxX (mUn (dFld cf "by") (mVar 0)) (M.ret (rSc (.int 1))))) (M.ret [])))) (M.ret []))))
noncomputable def den_grown : Den := denOf 2 0 [0, 1] m_grown
noncomputable def m_Form___init__ : M Fl := mSeq (mIf (mNotT (mB (mCall den_is_site (mCons (mVar 1) (M.ret []))))) (mRaise "BadStart") (M.ret .nx)) (mSeq (mIf (mNotT (mB (mCall den_is_site (mCons (mVar 2) (M.ret []))))) (mRaise "BadEnd") (M.ret .nx)) (mSeq (mIf (mNotT (mB (mCall den_is_stairs (mCons (mVar 3) (M.ret []))))) (mRaise "BadStairs") (M.ret .nx)) (mSeq (mIf (mNotT (mB (mCall den_is_body (mCons (mVar 4) (M.ret []))))) (mRaise "BadLeast") (M.ret .nx)) (mSeq (mIf (mNotT (mB (mCall den_is_pair (mCons (mVar 5) (M.ret []))))) (mRaise "BadBy") (M.ret .nx)) (mSeq (mFPut cf 0 "start" (mVar 1)) (mSeq (mFPut cf 0 "end" (mVar 2)) (mSeq (mFPut cf 0 "stairs" (mVar 3)) (mSeq (mFPut cf 0 "least" (mTup (mCons (M.ret (rSc (.int 1))) (mCons (M.ret (rSc (.int 1))) (M.ret []))))) (mSeq (mFPut cf 0 "by" (mTup (mCons (M.ret (rSc (.int 0))) (mCons (M.ret (rSc (.int 0))) (M.ret []))))) (mIf (mB (mBin (dEq true) (mVar 3) (mTup (M.ret [])))) (mSeq (mSet 6 (mCall den__plain (mCons (mBin dIxX (mBin dIxX (mVar 3) (mUn dNeg (M.ret (rSc (.int 1))))) (M.ret (rSc (.int 0)))) (mCons (mBin dIxX (mVar 4) (M.ret (rSc (.int 0)))) (mCons (mBin dIxX (mVar 5) (M.ret (rSc (.int 0)))) (M.ret [])))))) (mSeq (mSet 7 (mCall den__plain (mCons (mBin dIxX (mBin dIxX (mVar 3) (M.ret (rSc (.int 0)))) (M.ret (rSc (.int 1)))) (mCons (mBin dIxX (mVar 4) (M.ret (rSc (.int 1)))) (mCons (mBin dIxX (mVar 5) (M.ret (rSc (.int 1)))) (M.ret [])))))) (mSeq (mFPut cf 0 "least" (mTup (mCons (mBin dIxX (mVar 6) (M.ret (rSc (.int 0)))) (mCons (mBin dIxX (mVar 7) (M.ret (rSc (.int 0)))) (M.ret []))))) (mFPut cf 0 "by" (mTup (mCons (mBin dIxX (mVar 6) (M.ret (rSc (.int 1)))) (mCons (mBin dIxX (mVar 7) (M.ret (rSc (.int 1)))) (M.ret [])))))))) (M.ret .nx)))))))))))
noncomputable def den_Form___init__ : Den := denOf 6 2 [0, 1, 2, 3, 4, 5] m_Form___init__
noncomputable def m_then : M Fl := mSeq (mDrop (mCall den_need_form (mCons (mVar 0) (M.ret [])))) (mSeq (mDrop (mCall den_need_form (mCons (mVar 1) (M.ret [])))) (mSeq (mIf (mB (mBin (dEq true) (mUn (dFld cf "end") (mVar 0)) (mUn (dFld cf "start") (mVar 1)))) (mRaise "NotJoined") (M.ret .nx)) (mSeq (mSet 2 (mCall den_common (mCons (mUn (dFld cf "stairs") (mVar 0)) (mCons (mCall den_moved (mCons (mUn (dFld cf "stairs") (mVar 1)) (mCons (mUn (dFld cf "least") (mVar 0)) (mCons (mUn (dFld cf "by") (mVar 0)) (M.ret []))))) (M.ret []))))) (mSeq (mSet 3 (mFn fMax (mCons (mBin dIxX (mUn (dFld cf "least") (mVar 1)) (M.ret (rSc (.int 0)))) (mCons (mBin dAdd (mBin dIxX (mUn (dFld cf "least") (mVar 0)) (M.ret (rSc (.int 0)))) (mBin dIxX (mUn (dFld cf "by") (mVar 1)) (M.ret (rSc (.int 0))))) (M.ret []))))) (mSeq (mSet 4 (mFn fMax (mCons (mBin dIxX (mUn (dFld cf "least") (mVar 1)) (M.ret (rSc (.int 1)))) (mCons (mBin dAdd (mBin dIxX (mUn (dFld cf "least") (mVar 0)) (M.ret (rSc (.int 1)))) (mBin dIxX (mUn (dFld cf "by") (mVar 1)) (M.ret (rSc (.int 1))))) (M.ret []))))) (mSeq (mSet 5 (mTup (mCons (mBin dAdd (mBin dIxX (mUn (dFld cf "by") (mVar 0)) (M.ret (rSc (.int 0)))) (mBin dIxX (mUn (dFld cf "by") (mVar 1)) (M.ret (rSc (.int 0))))) (mCons (mBin dAdd (mBin dIxX (mUn (dFld cf "by") (mVar 0)) (M.ret (rSc (.int 1)))) (mBin dIxX (mUn (dFld cf "by") (mVar 1)) (M.ret (rSc (.int 1))))) (M.ret []))))) (mRet [0, 1] (mMake "Form" den_Form___init__ (mCons (mUn (dFld cf "start") (mVar 0)) (mCons (mUn (dFld cf "end") (mVar 1)) (mCons (mVar 2) (mCons (mTup (mCons (mVar 3) (mCons (mVar 4) (M.ret [])))) (mCons (mVar 5) (M.ret []))))))))))))))
noncomputable def den_then : Den := denOf 2 4 [0, 1] m_then
noncomputable def m_end_size : M Fl := mSeq (mDrop (mCall den_need_form_body (mCons (mVar 0) (mCons (mVar 1) (M.ret []))))) (mRet [0, 1] (mIfE (mB (mCall den_has (mCons (mUn (dFld cf "stairs") (mVar 0)) (mCons (mVar 1) (M.ret []))))) (mCall den_grown (mCons (mVar 0) (mCons (mVar 1) (M.ret [])))) (M.ret (rSc .non))))
noncomputable def den_end_size : Den := denOf 2 0 [0, 1] m_end_size
noncomputable def m_need_stay : M Fl := mSeq (mIf (mNotT (mB (mCall den_is_site (mCons (mVar 0) (M.ret []))))) (mRaise "BadPlace") (M.ret .nx)) (mIf (mNotT (mB (mCall den_is_stairs (mCons (mVar 1) (M.ret []))))) (mRaise "BadStairs") (M.ret .nx))
noncomputable def den_need_stay : Den := denOf 2 0 [0, 1] m_need_stay
noncomputable def m_still : M Fl := mSeq (mDrop (mCall den_need_stay (mCons (mVar 0) (mCons (mVar 1) (M.ret []))))) (mRet [0, 1] (mMake "Form" den_Form___init__ (mCons (mVar 0) (mCons (mVar 0) (mCons (mVar 1) (mCons (mTup (mCons (M.ret (rSc (.int 1))) (mCons (M.ret (rSc (.int 1))) (M.ret [])))) (mCons (mTup (mCons (M.ret (rSc (.int 0))) (mCons (M.ret (rSc (.int 0))) (M.ret [])))) (M.ret []))))))))
noncomputable def den_still : Den := denOf 2 0 [0, 1] m_still
noncomputable def m_load_form : M Fl := mSeq (mDrop (mCall den_need_stay (mCons (mVar 0) (mCons (mVar 1) (M.ret []))))) (mSeq (mIf (mNotT (mB (mCall den_is_pair (mCons (mVar 2) (M.ret []))))) (mRaise "BadBy") (M.ret .nx)) (mRet [0, 1, 2] (mMake "Form" den_Form___init__ (mCons (mVar 0) (mCons (mVar 0) (mCons (mCall den_common (mCons (mVar 1) (mCons (mCall den_moved (mCons (mVar 1) (mCons (mTup (mCons (M.ret (rSc (.int 1))) (mCons (M.ret (rSc (.int 1))) (M.ret [])))) (mCons (mVar 2) (M.ret []))))) (M.ret [])))) (mCons (mTup (mCons (M.ret (rSc (.int 1))) (mCons (M.ret (rSc (.int 1))) (M.ret [])))) (mCons (mVar 2) (M.ret [])))))))))
noncomputable def den_load_form : Den := denOf 3 0 [0, 1, 2] m_load_form
noncomputable def m__law_begun : M Fl := mSeq (mSet 1 (mLc (mScI 0) [2] (tgName 2) (mB (mBin dGe (mFn fAbs (mCons (mVar 2) (M.ret []))) (mBin dPow (M.ret (rSc (.int 10))) (M.ret (rSc (.int 18)))))) (mBin dSub (mFn fAbs (mCons (mVar 2) (M.ret []))) (mBin dPow (M.ret (rSc (.int 10))) (M.ret (rSc (.int 18))))))) (mRet [0] (mDrNew 1 (mLc (mScI 0) [2] (tgName 2) (M.ret true) (mBin dMod (mFn fInt (mCons (mFn fAbs (mCons (mVar 2) (M.ret []))) (M.ret []))) (M.ret (rSc (.int 2147483629)))))))
noncomputable def den__law_begun : Den := denOf 1 2 [0] m__law_begun
noncomputable def m__law_mixed : M Fl := mSeq (mPar 1 2 (mBin dAdd (mDr 0 .turn) (M.ret (rSc (.int 1)))) (M.ret (rSc (.int 0)))) (mSeq (mDrPut 0 .turn (mVar 1)) (mSeq (mFor (mSeqI (mLst (mCons (M.ret (rSc (.int 2147483647))) (mCons (M.ret (rSc (.int 2147483629))) (mCons (M.ret (rSc (.int 2147483587))) (mCons (M.ret (rSc (.int 2147483579))) (M.ret []))))))) (tgName 3) (mSeq (mSet 4 (mBin dAdd (mBin dMul (M.ret (rSc (.int 48271))) (mVar 1)) (mBin dDiv (mVar 3) (M.ret (rSc (.int 37)))))) (mSeq (mFor (mSeqI (mDr 0 .cells)) (tgName 5) (mSet 4 (mBin dMod (mFn fInt (mCons (mBin dAdd (mBin dAdd (mBin dMul (mVar 4) (M.ret (rSc (.int 69621)))) (mVar 5)) (mVar 1)) (M.ret []))) (mVar 3)))) (mSet 2 (mBin dAdd (mBin dMul (mVar 2) (M.ret (rSc (.int 2147483647)))) (mBin dMod (mFn fInt (mCons (mBin dPow (mVar 4) (M.ret (rSc (.int 5)))) (M.ret []))) (mVar 3))))))) (mRet [0] (mVar 2))))
noncomputable def den__law_mixed : Den := denOf 1 5 [0] m__law_mixed
noncomputable def m__law_take : M Fl := mSeq (mIf (mB (mBin (dEq false) (mDr 0 .left) (M.ret (rSc (.int 0))))) (mDrPut 0 .left (mIfE (mB (mDrG 0)) (mDrP 0) (mCall den__law_mixed (mCons (mVar 0) (M.ret []))))) (M.ret .nx)) (mSeq (mSet 2 (mBin dMod (mFn fInt (mCons (mDr 0 .left) (M.ret []))) (mVar 1))) (mSeq (mDrPut 0 .left (mBin dDiv (mDr 0 .left) (mVar 1))) (mRet [0, 1] (mVar 2))))
noncomputable def den__law_take : Den := denOf 2 1 [0, 1] m__law_take
noncomputable def m__law_pick : M Fl := mRet [0, 1] (mBin dIxX (mVar 1) (mCall den__law_take (mCons (mVar 0) (mCons (mFn fLen (mCons (mVar 1) (M.ret []))) (M.ret [])))))
noncomputable def den__law_pick : Den := denOf 2 0 [0, 1] m__law_pick
noncomputable def m__law_least : M Fl := mSeq (mIf (mB (mBin (dIs false) (mVar 0) (M.ret (rSc .non)))) (mRet [0, 1] (mVar 1)) (M.ret .nx)) (mRet [0, 1] (mIfE (mB (mBin (dIs false) (mVar 1) (M.ret (rSc .non)))) (mVar 0) (mFn fMin (mCons (mVar 0) (mCons (mVar 1) (M.ret []))))))
noncomputable def den__law_least : Den := denOf 2 0 [0, 1] m__law_least
noncomputable def m__law_holds : M Fl := mRet [0, 1] (mAndV (mBin (dEq false) (mCall den__law_least (mCons (mBin dIxX (mVar 0) (M.ret (rSc (.int 0)))) (mCons (mBin dIxX (mVar 1) (M.ret (rSc (.int 0)))) (M.ret [])))) (mBin dIxX (mVar 1) (M.ret (rSc (.int 0))))) (mBin (dEq false) (mCall den__law_least (mCons (mBin dIxX (mVar 0) (M.ret (rSc (.int 1)))) (mCons (mBin dIxX (mVar 1) (M.ret (rSc (.int 1)))) (M.ret [])))) (mBin dIxX (mVar 1) (M.ret (rSc (.int 1))))))
noncomputable def den__law_holds : Den := denOf 2 0 [0, 1] m__law_holds
noncomputable def m__law_rank : M Fl := mRet [0] (mIfE (mB (mBin (dIs false) (mVar 0) (M.ret (rSc .non)))) (mTup (mCons (M.ret (rSc (.int 1))) (mCons (M.ret (rSc (.int 0))) (M.ret [])))) (mTup (mCons (M.ret (rSc (.int 0))) (mCons (mVar 0) (M.ret [])))))
noncomputable def den__law_rank : Den := denOf 1 0 [0] m__law_rank
noncomputable def m__law_staircase : M Fl := mSeq (mSet 1 (mLst (M.ret []))) (mSeq (mFor (mSeqI (mVar 0)) (tgName 2) (mIf (mAndT (mB (mBin (dEq false) (mLc (mSeqI (mVar 0)) [3] (tgName 3) (mAndT (mB (mBin (dEq true) (mVar 3) (mVar 2))) (mB (mCall den__law_holds (mCons (mVar 3) (mCons (mVar 2) (M.ret [])))))) (M.ret (rSc (.int 1)))) (mLst (M.ret [])))) (mB (mBin (dIn true) (mVar 2) (mVar 1)))) (mDrop (mMeth 1 gAppend (mCons (mVar 2) (M.ret [])))) (M.ret .nx))) (mRet [0] (mFn fTuple (mCons (mSortK false (mKeyL 2 (mCall den__law_rank (mCons (mBin dIxX (mVar 2) (M.ret (rSc (.int 0)))) (M.ret [])))) (mVar 1)) (M.ret [])))))
noncomputable def den__law_staircase : Den := denOf 1 3 [0] m__law_staircase
noncomputable def m__law_held : M Fl := mRet [0, 1] (mBin (dEq true) (mLc (mSeqI (mVar 0)) [2] (tgName 2) (mB (mCall den__law_holds (mCons (mVar 2) (mCons (mVar 1) (M.ret []))))) (M.ret (rSc (.int 1)))) (mLst (M.ret [])))
noncomputable def den__law_held : Den := denOf 2 1 [0, 1] m__law_held
noncomputable def m__law_size : M Fl := mRet [0] (mBin dAdd (M.ret (rSc (.int 1))) (mCall den__law_pick (mCons (mVar 0) (mCons (mLst (mCons (mCall den__law_take (mCons (mVar 0) (mCons (M.ret (rSc (.int 4))) (M.ret [])))) (mCons (mCall den__law_take (mCons (mVar 0) (mCons (M.ret (rSc (.int 12))) (M.ret [])))) (mCons (mCall den__law_take (mCons (mVar 0) (mCons (M.ret (rSc (.int 60))) (M.ret [])))) (mCons (mCall den__law_take (mCons (mVar 0) (mCons (M.ret (rSc (.int 99999))) (M.ret [])))) (M.ret [])))))) (M.ret [])))))
noncomputable def den__law_size : Den := denOf 1 0 [0] m__law_size
noncomputable def m__law_beside : M Fl := mSeq (mIf (mOrT (mB (mBin (dEq false) (mVar 1) (mLst (M.ret [])))) (mB (mBin (dEq false) (mCall den__law_take (mCons (mVar 0) (mCons (M.ret (rSc (.int 4))) (M.ret [])))) (M.ret (rSc (.int 0)))))) (mRet [0, 1] (mTup (mCons (mCall den__law_size (mCons (mVar 0) (M.ret []))) (mCons (mCall den__law_size (mCons (mVar 0) (M.ret []))) (M.ret []))))) (M.ret .nx)) (mSeq (mPar 2 3 (mBin dIxX (mCall den__law_pick (mCons (mVar 0) (mCons (mVar 1) (M.ret [])))) (M.ret (rSc (.int 0)))) (mBin dIxX (mCall den__law_pick (mCons (mVar 0) (mCons (mVar 1) (M.ret [])))) (M.ret (rSc (.int 1))))) (mSeq (mIf (mB (mBin (dEq false) (mCall den__law_take (mCons (mVar 0) (mCons (M.ret (rSc (.int 2))) (M.ret [])))) (M.ret (rSc (.int 0))))) (mAsg (mCall den__law_pick (mCons (mVar 0) (mCons (mVar 1) (M.ret [])))) (tgTup [2, 3])) (M.ret .nx)) (mSeq (mSet 2 (mIfE (mB (mBin (dIs false) (mVar 2) (M.ret (rSc .non)))) (mCall den__law_size (mCons (mVar 0) (M.ret []))) (mBin dAdd (mVar 2) (mCall den__law_pick (mCons (mVar 0) (mCons (mLst (mCons (M.ret (rSc (.int 0))) (mCons (M.ret (rSc (.int 0))) (mCons (M.ret (rSc (.int 1))) (mCons (M.ret (rSc (.int 1))) (mCons (mUn dNeg (M.ret (rSc (.int 1)))) (M.ret []))))))) (M.ret []))))))) (mSeq (mSet 3 (mIfE (mB (mBin (dIs false) (mVar 3) (M.ret (rSc .non)))) (mCall den__law_size (mCons (mVar 0) (M.ret []))) (mBin dAdd (mVar 3) (mCall den__law_pick (mCons (mVar 0) (mCons (mLst (mCons (M.ret (rSc (.int 0))) (mCons (M.ret (rSc (.int 0))) (mCons (M.ret (rSc (.int 1))) (mCons (M.ret (rSc (.int 1))) (mCons (mUn dNeg (M.ret (rSc (.int 1)))) (M.ret []))))))) (M.ret []))))))) (mRet [0, 1] (mTup (mCons (mFn fMax (mCons (M.ret (rSc (.int 1))) (mCons (mVar 2) (M.ret [])))) (mCons (mFn fMax (mCons (M.ret (rSc (.int 1))) (mCons (mVar 3) (M.ret [])))) (M.ret [])))))))))
noncomputable def den__law_beside : Den := denOf 2 2 [0, 1] m__law_beside
noncomputable def m__law_few : M Fl := mSeq (mSet 2 (mLst (M.ret []))) (mSeq (mFor (mRng rng1 (mCons (mCall den__law_take (mCons (mVar 0) (mCons (mBin dAdd (mVar 1) (M.ret (rSc (.int 1)))) (M.ret [])))) (M.ret []))) (tgName 3) (mSeq (mSet 4 (mTup (mCons (mBin dAdd (M.ret (rSc (.int 1))) (mCall den__law_take (mCons (mVar 0) (mCons (M.ret (rSc (.int 8))) (M.ret []))))) (mCons (mBin dAdd (M.ret (rSc (.int 1))) (mCall den__law_take (mCons (mVar 0) (mCons (M.ret (rSc (.int 8))) (M.ret []))))) (M.ret []))))) (mSeq (mSet 5 (mCall den__law_take (mCons (mVar 0) (mCons (M.ret (rSc (.int 5))) (M.ret []))))) (mDrop (mMeth 2 gAppend (mCons (mIfE (mB (mBin (dEq false) (mVar 5) (M.ret (rSc (.int 0))))) (mTup (mCons (M.ret (rSc .non)) (mCons (mBin dIxX (mVar 4) (M.ret (rSc (.int 1)))) (M.ret [])))) (mIfE (mB (mBin (dEq false) (mVar 5) (M.ret (rSc (.int 1))))) (mTup (mCons (mBin dIxX (mVar 4) (M.ret (rSc (.int 0)))) (mCons (M.ret (rSc .non)) (M.ret [])))) (mVar 4))) (M.ret []))))))) (mRet [0, 1] (mIfE (mB (mBin (dEq false) (mCall den__law_take (mCons (mVar 0) (mCons (M.ret (rSc (.int 8))) (M.ret [])))) (M.ret (rSc (.int 0))))) (mTup (mCons (mTup (mCons (M.ret (rSc .non)) (mCons (M.ret (rSc .non)) (M.ret [])))) (M.ret []))) (mCall den__law_staircase (mCons (mVar 2) (M.ret []))))))
noncomputable def den__law_few : Den := denOf 2 4 [0, 1] m__law_few
noncomputable def m__law_grow : M Fl := mRet [0, 1, 2] (mTup (mCons (mFn fMax (mCons (mBin dIxX (mVar 0) (M.ret (rSc (.int 0)))) (mCons (mBin dAdd (mBin dIxX (mVar 2) (M.ret (rSc (.int 0)))) (mBin dIxX (mVar 1) (M.ret (rSc (.int 0))))) (M.ret [])))) (mCons (mFn fMax (mCons (mBin dIxX (mVar 0) (M.ret (rSc (.int 1)))) (mCons (mBin dAdd (mBin dIxX (mVar 2) (M.ret (rSc (.int 1)))) (mBin dIxX (mVar 1) (M.ret (rSc (.int 1))))) (M.ret [])))) (M.ret []))))
noncomputable def den__law_grow : Den := denOf 3 0 [0, 1, 2] m__law_grow
noncomputable def m__law_raw : M Fl := mSeq (mSet 1 (mTup (mCons (mBin dAdd (M.ret (rSc (.int 1))) (mCall den__law_pick (mCons (mVar 0) (mCons (mLst (mCons (M.ret (rSc (.int 0))) (mCons (M.ret (rSc (.int 0))) (mCons (mCall den__law_take (mCons (mVar 0) (mCons (M.ret (rSc (.int 6))) (M.ret [])))) (M.ret []))))) (M.ret []))))) (mCons (mBin dAdd (M.ret (rSc (.int 1))) (mCall den__law_pick (mCons (mVar 0) (mCons (mLst (mCons (M.ret (rSc (.int 0))) (mCons (M.ret (rSc (.int 0))) (mCons (mCall den__law_take (mCons (mVar 0) (mCons (M.ret (rSc (.int 6))) (M.ret [])))) (M.ret []))))) (M.ret []))))) (M.ret []))))) (mRet [0] (mTup (mCons (mCall den__law_few (mCons (mVar 0) (mCons (M.ret (rSc (.int 3))) (M.ret [])))) (mCons (mVar 1) (mCons (mTup (mCons (mBin dSub (mCall den__law_take (mCons (mVar 0) (mCons (M.ret (rSc (.int 7))) (M.ret [])))) (M.ret (rSc (.int 3)))) (mCons (mBin dSub (mCall den__law_take (mCons (mVar 0) (mCons (M.ret (rSc (.int 7))) (M.ret [])))) (M.ret (rSc (.int 3)))) (M.ret [])))) (M.ret []))))))
noncomputable def den__law_raw : Den := denOf 1 1 [0] m__law_raw
noncomputable def m__law_reach : M Fl := mRet [0, 1] (mIfE (mB (mBin (dEq false) (mVar 1) (M.ret (rSc (.int 0))))) (mBin dIxX (mBin dIxX (mVar 0) (mUn dNeg (M.ret (rSc (.int 1))))) (M.ret (rSc (.int 0)))) (mBin dIxX (mBin dIxX (mVar 0) (M.ret (rSc (.int 0)))) (M.ret (rSc (.int 1)))))
noncomputable def den__law_reach : Den := denOf 2 0 [0, 1] m__law_reach
noncomputable def m__law_tries : M Fl := mSeq (mSet 2 (mLst (mCons (M.ret (rSc (.int 1))) (mCons (M.ret (rSc (.int 2))) (mCons (M.ret (rSc (.int 3))) (mCons (M.ret (rSc (.int 9999999))) (M.ret []))))))) (mSeq (mFor (mSeqI (mVar 0)) (tgName 3) (mSeq (mSet 4 (mBin dSub (mBin dIxX (mBin dIxX (mVar 3) (M.ret (rSc (.int 1)))) (mVar 1)) (mBin dIxX (mBin dIxX (mVar 3) (M.ret (rSc (.int 2)))) (mVar 1)))) (mSet 2 (mBin dAdd (mVar 2) (mLst (mCons (mBin dSub (mVar 4) (M.ret (rSc (.int 1)))) (mCons (mVar 4) (mCons (mBin dAdd (mVar 4) (M.ret (rSc (.int 1)))) (mCons (mCall den__law_reach (mCons (mBin dIxX (mVar 3) (M.ret (rSc (.int 0)))) (mCons (mVar 1) (M.ret [])))) (M.ret [])))))))))) (mRet [0, 1] (mUn dSortSet (mLc (mSeqI (mVar 2)) [5] (tgName 5) (mAndT (mB (mBin (dIs true) (mVar 5) (M.ret (rSc .non)))) (mB (mBin dGe (mVar 5) (M.ret (rSc (.int 1)))))) (mVar 5)))))
noncomputable def den__law_tries : Den := denOf 2 4 [0, 1] m__law_tries
noncomputable def m__law_same_doing : M Fl := mSeq (mIf (mB (mBin (dEq true) (mBin dIxX (mVar 0) (M.ret (rSc (.int 0)))) (mBin dIxX (mVar 1) (M.ret (rSc (.int 0)))))) (mRet [0, 1] (M.ret (rSc (.bl false)))) (M.ret .nx)) (mSeq (mIf (mB (mBin (dEq false) (mBin dIxX (mVar 0) (M.ret (rSc (.int 0)))) (mTup (M.ret [])))) (mRet [0, 1] (M.ret (rSc (.bl true)))) (M.ret .nx)) (mSeq (mFor (mRng rng1 (mCons (M.ret (rSc (.int 2))) (M.ret []))) (tgName 2) (mFor (mSeqI (mCall den__law_tries (mCons (mLst (mCons (mVar 0) (mCons (mVar 1) (M.ret [])))) (mCons (mVar 2) (M.ret []))))) (tgName 3) (mSeq (mSet 4 (mIfE (mB (mBin (dEq false) (mVar 2) (M.ret (rSc (.int 0))))) (mTup (mCons (mVar 3) (mCons (M.ret (rSc (.int 1))) (M.ret [])))) (mTup (mCons (M.ret (rSc (.int 1))) (mCons (mVar 3) (M.ret [])))))) (mSeq (mPar 5 6 (mCall den__law_grow (mCons (mBin dIxX (mVar 0) (M.ret (rSc (.int 1)))) (mCons (mBin dIxX (mVar 0) (M.ret (rSc (.int 2)))) (mCons (mVar 4) (M.ret []))))) (mCall den__law_grow (mCons (mBin dIxX (mVar 1) (M.ret (rSc (.int 1)))) (mCons (mBin dIxX (mVar 1) (M.ret (rSc (.int 2)))) (mCons (mVar 4) (M.ret [])))))) (mIf (mAndT (mB (mCall den__law_held (mCons (mBin dIxX (mVar 0) (M.ret (rSc (.int 0)))) (mCons (mVar 4) (M.ret []))))) (mB (mBin (dEq true) (mVar 5) (mVar 6)))) (mRet [0, 1] (M.ret (rSc (.bl false)))) (M.ret .nx)))))) (mRet [0, 1] (M.ret (rSc (.bl true))))))
noncomputable def den__law_same_doing : Den := denOf 2 5 [0, 1] m__law_same_doing
noncomputable def m__law_changed : M Fl := mSeq (mSet 2 (mCall den__law_take (mCons (mVar 0) (mCons (M.ret (rSc (.int 4))) (M.ret []))))) (mSeq (mPar 3 4 (mFn fList (mCons (mBin dIxX (mVar 1) (M.ret (rSc (.int 1)))) (M.ret []))) (mFn fList (mCons (mBin dIxX (mVar 1) (M.ret (rSc (.int 2)))) (M.ret [])))) (mSeq (mSet 5 (mCall den__law_take (mCons (mVar 0) (mCons (M.ret (rSc (.int 2))) (M.ret []))))) (mSeq (mIf (mB (mBin (dEq false) (mVar 2) (M.ret (rSc (.int 0))))) (mLPut 3 (mVar 5) (mFn fMax (mCons (M.ret (rSc (.int 1))) (mCons (mBin dAdd (mBin dIxX (mVar 3) (mVar 5)) (mCall den__law_pick (mCons (mVar 0) (mCons (mLst (mCons (M.ret (rSc (.int 1))) (mCons (mUn dNeg (M.ret (rSc (.int 1)))) (mCons (M.ret (rSc (.int 2))) (M.ret []))))) (M.ret []))))) (M.ret []))))) (mIf (mB (mBin (dEq false) (mVar 2) (M.ret (rSc (.int 1))))) (mLPut 4 (mVar 5) (mBin dAdd (mBin dIxX (mVar 4) (mVar 5)) (mCall den__law_pick (mCons (mVar 0) (mCons (mLst (mCons (M.ret (rSc (.int 1))) (mCons (mUn dNeg (M.ret (rSc (.int 1)))) (mCons (mUn dNeg (M.ret (rSc (.int 4)))) (mCons (M.ret (rSc (.int 99999))) (mCons (mUn dNeg (M.ret (rSc (.int 99999)))) (M.ret []))))))) (M.ret [])))))) (mIf (mB (mBin (dEq false) (mVar 2) (M.ret (rSc (.int 2))))) (mRet [0, 1] (mTup (mCons (mCall den__law_few (mCons (mVar 0) (mCons (M.ret (rSc (.int 2))) (M.ret [])))) (mCons (mBin dIxX (mVar 1) (M.ret (rSc (.int 1)))) (mCons (mBin dIxX (mVar 1) (M.ret (rSc (.int 2)))) (M.ret [])))))) (M.ret .nx)))) (mRet [0, 1] (mTup (mCons (mBin dIxX (mVar 1) (M.ret (rSc (.int 0)))) (mCons (mTup (mCons (mBin dIxX (mVar 3) (M.ret (rSc (.int 0)))) (mCons (mBin dIxX (mVar 3) (M.ret (rSc (.int 1)))) (M.ret [])))) (mCons (mTup (mCons (mBin dIxX (mVar 4) (M.ret (rSc (.int 0)))) (mCons (mBin dIxX (mVar 4) (M.ret (rSc (.int 1)))) (M.ret [])))) (M.ret [])))))))))
noncomputable def den__law_changed : Den := denOf 2 4 [0, 1] m__law_changed
noncomputable def m_Form___eq__ : M Fl := mSeq (mIf (mOrT (mNotT (mB (mUn (dIsi ocs oes anc (.own "Form")) (mVar 1)))) (mOrT (mB (mBin (dEq true) (mUn (dFld cf "start") (mVar 0)) (mUn (dFld cf "start") (mVar 1)))) (mB (mBin (dEq true) (mUn (dFld cf "end") (mVar 0)) (mUn (dFld cf "end") (mVar 1)))))) (mRet [0, 1] (M.ret (rSc (.bl false)))) (M.ret .nx)) (mRet [0, 1] (mAndV (mBin (dEq false) (mUn (dFld cf "stairs") (mVar 0)) (mUn (dFld cf "stairs") (mVar 1))) (mAndV (mBin (dEq false) (mUn (dFld cf "least") (mVar 0)) (mUn (dFld cf "least") (mVar 1))) (mBin (dEq false) (mUn (dFld cf "by") (mVar 0)) (mUn (dFld cf "by") (mVar 1))))))
noncomputable def den_Form___eq__ : Den := denOf 2 0 [0, 1] m_Form___eq__
noncomputable def m__law_loads_ok : M Fl := mSeq (mPar 3 4 (mCallK den_still (M.ret []) (mCons (mVar 1) (mCons (mBin dIxX (mVar 2) (M.ret (rSc (.int 0)))) (M.ret [])))) (mCallK den_load_form (M.ret []) (mCons (mVar 1) (mCons (mBin dIxX (mVar 2) (M.ret (rSc (.int 0)))) (mCons (mBin dIxX (mVar 2) (M.ret (rSc (.int 2)))) (M.ret [])))))) (mSeq (mIf (mOrT (mB (mCmI "Form" true den_Form___eq__ (mVar 3) (mMake "Form" den_Form___init__ (mCons (mVar 1) (mCons (mVar 1) (mCons (mBin dIxX (mVar 2) (M.ret (rSc (.int 0)))) (mCons (mTup (mCons (M.ret (rSc (.int 1))) (mCons (M.ret (rSc (.int 1))) (M.ret [])))) (mCons (mTup (mCons (M.ret (rSc (.int 0))) (mCons (M.ret (rSc (.int 0))) (M.ret [])))) (M.ret []))))))))) (mOrT (mB (mBin (dEq true) (mUn (dFld cf "start") (mVar 4)) (mVar 1))) (mB (mBin (dEq true) (mUn (dFld cf "end") (mVar 4)) (mVar 1))))) (mRet [0, 1, 2] (M.ret (rSc (.bl false)))) (M.ret .nx)) (mSeq (mFor (mRng rng1 (mCons (M.ret (rSc (.int 6))) (M.ret []))) (tgName 5) (mSeq (mSet 6 (mCall den__law_beside (mCons (mVar 0) (mCons (mFn fList (mCons (mBin dIxX (mVar 2) (M.ret (rSc (.int 0)))) (M.ret []))) (M.ret []))))) (mSeq (mSet 7 (mCall den__law_grow (mCons (mTup (mCons (M.ret (rSc (.int 1))) (mCons (M.ret (rSc (.int 1))) (M.ret [])))) (mCons (mBin dIxX (mVar 2) (M.ret (rSc (.int 2)))) (mCons (mVar 6) (M.ret [])))))) (mSeq (mSet 8 (mAndV (mCall den__law_held (mCons (mBin dIxX (mVar 2) (M.ret (rSc (.int 0)))) (mCons (mVar 6) (M.ret [])))) (mCall den__law_held (mCons (mBin dIxX (mVar 2) (M.ret (rSc (.int 0)))) (mCons (mVar 7) (M.ret [])))))) (mSeq (mIf (mB (mBin (dEq true) (mCall den_end_size (mCons (mVar 4) (mCons (mVar 6) (M.ret [])))) (mIfE (mB (mVar 8)) (mVar 7) (M.ret (rSc .non))))) (mRet [0, 1, 2] (M.ret (rSc (.bl false)))) (M.ret .nx)) (mIf (mB (mBin (dEq true) (mCall den_end_size (mCons (mVar 3) (mCons (mVar 6) (M.ret [])))) (mIfE (mB (mCall den__law_held (mCons (mBin dIxX (mVar 2) (M.ret (rSc (.int 0)))) (mCons (mVar 6) (M.ret []))))) (mVar 6) (M.ret (rSc .non))))) (mRet [0, 1, 2] (M.ret (rSc (.bl false)))) (M.ret .nx))))))) (mRet [0, 1, 2] (M.ret (rSc (.bl true))))))
noncomputable def den__law_loads_ok : Den := denOf 3 6 [0, 1, 2] m__law_loads_ok
noncomputable def m__law_refused : M Fl := mSeq (mSet 3 (mCall den__law_pick (mCons (mVar 0) (mCons (mLst (mCons (M.ret (rSc .non)) (mCons (M.ret (rSc (.int 4))) (mCons (mTup (mCons (M.ret (rSc (.int 1))) (M.ret []))) (mCons (mTup (mCons (M.ret (rSc (.int 1))) (mCons (mTup (mCons (M.ret (rSc (.int 2))) (M.ret []))) (M.ret [])))) (mCons (mTup (mCons (M.ret (rSc (.bl true))) (mCons (mTup (mCons (M.ret (rSc (.int 1))) (mCons (M.ret (rSc (.int 1))) (M.ret [])))) (M.ret [])))) (mCons (mTup (mCons (mUn dNeg (M.ret (rSc (.int 1)))) (mCons (mTup (mCons (M.ret (rSc (.int 0))) (mCons (M.ret (rSc (.int 0))) (M.ret [])))) (M.ret [])))) (mCons (mLst (mCons (M.ret (rSc (.int 0))) (mCons (mTup (mCons (M.ret (rSc (.int 1))) (mCons (M.ret (rSc (.int 1))) (M.ret [])))) (M.ret [])))) (mCons (mTup (mCons (M.ret (rSc (.int 0))) (mCons (mTup (mCons (M.ret (rSc (.int 1))) (mCons (M.ret (rSc (.bl true))) (M.ret [])))) (M.ret [])))) (mCons (mTup (mCons (M.ret (rSc (.int 0))) (mCons (mTup (mCons (M.ret (rSc (.int 0))) (mCons (M.ret (rSc (.int 0))) (M.ret [])))) (mCons (M.ret (rSc (.int 1))) (M.ret []))))) (M.ret []))))))))))) (M.ret []))))) (mSeq (mSet 4 (mCall den__law_pick (mCons (mVar 0) (mCons (mLst (mCons (M.ret (rSc .non)) (mCons (mTup (mCons (M.ret (rSc (.int 0))) (mCons (M.ret (rSc (.int 1))) (M.ret [])))) (mCons (mTup (mCons (M.ret (rSc (.int 2))) (mCons (M.ret (rSc (.bl true))) (M.ret [])))) (mCons (mLst (mCons (M.ret (rSc (.int 2))) (mCons (M.ret (rSc (.int 2))) (M.ret [])))) (mCons (M.ret (rSc (.int 7))) (M.ret []))))))) (M.ret []))))) (mSeq (mSet 5 (mLst (mCons (mUn (dIsi ocs oes anc (.own "BadStart")) (mCaught ces (mMake "Form" den_Form___init__ (mCons (mVar 3) (mCons (mVar 3) (mCons (M.ret (rSc (.int 3))) (mCons (M.ret (rSc (.int 3))) (mCons (M.ret (rSc (.int 3))) (M.ret []))))))))) (mCons (mUn (dIsi ocs oes anc (.own "BadEnd")) (mCaught ces (mMake "Form" den_Form___init__ (mCons (mTup (mCons (M.ret (rSc (.int 0))) (mCons (mTup (mCons (M.ret (rSc (.int 0))) (mCons (M.ret (rSc (.int 0))) (M.ret [])))) (M.ret [])))) (mCons (mVar 3) (mCons (M.ret (rSc (.int 3))) (mCons (M.ret (rSc (.int 3))) (mCons (M.ret (rSc (.int 3))) (M.ret []))))))))) (mCons (mUn (dIsi ocs oes anc (.own "BadStairs")) (mCaught ces (mMake "Form" den_Form___init__ (mCons (mTup (mCons (M.ret (rSc (.int 0))) (mCons (mTup (mCons (M.ret (rSc (.int 0))) (mCons (M.ret (rSc (.int 0))) (M.ret [])))) (M.ret [])))) (mCons (mTup (mCons (M.ret (rSc (.int 1))) (mCons (mTup (mCons (M.ret (rSc (.int 0))) (mCons (M.ret (rSc (.int 0))) (M.ret [])))) (M.ret [])))) (mCons (mVar 4) (mCons (M.ret (rSc (.int 3))) (mCons (M.ret (rSc (.int 3))) (M.ret []))))))))) (mCons (mUn (dIsi ocs oes anc (.own "BadLeast")) (mCaught ces (mMake "Form" den_Form___init__ (mCons (mTup (mCons (M.ret (rSc (.int 0))) (mCons (mTup (mCons (M.ret (rSc (.int 0))) (mCons (M.ret (rSc (.int 0))) (M.ret [])))) (M.ret [])))) (mCons (mTup (mCons (M.ret (rSc (.int 1))) (mCons (mTup (mCons (M.ret (rSc (.int 0))) (mCons (M.ret (rSc (.int 0))) (M.ret [])))) (M.ret [])))) (mCons (mBin dIxX (mVar 2) (M.ret (rSc (.int 0)))) (mCons (mVar 4) (mCons (M.ret (rSc (.int 3))) (M.ret []))))))))) (mCons (mUn (dIsi ocs oes anc (.own "BadBy")) (mCaught ces (mMake "Form" den_Form___init__ (mCons (mTup (mCons (M.ret (rSc (.int 0))) (mCons (mTup (mCons (M.ret (rSc (.int 0))) (mCons (M.ret (rSc (.int 0))) (M.ret [])))) (M.ret [])))) (mCons (mTup (mCons (M.ret (rSc (.int 1))) (mCons (mTup (mCons (M.ret (rSc (.int 0))) (mCons (M.ret (rSc (.int 0))) (M.ret [])))) (M.ret [])))) (mCons (mBin dIxX (mVar 2) (M.ret (rSc (.int 0)))) (mCons (mBin dIxX (mVar 2) (M.ret (rSc (.int 1)))) (mCons (M.ret (rSc (.int 3))) (M.ret []))))))))) (mCons (mUn (dIsi ocs oes anc (.own "BadPlace")) (mCaught ces (mCall den_still (mCons (mVar 3) (mCons (M.ret (rSc (.int 3))) (M.ret [])))))) (mCons (mUn (dIsi ocs oes anc (.own "BadStairs")) (mCaught ces (mCall den_still (mCons (mTup (mCons (M.ret (rSc (.int 0))) (mCons (mTup (mCons (M.ret (rSc (.int 0))) (mCons (M.ret (rSc (.int 0))) (M.ret [])))) (M.ret [])))) (mCons (mVar 4) (M.ret [])))))) (mCons (mUn (dIsi ocs oes anc (.own "BadPlace")) (mCaught ces (mCall den_load_form (mCons (mVar 3) (mCons (M.ret (rSc (.int 3))) (mCons (M.ret (rSc (.int 3))) (M.ret []))))))) (mCons (mOrV (mUn (dIsi ocs oes anc (.own "BadBy")) (mCaught ces (mCall den_load_form (mCons (mTup (mCons (M.ret (rSc (.int 0))) (mCons (mTup (mCons (M.ret (rSc (.int 0))) (mCons (M.ret (rSc (.int 0))) (M.ret [])))) (M.ret [])))) (mCons (mBin dIxX (mVar 2) (M.ret (rSc (.int 0)))) (mCons (mVar 4) (M.ret []))))))) (mBin (dEq false) (mVar 4) (mTup (mCons (M.ret (rSc (.int 0))) (mCons (M.ret (rSc (.int 1))) (M.ret [])))))) (mCons (mUn (dIsi ocs oes anc (.own "BadForm")) (mCaught ces (mCall den_end_size (mCons (mVar 2) (mCons (mVar 4) (M.ret [])))))) (mCons (mUn (dIsi ocs oes anc (.own "BadBody")) (mCaught ces (mCall den_end_size (mCons (mVar 1) (mCons (mVar 4) (M.ret [])))))) (M.ret [])))))))))))))) (mRet [0, 1, 2] (mBin (dEq false) (mLc (mSeqI (mVar 5)) [6] (tgName 6) (mNotT (mB (mVar 6))) (M.ret (rSc (.int 1)))) (mLst (M.ret []))))))
noncomputable def den__law_refused : Den := denOf 3 4 [0, 1, 2] m__law_refused
noncomputable def m_law : M Fl := mSeq (mSet 1 (mCall den__law_begun (mCons (mVar 0) (M.ret [])))) (mSeq (mPar 2 3 (mTup (mCons (mCall den__law_take (mCons (mVar 1) (mCons (M.ret (rSc (.int 3))) (M.ret [])))) (mCons (mTup (mCons (mCall den__law_take (mCons (mVar 1) (mCons (M.ret (rSc (.int 5))) (M.ret [])))) (mCons (mUn dNeg (M.ret (rSc (.int 3)))) (M.ret [])))) (M.ret [])))) (mTup (mCons (mCall den__law_take (mCons (mVar 1) (mCons (M.ret (rSc (.int 2))) (M.ret [])))) (mCons (mTup (mCons (mCall den__law_take (mCons (mVar 1) (mCons (M.ret (rSc (.int 5))) (M.ret [])))) (mCons (mUn dNeg (M.ret (rSc (.int 3)))) (M.ret [])))) (M.ret []))))) (mSeq (mSet 4 (mCall den__law_changed (mCons (mVar 1) (mCons (mCall den__law_raw (mCons (mVar 1) (M.ret []))) (M.ret []))))) (mSeq (mSet 5 (mIfE (mB (mBin (dEq false) (mCall den__law_take (mCons (mVar 1) (mCons (M.ret (rSc (.int 2))) (M.ret [])))) (M.ret (rSc (.int 0))))) (mCall den__law_changed (mCons (mVar 1) (mCons (mVar 4) (M.ret [])))) (mCall den__law_raw (mCons (mVar 1) (M.ret []))))) (mSeq (mSet 6 (mMake "Form" den_Form___init__ (mCons (mVar 2) (mCons (mVar 3) (mCons (mBin dIxX (mVar 4) (M.ret (rSc (.int 0)))) (mCons (mBin dIxX (mVar 4) (M.ret (rSc (.int 1)))) (mCons (mBin dIxX (mVar 4) (M.ret (rSc (.int 2)))) (M.ret [])))))))) (mSeq (mSet 7 (mMake "Form" den_Form___init__ (mCons (mVar 2) (mCons (mVar 3) (mCons (mBin dIxX (mVar 5) (M.ret (rSc (.int 0)))) (mCons (mBin dIxX (mVar 5) (M.ret (rSc (.int 1)))) (mCons (mBin dIxX (mVar 5) (M.ret (rSc (.int 2)))) (M.ret [])))))))) (mSeq (mIf (mOrT (mB (mBin (dEq true) (mCmI "Form" false den_Form___eq__ (mVar 6) (mVar 7)) (mCall den__law_same_doing (mCons (mVar 4) (mCons (mVar 5) (M.ret [])))))) (mB (mCmI "Form" false den_Form___eq__ (mVar 6) (mVar 4)))) (mRet [0] (M.ret (rSc (.bl false)))) (M.ret .nx)) (mSeq (mIf (mB (mBin (dEq true) (mCmI "Form" false den_Form___eq__ (mVar 6) (mMake "Form" den_Form___init__ (mCons (mVar 3) (mCons (mVar 3) (mCons (mBin dIxX (mVar 4) (M.ret (rSc (.int 0)))) (mCons (mBin dIxX (mVar 4) (M.ret (rSc (.int 1)))) (mCons (mBin dIxX (mVar 4) (M.ret (rSc (.int 2)))) (M.ret [])))))))) (mBin (dEq false) (mVar 2) (mVar 3)))) (mRet [0] (M.ret (rSc (.bl false)))) (M.ret .nx)) (mSeq (mIf (mOrT (mB (mBin (dEq true) (mUn (dFld cf "start") (mVar 6)) (mVar 2))) (mOrT (mB (mBin (dEq true) (mUn (dFld cf "end") (mVar 6)) (mVar 3))) (mB (mBin (dEq true) (mUn (dFld cf "stairs") (mVar 6)) (mBin dIxX (mVar 4) (M.ret (rSc (.int 0)))))))) (mRet [0] (M.ret (rSc (.bl false)))) (M.ret .nx)) (mSeq (mAsg (mTup (mCons (mTup (mCons (M.ret (rSc (.int 1))) (mCons (M.ret (rSc (.int 1))) (M.ret [])))) (mCons (mTup (mCons (M.ret (rSc (.int 0))) (mCons (M.ret (rSc (.int 0))) (M.ret [])))) (M.ret [])))) (tgTup [8, 9])) (mSeq (mIf (mB (mBin (dEq true) (mBin dIxX (mVar 4) (M.ret (rSc (.int 0)))) (mTup (M.ret [])))) (mSeq (mPar 8 10 (mCall den__law_grow (mCons (mBin dIxX (mVar 4) (M.ret (rSc (.int 1)))) (mCons (mBin dIxX (mVar 4) (M.ret (rSc (.int 2)))) (mCons (mTup (mCons (M.ret (rSc (.int 1))) (mCons (M.ret (rSc (.int 1))) (M.ret [])))) (M.ret []))))) (mLst (M.ret []))) (mSeq (mFor (mRng rng1 (mCons (M.ret (rSc (.int 2))) (M.ret []))) (tgName 11) (mSeq (mSet 12 (mCall den__law_reach (mCons (mBin dIxX (mVar 4) (M.ret (rSc (.int 0)))) (mCons (mVar 11) (M.ret []))))) (mDrop (mMeth 10 gAppend (mCons (mIfE (mB (mBin (dIs false) (mVar 12) (M.ret (rSc .non)))) (mBin dIxX (mBin dIxX (mVar 4) (M.ret (rSc (.int 2)))) (mVar 11)) (mBin dSub (mFn fMax (mCons (mBin dIxX (mBin dIxX (mVar 4) (M.ret (rSc (.int 1)))) (mVar 11)) (mCons (mBin dAdd (mVar 12) (mBin dIxX (mBin dIxX (mVar 4) (M.ret (rSc (.int 2)))) (mVar 11))) (M.ret [])))) (mVar 12))) (M.ret [])))))) (mSet 9 (mTup (mCons (mBin dIxX (mVar 10) (M.ret (rSc (.int 0)))) (mCons (mBin dIxX (mVar 10) (M.ret (rSc (.int 1)))) (M.ret []))))))) (M.ret .nx)) (mSeq (mIf (mOrT (mB (mBin (dEq true) (mUn (dFld cf "least") (mVar 6)) (mVar 8))) (mOrT (mB (mBin (dEq true) (mUn (dFld cf "by") (mVar 6)) (mVar 9))) (mB (mCmI "Form" true den_Form___eq__ (mMake "Form" den_Form___init__ (mCons (mVar 2) (mCons (mVar 3) (mCons (mBin dIxX (mVar 4) (M.ret (rSc (.int 0)))) (mCons (mUn (dFld cf "least") (mVar 6)) (mCons (mUn (dFld cf "by") (mVar 6)) (M.ret []))))))) (mVar 6))))) (mRet [0] (M.ret (rSc (.bl false)))) (M.ret .nx)) (mSeq (mFor (mRng rng1 (mCons (M.ret (rSc (.int 6))) (M.ret []))) (tgName 13) (mSeq (mSet 14 (mCall den__law_beside (mCons (mVar 1) (mCons (mFn fList (mCons (mBin dIxX (mVar 4) (M.ret (rSc (.int 0)))) (M.ret []))) (M.ret []))))) (mSeq (mSet 15 (mIfE (mB (mCall den__law_held (mCons (mBin dIxX (mVar 4) (M.ret (rSc (.int 0)))) (mCons (mVar 14) (M.ret []))))) (mCall den__law_grow (mCons (mBin dIxX (mVar 4) (M.ret (rSc (.int 1)))) (mCons (mBin dIxX (mVar 4) (M.ret (rSc (.int 2)))) (mCons (mVar 14) (M.ret []))))) (M.ret (rSc .non)))) (mIf (mB (mBin (dEq true) (mCallK den_end_size (M.ret []) (mCons (mVar 6) (mCons (mVar 14) (M.ret [])))) (mVar 15))) (mRet [0] (M.ret (rSc (.bl false)))) (M.ret .nx))))) (mRet [0] (mAndV (mCall den__law_loads_ok (mCons (mVar 1) (mCons (mVar 2) (mCons (mVar 4) (M.ret []))))) (mCall den__law_refused (mCons (mVar 1) (mCons (mVar 6) (mCons (mVar 4) (M.ret [])))))))))))))))))))
noncomputable def den_law : Den := denOf 1 15 [0] m_law
noncomputable def m_Form___mul__ : M Fl := mRet [0, 1] (mCall den_then (mCons (mVar 0) (mCons (mVar 1) (M.ret []))))
noncomputable def den_Form___mul__ : Den := denOf 2 0 [0, 1] m_Form___mul__
theorem Z.ok_is_size (Z : Z C base) : FV C C.P C.w base 1 "is_size" s_is_size ["thing"] den_is_size := by
  obtain ⟨fd, F⟩ := Z.fd_is_size
  refine fv_of (k := 0) (N := ["thing"]) (pin := [0]) (m := m_is_size) F sc_is_size Z.glo_is_size (by decide) ?_
  intro cdv A outer s H E hr
  exact ⟨_, ss_one (s_ret (se_and (se_isi (u := .ty "int") Z.ko (by rfl) Z.free_isinstance (.ty (by decide)) (pe_bltn (by rfl) Z.free_int (by decide +kernel) rfl) (se_var 0 (pv 0))) (se_and (se_not (se_isi (u := .ty "bool") Z.ko (by rfl) Z.free_isinstance (.ty (by decide)) (pe_bltn (by rfl) Z.free_bool (by decide +kernel) rfl) (se_var 0 (pv 0)))) (se_one (cmp o_ge (se_var 0 (pv 0)) (se_int))))))⟩
theorem Z.ok_is_body (Z : Z C base) : FV C C.P C.w base 2 "is_body" s_is_body ["thing"] den_is_body := by
  obtain ⟨fd, F⟩ := Z.fd_is_body
  refine fv_of (k := 1) (N := ["thing"]) (pin := [0]) (m := m_is_body) F sc_is_body Z.glo_is_body (by decide) ?_
  intro cdv A outer s H E hr
  exact ⟨_, ss_one (s_ret (se_and (se_isi (u := .ty "tuple") Z.ko (by rfl) Z.free_isinstance (.ty (by decide)) (pe_bltn (by rfl) Z.free_tuple (by decide +kernel) rfl) (se_var 0 (pv 0))) (se_and (cmp (o_eq (u65 hr)) (fnb f_len Z.free_len (sa_cons (se_var 0 (pv 0)) (sa_nil))) (se_int)) (se_and (se_call Z.ok_is_size (takes_of rfl rfl rfl rfl) (rmono hr (by decide)) (by rfl) (sa_cons (se_ixX (u64 hr) (se_var 0 (pv 0)) (se_int)) (sa_nil)) (fun _ _ _ _ _ _ us hl => match us, hl with | [_], _ => rfl) (len_cons len_nil)) (se_one (se_call Z.ok_is_size (takes_of rfl rfl rfl rfl) (rmono hr (by decide)) (by rfl) (sa_cons (se_ixX (u64 hr) (se_var 0 (pv 0)) (se_int)) (sa_nil)) (fun _ _ _ _ _ _ us hl => match us, hl with | [_], _ => rfl) (len_cons len_nil)))))))⟩
theorem Z.ok_is_corner (Z : Z C base) : FV C C.P C.w base 2 "is_corner" s_is_corner ["thing"] den_is_corner := by
  obtain ⟨fd, F⟩ := Z.fd_is_corner
  refine fv_of (k := 1) (N := ["thing"]) (pin := [0]) (m := m_is_corner) F sc_is_corner Z.glo_is_corner (by decide) ?_
  intro cdv A outer s H E hr
  exact ⟨_, ss_cons (s_if ((sw_or (st_not (st_val (se_isi (u := .ty "tuple") Z.ko (by rfl) Z.free_isinstance (.ty (by decide)) (pe_bltn (by rfl) Z.free_tuple (by decide +kernel) rfl) (se_var 0 (pv 0))))) (sw_or1 (tcmp (o_ne (u65 hr)) (fnb f_len Z.free_len (sa_cons (se_var 0 (pv 0)) (sa_nil))) (se_int)))).t) (ss_one (s_ret (se_bl))) (ss_nil)) (ss_one (s_ret (se_and (se_or (cmp o_is (se_ixX (u64 hr) (se_var 0 (pv 0)) (se_int)) (se_non)) (se_one (se_call Z.ok_is_size (takes_of rfl rfl rfl rfl) (rmono hr (by decide)) (by rfl) (sa_cons (se_ixX (u64 hr) (se_var 0 (pv 0)) (se_int)) (sa_nil)) (fun _ _ _ _ _ _ us hl => match us, hl with | [_], _ => rfl) (len_cons len_nil)))) (se_one (se_or (cmp o_is (se_ixX (u64 hr) (se_var 0 (pv 0)) (se_int)) (se_non)) (se_one (se_call Z.ok_is_size (takes_of rfl rfl rfl rfl) (rmono hr (by decide)) (by rfl) (sa_cons (se_ixX (u64 hr) (se_var 0 (pv 0)) (se_int)) (sa_nil)) (fun _ _ _ _ _ _ us hl => match us, hl with | [_], _ => rfl) (len_cons len_nil))))))))⟩
theorem Z.ok_up_to (Z : Z C base) : FV C C.P C.w base 1 "up_to" s_up_to ["item", "bound"] den_up_to := by
  obtain ⟨fd, F⟩ := Z.fd_up_to
  refine fv_of (k := 0) (N := ["item", "bound"]) (pin := [0, 1]) (m := m_up_to) F sc_up_to Z.glo_up_to (by decide) ?_
  intro cdv A outer s H E hr
  exact ⟨_, ss_one (s_ret (se_or (cmp o_is (se_var 1 (pv 1)) (se_non)) (se_one (se_and (cmp o_isn (se_var 0 (pv 0)) (se_non)) (se_one (cmp o_le (se_var 0 (pv 0)) (se_var 1 (pv 1))))))))⟩
theorem Z.ok_lies_in (Z : Z C base) : FV C C.P C.w base 2 "lies_in" s_lies_in ["corner", "other"] den_lies_in := by
  obtain ⟨fd, F⟩ := Z.fd_lies_in
  refine fv_of (k := 1) (N := ["corner", "other"]) (pin := [0, 1]) (m := m_lies_in) F sc_lies_in Z.glo_lies_in (by decide) ?_
  intro cdv A outer s H E hr
  exact ⟨_, ss_one (s_ret (se_and (se_call Z.ok_up_to (takes_of rfl rfl rfl rfl) (rmono hr (by decide)) (by rfl) (sa_cons (se_ixX (u64 hr) (se_var 0 (pv 0)) (se_int)) (sa_cons (se_ixX (u64 hr) (se_var 1 (pv 1)) (se_int)) (sa_nil))) (fun _ _ _ _ _ _ us hl => match us, hl with | [_, _], _ => rfl) (len_cons (len_cons len_nil))) (se_one (se_call Z.ok_up_to (takes_of rfl rfl rfl rfl) (rmono hr (by decide)) (by rfl) (sa_cons (se_ixX (u64 hr) (se_var 0 (pv 0)) (se_int)) (sa_cons (se_ixX (u64 hr) (se_var 1 (pv 1)) (se_int)) (sa_nil))) (fun _ _ _ _ _ _ us hl => match us, hl with | [_, _], _ => rfl) (len_cons (len_cons len_nil))))))⟩
theorem Z.ok_lesser (Z : Z C base) : FV C C.P C.w base 2 "lesser" s_lesser ["item", "other"] den_lesser := by
  obtain ⟨fd, F⟩ := Z.fd_lesser
  refine fv_of (k := 1) (N := ["item", "other"]) (pin := [0, 1]) (m := m_lesser) F sc_lesser Z.glo_lesser (by decide) ?_
  intro cdv A outer s H E hr
  exact ⟨_, ss_one (s_ret (se_ifE (st_val (se_call Z.ok_up_to (takes_of rfl rfl rfl rfl) (rmono hr (by decide)) (by rfl) (sa_cons (se_var 0 (pv 0)) (sa_cons (se_var 1 (pv 1)) (sa_nil))) (fun _ _ _ _ _ _ us hl => match us, hl with | [_, _], _ => rfl) (len_cons (len_cons len_nil)))) (se_var 0 (pv 0)) (se_var 1 (pv 1))))⟩
theorem Z.ok_is_stairs (Z : Z C base) : FV C C.P C.w base 3 "is_stairs" s_is_stairs ["thing"] den_is_stairs := by
  obtain ⟨fd, F⟩ := Z.fd_is_stairs
  refine fv_of (k := 2) (N := ["thing", "k"]) (pin := [0]) (m := m_is_stairs) F sc_is_stairs Z.glo_is_stairs (by decide) ?_
  intro cdv A outer s H E hr
  exact ⟨_, ss_cons (s_if (st_not (st_val (se_isi (u := .ty "tuple") Z.ko (by rfl) Z.free_isinstance (.ty (by decide)) (pe_bltn (by rfl) Z.free_tuple (by decide +kernel) rfl) (se_var 0 (pv 0))))) (ss_one (s_ret (se_bl))) (ss_nil)) (ss_cons (s_for rfl (passes_of rfl) (si_rng1 (by rfl) Z.free_range (sa_cons (fnb f_len Z.free_len (sa_cons (se_var 0 (pv 0)) (sa_nil))) (sa_nil))) (pg_name (i := 1) sc_is_stairs.nd rfl (by first | exact .inl rfl | exact .inr rfl)) (sg_name (P := [0]) (i := 1) (by decide)) (ss_cons (s_if (st_not (st_val (se_call Z.ok_is_corner (takes_of rfl rfl rfl rfl) (rmono hr (by decide)) (by rfl) (sa_cons (se_ixX (u64 hr) (se_var 0 (pv 0)) (se_var 1 (pv 1))) (sa_nil)) (fun _ _ _ _ _ _ us hl => match us, hl with | [_], _ => rfl) (len_cons len_nil)))) (ss_one (s_ret (se_bl))) (ss_nil)) (ss_one (s_if ((sw_and (tcmp o_gt (se_var 1 (pv 1)) (se_int)) (sw_and1 ((sw_or (st_val (se_call Z.ok_up_to (takes_of rfl rfl rfl rfl) (rmono hr (by decide)) (by rfl) (sa_cons (se_ixX (u64 hr) (se_ixX (u64 hr) (se_var 0 (pv 0)) (se_var 1 (pv 1))) (se_int)) (sa_cons (se_ixX (u64 hr) (se_ixX (u64 hr) (se_var 0 (pv 0)) (b_sub (se_var 1 (pv 1)) (se_int))) (se_int)) (sa_nil))) (fun _ _ _ _ _ _ us hl => match us, hl with | [_, _], _ => rfl) (len_cons (len_cons len_nil)))) (sw_or1 (st_val (se_call Z.ok_up_to (takes_of rfl rfl rfl rfl) (rmono hr (by decide)) (by rfl) (sa_cons (se_ixX (u64 hr) (se_ixX (u64 hr) (se_var 0 (pv 0)) (b_sub (se_var 1 (pv 1)) (se_int))) (se_int)) (sa_cons (se_ixX (u64 hr) (se_ixX (u64 hr) (se_var 0 (pv 0)) (se_var 1 (pv 1))) (se_int)) (sa_nil))) (fun _ _ _ _ _ _ us hl => match us, hl with | [_, _], _ => rfl) (len_cons (len_cons len_nil)))))).t))).t) (ss_one (s_ret (se_bl))) (ss_nil))))) (ss_one (s_ret (se_bl))))⟩
theorem Z.ok_need_stairs (Z : Z C base) : FV C C.P C.w base 4 "need_stairs" s_need_stairs ["stairs"] den_need_stairs := by
  obtain ⟨fd, F⟩ := Z.fd_need_stairs
  refine fv_of (k := 3) (N := ["stairs"]) (pin := [0]) (m := m_need_stairs) F sc_need_stairs Z.glo_need_stairs (by decide) ?_
  intro cdv A outer s H E hr
  exact ⟨_, ss_one (s_if (st_not (st_val (se_call Z.ok_is_stairs (takes_of rfl rfl rfl rfl) (rmono hr (by decide)) (by rfl) (sa_cons (se_var 0 (pv 0)) (sa_nil)) (fun _ _ _ _ _ _ us hl => match us, hl with | [_], _ => rfl) (len_cons len_nil)))) (ss_one (s_raise (by rfl) (takes_of rfl rfl rfl rfl) (by rfl) Z.eo_BadStairs Z.rs_BadStairs)) (ss_nil))⟩
theorem Z.ok__rank (Z : Z C base) : FV C C.P C.w base 1 "_rank" s__rank ["corner"] den__rank := by
  obtain ⟨fd, F⟩ := Z.fd__rank
  refine fv_of (k := 0) (N := ["corner", "first", "second"]) (pin := [0]) (m := m__rank) F sc__rank Z.glo__rank (by decide) ?_
  intro cdv A outer s H E hr
  exact ⟨_, ss_cons (s_set sc__rank.nd rfl (by first | exact .inl rfl | exact .inr rfl) (se_ifE (tcmp o_is (se_ixX (u64 hr) (se_var 0 (pv 0)) (se_int)) (se_non)) (se_tup (sa_cons (se_int) (sa_cons (se_int) (sa_nil))) (len_cons (len_cons len_nil))) (se_tup (sa_cons (se_int) (sa_cons (se_ixX (u64 hr) (se_var 0 (pv 0)) (se_int)) (sa_nil))) (len_cons (len_cons len_nil))))) (ss_cons (s_set sc__rank.nd rfl (by first | exact .inl rfl | exact .inr rfl) (se_ifE (tcmp o_is (se_ixX (u64 hr) (se_var 0 (pv 0)) (se_int)) (se_non)) (se_tup (sa_cons (se_int) (sa_cons (se_int) (sa_nil))) (len_cons (len_cons len_nil))) (se_tup (sa_cons (se_int) (sa_cons (se_ixX (u64 hr) (se_var 0 (pv 0)) (se_int)) (sa_nil))) (len_cons (len_cons len_nil))))) (ss_one (s_ret (se_tup (sa_cons (se_var 1 (pv 1)) (sa_cons (se_var 2 (pv 2)) (sa_nil))) (len_cons (len_cons len_nil))))))⟩
theorem Z.ok_top_corners (Z : Z C base) : FV C C.P C.w base 4 "top_corners" s_top_corners ["corners"] den_top_corners := by
  obtain ⟨fd, F⟩ := Z.fd_top_corners
  refine fv_of (k := 3) (N := ["corners", "kept", "corner"]) (pin := [0]) (m := m_top_corners) F sc_top_corners Z.glo_top_corners (by decide) ?_
  intro cdv A outer s H E hr
  exact ⟨_, ss_cons (s_set sc_top_corners.nd rfl (by first | exact .inl rfl | exact .inr rfl) (se_lst (sa_nil) len_nil)) (ss_cons (s_for rfl (passes_of rfl) (si_seq (se_skdr Z.ok__rank (rmono hr (by decide)) (by rfl) Z.free_sorted (by rfl) (se_var 0 (pv 0)) (fun _ _ _ _ _ _ us hl => match us, hl with | [_], _ => rfl))) (pg_name (i := 2) sc_top_corners.nd rfl (by first | exact .inl rfl | exact .inr rfl)) (sg_name (P := [0]) (i := 2) (by decide)) (ss_one (s_if ((sw_or (tcmp (o_eq (u65 hr)) (se_var 1 (pv 1)) (se_lst (sa_nil) len_nil)) (sw_or1 (st_not (st_val (se_call Z.ok_up_to (takes_of rfl rfl rfl rfl) (rmono hr (by decide)) (by rfl) (sa_cons (se_ixX (u64 hr) (se_var 2 (pv 2)) (se_int)) (sa_cons (se_ixX (u64 hr) (se_ixX (u64 hr) (se_var 1 (pv 1)) (se_neg (se_int))) (se_int)) (sa_nil))) (fun _ _ _ _ _ _ us hl => match us, hl with | [_, _], _ => rfl) (len_cons (len_cons len_nil))))))).t) (ss_one (s_expr (se_meth PySem.F.slot_list_append PySem.F.type_list_append mt_append rule_append (pv 1) (sa_cons (se_var 2 (pv 2)) (sa_nil))))) (ss_nil)))) (ss_one (s_ret (se_tupRev (by rfl) (by rfl) Z.free_tuple (by rfl) Z.free_reversed (se_var 1 (pv 1))))))⟩
theorem Z.ok_has (Z : Z C base) : FV C C.P C.w base 6 "has" s_has ["stairs", "corner"] den_has := by
  obtain ⟨fd, F⟩ := Z.fd_has
  refine fv_ofL (k := 5) (N := ["stairs", "corner", "own"]) (pin := [0, 1]) (m := m_has) F sc_has Z.glo_has (by decide) ?_
  intro A outer s H E hr
  exact ⟨_, ss_one (s_ret (se_any (k := 2) (own := [("own", 2)]) (rmono hr (by decide)) rfl sc_has.nd (by rfl) Z.free_any Z.tb_has (by rfl) Z.tT_has Z.tU_has (by exact GX.gns_by (N := ["stairs", "corner", "own"]) (sc := defScope s_has) (own := [("own", 2)]) (by decide +kernel)) (si_seq (se_var 0 (pv 0))) (fun A' s H L code fp pn hr => pg_name (i := 2) sc_has.nd rfl (by first | exact .inl rfl | exact .inr rfl)) (sg_name (P := []) (i := 2) (by decide)) (fun A' s H L code fp pn hr => sq_nil) (fun A' s H L code fp pn hr => se_call Z.ok_lies_in LamX.takes0 (rmono hr (by decide)) (by rfl) (sa_cons (se_var 1 (pv 1)) (sa_cons (se_var 2 (pv 2)) (sa_nil))) (fun _ _ _ _ _ _ us hl => match us, hl with | [_, _], _ => rfl) (len_cons (len_cons len_nil)))))⟩
theorem Z.ok_common (Z : Z C base) : FV C C.P C.w base 5 "common" s_common ["one", "other"] den_common := by
  obtain ⟨fd, F⟩ := Z.fd_common
  refine fv_of (k := 4) (N := ["one", "other", "a", "b"]) (pin := [0, 1]) (m := m_common) F sc_common Z.glo_common (by decide) ?_
  intro cdv A outer s H E hr
  exact ⟨_, ss_one (s_ret (se_call Z.ok_top_corners (takes_of rfl rfl rfl rfl) (rmono hr (by decide)) (by rfl) (sa_cons (se_lc2 (own := [("a", 2), ("b", 3)]) (vs1 := [3]) rfl sc_common.nd (si_seq (se_var 0 (pv 0))) (by exact blkOk_by (N := ["one", "other", "a", "b"]) (sc := defScope s_common) (own := [("a", 2), ("b", 3)]) (by decide +kernel)) (by decide) (fun _ _ _ _ _ => pg_name (i := 2) sc_common.nd rfl (by first | exact .inl rfl | exact .inr rfl)) (sg_name (P := []) (i := 2) (by decide)) (fun _ _ _ _ _ => sq_nil) (fun _ _ _ _ _ => si_seq (se_var 1 (pv 1))) (fun _ _ _ _ _ => pg_name (i := 3) sc_common.nd rfl (by first | exact .inl rfl | exact .inr rfl)) (sg_name (P := []) (i := 3) (by decide)) (fun _ _ _ _ _ => sq_nil) (fun _ _ _ _ _ => se_tup (sa_cons (se_call Z.ok_lesser LamX.takes0 (rmono hr (by decide)) (by rfl) (sa_cons (se_ixX (u64 hr) (se_var 2 (pv 2)) (se_int)) (sa_cons (se_ixX (u64 hr) (se_var 3 (pv 3)) (se_int)) (sa_nil))) (fun _ _ _ _ _ _ us hl => match us, hl with | [_, _], _ => rfl) (len_cons (len_cons len_nil))) (sa_cons (se_call Z.ok_lesser LamX.takes0 (rmono hr (by decide)) (by rfl) (sa_cons (se_ixX (u64 hr) (se_var 2 (pv 2)) (se_int)) (sa_cons (se_ixX (u64 hr) (se_var 3 (pv 3)) (se_int)) (sa_nil))) (fun _ _ _ _ _ _ us hl => match us, hl with | [_, _], _ => rfl) (len_cons (len_cons len_nil))) (sa_nil))) (len_cons (len_cons len_nil)))) (sa_nil)) (fun _ _ _ _ _ _ us hl => match us, hl with | [_], _ => rfl) (len_cons len_nil)))⟩
theorem Z.ok_shifted_corner (Z : Z C base) : FV C C.P C.w base 1 "shifted_corner" s_shifted_corner ["corner", "by"] den_shifted_corner := by
  obtain ⟨fd, F⟩ := Z.fd_shifted_corner
  refine fv_of (k := 0) (N := ["corner", "by", "first", "second"]) (pin := [0, 1]) (m := m_shifted_corner) F sc_shifted_corner Z.glo_shifted_corner (by decide) ?_
  intro cdv A outer s H E hr
  exact ⟨_, ss_cons (s_set sc_shifted_corner.nd rfl (by first | exact .inl rfl | exact .inr rfl) (se_ifE (tcmp o_is (se_ixX (u64 hr) (se_var 0 (pv 0)) (se_int)) (se_non)) (se_non) (b_sub (se_ixX (u64 hr) (se_var 0 (pv 0)) (se_int)) (se_ixX (u64 hr) (se_var 1 (pv 1)) (se_int))))) (ss_cons (s_set sc_shifted_corner.nd rfl (by first | exact .inl rfl | exact .inr rfl) (se_ifE (tcmp o_is (se_ixX (u64 hr) (se_var 0 (pv 0)) (se_int)) (se_non)) (se_non) (b_sub (se_ixX (u64 hr) (se_var 0 (pv 0)) (se_int)) (se_ixX (u64 hr) (se_var 1 (pv 1)) (se_int))))) (ss_cons (s_if ((sw_or ((sw_and (tcmp o_isn (se_var 2 (pv 2)) (se_non)) (sw_and1 (tcmp o_lt (se_var 2 (pv 2)) (se_int)))).t) (sw_or1 ((sw_and (tcmp o_isn (se_var 3 (pv 3)) (se_non)) (sw_and1 (tcmp o_lt (se_var 3 (pv 3)) (se_int)))).t))).t) (ss_one (s_ret (se_non))) (ss_nil)) (ss_one (s_ret (se_tup (sa_cons (se_var 2 (pv 2)) (sa_cons (se_var 3 (pv 3)) (sa_nil))) (len_cons (len_cons len_nil)))))))⟩
theorem Z.ok_moved (Z : Z C base) : FV C C.P C.w base 5 "moved" s_moved ["stairs", "least", "by"] den_moved := by
  obtain ⟨fd, F⟩ := Z.fd_moved
  refine fv_of (k := 4) (N := ["stairs", "least", "by", "item", "kept", "corner", "later"]) (pin := [0, 1, 2]) (m := m_moved) F sc_moved Z.glo_moved (by decide) ?_
  intro cdv A outer s H E hr
  exact ⟨_, ss_cons (s_expr (se_call Z.ok_need_stairs (takes_of rfl rfl rfl rfl) (rmono hr (by decide)) (by rfl) (sa_cons (se_var 0 (pv 0)) (sa_nil)) (fun _ _ _ _ _ _ us hl => match us, hl with | [_], _ => rfl) (len_cons len_nil))) (ss_cons (s_if (st_not (st_val (se_call Z.ok_is_body (takes_of rfl rfl rfl rfl) (rmono hr (by decide)) (by rfl) (sa_cons (se_var 1 (pv 1)) (sa_nil)) (fun _ _ _ _ _ _ us hl => match us, hl with | [_], _ => rfl) (len_cons len_nil)))) (ss_one (s_raise (by rfl) (takes_of rfl rfl rfl rfl) (by rfl) Z.eo_BadLeast Z.rs_BadLeast)) (ss_nil)) (ss_cons (s_if ((sw_or (st_not (st_val (se_isi (u := .ty "tuple") Z.ko (by rfl) Z.free_isinstance (.ty (by decide)) (pe_bltn (by rfl) Z.free_tuple (by decide +kernel) rfl) (se_var 2 (pv 2))))) (sw_or1 (tcmp (o_ne (u65 hr)) (fnb f_len Z.free_len (sa_cons (se_var 2 (pv 2)) (sa_nil))) (se_int)))).t) (ss_one (s_raise (by rfl) (takes_of rfl rfl rfl rfl) (by rfl) Z.eo_BadBy Z.rs_BadBy)) (ss_nil)) (ss_cons (s_for rfl (passes_of rfl) (si_seq (se_var 2 (pv 2))) (pg_name (i := 3) sc_moved.nd rfl (by first | exact .inl rfl | exact .inr rfl)) (sg_name (P := [0, 1, 2]) (i := 3) (by decide)) (ss_one (s_if ((sw_or (st_not (st_val (se_isi (u := .ty "int") Z.ko (by rfl) Z.free_isinstance (.ty (by decide)) (pe_bltn (by rfl) Z.free_int (by decide +kernel) rfl) (se_var 3 (pv 3))))) (sw_or1 (st_val (se_isi (u := .ty "bool") Z.ko (by rfl) Z.free_isinstance (.ty (by decide)) (pe_bltn (by rfl) Z.free_bool (by decide +kernel) rfl) (se_var 3 (pv 3)))))).t) (ss_one (s_raise (by rfl) (takes_of rfl rfl rfl rfl) (by rfl) Z.eo_BadBy Z.rs_BadBy)) (ss_nil)))) (ss_cons (s_set sc_moved.nd rfl (by first | exact .inl rfl | exact .inr rfl) (se_lst (sa_nil) len_nil)) (ss_cons (s_for rfl (passes_of rfl) (si_seq (se_var 0 (pv 0))) (pg_name (i := 5) sc_moved.nd rfl (by first | exact .inl rfl | exact .inr rfl)) (sg_name (P := [0, 1, 2]) (i := 5) (by decide)) (ss_one (s_if (st_val (se_call Z.ok_lies_in (takes_of rfl rfl rfl rfl) (rmono hr (by decide)) (by rfl) (sa_cons (se_var 1 (pv 1)) (sa_cons (se_var 5 (pv 5)) (sa_nil))) (fun _ _ _ _ _ _ us hl => match us, hl with | [_, _], _ => rfl) (len_cons (len_cons len_nil)))) (ss_cons (s_set sc_moved.nd rfl (by first | exact .inl rfl | exact .inr rfl) (se_call Z.ok_shifted_corner (takes_of rfl rfl rfl rfl) (rmono hr (by decide)) (by rfl) (sa_cons (se_var 5 (pv 5)) (sa_cons (se_var 2 (pv 2)) (sa_nil))) (fun _ _ _ _ _ _ us hl => match us, hl with | [_, _], _ => rfl) (len_cons (len_cons len_nil)))) (ss_one (s_if (tcmp o_isn (se_var 6 (pv 6)) (se_non)) (ss_one (s_expr (se_meth PySem.F.slot_list_append PySem.F.type_list_append mt_append rule_append (pv 4) (sa_cons (se_var 6 (pv 6)) (sa_nil))))) (ss_nil)))) (ss_nil)))) (ss_one (s_ret (fnt f_tuple Z.free_tuple (sa_cons (se_var 4 (pv 4)) (sa_nil))))))))))⟩
theorem Z.ok_is_number (Z : Z C base) : FV C C.P C.w base 1 "is_number" s_is_number ["thing"] den_is_number := by
  obtain ⟨fd, F⟩ := Z.fd_is_number
  refine fv_of (k := 0) (N := ["thing"]) (pin := [0]) (m := m_is_number) F sc_is_number Z.glo_is_number (by decide) ?_
  intro cdv A outer s H E hr
  exact ⟨_, ss_one (s_ret (se_and (se_isi (u := .ty "int") Z.ko (by rfl) Z.free_isinstance (.ty (by decide)) (pe_bltn (by rfl) Z.free_int (by decide +kernel) rfl) (se_var 0 (pv 0))) (se_one (se_not (se_isi (u := .ty "bool") Z.ko (by rfl) Z.free_isinstance (.ty (by decide)) (pe_bltn (by rfl) Z.free_bool (by decide +kernel) rfl) (se_var 0 (pv 0)))))))⟩
theorem Z.ok_is_pair (Z : Z C base) : FV C C.P C.w base 2 "is_pair" s_is_pair ["thing"] den_is_pair := by
  obtain ⟨fd, F⟩ := Z.fd_is_pair
  refine fv_of (k := 1) (N := ["thing"]) (pin := [0]) (m := m_is_pair) F sc_is_pair Z.glo_is_pair (by decide) ?_
  intro cdv A outer s H E hr
  exact ⟨_, ss_one (s_ret (se_and (se_isi (u := .ty "tuple") Z.ko (by rfl) Z.free_isinstance (.ty (by decide)) (pe_bltn (by rfl) Z.free_tuple (by decide +kernel) rfl) (se_var 0 (pv 0))) (se_and (cmp (o_eq (u65 hr)) (fnb f_len Z.free_len (sa_cons (se_var 0 (pv 0)) (sa_nil))) (se_int)) (se_and (se_call Z.ok_is_number (takes_of rfl rfl rfl rfl) (rmono hr (by decide)) (by rfl) (sa_cons (se_ixX (u64 hr) (se_var 0 (pv 0)) (se_int)) (sa_nil)) (fun _ _ _ _ _ _ us hl => match us, hl with | [_], _ => rfl) (len_cons len_nil)) (se_one (se_call Z.ok_is_number (takes_of rfl rfl rfl rfl) (rmono hr (by decide)) (by rfl) (sa_cons (se_ixX (u64 hr) (se_var 0 (pv 0)) (se_int)) (sa_nil)) (fun _ _ _ _ _ _ us hl => match us, hl with | [_], _ => rfl) (len_cons len_nil)))))))⟩
theorem Z.ok_is_site (Z : Z C base) : FV C C.P C.w base 3 "is_site" s_is_site ["thing"] den_is_site := by
  obtain ⟨fd, F⟩ := Z.fd_is_site
  refine fv_of (k := 2) (N := ["thing"]) (pin := [0]) (m := m_is_site) F sc_is_site Z.glo_is_site (by decide) ?_
  intro cdv A outer s H E hr
  exact ⟨_, ss_one (s_ret (se_and (se_isi (u := .ty "tuple") Z.ko (by rfl) Z.free_isinstance (.ty (by decide)) (pe_bltn (by rfl) Z.free_tuple (by decide +kernel) rfl) (se_var 0 (pv 0))) (se_and (cmp (o_eq (u65 hr)) (fnb f_len Z.free_len (sa_cons (se_var 0 (pv 0)) (sa_nil))) (se_int)) (se_and (se_call Z.ok_is_number (takes_of rfl rfl rfl rfl) (rmono hr (by decide)) (by rfl) (sa_cons (se_ixX (u64 hr) (se_var 0 (pv 0)) (se_int)) (sa_nil)) (fun _ _ _ _ _ _ us hl => match us, hl with | [_], _ => rfl) (len_cons len_nil)) (se_and (cmp o_ge (se_ixX (u64 hr) (se_var 0 (pv 0)) (se_int)) (se_int)) (se_one (se_call Z.ok_is_pair (takes_of rfl rfl rfl rfl) (rmono hr (by decide)) (by rfl) (sa_cons (se_ixX (u64 hr) (se_var 0 (pv 0)) (se_int)) (sa_nil)) (fun _ _ _ _ _ _ us hl => match us, hl with | [_], _ => rfl) (len_cons len_nil))))))))⟩
theorem Z.ok__plain (Z : Z C base) : FV C C.P C.w base 1 "_plain" s__plain ["most", "least", "by"] den__plain := by
  obtain ⟨fd, F⟩ := Z.fd__plain
  refine fv_of (k := 0) (N := ["most", "least", "by"]) (pin := [0, 1, 2]) (m := m__plain) F sc__plain Z.glo__plain (by decide) ?_
  intro cdv A outer s H E hr
  exact ⟨_, ss_cons (s_if (tcmp o_is (se_var 0 (pv 0)) (se_non)) (ss_one (s_ret (se_tup (sa_cons (fnb f_max Z.free_max (sa_cons (se_var 1 (pv 1)) (sa_cons (b_add (se_int) (se_var 2 (pv 2))) (sa_nil)))) (sa_cons (se_var 2 (pv 2)) (sa_nil))) (len_cons (len_cons len_nil))))) (ss_nil)) (ss_one (s_ret (se_tup (sa_cons (fnb f_max Z.free_max (sa_cons (se_var 1 (pv 1)) (sa_cons (b_add (se_int) (se_var 2 (pv 2))) (sa_nil)))) (sa_cons (b_sub (fnb f_max Z.free_max (sa_cons (se_var 1 (pv 1)) (sa_cons (b_add (se_var 0 (pv 0)) (se_var 2 (pv 2))) (sa_nil)))) (se_var 0 (pv 0))) (sa_nil))) (len_cons (len_cons len_nil)))))⟩
theorem Z.ok_need_form (Z : Z C base) : FV C C.P C.w base 1 "need_form" s_need_form ["form"] den_need_form := by
  obtain ⟨fd, F⟩ := Z.fd_need_form
  refine fv_of (k := 0) (N := ["form"]) (pin := [0]) (m := m_need_form) F sc_need_form Z.glo_need_form (by decide) ?_
  intro cdv A outer s H E hr
  exact ⟨_, ss_one (s_if (st_not (st_val (se_isi (u := .own "Form") Z.ko (by rfl) Z.free_isinstance (.own Z.glo_Form) (pe_glob (by rfl) Z.glo_Form rfl) (se_var 0 (pv 0))))) (ss_one (s_raise (by rfl) (takes_of rfl rfl rfl rfl) (by rfl) Z.eo_BadForm Z.rs_BadForm)) (ss_nil))⟩
theorem Z.ok_need_form_body (Z : Z C base) : FV C C.P C.w base 3 "need_form_body" s_need_form_body ["form", "body"] den_need_form_body := by
  obtain ⟨fd, F⟩ := Z.fd_need_form_body
  refine fv_of (k := 2) (N := ["form", "body"]) (pin := [0, 1]) (m := m_need_form_body) F sc_need_form_body Z.glo_need_form_body (by decide) ?_
  intro cdv A outer s H E hr
  exact ⟨_, ss_cons (s_expr (se_call Z.ok_need_form (takes_of rfl rfl rfl rfl) (rmono hr (by decide)) (by rfl) (sa_cons (se_var 0 (pv 0)) (sa_nil)) (fun _ _ _ _ _ _ us hl => match us, hl with | [_], _ => rfl) (len_cons len_nil))) (ss_one (s_if (st_not (st_val (se_call Z.ok_is_body (takes_of rfl rfl rfl rfl) (rmono hr (by decide)) (by rfl) (sa_cons (se_var 1 (pv 1)) (sa_nil)) (fun _ _ _ _ _ _ us hl => match us, hl with | [_], _ => rfl) (len_cons len_nil)))) (ss_one (s_raise (by rfl) (takes_of rfl rfl rfl rfl) (by rfl) Z.eo_BadBody Z.rs_BadBody)) (ss_nil)))⟩
theorem Z.ok_grown (Z : Z C base) : FV C C.P C.w base 1 "grown" s_grown ["form", "body"] den_grown := by
  obtain ⟨fd, F⟩ := Z.fd_grown
  refine fv_of (k := 0) (N := ["form", "body"]) (pin := [0, 1]) (m := m_grown) F sc_grown Z.glo_grown (by decide) ?_
  intro cdv A outer s H E hr
  exact ⟨_, ss_one (s_ret (se_tup (sa_cons (fnb f_max Z.free_max (sa_cons (se_ixX (u64 hr) (se_fld Z.cf (se_var 0 (pv 0))) (se_int)) (sa_cons (b_add (se_ixX (u64 hr) (se_var 1 (pv 1)) (se_int)) (se_ixX (u64 hr) (se_fld Z.cf (se_var 0 (pv 0))) (se_int))) (sa_nil)))) (sa_cons (fnb f_max Z.free_max (sa_cons (se_ixX (u64 hr) (se_fld Z.cf (se_var 0 (pv 0))) (se_int)) (sa_cons (b_add (se_ixX (u64 hr) (se_var 1 (pv 1)) (se_int)) (se_ixX (u64 hr) (se_fld Z.cf (se_var 0 (pv 0))) (se_int))) (sa_nil)))) (sa_nil))) (len_cons (len_cons len_nil))))⟩
theorem Z.ok_Form___init__ (Z : Z C base) : FM C C.P C.w base 4 (He.ma C.K (He.ga C.K "Form") "__init__") "Form.__init__" "__init__" s_Form___init__ ["self", "start", "end", "stairs", "least", "by"] den_Form___init__ := by
  obtain ⟨fd, F⟩ := Z.fd_Form___init__
  refine ⟨fm_of (k := 3) (N := ["self", "start", "end", "stairs", "least", "by", "wide", "high"]) (pin := [0, 1, 2, 3, 4, 5]) (m := m_Form___init__) F sc_Form___init__ (by decide) ?_⟩
  intro cdv A outer s H E hr
  exact ⟨_, ss_cons (s_if (st_not (st_val (se_call Z.ok_is_site (takes_of rfl rfl rfl rfl) (rmono hr (by decide)) (by rfl) (sa_cons (se_var 1 (pv 1)) (sa_nil)) (fun _ _ _ _ _ _ us hl => match us, hl with | [_], _ => rfl) (len_cons len_nil)))) (ss_one (s_raise (by rfl) (takes_of rfl rfl rfl rfl) (by rfl) Z.eo_BadStart Z.rs_BadStart)) (ss_nil)) (ss_cons (s_if (st_not (st_val (se_call Z.ok_is_site (takes_of rfl rfl rfl rfl) (rmono hr (by decide)) (by rfl) (sa_cons (se_var 2 (pv 2)) (sa_nil)) (fun _ _ _ _ _ _ us hl => match us, hl with | [_], _ => rfl) (len_cons len_nil)))) (ss_one (s_raise (by rfl) (takes_of rfl rfl rfl rfl) (by rfl) Z.eo_BadEnd Z.rs_BadEnd)) (ss_nil)) (ss_cons (s_if (st_not (st_val (se_call Z.ok_is_stairs (takes_of rfl rfl rfl rfl) (rmono hr (by decide)) (by rfl) (sa_cons (se_var 3 (pv 3)) (sa_nil)) (fun _ _ _ _ _ _ us hl => match us, hl with | [_], _ => rfl) (len_cons len_nil)))) (ss_one (s_raise (by rfl) (takes_of rfl rfl rfl rfl) (by rfl) Z.eo_BadStairs Z.rs_BadStairs)) (ss_nil)) (ss_cons (s_if (st_not (st_val (se_call Z.ok_is_body (takes_of rfl rfl rfl rfl) (rmono hr (by decide)) (by rfl) (sa_cons (se_var 4 (pv 4)) (sa_nil)) (fun _ _ _ _ _ _ us hl => match us, hl with | [_], _ => rfl) (len_cons len_nil)))) (ss_one (s_raise (by rfl) (takes_of rfl rfl rfl rfl) (by rfl) Z.eo_BadLeast Z.rs_BadLeast)) (ss_nil)) (ss_cons (s_if (st_not (st_val (se_call Z.ok_is_pair (takes_of rfl rfl rfl rfl) (rmono hr (by decide)) (by rfl) (sa_cons (se_var 5 (pv 5)) (sa_nil)) (fun _ _ _ _ _ _ us hl => match us, hl with | [_], _ => rfl) (len_cons len_nil)))) (ss_one (s_raise (by rfl) (takes_of rfl rfl rfl rfl) (by rfl) Z.eo_BadBy Z.rs_BadBy)) (ss_nil)) (ss_cons (s_fput Z.cf (pv 0) (se_var 1 (pv 1))) (ss_cons (s_fput Z.cf (pv 0) (se_var 2 (pv 2))) (ss_cons (s_fput Z.cf (pv 0) (se_var 3 (pv 3))) (ss_cons (s_fput Z.cf (pv 0) (se_tup (sa_cons (se_int) (sa_cons (se_int) (sa_nil))) (len_cons (len_cons len_nil)))) (ss_cons (s_fput Z.cf (pv 0) (se_tup (sa_cons (se_int) (sa_cons (se_int) (sa_nil))) (len_cons (len_cons len_nil)))) (ss_one (s_if (tcmp (o_ne (u65 hr)) (se_var 3 (pv 3)) (se_tup (sa_nil) len_nil)) (ss_cons (s_set sc_Form___init__.nd rfl (by first | exact .inl rfl | exact .inr rfl) (se_call Z.ok__plain (takes_of rfl rfl rfl rfl) (rmono hr (by decide)) (by rfl) (sa_cons (se_ixX (u64 hr) (se_ixX (u64 hr) (se_var 3 (pv 3)) (se_neg (se_int))) (se_int)) (sa_cons (se_ixX (u64 hr) (se_var 4 (pv 4)) (se_int)) (sa_cons (se_ixX (u64 hr) (se_var 5 (pv 5)) (se_int)) (sa_nil)))) (fun _ _ _ _ _ _ us hl => match us, hl with | [_, _, _], _ => rfl) (len_cons (len_cons (len_cons len_nil))))) (ss_cons (s_set sc_Form___init__.nd rfl (by first | exact .inl rfl | exact .inr rfl) (se_call Z.ok__plain (takes_of rfl rfl rfl rfl) (rmono hr (by decide)) (by rfl) (sa_cons (se_ixX (u64 hr) (se_ixX (u64 hr) (se_var 3 (pv 3)) (se_int)) (se_int)) (sa_cons (se_ixX (u64 hr) (se_var 4 (pv 4)) (se_int)) (sa_cons (se_ixX (u64 hr) (se_var 5 (pv 5)) (se_int)) (sa_nil)))) (fun _ _ _ _ _ _ us hl => match us, hl with | [_, _, _], _ => rfl) (len_cons (len_cons (len_cons len_nil))))) (ss_cons (s_fput Z.cf (pv 0) (se_tup (sa_cons (se_ixX (u64 hr) (se_var 6 (pv 6)) (se_int)) (sa_cons (se_ixX (u64 hr) (se_var 7 (pv 7)) (se_int)) (sa_nil))) (len_cons (len_cons len_nil)))) (ss_one (s_fput Z.cf (pv 0) (se_tup (sa_cons (se_ixX (u64 hr) (se_var 6 (pv 6)) (se_int)) (sa_cons (se_ixX (u64 hr) (se_var 7 (pv 7)) (se_int)) (sa_nil))) (len_cons (len_cons len_nil)))))))) (ss_nil))))))))))))⟩
theorem Z.ok_then (Z : Z C base) : FV C C.P C.w base 6 "then" s_then ["one", "other"] den_then := by
  obtain ⟨fd, F⟩ := Z.fd_then
  refine fv_of (k := 5) (N := ["one", "other", "stairs", "wide", "high", "by"]) (pin := [0, 1]) (m := m_then) F sc_then Z.glo_then (by decide) ?_
  intro cdv A outer s H E hr
  exact ⟨_, ss_cons (s_expr (se_call Z.ok_need_form (takes_of rfl rfl rfl rfl) (rmono hr (by decide)) (by rfl) (sa_cons (se_var 0 (pv 0)) (sa_nil)) (fun _ _ _ _ _ _ us hl => match us, hl with | [_], _ => rfl) (len_cons len_nil))) (ss_cons (s_expr (se_call Z.ok_need_form (takes_of rfl rfl rfl rfl) (rmono hr (by decide)) (by rfl) (sa_cons (se_var 1 (pv 1)) (sa_nil)) (fun _ _ _ _ _ _ us hl => match us, hl with | [_], _ => rfl) (len_cons len_nil))) (ss_cons (s_if (tcmp (o_ne (u65 hr)) (se_fld Z.cf (se_var 0 (pv 0))) (se_fld Z.cf (se_var 1 (pv 1)))) (ss_one (s_raise (by rfl) (takes_of rfl rfl rfl rfl) (by rfl) Z.eo_NotJoined Z.rs_NotJoined)) (ss_nil)) (ss_cons (s_set sc_then.nd rfl (by first | exact .inl rfl | exact .inr rfl) (se_call Z.ok_common (takes_of rfl rfl rfl rfl) (rmono hr (by decide)) (by rfl) (sa_cons (se_fld Z.cf (se_var 0 (pv 0))) (sa_cons (se_call Z.ok_moved (takes_of rfl rfl rfl rfl) (rmono hr (by decide)) (by rfl) (sa_cons (se_fld Z.cf (se_var 1 (pv 1))) (sa_cons (se_fld Z.cf (se_var 0 (pv 0))) (sa_cons (se_fld Z.cf (se_var 0 (pv 0))) (sa_nil)))) (fun _ _ _ _ _ _ us hl => match us, hl with | [_, _, _], _ => rfl) (len_cons (len_cons (len_cons len_nil)))) (sa_nil))) (fun _ _ _ _ _ _ us hl => match us, hl with | [_, _], _ => rfl) (len_cons (len_cons len_nil)))) (ss_cons (s_set sc_then.nd rfl (by first | exact .inl rfl | exact .inr rfl) (fnb f_max Z.free_max (sa_cons (se_ixX (u64 hr) (se_fld Z.cf (se_var 1 (pv 1))) (se_int)) (sa_cons (b_add (se_ixX (u64 hr) (se_fld Z.cf (se_var 0 (pv 0))) (se_int)) (se_ixX (u64 hr) (se_fld Z.cf (se_var 1 (pv 1))) (se_int))) (sa_nil))))) (ss_cons (s_set sc_then.nd rfl (by first | exact .inl rfl | exact .inr rfl) (fnb f_max Z.free_max (sa_cons (se_ixX (u64 hr) (se_fld Z.cf (se_var 1 (pv 1))) (se_int)) (sa_cons (b_add (se_ixX (u64 hr) (se_fld Z.cf (se_var 0 (pv 0))) (se_int)) (se_ixX (u64 hr) (se_fld Z.cf (se_var 1 (pv 1))) (se_int))) (sa_nil))))) (ss_cons (s_set sc_then.nd rfl (by first | exact .inl rfl | exact .inr rfl) (se_tup (sa_cons (b_add (se_ixX (u64 hr) (se_fld Z.cf (se_var 0 (pv 0))) (se_int)) (se_ixX (u64 hr) (se_fld Z.cf (se_var 1 (pv 1))) (se_int))) (sa_cons (b_add (se_ixX (u64 hr) (se_fld Z.cf (se_var 0 (pv 0))) (se_int)) (se_ixX (u64 hr) (se_fld Z.cf (se_var 1 (pv 1))) (se_int))) (sa_nil))) (len_cons (len_cons len_nil)))) (ss_one (s_ret (se_make Z.cm_Form Z.ok_Form___init__ (takes_of rfl rfl rfl rfl) free_of (rmono hr (by decide)) (by rfl) (sa_cons (se_fld Z.cf (se_var 0 (pv 0))) (sa_cons (se_fld Z.cf (se_var 1 (pv 1))) (sa_cons (se_var 2 (pv 2)) (sa_cons (se_tup (sa_cons (se_var 3 (pv 3)) (sa_cons (se_var 4 (pv 4)) (sa_nil))) (len_cons (len_cons len_nil))) (sa_cons (se_var 5 (pv 5)) (sa_nil)))))) (fun _ _ _ _ _ _ us hl => match us, hl with | [_, _, _, _, _, _], _ => rfl) (len_cons (len_cons (len_cons (len_cons (len_cons len_nil))))))))))))))⟩
theorem Z.ok_end_size (Z : Z C base) : FV C C.P C.w base 7 "end_size" s_end_size ["form", "body"] den_end_size := by
  obtain ⟨fd, F⟩ := Z.fd_end_size
  refine fv_of (k := 6) (N := ["form", "body"]) (pin := [0, 1]) (m := m_end_size) F sc_end_size Z.glo_end_size (by decide) ?_
  intro cdv A outer s H E hr
  exact ⟨_, ss_cons (s_expr (se_call Z.ok_need_form_body (takes_of rfl rfl rfl rfl) (rmono hr (by decide)) (by rfl) (sa_cons (se_var 0 (pv 0)) (sa_cons (se_var 1 (pv 1)) (sa_nil))) (fun _ _ _ _ _ _ us hl => match us, hl with | [_, _], _ => rfl) (len_cons (len_cons len_nil)))) (ss_one (s_ret (se_ifE (st_val (se_call Z.ok_has (takes_of rfl rfl rfl rfl) (rmono hr (by decide)) (by rfl) (sa_cons (se_fld Z.cf (se_var 0 (pv 0))) (sa_cons (se_var 1 (pv 1)) (sa_nil))) (fun _ _ _ _ _ _ us hl => match us, hl with | [_, _], _ => rfl) (len_cons (len_cons len_nil)))) (se_call Z.ok_grown (takes_of rfl rfl rfl rfl) (rmono hr (by decide)) (by rfl) (sa_cons (se_var 0 (pv 0)) (sa_cons (se_var 1 (pv 1)) (sa_nil))) (fun _ _ _ _ _ _ us hl => match us, hl with | [_, _], _ => rfl) (len_cons (len_cons len_nil))) (se_non))))⟩
theorem Z.ok_need_stay (Z : Z C base) : FV C C.P C.w base 4 "need_stay" s_need_stay ["place", "stairs"] den_need_stay := by
  obtain ⟨fd, F⟩ := Z.fd_need_stay
  refine fv_of (k := 3) (N := ["place", "stairs"]) (pin := [0, 1]) (m := m_need_stay) F sc_need_stay Z.glo_need_stay (by decide) ?_
  intro cdv A outer s H E hr
  exact ⟨_, ss_cons (s_if (st_not (st_val (se_call Z.ok_is_site (takes_of rfl rfl rfl rfl) (rmono hr (by decide)) (by rfl) (sa_cons (se_var 0 (pv 0)) (sa_nil)) (fun _ _ _ _ _ _ us hl => match us, hl with | [_], _ => rfl) (len_cons len_nil)))) (ss_one (s_raise (by rfl) (takes_of rfl rfl rfl rfl) (by rfl) Z.eo_BadPlace Z.rs_BadPlace)) (ss_nil)) (ss_one (s_if (st_not (st_val (se_call Z.ok_is_stairs (takes_of rfl rfl rfl rfl) (rmono hr (by decide)) (by rfl) (sa_cons (se_var 1 (pv 1)) (sa_nil)) (fun _ _ _ _ _ _ us hl => match us, hl with | [_], _ => rfl) (len_cons len_nil)))) (ss_one (s_raise (by rfl) (takes_of rfl rfl rfl rfl) (by rfl) Z.eo_BadStairs Z.rs_BadStairs)) (ss_nil)))⟩
theorem Z.ok_still (Z : Z C base) : FV C C.P C.w base 6 "still" s_still ["place", "stairs"] den_still := by
  obtain ⟨fd, F⟩ := Z.fd_still
  refine fv_of (k := 5) (N := ["place", "stairs"]) (pin := [0, 1]) (m := m_still) F sc_still Z.glo_still (by decide) ?_
  intro cdv A outer s H E hr
  exact ⟨_, ss_cons (s_expr (se_call Z.ok_need_stay (takes_of rfl rfl rfl rfl) (rmono hr (by decide)) (by rfl) (sa_cons (se_var 0 (pv 0)) (sa_cons (se_var 1 (pv 1)) (sa_nil))) (fun _ _ _ _ _ _ us hl => match us, hl with | [_, _], _ => rfl) (len_cons (len_cons len_nil)))) (ss_one (s_ret (se_make Z.cm_Form Z.ok_Form___init__ (takes_of rfl rfl rfl rfl) free_of (rmono hr (by decide)) (by rfl) (sa_cons (se_var 0 (pv 0)) (sa_cons (se_var 0 (pv 0)) (sa_cons (se_var 1 (pv 1)) (sa_cons (se_tup (sa_cons (se_int) (sa_cons (se_int) (sa_nil))) (len_cons (len_cons len_nil))) (sa_cons (se_tup (sa_cons (se_int) (sa_cons (se_int) (sa_nil))) (len_cons (len_cons len_nil))) (sa_nil)))))) (fun _ _ _ _ _ _ us hl => match us, hl with | [_, _, _, _, _, _], _ => rfl) (len_cons (len_cons (len_cons (len_cons (len_cons len_nil))))))))⟩
theorem Z.ok_load_form (Z : Z C base) : FV C C.P C.w base 6 "load_form" s_load_form ["place", "stairs", "by"] den_load_form := by
  obtain ⟨fd, F⟩ := Z.fd_load_form
  refine fv_of (k := 5) (N := ["place", "stairs", "by"]) (pin := [0, 1, 2]) (m := m_load_form) F sc_load_form Z.glo_load_form (by decide) ?_
  intro cdv A outer s H E hr
  exact ⟨_, ss_cons (s_expr (se_call Z.ok_need_stay (takes_of rfl rfl rfl rfl) (rmono hr (by decide)) (by rfl) (sa_cons (se_var 0 (pv 0)) (sa_cons (se_var 1 (pv 1)) (sa_nil))) (fun _ _ _ _ _ _ us hl => match us, hl with | [_, _], _ => rfl) (len_cons (len_cons len_nil)))) (ss_cons (s_if (st_not (st_val (se_call Z.ok_is_pair (takes_of rfl rfl rfl rfl) (rmono hr (by decide)) (by rfl) (sa_cons (se_var 2 (pv 2)) (sa_nil)) (fun _ _ _ _ _ _ us hl => match us, hl with | [_], _ => rfl) (len_cons len_nil)))) (ss_one (s_raise (by rfl) (takes_of rfl rfl rfl rfl) (by rfl) Z.eo_BadBy Z.rs_BadBy)) (ss_nil)) (ss_one (s_ret (se_make Z.cm_Form Z.ok_Form___init__ (takes_of rfl rfl rfl rfl) free_of (rmono hr (by decide)) (by rfl) (sa_cons (se_var 0 (pv 0)) (sa_cons (se_var 0 (pv 0)) (sa_cons (se_call Z.ok_common (takes_of rfl rfl rfl rfl) (rmono hr (by decide)) (by rfl) (sa_cons (se_var 1 (pv 1)) (sa_cons (se_call Z.ok_moved (takes_of rfl rfl rfl rfl) (rmono hr (by decide)) (by rfl) (sa_cons (se_var 1 (pv 1)) (sa_cons (se_tup (sa_cons (se_int) (sa_cons (se_int) (sa_nil))) (len_cons (len_cons len_nil))) (sa_cons (se_var 2 (pv 2)) (sa_nil)))) (fun _ _ _ _ _ _ us hl => match us, hl with | [_, _, _], _ => rfl) (len_cons (len_cons (len_cons len_nil)))) (sa_nil))) (fun _ _ _ _ _ _ us hl => match us, hl with | [_, _], _ => rfl) (len_cons (len_cons len_nil))) (sa_cons (se_tup (sa_cons (se_int) (sa_cons (se_int) (sa_nil))) (len_cons (len_cons len_nil))) (sa_cons (se_var 2 (pv 2)) (sa_nil)))))) (fun _ _ _ _ _ _ us hl => match us, hl with | [_, _, _, _, _, _], _ => rfl) (len_cons (len_cons (len_cons (len_cons (len_cons len_nil)))))))))⟩
theorem Z.ok__law_begun (Z : Z C base) : FV C C.P C.w base 1 "_law_begun" s__law_begun ["_law_script"] den__law_begun := by
  obtain ⟨fd, F⟩ := Z.fd__law_begun
  refine fv_of (k := 0) (N := ["_law_script", "_law_great", "_law_cell"]) (pin := [0]) (m := m__law_begun) F sc__law_begun Z.glo__law_begun (by decide) ?_
  intro cdv A outer s H E hr
  exact ⟨_, ss_cons (s_setLc (own := [("_law_cell", 2)]) rfl sc__law_begun.nd rfl (si_sc (pv 0)) (by exact blkOk_by (N := ["_law_script", "_law_great", "_law_cell"]) (sc := defScope s__law_begun) (own := [("_law_cell", 2)]) (by decide +kernel)) (fun _ _ _ _ _ => pg_name (i := 2) sc__law_begun.nd rfl (by first | exact .inl rfl | exact .inr rfl)) (sg_name (P := []) (i := 2) (by decide)) (fun _ _ _ _ _ => sq_one (tcmp o_ge (fnb f_abs Z.free_abs (sa_cons (se_var 2 (pv 2)) (sa_nil))) (b_pow (se_int) (se_int)))) (fun _ _ _ _ _ => b_sub (fnb f_abs Z.free_abs (sa_cons (se_var 2 (pv 2)) (sa_nil))) (b_pow (se_int) (se_int))) (sw_true rfl rfl rfl (by decide +kernel))) (ss_one (s_ret (se_drNew (pv 1) (se_lc (own := [("_law_cell", 2)]) rfl sc__law_begun.nd (si_sc (pv 0)) (by exact blkOk_by (N := ["_law_script", "_law_great", "_law_cell"]) (sc := defScope s__law_begun) (own := [("_law_cell", 2)]) (by decide +kernel)) (fun _ _ _ _ _ => pg_name (i := 2) sc__law_begun.nd rfl (by first | exact .inl rfl | exact .inr rfl)) (sg_name (P := []) (i := 2) (by decide)) (fun _ _ _ _ _ => sq_nil) (fun _ _ _ _ _ => b_mod (fnt f_int Z.free_int (sa_cons (fnb f_abs Z.free_abs (sa_cons (se_var 2 (pv 2)) (sa_nil))) (sa_nil))) (se_int))))))⟩
theorem Z.ok__law_mixed (Z : Z C base) : FV C C.P C.w base 1 "_law_mixed" s__law_mixed ["_law_draw"] den__law_mixed := by
  obtain ⟨fd, F⟩ := Z.fd__law_mixed
  refine fv_of (k := 0) (N := ["_law_draw", "_law_turn", "_law_found", "_law_prime", "_law_blend", "_law_cell"]) (pin := [0]) (m := m__law_mixed) F sc__law_mixed Z.glo__law_mixed (by decide) ?_
  intro cdv A outer s H E hr
  exact ⟨_, ss_cons (s_par rfl sc__law_mixed.nd rfl rfl (b_add (se_dr .turn (u64 hr) (pv 0)) (se_int)) (se_int) (by rfl)) (ss_cons (s_drput .turn (u64 hr) (pv 0) (se_var 1 (pv 1))) (ss_cons (s_for rfl (passes_of rfl) (si_seq (se_lst (sa_cons (se_int) (sa_cons (se_int) (sa_cons (se_int) (sa_cons (se_int) (sa_nil))))) (len_cons (len_cons (len_cons (len_cons len_nil)))))) (pg_name (i := 3) sc__law_mixed.nd rfl (by first | exact .inl rfl | exact .inr rfl)) (sg_name (P := [0]) (i := 3) (by decide)) (ss_cons (s_set sc__law_mixed.nd rfl (by first | exact .inl rfl | exact .inr rfl) (b_add (b_mul (se_int) (se_var 1 (pv 1))) (b_div (se_var 3 (pv 3)) (se_int)))) (ss_cons (s_for rfl (passes_of rfl) (si_seq (se_dr .cells (u64 hr) (pv 0))) (pg_name (i := 5) sc__law_mixed.nd rfl (by first | exact .inl rfl | exact .inr rfl)) (sg_name (P := [0]) (i := 5) (by decide)) (ss_one (s_set sc__law_mixed.nd rfl (by first | exact .inl rfl | exact .inr rfl) (b_mod (fnt f_int Z.free_int (sa_cons (b_add (b_add (b_mul (se_var 4 (pv 4)) (se_int)) (se_var 5 (pv 5))) (se_var 1 (pv 1))) (sa_nil))) (se_var 3 (pv 3)))))) (ss_one (s_set sc__law_mixed.nd rfl (by first | exact .inl rfl | exact .inr rfl) (b_add (b_mul (se_var 2 (pv 2)) (se_int)) (b_mod (fnt f_int Z.free_int (sa_cons (b_pow (se_var 4 (pv 4)) (se_int)) (sa_nil))) (se_var 3 (pv 3))))))))) (ss_one (s_ret (se_var 2 (pv 2))))))⟩
theorem Z.ok__law_take (Z : Z C base) : FV C C.P C.w base 2 "_law_take" s__law_take ["_law_draw", "_law_many"] den__law_take := by
  obtain ⟨fd, F⟩ := Z.fd__law_take
  refine fv_of (k := 1) (N := ["_law_draw", "_law_many", "_law_found"]) (pin := [0, 1]) (m := m__law_take) F sc__law_take Z.glo__law_take (by decide) ?_
  intro cdv A outer s H E hr
  exact ⟨_, ss_cons (s_if (tcmp (o_eq (u65 hr)) (se_dr .left (u64 hr) (pv 0)) (se_int)) (ss_one (s_drput .left (u64 hr) (pv 0) (se_ifE (⟨pt_cmpR (opK (r := rNeD) (op_neD (u64 hr))) (pe_dget (u1 hr) (pv 0) pe_str (fun _ _ => rfl)) (pe_lst pa_nil) (by rfl), snd_test snd_drG⟩) (se_drP (u64 hr) (pv 0)) (se_call Z.ok__law_mixed (takes_of rfl rfl rfl rfl) (rmono hr (by decide)) (by rfl) (sa_cons (se_var 0 (pv 0)) (sa_nil)) (fun _ _ _ _ _ _ us hl => match us, hl with | [_], _ => rfl) (len_cons len_nil))))) (ss_nil)) (ss_cons (s_set sc__law_take.nd rfl (by first | exact .inl rfl | exact .inr rfl) (b_mod (fnt f_int Z.free_int (sa_cons (se_dr .left (u64 hr) (pv 0)) (sa_nil))) (se_var 1 (pv 1)))) (ss_cons (s_drput .left (u64 hr) (pv 0) (b_div (se_dr .left (u64 hr) (pv 0)) (se_var 1 (pv 1)))) (ss_one (s_ret (se_var 2 (pv 2))))))⟩
theorem Z.ok__law_pick (Z : Z C base) : FV C C.P C.w base 3 "_law_pick" s__law_pick ["_law_draw", "_law_some"] den__law_pick := by
  obtain ⟨fd, F⟩ := Z.fd__law_pick
  refine fv_of (k := 2) (N := ["_law_draw", "_law_some"]) (pin := [0, 1]) (m := m__law_pick) F sc__law_pick Z.glo__law_pick (by decide) ?_
  intro cdv A outer s H E hr
  exact ⟨_, ss_one (s_ret (se_ixX (u64 hr) (se_var 1 (pv 1)) (se_call Z.ok__law_take (takes_of rfl rfl rfl rfl) (rmono hr (by decide)) (by rfl) (sa_cons (se_var 0 (pv 0)) (sa_cons (fnb f_len Z.free_len (sa_cons (se_var 1 (pv 1)) (sa_nil))) (sa_nil))) (fun _ _ _ _ _ _ us hl => match us, hl with | [_, _], _ => rfl) (len_cons (len_cons len_nil)))))⟩
theorem Z.ok__law_least (Z : Z C base) : FV C C.P C.w base 1 "_law_least" s__law_least ["_law_one", "_law_other"] den__law_least := by
  obtain ⟨fd, F⟩ := Z.fd__law_least
  refine fv_of (k := 0) (N := ["_law_one", "_law_other"]) (pin := [0, 1]) (m := m__law_least) F sc__law_least Z.glo__law_least (by decide) ?_
  intro cdv A outer s H E hr
  exact ⟨_, ss_cons (s_if (tcmp o_is (se_var 0 (pv 0)) (se_non)) (ss_one (s_ret (se_var 1 (pv 1)))) (ss_nil)) (ss_one (s_ret (se_ifE (tcmp o_is (se_var 1 (pv 1)) (se_non)) (se_var 0 (pv 0)) (fnb f_min Z.free_min (sa_cons (se_var 0 (pv 0)) (sa_cons (se_var 1 (pv 1)) (sa_nil)))))))⟩
theorem Z.ok__law_holds (Z : Z C base) : FV C C.P C.w base 2 "_law_holds" s__law_holds ["_law_corner", "_law_body"] den__law_holds := by
  obtain ⟨fd, F⟩ := Z.fd__law_holds
  refine fv_of (k := 1) (N := ["_law_corner", "_law_body"]) (pin := [0, 1]) (m := m__law_holds) F sc__law_holds Z.glo__law_holds (by decide) ?_
  intro cdv A outer s H E hr
  exact ⟨_, ss_one (s_ret (se_and (cmp (o_eq (u65 hr)) (se_call Z.ok__law_least (takes_of rfl rfl rfl rfl) (rmono hr (by decide)) (by rfl) (sa_cons (se_ixX (u64 hr) (se_var 0 (pv 0)) (se_int)) (sa_cons (se_ixX (u64 hr) (se_var 1 (pv 1)) (se_int)) (sa_nil))) (fun _ _ _ _ _ _ us hl => match us, hl with | [_, _], _ => rfl) (len_cons (len_cons len_nil))) (se_ixX (u64 hr) (se_var 1 (pv 1)) (se_int))) (se_one (cmp (o_eq (u65 hr)) (se_call Z.ok__law_least (takes_of rfl rfl rfl rfl) (rmono hr (by decide)) (by rfl) (sa_cons (se_ixX (u64 hr) (se_var 0 (pv 0)) (se_int)) (sa_cons (se_ixX (u64 hr) (se_var 1 (pv 1)) (se_int)) (sa_nil))) (fun _ _ _ _ _ _ us hl => match us, hl with | [_, _], _ => rfl) (len_cons (len_cons len_nil))) (se_ixX (u64 hr) (se_var 1 (pv 1)) (se_int))))))⟩
theorem Z.ok__law_rank (Z : Z C base) : FV C C.P C.w base 1 "_law_rank" s__law_rank ["_law_item"] den__law_rank := by
  obtain ⟨fd, F⟩ := Z.fd__law_rank
  refine fv_of (k := 0) (N := ["_law_item"]) (pin := [0]) (m := m__law_rank) F sc__law_rank Z.glo__law_rank (by decide) ?_
  intro cdv A outer s H E hr
  exact ⟨_, ss_one (s_ret (se_ifE (tcmp o_is (se_var 0 (pv 0)) (se_non)) (se_tup (sa_cons (se_int) (sa_cons (se_int) (sa_nil))) (len_cons (len_cons len_nil))) (se_tup (sa_cons (se_int) (sa_cons (se_var 0 (pv 0)) (sa_nil))) (len_cons (len_cons len_nil)))))⟩
theorem Z.ok__law_staircase (Z : Z C base) : FV C C.P C.w base 5 "_law_staircase" s__law_staircase ["_law_corners"] den__law_staircase := by
  obtain ⟨fd, F⟩ := Z.fd__law_staircase
  refine fv_ofL (k := 4) (N := ["_law_corners", "_law_found", "_law_corner", "_law_other"]) (pin := [0]) (m := m__law_staircase) F sc__law_staircase Z.glo__law_staircase (by decide) ?_
  intro A outer s H E hr
  exact ⟨_, ss_cons (s_set sc__law_staircase.nd rfl (by first | exact .inl rfl | exact .inr rfl) (se_lst (sa_nil) len_nil)) (ss_cons (s_for rfl (passes_of rfl) (si_seq (se_var 0 (pv 0))) (pg_name (i := 2) sc__law_staircase.nd rfl (by first | exact .inl rfl | exact .inr rfl)) (sg_name (P := [0]) (i := 2) (by decide)) (ss_one (s_if ((sw_and (tcmp (o_eq (u65 hr)) (se_lc (own := [("_law_other", 3)]) rfl sc__law_staircase.nd (si_seq (se_var 0 (pv 0))) (by exact blkOk_by (N := ["_law_corners", "_law_found", "_law_corner", "_law_other"]) (sc := defScope s__law_staircase) (own := [("_law_other", 3)]) (by decide +kernel)) (fun _ _ _ _ _ => pg_name (i := 3) sc__law_staircase.nd rfl (by first | exact .inl rfl | exact .inr rfl)) (sg_name (P := []) (i := 3) (by decide)) (fun _ _ _ _ _ => sq_one ((sw_and (tcmp (o_ne (u65 hr)) (se_var 3 (pv 3)) (se_var 2 (pv 2))) (sw_and1 (st_val (se_call Z.ok__law_holds LamX.takes0 (rmono hr (by decide)) (by rfl) (sa_cons (se_var 3 (pv 3)) (sa_cons (se_var 2 (pv 2)) (sa_nil))) (fun _ _ _ _ _ _ us hl => match us, hl with | [_, _], _ => rfl) (len_cons (len_cons len_nil)))))).t)) (fun _ _ _ _ _ => se_int)) (se_lst (sa_nil) len_nil)) (sw_and1 (tcmp (o_nin (u65 hr)) (se_var 2 (pv 2)) (se_var 1 (pv 1))))).t) (ss_one (s_expr (se_meth PySem.F.slot_list_append PySem.F.type_list_append mt_append rule_append (pv 1) (sa_cons (se_var 2 (pv 2)) (sa_nil))))) (ss_nil)))) (ss_one (s_ret (fnt f_tuple Z.free_tuple (sa_cons (se_skl (k := 1) (i := 2) (y := "_law_corner") (rmono hr (by decide)) sc__law_staircase.nd (by rfl) Z.free_sorted Z.tb__law_staircase (by rfl) Z.tT__law_staircase Z.tU__law_staircase (by exact KX.lamP_by (N := ["_law_corners", "_law_found", "_law_corner", "_law_other"]) (sc := defScope s__law_staircase) (by decide +kernel)) (se_var 1 (pv 1)) (fun A outer s H f c' hr => se_call Z.ok__law_rank LamX.takes0 (rmono hr (by decide)) (by rfl) (sa_cons (se_ixX (u64 hr) (se_var 2 (pv 2)) (se_int)) (sa_nil)) (fun _ _ _ _ _ _ us hl => match us, hl with | [_], _ => rfl) (len_cons len_nil))) (sa_nil))))))⟩
theorem Z.ok__law_held (Z : Z C base) : FV C C.P C.w base 3 "_law_held" s__law_held ["_law_stairs", "_law_body"] den__law_held := by
  obtain ⟨fd, F⟩ := Z.fd__law_held
  refine fv_of (k := 2) (N := ["_law_stairs", "_law_body", "_law_corner"]) (pin := [0, 1]) (m := m__law_held) F sc__law_held Z.glo__law_held (by decide) ?_
  intro cdv A outer s H E hr
  exact ⟨_, ss_one (s_ret (cmp (o_ne (u65 hr)) (se_lc (own := [("_law_corner", 2)]) rfl sc__law_held.nd (si_seq (se_var 0 (pv 0))) (by exact blkOk_by (N := ["_law_stairs", "_law_body", "_law_corner"]) (sc := defScope s__law_held) (own := [("_law_corner", 2)]) (by decide +kernel)) (fun _ _ _ _ _ => pg_name (i := 2) sc__law_held.nd rfl (by first | exact .inl rfl | exact .inr rfl)) (sg_name (P := []) (i := 2) (by decide)) (fun _ _ _ _ _ => sq_one (st_val (se_call Z.ok__law_holds LamX.takes0 (rmono hr (by decide)) (by rfl) (sa_cons (se_var 2 (pv 2)) (sa_cons (se_var 1 (pv 1)) (sa_nil))) (fun _ _ _ _ _ _ us hl => match us, hl with | [_, _], _ => rfl) (len_cons (len_cons len_nil))))) (fun _ _ _ _ _ => se_int)) (se_lst (sa_nil) len_nil)))⟩
theorem Z.ok__law_size (Z : Z C base) : FV C C.P C.w base 4 "_law_size" s__law_size ["_law_draw"] den__law_size := by
  obtain ⟨fd, F⟩ := Z.fd__law_size
  refine fv_of (k := 3) (N := ["_law_draw"]) (pin := [0]) (m := m__law_size) F sc__law_size Z.glo__law_size (by decide) ?_
  intro cdv A outer s H E hr
  exact ⟨_, ss_one (s_ret (b_add (se_int) (se_call Z.ok__law_pick (takes_of rfl rfl rfl rfl) (rmono hr (by decide)) (by rfl) (sa_cons (se_var 0 (pv 0)) (sa_cons (se_lst (sa_cons (se_call Z.ok__law_take (takes_of rfl rfl rfl rfl) (rmono hr (by decide)) (by rfl) (sa_cons (se_var 0 (pv 0)) (sa_cons (se_int) (sa_nil))) (fun _ _ _ _ _ _ us hl => match us, hl with | [_, _], _ => rfl) (len_cons (len_cons len_nil))) (sa_cons (se_call Z.ok__law_take (takes_of rfl rfl rfl rfl) (rmono hr (by decide)) (by rfl) (sa_cons (se_var 0 (pv 0)) (sa_cons (se_int) (sa_nil))) (fun _ _ _ _ _ _ us hl => match us, hl with | [_, _], _ => rfl) (len_cons (len_cons len_nil))) (sa_cons (se_call Z.ok__law_take (takes_of rfl rfl rfl rfl) (rmono hr (by decide)) (by rfl) (sa_cons (se_var 0 (pv 0)) (sa_cons (se_int) (sa_nil))) (fun _ _ _ _ _ _ us hl => match us, hl with | [_, _], _ => rfl) (len_cons (len_cons len_nil))) (sa_cons (se_call Z.ok__law_take (takes_of rfl rfl rfl rfl) (rmono hr (by decide)) (by rfl) (sa_cons (se_var 0 (pv 0)) (sa_cons (se_int) (sa_nil))) (fun _ _ _ _ _ _ us hl => match us, hl with | [_, _], _ => rfl) (len_cons (len_cons len_nil))) (sa_nil))))) (len_cons (len_cons (len_cons (len_cons len_nil))))) (sa_nil))) (fun _ _ _ _ _ _ us hl => match us, hl with | [_, _], _ => rfl) (len_cons (len_cons len_nil)))))⟩
theorem Z.ok__law_beside (Z : Z C base) : FV C C.P C.w base 5 "_law_beside" s__law_beside ["_law_draw", "_law_corners"] den__law_beside := by
  obtain ⟨fd, F⟩ := Z.fd__law_beside
  refine fv_of (k := 4) (N := ["_law_draw", "_law_corners", "_law_one", "_law_other"]) (pin := [0, 1]) (m := m__law_beside) F sc__law_beside Z.glo__law_beside (by decide) ?_
  intro cdv A outer s H E hr
  exact ⟨_, ss_cons (s_if ((sw_or (tcmp (o_eq (u65 hr)) (se_var 1 (pv 1)) (se_lst (sa_nil) len_nil)) (sw_or1 (tcmp (o_eq (u65 hr)) (se_call Z.ok__law_take (takes_of rfl rfl rfl rfl) (rmono hr (by decide)) (by rfl) (sa_cons (se_var 0 (pv 0)) (sa_cons (se_int) (sa_nil))) (fun _ _ _ _ _ _ us hl => match us, hl with | [_, _], _ => rfl) (len_cons (len_cons len_nil))) (se_int)))).t) (ss_one (s_ret (se_tup (sa_cons (se_call Z.ok__law_size (takes_of rfl rfl rfl rfl) (rmono hr (by decide)) (by rfl) (sa_cons (se_var 0 (pv 0)) (sa_nil)) (fun _ _ _ _ _ _ us hl => match us, hl with | [_], _ => rfl) (len_cons len_nil)) (sa_cons (se_call Z.ok__law_size (takes_of rfl rfl rfl rfl) (rmono hr (by decide)) (by rfl) (sa_cons (se_var 0 (pv 0)) (sa_nil)) (fun _ _ _ _ _ _ us hl => match us, hl with | [_], _ => rfl) (len_cons len_nil)) (sa_nil))) (len_cons (len_cons len_nil))))) (ss_nil)) (ss_cons (s_par rfl sc__law_beside.nd rfl rfl (se_ixX (u64 hr) (se_call Z.ok__law_pick (takes_of rfl rfl rfl rfl) (rmono hr (by decide)) (by rfl) (sa_cons (se_var 0 (pv 0)) (sa_cons (se_var 1 (pv 1)) (sa_nil))) (fun _ _ _ _ _ _ us hl => match us, hl with | [_, _], _ => rfl) (len_cons (len_cons len_nil))) (se_int)) (se_ixX (u64 hr) (se_call Z.ok__law_pick (takes_of rfl rfl rfl rfl) (rmono hr (by decide)) (by rfl) (sa_cons (se_var 0 (pv 0)) (sa_cons (se_var 1 (pv 1)) (sa_nil))) (fun _ _ _ _ _ _ us hl => match us, hl with | [_, _], _ => rfl) (len_cons (len_cons len_nil))) (se_int)) (by rfl)) (ss_cons (s_if (tcmp (o_eq (u65 hr)) (se_call Z.ok__law_take (takes_of rfl rfl rfl rfl) (rmono hr (by decide)) (by rfl) (sa_cons (se_var 0 (pv 0)) (sa_cons (se_int) (sa_nil))) (fun _ _ _ _ _ _ us hl => match us, hl with | [_, _], _ => rfl) (len_cons (len_cons len_nil))) (se_int)) (ss_one (s_asg (se_call Z.ok__law_pick (takes_of rfl rfl rfl rfl) (rmono hr (by decide)) (by rfl) (sa_cons (se_var 0 (pv 0)) (sa_cons (se_var 1 (pv 1)) (sa_nil))) (fun _ _ _ _ _ _ us hl => match us, hl with | [_, _], _ => rfl) (len_cons (len_cons len_nil))) (pgK (g := fun K => gTup K 2 _) (pg_tup (by rfl) (pgs_cons (pg_name (i := 2) sc__law_beside.nd rfl (by first | exact .inl rfl | exact .inr rfl)) (pgs_cons (pg_name (i := 3) sc__law_beside.nd rfl (by first | exact .inl rfl | exact .inr rfl)) (pgs_nil))))) (sg_tup (P := [0, 1]) (is := [2, 3]) (n := 2) (by decide) rfl))) (ss_nil)) (ss_cons (s_set sc__law_beside.nd rfl (by first | exact .inl rfl | exact .inr rfl) (se_ifE (tcmp o_is (se_var 2 (pv 2)) (se_non)) (se_call Z.ok__law_size (takes_of rfl rfl rfl rfl) (rmono hr (by decide)) (by rfl) (sa_cons (se_var 0 (pv 0)) (sa_nil)) (fun _ _ _ _ _ _ us hl => match us, hl with | [_], _ => rfl) (len_cons len_nil)) (b_add (se_var 2 (pv 2)) (se_call Z.ok__law_pick (takes_of rfl rfl rfl rfl) (rmono hr (by decide)) (by rfl) (sa_cons (se_var 0 (pv 0)) (sa_cons (se_lst (sa_cons (se_int) (sa_cons (se_int) (sa_cons (se_int) (sa_cons (se_int) (sa_cons (se_neg (se_int)) (sa_nil)))))) (len_cons (len_cons (len_cons (len_cons (len_cons len_nil)))))) (sa_nil))) (fun _ _ _ _ _ _ us hl => match us, hl with | [_, _], _ => rfl) (len_cons (len_cons len_nil)))))) (ss_cons (s_set sc__law_beside.nd rfl (by first | exact .inl rfl | exact .inr rfl) (se_ifE (tcmp o_is (se_var 3 (pv 3)) (se_non)) (se_call Z.ok__law_size (takes_of rfl rfl rfl rfl) (rmono hr (by decide)) (by rfl) (sa_cons (se_var 0 (pv 0)) (sa_nil)) (fun _ _ _ _ _ _ us hl => match us, hl with | [_], _ => rfl) (len_cons len_nil)) (b_add (se_var 3 (pv 3)) (se_call Z.ok__law_pick (takes_of rfl rfl rfl rfl) (rmono hr (by decide)) (by rfl) (sa_cons (se_var 0 (pv 0)) (sa_cons (se_lst (sa_cons (se_int) (sa_cons (se_int) (sa_cons (se_int) (sa_cons (se_int) (sa_cons (se_neg (se_int)) (sa_nil)))))) (len_cons (len_cons (len_cons (len_cons (len_cons len_nil)))))) (sa_nil))) (fun _ _ _ _ _ _ us hl => match us, hl with | [_, _], _ => rfl) (len_cons (len_cons len_nil)))))) (ss_one (s_ret (se_tup (sa_cons (fnb f_max Z.free_max (sa_cons (se_int) (sa_cons (se_var 2 (pv 2)) (sa_nil)))) (sa_cons (fnb f_max Z.free_max (sa_cons (se_int) (sa_cons (se_var 3 (pv 3)) (sa_nil)))) (sa_nil))) (len_cons (len_cons len_nil)))))))))⟩
theorem Z.ok__law_few (Z : Z C base) : FV C C.P C.w base 6 "_law_few" s__law_few ["_law_draw", "_law_most"] den__law_few := by
  obtain ⟨fd, F⟩ := Z.fd__law_few
  refine fv_of (k := 5) (N := ["_law_draw", "_law_most", "_law_found", "_law_lap", "_law_corner", "_law_way"]) (pin := [0, 1]) (m := m__law_few) F sc__law_few Z.glo__law_few (by decide) ?_
  intro cdv A outer s H E hr
  exact ⟨_, ss_cons (s_set sc__law_few.nd rfl (by first | exact .inl rfl | exact .inr rfl) (se_lst (sa_nil) len_nil)) (ss_cons (s_for rfl (passes_of rfl) (si_rng1 (by rfl) Z.free_range (sa_cons (se_call Z.ok__law_take (takes_of rfl rfl rfl rfl) (rmono hr (by decide)) (by rfl) (sa_cons (se_var 0 (pv 0)) (sa_cons (b_add (se_var 1 (pv 1)) (se_int)) (sa_nil))) (fun _ _ _ _ _ _ us hl => match us, hl with | [_, _], _ => rfl) (len_cons (len_cons len_nil))) (sa_nil))) (pg_name (i := 3) sc__law_few.nd rfl (by first | exact .inl rfl | exact .inr rfl)) (sg_name (P := [0, 1]) (i := 3) (by decide)) (ss_cons (s_set sc__law_few.nd rfl (by first | exact .inl rfl | exact .inr rfl) (se_tup (sa_cons (b_add (se_int) (se_call Z.ok__law_take (takes_of rfl rfl rfl rfl) (rmono hr (by decide)) (by rfl) (sa_cons (se_var 0 (pv 0)) (sa_cons (se_int) (sa_nil))) (fun _ _ _ _ _ _ us hl => match us, hl with | [_, _], _ => rfl) (len_cons (len_cons len_nil)))) (sa_cons (b_add (se_int) (se_call Z.ok__law_take (takes_of rfl rfl rfl rfl) (rmono hr (by decide)) (by rfl) (sa_cons (se_var 0 (pv 0)) (sa_cons (se_int) (sa_nil))) (fun _ _ _ _ _ _ us hl => match us, hl with | [_, _], _ => rfl) (len_cons (len_cons len_nil)))) (sa_nil))) (len_cons (len_cons len_nil)))) (ss_cons (s_set sc__law_few.nd rfl (by first | exact .inl rfl | exact .inr rfl) (se_call Z.ok__law_take (takes_of rfl rfl rfl rfl) (rmono hr (by decide)) (by rfl) (sa_cons (se_var 0 (pv 0)) (sa_cons (se_int) (sa_nil))) (fun _ _ _ _ _ _ us hl => match us, hl with | [_, _], _ => rfl) (len_cons (len_cons len_nil)))) (ss_one (s_expr (se_meth PySem.F.slot_list_append PySem.F.type_list_append mt_append rule_append (pv 2) (sa_cons (se_ifE (tcmp (o_eq (u65 hr)) (se_var 5 (pv 5)) (se_int)) (se_tup (sa_cons (se_non) (sa_cons (se_ixX (u64 hr) (se_var 4 (pv 4)) (se_int)) (sa_nil))) (len_cons (len_cons len_nil))) (se_ifE (tcmp (o_eq (u65 hr)) (se_var 5 (pv 5)) (se_int)) (se_tup (sa_cons (se_ixX (u64 hr) (se_var 4 (pv 4)) (se_int)) (sa_cons (se_non) (sa_nil))) (len_cons (len_cons len_nil))) (se_var 4 (pv 4)))) (sa_nil)))))))) (ss_one (s_ret (se_ifE (tcmp (o_eq (u65 hr)) (se_call Z.ok__law_take (takes_of rfl rfl rfl rfl) (rmono hr (by decide)) (by rfl) (sa_cons (se_var 0 (pv 0)) (sa_cons (se_int) (sa_nil))) (fun _ _ _ _ _ _ us hl => match us, hl with | [_, _], _ => rfl) (len_cons (len_cons len_nil))) (se_int)) (se_tup (sa_cons (se_tup (sa_cons (se_non) (sa_cons (se_non) (sa_nil))) (len_cons (len_cons len_nil))) (sa_nil)) (len_cons len_nil)) (se_call Z.ok__law_staircase (takes_of rfl rfl rfl rfl) (rmono hr (by decide)) (by rfl) (sa_cons (se_var 2 (pv 2)) (sa_nil)) (fun _ _ _ _ _ _ us hl => match us, hl with | [_], _ => rfl) (len_cons len_nil))))))⟩
theorem Z.ok__law_grow (Z : Z C base) : FV C C.P C.w base 1 "_law_grow" s__law_grow ["_law_least_here", "_law_by", "_law_body"] den__law_grow := by
  obtain ⟨fd, F⟩ := Z.fd__law_grow
  refine fv_of (k := 0) (N := ["_law_least_here", "_law_by", "_law_body"]) (pin := [0, 1, 2]) (m := m__law_grow) F sc__law_grow Z.glo__law_grow (by decide) ?_
  intro cdv A outer s H E hr
  exact ⟨_, ss_one (s_ret (se_tup (sa_cons (fnb f_max Z.free_max (sa_cons (se_ixX (u64 hr) (se_var 0 (pv 0)) (se_int)) (sa_cons (b_add (se_ixX (u64 hr) (se_var 2 (pv 2)) (se_int)) (se_ixX (u64 hr) (se_var 1 (pv 1)) (se_int))) (sa_nil)))) (sa_cons (fnb f_max Z.free_max (sa_cons (se_ixX (u64 hr) (se_var 0 (pv 0)) (se_int)) (sa_cons (b_add (se_ixX (u64 hr) (se_var 2 (pv 2)) (se_int)) (se_ixX (u64 hr) (se_var 1 (pv 1)) (se_int))) (sa_nil)))) (sa_nil))) (len_cons (len_cons len_nil))))⟩
theorem Z.ok__law_raw (Z : Z C base) : FV C C.P C.w base 7 "_law_raw" s__law_raw ["_law_draw"] den__law_raw := by
  obtain ⟨fd, F⟩ := Z.fd__law_raw
  refine fv_of (k := 6) (N := ["_law_draw", "_law_least_here"]) (pin := [0]) (m := m__law_raw) F sc__law_raw Z.glo__law_raw (by decide) ?_
  intro cdv A outer s H E hr
  exact ⟨_, ss_cons (s_set sc__law_raw.nd rfl (by first | exact .inl rfl | exact .inr rfl) (se_tup (sa_cons (b_add (se_int) (se_call Z.ok__law_pick (takes_of rfl rfl rfl rfl) (rmono hr (by decide)) (by rfl) (sa_cons (se_var 0 (pv 0)) (sa_cons (se_lst (sa_cons (se_int) (sa_cons (se_int) (sa_cons (se_call Z.ok__law_take (takes_of rfl rfl rfl rfl) (rmono hr (by decide)) (by rfl) (sa_cons (se_var 0 (pv 0)) (sa_cons (se_int) (sa_nil))) (fun _ _ _ _ _ _ us hl => match us, hl with | [_, _], _ => rfl) (len_cons (len_cons len_nil))) (sa_nil)))) (len_cons (len_cons (len_cons len_nil)))) (sa_nil))) (fun _ _ _ _ _ _ us hl => match us, hl with | [_, _], _ => rfl) (len_cons (len_cons len_nil)))) (sa_cons (b_add (se_int) (se_call Z.ok__law_pick (takes_of rfl rfl rfl rfl) (rmono hr (by decide)) (by rfl) (sa_cons (se_var 0 (pv 0)) (sa_cons (se_lst (sa_cons (se_int) (sa_cons (se_int) (sa_cons (se_call Z.ok__law_take (takes_of rfl rfl rfl rfl) (rmono hr (by decide)) (by rfl) (sa_cons (se_var 0 (pv 0)) (sa_cons (se_int) (sa_nil))) (fun _ _ _ _ _ _ us hl => match us, hl with | [_, _], _ => rfl) (len_cons (len_cons len_nil))) (sa_nil)))) (len_cons (len_cons (len_cons len_nil)))) (sa_nil))) (fun _ _ _ _ _ _ us hl => match us, hl with | [_, _], _ => rfl) (len_cons (len_cons len_nil)))) (sa_nil))) (len_cons (len_cons len_nil)))) (ss_one (s_ret (se_tup (sa_cons (se_call Z.ok__law_few (takes_of rfl rfl rfl rfl) (rmono hr (by decide)) (by rfl) (sa_cons (se_var 0 (pv 0)) (sa_cons (se_int) (sa_nil))) (fun _ _ _ _ _ _ us hl => match us, hl with | [_, _], _ => rfl) (len_cons (len_cons len_nil))) (sa_cons (se_var 1 (pv 1)) (sa_cons (se_tup (sa_cons (b_sub (se_call Z.ok__law_take (takes_of rfl rfl rfl rfl) (rmono hr (by decide)) (by rfl) (sa_cons (se_var 0 (pv 0)) (sa_cons (se_int) (sa_nil))) (fun _ _ _ _ _ _ us hl => match us, hl with | [_, _], _ => rfl) (len_cons (len_cons len_nil))) (se_int)) (sa_cons (b_sub (se_call Z.ok__law_take (takes_of rfl rfl rfl rfl) (rmono hr (by decide)) (by rfl) (sa_cons (se_var 0 (pv 0)) (sa_cons (se_int) (sa_nil))) (fun _ _ _ _ _ _ us hl => match us, hl with | [_, _], _ => rfl) (len_cons (len_cons len_nil))) (se_int)) (sa_nil))) (len_cons (len_cons len_nil))) (sa_nil)))) (len_cons (len_cons (len_cons len_nil))))))⟩
theorem Z.ok__law_reach (Z : Z C base) : FV C C.P C.w base 1 "_law_reach" s__law_reach ["_law_stairs_here", "_law_k"] den__law_reach := by
  obtain ⟨fd, F⟩ := Z.fd__law_reach
  refine fv_of (k := 0) (N := ["_law_stairs_here", "_law_k"]) (pin := [0, 1]) (m := m__law_reach) F sc__law_reach Z.glo__law_reach (by decide) ?_
  intro cdv A outer s H E hr
  exact ⟨_, ss_one (s_ret (se_ifE (tcmp (o_eq (u65 hr)) (se_var 1 (pv 1)) (se_int)) (se_ixX (u64 hr) (se_ixX (u64 hr) (se_var 0 (pv 0)) (se_neg (se_int))) (se_int)) (se_ixX (u64 hr) (se_ixX (u64 hr) (se_var 0 (pv 0)) (se_int)) (se_int))))⟩
theorem Z.ok__law_tries (Z : Z C base) : FV C C.P C.w base 2 "_law_tries" s__law_tries ["_law_raws", "_law_k"] den__law_tries := by
  obtain ⟨fd, F⟩ := Z.fd__law_tries
  refine fv_of (k := 1) (N := ["_law_raws", "_law_k", "_law_found", "_law_raw_here", "_law_turn", "_law_item"]) (pin := [0, 1]) (m := m__law_tries) F sc__law_tries Z.glo__law_tries (by decide) ?_
  intro cdv A outer s H E hr
  exact ⟨_, ss_cons (s_set sc__law_tries.nd rfl (by first | exact .inl rfl | exact .inr rfl) (se_lst (sa_cons (se_int) (sa_cons (se_int) (sa_cons (se_int) (sa_cons (se_int) (sa_nil))))) (len_cons (len_cons (len_cons (len_cons len_nil)))))) (ss_cons (s_for rfl (passes_of rfl) (si_seq (se_var 0 (pv 0))) (pg_name (i := 3) sc__law_tries.nd rfl (by first | exact .inl rfl | exact .inr rfl)) (sg_name (P := [0, 1]) (i := 3) (by decide)) (ss_cons (s_set sc__law_tries.nd rfl (by first | exact .inl rfl | exact .inr rfl) (b_sub (se_ixX (u64 hr) (se_ixX (u64 hr) (se_var 3 (pv 3)) (se_int)) (se_var 1 (pv 1))) (se_ixX (u64 hr) (se_ixX (u64 hr) (se_var 3 (pv 3)) (se_int)) (se_var 1 (pv 1))))) (ss_one (s_set sc__law_tries.nd rfl (by first | exact .inl rfl | exact .inr rfl) (b_add (se_var 2 (pv 2)) (se_lst (sa_cons (b_sub (se_var 4 (pv 4)) (se_int)) (sa_cons (se_var 4 (pv 4)) (sa_cons (b_add (se_var 4 (pv 4)) (se_int)) (sa_cons (se_call Z.ok__law_reach (takes_of rfl rfl rfl rfl) (rmono hr (by decide)) (by rfl) (sa_cons (se_ixX (u64 hr) (se_var 3 (pv 3)) (se_int)) (sa_cons (se_var 1 (pv 1)) (sa_nil))) (fun _ _ _ _ _ _ us hl => match us, hl with | [_, _], _ => rfl) (len_cons (len_cons len_nil))) (sa_nil))))) (len_cons (len_cons (len_cons (len_cons len_nil)))))))))) (ss_one (s_ret (se_sortSet (by rfl) (by rfl) Z.free_sorted (by rfl) Z.free_set (se_lc (own := [("_law_item", 5)]) rfl sc__law_tries.nd (si_seq (se_var 2 (pv 2))) (by exact blkOk_by (N := ["_law_raws", "_law_k", "_law_found", "_law_raw_here", "_law_turn", "_law_item"]) (sc := defScope s__law_tries) (own := [("_law_item", 5)]) (by decide +kernel)) (fun _ _ _ _ _ => pg_name (i := 5) sc__law_tries.nd rfl (by first | exact .inl rfl | exact .inr rfl)) (sg_name (P := []) (i := 5) (by decide)) (fun _ _ _ _ _ => sq_one ((sw_and (tcmp o_isn (se_var 5 (pv 5)) (se_non)) (sw_and1 (tcmp o_ge (se_var 5 (pv 5)) (se_int)))).t)) (fun _ _ _ _ _ => se_var 5 (pv 5)))))))⟩
theorem Z.ok__law_same_doing (Z : Z C base) : FV C C.P C.w base 4 "_law_same_doing" s__law_same_doing ["_law_one", "_law_other"] den__law_same_doing := by
  obtain ⟨fd, F⟩ := Z.fd__law_same_doing
  refine fv_of (k := 3) (N := ["_law_one", "_law_other", "_law_k", "_law_size_here", "_law_body", "_law_first", "_law_second"]) (pin := [0, 1]) (m := m__law_same_doing) F sc__law_same_doing Z.glo__law_same_doing (by decide) ?_
  intro cdv A outer s H E hr
  exact ⟨_, ss_cons (s_if (tcmp (o_ne (u65 hr)) (se_ixX (u64 hr) (se_var 0 (pv 0)) (se_int)) (se_ixX (u64 hr) (se_var 1 (pv 1)) (se_int))) (ss_one (s_ret (se_bl))) (ss_nil)) (ss_cons (s_if (tcmp (o_eq (u65 hr)) (se_ixX (u64 hr) (se_var 0 (pv 0)) (se_int)) (se_tup (sa_nil) len_nil)) (ss_one (s_ret (se_bl))) (ss_nil)) (ss_cons (s_for rfl (passes_of rfl) (si_rng1 (by rfl) Z.free_range (sa_cons (se_int) (sa_nil))) (pg_name (i := 2) sc__law_same_doing.nd rfl (by first | exact .inl rfl | exact .inr rfl)) (sg_name (P := [0, 1]) (i := 2) (by decide)) (ss_one (s_for rfl (passes_of rfl) (si_seq (se_call Z.ok__law_tries (takes_of rfl rfl rfl rfl) (rmono hr (by decide)) (by rfl) (sa_cons (se_lst (sa_cons (se_var 0 (pv 0)) (sa_cons (se_var 1 (pv 1)) (sa_nil))) (len_cons (len_cons len_nil))) (sa_cons (se_var 2 (pv 2)) (sa_nil))) (fun _ _ _ _ _ _ us hl => match us, hl with | [_, _], _ => rfl) (len_cons (len_cons len_nil)))) (pg_name (i := 3) sc__law_same_doing.nd rfl (by first | exact .inl rfl | exact .inr rfl)) (sg_name (P := [0, 1]) (i := 3) (by decide)) (ss_cons (s_set sc__law_same_doing.nd rfl (by first | exact .inl rfl | exact .inr rfl) (se_ifE (tcmp (o_eq (u65 hr)) (se_var 2 (pv 2)) (se_int)) (se_tup (sa_cons (se_var 3 (pv 3)) (sa_cons (se_int) (sa_nil))) (len_cons (len_cons len_nil))) (se_tup (sa_cons (se_int) (sa_cons (se_var 3 (pv 3)) (sa_nil))) (len_cons (len_cons len_nil))))) (ss_cons (s_par rfl sc__law_same_doing.nd rfl rfl (se_call Z.ok__law_grow (takes_of rfl rfl rfl rfl) (rmono hr (by decide)) (by rfl) (sa_cons (se_ixX (u64 hr) (se_var 0 (pv 0)) (se_int)) (sa_cons (se_ixX (u64 hr) (se_var 0 (pv 0)) (se_int)) (sa_cons (se_var 4 (pv 4)) (sa_nil)))) (fun _ _ _ _ _ _ us hl => match us, hl with | [_, _, _], _ => rfl) (len_cons (len_cons (len_cons len_nil)))) (se_call Z.ok__law_grow (takes_of rfl rfl rfl rfl) (rmono hr (by decide)) (by rfl) (sa_cons (se_ixX (u64 hr) (se_var 1 (pv 1)) (se_int)) (sa_cons (se_ixX (u64 hr) (se_var 1 (pv 1)) (se_int)) (sa_cons (se_var 4 (pv 4)) (sa_nil)))) (fun _ _ _ _ _ _ us hl => match us, hl with | [_, _, _], _ => rfl) (len_cons (len_cons (len_cons len_nil)))) (by rfl)) (ss_one (s_if ((sw_and (st_val (se_call Z.ok__law_held (takes_of rfl rfl rfl rfl) (rmono hr (by decide)) (by rfl) (sa_cons (se_ixX (u64 hr) (se_var 0 (pv 0)) (se_int)) (sa_cons (se_var 4 (pv 4)) (sa_nil))) (fun _ _ _ _ _ _ us hl => match us, hl with | [_, _], _ => rfl) (len_cons (len_cons len_nil)))) (sw_and1 (tcmp (o_ne (u65 hr)) (se_var 5 (pv 5)) (se_var 6 (pv 6))))).t) (ss_one (s_ret (se_bl))) (ss_nil)))))))) (ss_one (s_ret (se_bl)))))⟩
theorem Z.ok__law_changed (Z : Z C base) : FV C C.P C.w base 7 "_law_changed" s__law_changed ["_law_draw", "_law_raw_here"] den__law_changed := by
  obtain ⟨fd, F⟩ := Z.fd__law_changed
  refine fv_of (k := 6) (N := ["_law_draw", "_law_raw_here", "_law_way", "_law_least_here", "_law_by", "_law_k"]) (pin := [0, 1]) (m := m__law_changed) F sc__law_changed Z.glo__law_changed (by decide) ?_
  intro cdv A outer s H E hr
  exact ⟨_, ss_cons (s_set sc__law_changed.nd rfl (by first | exact .inl rfl | exact .inr rfl) (se_call Z.ok__law_take (takes_of rfl rfl rfl rfl) (rmono hr (by decide)) (by rfl) (sa_cons (se_var 0 (pv 0)) (sa_cons (se_int) (sa_nil))) (fun _ _ _ _ _ _ us hl => match us, hl with | [_, _], _ => rfl) (len_cons (len_cons len_nil)))) (ss_cons (s_par rfl sc__law_changed.nd rfl rfl (fnt f_list Z.free_list (sa_cons (se_ixX (u64 hr) (se_var 1 (pv 1)) (se_int)) (sa_nil))) (fnt f_list Z.free_list (sa_cons (se_ixX (u64 hr) (se_var 1 (pv 1)) (se_int)) (sa_nil))) (by rfl)) (ss_cons (s_set sc__law_changed.nd rfl (by first | exact .inl rfl | exact .inr rfl) (se_call Z.ok__law_take (takes_of rfl rfl rfl rfl) (rmono hr (by decide)) (by rfl) (sa_cons (se_var 0 (pv 0)) (sa_cons (se_int) (sa_nil))) (fun _ _ _ _ _ _ us hl => match us, hl with | [_, _], _ => rfl) (len_cons (len_cons len_nil)))) (ss_cons (s_if (tcmp (o_eq (u65 hr)) (se_var 2 (pv 2)) (se_int)) (ss_one (s_lput (pv 3) (se_var 5 (pv 5)) (fnb f_max Z.free_max (sa_cons (se_int) (sa_cons (b_add (se_ixX (u64 hr) (se_var 3 (pv 3)) (se_var 5 (pv 5))) (se_call Z.ok__law_pick (takes_of rfl rfl rfl rfl) (rmono hr (by decide)) (by rfl) (sa_cons (se_var 0 (pv 0)) (sa_cons (se_lst (sa_cons (se_int) (sa_cons (se_neg (se_int)) (sa_cons (se_int) (sa_nil)))) (len_cons (len_cons (len_cons len_nil)))) (sa_nil))) (fun _ _ _ _ _ _ us hl => match us, hl with | [_, _], _ => rfl) (len_cons (len_cons len_nil)))) (sa_nil)))))) (ss_one (s_if (tcmp (o_eq (u65 hr)) (se_var 2 (pv 2)) (se_int)) (ss_one (s_lput (pv 4) (se_var 5 (pv 5)) (b_add (se_ixX (u64 hr) (se_var 4 (pv 4)) (se_var 5 (pv 5))) (se_call Z.ok__law_pick (takes_of rfl rfl rfl rfl) (rmono hr (by decide)) (by rfl) (sa_cons (se_var 0 (pv 0)) (sa_cons (se_lst (sa_cons (se_int) (sa_cons (se_neg (se_int)) (sa_cons (se_neg (se_int)) (sa_cons (se_int) (sa_cons (se_neg (se_int)) (sa_nil)))))) (len_cons (len_cons (len_cons (len_cons (len_cons len_nil)))))) (sa_nil))) (fun _ _ _ _ _ _ us hl => match us, hl with | [_, _], _ => rfl) (len_cons (len_cons len_nil)))))) (ss_one (s_if (tcmp (o_eq (u65 hr)) (se_var 2 (pv 2)) (se_int)) (ss_one (s_ret (se_tup (sa_cons (se_call Z.ok__law_few (takes_of rfl rfl rfl rfl) (rmono hr (by decide)) (by rfl) (sa_cons (se_var 0 (pv 0)) (sa_cons (se_int) (sa_nil))) (fun _ _ _ _ _ _ us hl => match us, hl with | [_, _], _ => rfl) (len_cons (len_cons len_nil))) (sa_cons (se_ixX (u64 hr) (se_var 1 (pv 1)) (se_int)) (sa_cons (se_ixX (u64 hr) (se_var 1 (pv 1)) (se_int)) (sa_nil)))) (len_cons (len_cons (len_cons len_nil)))))) (ss_nil)))))) (ss_one (s_ret (se_tup (sa_cons (se_ixX (u64 hr) (se_var 1 (pv 1)) (se_int)) (sa_cons (se_tup (sa_cons (se_ixX (u64 hr) (se_var 3 (pv 3)) (se_int)) (sa_cons (se_ixX (u64 hr) (se_var 3 (pv 3)) (se_int)) (sa_nil))) (len_cons (len_cons len_nil))) (sa_cons (se_tup (sa_cons (se_ixX (u64 hr) (se_var 4 (pv 4)) (se_int)) (sa_cons (se_ixX (u64 hr) (se_var 4 (pv 4)) (se_int)) (sa_nil))) (len_cons (len_cons len_nil))) (sa_nil)))) (len_cons (len_cons (len_cons len_nil)))))))))⟩
theorem Z.ok_Form___eq__ (Z : Z C base) : FM C C.P C.w base 1 (He.ma C.K (He.ga C.K "Form") "__eq__") "Form.__eq__" "__eq__" s_Form___eq__ ["self", "other"] den_Form___eq__ := by
  obtain ⟨fd, F⟩ := Z.fd_Form___eq__
  refine ⟨fm_of (k := 0) (N := ["self", "other"]) (pin := [0, 1]) (m := m_Form___eq__) F sc_Form___eq__ (by decide) ?_⟩
  intro cdv A outer s H E hr
  exact ⟨_, ss_cons (s_if ((sw_or (st_not (st_val (se_isi (u := .own "Form") Z.ko (by rfl) Z.free_isinstance (.own Z.glo_Form) (pe_glob (by rfl) Z.glo_Form rfl) (se_var 1 (pv 1))))) (sw_or (tcmp (o_ne (u65 hr)) (se_fld Z.cf (se_var 0 (pv 0))) (se_fld Z.cf (se_var 1 (pv 1)))) (sw_or1 (tcmp (o_ne (u65 hr)) (se_fld Z.cf (se_var 0 (pv 0))) (se_fld Z.cf (se_var 1 (pv 1))))))).t) (ss_one (s_ret (se_bl))) (ss_nil)) (ss_one (s_ret (se_and (cmp (o_eq (u65 hr)) (se_fld Z.cf (se_var 0 (pv 0))) (se_fld Z.cf (se_var 1 (pv 1)))) (se_and (cmp (o_eq (u65 hr)) (se_fld Z.cf (se_var 0 (pv 0))) (se_fld Z.cf (se_var 1 (pv 1)))) (se_one (cmp (o_eq (u65 hr)) (se_fld Z.cf (se_var 0 (pv 0))) (se_fld Z.cf (se_var 1 (pv 1)))))))))⟩
theorem Z.ok__law_loads_ok (Z : Z C base) : FV C C.P C.w base 8 "_law_loads_ok" s__law_loads_ok ["_law_draw", "_law_place", "_law_one"] den__law_loads_ok := by
  obtain ⟨fd, F⟩ := Z.fd__law_loads_ok
  refine fv_of (k := 7) (N := ["_law_draw", "_law_place", "_law_one", "_law_calm", "_law_load", "_law_lap", "_law_body", "_law_later", "_law_good"]) (pin := [0, 1, 2]) (m := m__law_loads_ok) F sc__law_loads_ok Z.glo__law_loads_ok (by decide) ?_
  intro cdv A outer s H E hr
  exact ⟨_, ss_cons (s_par rfl sc__law_loads_ok.nd rfl rfl (se_callK0 (ks := ["place", "stairs"]) Z.ok_still (takes_of rfl rfl rfl rfl) free_of (rmono hr (by decide)) (by rfl) (sk_cons (se_var 1 (pv 1)) (sk_cons (se_ixX (u64 hr) (se_var 2 (pv 2)) (se_int)) (sk_nil))) (fun _ _ _ _ _ _ us ws h1 h2 => match us, ws, h1, h2 with | [], [_, _], _, _ => rfl) (len_cons (len_cons len_nil))) (se_callK0 (ks := ["place", "stairs", "by"]) Z.ok_load_form (takes_of rfl rfl rfl rfl) free_of (rmono hr (by decide)) (by rfl) (sk_cons (se_var 1 (pv 1)) (sk_cons (se_ixX (u64 hr) (se_var 2 (pv 2)) (se_int)) (sk_cons (se_ixX (u64 hr) (se_var 2 (pv 2)) (se_int)) (sk_nil)))) (fun _ _ _ _ _ _ us ws h1 h2 => match us, ws, h1, h2 with | [], [_, _, _], _, _ => rfl) (len_cons (len_cons (len_cons len_nil)))) (by rfl)) (ss_cons (s_if ((sw_or (st_neI Z.glo_Form Z.eqi_Form Z.ok_Form___eq__ (rmono hr (by decide)) (se_var 3 (pv 3)) (se_make Z.cm_Form Z.ok_Form___init__ (takes_of rfl rfl rfl rfl) free_of (rmono hr (by decide)) (by rfl) (sa_cons (se_var 1 (pv 1)) (sa_cons (se_var 1 (pv 1)) (sa_cons (se_ixX (u64 hr) (se_var 2 (pv 2)) (se_int)) (sa_cons (se_tup (sa_cons (se_int) (sa_cons (se_int) (sa_nil))) (len_cons (len_cons len_nil))) (sa_cons (se_tup (sa_cons (se_int) (sa_cons (se_int) (sa_nil))) (len_cons (len_cons len_nil))) (sa_nil)))))) (fun _ _ _ _ _ _ us hl => match us, hl with | [_, _, _, _, _, _], _ => rfl) (len_cons (len_cons (len_cons (len_cons (len_cons len_nil)))))) (fun _ _ _ _ _ _ us hl => match us, hl with | [_, _], _ => rfl)) (sw_or (tcmp (o_ne (u65 hr)) (se_fld Z.cf (se_var 4 (pv 4))) (se_var 1 (pv 1))) (sw_or1 (tcmp (o_ne (u65 hr)) (se_fld Z.cf (se_var 4 (pv 4))) (se_var 1 (pv 1)))))).t) (ss_one (s_ret (se_bl))) (ss_nil)) (ss_cons (s_for rfl (passes_of rfl) (si_rng1 (by rfl) Z.free_range (sa_cons (se_int) (sa_nil))) (pg_name (i := 5) sc__law_loads_ok.nd rfl (by first | exact .inl rfl | exact .inr rfl)) (sg_name (P := [0, 1, 2]) (i := 5) (by decide)) (ss_cons (s_set sc__law_loads_ok.nd rfl (by first | exact .inl rfl | exact .inr rfl) (se_call Z.ok__law_beside (takes_of rfl rfl rfl rfl) (rmono hr (by decide)) (by rfl) (sa_cons (se_var 0 (pv 0)) (sa_cons (fnt f_list Z.free_list (sa_cons (se_ixX (u64 hr) (se_var 2 (pv 2)) (se_int)) (sa_nil))) (sa_nil))) (fun _ _ _ _ _ _ us hl => match us, hl with | [_, _], _ => rfl) (len_cons (len_cons len_nil)))) (ss_cons (s_set sc__law_loads_ok.nd rfl (by first | exact .inl rfl | exact .inr rfl) (se_call Z.ok__law_grow (takes_of rfl rfl rfl rfl) (rmono hr (by decide)) (by rfl) (sa_cons (se_tup (sa_cons (se_int) (sa_cons (se_int) (sa_nil))) (len_cons (len_cons len_nil))) (sa_cons (se_ixX (u64 hr) (se_var 2 (pv 2)) (se_int)) (sa_cons (se_var 6 (pv 6)) (sa_nil)))) (fun _ _ _ _ _ _ us hl => match us, hl with | [_, _, _], _ => rfl) (len_cons (len_cons (len_cons len_nil))))) (ss_cons (s_set sc__law_loads_ok.nd rfl (by first | exact .inl rfl | exact .inr rfl) (se_and (se_call Z.ok__law_held (takes_of rfl rfl rfl rfl) (rmono hr (by decide)) (by rfl) (sa_cons (se_ixX (u64 hr) (se_var 2 (pv 2)) (se_int)) (sa_cons (se_var 6 (pv 6)) (sa_nil))) (fun _ _ _ _ _ _ us hl => match us, hl with | [_, _], _ => rfl) (len_cons (len_cons len_nil))) (se_one (se_call Z.ok__law_held (takes_of rfl rfl rfl rfl) (rmono hr (by decide)) (by rfl) (sa_cons (se_ixX (u64 hr) (se_var 2 (pv 2)) (se_int)) (sa_cons (se_var 7 (pv 7)) (sa_nil))) (fun _ _ _ _ _ _ us hl => match us, hl with | [_, _], _ => rfl) (len_cons (len_cons len_nil)))))) (ss_cons (s_if (tcmp (o_ne (u65 hr)) (se_call Z.ok_end_size (takes_of rfl rfl rfl rfl) (rmono hr (by decide)) (by rfl) (sa_cons (se_var 4 (pv 4)) (sa_cons (se_var 6 (pv 6)) (sa_nil))) (fun _ _ _ _ _ _ us hl => match us, hl with | [_, _], _ => rfl) (len_cons (len_cons len_nil))) (se_ifE (st_val (se_var 8 (pv 8))) (se_var 7 (pv 7)) (se_non))) (ss_one (s_ret (se_bl))) (ss_nil)) (ss_one (s_if (tcmp (o_ne (u65 hr)) (se_call Z.ok_end_size (takes_of rfl rfl rfl rfl) (rmono hr (by decide)) (by rfl) (sa_cons (se_var 3 (pv 3)) (sa_cons (se_var 6 (pv 6)) (sa_nil))) (fun _ _ _ _ _ _ us hl => match us, hl with | [_, _], _ => rfl) (len_cons (len_cons len_nil))) (se_ifE (st_val (se_call Z.ok__law_held (takes_of rfl rfl rfl rfl) (rmono hr (by decide)) (by rfl) (sa_cons (se_ixX (u64 hr) (se_var 2 (pv 2)) (se_int)) (sa_cons (se_var 6 (pv 6)) (sa_nil))) (fun _ _ _ _ _ _ us hl => match us, hl with | [_, _], _ => rfl) (len_cons (len_cons len_nil)))) (se_var 6 (pv 6)) (se_non))) (ss_one (s_ret (se_bl))) (ss_nil)))))))) (ss_one (s_ret (se_bl)))))⟩
theorem Z.ok__law_refused (Z : Z C base) : FV C C.P C.w base 10 "_law_refused" s__law_refused ["_law_draw", "_law_first", "_law_one"] den__law_refused := by
  obtain ⟨fd, F⟩ := Z.fd__law_refused
  refine fv_ofL (k := 9) (N := ["_law_draw", "_law_first", "_law_one", "_law_bad", "_law_worse", "_law_found", "_law_item"]) (pin := [0, 1, 2]) (m := m__law_refused) F sc__law_refused Z.glo__law_refused (by decide) ?_
  intro A outer s H E hr
  exact ⟨_, ss_cons (s_set sc__law_refused.nd rfl (by first | exact .inl rfl | exact .inr rfl) (se_call Z.ok__law_pick (takes_of rfl rfl rfl rfl) (rmono hr (by decide)) (by rfl) (sa_cons (se_var 0 (pv 0)) (sa_cons (se_lst (sa_cons (se_non) (sa_cons (se_int) (sa_cons (se_tup (sa_cons (se_int) (sa_nil)) (len_cons len_nil)) (sa_cons (se_tup (sa_cons (se_int) (sa_cons (se_tup (sa_cons (se_int) (sa_nil)) (len_cons len_nil)) (sa_nil))) (len_cons (len_cons len_nil))) (sa_cons (se_tup (sa_cons (se_bl) (sa_cons (se_tup (sa_cons (se_int) (sa_cons (se_int) (sa_nil))) (len_cons (len_cons len_nil))) (sa_nil))) (len_cons (len_cons len_nil))) (sa_cons (se_tup (sa_cons (se_neg (se_int)) (sa_cons (se_tup (sa_cons (se_int) (sa_cons (se_int) (sa_nil))) (len_cons (len_cons len_nil))) (sa_nil))) (len_cons (len_cons len_nil))) (sa_cons (se_lst (sa_cons (se_int) (sa_cons (se_tup (sa_cons (se_int) (sa_cons (se_int) (sa_nil))) (len_cons (len_cons len_nil))) (sa_nil))) (len_cons (len_cons len_nil))) (sa_cons (se_tup (sa_cons (se_int) (sa_cons (se_tup (sa_cons (se_int) (sa_cons (se_bl) (sa_nil))) (len_cons (len_cons len_nil))) (sa_nil))) (len_cons (len_cons len_nil))) (sa_cons (se_tup (sa_cons (se_int) (sa_cons (se_tup (sa_cons (se_int) (sa_cons (se_int) (sa_nil))) (len_cons (len_cons len_nil))) (sa_cons (se_int) (sa_nil)))) (len_cons (len_cons (len_cons len_nil)))) (sa_nil)))))))))) (len_cons (len_cons (len_cons (len_cons (len_cons (len_cons (len_cons (len_cons (len_cons len_nil)))))))))) (sa_nil))) (fun _ _ _ _ _ _ us hl => match us, hl with | [_, _], _ => rfl) (len_cons (len_cons len_nil)))) (ss_cons (s_set sc__law_refused.nd rfl (by first | exact .inl rfl | exact .inr rfl) (se_call Z.ok__law_pick (takes_of rfl rfl rfl rfl) (rmono hr (by decide)) (by rfl) (sa_cons (se_var 0 (pv 0)) (sa_cons (se_lst (sa_cons (se_non) (sa_cons (se_tup (sa_cons (se_int) (sa_cons (se_int) (sa_nil))) (len_cons (len_cons len_nil))) (sa_cons (se_tup (sa_cons (se_int) (sa_cons (se_bl) (sa_nil))) (len_cons (len_cons len_nil))) (sa_cons (se_lst (sa_cons (se_int) (sa_cons (se_int) (sa_nil))) (len_cons (len_cons len_nil))) (sa_cons (se_int) (sa_nil)))))) (len_cons (len_cons (len_cons (len_cons (len_cons len_nil)))))) (sa_nil))) (fun _ _ _ _ _ _ us hl => match us, hl with | [_, _], _ => rfl) (len_cons (len_cons len_nil)))) (ss_cons (s_set sc__law_refused.nd rfl (by first | exact .inl rfl | exact .inr rfl) (se_lst (sa_cons (se_isi (u := .own "BadStart") Z.ko (by rfl) Z.free_isinstance (.own Z.glo_BadStart) (pe_glob (by rfl) Z.glo_BadStart rfl) (se_caught (k := 5) Z.fd__law_caught Z.glo__law_caught sc__law_caught rfl (.inl rfl) (fun _ _ _ _ _ _ us hl => match us, hl with | [_], _ => rfl) (fun _ => caught_gives rfl rfl rfl (by decide) Z.glo_GapError (by decide) (by decide) (by decide) (by decide) (by decide)) Z.cx (by rfl) Z.tb__law_refused (by rfl) Z.tT__law_refused Z.tU__law_refused (rmono hr (by decide)) (by exact LamX.lamS_by (sc := defScope s__law_refused) (by decide +kernel)) (fun A outer s H E f c' hr => se_make Z.cm_Form Z.ok_Form___init__ (takes_of rfl rfl rfl rfl) free_of (rmono hr (by decide)) (by rfl) (sa_cons (se_var 3 (pv 3)) (sa_cons (se_var 3 (pv 3)) (sa_cons (se_int) (sa_cons (se_int) (sa_cons (se_int) (sa_nil)))))) (fun _ _ _ _ _ _ us hl => match us, hl with | [_, _, _, _, _, _], _ => rfl) (len_cons (len_cons (len_cons (len_cons (len_cons len_nil)))))) (fun _ _ _ _ _ => rfl))) (sa_cons (se_isi (u := .own "BadEnd") Z.ko (by rfl) Z.free_isinstance (.own Z.glo_BadEnd) (pe_glob (by rfl) Z.glo_BadEnd rfl) (se_caught (k := 5) Z.fd__law_caught Z.glo__law_caught sc__law_caught rfl (.inl rfl) (fun _ _ _ _ _ _ us hl => match us, hl with | [_], _ => rfl) (fun _ => caught_gives rfl rfl rfl (by decide) Z.glo_GapError (by decide) (by decide) (by decide) (by decide) (by decide)) Z.cx (by rfl) Z.tb__law_refused (by rfl) Z.tT__law_refused Z.tU__law_refused (rmono hr (by decide)) (by exact LamX.lamS_by (sc := defScope s__law_refused) (by decide +kernel)) (fun A outer s H E f c' hr => se_make Z.cm_Form Z.ok_Form___init__ (takes_of rfl rfl rfl rfl) free_of (rmono hr (by decide)) (by rfl) (sa_cons (se_tup (sa_cons (se_int) (sa_cons (se_tup (sa_cons (se_int) (sa_cons (se_int) (sa_nil))) (len_cons (len_cons len_nil))) (sa_nil))) (len_cons (len_cons len_nil))) (sa_cons (se_var 3 (pv 3)) (sa_cons (se_int) (sa_cons (se_int) (sa_cons (se_int) (sa_nil)))))) (fun _ _ _ _ _ _ us hl => match us, hl with | [_, _, _, _, _, _], _ => rfl) (len_cons (len_cons (len_cons (len_cons (len_cons len_nil)))))) (fun _ _ _ _ _ => rfl))) (sa_cons (se_isi (u := .own "BadStairs") Z.ko (by rfl) Z.free_isinstance (.own Z.glo_BadStairs) (pe_glob (by rfl) Z.glo_BadStairs rfl) (se_caught (k := 5) Z.fd__law_caught Z.glo__law_caught sc__law_caught rfl (.inl rfl) (fun _ _ _ _ _ _ us hl => match us, hl with | [_], _ => rfl) (fun _ => caught_gives rfl rfl rfl (by decide) Z.glo_GapError (by decide) (by decide) (by decide) (by decide) (by decide)) Z.cx (by rfl) Z.tb__law_refused (by rfl) Z.tT__law_refused Z.tU__law_refused (rmono hr (by decide)) (by exact LamX.lamS_by (sc := defScope s__law_refused) (by decide +kernel)) (fun A outer s H E f c' hr => se_make Z.cm_Form Z.ok_Form___init__ (takes_of rfl rfl rfl rfl) free_of (rmono hr (by decide)) (by rfl) (sa_cons (se_tup (sa_cons (se_int) (sa_cons (se_tup (sa_cons (se_int) (sa_cons (se_int) (sa_nil))) (len_cons (len_cons len_nil))) (sa_nil))) (len_cons (len_cons len_nil))) (sa_cons (se_tup (sa_cons (se_int) (sa_cons (se_tup (sa_cons (se_int) (sa_cons (se_int) (sa_nil))) (len_cons (len_cons len_nil))) (sa_nil))) (len_cons (len_cons len_nil))) (sa_cons (se_var 4 (pv 4)) (sa_cons (se_int) (sa_cons (se_int) (sa_nil)))))) (fun _ _ _ _ _ _ us hl => match us, hl with | [_, _, _, _, _, _], _ => rfl) (len_cons (len_cons (len_cons (len_cons (len_cons len_nil)))))) (fun _ _ _ _ _ => rfl))) (sa_cons (se_isi (u := .own "BadLeast") Z.ko (by rfl) Z.free_isinstance (.own Z.glo_BadLeast) (pe_glob (by rfl) Z.glo_BadLeast rfl) (se_caught (k := 5) Z.fd__law_caught Z.glo__law_caught sc__law_caught rfl (.inl rfl) (fun _ _ _ _ _ _ us hl => match us, hl with | [_], _ => rfl) (fun _ => caught_gives rfl rfl rfl (by decide) Z.glo_GapError (by decide) (by decide) (by decide) (by decide) (by decide)) Z.cx (by rfl) Z.tb__law_refused (by rfl) Z.tT__law_refused Z.tU__law_refused (rmono hr (by decide)) (by exact LamX.lamS_by (sc := defScope s__law_refused) (by decide +kernel)) (fun A outer s H E f c' hr => se_make Z.cm_Form Z.ok_Form___init__ (takes_of rfl rfl rfl rfl) free_of (rmono hr (by decide)) (by rfl) (sa_cons (se_tup (sa_cons (se_int) (sa_cons (se_tup (sa_cons (se_int) (sa_cons (se_int) (sa_nil))) (len_cons (len_cons len_nil))) (sa_nil))) (len_cons (len_cons len_nil))) (sa_cons (se_tup (sa_cons (se_int) (sa_cons (se_tup (sa_cons (se_int) (sa_cons (se_int) (sa_nil))) (len_cons (len_cons len_nil))) (sa_nil))) (len_cons (len_cons len_nil))) (sa_cons (se_ixX (u64 hr) (se_var 2 (pv 2)) (se_int)) (sa_cons (se_var 4 (pv 4)) (sa_cons (se_int) (sa_nil)))))) (fun _ _ _ _ _ _ us hl => match us, hl with | [_, _, _, _, _, _], _ => rfl) (len_cons (len_cons (len_cons (len_cons (len_cons len_nil)))))) (fun _ _ _ _ _ => rfl))) (sa_cons (se_isi (u := .own "BadBy") Z.ko (by rfl) Z.free_isinstance (.own Z.glo_BadBy) (pe_glob (by rfl) Z.glo_BadBy rfl) (se_caught (k := 5) Z.fd__law_caught Z.glo__law_caught sc__law_caught rfl (.inl rfl) (fun _ _ _ _ _ _ us hl => match us, hl with | [_], _ => rfl) (fun _ => caught_gives rfl rfl rfl (by decide) Z.glo_GapError (by decide) (by decide) (by decide) (by decide) (by decide)) Z.cx (by rfl) Z.tb__law_refused (by rfl) Z.tT__law_refused Z.tU__law_refused (rmono hr (by decide)) (by exact LamX.lamS_by (sc := defScope s__law_refused) (by decide +kernel)) (fun A outer s H E f c' hr => se_make Z.cm_Form Z.ok_Form___init__ (takes_of rfl rfl rfl rfl) free_of (rmono hr (by decide)) (by rfl) (sa_cons (se_tup (sa_cons (se_int) (sa_cons (se_tup (sa_cons (se_int) (sa_cons (se_int) (sa_nil))) (len_cons (len_cons len_nil))) (sa_nil))) (len_cons (len_cons len_nil))) (sa_cons (se_tup (sa_cons (se_int) (sa_cons (se_tup (sa_cons (se_int) (sa_cons (se_int) (sa_nil))) (len_cons (len_cons len_nil))) (sa_nil))) (len_cons (len_cons len_nil))) (sa_cons (se_ixX (u64 hr) (se_var 2 (pv 2)) (se_int)) (sa_cons (se_ixX (u64 hr) (se_var 2 (pv 2)) (se_int)) (sa_cons (se_int) (sa_nil)))))) (fun _ _ _ _ _ _ us hl => match us, hl with | [_, _, _, _, _, _], _ => rfl) (len_cons (len_cons (len_cons (len_cons (len_cons len_nil)))))) (fun _ _ _ _ _ => rfl))) (sa_cons (se_isi (u := .own "BadPlace") Z.ko (by rfl) Z.free_isinstance (.own Z.glo_BadPlace) (pe_glob (by rfl) Z.glo_BadPlace rfl) (se_caught (k := 6) Z.fd__law_caught Z.glo__law_caught sc__law_caught rfl (.inl rfl) (fun _ _ _ _ _ _ us hl => match us, hl with | [_], _ => rfl) (fun _ => caught_gives rfl rfl rfl (by decide) Z.glo_GapError (by decide) (by decide) (by decide) (by decide) (by decide)) Z.cx (by rfl) Z.tb__law_refused (by rfl) Z.tT__law_refused Z.tU__law_refused (rmono hr (by decide)) (by exact LamX.lamS_by (sc := defScope s__law_refused) (by decide +kernel)) (fun A outer s H E f c' hr => se_call Z.ok_still (takes_of rfl rfl rfl rfl) (rmono hr (by decide)) (by rfl) (sa_cons (se_var 3 (pv 3)) (sa_cons (se_int) (sa_nil))) (fun _ _ _ _ _ _ us hl => match us, hl with | [_, _], _ => rfl) (len_cons (len_cons len_nil))) (fun _ _ _ _ _ => rfl))) (sa_cons (se_isi (u := .own "BadStairs") Z.ko (by rfl) Z.free_isinstance (.own Z.glo_BadStairs) (pe_glob (by rfl) Z.glo_BadStairs rfl) (se_caught (k := 6) Z.fd__law_caught Z.glo__law_caught sc__law_caught rfl (.inl rfl) (fun _ _ _ _ _ _ us hl => match us, hl with | [_], _ => rfl) (fun _ => caught_gives rfl rfl rfl (by decide) Z.glo_GapError (by decide) (by decide) (by decide) (by decide) (by decide)) Z.cx (by rfl) Z.tb__law_refused (by rfl) Z.tT__law_refused Z.tU__law_refused (rmono hr (by decide)) (by exact LamX.lamS_by (sc := defScope s__law_refused) (by decide +kernel)) (fun A outer s H E f c' hr => se_call Z.ok_still (takes_of rfl rfl rfl rfl) (rmono hr (by decide)) (by rfl) (sa_cons (se_tup (sa_cons (se_int) (sa_cons (se_tup (sa_cons (se_int) (sa_cons (se_int) (sa_nil))) (len_cons (len_cons len_nil))) (sa_nil))) (len_cons (len_cons len_nil))) (sa_cons (se_var 4 (pv 4)) (sa_nil))) (fun _ _ _ _ _ _ us hl => match us, hl with | [_, _], _ => rfl) (len_cons (len_cons len_nil))) (fun _ _ _ _ _ => rfl))) (sa_cons (se_isi (u := .own "BadPlace") Z.ko (by rfl) Z.free_isinstance (.own Z.glo_BadPlace) (pe_glob (by rfl) Z.glo_BadPlace rfl) (se_caught (k := 6) Z.fd__law_caught Z.glo__law_caught sc__law_caught rfl (.inl rfl) (fun _ _ _ _ _ _ us hl => match us, hl with | [_], _ => rfl) (fun _ => caught_gives rfl rfl rfl (by decide) Z.glo_GapError (by decide) (by decide) (by decide) (by decide) (by decide)) Z.cx (by rfl) Z.tb__law_refused (by rfl) Z.tT__law_refused Z.tU__law_refused (rmono hr (by decide)) (by exact LamX.lamS_by (sc := defScope s__law_refused) (by decide +kernel)) (fun A outer s H E f c' hr => se_call Z.ok_load_form (takes_of rfl rfl rfl rfl) (rmono hr (by decide)) (by rfl) (sa_cons (se_var 3 (pv 3)) (sa_cons (se_int) (sa_cons (se_int) (sa_nil)))) (fun _ _ _ _ _ _ us hl => match us, hl with | [_, _, _], _ => rfl) (len_cons (len_cons (len_cons len_nil)))) (fun _ _ _ _ _ => rfl))) (sa_cons (se_or (se_isi (u := .own "BadBy") Z.ko (by rfl) Z.free_isinstance (.own Z.glo_BadBy) (pe_glob (by rfl) Z.glo_BadBy rfl) (se_caught (k := 6) Z.fd__law_caught Z.glo__law_caught sc__law_caught rfl (.inl rfl) (fun _ _ _ _ _ _ us hl => match us, hl with | [_], _ => rfl) (fun _ => caught_gives rfl rfl rfl (by decide) Z.glo_GapError (by decide) (by decide) (by decide) (by decide) (by decide)) Z.cx (by rfl) Z.tb__law_refused (by rfl) Z.tT__law_refused Z.tU__law_refused (rmono hr (by decide)) (by exact LamX.lamS_by (sc := defScope s__law_refused) (by decide +kernel)) (fun A outer s H E f c' hr => se_call Z.ok_load_form (takes_of rfl rfl rfl rfl) (rmono hr (by decide)) (by rfl) (sa_cons (se_tup (sa_cons (se_int) (sa_cons (se_tup (sa_cons (se_int) (sa_cons (se_int) (sa_nil))) (len_cons (len_cons len_nil))) (sa_nil))) (len_cons (len_cons len_nil))) (sa_cons (se_ixX (u64 hr) (se_var 2 (pv 2)) (se_int)) (sa_cons (se_var 4 (pv 4)) (sa_nil)))) (fun _ _ _ _ _ _ us hl => match us, hl with | [_, _, _], _ => rfl) (len_cons (len_cons (len_cons len_nil)))) (fun _ _ _ _ _ => rfl))) (se_one (cmp (o_eq (u65 hr)) (se_var 4 (pv 4)) (se_tup (sa_cons (se_int) (sa_cons (se_int) (sa_nil))) (len_cons (len_cons len_nil)))))) (sa_cons (se_isi (u := .own "BadForm") Z.ko (by rfl) Z.free_isinstance (.own Z.glo_BadForm) (pe_glob (by rfl) Z.glo_BadForm rfl) (se_caught (k := 7) Z.fd__law_caught Z.glo__law_caught sc__law_caught rfl (.inl rfl) (fun _ _ _ _ _ _ us hl => match us, hl with | [_], _ => rfl) (fun _ => caught_gives rfl rfl rfl (by decide) Z.glo_GapError (by decide) (by decide) (by decide) (by decide) (by decide)) Z.cx (by rfl) Z.tb__law_refused (by rfl) Z.tT__law_refused Z.tU__law_refused (rmono hr (by decide)) (by exact LamX.lamS_by (sc := defScope s__law_refused) (by decide +kernel)) (fun A outer s H E f c' hr => se_call Z.ok_end_size (takes_of rfl rfl rfl rfl) (rmono hr (by decide)) (by rfl) (sa_cons (se_var 2 (pv 2)) (sa_cons (se_var 4 (pv 4)) (sa_nil))) (fun _ _ _ _ _ _ us hl => match us, hl with | [_, _], _ => rfl) (len_cons (len_cons len_nil))) (fun _ _ _ _ _ => rfl))) (sa_cons (se_isi (u := .own "BadBody") Z.ko (by rfl) Z.free_isinstance (.own Z.glo_BadBody) (pe_glob (by rfl) Z.glo_BadBody rfl) (se_caught (k := 7) Z.fd__law_caught Z.glo__law_caught sc__law_caught rfl (.inl rfl) (fun _ _ _ _ _ _ us hl => match us, hl with | [_], _ => rfl) (fun _ => caught_gives rfl rfl rfl (by decide) Z.glo_GapError (by decide) (by decide) (by decide) (by decide) (by decide)) Z.cx (by rfl) Z.tb__law_refused (by rfl) Z.tT__law_refused Z.tU__law_refused (rmono hr (by decide)) (by exact LamX.lamS_by (sc := defScope s__law_refused) (by decide +kernel)) (fun A outer s H E f c' hr => se_call Z.ok_end_size (takes_of rfl rfl rfl rfl) (rmono hr (by decide)) (by rfl) (sa_cons (se_var 1 (pv 1)) (sa_cons (se_var 4 (pv 4)) (sa_nil))) (fun _ _ _ _ _ _ us hl => match us, hl with | [_, _], _ => rfl) (len_cons (len_cons len_nil))) (fun _ _ _ _ _ => rfl))) (sa_nil)))))))))))) (len_cons (len_cons (len_cons (len_cons (len_cons (len_cons (len_cons (len_cons (len_cons (len_cons (len_cons len_nil))))))))))))) (ss_one (s_ret (cmp (o_eq (u65 hr)) (se_lc (own := [("_law_item", 6)]) rfl sc__law_refused.nd (si_seq (se_var 5 (pv 5))) (by exact blkOk_by (N := ["_law_draw", "_law_first", "_law_one", "_law_bad", "_law_worse", "_law_found", "_law_item"]) (sc := defScope s__law_refused) (own := [("_law_item", 6)]) (by decide +kernel)) (fun _ _ _ _ _ => pg_name (i := 6) sc__law_refused.nd rfl (by first | exact .inl rfl | exact .inr rfl)) (sg_name (P := []) (i := 6) (by decide)) (fun _ _ _ _ _ => sq_one (st_not (st_val (se_var 6 (pv 6))))) (fun _ _ _ _ _ => se_int)) (se_lst (sa_nil) len_nil))))))⟩
theorem Z.ok_law (Z : Z C base) {fd : FuncData} (F : FunD C.K "law" "law" (defArgs s_law) (defBody s_law) (defScope s_law) [] [] (He.ga C.K "law") fd) : FnOk C.P C.w C.K C.mg base (L2.CX C.P C.w) 11 (He.ga C.K "law") fd ["_law_script"] (spD C 1 den_law) := by
  refine (fd_ofF (k := 10) (N := ["_law_script", "_law_draw", "_law_start", "_law_end", "_law_one", "_law_other", "_law_first", "_law_second", "_law_least_here", "_law_by", "_law_told", "_law_k", "_law_most", "_law_lap", "_law_body", "_law_due"]) (pin := [0]) (m := m_law) F sc_law (by decide) ?_).1
  intro cdv _ A outer s H E hr
  exact ⟨_, ss_cons (s_set sc_law.nd rfl (by first | exact .inl rfl | exact .inr rfl) (se_call Z.ok__law_begun (takes_of rfl rfl rfl rfl) (rmono hr (by decide)) (by rfl) (sa_cons (se_var 0 (pv 0)) (sa_nil)) (fun _ _ _ _ _ _ us hl => match us, hl with | [_], _ => rfl) (len_cons len_nil))) (ss_cons (s_par rfl sc_law.nd rfl rfl (se_tup (sa_cons (se_call Z.ok__law_take (takes_of rfl rfl rfl rfl) (rmono hr (by decide)) (by rfl) (sa_cons (se_var 1 (pv 1)) (sa_cons (se_int) (sa_nil))) (fun _ _ _ _ _ _ us hl => match us, hl with | [_, _], _ => rfl) (len_cons (len_cons len_nil))) (sa_cons (se_tup (sa_cons (se_call Z.ok__law_take (takes_of rfl rfl rfl rfl) (rmono hr (by decide)) (by rfl) (sa_cons (se_var 1 (pv 1)) (sa_cons (se_int) (sa_nil))) (fun _ _ _ _ _ _ us hl => match us, hl with | [_, _], _ => rfl) (len_cons (len_cons len_nil))) (sa_cons (se_neg (se_int)) (sa_nil))) (len_cons (len_cons len_nil))) (sa_nil))) (len_cons (len_cons len_nil))) (se_tup (sa_cons (se_call Z.ok__law_take (takes_of rfl rfl rfl rfl) (rmono hr (by decide)) (by rfl) (sa_cons (se_var 1 (pv 1)) (sa_cons (se_int) (sa_nil))) (fun _ _ _ _ _ _ us hl => match us, hl with | [_, _], _ => rfl) (len_cons (len_cons len_nil))) (sa_cons (se_tup (sa_cons (se_call Z.ok__law_take (takes_of rfl rfl rfl rfl) (rmono hr (by decide)) (by rfl) (sa_cons (se_var 1 (pv 1)) (sa_cons (se_int) (sa_nil))) (fun _ _ _ _ _ _ us hl => match us, hl with | [_, _], _ => rfl) (len_cons (len_cons len_nil))) (sa_cons (se_neg (se_int)) (sa_nil))) (len_cons (len_cons len_nil))) (sa_nil))) (len_cons (len_cons len_nil))) (by rfl)) (ss_cons (s_set sc_law.nd rfl (by first | exact .inl rfl | exact .inr rfl) (se_call Z.ok__law_changed (takes_of rfl rfl rfl rfl) (rmono hr (by decide)) (by rfl) (sa_cons (se_var 1 (pv 1)) (sa_cons (se_call Z.ok__law_raw (takes_of rfl rfl rfl rfl) (rmono hr (by decide)) (by rfl) (sa_cons (se_var 1 (pv 1)) (sa_nil)) (fun _ _ _ _ _ _ us hl => match us, hl with | [_], _ => rfl) (len_cons len_nil)) (sa_nil))) (fun _ _ _ _ _ _ us hl => match us, hl with | [_, _], _ => rfl) (len_cons (len_cons len_nil)))) (ss_cons (s_set sc_law.nd rfl (by first | exact .inl rfl | exact .inr rfl) (se_ifE (tcmp (o_eq (u65 hr)) (se_call Z.ok__law_take (takes_of rfl rfl rfl rfl) (rmono hr (by decide)) (by rfl) (sa_cons (se_var 1 (pv 1)) (sa_cons (se_int) (sa_nil))) (fun _ _ _ _ _ _ us hl => match us, hl with | [_, _], _ => rfl) (len_cons (len_cons len_nil))) (se_int)) (se_call Z.ok__law_changed (takes_of rfl rfl rfl rfl) (rmono hr (by decide)) (by rfl) (sa_cons (se_var 1 (pv 1)) (sa_cons (se_var 4 (pv 4)) (sa_nil))) (fun _ _ _ _ _ _ us hl => match us, hl with | [_, _], _ => rfl) (len_cons (len_cons len_nil))) (se_call Z.ok__law_raw (takes_of rfl rfl rfl rfl) (rmono hr (by decide)) (by rfl) (sa_cons (se_var 1 (pv 1)) (sa_nil)) (fun _ _ _ _ _ _ us hl => match us, hl with | [_], _ => rfl) (len_cons len_nil)))) (ss_cons (s_set sc_law.nd rfl (by first | exact .inl rfl | exact .inr rfl) (se_makeK0 (ks := ["start", "end", "stairs", "least", "by"]) Z.cm_Form Z.ok_Form___init__ (takes_of rfl rfl rfl rfl) free_of (rmono hr (by decide)) (by rfl) (sk_cons (se_var 2 (pv 2)) (sk_cons (se_var 3 (pv 3)) (sk_cons (se_ixX (u64 hr) (se_var 4 (pv 4)) (se_int)) (sk_cons (se_ixX (u64 hr) (se_var 4 (pv 4)) (se_int)) (sk_cons (se_ixX (u64 hr) (se_var 4 (pv 4)) (se_int)) (sk_nil)))))) (fun _ _ _ _ _ _ us ws h1 h2 => match us, ws, h1, h2 with | [_], [_, _, _, _, _], _, _ => rfl) (len_cons (len_cons (len_cons (len_cons (len_cons len_nil))))))) (ss_cons (s_set sc_law.nd rfl (by first | exact .inl rfl | exact .inr rfl) (se_make Z.cm_Form Z.ok_Form___init__ (takes_of rfl rfl rfl rfl) free_of (rmono hr (by decide)) (by rfl) (sa_cons (se_var 2 (pv 2)) (sa_cons (se_var 3 (pv 3)) (sa_cons (se_ixX (u64 hr) (se_var 5 (pv 5)) (se_int)) (sa_cons (se_ixX (u64 hr) (se_var 5 (pv 5)) (se_int)) (sa_cons (se_ixX (u64 hr) (se_var 5 (pv 5)) (se_int)) (sa_nil)))))) (fun _ _ _ _ _ _ us hl => match us, hl with | [_, _, _, _, _, _], _ => rfl) (len_cons (len_cons (len_cons (len_cons (len_cons len_nil))))))) (ss_cons (s_if ((sw_or (tcmp (o_ne (u65 hr)) (se_eqI Z.glo_Form Z.eqi_Form Z.ok_Form___eq__ (rmono hr (by decide)) (se_var 6 (pv 6)) (se_var 7 (pv 7)) (fun _ _ _ _ _ _ us hl => match us, hl with | [_, _], _ => rfl)) (se_call Z.ok__law_same_doing (takes_of rfl rfl rfl rfl) (rmono hr (by decide)) (by rfl) (sa_cons (se_var 4 (pv 4)) (sa_cons (se_var 5 (pv 5)) (sa_nil))) (fun _ _ _ _ _ _ us hl => match us, hl with | [_, _], _ => rfl) (len_cons (len_cons len_nil)))) (sw_or1 (st_eqI Z.glo_Form Z.eqi_Form Z.ok_Form___eq__ (rmono hr (by decide)) (se_var 6 (pv 6)) (se_var 4 (pv 4)) (fun _ _ _ _ _ _ us hl => match us, hl with | [_, _], _ => rfl)))).t) (ss_one (s_ret (se_bl))) (ss_nil)) (ss_cons (s_if (tcmp (o_ne (u65 hr)) (se_eqI Z.glo_Form Z.eqi_Form Z.ok_Form___eq__ (rmono hr (by decide)) (se_var 6 (pv 6)) (se_make Z.cm_Form Z.ok_Form___init__ (takes_of rfl rfl rfl rfl) free_of (rmono hr (by decide)) (by rfl) (sa_cons (se_var 3 (pv 3)) (sa_cons (se_var 3 (pv 3)) (sa_cons (se_ixX (u64 hr) (se_var 4 (pv 4)) (se_int)) (sa_cons (se_ixX (u64 hr) (se_var 4 (pv 4)) (se_int)) (sa_cons (se_ixX (u64 hr) (se_var 4 (pv 4)) (se_int)) (sa_nil)))))) (fun _ _ _ _ _ _ us hl => match us, hl with | [_, _, _, _, _, _], _ => rfl) (len_cons (len_cons (len_cons (len_cons (len_cons len_nil)))))) (fun _ _ _ _ _ _ us hl => match us, hl with | [_, _], _ => rfl)) (cmp (o_eq (u65 hr)) (se_var 2 (pv 2)) (se_var 3 (pv 3)))) (ss_one (s_ret (se_bl))) (ss_nil)) (ss_cons (s_if ((sw_or (tcmp (o_ne (u65 hr)) (se_fld Z.cf (se_var 6 (pv 6))) (se_var 2 (pv 2))) (sw_or (tcmp (o_ne (u65 hr)) (se_fld Z.cf (se_var 6 (pv 6))) (se_var 3 (pv 3))) (sw_or1 (tcmp (o_ne (u65 hr)) (se_fld Z.cf (se_var 6 (pv 6))) (se_ixX (u64 hr) (se_var 4 (pv 4)) (se_int)))))).t) (ss_one (s_ret (se_bl))) (ss_nil)) (ss_cons (s_asg (se_tup (sa_cons (se_tup (sa_cons (se_int) (sa_cons (se_int) (sa_nil))) (len_cons (len_cons len_nil))) (sa_cons (se_tup (sa_cons (se_int) (sa_cons (se_int) (sa_nil))) (len_cons (len_cons len_nil))) (sa_nil))) (len_cons (len_cons len_nil))) (pgK (g := fun K => gTup K 2 _) (pg_tup (by rfl) (pgs_cons (pg_name (i := 8) sc_law.nd rfl (by first | exact .inl rfl | exact .inr rfl)) (pgs_cons (pg_name (i := 9) sc_law.nd rfl (by first | exact .inl rfl | exact .inr rfl)) (pgs_nil))))) (sg_tup (P := [0]) (is := [8, 9]) (n := 2) (by decide) rfl)) (ss_cons (s_if (tcmp (o_ne (u65 hr)) (se_ixX (u64 hr) (se_var 4 (pv 4)) (se_int)) (se_tup (sa_nil) len_nil)) (ss_cons (s_par rfl sc_law.nd rfl rfl (se_call Z.ok__law_grow (takes_of rfl rfl rfl rfl) (rmono hr (by decide)) (by rfl) (sa_cons (se_ixX (u64 hr) (se_var 4 (pv 4)) (se_int)) (sa_cons (se_ixX (u64 hr) (se_var 4 (pv 4)) (se_int)) (sa_cons (se_tup (sa_cons (se_int) (sa_cons (se_int) (sa_nil))) (len_cons (len_cons len_nil))) (sa_nil)))) (fun _ _ _ _ _ _ us hl => match us, hl with | [_, _, _], _ => rfl) (len_cons (len_cons (len_cons len_nil)))) (se_lst (sa_nil) len_nil) (by rfl)) (ss_cons (s_for rfl (passes_of rfl) (si_rng1 (by rfl) Z.free_range (sa_cons (se_int) (sa_nil))) (pg_name (i := 11) sc_law.nd rfl (by first | exact .inl rfl | exact .inr rfl)) (sg_name (P := [0]) (i := 11) (by decide)) (ss_cons (s_set sc_law.nd rfl (by first | exact .inl rfl | exact .inr rfl) (se_call Z.ok__law_reach (takes_of rfl rfl rfl rfl) (rmono hr (by decide)) (by rfl) (sa_cons (se_ixX (u64 hr) (se_var 4 (pv 4)) (se_int)) (sa_cons (se_var 11 (pv 11)) (sa_nil))) (fun _ _ _ _ _ _ us hl => match us, hl with | [_, _], _ => rfl) (len_cons (len_cons len_nil)))) (ss_one (s_expr (se_meth PySem.F.slot_list_append PySem.F.type_list_append mt_append rule_append (pv 10) (sa_cons (se_ifE (tcmp o_is (se_var 12 (pv 12)) (se_non)) (se_ixX (u64 hr) (se_ixX (u64 hr) (se_var 4 (pv 4)) (se_int)) (se_var 11 (pv 11))) (b_sub (fnb f_max Z.free_max (sa_cons (se_ixX (u64 hr) (se_ixX (u64 hr) (se_var 4 (pv 4)) (se_int)) (se_var 11 (pv 11))) (sa_cons (b_add (se_var 12 (pv 12)) (se_ixX (u64 hr) (se_ixX (u64 hr) (se_var 4 (pv 4)) (se_int)) (se_var 11 (pv 11)))) (sa_nil)))) (se_var 12 (pv 12)))) (sa_nil))))))) (ss_one (s_set sc_law.nd rfl (by first | exact .inl rfl | exact .inr rfl) (se_tup (sa_cons (se_ixX (u64 hr) (se_var 10 (pv 10)) (se_int)) (sa_cons (se_ixX (u64 hr) (se_var 10 (pv 10)) (se_int)) (sa_nil))) (len_cons (len_cons len_nil))))))) (ss_nil)) (ss_cons (s_if ((sw_or (tcmp (o_ne (u65 hr)) (se_fld Z.cf (se_var 6 (pv 6))) (se_var 8 (pv 8))) (sw_or (tcmp (o_ne (u65 hr)) (se_fld Z.cf (se_var 6 (pv 6))) (se_var 9 (pv 9))) (sw_or1 (st_neI Z.glo_Form Z.eqi_Form Z.ok_Form___eq__ (rmono hr (by decide)) (se_make Z.cm_Form Z.ok_Form___init__ (takes_of rfl rfl rfl rfl) free_of (rmono hr (by decide)) (by rfl) (sa_cons (se_var 2 (pv 2)) (sa_cons (se_var 3 (pv 3)) (sa_cons (se_ixX (u64 hr) (se_var 4 (pv 4)) (se_int)) (sa_cons (se_fld Z.cf (se_var 6 (pv 6))) (sa_cons (se_fld Z.cf (se_var 6 (pv 6))) (sa_nil)))))) (fun _ _ _ _ _ _ us hl => match us, hl with | [_, _, _, _, _, _], _ => rfl) (len_cons (len_cons (len_cons (len_cons (len_cons len_nil)))))) (se_var 6 (pv 6)) (fun _ _ _ _ _ _ us hl => match us, hl with | [_, _], _ => rfl))))).t) (ss_one (s_ret (se_bl))) (ss_nil)) (ss_cons (s_for rfl (passes_of rfl) (si_rng1 (by rfl) Z.free_range (sa_cons (se_int) (sa_nil))) (pg_name (i := 13) sc_law.nd rfl (by first | exact .inl rfl | exact .inr rfl)) (sg_name (P := [0]) (i := 13) (by decide)) (ss_cons (s_set sc_law.nd rfl (by first | exact .inl rfl | exact .inr rfl) (se_call Z.ok__law_beside (takes_of rfl rfl rfl rfl) (rmono hr (by decide)) (by rfl) (sa_cons (se_var 1 (pv 1)) (sa_cons (fnt f_list Z.free_list (sa_cons (se_ixX (u64 hr) (se_var 4 (pv 4)) (se_int)) (sa_nil))) (sa_nil))) (fun _ _ _ _ _ _ us hl => match us, hl with | [_, _], _ => rfl) (len_cons (len_cons len_nil)))) (ss_cons (s_set sc_law.nd rfl (by first | exact .inl rfl | exact .inr rfl) (se_ifE (st_val (se_call Z.ok__law_held (takes_of rfl rfl rfl rfl) (rmono hr (by decide)) (by rfl) (sa_cons (se_ixX (u64 hr) (se_var 4 (pv 4)) (se_int)) (sa_cons (se_var 14 (pv 14)) (sa_nil))) (fun _ _ _ _ _ _ us hl => match us, hl with | [_, _], _ => rfl) (len_cons (len_cons len_nil)))) (se_call Z.ok__law_grow (takes_of rfl rfl rfl rfl) (rmono hr (by decide)) (by rfl) (sa_cons (se_ixX (u64 hr) (se_var 4 (pv 4)) (se_int)) (sa_cons (se_ixX (u64 hr) (se_var 4 (pv 4)) (se_int)) (sa_cons (se_var 14 (pv 14)) (sa_nil)))) (fun _ _ _ _ _ _ us hl => match us, hl with | [_, _, _], _ => rfl) (len_cons (len_cons (len_cons len_nil)))) (se_non))) (ss_one (s_if (tcmp (o_ne (u65 hr)) (se_callK0 (ks := ["form", "body"]) Z.ok_end_size (takes_of rfl rfl rfl rfl) free_of (rmono hr (by decide)) (by rfl) (sk_cons (se_var 6 (pv 6)) (sk_cons (se_var 14 (pv 14)) (sk_nil))) (fun _ _ _ _ _ _ us ws h1 h2 => match us, ws, h1, h2 with | [], [_, _], _, _ => rfl) (len_cons (len_cons len_nil))) (se_var 15 (pv 15))) (ss_one (s_ret (se_bl))) (ss_nil)))))) (ss_one (s_ret (se_and (se_call Z.ok__law_loads_ok (takes_of rfl rfl rfl rfl) (rmono hr (by decide)) (by rfl) (sa_cons (se_var 1 (pv 1)) (sa_cons (se_var 2 (pv 2)) (sa_cons (se_var 4 (pv 4)) (sa_nil)))) (fun _ _ _ _ _ _ us hl => match us, hl with | [_, _, _], _ => rfl) (len_cons (len_cons (len_cons len_nil)))) (se_one (se_call Z.ok__law_refused (takes_of rfl rfl rfl rfl) (rmono hr (by decide)) (by rfl) (sa_cons (se_var 1 (pv 1)) (sa_cons (se_var 6 (pv 6)) (sa_cons (se_var 4 (pv 4)) (sa_nil)))) (fun _ _ _ _ _ _ us hl => match us, hl with | [_, _, _], _ => rfl) (len_cons (len_cons (len_cons len_nil))))))))))))))))))))⟩
theorem Z.ok_Form___mul__ (Z : Z C base) : FM C C.P C.w base 7 (He.ma C.K (He.ga C.K "Form") "__mul__") "Form.__mul__" "__mul__" s_Form___mul__ ["self", "other"] den_Form___mul__ := by
  obtain ⟨fd, F⟩ := Z.fd_Form___mul__
  refine ⟨fm_of (k := 6) (N := ["self", "other"]) (pin := [0, 1]) (m := m_Form___mul__) F sc_Form___mul__ (by decide) ?_⟩
  intro cdv A outer s H E hr
  exact ⟨_, ss_one (s_ret (se_call Z.ok_then (takes_of rfl rfl rfl rfl) (rmono hr (by decide)) (by rfl) (sa_cons (se_var 0 (pv 0)) (sa_cons (se_var 1 (pv 1)) (sa_nil))) (fun _ _ _ _ _ _ us hl => match us, hl with | [_, _], _ => rfl) (len_cons (len_cons len_nil))))⟩
theorem at_end (plain : ∀ ns : List Int, ns.length ≤ 63 → ∃ outs, den_law [.sc ns] = .ok (.d (.bl true)) outs) {w : World} {mg : PySem.Str → Option Value} {h : Heap} {K : PySem.W.Frag} (KX : K.In h) (G : h.Ns mainGlobals mg) (c : He.SaysX fa fn [] tf ex w h K) (at_ : Addr) (hm : mg "law" = some (.ref at_)) :
    LawAtS PySem.Challenge.rw_gapstairs_k86_forms_equal_if_they_do_the w K (L2.CX PySem.Challenge.rw_gapstairs_k86_forms_equal_if_they_do_the.prog w) 11 63 "_law_script" mg at_ h := by
  have e := hm.symm.trans (He.glo_ok KX G (c.t.d.fact 47 (f := .glo "law") rfl))
  cases e
  obtain ⟨fd, F⟩ := c.t.d.def_ 47 (d := d_law) rfl
  exact law_end2 (l := PySem.Challenge.rw_gapstairs_k86_forms_equal_if_they_do_the) (tf := tf) (den := den_law) (nm := nm) (T := tf.map fun p => ((He.cT K p).2, nm p)) c.empty c.out (fun p hp => PySem.W.codeHd_of_K KX (c.hd p hp)) rfl
    (fun s u => FunD.bindsA (ps := ["_law_script"]) F (fun _ _ _ _ _ _ us hl => match us, hl with | [_], _ => rfl) s [u] rfl)
    (fun base b1 b2 b3 => Z.ok_law (C := ⟨K, mg, tf.map fun p => ((He.cT K p).2, nm p), PySem.Challenge.rw_gapstairs_k86_forms_equal_if_they_do_the.prog, w⟩) ⟨c.t.d, ⟨h, KX, G⟩, c.more, b3, rfl⟩ F) plain
end
end HD
section
open PySem PySem.W PySem.Calls PyProof.Rows
theorem law_holds (plain : ∀ ns : List Int, ns.length ≤ 63 → ∃ outs, HD.den_law [.sc ns] = .ok (.d (.bl true)) outs) : PySem.Challenge.rw_gapstairs_k86_forms_equal_if_they_do_the.Holds := by
  w_on; o_law
  refine HandSHeadRun.head_any (r := OpenLaw.row PySem.Challenge.rw_gapstairs_k86_forms_equal_if_they_do_the) (q := view (OpenLaw.row PySem.Challenge.rw_gapstairs_k86_forms_equal_if_they_do_the).prog [65]) (H := HD.hk) (ob := HD.ob) (M := 6000) (loose := HD.loose) (d := HandSHeadRun.topDef (OpenLaw.row PySem.Challenge.rw_gapstairs_k86_forms_equal_if_they_do_the).prog 65) (kwd := []) HD.ob_eq
    (by kernel_rfl) (fun s => by kernel_rfl) HD.run (by kernel_rfl) (by kernel_rfl) (by kernel_rfl) (by rfl) (by first | assumption | decide +kernel) (by decide +kernel) ⟨rfl, rfl, rfl, rfl, rfl, by decide +kernel⟩ ?hw ?hc
  case hw => w_witness2
  case hc =>
    refine LamX.walk_ofTsE (l := PySem.Challenge.rw_gapstairs_k86_forms_equal_if_they_do_the) (n := 63) (k := 11) (x := "_law_script") (CX := fun w => L2.CX PySem.Challenge.rw_gapstairs_k86_forms_equal_if_they_do_the.prog w) rfl (by decide) (by kernel_rfl) ⟨rfl, by decide, by decide⟩ ?F (fun w H s e s' h => VS.cx_false w H s e s' h)
    intro w mg fa h Y G hmg0
    obtain ⟨K, KX, c⟩ := Y
    have hmg : mg ("law" : PySem.Str) = some (.ref fa) := by
      have e : (HandSHeadRun.topDef (OpenLaw.row PySem.Challenge.rw_gapstairs_k86_forms_equal_if_they_do_the).prog 65).name = ("law" : PySem.Str) := by kernel_rfl
      rw [← e]
      exact hmg0
    exact ⟨K, KX, HD.at_end plain KX G c fa hmg⟩
end


/-! P1: draws. -/
namespace HD
open PySem PySem.Spec PyProof.Rows L2 VS
/-- how often was drawn -/
def Tn (s : Draw) (n : Int) : Prop := 0 ≤ s.turn ∧ s.turn ≤ n
noncomputable abbrev mixB : M Fl := mSet 4 (mBin dMod (mFn fInt (mCons (mBin dAdd (mBin dAdd (mBin dMul (mVar 4) (M.ret (rSc (.int 69621)))) (mVar 5)) (mVar 1)) (M.ret []))) (mVar 3))
theorem mix_in {s : Draw} {t f p : Int} (hp : 0 < p) (hp2 : p < 2 ^ 32) : ∀ (cs : List Int) (b : Int) (x : Option SV), 0 ≤ b → b < 2 ^ 62 → ∃ b' x', 0 ≤ b' ∧ b' < 2 ^ 62 ∧
    forR (tgName 5) mixB (cs.map .int) [some (.dr s), some (.d (.int t)), some (.d (.int f)), some (.d (.int p)), some (.d (.int b)), x] = .ok .nx [some (.dr s), some (.d (.int t)), some (.d (.int f)), some (.d (.int p)), some (.d (.int b')), x']
  | [], b, x, h0, h1 => ⟨b, x, h0, h1, rfl⟩
  | c :: cs, b, x, h0, h1 => by
    have e1 : 0 ≤ (b * 69621 + c + t).fmod p := Int.fmod_nonneg_of_pos _ hp
    have e2 : (b * 69621 + c + t).fmod p < p := Int.fmod_lt_of_pos _ hp
    obtain ⟨b', x', g0, g1, g2⟩ := mix_in (s := s) (t := t) (f := f) hp hp2 cs ((b * 69621 + c + t).fmod p) (some (.d (.int c))) e1 (by omega)
    refine ⟨b', x', g0, g1, ?_⟩
    rw [List.map_cons, e_forC]
    have hm : (-(2 ^ 64) < b ∧ b < 2 ^ 64) ∨ (-(2 ^ 64) < (69621 : Int) ∧ (69621 : Int) < 2 ^ 64) := .inr (by decide)
    have hp0 : p ≠ 0 := by omega
    simp [mixB, hp0]
    exact g2
noncomputable abbrev mixO : M Fl := mSeq (mSet 4 (mBin dAdd (mBin dMul (M.ret (rSc (.int 48271))) (mVar 1)) (mBin dDiv (mVar 3) (M.ret (rSc (.int 37)))))) (mSeq (mFor (mSeqI (mDr 0 .cells)) (tgName 5) mixB) (mSet 2 (mBin dAdd (mBin dMul (mVar 2) (M.ret (rSc (.int 2147483647)))) (mBin dMod (mFn fInt (mCons (mBin dPow (mVar 4) (M.ret (rSc (.int 5)))) (M.ret []))) (mVar 3)))))
theorem mix_out {s : Draw} {t : Int} (t0 : 0 ≤ t) (t1 : t ≤ 2 ^ 40) : ∀ (ps : List Int) (f : Int) (x y z : Option SV), (∀ p ∈ ps, 0 < p ∧ p < 2 ^ 32) → ∃ f' x' y' z',
    forR (tgName 3) mixO (ps.map .int) [some (.dr s), some (.d (.int t)), some (.d (.int f)), x, y, z] = .ok .nx [some (.dr s), some (.d (.int t)), some (.d (.int f')), x', y', z']
  | [], f, x, y, z, _ => ⟨f, x, y, z, rfl⟩
  | p :: ps, f, x, y, z, h => by
    obtain ⟨p0, p1⟩ := h p List.mem_cons_self
    have q0 : 0 ≤ p.fdiv 37 := Int.fdiv_nonneg (by omega) (by decide)
    have q1 : p.fdiv 37 ≤ p := by
      rw [Int.fdiv_eq_ediv_of_nonneg _ (by decide)]
      exact Int.ediv_le_self _ (by omega)
    obtain ⟨b', x2, g0, g1, g2⟩ := mix_in (s := s) (t := t) (f := f) p0 p1 s.cells (48271 * t + p.fdiv 37) z (by omega) (by omega)
    obtain ⟨f', x3, y3, z3, g3⟩ := mix_out t0 t1 ps (f * 2147483647 + (b' ^ 5).fmod p) (some (.d (.int p))) (some (.d (.int b'))) x2 fun q hq => h q (List.mem_cons_of_mem _ hq)
    refine ⟨f', x3, y3, z3, ?_⟩
    rw [List.map_cons, e_forC]
    have hp0 : p ≠ 0 := by omega
    have hb : b'.natAbs < 2 ^ 64 := by omega
    simp [mixO, hp0, g2]
    have hb : b'.natAbs < 18446744073709551616 := by omega
    simp [hb, hp0]
    exact g3
theorem mixed_ok {s : Draw} {n : Int} (h : Tn s n) (hn : n ≤ 2 ^ 39) : ∃ v s', den__law_mixed [.dr s] = .ok (.d (.int v)) [some (.dr s')] ∧ Tn s' (n + 1) := by
  obtain ⟨f', x, y, z, g⟩ := mix_out (s := { s with turn := s.turn + 1 }) (t := s.turn + 1) (by have := h.1; omega) (by have := h.2; omega) [2147483647, 2147483629, 2147483587, 2147483579] 0 none none none (by decide)
  refine ⟨f', { s with turn := s.turn + 1 }, ?_, by have := h.1; show 0 ≤ s.turn + 1; omega, by have := h.2; show s.turn + 1 ≤ n + 1; omega⟩
  simp [den__law_mixed, denOf, m__law_mixed]
  simp [mixO, mixB] at g
  rw [g]
  simp
theorem take_ok {s : Draw} {n m : Int} (h : Tn s n) (hn : n ≤ 2 ^ 39) (m0 : 1 ≤ m) (m1 : m < 2 ^ 30) : ∃ v s', den__law_take [.dr s, .d (.int m)] = .ok (.d (.int v)) [some (.dr s'), some (.d (.int m))] ∧ 0 ≤ v ∧ v < m ∧ Tn s' (n + 1) := by
  have hm0 : m ≠ 0 := by omega
  have hm1 : m.natAbs < 1073741824 := by omega
  have fin : ∀ l : Int, 0 ≤ l.fmod m ∧ l.fmod m < m := fun l => ⟨Int.fmod_nonneg_of_pos _ (by omega), Int.fmod_lt_of_pos _ (by omega)⟩
  have tn : ∀ {a : Draw}, a.turn = s.turn → Tn a (n + 1) := fun {a} e => ⟨by rw [e]; exact h.1, by have := h.2; rw [e]; omega⟩
  by_cases h0 : s.left = 0
  · by_cases hg : s.great = []
    · obtain ⟨v, s1, e1, t1⟩ := mixed_ok h hn
      refine ⟨v.fmod m, { s1 with left := v.fdiv m }, ?_, (fin v).1, (fin v).2, t1⟩
      simp [den__law_take, denOf, m__law_take, h0, hg, e1, hm0, hm1]
    · obtain ⟨z, zs, e⟩ := List.exists_cons_of_ne_nil hg
      refine ⟨z.fmod m, { s with great := zs, left := z.fdiv m }, ?_, (fin z).1, (fin z).2, tn rfl⟩
      simp [den__law_take, denOf, m__law_take, h0, e, hm0, hm1]
  · refine ⟨s.left.fmod m, { s with left := s.left.fdiv m }, ?_, (fin _).1, (fin _).2, tn rfl⟩
    simp [den__law_take, denOf, m__law_take, h0, hm0, hm1]
theorem atI_lt {α : Type} {xs : List α} {v : Int} (h0 : 0 ≤ v) (h1 : v < xs.length) : ∃ y, atI xs v = some y ∧ y ∈ xs := by
  have hi : v.toNat < xs.length := by omega
  refine ⟨xs[v.toNat], ?_, List.getElem_mem hi⟩
  unfold atI ixN
  rw [if_pos h0, if_pos h1]
  show xs[v.toNat]? = _
  rw [List.getElem?_eq_getElem hi]
/-- pick gives a member -/
theorem pick_ok {s : Draw} {n : Int} {xs : List D} (h : Tn s n) (hn : n ≤ 2 ^ 39) (x0 : xs ≠ []) (x1 : xs.length < 2 ^ 30) : ∃ y s', y ∈ xs ∧ den__law_pick [.dr s, .d (.lst xs)] = .ok (.d y) [some (.dr s'), some (.d (.lst xs))] ∧ Tn s' (n + 1) := by
  have l0 : 1 ≤ (xs.length : Int) := by
    have := List.length_pos_iff.mpr x0
    omega
  obtain ⟨v, s', e, v0, v1, t⟩ := take_ok h hn l0 (by omega)
  obtain ⟨y, e2, my⟩ := atI_lt v0 v1
  refine ⟨y, s', my, ?_, t⟩
  simp [den__law_pick, denOf, m__law_pick, e, e2]
end HD

/-! W1: items, corners, staircases: plain facts. -/
namespace HD
open PySem PySem.Spec PyProof.Rows L2 VS
abbrev It := Option Int
abbrev Co := It × It
/-- no more than -/
def upI : It → It → Bool
  | _, none => true
  | none, some _ => false
  | some x, some y => decide (x ≤ y)
@[simp] theorem upI_n (a : It) : upI a none = true := by cases a <;> rfl
@[simp] theorem upI_ns (y : Int) : upI none (some y) = false := (rfl)
@[simp] theorem upI_s (x y : Int) : upI (some x) (some y) = decide (x ≤ y) := (rfl)
theorem upI_refl (a : It) : upI a a = true := by cases a <;> simp
theorem upI_trans {a b c : It} (h : upI a b = true) (g : upI b c = true) : upI a c = true := by
  cases a <;> cases b <;> cases c <;> simp at * ; omega
theorem upI_total (a b : It) : upI a b = true ∨ upI b a = true := by
  cases a <;> cases b <;> simp ; omega
theorem upI_anti {a b : It} (h : upI a b = true) (g : upI b a = true) : a = b := by
  cases a <;> cases b <;> simp at * ; omega
theorem upI_not {a b : It} (h : ¬ upI a b = true) : upI b a = true := (upI_total a b).resolve_left h
def upC (c d : Co) : Prop := upI c.1 d.1 = true ∧ upI c.2 d.2 = true
/-- a body is held by a corner -/
def hC (c : Co) (w h : Int) : Prop := upI (some w) c.1 = true ∧ upI (some h) c.2 = true
def hS (s : List Co) (w h : Int) : Prop := ∃ c ∈ s, hC c w h
def okI : It → Prop
  | none => True
  | some x => 1 ≤ x
def okC (c : Co) : Prop := okI c.1 ∧ okI c.2
abbrev Rise (s : List Co) : Prop := s.Pairwise fun a b => ¬ upI b.1 a.1 = true ∧ ¬ upI a.2 b.2 = true
structure Sta (s : List Co) : Prop where
  ok : ∀ c ∈ s, okC c
  up : Rise s
theorem hC_up {c d : Co} {w h : Int} (g : upC c d) (x : hC c w h) : hC d w h := ⟨upI_trans x.1 g.1, upI_trans x.2 g.2⟩
theorem Rise.anti {s : List Co} (r : Rise s) {c d : Co} (hc : c ∈ s) (hd : d ∈ s) (h : upC c d) : c = d := by
  induction s with
  | nil => cases hc
  | cons a s ih =>
    obtain ⟨r1, r2⟩ := List.pairwise_cons.mp r
    rcases List.mem_cons.mp hc with e1 | e1 <;> rcases List.mem_cons.mp hd with e2 | e2
    · rw [e1, e2]
    · rw [e1] at h ⊢
      exact absurd h.2 (r1 d e2).2
    · rw [e2] at h ⊢
      exact absurd h.1 (r1 c e1).1
    · exact ih r2 e1 e2
/-- more than all numbers -/
def big : List Co → Int
  | [] => 1
  | c :: s => max (max (c.1.getD 0 + 1) (c.2.getD 0 + 1)) (big s)
theorem big_one : ∀ s, 1 ≤ big s
  | [] => Int.le_refl _
  | c :: s => by
    have := big_one s
    unfold big
    omega
theorem big_gt : ∀ {s : List Co} {c : Co}, c ∈ s → (∀ x, c.1 = some x → x < big s) ∧ ∀ x, c.2 = some x → x < big s
  | c :: s, d, h => by
    unfold big
    rcases List.mem_cons.mp h with rfl | h
    · exact ⟨fun x e => by rw [e]; simp only [Option.getD_some]; omega, fun x e => by rw [e]; simp only [Option.getD_some]; omega⟩
    · obtain ⟨h1, h2⟩ := big_gt h
      exact ⟨fun x e => by have := h1 x e; omega, fun x e => by have := h2 x e; omega⟩
theorem sub_of {s t : List Co} (so : ∀ c ∈ s, okC c) (h : ∀ w h, 1 ≤ w → 1 ≤ h → hS s w h → hS t w h) {c : Co} (hc : c ∈ s) : ∃ d ∈ t, upC c d := by
  have b1 := big_one t
  have ge : ∀ i : It, okI i → 1 ≤ i.getD (big t) := fun i z => by
    cases i with
    | none => exact b1
    | some x => exact z
  have self : ∀ i : It, upI (some (i.getD (big t))) i = true := fun i => by cases i <;> simp
  obtain ⟨d, hd, e1, e2⟩ := h (c.1.getD (big t)) (c.2.getD (big t)) (ge _ (so c hc).1) (ge _ (so c hc).2) ⟨c, hc, self _, self _⟩
  obtain ⟨g1, g2⟩ := big_gt hd
  have back : ∀ i j : It, (∀ x, j = some x → x < big t) → upI (some (i.getD (big t))) j = true → upI i j = true := fun i j g e => by
    cases i with
    | some x => exact e
    | none =>
      cases j with
      | none => rfl
      | some y =>
        have := g y rfl
        simp at e
        omega
  exact ⟨d, hd, back _ _ g1 e1, back _ _ g2 e2⟩
theorem rise_ext : ∀ {s t : List Co}, Rise s → Rise t → (∀ c, c ∈ s ↔ c ∈ t) → s = t
  | [], [], _, _, _ => rfl
  | [], b :: t, _, _, h => absurd ((h b).mpr List.mem_cons_self) (by simp)
  | a :: s, [], _, _, h => absurd ((h a).mp List.mem_cons_self) (by simp)
  | a :: s, b :: t, rs, rt, h => by
    obtain ⟨s1, s2⟩ := List.pairwise_cons.mp rs
    obtain ⟨t1, t2⟩ := List.pairwise_cons.mp rt
    have e : a = b := by
      rcases List.mem_cons.mp ((h a).mp List.mem_cons_self) with e | e
      · exact e
      · rcases List.mem_cons.mp ((h b).mpr List.mem_cons_self) with e2 | e2
        · exact e2.symm
        · exact absurd (upI_not (t1 a e).1) (s1 b e2).1
    subst e
    congr 1
    refine rise_ext s2 t2 fun c => ⟨fun hc => ?_, fun hc => ?_⟩
    · rcases List.mem_cons.mp ((h c).mp (List.mem_cons_of_mem _ hc)) with e | e
      · rw [e] at hc
        exact absurd (upI_refl _) (s1 a hc).1
      · exact e
    · rcases List.mem_cons.mp ((h c).mpr (List.mem_cons_of_mem _ hc)) with e | e
      · rw [e] at hc
        exact absurd (upI_refl _) (t1 a hc).1
      · exact e
/-- a staircase is told by what it holds -/
theorem sta_ext {s t : List Co} (ss : Sta s) (st : Sta t) (h : ∀ w h, 1 ≤ w → 1 ≤ h → (hS s w h ↔ hS t w h)) : s = t := by
  refine rise_ext ss.up st.up fun c => ⟨fun hc => ?_, fun hc => ?_⟩
  · obtain ⟨d, hd, e1⟩ := sub_of ss.ok (fun w k a b => (h w k a b).mp) hc
    obtain ⟨c2, hc2, e2⟩ := sub_of st.ok (fun w k a b => (h w k a b).mpr) hd
    have e := ss.up.anti hc hc2 ⟨upI_trans e1.1 e2.1, upI_trans e1.2 e2.2⟩
    subst e
    rw [show c = d from Prod.ext (upI_anti e1.1 e2.1) (upI_anti e1.2 e2.2)]
    exact hd
  · obtain ⟨d, hd, e1⟩ := sub_of st.ok (fun w k a b => (h w k a b).mpr) hc
    obtain ⟨c2, hc2, e2⟩ := sub_of ss.ok (fun w k a b => (h w k a b).mp) hd
    have e := st.up.anti hc hc2 ⟨upI_trans e1.1 e2.1, upI_trans e1.2 e2.2⟩
    subst e
    rw [show c = d from Prod.ext (upI_anti e1.1 e2.1) (upI_anti e1.2 e2.2)]
    exact hd
/-! ### the corners that tell a staircase -/
def keepF (kept : List Co) (c : Co) : List Co := match kept.getLast? with
  | none => kept ++ [c]
  | some l => if upI c.2 l.2 = true then kept else kept ++ [c]
/-- falling: by the first item, then by the second one -/
def Fall (a b : Co) : Prop := upI b.1 a.1 = true ∧ (b.1 = a.1 → upI b.2 a.2 = true)
theorem keep_spec : ∀ (cs kept : List Co), cs.Pairwise Fall → (∀ k ∈ kept, ∀ c ∈ cs, Fall k c) → Rise kept.reverse → ∃ out, cs.foldl keepF kept = kept ++ out ∧ Rise (kept ++ out).reverse ∧ (∀ c ∈ out, c ∈ cs) ∧ ∀ c ∈ cs, ∃ d ∈ kept ++ out, upC c d
  | [], kept, _, _, r => ⟨[], by simp, by simpa using r, by simp, by simp⟩
  | c :: cs, kept, h, hk, r => by
    obtain ⟨h1, h2⟩ := List.pairwise_cons.mp h
    have add : (∀ l, kept.getLast? = some l → ¬ upI c.2 l.2 = true) → ∃ out, cs.foldl keepF (kept ++ [c]) = kept ++ out ∧ Rise (kept ++ out).reverse ∧ (∀ d ∈ out, d ∈ c :: cs) ∧ ∀ d ∈ c :: cs, ∃ e ∈ kept ++ out, upC d e := fun hl => by
      have r2 : Rise (kept ++ [c]).reverse := by
        rw [List.reverse_append]
        refine List.pairwise_cons.mpr ⟨fun d hd => ?_, r⟩
        have hd : d ∈ kept := List.mem_reverse.mp hd
        obtain ⟨l, el⟩ : ∃ l, kept.getLast? = some l := by
          cases q : kept.getLast? with
          | none => rw [List.getLast?_eq_none_iff] at q; rw [q] at hd; cases hd
          | some l => exact ⟨l, rfl⟩
        have nl := hl l el
        have fl : Fall l c := hk l (List.mem_of_getLast? el) c List.mem_cons_self
        have l1 : ¬ upI l.1 c.1 = true := fun z => nl (fl.2 (upI_anti fl.1 z))
        have dl : d = l ∨ (¬ upI d.1 l.1 = true ∧ ¬ upI l.2 d.2 = true) ∨ (¬ upI l.1 d.1 = true ∧ ¬ upI d.2 l.2 = true) := by
          have e0 : kept.reverse.head? = some l := by rw [List.head?_reverse]; exact el
          cases q : kept.reverse with
          | nil => rw [q] at e0; cases e0
          | cons a m =>
            rw [q] at e0 r
            cases e0
            have hm : d ∈ kept.reverse := List.mem_reverse.mpr hd
            rw [q] at hm
            rcases List.mem_cons.mp hm with e | e
            · exact .inl e
            · exact .inr (.inl ((List.pairwise_cons.mp r).1 d e))
        rcases dl with rfl | ⟨e1, e2⟩ | ⟨e1, e2⟩
        · exact ⟨l1, nl⟩
        · exact ⟨fun z => e1 (upI_trans z fl.1), fun z => e2 (upI_trans (upI_not nl) z)⟩
        · have fd : Fall d c := hk d hd c List.mem_cons_self
          have e0 : kept.reverse.head? = some l := by rw [List.head?_reverse]; exact el
          exfalso
          cases q : kept.reverse with
          | nil => rw [q] at e0; cases e0
          | cons a m =>
            rw [q] at e0 r
            cases e0
            have hm : d ∈ kept.reverse := List.mem_reverse.mpr hd
            rw [q] at hm
            rcases List.mem_cons.mp hm with e | e
            · rw [e] at e1
              exact e1 (upI_refl _)
            · exact e2 (upI_not ((List.pairwise_cons.mp r).1 d e).2)
      obtain ⟨out, o1, o2, o3, o4⟩ := keep_spec cs (kept ++ [c]) h2 (fun k hk2 d hd => by
        rcases List.mem_append.mp hk2 with z | z
        · exact hk k z d (List.mem_cons_of_mem _ hd)
        · rw [List.mem_singleton.mp z]
          exact h1 d hd) r2
      refine ⟨c :: out, by rw [o1]; simp, by rw [show kept ++ c :: out = kept ++ [c] ++ out by simp]; exact o2, fun d hd => ?_, fun d hd => ?_⟩
      · rcases List.mem_cons.mp hd with rfl | hd
        · exact List.mem_cons_self
        · exact List.mem_cons_of_mem _ (o3 d hd)
      · rcases List.mem_cons.mp hd with rfl | hd
        · exact ⟨d, by simp, upI_refl _, upI_refl _⟩
        · obtain ⟨e, m, u⟩ := o4 d hd
          exact ⟨e, by simpa using m, u⟩
    rw [List.foldl_cons]
    unfold keepF
    cases q : kept.getLast? with
    | none => exact add fun l e => by rw [q] at e; cases e
    | some l =>
      dsimp only
      by_cases hu : upI c.2 l.2 = true
      · rw [if_pos hu]
        obtain ⟨out, o1, o2, o3, o4⟩ := keep_spec cs kept h2 (fun k hk2 d hd => hk k hk2 d (List.mem_cons_of_mem _ hd)) r
        refine ⟨out, o1, o2, fun d hd => List.mem_cons_of_mem _ (o3 d hd), fun d hd => ?_⟩
        rcases List.mem_cons.mp hd with rfl | hd
        · exact ⟨l, List.mem_append_left _ (List.mem_of_getLast? q), (hk l (List.mem_of_getLast? q) d List.mem_cons_self).1, hu⟩
        · exact o4 d hd
      · rw [if_neg hu]
        exact add fun l' e => by
          rw [q] at e
          cases e
          exact hu
def topS (cs : List Co) : List Co := (cs.foldl keepF []).reverse
theorem top_spec {cs : List Co} (h : cs.Pairwise Fall) (ok : ∀ c ∈ cs, okC c) : Sta (topS cs) ∧ ∀ w k, hS (topS cs) w k ↔ hS cs w k := by
  obtain ⟨out, o1, o2, o3, o4⟩ := keep_spec cs [] h (fun k hk => nomatch hk) List.Pairwise.nil
  have e : topS cs = out.reverse := by
    unfold topS
    rw [o1]
    simp
  rw [List.nil_append] at o2 o4
  rw [e]
  refine ⟨⟨fun c hc => ok c (o3 c (List.mem_reverse.mp hc)), o2⟩, fun w k => ⟨fun ⟨c, hc, z⟩ => ⟨c, o3 c (List.mem_reverse.mp hc), z⟩, fun ⟨c, hc, z⟩ => ?_⟩⟩
  obtain ⟨d, hd, u⟩ := o4 c hc
  exact ⟨d, List.mem_reverse.mpr hd, hC_up u z⟩
end HD

/-! W2: items, corners and staircases as data. -/
namespace HD
open PySem PySem.Spec PyProof.Rows L2 VS
@[simp] theorem is_nn (n : Bool) : dIs n .non .non = some (.sc (.bl (n ^^ true))) := (rfl)
@[simp] theorem is_in (n : Bool) (i : Int) : dIs n (.int i) .non = some (.sc (.bl (n ^^ false))) := (rfl)
@[simp] theorem is_tn (n : Bool) (xs : List D) : dIs n (.tup xs) .non = some (.sc (.bl (n ^^ false))) := (rfl)
def oD : It → D
  | none => .non
  | some x => .int x
@[simp] theorem oD_n : oD none = .non := (rfl)
@[simp] theorem oD_s (x : Int) : oD (some x) = .int x := (rfl)
def cD (c : Co) : D := .tup [oD c.1, oD c.2]
def sD (s : List Co) : D := .tup (s.map cD)
def pyI : It → PyData
  | none => .none
  | some x => .int x
def pyC (c : Co) : PyData := .tuple [pyI c.1, pyI c.2]
theorem toPy_o (i : It) : toPy (oD i) = some (pyI i) := by cases i <;> simp [toPy, pyI]
theorem toPy_c (c : Co) : toPy (cD c) = some (pyC c) := by simp [cD, toPy, toPys, toPy_o, pyC]
theorem toPys_cs : ∀ s : List Co, toPys (s.map cD) = some (s.map pyC)
  | [] => by simp [toPys]
  | c :: s => by simp only [List.map_cons, toPys, toPy_c, toPys_cs s]; rfl
theorem lay_i (i : It) : PyData.canLay0 (pyI i) = true := by cases i <;> simp [pyI, PyData.canLay0]
theorem lay_c (c : Co) : PyData.canLay0 (pyC c) = true := by simp [pyC, PyData.canLay0, PyData.canLayAll0, lay_i]
theorem lay_cs : ∀ s : List Co, PyData.canLayAll0 (s.map pyC) = true
  | [] => by simp [PyData.canLayAll0]
  | c :: s => by simp [PyData.canLayAll0, lay_c, lay_cs s]
theorem dep_i (i : It) : PyData.depth (pyI i) = 0 := by cases i <;> simp [pyI, PyData.depth]
theorem dep_c (c : Co) : PyData.depth (pyC c) = 1 := by simp [pyC, PyData.depth, PyData.depthAll, dep_i]
theorem dep_cs : ∀ s : List Co, PyData.depthAll (s.map pyC) ≤ 1
  | [] => by simp [PyData.depthAll]
  | c :: s => by
    have := dep_cs s
    simp only [List.map_cons, PyData.depthAll, dep_c]
    omega
theorem eqv_i (a b : It) : PyData.eqv (pyI a) (pyI b) = decide (a = b) := by by_cases h : a = b <;> cases a <;> cases b <;> simp_all [pyI, PyData.eqv]
theorem eqv_c (c d : Co) : PyData.eqv (pyC c) (pyC d) = decide (c = d) := by
  obtain ⟨a, b⟩ := c
  obtain ⟨e, f⟩ := d
  simp only [pyC, PyData.eqv, PyData.eqvAll, eqv_i, Bool.and_true, Prod.mk.injEq]
  by_cases h : a = e <;> by_cases g : b = f <;> simp [h, g]
theorem eqv_cs : ∀ s t : List Co, PyData.eqvAll (s.map pyC) (t.map pyC) = decide (s = t)
  | [], [] => by simp [PyData.eqvAll]
  | [], _ :: _ => by simp [PyData.eqvAll]
  | _ :: _, [] => by simp [PyData.eqvAll]
  | c :: s, d :: t => by
    simp only [List.map_cons, PyData.eqvAll, eqv_c, eqv_cs s t]
    by_cases h : c = d <;> by_cases g : s = t <;> simp [h, g]
@[simp] theorem cmp_o (i : It) : cmpD (oD i) = some (pyI i) := by
  unfold cmpD
  rw [toPy_o, Option.bind_some, if_pos]
  unfold SeqAt.shaped
  simp [lay_i, dep_i]
@[simp] theorem cmp_c (c : Co) : cmpD (cD c) = some (pyC c) := by
  unfold cmpD
  rw [toPy_c, Option.bind_some, if_pos]
  unfold SeqAt.shaped
  simp [lay_c, dep_c]
@[simp] theorem cmp_s (s : List Co) : cmpD (sD s) = some (.tuple (s.map pyC)) := by
  unfold cmpD sD
  simp only [toPy, toPys_cs, Option.map_some, Option.bind_some]
  rw [if_pos]
  have := dep_cs s
  unfold SeqAt.shaped
  simp [PyData.canLay0, PyData.depth, lay_cs]
  omega
@[simp] theorem cmp_l (s : List Co) : cmpD (.lst (s.map cD)) = some (.list (s.map pyC)) := by
  unfold cmpD
  simp only [toPy, toPys_cs, Option.map_some, Option.bind_some]
  rw [if_pos]
  have := dep_cs s
  unfold SeqAt.shaped
  simp [PyData.canLay0, PyData.depth, lay_cs]
  omega
theorem eq_i (n : Bool) (a b : It) : dEq n (oD a) (oD b) = some (.sc (.bl (n ^^ decide (a = b)))) := by simp [dEq, eqv_i]
theorem eq_c (n : Bool) (a b : Co) : dEq n (cD a) (cD b) = some (.sc (.bl (n ^^ decide (a = b)))) := by simp [dEq, eqv_c]
theorem eq_s (n : Bool) (a b : List Co) : dEq n (sD a) (sD b) = some (.sc (.bl (n ^^ decide (a = b)))) := by simp [dEq, PyData.eqv, eqv_cs]
theorem eq_l (n : Bool) (a b : List Co) : dEq n (.lst (a.map cD)) (.lst (b.map cD)) = some (.sc (.bl (n ^^ decide (a = b)))) := by simp [dEq, PyData.eqv, eqv_cs]
theorem in_c (n : Bool) (a : Co) (s : List Co) : dIn n (cD a) (.lst (s.map cD)) = some (.sc (.bl (n ^^ decide (a ∈ s)))) := by
  simp only [dIn, cmp_c, cmp_l, Option.bind_some]
  congr 3
  have : ((s.map pyC).any fun z => PyData.eqv z (pyC a)) = decide (a ∈ s) := by
    rw [List.any_map, Bool.eq_iff_iff, List.any_eq_true]
    simp [eqv_c]
  rw [this]
/-! ### the functions of corners -/
theorem upto_ok (a b : It) : den_up_to [.d (oD a), .d (oD b)] = .ok (.d (.bl (upI a b))) [some (.d (oD a)), some (.d (oD b))] := by
  cases a <;> cases b <;> simp [den_up_to, denOf, m_up_to]
theorem ix_c (c : Co) : dIxX (cD c) (.int 0) = some (.it (oD c.1)) ∧ dIxX (cD c) (.int 1) = some (.it (oD c.2)) := by
  simp [cD]
  exact ⟨rfl, rfl⟩
theorem lies_ok (c d : Co) : den_lies_in [.d (cD c), .d (cD d)] = .ok (.d (.bl (upI c.1 d.1 && upI c.2 d.2))) [some (.d (cD c)), some (.d (cD d))] := by
  cases h : upI c.1 d.1 <;> simp [den_lies_in, denOf, m_lies_in, ix_c, upto_ok, h]
theorem lesser_ok (a b : It) : den_lesser [.d (oD a), .d (oD b)] = .ok (.d (oD (if upI a b = true then a else b))) [some (.d (oD a)), some (.d (oD b))] := by
  cases h : upI a b <;> simp [den_lesser, denOf, m_lesser, upto_ok, h]
end HD

/-! VPK: rows for simp: any, all, sorted with a key, operators of instances. -/
namespace VS
open PySem PySem.Spec PyProof.Rows L2 KX PySem.W
section
variable {ρ : En} {w : Bool} {mi : M (List D)} {vs : List Nat} {mg : Tg} {mt : M Bool} {me a b : M Ref} {rev : Bool} {mf : D → M D} {den : Den} {i : Nat}
@[simp] theorem e_aa : mAA w mi vs mg mt me ρ = (mi ρ).bind fun xs ρ => if (vs.all fun v => isData (ρ.getD v none)) = true then (anR w ρ vs mg mt me xs ρ).bind (fun b => M.ret (rSc (.bl b))) else .stuck := (rfl)
@[simp] theorem e_sortK : mSortK rev mf me ρ = (val me ρ).bind fun x => match x with | .lst xs => M.bind (keyR mf xs []) (srtK rev xs) | _ => fun _ => .stuck := (rfl)
@[simp] theorem e_keyD (x : D) : mKeyD den x ρ = mFrz (callD den [.d x]) ρ := (rfl)
@[simp] theorem e_keyL (x : D) : mKeyL i a x ρ = if isData (ρ.getD i none) = true then (match mFrz a (ρ.set i (some (.d x))) with | .ok y ρ' => .ok y (restE ρ ρ' [i]) | _ => .stuck) else .stuck := (rfl)
@[simp] theorem e_revT (xs : List D) : dRevT (.lst xs) = some (.nt xs.reverse) := (rfl)
@[simp] theorem e_tgLst (is : List Nat) (xs : List D) : tgLst is (.lst xs) ρ = tgNames is xs ρ := (rfl)
@[simp] theorem e_opI (c : Str) : mOpI c den a b ρ = (opd a ρ).bind fun o => M.bind (opd b) fun o' => fun ρ => if ok2 c ρ o o' = true then callD den [o, o'] ρ else .stuck := (rfl)
@[simp] theorem e_cmI (c : Str) (neg : Bool) : mCmI c neg den a b ρ = (opd a ρ).bind fun o => M.bind (opd b) fun o' => fun ρ => if ok2 c ρ o o' = true then cmR neg (callD den [o, o'] ρ) else .stuck := (rfl)
@[simp] theorem e_ok2 (c : Str) (o o' : Opd) : ok2 c ρ o o' = ((match vwO ρ o with | some x => okL c x | none => false) && (match vwO ρ o' with | some y => okR c y | none => false)) := (rfl)
@[simp] theorem e_okL (c c' : Str) (fs : List (Str × D)) : okL c (.ins c' fs) = decide (c' = c) := (rfl)
@[simp] theorem e_okR1 (c c' : Str) (fs : List (Str × D)) : okR c (.ins c' fs) = decide (c' = c) := (rfl)
@[simp] theorem e_okR2 (c : Str) : okR c .non = true := (rfl)
@[simp] theorem e_okR3 (c : Str) (i : Int) : okR c (.int i) = true := (rfl)
@[simp] theorem e_okR4 (c : Str) (xs : List D) : okR c (.tup xs) = true := (rfl)
@[simp] theorem e_okR5 (c : Str) (xs : List D) : okR c (.lst xs) = true := (rfl)
@[simp] theorem e_cmR (neg k : Bool) : cmR neg (.ok (.sv (.d (.bl k))) ρ) = .ok (.sv (.d (.bl (neg ^^ k)))) ρ := (rfl)
theorem key_eq (g : D → D) : ∀ {xs acc : List D}, (∀ x ∈ xs, mf x ρ = .ok (g x) ρ) → keyR mf xs acc ρ = .ok (acc ++ xs.map g) ρ
  | [], acc, _ => by simp [keyR, M.ret]
  | x :: xs, acc, h => by
    unfold keyR
    rw [h x List.mem_cons_self]
    dsimp only
    rw [key_eq g fun y hy => h y (List.mem_cons_of_mem _ hy)]
    simp
theorem srt_eq {xs ks : List D} {ds : List PyData} (h : toPys ks = some ds) (k : KeysOk ds) : srtK rev xs ks ρ = .ok (.sv (.ol (sortByK rev xs ds))) ρ := by
  unfold srtK
  rw [h]
  dsimp only
  rw [if_pos k]
  rfl
theorem an_eq (g : D → Bool) : ∀ {xs : List D}, (∀ x ∈ xs, ∃ ρ1 ρ2 ρ3, mg x (wipeE ρ vs) = some ρ1 ∧ mt ρ1 = .ok true ρ2 ∧ mB me ρ2 = .ok (g x) ρ3 ∧ restE ρ ρ3 vs = ρ) →
    anR w ρ vs mg mt me xs ρ = .ok (if w then xs.any g else xs.all g) ρ
  | [], h => by cases w <;> rfl
  | x :: xs, h => by
    obtain ⟨ρ1, ρ2, ρ3, e1, e2, e3, e4⟩ := h x List.mem_cons_self
    have e := an_eq g (xs := xs) fun y hy => h y (List.mem_cons_of_mem _ hy)
    unfold anR
    rw [e1]
    dsimp only
    rw [e2]
    dsimp only
    rw [e3]
    dsimp only
    by_cases hb : g x = w
    · rw [if_pos hb, e4]
      cases w <;> simp [hb]
    · rw [if_neg hb, e4, e]
      cases w <;> simp_all
end
end VS

/-! X2: the begun draw. -/
namespace HD
open PySem PySem.Spec PyProof.Rows L2 VS VR
theorem mem_intD {ns : List Int} {x : D} (h : x ∈ VS.intD ns) : ∃ k ∈ ns, x = .int k := by
  obtain ⟨k, hk, e⟩ := List.mem_map.mp h
  exact ⟨k, hk, e.symm⟩
theorem intD_len (ns : List Int) : (VS.intD ns).length = ns.length := by simp [VS.intD]
theorem fm_ints {xs : List D} {f : D → Int} : xs.filterMap (fun y => some (D.int (f y))) = VS.intD (xs.map f) := by
  unfold VS.intD
  rw [List.map_map]
  induction xs with
  | nil => rfl
  | cons x xs ih => simp [ih]
theorem ints_back (ns : List Int) : intsOfD (VS.intD ns) = some ns := by simp
/-- the greatest of the script, set apart -/
def grt (ns : List Int) : List Int := (ns.filter fun n => decide (10 ^ 18 ≤ if n < 0 then -n else n)).map fun n => (if n < 0 then -n else n) - 10 ^ 18
theorem begun_ok {ns : List Int} (hl : ns.length ≤ 63) : ∃ s, den__law_begun [.sc ns] = .ok (.dr s) [some (.sc ns)] ∧ Tn s 0 := by
  obtain ⟨r, o, e, s, rfl, rfl, h⟩ := den_wp (n := 1) (l := 2) (pin := [0]) (m := m__law_begun) (args := [.sc ns]) (Q := fun r o => ∃ s, r = .dr s ∧ o = [some (.sc ns)] ∧ Tn s 0) (by
    simp -implicitDefEqProofs [m__law_begun, rba]
    refine Rs.Wp.bind (wp_lc (fun x => if 10 ^ 18 ≤ (if gI x < 0 then -gI x else gI x) then some (.int ((if gI x < 0 then -gI x else gI x) - 10 ^ 18)) else none) (by rw [intD_len]; omega) (fun x hx => ?_) ?_)
    · obtain ⟨k, _, rfl⟩ := mem_intD hx
      generalize hj : (if gI (.int k) < 0 then -gI (.int k) else gI (.int k)) = j
      have hj2 : (if k < 0 then -k else k) = j := hj
      by_cases c : 1000000000000000000 ≤ j <;> simp -implicitDefEqProofs [lcOne, dGe, hj2, c]
    · have e1 : (VS.intD ns).filterMap (fun x => if 10 ^ 18 ≤ (if gI x < 0 then -gI x else gI x) then some (D.int ((if gI x < 0 then -gI x else gI x) - 10 ^ 18)) else none) = VS.intD (grt ns) := by
        unfold grt
        clear hl
        induction ns with
        | nil => rfl
        | cons n ns ih =>
          have ih' := ih
          unfold VS.intD at ih' ⊢
          by_cases c : 10 ^ 18 ≤ (if n < 0 then -n else n)
          · rw [List.map_cons, List.filterMap_cons_some (b := D.int ((if n < 0 then -n else n) - 10 ^ 18)) (by simp only [gI_int]; rw [if_pos c]), ih', List.filter_cons_of_pos (by simpa using c), List.map_cons, List.map_cons]
          · rw [List.map_cons, List.filterMap_cons_none (by simp only [gI_int]; rw [if_neg c]), ih', List.filter_cons_of_neg (by simpa using c)]
      rw [e1]
      simp -implicitDefEqProofs [mDrNew, rba]
      refine Rs.Wp.bind (wp_lc (fun x => some (.int ((if gI x < 0 then -gI x else gI x).fmod 2147483629))) (by rw [intD_len]; omega) (fun x hx => ?_) ?_)
      · obtain ⟨k, _, rfl⟩ := mem_intD hx
        simp -implicitDefEqProofs [lcOne]
      · rw [fm_ints]
        simp -implicitDefEqProofs [drNew]
        exact ⟨Int.le_refl 0, Int.le_refl 0⟩)
  exact ⟨s, e, h⟩
end HD

/-! W3: what is a size, a body, a corner, a staircase. -/
namespace HD
open PySem PySem.Spec PyProof.Rows L2 VS
@[simp] theorem is_int (k : Int) : dIsi ocs oes anc (.ty "int") (.int k) = some (.sc (.bl true)) := rfl
@[simp] theorem is_intB (k : Int) : dIsi ocs oes anc (.ty "bool") (.int k) = some (.sc (.bl false)) := rfl
@[simp] theorem is_tup (xs : List D) : dIsi ocs oes anc (.ty "tuple") (.tup xs) = some (.sc (.bl true)) := rfl
theorem size_ok (x : Int) : den_is_size [.d (.int x)] = .ok (.d (.bl (decide (1 ≤ x)))) [some (.d (.int x))] := by
  simp [den_is_size, denOf, m_is_size]
theorem body_ok (w h : Int) : den_is_body [.d (.tup [.int w, .int h])] = .ok (.d (.bl (decide (1 ≤ w) && decide (1 ≤ h)))) [some (.d (.tup [.int w, .int h]))] := by
  have e : atI [D.int w, D.int h] 0 = some (.int w) ∧ atI [D.int w, D.int h] 1 = some (.int h) := ⟨rfl, rfl⟩
  by_cases q : 1 ≤ w <;> simp [den_is_body, denOf, m_is_body, size_ok, e, q]
def okIb : It → Bool
  | none => true
  | some x => decide (1 ≤ x)
theorem okI_b (i : It) : okIb i = true ↔ okI i := by cases i <;> simp [okIb, okI]
theorem corner_ok (c : Co) (h : okC c) : den_is_corner [.d (cD c)] = .ok (.d (.bl true)) [some (.d (cD c))] := by
  obtain ⟨a, b⟩ := c
  obtain ⟨h1, h2⟩ := h
  have e : atI [oD a, oD b] 0 = some (oD a) ∧ atI [oD a, oD b] 1 = some (oD b) := ⟨rfl, rfl⟩
  unfold cD
  cases a with
  | none =>
    cases b with
    | none => simp [den_is_corner, denOf, m_is_corner, size_ok, e] at e ⊢; simp [e]
    | some y =>
      have g2 : 1 ≤ y := h2
      simp [den_is_corner, denOf, m_is_corner, size_ok, e, g2] at e ⊢
      simp [e, g2, size_ok]
  | some x =>
    have g1 : 1 ≤ x := h1
    cases b with
    | none =>
      simp [den_is_corner, denOf, m_is_corner, size_ok, e, g1] at e ⊢
      simp [e, g1, size_ok]
    | some y =>
      have g2 : 1 ≤ y := h2
      simp [den_is_corner, denOf, m_is_corner, size_ok, e, g1, g2] at e ⊢
      simp [e, g1, g2, size_ok]
theorem atN {α : Type} {xs : List α} {i : Nat} (h : i < xs.length) : atI xs (i : Int) = some xs[i] := by
  unfold atI ixN
  rw [if_pos (by omega), if_pos (by omega)]
  show xs[((i : Int)).toNat]? = _
  rw [Int.toNat_natCast, List.getElem?_eq_getElem h]
theorem sD_at {s : List Co} {i : Nat} (h : i < s.length) : dIxX (sD s) (.int (i : Int)) = some (.it (cD s[i])) := by
  unfold sD
  rw [e_ixT, atN (by simpa using h)]
  simp
/-- a staircase is one -/
theorem stairs_ok {s : List Co} (h : Sta s) (hn : s.length < 4096) : den_is_stairs [.d (sD s)] = .ok (.d (.bl true)) [some (.d (sD s))] := by
  obtain ⟨a, o, e, q⟩ := den_wp (n := 1) (l := 1) (pin := [0]) (m := m_is_stairs) (args := [.d (sD s)]) (Q := fun a o => a = .d (.bl true) ∧ o = [some (.d (sD s))]) (by
    have ht : dIsi ocs oes anc (.ty "tuple") (sD s) = some (.sc (.bl true)) := rfl
    have hl : fLen [sD s] = some (.sc (.int (s.length : Int))) := by simp [sD]
    have hb : (s.length : Int) < 4611686018427387904 := by omega
    simp [m_is_stairs, ht, hl, hb]
    refine Rs.Wp.bind (wp_forI (fun _ ρ => ∃ x, ρ = [some (.d (sD s)), x]) ⟨none, rfl⟩ (fun i hi ρ h0 => ?_) (fun ρ h0 => ?_))
    · obtain ⟨x, rfl⟩ := h0
      have c0 := corner_ok _ (h.ok s[i] (List.getElem_mem hi))
      have a0 := sD_at hi
      unfold forS
      cases i with
      | zero =>
        have a0 : dIxX (sD s) (.int 0) = some (.it (cD s[0])) := a0
        simp [a0, c0]
      | succ j =>
        have a1 := sD_at (s := s) (i := j) (by omega)
        have e1 : (0 : Int) + ((j + 1 : Nat) : Int) = (j + 1 : Nat) := by omega
        have e2 : ((j + 1 : Nat) : Int) - 1 = (j : Nat) := by omega
        obtain ⟨u1, u2⟩ := List.pairwise_iff_getElem.mp h.up j (j + 1) (by omega) hi (by omega)
        have u1 : upI s[j + 1].1 s[j].1 = false := by simpa using u1
        have u2 : upI s[j].2 s[j + 1].2 = false := by simpa using u2
        have g0 : (0 : Int) < (j + 1 : Nat) := by omega
        rw [e1]
        simp only [e_tgN]
        simp only [Int.natCast_add, Int.natCast_one] at *
        simp [a0, a1, c0, e2, ix_c, upto_ok, u1, u2, g0]
    · obtain ⟨x, rfl⟩ := h0
      simp)
  exact e.trans (by rw [q.1, q.2])
end HD

/-! W4: the staircase of what some corners hold. -/
namespace HD
open PySem PySem.Spec PyProof.Rows L2 VS PySem.W
def rI : It → D
  | none => .tup [.int 1, .int 0]
  | some x => .tup [.int 0, .int x]
def rD (c : Co) : D := .tup [rI c.1, rI c.2]
def rpI : It → PyData
  | none => .tuple [.int 1, .int 0]
  | some x => .tuple [.int 0, .int x]
def rP (c : Co) : PyData := .tuple [rpI c.1, rpI c.2]
theorem rank_ok (c : Co) : den__rank [.d (cD c)] = .ok (.d (rD c)) [some (.d (cD c))] := by
  obtain ⟨a, b⟩ := c
  have i0 := ix_c (a, b)
  cases a <;> cases b <;> simp [den__rank, denOf, m__rank, i0, rD, rI]
theorem py_rI (i : It) : toPy (rI i) = some (rpI i) := by cases i <;> simp [rI, rpI, toPy, toPys]
theorem pys_r : ∀ cs : List Co, toPys (cs.map rD) = some (cs.map rP)
  | [] => by simp [toPys]
  | c :: cs => by simp [toPys, toPy, rD, py_rI, pys_r cs, rP]
theorem alike_i (a b : It) : alike (rpI a) (rpI b) = true := by cases a <;> cases b <;> simp [rpI, alike, alikeAll]
theorem keys_r (cs : List Co) : KX.KeysOk (cs.map rP) := by
  refine ⟨fun d hd d' hd' => ?_, .inl fun d hd => ?_, fun d hd => ?_⟩
  · obtain ⟨c, _, rfl⟩ := List.mem_map.mp hd
    obtain ⟨c', _, rfl⟩ := List.mem_map.mp hd'
    simp [rP, alike, alikeAll, alike_i]
  · obtain ⟨c, _, rfl⟩ := List.mem_map.mp hd
    exact ⟨_, _, rfl⟩
  · obtain ⟨c, _, rfl⟩ := List.mem_map.mp hd
    obtain ⟨a, b⟩ := c
    cases a <;> cases b <;> simp [rP, rpI, PyData.depth, PyData.depthAll]
theorem fall_of {a b : Co} (h : dataLe true rP a b = true) : Fall a b := by
  obtain ⟨a1, a2⟩ := a
  obtain ⟨b1, b2⟩ := b
  unfold dataLe sortLe at h
  cases a1 <;> cases b1 <;> cases a2 <;> cases b2 <;> simp [rP, rpI, keyToks, keyToksAll, PyProof.Rows.lexLt, itemLt, Fall] at h ⊢ <;> omega
def sortR (cs : List Co) : List Co := cs.mergeSort (dataLe true rP)
theorem sortR_mem {cs : List Co} {c : Co} : c ∈ sortR cs ↔ c ∈ cs := List.mem_mergeSort
theorem sortR_fall (cs : List Co) : (sortR cs).Pairwise Fall := by
  have T := sortLe_total (listOrd itemOrd) true fun b : Co => keyToks (rP b)
  exact (List.pairwise_mergeSort (le := dataLe true rP) (fun a b c => T.trans a b c) (fun a b => Bool.or_eq_true_iff.mpr (T.total a b)) cs).imp fun h => fall_of h
theorem sortR_eq (cs : List Co) : sortByK true (cs.map cD) (cs.map rP) = (sortR cs).map cD := by
  unfold sortByK sortR
  have e : (cs.map cD).zip (cs.map rP) = cs.map fun c => (cD c, rP c) := by
    induction cs with
    | nil => rfl
    | cons c cs ih => simp only [List.map_cons, List.zip_cons_cons, ih]
  have f := List.map_mergeSort (f := fun c : Co => (cD c, rP c)) (s := dataLe true Prod.snd) (r := dataLe true rP) (l := cs) (fun _ _ _ _ => rfl)
  rw [e, ← f, List.map_map]
  rfl
end HD

/-! W5: top corners, what is held, what is common. -/
namespace HD
open PySem PySem.Spec PyProof.Rows L2 VS PySem.W
theorem eq_l0 (n : Bool) (a : List Co) : dEq n (.lst (a.map cD)) (.lst []) = some (.sc (.bl (n ^^ decide (a = [])))) := eq_l n a []
theorem at_last {α : Type} (xs : List α) (x : α) : atI (xs ++ [x]) (-1) = some x := by
  unfold atI ixN
  have h1 : ¬ ((0 : Int) ≤ -1) := by decide
  have h2 : -(((xs ++ [x]).length : Nat) : Int) ≤ -1 := by simp; omega
  rw [if_neg h1, if_pos h2]
  have e : ((-1 : Int) + ((xs ++ [x]).length : Nat)).toNat = xs.length := by simp; omega
  rw [Option.bind_some, e]
  simp
theorem last_ix (k : List Co) (l : Co) : dIxX (.lst ((k ++ [l]).map cD)) (.int (-1)) = some (.it (cD l)) := by
  rw [e_ixL, List.map_append, List.map_cons, List.map_nil, at_last]
  rfl
theorem neg_one : dNeg (.int 1) = some (.sc (.int (-1))) := rfl
def TopI (cs : List Co) (i : Nat) (ρ : En) : Prop := ∃ x, ρ = [some (.d (.lst (cs.map cD))), some (.ol ((((sortR cs).take i).foldl keepF []).map cD)), x]
theorem keep_len : ∀ (cs kept : List Co), (cs.foldl keepF kept).length ≤ kept.length + cs.length
  | [], kept => by simp
  | c :: cs, kept => by
    rw [List.foldl_cons]
    have h := keep_len cs (keepF kept c)
    have h2 : (keepF kept c).length ≤ kept.length + 1 := by
      unfold keepF
      split
      · simp
      · split <;> simp
    simp only [List.length_cons]
    omega
theorem topc_ok {cs : List Co} (hn : cs.length < 4096) : den_top_corners [.d (.lst (cs.map cD))] = .ok (.d (sD (topS (sortR cs)))) [some (.d (.lst (cs.map cD)))] := by
  have hs : (sortR cs).length = cs.length := List.length_mergeSort _
  obtain ⟨a, o, e, q⟩ := den_wp (n := 1) (l := 2) (pin := [0]) (m := m_top_corners) (args := [.d (.lst (cs.map cD))]) (Q := fun a o => a = .d (sD (topS (sortR cs))) ∧ o = [some (.d (.lst (cs.map cD)))]) (by
    have kr : ∀ ρ : En, keyR (mKeyD den__rank) (cs.map cD) [] ρ = .ok (cs.map rD) ρ := fun ρ => by
      rw [key_eq (fun x => match x with | .tup [a, b] => .tup [(match a with | .int x => .tup [.int 0, .int x] | _ => .tup [.int 1, .int 0]), (match b with | .int x => .tup [.int 0, .int x] | _ => .tup [.int 1, .int 0])] | x => x) (fun x hx => ?_), List.nil_append, List.map_map]
      · congr 1
        refine List.map_congr_left fun c _ => ?_
        obtain ⟨a, b⟩ := c
        cases a <;> cases b <;> rfl
      · obtain ⟨c, _, rfl⟩ := List.mem_map.mp hx
        obtain ⟨a, b⟩ := c
        have := rank_ok (a, b)
        cases a <;> cases b <;> simp [this] <;> rfl
    have sr : ∀ ρ : En, srtK true (cs.map cD) (cs.map rD) ρ = .ok (.sv (.ol ((sortR cs).map cD))) ρ := fun ρ => by rw [srt_eq (pys_r cs) (keys_r cs), sortR_eq]
    simp [m_top_corners, kr, sr]
    refine Rs.Wp.bind (wp_forM (TopI cs) ⟨none, by simp⟩ (fun i hi ρ h0 => ?_) (fun ρ h0 => ?_))
    · obtain ⟨x, rfl⟩ := h0
      have e1 : (sortR cs).take (i + 1) = (sortR cs).take i ++ [(sortR cs)[i]] := by simp
      have step : TopI cs (i + 1) [some (.d (.lst (cs.map cD))), some (.ol ((keepF (((sortR cs).take i).foldl keepF []) (sortR cs)[i]).map cD)), some (.d (cD (sortR cs)[i]))] := ⟨_, by rw [e1, List.foldl_append]; rfl⟩
      have hlen := keep_len ((sortR cs).take i) []
      generalize ((sortR cs).take i).foldl keepF [] = kept at step hlen ⊢
      generalize (sortR cs)[i] = c at step ⊢
      have hz : kept.length < sizeLine := e_sizeLine _ (by simp at hlen; omega)
      unfold forS
      rcases List.eq_nil_or_concat kept with rfl | ⟨k, l, rfl⟩
      · have step : TopI cs (i + 1) [some (.d (.lst (cs.map cD))), some (.ol [cD c]), some (.d (cD c))] := step
        have h0 : (0 : Nat) < sizeLine := hz
        have q0 : dEq false (.lst []) (.lst []) = some (.sc (.bl true)) := eq_l0 false []
        simp [h0, q0, gAppend]
        exact step
      · rw [List.concat_eq_append] at *
        have lx := last_ix k l
        have eq0 := eq_l0 false (k ++ [l])
        have ne : (k ++ [l] = []) = False := by simp
        unfold keepF at step
        rw [show (k ++ [l]).getLast? = some l by simp] at step
        simp only [] at step
        simp only [ne, decide_false, Bool.xor_false] at eq0
        have hz2 : ((k ++ [l]).map cD).length < sizeLine := by simpa using hz
        simp only [e_tgN]
        by_cases hu : upI c.2 l.2 = true
        · rw [if_pos hu] at step
          generalize hk : (k ++ [l]).map cD = kd at lx eq0 step hz2 ⊢
          simp [eq0, lx, neg_one, ix_c, upto_ok, hu, step]
        · rw [if_neg hu] at step
          have hu' : upI c.2 l.2 = false := by simpa using hu
          rw [List.map_append] at step
          generalize hk : (k ++ [l]).map cD = kd at lx eq0 step hz2 ⊢
          simp [eq0, lx, neg_one, ix_c, upto_ok, hu', gAppend, hz2]
          exact step
    · obtain ⟨x, rfl⟩ := h0
      rw [hs, ← hs, List.take_length]
      simp [topS, sD])
  exact e.trans (by rw [q.1, q.2])
/-- what is held -/
theorem has_ok (s : List Co) (c : Co) : den_has [.d (sD s), .d (cD c)] = .ok (.d (.bl (s.any fun d => upI c.1 d.1 && upI c.2 d.2))) [some (.d (sD s)), some (.d (cD c))] := by
  have an : anR true [some (.d (sD s)), some (.d (cD c)), none] [2] (tgName 2) (M.ret true) (mCall den_lies_in (mCons (mVar 1) (mCons (mVar 2) (M.ret [])))) (s.map cD) [some (.d (sD s)), some (.d (cD c)), none] = .ok (s.any fun d => upI c.1 d.1 && upI c.2 d.2) [some (.d (sD s)), some (.d (cD c)), none] := by
    rw [an_eq (fun x => match x with | .tup [a, b] => upI c.1 (match a with | .int x => some x | _ => none) && upI c.2 (match b with | .int x => some x | _ => none) | _ => false) (fun x hx => ?_)]
    · rw [if_pos rfl, List.any_map]
      congr 1
      refine congrArg (fun f => List.any s f) (funext fun d => ?_)
      obtain ⟨a, b⟩ := d
      cases a <;> cases b <;> rfl
    · obtain ⟨d, _, rfl⟩ := List.mem_map.mp hx
      refine ⟨[some (.d (sD s)), some (.d (cD c)), some (.d (cD d))], [some (.d (sD s)), some (.d (cD c)), some (.d (cD d))], [some (.d (sD s)), some (.d (cD c)), some (.d (cD d))], rfl, rfl, ?_, rfl⟩
      have := lies_ok c d
      obtain ⟨a, b⟩ := d
      simp [this]
      cases a <;> cases b <;> rfl
  have e : seqOf (sD s) = some (s.map cD) := rfl
  simp [den_has, denOf, m_has, e, an]
end HD

/-! W6: what two staircases both hold; moved corners. -/
namespace HD
open PySem PySem.Spec PyProof.Rows L2 VS PySem.W
section
variable {ρ : En} {vs vs1 : List Nat} {mg mg1 : Tg} {mt mt1 : M Bool} {mi1 : M (List D)} {me : M Ref}
theorem lc_eqA (g : D → D) {xs acc : List D} (hl : acc.length + xs.length < 4096) (hx : ∀ x ∈ xs, lcOne ρ vs mg mt me x ρ = .ok (some (g x)) ρ) : lcR ρ vs mg mt me xs acc ρ = .ok (acc ++ xs.map g) ρ := by
  obtain ⟨a, ρ', e, h1, h2⟩ := (wp_lcA (Q := fun a ρ' => a = acc ++ xs.filterMap (fun x => some (g x)) ∧ ρ' = ρ) (fun x => some (g x)) xs acc hl (fun x h => by rw [hx x h]; exact wp_ok.mpr ⟨rfl, rfl⟩) ⟨rfl, rfl⟩).ex
  rw [e, h1, h2]
  have : xs.filterMap (fun x => some (g x)) = xs.map g := by
    rw [← List.filterMap_eq_map]
    rfl
  rw [this]
theorem lc2_eq (g : D → List D) {xs : List D} (hx : ∀ x ∈ xs, ∀ a, a.length + (g x).length ≤ (xs.flatMap g).length → lc2One ρ vs mg mt mi1 vs1 mg1 mt1 me x a ρ = .ok (a ++ g x) ρ) : lcR2 ρ vs mg mt mi1 vs1 mg1 mt1 me xs [] ρ = .ok (xs.flatMap g) ρ := by
  obtain ⟨a, ρ', e, h1, h2⟩ := (wp_lc2 (Q := fun a ρ' => a = xs.flatMap g ∧ ρ' = ρ) g (fun x h a hl => by rw [hx x h a hl]; exact wp_ok.mpr ⟨rfl, rfl⟩) ⟨rfl, rfl⟩).ex
  rw [e, h1, h2]
end
def unI : D → It
  | .int x => some x
  | _ => none
def unC : D → Co
  | .tup [a, b] => (unI a, unI b)
  | _ => (none, none)
theorem unI_o (i : It) : unI (oD i) = i := by cases i <;> rfl
@[simp] theorem unC_c (c : Co) : unC (cD c) = c := by
  obtain ⟨a, b⟩ := c
  simp [cD, unC, unI_o]
def lsI (a b : It) : It := if upI a b = true then a else b
def lsC (a b : Co) : Co := (lsI a.1 b.1, lsI a.2 b.2)
def prs (s t : List Co) : List Co := s.flatMap fun a => t.map fun b => lsC a b
def cmn (s t : List Co) : List Co := topS (sortR (prs s t))
theorem prs_len (s t : List Co) : (prs s t).length = s.length * t.length := by
  unfold prs
  induction s with
  | nil => simp
  | cons a s ih => rw [List.flatMap_cons, List.length_append, ih, List.length_map, List.length_cons, Nat.succ_mul, Nat.add_comm]
theorem common_ok {s t : List Co} (hn : s.length * t.length < 4096) : den_common [.d (sD s), .d (sD t)] = .ok (.d (sD (cmn s t))) [some (.d (sD s)), some (.d (sD t))] := by
  have hp := prs_len s t
  have es : seqOf (sD s) = some (s.map cD) := rfl
  have et : seqOf (sD t) = some (t.map cD) := rfl
  have tc := topc_ok (cs := prs s t) (by omega)
  have l2 : lcR2 [some (.d (sD s)), some (.d (sD t)), none, none] [2, 3] (tgName 2) (M.ret true) (mSeqI (mVar 1)) [3] (tgName 3) (M.ret true) (mTup (mCons (mCall den_lesser (mCons (mBin dIxX (mVar 2) (M.ret (Ref.sv (SV.d (D.int 0))))) (mCons (mBin dIxX (mVar 3) (M.ret (Ref.sv (SV.d (D.int 0))))) (M.ret [])))) (mCons (mCall den_lesser (mCons (mBin dIxX (mVar 2) (M.ret (Ref.sv (SV.d (D.int 1))))) (mCons (mBin dIxX (mVar 3) (M.ret (Ref.sv (SV.d (D.int 1))))) (M.ret [])))) (M.ret []))))
      (s.map cD) [] [some (.d (sD s)), some (.d (sD t)), none, none] = .ok ((prs s t).map cD) [some (.d (sD s)), some (.d (sD t)), none, none] := by
    have ep : (s.map cD).flatMap (fun x => (t.map cD).map fun y => cD (lsC (unC x) (unC y))) = (prs s t).map cD := by
      unfold prs
      rw [List.flatMap_map, List.map_flatMap]
      refine congrArg (fun f => List.flatMap f s) (funext fun a => ?_)
      rw [List.map_map, List.map_map]
      refine List.map_congr_left fun b _ => ?_
      simp
    rw [lc2_eq (fun x => (t.map cD).map fun y => cD (lsC (unC x) (unC y))) (fun x hx a ha => ?_), ep]
    obtain ⟨c, _, rfl⟩ := List.mem_map.mp hx
    rw [ep, List.length_map, List.length_map, List.length_map, hp] at ha
    have inner : lcR [some (.d (sD s)), some (.d (sD t)), some (.d (cD c)), none] [3] (tgName 3) (M.ret true) (mTup (mCons (mCall den_lesser (mCons (mBin dIxX (mVar 2) (M.ret (Ref.sv (SV.d (D.int 0))))) (mCons (mBin dIxX (mVar 3) (M.ret (Ref.sv (SV.d (D.int 0))))) (M.ret [])))) (mCons (mCall den_lesser (mCons (mBin dIxX (mVar 2) (M.ret (Ref.sv (SV.d (D.int 1))))) (mCons (mBin dIxX (mVar 3) (M.ret (Ref.sv (SV.d (D.int 1))))) (M.ret [])))) (M.ret []))))
        (t.map cD) a [some (.d (sD s)), some (.d (sD t)), some (.d (cD c)), none] = .ok (a ++ (t.map cD).map fun y => cD (lsC c (unC y))) [some (.d (sD s)), some (.d (sD t)), some (.d (cD c)), none] := by
      refine lc_eqA _ (by rw [List.length_map]; omega) fun x hx => ?_
      obtain ⟨d, _, rfl⟩ := List.mem_map.mp hx
      rw [unC_c]
      unfold lcOne
      simp [wipeE, restE, ix_c, lesser_ok]
      rfl
    unfold lc2One
    simp [wipeE, restE, et, inner]
  simp [den_common, denOf, m_common, es, l2, tc, cmn]
theorem lsI_up {x a b : It} : upI x (lsI a b) = true ↔ upI x a = true ∧ upI x b = true := by
  unfold lsI
  by_cases h : upI a b = true
  · rw [if_pos h]
    exact ⟨fun z => ⟨z, upI_trans z h⟩, fun z => z.1⟩
  · rw [if_neg h]
    exact ⟨fun z => ⟨upI_trans z (upI_not h), z⟩, fun z => z.2⟩
theorem okI_ls {a b : It} (ha : okI a) (hb : okI b) : okI (lsI a b) := by
  unfold lsI
  split
  · exact ha
  · exact hb
theorem cmn_spec {s t : List Co} (hs : ∀ c ∈ s, okC c) (ht : ∀ c ∈ t, okC c) : Sta (cmn s t) ∧ ∀ w h, hS (cmn s t) w h ↔ hS s w h ∧ hS t w h := by
  have ok : ∀ c ∈ sortR (prs s t), okC c := fun c hc => by
    obtain ⟨a, ha, hb⟩ := List.mem_flatMap.mp (sortR_mem.mp hc)
    obtain ⟨b, hb2, rfl⟩ := List.mem_map.mp hb
    exact ⟨okI_ls (hs a ha).1 (ht b hb2).1, okI_ls (hs a ha).2 (ht b hb2).2⟩
  obtain ⟨h1, h2⟩ := top_spec (sortR_fall (prs s t)) ok
  refine ⟨h1, fun w h => (h2 w h).trans ⟨fun ⟨c, hc, z⟩ => ?_, fun ⟨⟨a, ha, z⟩, b, hb, y⟩ => ?_⟩⟩
  · obtain ⟨a, ha, hb⟩ := List.mem_flatMap.mp (sortR_mem.mp hc)
    obtain ⟨b, hb2, rfl⟩ := List.mem_map.mp hb
    have z1 := lsI_up.mp z.1
    have z2 := lsI_up.mp z.2
    exact ⟨⟨a, ha, z1.1, z2.1⟩, b, hb2, z1.2, z2.2⟩
  · exact ⟨lsC a b, sortR_mem.mpr (List.mem_flatMap.mpr ⟨a, ha, List.mem_map.mpr ⟨b, hb, rfl⟩⟩), lsI_up.mpr ⟨z.1, y.1⟩, lsI_up.mpr ⟨z.2, y.2⟩⟩
end HD

/-! W7: moved staircases. -/
namespace HD
open PySem PySem.Spec PyProof.Rows L2 VS PySem.W
/-- a pair of numbers -/
abbrev pD (a b : Int) : D := cD (some a, some b)
@[simp] theorem isT_c (c : Co) : dIsi ocs oes anc (.ty "tuple") (cD c) = some (.sc (.bl true)) := rfl
@[simp] theorem isT_s (s : List Co) : dIsi ocs oes anc (.ty "tuple") (sD s) = some (.sc (.bl true)) := rfl
@[simp] theorem len_c (c : Co) : fLen [cD c] = some (.sc (.int 2)) := rfl
@[simp] theorem is_cn (n : Bool) (c : Co) : dIs n (cD c) .non = some (.sc (.bl (n ^^ false))) := rfl
@[simp] theorem seq_p (a b : Int) : seqOf (pD a b) = some [.int a, .int b] := rfl
@[simp] theorem seq_s (s : List Co) : seqOf (sD s) = some (s.map cD) := rfl
theorem bodyP (w h : Int) : den_is_body [.d (pD w h)] = .ok (.d (.bl (decide (1 ≤ w) && decide (1 ≤ h)))) [some (.d (pD w h))] := body_ok w h
theorem needs_ok {s : List Co} (h : Sta s) (hn : s.length < 4096) : den_need_stairs [.d (sD s)] = .ok (.d .non) [some (.d (sD s))] := by
  simp [den_need_stairs, denOf, m_need_stairs, stairs_ok h hn]
def shI (i : It) (b : Int) : It := i.map (· - b)
def shC (c : Co) (a b : Int) : Co := (shI c.1 a, shI c.2 b)
theorem shift_ok (c : Co) (a b : Int) : den_shifted_corner [.d (cD c), .d (pD a b)] = .ok (.d (if (okIb (shI c.1 a) && okIb (shI c.2 b)) = true then cD (shC c a b) else .non)) [some (.d (cD c)), some (.d (pD a b))] := by
  obtain ⟨x, y⟩ := c
  have i0 := ix_c (x, y)
  have i1 := ix_c (some a, some b)
  unfold shC
  cases x with
  | none =>
    cases y with
    | none => simp [den_shifted_corner, denOf, m_shifted_corner, i0, i1, shI, okIb]; rfl
    | some y =>
      by_cases h : y - b < 1
      · have h' : ¬ 1 ≤ y - b := by omega
        simp [den_shifted_corner, denOf, m_shifted_corner, i0, i1, shI, okIb, h, h']
      · have h' : 1 ≤ y - b := by omega
        simp [den_shifted_corner, denOf, m_shifted_corner, i0, i1, shI, okIb, h, h']; rfl
  | some x =>
    by_cases g : x - a < 1
    · have g' : ¬ 1 ≤ x - a := by omega
      cases y with
      | none => simp [den_shifted_corner, denOf, m_shifted_corner, i0, i1, shI, okIb, g, g']
      | some y => simp [den_shifted_corner, denOf, m_shifted_corner, i0, i1, shI, okIb, g, g']
    · have g' : 1 ≤ x - a := by omega
      cases y with
      | none => simp [den_shifted_corner, denOf, m_shifted_corner, i0, i1, shI, okIb, g, g']; rfl
      | some y =>
        by_cases h : y - b < 1
        · have h' : ¬ 1 ≤ y - b := by omega
          simp [den_shifted_corner, denOf, m_shifted_corner, i0, i1, shI, okIb, g, g', h, h']
        · have h' : 1 ≤ y - b := by omega
          simp [den_shifted_corner, denOf, m_shifted_corner, i0, i1, shI, okIb, g, g', h, h']; rfl
def mvT (l1 l2 a b : Int) (c : Co) : Bool := upI (some l1) c.1 && upI (some l2) c.2 && (okIb (shI c.1 a) && okIb (shI c.2 b))
def mvS (s : List Co) (l1 l2 a b : Int) : List Co := (s.filter (mvT l1 l2 a b)).map fun c => shC c a b
def MvI (s : List Co) (l1 l2 a b : Int) (i : Nat) (ρ : En) : Prop := ∃ x y z, ρ = [some (.d (sD s)), some (.d (pD l1 l2)), some (.d (pD a b)), x, some (.ol ((mvS (s.take i) l1 l2 a b).map cD)), y, z]
theorem moved_ok {s : List Co} {l1 l2 a b : Int} (h : Sta s) (hn : s.length < 60) (g1 : 1 ≤ l1) (g2 : 1 ≤ l2) : den_moved [.d (sD s), .d (pD l1 l2), .d (pD a b)] = .ok (.d (sD (mvS s l1 l2 a b))) [some (.d (sD s)), some (.d (pD l1 l2)), some (.d (pD a b))] := by
  obtain ⟨r, o, e, q⟩ := den_wp (n := 3) (l := 4) (pin := [0, 1, 2]) (m := m_moved) (args := [.d (sD s), .d (pD l1 l2), .d (pD a b)]) (Q := fun r o => r = .d (sD (mvS s l1 l2 a b)) ∧ o = [some (.d (sD s)), some (.d (pD l1 l2)), some (.d (pD a b))]) (by
    have eq2 : dEq true (.int 2) (.int 2) = some (.sc (.bl false)) := by simp
    simp [m_moved, needs_ok h (show s.length < 4096 by omega), bodyP, g1, g2, e_forC]
    refine Rs.Wp.bind (wp_forM (MvI s l1 l2 a b) ⟨_, _, _, rfl⟩ (fun i hi ρ h0 => ?_) (fun ρ h0 => ?_))
    · obtain ⟨x, y, z, rfl⟩ := h0
      have e1 : s.take (i + 1) = s.take i ++ [s[i]] := by simp
      have e2 : mvS (s.take (i + 1)) l1 l2 a b = mvS (s.take i) l1 l2 a b ++ (if mvT l1 l2 a b s[i] = true then [shC s[i] a b] else []) := by
        rw [e1]
        unfold mvS
        rw [List.filter_append, List.map_append]
        congr 1
        by_cases ht : mvT l1 l2 a b s[i] = true
        · rw [if_pos ht, List.filter_cons_of_pos ht]
          rfl
        · rw [if_neg ht, List.filter_cons_of_neg ht]
          rfl
      have hlen : (mvS (s.take i) l1 l2 a b).length ≤ s.length := by
        unfold mvS
        rw [List.length_map]
        exact Nat.le_trans (List.length_filter_le _ _) (by simp; omega)
      have hz : (mvS (s.take i) l1 l2 a b).length < sizeLine := e_sizeLine _ (by omega)
      have step : ∀ y z, MvI s l1 l2 a b (i + 1) [some (.d (sD s)), some (.d (pD l1 l2)), some (.d (pD a b)), x, some (.ol ((mvS (s.take i) l1 l2 a b ++ (if mvT l1 l2 a b s[i] = true then [shC s[i] a b] else [])).map cD)), y, z] := fun y z => ⟨x, y, z, by rw [e2]⟩
      generalize mvS (s.take i) l1 l2 a b = kept at step hz ⊢
      generalize s[i] = c at step ⊢
      unfold mvT at step
      have lk := lies_ok (some l1, some l2) c
      have sk := shift_ok c a b
      unfold forS
      simp only [e_tgN]
      by_cases t1 : (upI (some l1) c.1 && upI (some l2) c.2) = true
      · rw [t1] at lk
        by_cases t2 : (okIb (shI c.1 a) && okIb (shI c.2 b)) = true
        · rw [if_pos t2] at sk
          simp only [t1, t2, Bool.and_self, if_pos] at step
          rw [List.map_append] at step
          simp [lk, sk, gAppend, hz]
          exact step _ _
        · rw [if_neg t2] at sk
          have t2' : (okIb (shI c.1 a) && okIb (shI c.2 b)) = false := by simpa using t2
          simp only [t1, t2', Bool.and_false, Bool.false_eq_true, if_false, List.append_nil] at step
          simp [lk, sk]
          exact step _ _
      · have t1' : (upI (some l1) c.1 && upI (some l2) c.2) = false := by simpa using t1
        rw [t1'] at lk
        simp only [t1', Bool.false_and, Bool.false_eq_true, if_false, List.append_nil] at step
        simp [lk]
        exact step _ _
    · obtain ⟨x, y, z, rfl⟩ := h0
      rw [List.take_length]
      simp [fTuple, sD])
  exact e.trans (by rw [q.1, q.2])
theorem sh_up {w : Int} {i : It} {a : Int} : upI (some w) (shI i a) = true ↔ upI (some (w + a)) i = true := by
  cases i with
  | none => simp [shI]
  | some x =>
    simp only [shI, Option.map_some, upI_s, decide_eq_true_eq]
    omega
theorem max_up {l v : Int} {i : It} : upI (some (max l v)) i = true ↔ upI (some l) i = true ∧ upI (some v) i = true := by
  cases i with
  | none => simp
  | some x =>
    simp only [upI_s, decide_eq_true_eq]
    omega
theorem sh_ok {w : Int} {i : It} {a : Int} (hw : 1 ≤ w) (h : upI (some (w + a)) i = true) : okIb (shI i a) = true := by
  cases i with
  | none => rfl
  | some x =>
    simp only [upI_s, decide_eq_true_eq] at h
    simp only [shI, Option.map_some, okIb, decide_eq_true_eq]
    omega
theorem sh_mono {i j : It} {a : Int} : upI (shI i a) (shI j a) = upI i j := by
  cases i <;> cases j <;> simp [shI]
theorem mv_spec {s : List Co} {l1 l2 a b : Int} (h : Sta s) : Sta (mvS s l1 l2 a b) ∧ ∀ w k, 1 ≤ w → 1 ≤ k → (hS (mvS s l1 l2 a b) w k ↔ hS s (max l1 (w + a)) (max l2 (k + b))) := by
  refine ⟨⟨fun c hc => ?_, ?_⟩, fun w k hw hk => ⟨fun ⟨c, hc, z⟩ => ?_, fun ⟨c, hc, z⟩ => ?_⟩⟩
  · obtain ⟨d, hd, rfl⟩ := List.mem_map.mp hc
    have t := (List.mem_filter.mp hd).2
    unfold mvT at t
    simp only [Bool.and_eq_true] at t
    exact ⟨(okI_b _).mp t.2.1, (okI_b _).mp t.2.2⟩
  · refine List.pairwise_map.mpr ((h.up.filter _).imp fun {c d} z => ?_)
    unfold shC
    rw [sh_mono, sh_mono]
    exact z
  · obtain ⟨d, hd, rfl⟩ := List.mem_map.mp hc
    obtain ⟨hd, t⟩ := List.mem_filter.mp hd
    unfold mvT at t
    simp only [Bool.and_eq_true] at t
    exact ⟨d, hd, max_up.mpr ⟨t.1.1, sh_up.mp z.1⟩, max_up.mpr ⟨t.1.2, sh_up.mp z.2⟩⟩
  · obtain ⟨z1, z2⟩ := max_up.mp z.1
    obtain ⟨y1, y2⟩ := max_up.mp z.2
    refine ⟨shC c a b, List.mem_map.mpr ⟨c, List.mem_filter.mpr ⟨hc, ?_⟩, rfl⟩, sh_up.mpr z2, sh_up.mpr y2⟩
    unfold mvT
    rw [z1, y1, sh_ok hw z2, sh_ok hk y2]
    rfl
end HD

/-! W8: forms. -/
namespace HD
open PySem PySem.Spec PyProof.Rows L2 VS PySem.W
section
variable {ρ : En} {a : M Ref} {es : List Str}
@[simp] theorem e_make {c : Str} {den : Den} {a : M (List Opd)} : mMake c den a ρ = (a ρ).bind (makeD c den) := (rfl)
@[simp] theorem e_caught : mCaught es a ρ = match a ρ with
  | .ok _ ρ' => .ok (.sv (.d .non)) ρ'
  | .err c ρ' => if c ∈ es then .ok (.sv (.d (.exc c))) ρ' else .stuck
  | .stuck => .stuck := (rfl)
end
/-- a place -/
abbrev Si := Int × Int × Int
def siD (s : Si) : D := .tup [.int s.1, pD s.2.1 s.2.2]
def okSi (s : Si) : Prop := 0 ≤ s.1
structure Fm where
  st : Si
  en : Si
  sa : List Co
  le : Int × Int
  by_ : Int × Int
def fmD (f : Fm) : D := .ins "Form" [("start", siD f.st), ("end", siD f.en), ("stairs", sD f.sa), ("least", pD f.le.1 f.le.2), ("by", pD f.by_.1 f.by_.2)]
theorem num_ok (k : Int) : den_is_number [.d (.int k)] = .ok (.d (.bl true)) [some (.d (.int k))] := by
  simp [den_is_number, denOf, m_is_number]
theorem pair_ok (a b : Int) : den_is_pair [.d (pD a b)] = .ok (.d (.bl true)) [some (.d (pD a b))] := by
  have i0 := ix_c (some a, some b)
  simp [den_is_pair, denOf, m_is_pair, i0, num_ok]
theorem site_ix (s : Si) : dIxX (siD s) (.int 0) = some (.it (.int s.1)) ∧ dIxX (siD s) (.int 1) = some (.it (pD s.2.1 s.2.2)) := ⟨rfl, rfl⟩
@[simp] theorem isT_si (s : Si) : dIsi ocs oes anc (.ty "tuple") (siD s) = some (.sc (.bl true)) := rfl
@[simp] theorem len_si (s : Si) : fLen [siD s] = some (.sc (.int 2)) := rfl
theorem site_ok {s : Si} (h : okSi s) : den_is_site [.d (siD s)] = .ok (.d (.bl true)) [some (.d (siD s))] := by
  have h : 0 ≤ s.1 := h
  simp [den_is_site, denOf, m_is_site, site_ix, num_ok, pair_ok, h]
def plB (m : It) (l b : Int) : Int := match m with
  | none => b
  | some x => max l (x + b) - x
theorem max_if (l v : Int) : (if l < v then v else l) = max l v := by
  split <;> omega
theorem plain_ok (m : It) (l b : Int) : den__plain [.d (oD m), .d (.int l), .d (.int b)] = .ok (.d (pD (max l (1 + b)) (plB m l b))) [some (.d (oD m)), some (.d (.int l)), some (.d (.int b))] := by
  cases m with
  | none =>
    simp [den__plain, denOf, m__plain, max_if]
    rfl
  | some x =>
    simp [den__plain, denOf, m__plain, max_if]
    rfl
theorem cfl : cf.lookup ("Form" : PySem.Str) = some (["start", "end", "stairs", "least", "by"] : List PySem.Str) := rfl
@[simp] theorem ne0 : ((("start" : PySem.Str) = ("end" : PySem.Str))) = False := eq_false (by decide)
@[simp] theorem ne1 : ((("start" : PySem.Str) = ("stairs" : PySem.Str))) = False := eq_false (by decide)
@[simp] theorem ne2 : ((("end" : PySem.Str) = ("stairs" : PySem.Str))) = False := eq_false (by decide)
@[simp] theorem ne3 : ((("start" : PySem.Str) = ("least" : PySem.Str))) = False := eq_false (by decide)
@[simp] theorem ne4 : ((("end" : PySem.Str) = ("least" : PySem.Str))) = False := eq_false (by decide)
@[simp] theorem ne5 : ((("stairs" : PySem.Str) = ("least" : PySem.Str))) = False := eq_false (by decide)
@[simp] theorem ne6 : ((("start" : PySem.Str) = ("by" : PySem.Str))) = False := eq_false (by decide)
@[simp] theorem ne7 : ((("end" : PySem.Str) = ("by" : PySem.Str))) = False := eq_false (by decide)
@[simp] theorem ne8 : ((("stairs" : PySem.Str) = ("by" : PySem.Str))) = False := eq_false (by decide)
@[simp] theorem ne9 : ((("least" : PySem.Str) = ("by" : PySem.Str))) = False := eq_false (by decide)
/-- what a form is made of -/
def wid (s : List Co) : It := match s.getLast? with
  | some c => c.1
  | none => none
def hei (s : List Co) : It := match s with
  | c :: _ => c.2
  | [] => none
def nrm (s : List Co) (l b : Int × Int) : (Int × Int) × (Int × Int) := if s = [] then ((1, 1), (0, 0)) else ((max l.1 (1 + b.1), max l.2 (1 + b.2)), (plB (wid s) l.1 b.1, plB (hei s) l.2 b.2))
def mkF (a e : Si) (s : List Co) (l b : Int × Int) : Fm := ⟨a, e, s, (nrm s l b).1, (nrm s l b).2⟩
def fmI (f : Fm) : List (PySem.Str × D) := [("start", siD f.st), ("end", siD f.en), ("stairs", sD f.sa), ("least", pD f.le.1 f.le.2), ("by", pD f.by_.1 f.by_.2)]
theorem eq_s0 (n : Bool) (a : List Co) : dEq n (sD a) (.tup []) = some (.sc (.bl (n ^^ decide (a = [])))) := eq_s n a []
theorem init_ok {a e : Si} {s : List Co} {l b : Int × Int} (ha : okSi a) (he : okSi e) (hs : Sta s) (hn : s.length < 60) (h1 : 1 ≤ l.1) (h2 : 1 ≤ l.2) :
    den_Form___init__ [.oi "Form" [], .d (siD a), .d (siD e), .d (sD s), .d (pD l.1 l.2), .d (pD b.1 b.2)] = .ok (.d .non) [some (.oi "Form" (fmI (mkF a e s l b))), some (.d (siD a)), some (.d (siD e)), some (.d (sD s)), some (.d (pD l.1 l.2)), some (.d (pD b.1 b.2))] := by
  have e1 := eq_s0 true s
  have i1 := ix_c (some l.1, some l.2)
  have i2 := ix_c (some b.1, some b.2)
  have sk := stairs_ok hs (by omega)
  cases s with
  | nil =>
    simp -implicitDefEqProofs [den_Form___init__, denOf, m_Form___init__, site_ok ha, site_ok he, sk, bodyP, h1, h2, pair_ok, mFPut, fputD, cfl, putFD, e1]
    rfl
  | cons c s =>
    have e1 : dEq true (sD (c :: s)) (.tup []) = some (.sc (.bl true)) := by rw [e1]; simp
    obtain ⟨k, d, ek⟩ : ∃ k d, c :: s = k ++ [d] := by
      rcases List.eq_nil_or_concat (c :: s) with q | ⟨k, d, q⟩
      · cases q
      · exact ⟨k, d, by rw [q, List.concat_eq_append]⟩
    have x1 : dIxX (sD (c :: s)) (.int (-1)) = some (.it (cD d)) := by
      unfold sD
      rw [e_ixT, ek, List.map_append, List.map_cons, List.map_nil, at_last]
      rfl
    have x0 : dIxX (sD (c :: s)) (.int 0) = some (.it (cD c)) := sD_at (s := c :: s) (i := 0) (by simp)
    have w0 : wid (c :: s) = d.1 := by
      unfold wid
      rw [ek]
      simp
    have hh : hei (c :: s) = c.2 := rfl
    have y0 := ix_c d
    have y1 := ix_c c
    simp -implicitDefEqProofs [den_Form___init__, denOf, m_Form___init__, site_ok ha, site_ok he, sk, bodyP, h1, h2, pair_ok, mFPut, fputD, cfl, putFD, e1, x1, x0, neg_one, y0, y1, i1, i2, plain_ok, ix_c]
    simp [fmI, mkF, nrm, w0, hh]
    exact ⟨rfl, rfl⟩
end HD

/-! W9: forms made, compared, put together. -/
namespace HD
open PySem PySem.Spec PyProof.Rows L2 VS PySem.W
theorem toPy_p (a b : Int) : toPy (pD a b) = some (.tuple [.int a, .int b]) := toPy_c _
def pySi (s : Si) : PyData := .tuple [.int s.1, .tuple [.int s.2.1, .int s.2.2]]
@[simp] theorem cmp_si (s : Si) : cmpD (siD s) = some (pySi s) := by
  have e : toPy (siD s) = some (pySi s) := by
    unfold siD
    simp only [toPy, toPys, toPy_p]
    rfl
  unfold cmpD
  rw [e, Option.bind_some, if_pos]
  unfold SeqAt.shaped
  simp [pySi, PyData.canLay0, PyData.canLayAll0, PyData.depth, PyData.depthAll]
theorem eq_si (n : Bool) (a b : Si) : dEq n (siD a) (siD b) = some (.sc (.bl (n ^^ decide (a = b)))) := by
  obtain ⟨a1, a2, a3⟩ := a
  obtain ⟨b1, b2, b3⟩ := b
  have e : PyData.eqv (pySi (a1, a2, a3)) (pySi (b1, b2, b3)) = decide ((a1, a2, a3) = (b1, b2, b3)) := by
    simp only [pySi, PyData.eqv, PyData.eqvAll, Bool.and_true, Prod.mk.injEq]
    by_cases h1 : a1 = b1 <;> by_cases h2 : a2 = b2 <;> by_cases h3 : a3 = b3 <;> simp [h1, h2, h3]
  simp [dEq, e]
theorem eq_p (n : Bool) (a b c d : Int) : dEq n (pD a b) (pD c d) = some (.sc (.bl (n ^^ (decide (a = c) && decide (b = d))))) := by
  rw [eq_c]
  by_cases h1 : a = c <;> by_cases h2 : b = d <;> simp [h1, h2]
theorem fld_ok (f : Fm) : dFld cf "start" (fmD f) = some (.it (siD f.st)) ∧ dFld cf "end" (fmD f) = some (.it (siD f.en)) ∧ dFld cf "stairs" (fmD f) = some (.it (sD f.sa)) ∧ dFld cf "least" (fmD f) = some (.it (pD f.le.1 f.le.2)) ∧ dFld cf "by" (fmD f) = some (.it (pD f.by_.1 f.by_.2)) := ⟨rfl, rfl, rfl, rfl, rfl⟩
theorem isF (f : Fm) : dIsi ocs oes anc (.own "Form") (fmD f) = some (.sc (.bl true)) := rfl
def eqF (f g : Fm) : Bool := decide (f.st = g.st) && decide (f.en = g.en) && decide (f.sa = g.sa) && (decide (f.le.1 = g.le.1) && decide (f.le.2 = g.le.2)) && (decide (f.by_.1 = g.by_.1) && decide (f.by_.2 = g.by_.2))
theorem eqF_same {f g : Fm} (h : f = g) : eqF f g = true := by
  subst h
  simp [eqF]
theorem eqm_ok (f g : Fm) : den_Form___eq__ [.d (fmD f), .d (fmD g)] = .ok (.d (.bl (eqF f g))) [some (.d (fmD f)), some (.d (fmD g))] := by
  obtain ⟨a1, a2, a3, a4, a5⟩ := fld_ok f
  obtain ⟨b1, b2, b3, b4, b5⟩ := fld_ok g
  unfold eqF
  generalize fmD f = F at *
  have i1 := isF g
  generalize fmD g = G at *
  by_cases h1 : f.st = g.st <;> by_cases h2 : f.en = g.en <;> by_cases h3 : f.sa = g.sa <;> by_cases h4 : f.le.1 = g.le.1 <;> by_cases h5 : f.le.2 = g.le.2 <;>
    simp -implicitDefEqProofs [den_Form___eq__, denOf, m_Form___eq__, i1, a1, a2, a3, a4, a5, b1, b2, b3, b4, b5, eq_si, eq_s, eq_p, h1, h2, h3, h4, h5]
theorem needf_ok (f : Fm) : den_need_form [.d (fmD f)] = .ok (.d .non) [some (.d (fmD f))] := by
  simp -implicitDefEqProofs [den_need_form, denOf, m_need_form, isF]
theorem needf_err {x : D} (h : dIsi ocs oes anc (.own "Form") x = some (.sc (.bl false))) : den_need_form [.d x] = .err "BadForm" [some (.d x)] := by
  simp -implicitDefEqProofs [den_need_form, denOf, m_need_form, h]
theorem needfb_ok (f : Fm) {w h : Int} (h1 : 1 ≤ w) (h2 : 1 ≤ h) : den_need_form_body [.d (fmD f), .d (pD w h)] = .ok (.d .non) [some (.d (fmD f)), some (.d (pD w h))] := by
  simp -implicitDefEqProofs [den_need_form_body, denOf, m_need_form_body, needf_ok, bodyP, h1, h2]
def grF (f : Fm) (w h : Int) : Int × Int := (max f.le.1 (w + f.by_.1), max f.le.2 (h + f.by_.2))
theorem grown_ok (f : Fm) (w h : Int) : den_grown [.d (fmD f), .d (pD w h)] = .ok (.d (pD (grF f w h).1 (grF f w h).2)) [some (.d (fmD f)), some (.d (pD w h))] := by
  obtain ⟨a1, a2, a3, a4, a5⟩ := fld_ok f
  have i1 := ix_c (some f.le.1, some f.le.2)
  have i2 := ix_c (some f.by_.1, some f.by_.2)
  have i3 := ix_c (some w, some h)
  unfold grF
  generalize fmD f = F at *
  simp -implicitDefEqProofs [den_grown, denOf, m_grown, a1, a2, a3, a4, a5, i1, i2, i3, max_if]
  rfl
def hB (s : List Co) (w h : Int) : Bool := s.any fun d => upI (some w) d.1 && upI (some h) d.2
theorem hB_iff {s : List Co} {w h : Int} : hB s w h = true ↔ hS s w h := by
  unfold hB hS hC
  simp [List.any_eq_true]
def esF (f : Fm) (w h : Int) : D := if hB f.sa w h = true then pD (grF f w h).1 (grF f w h).2 else .non
theorem ends_ok (f : Fm) {w h : Int} (h1 : 1 ≤ w) (h2 : 1 ≤ h) : den_end_size [.d (fmD f), .d (pD w h)] = .ok (.d (esF f w h)) [some (.d (fmD f)), some (.d (pD w h))] := by
  obtain ⟨a1, a2, a3, a4, a5⟩ := fld_ok f
  have g := grown_ok f w h
  have n := needfb_ok f h1 h2
  have hk := has_ok f.sa (some w, some h)
  have hb : (f.sa.any fun d => upI (some w) d.1 && upI (some h) d.2) = hB f.sa w h := rfl
  simp only [hb] at hk
  unfold esF
  generalize fmD f = F at *
  cases q : hB f.sa w h <;> simp -implicitDefEqProofs [den_end_size, denOf, m_end_size, n, a3, hk, q, g]
/-- put together -/
def thS (f g : Fm) : List Co := cmn f.sa (mvS g.sa f.le.1 f.le.2 f.by_.1 f.by_.2)
def thF (f g : Fm) : Fm := mkF f.st g.en (thS f g) (max g.le.1 (f.le.1 + g.by_.1), max g.le.2 (f.le.2 + g.by_.2)) (f.by_.1 + g.by_.1, f.by_.2 + g.by_.2)
structure OkF (f : Fm) (n : Nat) : Prop where
  st : okSi f.st
  en : okSi f.en
  sa : Sta f.sa
  len : f.sa.length ≤ n
  l1 : 1 ≤ f.le.1
  l2 : 1 ≤ f.le.2
  nf : f = mkF f.st f.en f.sa f.le f.by_
theorem cmn_len (s t : List Co) : (cmn s t).length ≤ s.length * t.length := by
  unfold cmn topS
  rw [List.length_reverse]
  have h := keep_len (sortR (prs s t)) []
  have e : (sortR (prs s t)).length = (prs s t).length := List.length_mergeSort _
  rw [e, prs_len] at h
  simpa using h
theorem mv_len (s : List Co) (l1 l2 a b : Int) : (mvS s l1 l2 a b).length ≤ s.length := by
  unfold mvS
  rw [List.length_map]
  exact List.length_filter_le _ _
theorem callMake {args : List D} {fs : List (PySem.Str × D)} {ρ : En} (h : den_Form___init__ (.oi "Form" [] :: args.map SV.d) = .ok (.d .non) (some (.oi "Form" fs) :: (args.map fun x => some (SV.d x)))) : makeD "Form" den_Form___init__ (args.map Opd.d) ρ = .ok (.sv (.d (.ins "Form" fs))) ρ := by
  have a1 : argSV (ρ ++ [some (.oi "Form" [])]) (.loc ρ.length :: args.map Opd.d) = some (.oi "Form" [] :: args.map SV.d) := by
    have e : ∀ ρ' : En, argSV ρ' (args.map Opd.d) = some (args.map SV.d) := fun ρ' => by
      clear h
      induction args with
      | nil => rfl
      | cons x xs ih => simp [ih]
    simp [e]
  have a2 : ownIx (ρ ++ [some (.oi "Form" [])]) (.loc ρ.length :: args.map Opd.d) = [ρ.length] := by
    have e : ∀ ρ' : En, ownIx ρ' (args.map Opd.d) = [] := fun ρ' => by
      clear h a1
      induction args with
      | nil => rfl
      | cons x xs ih => simp [ih]
    simp [e]
  have a3 : wb (ρ ++ [some (.oi "Form" [])]) (.loc ρ.length :: args.map Opd.d) (some (.oi "Form" fs) :: (args.map fun x => some (SV.d x))) = ρ ++ [some (.oi "Form" fs)] := by
    have e : ∀ (ρ' : En) (o : En), wb ρ' (args.map Opd.d) o = ρ' := fun ρ' o => by
      clear h a1 a2
      induction args generalizing o with
      | nil => rfl
      | cons x xs ih => simp [ih]
    simp [e]
  have c : callD den_Form___init__ (.loc ρ.length :: args.map Opd.d) (ρ ++ [some (.oi "Form" [])]) = .ok (.sv (.d .non)) (ρ ++ [some (.oi "Form" fs)]) := by
    rw [e_callD, a1]
    dsimp only
    rw [a2, h]
    dsimp only
    rw [a3]
    simp
  unfold makeD
  rw [c]
  simp
end HD

/-! W10: forms put together; what forms do. -/
namespace HD
open PySem PySem.Spec PyProof.Rows L2 VS PySem.W
@[simp] theorem e_makeD {c : Str} {den : Den} {os : List Opd} {ρ : En} : makeD c den os ρ = match callD den (.loc ρ.length :: os) (ρ ++ [some (.oi c [])]) with
  | .ok (.sv (.d .non)) ρ' => (match ρ'.getD ρ.length none with
    | some (.oi c' fs) => .ok (.sv (.d (.ins c' fs))) (ρ'.take ρ.length)
    | _ => .stuck)
  | .err e ρ' => .err e (ρ'.take ρ.length)
  | _ => .stuck := (rfl)
theorem fm_fold (f : Fm) : D.ins "Form" (fmI f) = fmD f := rfl
theorem tup_p (a b : Int) : D.tup [.int a, .int b] = pD a b := rfl
theorem still_ok {p : Si} {s : List Co} (hp : okSi p) (hs : Sta s) (hn : s.length < 60) : den_still [.d (siD p), .d (sD s)] = .ok (.d (fmD (mkF p p s (1, 1) (0, 0)))) [some (.d (siD p)), some (.d (sD s))] := by
  have i := init_ok (l := (1, 1)) (b := (0, 0)) hp hp hs hn (by decide) (by decide)
  have ns : den_need_stay [.d (siD p), .d (sD s)] = .ok (.d .non) [some (.d (siD p)), some (.d (sD s))] := by
    simp -implicitDefEqProofs [den_need_stay, denOf, m_need_stay, site_ok hp, stairs_ok hs (show s.length < 4096 by omega)]
  simp -implicitDefEqProofs [den_still, denOf, m_still, ns, tup_p, i, fm_fold]
theorem mul_lt {a b n m : Nat} (h1 : a ≤ n) (h2 : b ≤ m) (h : n * m < 60) : a * b < 60 := Nat.lt_of_le_of_lt (Nat.mul_le_mul h1 h2) h
theorem then_ok {f g : Fm} {n m : Nat} (hf : OkF f n) (hg : OkF g m) (hnm : n * m < 60) (hn : n < 60) (hm : m < 60) (he : f.en = g.st) : den_then [.d (fmD f), .d (fmD g)] = .ok (.d (fmD (thF f g))) [some (.d (fmD f)), some (.d (fmD g))] := by
  obtain ⟨a1, a2, a3, a4, a5⟩ := fld_ok f
  obtain ⟨b1, b2, b3, b4, b5⟩ := fld_ok g
  have q : dEq true (siD f.en) (siD g.st) = some (.sc (.bl false)) := by
    rw [eq_si, he]
    simp
  have i1 := ix_c (some f.le.1, some f.le.2)
  have i2 := ix_c (some f.by_.1, some f.by_.2)
  have i3 := ix_c (some g.le.1, some g.le.2)
  have i4 := ix_c (some g.by_.1, some g.by_.2)
  have mv := moved_ok (l1 := f.le.1) (l2 := f.le.2) (a := f.by_.1) (b := f.by_.2) hg.sa (Nat.lt_of_le_of_lt hg.len hm) hf.l1 hf.l2
  have ml := mv_len g.sa f.le.1 f.le.2 f.by_.1 f.by_.2
  have ll := mul_lt hf.len (Nat.le_trans ml hg.len) hnm
  have cm := common_ok (s := f.sa) (t := mvS g.sa f.le.1 f.le.2 f.by_.1 f.by_.2) (by omega)
  have cl := cmn_len f.sa (mvS g.sa f.le.1 f.le.2 f.by_.1 f.by_.2)
  have sp := cmn_spec hf.sa.ok (mv_spec (l1 := f.le.1) (l2 := f.le.2) (a := f.by_.1) (b := f.by_.2) hg.sa).1.ok
  have h1 := hg.l1
  have h2 := hg.l2
  have i := init_ok (s := thS f g) (l := (max g.le.1 (f.le.1 + g.by_.1), max g.le.2 (f.le.2 + g.by_.2))) (b := (f.by_.1 + g.by_.1, f.by_.2 + g.by_.2)) hf.st hg.en sp.1 (by unfold thS; omega) (by simp only []; omega) (by simp only []; omega)
  have nf := needf_ok f
  have ng := needf_ok g
  unfold thF
  unfold thS at i ⊢
  generalize fmD f = F at *
  generalize fmD g = G at *
  simp -implicitDefEqProofs [den_then, denOf, m_then, nf, ng, a1, a2, a3, a4, a5, b1, b2, b3, b4, b5, q, mv, cm, i1, i2, i3, i4, max_if, tup_p, i, fm_fold]
theorem then_join {f g : Fm} (he : f.en ≠ g.st) : den_then [.d (fmD f), .d (fmD g)] = .err "NotJoined" [some (.d (fmD f)), some (.d (fmD g))] := by
  obtain ⟨a1, a2, a3, a4, a5⟩ := fld_ok f
  obtain ⟨b1, b2, b3, b4, b5⟩ := fld_ok g
  have q := eq_si true f.en g.st
  have nf := needf_ok f
  have ng := needf_ok g
  generalize fmD f = F at *
  generalize fmD g = G at *
  simp -implicitDefEqProofs [den_then, denOf, m_then, nf, ng, a2, b1, q, he]
theorem then_bad {f : Fm} {x : D} (h : dIsi ocs oes anc (.own "Form") x = some (.sc (.bl false))) : den_then [.d (fmD f), .d x] = .err "BadForm" [some (.d (fmD f)), some (.d x)] := by
  simp -implicitDefEqProofs [den_then, denOf, m_then, needf_ok f, needf_err h]
theorem mul_ok {f g : Fm} {n m : Nat} (hf : OkF f n) (hg : OkF g m) (hnm : n * m < 60) (hn : n < 60) (hm : m < 60) (he : f.en = g.st) : den_Form___mul__ [.d (fmD f), .d (fmD g)] = .ok (.d (fmD (thF f g))) [some (.d (fmD f)), some (.d (fmD g))] := by
  simp -implicitDefEqProofs [den_Form___mul__, denOf, m_Form___mul__, then_ok hf hg hnm hn hm he]
theorem mul_join {f g : Fm} (he : f.en ≠ g.st) : den_Form___mul__ [.d (fmD f), .d (fmD g)] = .err "NotJoined" [some (.d (fmD f)), some (.d (fmD g))] := by
  simp -implicitDefEqProofs [den_Form___mul__, denOf, m_Form___mul__, then_join he]
theorem mul_bad {f : Fm} {x : D} (h : dIsi ocs oes anc (.own "Form") x = some (.sc (.bl false))) : den_Form___mul__ [.d (fmD f), .d x] = .err "BadForm" [some (.d (fmD f)), some (.d x)] := by
  simp -implicitDefEqProofs [den_Form___mul__, denOf, m_Form___mul__, then_bad h]
/-! ### what forms do -/
theorem wid_up : ∀ {s : List Co}, Rise s → ∀ c ∈ s, upI c.1 (wid s) = true := by
  intro s r c hc
  rcases List.eq_nil_or_concat s with rfl | ⟨k, d, rfl⟩
  · cases hc
  · rw [List.concat_eq_append] at *
    have w : wid (k ++ [d]) = d.1 := by
      unfold wid
      simp
    rw [w]
    rcases List.mem_append.mp hc with h | h
    · exact upI_not ((List.pairwise_append.mp r).2.2 c h d (List.mem_singleton.mpr rfl)).1
    · rw [List.mem_singleton.mp h]
      exact upI_refl _
theorem hei_up : ∀ {s : List Co}, Rise s → ∀ c ∈ s, upI c.2 (hei s) = true
  | d :: s, r, c, hc => by
    obtain ⟨h1, _⟩ := List.pairwise_cons.mp r
    rcases List.mem_cons.mp hc with rfl | h
    · exact upI_refl _
    · exact upI_not (h1 c h).2
theorem pl_same {m : It} {l b w : Int} (hw : 1 ≤ w) (h : upI (some w) m = true) : max (max l (1 + b)) (w + plB m l b) = max l (w + b) := by
  cases m with
  | none =>
    show max (max l (1 + b)) (w + b) = max l (w + b)
    omega
  | some x =>
    simp only [upI_s, decide_eq_true_eq] at h
    show max (max l (1 + b)) (w + (max l (x + b) - x)) = max l (w + b)
    omega
theorem gr_same {a e : Si} {s : List Co} {l b : Int × Int} {w h : Int} (hs : Sta s) (h1 : 1 ≤ w) (h2 : 1 ≤ h) (hh : hS s w h) : grF (mkF a e s l b) w h = (max l.1 (w + b.1), max l.2 (h + b.2)) := by
  obtain ⟨c, hc, z1, z2⟩ := hh
  have ne : s ≠ [] := fun z => by rw [z] at hc; cases hc
  have u1 := upI_trans z1 (wid_up hs.up c hc)
  have u2 := upI_trans z2 (hei_up hs.up c hc)
  unfold grF mkF nrm
  rw [if_neg ne]
  simp only [pl_same h1 u1, pl_same h2 u2]
theorem mk_le {a e : Si} {s : List Co} {l b : Int × Int} (h1 : 1 ≤ l.1) (h2 : 1 ≤ l.2) : 1 ≤ (mkF a e s l b).le.1 ∧ 1 ≤ (mkF a e s l b).le.2 := by
  unfold mkF nrm
  split
  · exact ⟨Int.le_refl _, Int.le_refl _⟩
  · simp only []
    omega
/-- sizes that a staircase holds -/
theorem hold_w {s : List Co} (hs : Sta s) {w : Int} (hw : 1 ≤ w) (h : upI (some w) (wid s) = true) (ne : s ≠ []) : hS s w 1 := by
  rcases List.eq_nil_or_concat s with rfl | ⟨k, d, rfl⟩
  · exact absurd rfl ne
  · rw [List.concat_eq_append] at *
    have e : wid (k ++ [d]) = d.1 := by
      unfold wid
      simp
    rw [e] at h
    refine ⟨d, by simp, h, ?_⟩
    have := (hs.ok d (by simp)).2
    cases q : d.2 with
    | none => rfl
    | some y =>
      rw [q] at this
      exact decide_eq_true this
theorem hold_h {s : List Co} (hs : Sta s) {h : Int} (hh : 1 ≤ h) (u : upI (some h) (hei s) = true) (ne : s ≠ []) : hS s 1 h := by
  cases s with
  | nil => exact absurd rfl ne
  | cons d s =>
    refine ⟨d, by simp, ?_, u⟩
    have := (hs.ok d (by simp)).1
    cases q : d.1 with
    | none => rfl
    | some y =>
      rw [q] at this
      exact decide_eq_true this
theorem fn_ext {m : It} {l b l' b' : Int} (hm : okI m) (h : ∀ x, 1 ≤ x → upI (some x) m = true → max l (x + b) = max l' (x + b')) : max l (1 + b) = max l' (1 + b') ∧ plB m l b = plB m l' b' := by
  cases m with
  | none =>
    have h1 := h 1 (by omega) rfl
    refine ⟨h1, ?_⟩
    show b = b'
    have h2 := h (1 + (l - b).natAbs + (l' - b').natAbs + (l - b').natAbs + (l' - b).natAbs) (by omega) rfl
    omega
  | some y =>
    have hm : 1 ≤ y := hm
    refine ⟨h 1 (by omega) (decide_eq_true hm), ?_⟩
    have h2 := h y hm (decide_eq_true (Int.le_refl _))
    show max l (y + b) - y = max l' (y + b') - y
    omega
/-- a form is told by what it does -/
theorem mk_ext {a e : Si} {s t : List Co} {l b l' b' : Int × Int} (hs : Sta s) (ht : Sta t) (h1 : ∀ w h, 1 ≤ w → 1 ≤ h → (hS s w h ↔ hS t w h)) (h2 : ∀ w h, 1 ≤ w → 1 ≤ h → hS s w h → max l.1 (w + b.1) = max l'.1 (w + b'.1) ∧ max l.2 (h + b.2) = max l'.2 (h + b'.2)) :
    mkF a e s l b = mkF a e t l' b' := by
  have est := sta_ext hs ht h1
  subst est
  unfold mkF nrm
  by_cases ne : s = []
  · rw [if_pos ne, if_pos ne]
  · rw [if_neg ne, if_neg ne]
    have okw : okI (wid s) := by
      rcases List.eq_nil_or_concat s with rfl | ⟨k, d, rfl⟩
      · exact absurd rfl ne
      · rw [List.concat_eq_append] at *
        have e : wid (k ++ [d]) = d.1 := by
          unfold wid
          simp
        rw [e]
        exact (hs.ok d (by simp)).1
    have okh : okI (hei s) := by
      cases s with
      | nil => exact absurd rfl ne
      | cons d s => exact (hs.ok d (by simp)).2
    obtain ⟨p1, p2⟩ := fn_ext (l := l.1) (b := b.1) (l' := l'.1) (b' := b'.1) okw fun x hx u => (h2 x 1 hx (Int.le_refl _) (hold_w hs hx u ne)).1
    obtain ⟨q1, q2⟩ := fn_ext (l := l.2) (b := b.2) (l' := l'.2) (b' := b'.2) okh fun x hx u => (h2 1 x (Int.le_refl _) hx (hold_h hs hx u ne)).2
    simp only [p1, p2, q1, q2]
end HD

/-! W11: the plain law of forms. -/
namespace HD
open PySem PySem.Spec PyProof.Rows L2 VS PySem.W
theorem mk_idem {a e : Si} {s : List Co} {l b : Int × Int} (hs : Sta s) : mkF a e s l b = mkF a e s (mkF a e s l b).le (mkF a e s l b).by_ := by
  refine mk_ext hs hs (fun _ _ _ _ => Iff.rfl) fun w h h1 h2 hh => ?_
  have g := gr_same (a := a) (e := e) (l := l) (b := b) hs h1 h2 hh
  unfold grF at g
  exact ⟨(congrArg Prod.fst g).symm, (congrArg Prod.snd g).symm⟩
theorem ok_mk {a e : Si} {s : List Co} {l b : Int × Int} {n : Nat} (ha : okSi a) (he : okSi e) (hs : Sta s) (hn : s.length ≤ n) (h1 : 1 ≤ l.1) (h2 : 1 ≤ l.2) : OkF (mkF a e s l b) n :=
  ⟨ha, he, hs, hn, (mk_le h1 h2).1, (mk_le h1 h2).2, mk_idem hs⟩
theorem th_fn (gl fl gb w fb : Int) : max (max gl (fl + gb)) (w + (fb + gb)) = max gl (max fl (w + fb) + gb) := by omega
section
variable {f g h : Fm} {n m k : Nat}
theorem thS_sta (hf : OkF f n) (hg : OkF g m) : Sta (thS f g) := (cmn_spec hf.sa.ok (mv_spec (l1 := f.le.1) (l2 := f.le.2) (a := f.by_.1) (b := f.by_.2) hg.sa).1.ok).1
theorem thS_hold (hf : OkF f n) (hg : OkF g m) {w q : Int} (h1 : 1 ≤ w) (h2 : 1 ≤ q) : hS (thS f g) w q ↔ hS f.sa w q ∧ hS g.sa (grF f w q).1 (grF f w q).2 := by
  have a := (cmn_spec hf.sa.ok (mv_spec (l1 := f.le.1) (l2 := f.le.2) (a := f.by_.1) (b := f.by_.2) hg.sa).1.ok).2 w q
  have b := (mv_spec (l1 := f.le.1) (l2 := f.le.2) (a := f.by_.1) (b := f.by_.2) hg.sa).2 w q h1 h2
  unfold thS
  rw [a, b]
  rfl
theorem thS_len (hf : OkF f n) (hg : OkF g m) : (thS f g).length ≤ n * m := by
  unfold thS
  exact Nat.le_trans (cmn_len _ _) (Nat.mul_le_mul hf.len (Nat.le_trans (mv_len _ _ _ _ _) hg.len))
theorem ok_th (hf : OkF f n) (hg : OkF g m) : OkF (thF f g) (n * m) := by
  have h1 := hg.l1
  have h2 := hg.l2
  unfold thF
  exact ok_mk hf.st hg.en (thS_sta hf hg) (thS_len hf hg) (by simp only []; omega) (by simp only []; omega)
theorem gr_pos (hf : OkF f n) (w q : Int) : 1 ≤ (grF f w q).1 ∧ 1 ≤ (grF f w q).2 := by
  have h1 := hf.l1
  have h2 := hf.l2
  unfold grF
  simp only []
  omega
theorem gr_th (hf : OkF f n) (hg : OkF g m) {w q : Int} (h1 : 1 ≤ w) (h2 : 1 ≤ q) (hh : hS (thS f g) w q) : grF (thF f g) w q = grF g (grF f w q).1 (grF f w q).2 := by
  unfold thF
  rw [gr_same (thS_sta hf hg) h1 h2 hh]
  unfold grF
  simp only [th_fn]
theorem th_sa : (thF f g).sa = thS f g := rfl
theorem th_assoc (hf : OkF f n) (hg : OkF g m) (hh : OkF h k) : thF (thF f g) h = thF f (thF g h) := by
  have fg := ok_th hf hg
  have gh := ok_th hg hh
  show mkF f.st h.en (thS (thF f g) h) _ _ = mkF f.st h.en (thS f (thF g h)) _ _
  refine mk_ext (thS_sta fg hh) (thS_sta hf gh) (fun w q h1 h2 => ?_) fun w q h1 h2 z => ?_
  · rw [thS_hold fg hh h1 h2, thS_hold hf gh h1 h2, th_sa, th_sa]
    obtain ⟨p1, p2⟩ := gr_pos hf w q
    rw [thS_hold hf hg h1 h2, thS_hold hg hh p1 p2]
    constructor
    · rintro ⟨⟨a, b⟩, c⟩
      rw [gr_th hf hg h1 h2 ((thS_hold hf hg h1 h2).mpr ⟨a, b⟩)] at c
      exact ⟨a, b, c⟩
    · rintro ⟨a, b, c⟩
      refine ⟨⟨a, b⟩, ?_⟩
      rw [gr_th hf hg h1 h2 ((thS_hold hf hg h1 h2).mpr ⟨a, b⟩)]
      exact c
  · obtain ⟨a, c⟩ := (thS_hold fg hh h1 h2).mp z
    rw [th_sa] at a
    obtain ⟨a1, a2⟩ := (thS_hold hf hg h1 h2).mp a
    have e1 := gr_th hf hg h1 h2 a
    obtain ⟨p1, p2⟩ := gr_pos hf w q
    have c' := c
    rw [e1] at c'
    have e2 := gr_th hg hh p1 p2 ((thS_hold hg hh p1 p2).mpr ⟨a2, c'⟩)
    generalize thF f g = FG at *
    generalize thF g h = GH at *
    unfold grF at e1 e2
    simp only [Prod.mk.injEq] at e1 e2
    refine ⟨?_, ?_⟩
    · simp only []
      rw [th_fn, th_fn, e1.1, e2.1]
    · simp only []
      rw [th_fn, th_fn, e1.2, e2.2]
def allS : List Co := [(none, none)]
theorem all_sta : Sta allS := ⟨fun c hc => by rw [List.mem_singleton.mp hc]; exact ⟨trivial, trivial⟩, List.pairwise_singleton _ _⟩
theorem all_hold (w q : Int) : hS allS w q := ⟨(none, none), List.mem_singleton.mpr rfl, rfl, rfl⟩
def stF (p : Si) (s : List Co) : Fm := mkF p p s (1, 1) (0, 0)
theorem ok_st {p : Si} {s : List Co} {n : Nat} (hp : okSi p) (hs : Sta s) (hn : s.length ≤ n) : OkF (stF p s) n := ok_mk hp hp hs hn (Int.le_refl _) (Int.le_refl _)
theorem gr_st {p : Si} {s : List Co} {w q : Int} (hs : Sta s) (h1 : 1 ≤ w) (h2 : 1 ≤ q) (hh : hS s w q) : grF (stF p s) w q = (w, q) := by
  unfold stF
  rw [gr_same hs h1 h2 hh]
  simp only [Prod.mk.injEq]
  omega
/-- a still form of at least its bodies ahead of a form -/
theorem st_th {s : List Co} (hf : OkF f n) (hs : Sta s) (hsub : ∀ w q, 1 ≤ w → 1 ≤ q → hS f.sa w q → hS s w q) : thF (stF f.st s) f = f := by
  have ok := ok_st (n := s.length) hf.st hs (Nat.le_refl _)
  have e : thF (stF f.st s) f = mkF f.st f.en f.sa f.le f.by_ := by
    show mkF f.st f.en (thS (stF f.st s) f) _ _ = _
    refine mk_ext (thS_sta ok hf) hf.sa (fun w q h1 h2 => ?_) fun w q h1 h2 z => ?_
    · rw [thS_hold ok hf h1 h2]
      constructor
      · rintro ⟨a, b⟩
        rw [gr_st hs h1 h2 a] at b
        exact b
      · intro a
        refine ⟨hsub w q h1 h2 a, ?_⟩
        rw [gr_st hs h1 h2 (hsub w q h1 h2 a)]
        exact a
    · have a := ((thS_hold ok hf h1 h2).mp z).1
      have g := gr_st (p := f.st) hs h1 h2 a
      unfold grF at g
      generalize stF f.st s = S at *
      simp only [Prod.mk.injEq] at g ⊢
      omega
  exact e.trans hf.nf.symm
theorem th_st (hf : OkF f n) : thF f (stF f.en allS) = f := by
  have ok := ok_st (n := 1) hf.en all_sta (Nat.le_refl _)
  have e : thF f (stF f.en allS) = mkF f.st f.en f.sa f.le f.by_ := by
    show mkF f.st f.en (thS f (stF f.en allS)) _ _ = _
    refine mk_ext (thS_sta hf ok) hf.sa (fun w q h1 h2 => ?_) fun w q h1 h2 z => ?_
    · rw [thS_hold hf ok h1 h2]
      exact ⟨fun z => z.1, fun z => ⟨z, all_hold _ _⟩⟩
    · have l1 := hf.l1
      have l2 := hf.l2
      have e1 : (stF f.en allS).le = (1, 1) := rfl
      have e2 : (stF f.en allS).by_ = (0, 0) := rfl
      rw [e1, e2]
      simp only []
      omega
  exact e.trans hf.nf.symm
theorem calm_sa {p : Si} (hp : okSi p) (hf : OkF f n) (hh : OkF h k) : (thF (stF p h.sa) (stF p f.sa)).sa = cmn f.sa h.sa := by
  have o1 := ok_st (n := k) hp hh.sa hh.len
  have o2 := ok_st (n := n) hp hf.sa hf.len
  refine sta_ext (thS_sta o1 o2) (cmn_spec hf.sa.ok hh.sa.ok).1 fun w q h1 h2 => ?_
  show hS (thS _ _) w q ↔ _
  rw [thS_hold o1 o2 h1 h2, (cmn_spec hf.sa.ok hh.sa.ok).2]
  constructor
  · rintro ⟨a, b⟩
    rw [gr_st hh.sa h1 h2 a] at b
    exact ⟨b, a⟩
  · rintro ⟨a, b⟩
    refine ⟨b, ?_⟩
    rw [gr_st hh.sa h1 h2 b]
    exact a
end
end HD

/-! W12: the law's own corners and staircases. -/
namespace HD
open PySem PySem.Spec PyProof.Rows L2 VS PySem.W
theorem least_ok (a b : It) : den__law_least [.d (oD a), .d (oD b)] = .ok (.d (oD (lsI a b))) [some (.d (oD a)), some (.d (oD b))] := by
  unfold lsI
  cases a with
  | none => cases b <;> simp [den__law_least, denOf, m__law_least]
  | some x =>
    cases b with
    | none => simp [den__law_least, denOf, m__law_least]
    | some y =>
      by_cases h : y < x
      · have g : ¬ x ≤ y := by omega
        simp [den__law_least, denOf, m__law_least, h, g]
      · have g : x ≤ y := by omega
        simp [den__law_least, denOf, m__law_least, h, g]
theorem ls_eq (a b : It) : decide (lsI a b = b) = upI b a := by
  unfold lsI
  rw [Bool.eq_iff_iff, decide_eq_true_eq]
  by_cases h : upI a b = true
  · rw [if_pos h]
    exact ⟨fun e => by rw [e]; exact upI_refl _, fun g => upI_anti h g⟩
  · rw [if_neg h]
    exact ⟨fun _ => upI_not h, fun _ => rfl⟩
theorem holds_ok (c d : Co) : den__law_holds [.d (cD c), .d (cD d)] = .ok (.d (.bl (upI d.1 c.1 && upI d.2 c.2))) [some (.d (cD c)), some (.d (cD d))] := by
  have i0 := ix_c c
  have i1 := ix_c d
  have e1 := eq_i false (lsI c.1 d.1) d.1
  have e2 := eq_i false (lsI c.2 d.2) d.2
  rw [ls_eq] at e1 e2
  cases h : upI d.1 c.1 <;> simp [den__law_holds, denOf, m__law_holds, i0, i1, least_ok, e1, e2, h]
theorem toPys_one : ∀ k : Nat, toPys (List.replicate k (.int 1)) = some (List.replicate k (.int 1))
  | 0 => by simp [toPys]
  | k + 1 => by simp [List.replicate_succ, toPys, toPy, toPys_one k]
theorem lay_one : ∀ k : Nat, PyData.canLayAll0 (List.replicate k (.int 1)) = true
  | 0 => by simp [PyData.canLayAll0]
  | k + 1 => by simp [List.replicate_succ, PyData.canLayAll0, PyData.canLay0, lay_one k]
theorem dep_one : ∀ k : Nat, PyData.depthAll (List.replicate k (.int 1)) = 0
  | 0 => by simp [PyData.depthAll]
  | k + 1 => by simp [List.replicate_succ, PyData.depthAll, PyData.depth, dep_one k]
theorem eq_one (n : Bool) (k : Nat) : dEq n (.lst (List.replicate k (.int 1))) (.lst []) = some (.sc (.bl (n ^^ decide (k = 0)))) := by
  have c : ∀ k : Nat, cmpD (.lst (List.replicate k (.int 1))) = some (.list (List.replicate k (.int 1))) := fun k => by
    unfold cmpD
    simp only [toPy, toPys_one, Option.map_some, Option.bind_some]
    rw [if_pos]
    unfold SeqAt.shaped
    simp [PyData.canLay0, PyData.depth, lay_one, dep_one]
  have c0 := c 0
  have ck := c k
  simp only [List.replicate_zero] at c0
  simp only [dEq, c0, ck, Option.bind_some]
  cases k <;> simp [PyData.eqv, PyData.eqvAll, List.replicate_succ]
theorem ones_of (p : Co → Bool) : ∀ s : List Co, (s.map cD).filterMap (fun x => if p (unC x) = true then some (D.int 1) else none) = List.replicate (s.countP p) (.int 1)
  | [] => rfl
  | c :: s => by
    rw [List.map_cons, List.filterMap_cons, List.countP_cons, ones_of p s, unC_c]
    by_cases h : p c = true
    · rw [if_pos h, if_pos h]
      rfl
    · rw [if_neg h, if_neg h]
      rfl
theorem count_any (p : Co → Bool) (s : List Co) : (true ^^ decide (s.countP p = 0)) = s.any p := by
  rw [Bool.eq_iff_iff, List.any_eq_true]
  simp only [Bool.true_xor, Bool.not_eq_true', decide_eq_false_iff_not]
  constructor
  · intro h
    obtain ⟨c, hc, hp⟩ := List.countP_pos_iff.mp (Nat.pos_of_ne_zero h)
    exact ⟨c, hc, hp⟩
  · rintro ⟨c, hc, hp⟩ z
    exact absurd (List.countP_pos_iff.mpr ⟨c, hc, hp⟩) (by omega)
theorem lheld_ok {s : List Co} (c : Co) (hn : s.length < 4096) : den__law_held [.d (sD s), .d (cD c)] = .ok (.d (.bl (s.any fun d => upI c.1 d.1 && upI c.2 d.2))) [some (.d (sD s)), some (.d (cD c))] := by
  have e := lc_eq (ρ := [some (.d (sD s)), some (.d (cD c)), none]) (vs := [2]) (mg := tgName 2) (mt := mB (mCall den__law_holds (mCons (mVar 2) (mCons (mVar 1) (M.ret []))))) (me := M.ret (Ref.sv (SV.d (D.int 1)))) (xs := s.map cD) (fun x => if (fun d : Co => upI c.1 d.1 && upI c.2 d.2) (unC x) = true then some (D.int 1) else none) (by simpa using hn) (fun x hx => by
    obtain ⟨d, _, rfl⟩ := List.mem_map.mp hx
    have h := holds_ok d c
    rw [unC_c]
    by_cases q : (upI c.1 d.1 && upI c.2 d.2) = true
    · rw [q] at h
      simp [lcOne, wipeE, restE, h, q]
    · have q' : (upI c.1 d.1 && upI c.2 d.2) = false := by simpa using q
      rw [q'] at h
      simp [lcOne, wipeE, restE, h, q'])
  rw [ones_of (fun d : Co => upI c.1 d.1 && upI c.2 d.2)] at e
  have o := eq_one true (s.countP fun d => upI c.1 d.1 && upI c.2 d.2)
  rw [count_any] at o
  simp [den__law_held, denOf, m__law_held, e, o]
theorem lrank_ok (i : It) : den__law_rank [.d (oD i)] = .ok (.d (rI i)) [some (.d (oD i))] := by
  cases i <;> simp [den__law_rank, denOf, m__law_rank, rI]
theorem grow_ok (l1 l2 b1 b2 w h : Int) : den__law_grow [.d (pD l1 l2), .d (pD b1 b2), .d (pD w h)] = .ok (.d (pD (max l1 (w + b1)) (max l2 (h + b2)))) [some (.d (pD l1 l2)), some (.d (pD b1 b2)), some (.d (pD w h))] := by
  have i1 := ix_c (some l1, some l2)
  have i2 := ix_c (some b1, some b2)
  have i3 := ix_c (some w, some h)
  simp [den__law_grow, denOf, m__law_grow, i1, i2, i3, max_if, tup_p]
/-! ### the law's staircase -/
def maxi (cs : List Co) (c : Co) : Prop := ∀ d ∈ cs, d ≠ c → ¬ upC c d
theorem pys_ri : ∀ cs : List Co, toPys (cs.map fun c => rI c.1) = some (cs.map fun c => rpI c.1)
  | [] => by simp [toPys]
  | c :: cs => by simp [toPys, py_rI, pys_ri cs]
theorem keys_ri (cs : List Co) : KX.KeysOk (cs.map fun c => rpI c.1) := by
  refine ⟨fun d hd d' hd' => ?_, .inl fun d hd => ?_, fun d hd => ?_⟩
  · obtain ⟨c, _, rfl⟩ := List.mem_map.mp hd
    obtain ⟨c', _, rfl⟩ := List.mem_map.mp hd'
    exact alike_i _ _
  · obtain ⟨c, _, rfl⟩ := List.mem_map.mp hd
    obtain ⟨a, b⟩ := c
    cases a <;> exact ⟨_, _, rfl⟩
  · obtain ⟨c, _, rfl⟩ := List.mem_map.mp hd
    obtain ⟨a, b⟩ := c
    cases a <;> simp [rpI, PyData.depth, PyData.depthAll]
theorem up_of {a b : Co} (h : dataLe false (fun c : Co => rpI c.1) a b = true) : upI a.1 b.1 = true := by
  obtain ⟨a1, a2⟩ := a
  obtain ⟨b1, b2⟩ := b
  unfold dataLe sortLe at h
  cases a1 <;> cases b1 <;> simp [rpI, keyToks, keyToksAll, PyProof.Rows.lexLt, itemLt] at h ⊢ <;> omega
def sortF (cs : List Co) : List Co := cs.mergeSort (dataLe false fun c : Co => rpI c.1)
theorem sortF_up (cs : List Co) : (sortF cs).Pairwise fun a b => upI a.1 b.1 = true := by
  have T := sortLe_total (listOrd itemOrd) false fun c : Co => keyToks (rpI c.1)
  exact (List.pairwise_mergeSort (le := dataLe false fun c : Co => rpI c.1) (fun a b c => T.trans a b c) (fun a b => Bool.or_eq_true_iff.mpr (T.total a b)) cs).imp fun h => up_of h
theorem sortF_eq (cs : List Co) : sortByK false (cs.map cD) (cs.map fun c => rpI c.1) = (sortF cs).map cD := by
  unfold sortByK sortF
  have e : (cs.map cD).zip (cs.map fun c => rpI c.1) = cs.map fun c => (cD c, rpI c.1) := by
    induction cs with
    | nil => rfl
    | cons c cs ih => simp only [List.map_cons, List.zip_cons_cons, ih]
  have f := List.map_mergeSort (f := fun c : Co => (cD c, rpI c.1)) (s := dataLe false Prod.snd) (r := dataLe false fun c : Co => rpI c.1) (l := cs) (fun _ _ _ _ => rfl)
  rw [e, ← f, List.map_map]
  rfl
theorem sortF_sta {cs found : List Co} (ok : ∀ c ∈ cs, okC c) (h1 : ∀ c ∈ found, c ∈ cs ∧ maxi cs c) (h2 : found.Nodup) : Sta (sortF found) := by
  have mem : ∀ {c}, c ∈ sortF found → c ∈ found := fun h => List.mem_mergeSort.mp h
  have nd : (sortF found).Nodup := (List.mergeSort_perm found _).symm.nodup h2
  refine ⟨fun c hc => ok c (h1 c (mem hc)).1, ?_⟩
  have both := List.Pairwise.and nd (sortF_up found)
  refine List.Pairwise.imp_of_mem (fun {a b} ha hb z => ?_) both
  obtain ⟨ne, up⟩ := z
  obtain ⟨a1, a2⟩ := h1 a (mem ha)
  obtain ⟨b1, b2⟩ := h1 b (mem hb)
  have nab := a2 b b1 (Ne.symm ne)
  have nba := b2 a a1 ne
  refine ⟨fun u => ?_, fun u => nab ⟨up, u⟩⟩
  rcases upI_total a.2 b.2 with v | v
  · exact nab ⟨up, v⟩
  · exact nba ⟨u, v⟩
def StI (cs : List Co) (i : Nat) (ρ : En) : Prop := ∃ (found : List Co) (x y : Option SV), ρ = [some (.d (.lst (cs.map cD))), some (.ol (found.map cD)), x, y] ∧ (∀ c ∈ found, c ∈ cs ∧ maxi cs c) ∧ found.Nodup ∧ found.length ≤ i ∧ isData x = true ∧ isData y = true
theorem lstair_ok {cs : List Co} (ok : ∀ c ∈ cs, okC c) (hn : cs.length < 4096) : ∃ s, Sta s ∧ s.length ≤ cs.length ∧ den__law_staircase [.ol (cs.map cD)] = .ok (.d (sD s)) [some (.d (.lst (cs.map cD)))] := by
  obtain ⟨a, o, e, s, h1, h2, h3, h4⟩ := den_wp (n := 1) (l := 3) (pin := [0]) (m := m__law_staircase) (args := [.ol (cs.map cD)]) (Q := fun a o => ∃ s, Sta s ∧ s.length ≤ cs.length ∧ a = .d (sD s) ∧ o = [some (.d (.lst (cs.map cD)))]) (by
    simp [m__law_staircase]
    refine Rs.Wp.bind (wp_forM (StI cs) ⟨[], none, none, rfl, by simp, List.nodup_nil, Nat.le_refl _, rfl, rfl⟩ (fun i hi ρ h0 => ?_) (fun ρ h0 => ?_))
    · obtain ⟨found, x, y, rfl, f1, f2, f3, f4, f5⟩ := h0
      have hc : cs[i] ∈ cs := List.getElem_mem hi
      generalize cs[i] = c at hc ⊢
      have lc := lc_eq (ρ := [some (.d (.lst (cs.map cD))), some (.ol (found.map cD)), some (.d (cD c)), y]) (vs := [3]) (mg := tgName 3) (mt := mAndT (mB (mBin (dEq true) (mVar 3) (mVar 2))) (mB (mCall den__law_holds (mCons (mVar 3) (mCons (mVar 2) (M.ret [])))))) (me := M.ret (Ref.sv (SV.d (D.int 1)))) (xs := cs.map cD)
        (fun x => if (fun d : Co => !decide (d = c) && (upI c.1 d.1 && upI c.2 d.2)) (unC x) = true then some (D.int 1) else none) (by simpa using hn) (fun x hx => by
          obtain ⟨d, _, rfl⟩ := List.mem_map.mp hx
          have h := holds_ok d c
          have q := eq_c true d c
          rw [unC_c]
          by_cases q1 : d = c
          · simp [lcOne, wipeE, restE, q, q1]
            subst q1
            simp [q]
          · by_cases q2 : (upI c.1 d.1 && upI c.2 d.2) = true
            · rw [q2] at h
              simp [lcOne, wipeE, restE, h, q, q1, q2]
            · have q' : (upI c.1 d.1 && upI c.2 d.2) = false := by simpa using q2
              rw [q'] at h
              simp [lcOne, wipeE, restE, h, q, q1, q'])
      rw [ones_of (fun d : Co => !decide (d = c) && (upI c.1 d.1 && upI c.2 d.2))] at lc
      have o := eq_one false (cs.countP fun d => !decide (d = c) && (upI c.1 d.1 && upI c.2 d.2))
      have ic := in_c true c found
      have hz : found.length < sizeLine := e_sizeLine _ (by omega)
      have stay : StI cs (i + 1) [some (.d (.lst (cs.map cD))), some (.ol (found.map cD)), some (.d (cD c)), y] := ⟨found, _, _, rfl, f1, f2, by omega, rfl, f5⟩
      have add : maxi cs c → c ∉ found → StI cs (i + 1) [some (.d (.lst (cs.map cD))), some (.ol ((found ++ [c]).map cD)), some (.d (cD c)), y] := fun m n => ⟨found ++ [c], _, _, rfl, fun d hd => by
          rcases List.mem_append.mp hd with z | z
          · exact f1 d z
          · rw [List.mem_singleton.mp z]
            exact ⟨hc, m⟩, by
          rw [List.nodup_append]
          refine ⟨f2, by simp, fun a ha b hb => ?_⟩
          rw [List.mem_singleton.mp hb]
          exact fun z => n (z ▸ ha), by simp; omega, rfl, f5⟩
      unfold forS
      simp only [e_tgN]
      by_cases g1 : (cs.countP fun d => !decide (d = c) && (upI c.1 d.1 && upI c.2 d.2)) = 0
      · have m : maxi cs c := fun d hd ne u => by
          have := List.countP_eq_zero.mp g1 d hd
          simp [ne, u.1, u.2] at this
        rw [g1] at o lc
        have o0 : dEq false (.lst []) (.lst []) = some (.sc (.bl true)) := eq_l0 false []
        by_cases g2 : c ∈ found
        · simp only [g2, decide_true] at ic
          simp [lc, o0, ic, f5]
          exact stay
        · simp only [g2, decide_false] at ic
          have add := add m g2
          rw [List.map_append] at add
          simp [lc, o0, ic, f5, gAppend, hz]
          exact add
      · simp only [g1, decide_false] at o
        generalize List.replicate _ _ = L at lc o
        simp [lc, o, f5]
        exact stay
    · obtain ⟨found, x, y, rfl, f1, f2, f3, f4, f5⟩ := h0
      have kr : keyR (mKeyL 2 (mCall den__law_rank (mCons (mBin dIxX (mVar 2) (M.ret (Ref.sv (SV.d (D.int 0))))) (M.ret [])))) (found.map cD) [] [some (.d (.lst (cs.map cD))), some (.ol (found.map cD)), x, y] = .ok (found.map fun c => rI c.1) [some (.d (.lst (cs.map cD))), some (.ol (found.map cD)), x, y] := by
        rw [key_eq (fun x => rI (unC x).1) (fun z hz => ?_), List.nil_append, List.map_map]
        · congr 1
          refine List.map_congr_left fun c _ => ?_
          simp
        · obtain ⟨c, _, rfl⟩ := List.mem_map.mp hz
          have i0 := ix_c c
          simp [f4, i0, lrank_ok, restE]
      have sr : ∀ ρ : En, srtK false (found.map cD) (found.map fun c => rI c.1) ρ = .ok (.sv (.ol ((sortF found).map cD))) ρ := fun ρ => by rw [srt_eq (pys_ri found) (keys_ri found), sortF_eq]
      simp [kr, sr, fTuple]
      refine ⟨sortF found, sortF_sta ok f1 f2, ?_, rfl⟩
      have : (sortF found).length = found.length := List.length_mergeSort _
      omega)
  exact ⟨s, h1, h2, e.trans (by rw [h3, h4])⟩
end HD

/-! W13: what is drawn. -/
namespace HD
open PySem PySem.Spec PyProof.Rows L2 VS PySem.W
theorem seq_wp {p q : M Fl} {ρ ρ' : En} {Q : Fl → En → Prop} (h : p ρ = .ok .nx ρ') (k : (q ρ').Wp Q) : (mSeq p q ρ).Wp Q := by
  rw [e_seq, h]
  exact k
theorem Tn.le {s : Draw} {n m : Int} (h : Tn s n) (g : n ≤ m) : Tn s m := ⟨h.1, Int.le_trans h.2 g⟩
theorem lsize_ok {s : Draw} {n : Int} (h : Tn s n) (hn : n ≤ 2 ^ 38 + 6) : ∃ v s', den__law_size [.dr s] = .ok (.d (.int v)) [some (.dr s')] ∧ 1 ≤ v ∧ Tn s' (n + 5) := by
  obtain ⟨a, s1, e1, a0, a1, t1⟩ := take_ok (m := 4) h (by omega) (by decide) (by decide)
  obtain ⟨b, s2, e2, b0, b1, t2⟩ := take_ok (m := 12) t1 (by omega) (by decide) (by decide)
  obtain ⟨c, s3, e3, c0, c1, t3⟩ := take_ok (m := 60) t2 (by omega) (by decide) (by decide)
  obtain ⟨d, s4, e4, d0, d1, t4⟩ := take_ok (m := 99999) t3 (by omega) (by decide) (by decide)
  obtain ⟨y, s5, m, e5, t5⟩ := pick_ok (xs := [.int a, .int b, .int c, .int d]) t4 (by omega) (by simp) (by simp)
  obtain ⟨v, rfl, hv⟩ : ∃ v, y = .int v ∧ 0 ≤ v := by
    simp only [List.mem_cons, List.not_mem_nil, or_false] at m
    rcases m with rfl | rfl | rfl | rfl
    · exact ⟨a, rfl, a0⟩
    · exact ⟨b, rfl, b0⟩
    · exact ⟨c, rfl, c0⟩
    · exact ⟨d, rfl, d0⟩
  refine ⟨1 + v, s5, ?_, by omega, t5.le (by omega)⟩
  simp [den__law_size, denOf, m__law_size, e1, e2, e3, e4, e5]
noncomputable abbrev besT : M Fl := mSeq (mSet 2 (mIfE (mB (mBin (dIs false) (mVar 2) (M.ret (rSc .non)))) (mCall den__law_size (mCons (mVar 0) (M.ret []))) (mBin dAdd (mVar 2) (mCall den__law_pick (mCons (mVar 0) (mCons (mLst (mCons (M.ret (rSc (.int 0))) (mCons (M.ret (rSc (.int 0))) (mCons (M.ret (rSc (.int 1))) (mCons (M.ret (rSc (.int 1))) (mCons (mUn dNeg (M.ret (rSc (.int 1)))) (M.ret []))))))) (M.ret []))))))) (mSeq (mSet 3 (mIfE (mB (mBin (dIs false) (mVar 3) (M.ret (rSc .non)))) (mCall den__law_size (mCons (mVar 0) (M.ret []))) (mBin dAdd (mVar 3) (mCall den__law_pick (mCons (mVar 0) (mCons (mLst (mCons (M.ret (rSc (.int 0))) (mCons (M.ret (rSc (.int 0))) (mCons (M.ret (rSc (.int 1))) (mCons (M.ret (rSc (.int 1))) (mCons (mUn dNeg (M.ret (rSc (.int 1)))) (M.ret []))))))) (M.ret []))))))) (mRet [0, 1] (mTup (mCons (mFn fMax (mCons (M.ret (rSc (.int 1))) (mCons (mVar 2) (M.ret [])))) (mCons (mFn fMax (mCons (M.ret (rSc (.int 1))) (mCons (mVar 3) (M.ret [])))) (M.ret []))))))
theorem bes_tail {s : Draw} {n : Int} {cs : List Co} (x y : It) (h : Tn s n) (hn : n ≤ 2 ^ 38) : ∃ w k s' z2 z3, besT [some (.dr s), some (.d (.lst (cs.map cD))), some (.d (oD x)), some (.d (oD y))] = .ok (.rt (.d (pD (max 1 w) (max 1 k)))) [some (.dr s'), some (.d (.lst (cs.map cD))), z2, z3] ∧ Tn s' (n + 10) := by
  have one : ∀ (i : It) (s : Draw) (m : Int), Tn s m → m ≤ 2 ^ 38 + 6 → ∃ v s', Tn s' (m + 5) ∧ (i = none → den__law_size [.dr s] = .ok (.d (.int v)) [some (.dr s')]) ∧ (∀ x, i = some x → ∃ u, v = x + u ∧ den__law_pick [.dr s, .d (.lst [.int 0, .int 0, .int 1, .int 1, .int (-1)])] = .ok (.d (.int u)) [some (.dr s'), some (.d (.lst [.int 0, .int 0, .int 1, .int 1, .int (-1)]))]) := fun i s m t hm => by
    cases i with
    | none =>
      obtain ⟨v, s', e, _, t'⟩ := lsize_ok t hm
      exact ⟨v, s', t', fun _ => e, (fun x z => nomatch z)⟩
    | some x =>
      obtain ⟨y, s', mm, e, t'⟩ := pick_ok (xs := [.int 0, .int 0, .int 1, .int 1, .int (-1)]) t (by omega) (by simp) (by simp)
      obtain ⟨u, rfl⟩ : ∃ u, y = .int u := by
        simp only [List.mem_cons, List.not_mem_nil, or_false] at mm
        rcases mm with rfl | rfl | rfl | rfl | rfl <;> exact ⟨_, rfl⟩
      exact ⟨x + u, s', t'.le (by omega), (fun z => nomatch z), fun x' z => ⟨u, by rw [Option.some.inj z], e⟩⟩
  obtain ⟨w, s1, t1, p1, p2⟩ := one x s n h (by omega)
  obtain ⟨k, s2, t2, q1, q2⟩ := one y s1 (n + 5) t1 (by omega)
  refine ⟨w, k, s2, some (.d (.int w)), some (.d (.int k)), ?_, t2.le (by omega)⟩
  cases x with
  | none =>
    have r1 := p1 rfl
    cases y with
    | none =>
      have r2 := q1 rfl
      simp [besT, r1, r2, max_if]
      rfl
    | some y =>
      obtain ⟨u, ev, r2⟩ := q2 y rfl
      simp [besT, r1, r2, max_if, ev]
      rfl
  | some x =>
    obtain ⟨u, eu, r1⟩ := p2 x rfl
    cases y with
    | none =>
      have r2 := q1 rfl
      simp [besT, r1, r2, max_if, eu]
      rfl
    | some y =>
      obtain ⟨u', ev, r2⟩ := q2 y rfl
      simp [besT, r1, r2, max_if, eu, ev]
      rfl
end HD

/-! W14: bodies beside corners, a few corners, what forms are made of. -/
namespace HD
open PySem PySem.Spec PyProof.Rows L2 VS PySem.W
theorem seq_rt {p q : M Fl} {ρ ρ' : En} {s : SV} {Q : Fl → En → Prop} (h : p ρ = .ok (.rt s) ρ') (k : Q (.rt s) ρ') : (mSeq p q ρ).Wp Q := by
  rw [e_seq, h]
  exact wp_ok.mpr k
theorem wp_eq {α : Type} {r : Rs α} {a : α} {ρ' : En} {Q : α → En → Prop} (h : r = .ok a ρ') (k : Q a ρ') : r.Wp Q := by
  rw [h]
  exact wp_ok.mpr k
theorem beside_ok {s : Draw} {n : Int} {cs : List Co} (h : Tn s n) (hn : n ≤ 2 ^ 37) (hc : cs.length < 4096) : ∃ w k s', den__law_beside [.dr s, .d (.lst (cs.map cD))] = .ok (.d (pD w k)) [some (.dr s'), some (.d (.lst (cs.map cD)))] ∧ 1 ≤ w ∧ 1 ≤ k ∧ Tn s' (n + 20) := by
  obtain ⟨r, o, e, w, k, s', h1, h2, h3, h4, h5⟩ := den_wp (n := 2) (l := 2) (pin := [0, 1]) (m := m__law_beside) (args := [.dr s, .d (.lst (cs.map cD))]) (Q := fun r o => ∃ w k s', r = .d (pD w k) ∧ o = [some (.dr s'), some (.d (.lst (cs.map cD)))] ∧ 1 ≤ w ∧ 1 ≤ k ∧ Tn s' (n + 20)) (by
    have q := eq_l0 false cs
    have two : ∀ (s1 : Draw) (m : Int), Tn s1 m → m ≤ n + 1 → ∃ w k s', mRet [0, 1] (mTup (mCons (mCall den__law_size (mCons (mVar 0) (M.ret []))) (mCons (mCall den__law_size (mCons (mVar 0) (M.ret []))) (M.ret [])))) [some (.dr s1), some (.d (.lst (cs.map cD))), none, none] = .ok (.rt (.d (pD w k))) [some (.dr s'), some (.d (.lst (cs.map cD))), none, none] ∧ 1 ≤ w ∧ 1 ≤ k ∧ Tn s' (n + 20) := fun s1 m t hm => by
      obtain ⟨w, s2, e1, w1, t2⟩ := lsize_ok t (by omega)
      obtain ⟨k, s3, e2, k1, t3⟩ := lsize_ok t2 (by omega)
      exact ⟨w, k, s3, by simp [e1, e2, tup_p], w1, k1, t3.le (by omega)⟩
    unfold m__law_beside
    by_cases c0 : cs = []
    · obtain ⟨w, k, s', e1, w1, k1, t1⟩ := two s n h (by omega)
      refine seq_rt (ρ' := [some (.dr s'), some (.d (.lst (cs.map cD))), none, none]) (s := .d (pD w k)) ?_ ?_
      · simp only [c0, decide_true, Bool.false_xor] at q
        generalize hL : D.lst (cs.map cD) = L at *
        simp [c0] at hL
        simp [c0, q, hL] at *
        simp [q]
        exact e1
      · exact ⟨w, k, s', rfl, rfl, w1, k1, t1⟩
    · simp only [c0, decide_false, Bool.false_xor] at q
      obtain ⟨u, s1, e1, u0, u1, t1⟩ := take_ok (m := 4) h (by omega) (by decide) (by decide)
      by_cases g : u = 0
      · subst g
        obtain ⟨w, k, s', e2, w1, k1, t2⟩ := two s1 _ t1 (by omega)
        refine seq_rt (ρ' := [some (.dr s'), some (.d (.lst (cs.map cD))), none, none]) (s := .d (pD w k)) ?_ ⟨w, k, s', rfl, rfl, w1, k1, t2⟩
        simp [q, e1]
        simpa using e2
      · have ne : cs.map cD ≠ [] := by simpa using c0
        have ln : (cs.map cD).length < 2 ^ 30 := by rw [List.length_map]; omega
        refine seq_wp (ρ' := [some (.dr s1), some (.d (.lst (cs.map cD))), none, none]) (by simp [q, e1, g]) ?_
        obtain ⟨y1, s2, m1, e2, t2⟩ := pick_ok t1 (by omega) ne ln
        obtain ⟨a, ha, rfl⟩ := List.mem_map.mp m1
        obtain ⟨y2, s3, m2, e3, t3⟩ := pick_ok t2 (by omega) ne ln
        obtain ⟨b, hb, rfl⟩ := List.mem_map.mp m2
        refine seq_wp (ρ' := [some (.dr s3), some (.d (.lst (cs.map cD))), some (.d (oD a.1)), some (.d (oD b.2))]) (by simp [e2, e3, ix_c]) ?_
        obtain ⟨v, s4, e4, v0, v1, t4⟩ := take_ok (m := 2) t3 (by omega) (by decide) (by decide)
        have fin : ∀ (x y : It) (s5 : Draw) (m : Int), Tn s5 m → m ≤ n + 8 → (besT [some (.dr s5), some (.d (.lst (cs.map cD))), some (.d (oD x)), some (.d (oD y))]).Wp (finQ 2 [0, 1] fun r o => ∃ w k s', r = .d (pD w k) ∧ o = [some (.dr s'), some (.d (.lst (cs.map cD)))] ∧ 1 ≤ w ∧ 1 ≤ k ∧ Tn s' (n + 20)) := fun x y s5 m t hm => by
          obtain ⟨w, k, s', z2, z3, e, t'⟩ := bes_tail (cs := cs) x y t (by omega)
          exact wp_eq e ⟨_, _, s', rfl, rfl, by omega, by omega, t'.le (by omega)⟩
        by_cases g2 : v = 0
        · subst g2
          obtain ⟨y3, s5, m3, e5, t5⟩ := pick_ok t4 (by omega) ne ln
          obtain ⟨c, hc3, rfl⟩ := List.mem_map.mp m3
          refine seq_wp (ρ' := [some (.dr s5), some (.d (.lst (cs.map cD))), some (.d (oD c.1)), some (.d (oD c.2))]) ?_ (fin _ _ _ _ t5 (by omega))
          have tg : ∀ ρ : En, tgTup [2, 3] (cD c) ρ = some ((ρ.set 2 (some (.d (oD c.1)))).set 3 (some (.d (oD c.2)))) := fun ρ => rfl
          simp [e4, e5, tg]
        · exact seq_wp (ρ' := [some (.dr s4), some (.d (.lst (cs.map cD))), some (.d (oD a.1)), some (.d (oD b.2))]) (by simp [e4, g2]) (fin _ _ _ _ t4 (by omega)))
  exact ⟨w, k, s', e.trans (by rw [h1, h2]), h3, h4, h5⟩
end HD

/-! W15: what forms are made of. -/
namespace HD
open PySem PySem.Spec PyProof.Rows L2 VS PySem.W
def FwI (n : Int) (i : Nat) (ρ : En) : Prop := ∃ (s : Draw) (cs : List Co) (x y z : Option SV), ρ = [some (.dr s), some (.d (.int 3)), some (.ol (cs.map cD)), x, y, z] ∧ cs.length = i ∧ (∀ c ∈ cs, okC c) ∧ Tn s (n + 1 + 4 * i)
theorem few_ok {s : Draw} {n : Int} (h : Tn s n) (hn : n ≤ 2 ^ 37) : ∃ st s', den__law_few [.dr s, .d (.int 3)] = .ok (.d (sD st)) [some (.dr s'), some (.d (.int 3))] ∧ Sta st ∧ st.length ≤ 3 ∧ Tn s' (n + 30) := by
  obtain ⟨r, o, e, st, s', h1, h2, h3, h4, h5⟩ := den_wp (n := 2) (l := 4) (pin := [0, 1]) (m := m__law_few) (args := [.dr s, .d (.int 3)]) (Q := fun r o => ∃ st s', r = .d (sD st) ∧ o = [some (.dr s'), some (.d (.int 3))] ∧ Sta st ∧ st.length ≤ 3 ∧ Tn s' (n + 30)) (by
    obtain ⟨u, s1, e1, u0, u1, t1⟩ := take_ok (m := 4) h (by omega) (by decide) (by decide)
    have hu : u.toNat ≤ 3 := by omega
    have hb : -4611686018427387904 ≤ u ∧ u < 4611686018427387904 := by omega
    unfold m__law_few
    refine seq_wp (ρ' := [some (.dr s), some (.d (.int 3)), some (.ol []), none, none, none]) (by simp) ?_
    rw [e_seq]
    refine Rs.Wp.bind ?_
    simp [e1, hb]
    refine wp_forI (FwI n) ⟨s1, [], none, none, none, rfl, rfl, by simp, t1.le (by omega)⟩ (fun i hi ρ h0 => ?_) (fun ρ h0 => ?_)
    · obtain ⟨s2, cs, x, y, z, rfl, hl, ok, t2⟩ := h0
      have hi3 : (i : Int) ≤ 3 := by omega
      obtain ⟨a, s3, e3, a0, a1, t3⟩ := take_ok (m := 8) t2 (by omega) (by decide) (by decide)
      obtain ⟨b, s4, e4, b0, b1, t4⟩ := take_ok (m := 8) t3 (by omega) (by decide) (by decide)
      obtain ⟨v, s5, e5, v0, v1, t5⟩ := take_ok (m := 5) t4 (by omega) (by decide) (by decide)
      have hz : cs.length < sizeLine := e_sizeLine _ (by omega)
      have add : ∀ c : Co, okC c → ∀ x y z, FwI n (i + 1) [some (.dr s5), some (.d (.int 3)), some (.ol (cs.map cD ++ [cD c])), x, y, z] := fun c hc x y z => ⟨s5, cs ++ [c], x, y, z, by simp, by simp [hl], fun d hd => by
        rcases List.mem_append.mp hd with q | q
        · exact ok d q
        · rw [List.mem_singleton.mp q]
          exact hc, t5.le (by simp only [Int.natCast_add, Int.natCast_one]; omega)⟩
      have i0 := ix_c (some (1 + a), some (1 + b))
      unfold forS
      simp only [e_tgN]
      by_cases g : v = 0
      · subst g
        have := add (none, some (1 + b)) ⟨trivial, show 1 ≤ 1 + b by omega⟩
        simp [e3, e4, e5, tup_p, i0, gAppend, hz]
        exact this _ _ _
      · by_cases g2 : v = 1
        · subst g2
          have := add (some (1 + a), none) ⟨show 1 ≤ 1 + a by omega, trivial⟩
          simp [e3, e4, e5, tup_p, i0, gAppend, hz]
          exact this _ _ _
        · have := add (some (1 + a), some (1 + b)) ⟨show 1 ≤ 1 + a by omega, show 1 ≤ 1 + b by omega⟩
          simp [e3, e4, e5, tup_p, i0, gAppend, hz, g, g2]
          exact this _ _ _
    · obtain ⟨s2, cs, x, y, z, rfl, hl, ok, t2⟩ := h0
      obtain ⟨v, s3, e3, v0, v1, t3⟩ := take_ok (m := 8) t2 (by omega) (by decide) (by decide)
      have t3' : Tn s3 (n + 30) := t3.le (by omega)
      by_cases g : v = 0
      · subst g
        simp [e3]
        exact ⟨allS, ⟨rfl, all_sta, by simp [allS], t3'⟩⟩
      · obtain ⟨st, q1, q2, q3⟩ := lstair_ok ok (by omega)
        simp [e3, g, q3]
        exact ⟨st, rfl, q1, by omega, t3'⟩)
  exact ⟨st, s', e.trans (by rw [h1, h2]), h3, h4, h5⟩
/-- what a form is made of -/
structure Raw where
  s : List Co
  l : Int × Int
  b : Int × Int
structure OkR (r : Raw) : Prop where
  s : Sta r.s
  n : r.s.length ≤ 3
  l1 : 1 ≤ r.l.1
  l2 : 1 ≤ r.l.2
def rwD (r : Raw) : D := .tup [sD r.s, pD r.l.1 r.l.2, pD r.b.1 r.b.2]
theorem raw_ok {s : Draw} {n : Int} (h : Tn s n) (hn : n ≤ 2 ^ 36) : ∃ r s', den__law_raw [.dr s] = .ok (.d (rwD r)) [some (.dr s')] ∧ OkR r ∧ Tn s' (n + 40) := by
  obtain ⟨a, s1, e1, a0, a1, t1⟩ := take_ok (m := 6) h (by omega) (by decide) (by decide)
  obtain ⟨x, s2, m2, e2, t2⟩ := pick_ok (xs := [.int 0, .int 0, .int a]) t1 (by omega) (by simp) (by simp)
  obtain ⟨b, s3, e3, b0, b1, t3⟩ := take_ok (m := 6) t2 (by omega) (by decide) (by decide)
  obtain ⟨y, s4, m4, e4, t4⟩ := pick_ok (xs := [.int 0, .int 0, .int b]) t3 (by omega) (by simp) (by simp)
  obtain ⟨u, rfl, u0⟩ : ∃ u, x = .int u ∧ 0 ≤ u := by
    simp only [List.mem_cons, List.not_mem_nil, or_false] at m2
    rcases m2 with rfl | rfl | rfl
    · exact ⟨0, rfl, by omega⟩
    · exact ⟨0, rfl, by omega⟩
    · exact ⟨a, rfl, a0⟩
  obtain ⟨v, rfl, v0⟩ : ∃ v, y = .int v ∧ 0 ≤ v := by
    simp only [List.mem_cons, List.not_mem_nil, or_false] at m4
    rcases m4 with rfl | rfl | rfl
    · exact ⟨0, rfl, by omega⟩
    · exact ⟨0, rfl, by omega⟩
    · exact ⟨b, rfl, b0⟩
  obtain ⟨st, s5, e5, q1, q2, t5⟩ := few_ok t4 (by omega)
  obtain ⟨c, s6, e6, c0, c1, t6⟩ := take_ok (m := 7) t5 (by omega) (by decide) (by decide)
  obtain ⟨d, s7, e7, d0, d1, t7⟩ := take_ok (m := 7) t6 (by omega) (by decide) (by decide)
  refine ⟨⟨st, (1 + u, 1 + v), (c - 3, d - 3)⟩, s7, ?_, ⟨q1, q2, by simp only []; omega, by simp only []; omega⟩, t7.le (by omega)⟩
  simp [den__law_raw, denOf, m__law_raw, e1, e2, e3, e4, e5, e6, e7, tup_p, rwD]
end HD

/-! VPN: rows for simp: a list's item written. -/
namespace VS
open PySem PySem.Spec PyProof.Rows L2
section
variable {ρ : En} {i : Nat} {k v : M Ref}
@[simp] theorem e_lput : mLPut i k v ρ = (mFrz v ρ).bind fun x ρ => if (ρ.getD i none).isSome = true then M.bind (mFrz k) (fun y => lputD i y x) ρ else .stuck := (rfl)
theorem e_lputD {xs : List D} {n : Int} {j : Nat} {x : D} (h : ρ.getD i none = some (.ol xs)) (g : ixN xs.length n = some j) : lputD i (.int n) x ρ = .ok .nx (ρ.set i (some (.ol (xs.set j x)))) := by
  unfold lputD
  rw [h]
  dsimp only
  rw [g]
end
end VS

/-! Y1: what k86's forms are made of. -/
namespace HD
open PySem PySem.Spec PyProof.Rows L2 VS PySem.W
def FwJ (n : Int) (i : Nat) (ρ : En) : Prop := ∃ (s : Draw) (cs : List Co) (x y z : Option SV), ρ = [some (.dr s), some (.d (.int 2)), some (.ol (cs.map cD)), x, y, z] ∧ cs.length = i ∧ (∀ c ∈ cs, okC c) ∧ Tn s (n + 1 + 4 * i)
theorem few2_ok {s : Draw} {n : Int} (h : Tn s n) (hn : n ≤ 2 ^ 37) : ∃ st s', den__law_few [.dr s, .d (.int 2)] = .ok (.d (sD st)) [some (.dr s'), some (.d (.int 2))] ∧ Sta st ∧ st.length ≤ 3 ∧ Tn s' (n + 30) := by
  obtain ⟨r, o, e, st, s', h1, h2, h3, h4, h5⟩ := den_wp (n := 2) (l := 4) (pin := [0, 1]) (m := m__law_few) (args := [.dr s, .d (.int 2)]) (Q := fun r o => ∃ st s', r = .d (sD st) ∧ o = [some (.dr s'), some (.d (.int 2))] ∧ Sta st ∧ st.length ≤ 3 ∧ Tn s' (n + 30)) (by
    obtain ⟨u, s1, e1, u0, u1, t1⟩ := take_ok (m := 3) h (by omega) (by decide) (by decide)
    have hu : u.toNat ≤ 2 := by omega
    have hb : -4611686018427387904 ≤ u ∧ u < 4611686018427387904 := by omega
    unfold m__law_few
    refine seq_wp (ρ' := [some (.dr s), some (.d (.int 2)), some (.ol []), none, none, none]) (by simp) ?_
    rw [e_seq]
    refine Rs.Wp.bind ?_
    simp [e1, hb]
    refine wp_forI (FwJ n) ⟨s1, [], none, none, none, rfl, rfl, by simp, t1.le (by omega)⟩ (fun i hi ρ h0 => ?_) (fun ρ h0 => ?_)
    · obtain ⟨s2, cs, x, y, z, rfl, hl, ok, t2⟩ := h0
      have hi3 : (i : Int) ≤ 2 := by omega
      obtain ⟨a, s3, e3, a0, a1, t3⟩ := take_ok (m := 8) t2 (by omega) (by decide) (by decide)
      obtain ⟨b, s4, e4, b0, b1, t4⟩ := take_ok (m := 8) t3 (by omega) (by decide) (by decide)
      obtain ⟨v, s5, e5, v0, v1, t5⟩ := take_ok (m := 5) t4 (by omega) (by decide) (by decide)
      have hz : cs.length < sizeLine := e_sizeLine _ (by omega)
      have add : ∀ c : Co, okC c → ∀ x y z, FwJ n (i + 1) [some (.dr s5), some (.d (.int 2)), some (.ol (cs.map cD ++ [cD c])), x, y, z] := fun c hc x y z => ⟨s5, cs ++ [c], x, y, z, by simp, by simp [hl], fun d hd => by
        rcases List.mem_append.mp hd with q | q
        · exact ok d q
        · rw [List.mem_singleton.mp q]
          exact hc, t5.le (by simp only [Int.natCast_add, Int.natCast_one]; omega)⟩
      have i0 := ix_c (some (1 + a), some (1 + b))
      unfold forS
      simp only [e_tgN]
      by_cases g : v = 0
      · subst g
        have := add (none, some (1 + b)) ⟨trivial, show 1 ≤ 1 + b by omega⟩
        simp [e3, e4, e5, tup_p, i0, gAppend, hz]
        exact this _ _ _
      · by_cases g2 : v = 1
        · subst g2
          have := add (some (1 + a), none) ⟨show 1 ≤ 1 + a by omega, trivial⟩
          simp [e3, e4, e5, tup_p, i0, gAppend, hz]
          exact this _ _ _
        · have := add (some (1 + a), some (1 + b)) ⟨show 1 ≤ 1 + a by omega, show 1 ≤ 1 + b by omega⟩
          simp [e3, e4, e5, tup_p, i0, gAppend, hz, g, g2]
          exact this _ _ _
    · obtain ⟨s2, cs, x, y, z, rfl, hl, ok, t2⟩ := h0
      obtain ⟨v, s3, e3, v0, v1, t3⟩ := take_ok (m := 8) t2 (by omega) (by decide) (by decide)
      have t3' : Tn s3 (n + 30) := t3.le (by omega)
      by_cases g : v = 0
      · subst g
        simp [e3]
        exact ⟨allS, ⟨rfl, all_sta, by simp [allS], t3'⟩⟩
      · obtain ⟨st, q1, q2, q3⟩ := lstair_ok ok (by omega)
        simp [e3, g, q3]
        exact ⟨st, rfl, q1, by omega, t3'⟩)
  exact ⟨st, s', e.trans (by rw [h1, h2]), h3, h4, h5⟩
/-- the numbers stay small -/
def Small (k : Int) (r : Raw) : Prop := r.l.1 ≤ 7 + 4 * k ∧ r.l.2 ≤ 7 + 4 * k ∧ (-(3 + 100000 * k) ≤ r.b.1 ∧ r.b.1 ≤ 3 + 100000 * k) ∧ -(3 + 100000 * k) ≤ r.b.2 ∧ r.b.2 ≤ 3 + 100000 * k
theorem raw_okB {s : Draw} {n : Int} (h : Tn s n) (hn : n ≤ 2 ^ 36) : ∃ r s', den__law_raw [.dr s] = .ok (.d (rwD r)) [some (.dr s')] ∧ OkR r ∧ Small 0 r ∧ Tn s' (n + 40) := by
  obtain ⟨a, s1, e1, a0, a1, t1⟩ := take_ok (m := 6) h (by omega) (by decide) (by decide)
  obtain ⟨x, s2, m2, e2, t2⟩ := pick_ok (xs := [.int 0, .int 0, .int a]) t1 (by omega) (by simp) (by simp)
  obtain ⟨b, s3, e3, b0, b1, t3⟩ := take_ok (m := 6) t2 (by omega) (by decide) (by decide)
  obtain ⟨y, s4, m4, e4, t4⟩ := pick_ok (xs := [.int 0, .int 0, .int b]) t3 (by omega) (by simp) (by simp)
  obtain ⟨u, rfl, u0, u1⟩ : ∃ u, x = .int u ∧ 0 ≤ u ∧ u ≤ 5 := by
    simp only [List.mem_cons, List.not_mem_nil, or_false] at m2
    rcases m2 with rfl | rfl | rfl
    · exact ⟨0, rfl, by omega, by omega⟩
    · exact ⟨0, rfl, by omega, by omega⟩
    · exact ⟨a, rfl, a0, by omega⟩
  obtain ⟨v, rfl, v0, v1⟩ : ∃ v, y = .int v ∧ 0 ≤ v ∧ v ≤ 5 := by
    simp only [List.mem_cons, List.not_mem_nil, or_false] at m4
    rcases m4 with rfl | rfl | rfl
    · exact ⟨0, rfl, by omega, by omega⟩
    · exact ⟨0, rfl, by omega, by omega⟩
    · exact ⟨b, rfl, b0, by omega⟩
  obtain ⟨st, s5, e5, q1, q2, t5⟩ := few_ok t4 (by omega)
  obtain ⟨c, s6, e6, c0, c1, t6⟩ := take_ok (m := 7) t5 (by omega) (by decide) (by decide)
  obtain ⟨d, s7, e7, d0, d1, t7⟩ := take_ok (m := 7) t6 (by omega) (by decide) (by decide)
  refine ⟨⟨st, (1 + u, 1 + v), (c - 3, d - 3)⟩, s7, ?_, ⟨q1, q2, by simp only []; omega, by simp only []; omega⟩, ?_, t7.le (by omega)⟩
  · simp [den__law_raw, denOf, m__law_raw, e1, e2, e3, e4, e5, e6, e7, tup_p, rwD]
  · unfold Small
    simp only []
    omega
theorem rw_ix (r : Raw) : dIxX (rwD r) (.int 0) = some (.it (sD r.s)) ∧ dIxX (rwD r) (.int 1) = some (.it (pD r.l.1 r.l.2)) ∧ dIxX (rwD r) (.int 2) = some (.it (pD r.b.1 r.b.2)) := ⟨rfl, rfl, rfl⟩
theorem reach_ok {s : List Co} (ne : s ≠ []) (k : Int) : den__law_reach [.d (sD s), .d (.int k)] = .ok (.d (oD (if k = 0 then wid s else hei s))) [some (.d (sD s)), some (.d (.int k))] := by
  obtain ⟨c, t, rfl⟩ : ∃ c t, s = c :: t := by
    cases s with
    | nil => exact absurd rfl ne
    | cons c t => exact ⟨c, t, rfl⟩
  obtain ⟨l, d, ek⟩ : ∃ l d, c :: t = l ++ [d] := by
    rcases List.eq_nil_or_concat (c :: t) with q | ⟨l, d, q⟩
    · cases q
    · exact ⟨l, d, by rw [q, List.concat_eq_append]⟩
  have x1 : dIxX (sD (c :: t)) (.int (-1)) = some (.it (cD d)) := by
    unfold sD
    rw [e_ixT, ek, List.map_append, List.map_cons, List.map_nil, at_last]
    rfl
  have x0 : dIxX (sD (c :: t)) (.int 0) = some (.it (cD c)) := sD_at (s := c :: t) (i := 0) (by simp)
  have w0 : wid (c :: t) = d.1 := by
    unfold wid
    rw [ek]
    simp
  have hh : hei (c :: t) = c.2 := rfl
  rw [w0, hh]
  by_cases g : k = 0
  · subst g
    simp [den__law_reach, denOf, m__law_reach, x1, ix_c]
  · simp [den__law_reach, denOf, m__law_reach, x0, ix_c, g]
end HD

/-! Y2: changed forms. -/
namespace HD
open PySem PySem.Spec PyProof.Rows L2 VS PySem.W
theorem fl_p (a b : Int) : fList [pD a b] = some (.nl [.int a, .int b]) := rfl
theorem at2 {α : Type} (a b : α) : atI [a, b] 0 = some a ∧ atI [a, b] 1 = some b := ⟨rfl, rfl⟩
theorem ix2 : ixN 2 0 = some 0 ∧ ixN 2 1 = some 1 := ⟨rfl, rfl⟩
theorem changed_ok {s : Draw} {n k : Int} {r : Raw} (h : Tn s n) (hn : n ≤ 2 ^ 36) (o : OkR r) (sm : Small k r) (hk : 0 ≤ k) : ∃ r' s', den__law_changed [.dr s, .d (rwD r)] = .ok (.d (rwD r')) [some (.dr s'), some (.d (rwD r))] ∧ OkR r' ∧ Small (k + 1) r' ∧ Tn s' (n + 60) := by
  obtain ⟨v, s1, e1, v0, v1, t1⟩ := take_ok (m := 4) h (by omega) (by decide) (by decide)
  obtain ⟨j, s2, e2, j0, j1, t2⟩ := take_ok (m := 2) t1 (by omega) (by decide) (by decide)
  have rx := rw_ix r
  have ol1 := o.l1
  have ol2 := o.l2
  obtain ⟨m1, m2, ⟨m3, m4⟩, m5, m6⟩ := sm
  have hj : j = 0 ∨ j = 1 := by omega
  have i1 := ix_c (some r.l.1, some r.l.2)
  have i2 := ix_c (some r.b.1, some r.b.2)
  have done : ∀ (st : List Co) (l b : Int × Int), Sta st → st.length ≤ 3 → 1 ≤ l.1 → 1 ≤ l.2 → l.1 ≤ 7 + 4 * (k + 1) → l.2 ≤ 7 + 4 * (k + 1) → -(3 + 100000 * (k + 1)) ≤ b.1 → b.1 ≤ 3 + 100000 * (k + 1) → -(3 + 100000 * (k + 1)) ≤ b.2 → b.2 ≤ 3 + 100000 * (k + 1) → OkR ⟨st, l, b⟩ ∧ Small (k + 1) ⟨st, l, b⟩ := fun st l b a1 a2 a3 a4 a5 a6 a7 a8 a9 a10 => ⟨⟨a1, a2, a3, a4⟩, a5, a6, ⟨a7, a8⟩, a9, a10⟩
  by_cases c0 : v = 0
  · subst c0
    obtain ⟨y, s3, mm, e3, t3⟩ := pick_ok (xs := [.int 1, .int (-1), .int 2]) t2 (by omega) (by simp) (by simp)
    obtain ⟨u, rfl, u0, u1⟩ : ∃ u, y = .int u ∧ -1 ≤ u ∧ u ≤ 2 := by
      simp only [List.mem_cons, List.not_mem_nil, or_false] at mm
      rcases mm with rfl | rfl | rfl <;> exact ⟨_, rfl, by omega, by omega⟩
    rcases hj with rfl | rfl
    · refine ⟨⟨r.s, (max 1 (r.l.1 + u), r.l.2), r.b⟩, s3, ?_, ?_⟩
      · simp [den__law_changed, denOf, m__law_changed, e1, e2, e3, rx, fl_p, at2, max_if, lputD, ix2, tup_p]
        rfl
      · have := done r.s (max 1 (r.l.1 + u), r.l.2) r.b o.s o.n (by simp only []; omega) ol2 (by simp only []; omega) (by simp only []; omega) (by omega) (by omega) (by omega) (by omega)
        exact ⟨this.1, this.2, t3.le (by omega)⟩
    · refine ⟨⟨r.s, (r.l.1, max 1 (r.l.2 + u)), r.b⟩, s3, ?_, ?_⟩
      · simp [den__law_changed, denOf, m__law_changed, e1, e2, e3, rx, fl_p, at2, max_if, lputD, ix2, tup_p]
        rfl
      · have := done r.s (r.l.1, max 1 (r.l.2 + u)) r.b o.s o.n ol1 (by simp only []; omega) (by simp only []; omega) (by simp only []; omega) (by omega) (by omega) (by omega) (by omega)
        exact ⟨this.1, this.2, t3.le (by omega)⟩
  · by_cases c1 : v = 1
    · subst c1
      obtain ⟨y, s3, mm, e3, t3⟩ := pick_ok (xs := [.int 1, .int (-1), .int (-4), .int 99999, .int (-99999)]) t2 (by omega) (by simp) (by simp)
      obtain ⟨u, rfl, u0, u1⟩ : ∃ u, y = .int u ∧ -100000 ≤ u ∧ u ≤ 100000 := by
        simp only [List.mem_cons, List.not_mem_nil, or_false] at mm
        rcases mm with rfl | rfl | rfl | rfl | rfl <;> exact ⟨_, rfl, by omega, by omega⟩
      rcases hj with rfl | rfl
      · refine ⟨⟨r.s, r.l, (r.b.1 + u, r.b.2)⟩, s3, ?_, ?_⟩
        · simp [den__law_changed, denOf, m__law_changed, e1, e2, e3, rx, fl_p, at2, max_if, lputD, ix2, tup_p]
          rfl
        · have := done r.s r.l (r.b.1 + u, r.b.2) o.s o.n ol1 ol2 (by omega) (by omega) (by simp only []; omega) (by simp only []; omega) (by simp only []; omega) (by simp only []; omega)
          exact ⟨this.1, this.2, t3.le (by omega)⟩
      · refine ⟨⟨r.s, r.l, (r.b.1, r.b.2 + u)⟩, s3, ?_, ?_⟩
        · simp [den__law_changed, denOf, m__law_changed, e1, e2, e3, rx, fl_p, at2, max_if, lputD, ix2, tup_p]
          rfl
        · have := done r.s r.l (r.b.1, r.b.2 + u) o.s o.n ol1 ol2 (by omega) (by omega) (by simp only []; omega) (by simp only []; omega) (by simp only []; omega) (by simp only []; omega)
          exact ⟨this.1, this.2, t3.le (by omega)⟩
    · by_cases c2 : v = 2
      · subst c2
        obtain ⟨st, s3, e3, q1, q2, t3⟩ := few2_ok t2 (by omega)
        refine ⟨⟨st, r.l, r.b⟩, s3, ?_, ?_⟩
        · simp [den__law_changed, denOf, m__law_changed, e1, e2, e3, rx, fl_p, at2]
          rfl
        · have := done st r.l r.b q1 q2 ol1 ol2 (by omega) (by omega) (by omega) (by omega) (by omega) (by omega)
          exact ⟨this.1, this.2, t3.le (by omega)⟩
      · refine ⟨r, s2, ?_, o, ⟨by omega, by omega, ⟨by omega, by omega⟩, by omega, by omega⟩, t2.le (by omega)⟩
        simp [den__law_changed, denOf, m__law_changed, e1, e2, rx, fl_p, at2, c0, c1, c2, tup_p]
        rfl
end HD

/-! Y3: the sizes that are tried. -/
namespace HD
open PySem PySem.Spec PyProof.Rows L2 VS VR PySem.W
def pos1 : It → Option Int
  | some x => if 1 ≤ x then some x else none
  | none => none
def posI (its : List It) : List Int := its.filterMap pos1
theorem pos_eq : ∀ its : List It, (its.map oD).filterMap (fun x => (pos1 (unI x)).map D.int) = VS.intD (posI its)
  | [] => rfl
  | i :: its => by
    have ih := pos_eq its
    unfold posI VS.intD at *
    rw [List.map_cons, List.filterMap_cons, List.filterMap_cons, unI_o, ih]
    cases h : pos1 i <;> simp
theorem mem_pos {its : List It} {x : Int} : x ∈ posI its ↔ some x ∈ its ∧ 1 ≤ x := by
  unfold posI
  rw [List.mem_filterMap]
  constructor
  · rintro ⟨i, hi, e⟩
    cases i with
    | none => cases e
    | some y =>
      unfold pos1 at e
      simp only [] at e
      by_cases g : 1 ≤ y
      · rw [if_pos g] at e
        cases e
        exact ⟨hi, g⟩
      · rw [if_neg g] at e
        cases e
  · rintro ⟨hi, g⟩
    exact ⟨some x, hi, by unfold pos1; simp only []; rw [if_pos g]⟩
def tur (r : Raw) (k : Int) : Int := if k = 0 then r.l.1 - r.b.1 else r.l.2 - r.b.2
def rch (s : List Co) (k : Int) : It := if k = 0 then wid s else hei s
def trI (r : Raw) (k : Int) : List It := [some (tur r k - 1), some (tur r k), some (tur r k + 1), rch r.s k]
def allI (r1 r2 : Raw) (k : Int) : List It := [some 1, some 2, some 3, some 9999999] ++ trI r1 k ++ trI r2 k
def triesN (r1 r2 : Raw) (k : Int) : List Int := VR.sortI (ddup (posI (allI r1 r2 k)))
theorem mem_tries {r1 r2 : Raw} {k x : Int} : x ∈ triesN r1 r2 k ↔ some x ∈ allI r1 r2 k ∧ 1 ≤ x := by
  unfold triesN
  rw [(VR.sortI_perm _).mem_iff, mem_ddup, mem_pos]
theorem add_li (a b : List D) (h : a.length + b.length < 4096) : dAdd (.lst a) (.lst b) = some (.nl (a ++ b)) := by
  have hz := e_sizeLine _ h
  simp [dAdd]
  omega
theorem pix (a b k : Int) (hk : k = 0 ∨ k = 1) : dIxX (pD a b) (.int k) = some (.it (.int (if k = 0 then a else b))) := by
  rcases hk with rfl | rfl <;> rfl
theorem tries_ok {r1 r2 : Raw} {k : Int} (hk : k = 0 ∨ k = 1) (h1 : r1.s ≠ []) (h2 : r2.s ≠ []) : den__law_tries [.d (.lst [rwD r1, rwD r2]), .d (.int k)] = .ok (.ol (VS.intD (triesN r1 r2 k))) [some (.d (.lst [rwD r1, rwD r2])), some (.d (.int k))] := by
  have x1 := rw_ix r1
  have x2 := rw_ix r2
  have p1 := pix r1.l.1 r1.l.2 k hk
  have p2 := pix r1.b.1 r1.b.2 k hk
  have p3 := pix r2.l.1 r2.l.2 k hk
  have p4 := pix r2.b.1 r2.b.2 k hk
  have g1 := reach_ok h1 k
  have g2 := reach_ok h2 k
  have t1 : (if k = 0 then r1.l.1 else r1.l.2) - (if k = 0 then r1.b.1 else r1.b.2) = tur r1 k := by
    unfold tur
    split <;> rfl
  have t2 : (if k = 0 then r2.l.1 else r2.l.2) - (if k = 0 then r2.b.1 else r2.b.2) = tur r2 k := by
    unfold tur
    split <;> rfl
  have a1 := add_li [.int 1, .int 2, .int 3, .int 9999999] [.int (tur r1 k - 1), .int (tur r1 k), .int (tur r1 k + 1), oD (rch r1.s k)] (by simp)
  have a2 := add_li ([.int 1, .int 2, .int 3, .int 9999999] ++ [.int (tur r1 k - 1), .int (tur r1 k), .int (tur r1 k + 1), oD (rch r1.s k)]) [.int (tur r2 k - 1), .int (tur r2 k), .int (tur r2 k + 1), oD (rch r2.s k)] (by simp)
  have ea : ([.int 1, .int 2, .int 3, .int 9999999] ++ [.int (tur r1 k - 1), .int (tur r1 k), .int (tur r1 k + 1), oD (rch r1.s k)]) ++ [.int (tur r2 k - 1), .int (tur r2 k), .int (tur r2 k + 1), oD (rch r2.s k)] = (allI r1 r2 k).map oD := rfl
  rw [ea] at a2
  have lc : ∀ x3 x4 : Option SV, lcR [some (.d (.lst [rwD r1, rwD r2])), some (.d (.int k)), some (.d (.lst ((allI r1 r2 k).map oD))), x3, x4, none] [5] (tgName 5) (mAndT (mB (mBin (dIs true) (mVar 5) (M.ret (Ref.sv (SV.d D.non))))) (mB (mBin dGe (mVar 5) (M.ret (Ref.sv (SV.d (D.int 1))))))) (mVar 5) ((allI r1 r2 k).map oD) [] [some (.d (.lst [rwD r1, rwD r2])), some (.d (.int k)), some (.d (.lst ((allI r1 r2 k).map oD))), x3, x4, none] = .ok (VS.intD (posI (allI r1 r2 k))) [some (.d (.lst [rwD r1, rwD r2])), some (.d (.int k)), some (.d (.lst ((allI r1 r2 k).map oD))), x3, x4, none] := fun x3 x4 => by
    rw [lc_eq (fun x => (pos1 (unI x)).map D.int) (by simp [allI, trI]) (fun x hx => ?_), pos_eq]
    obtain ⟨i, _, rfl⟩ := List.mem_map.mp hx
    cases i with
    | none => simp [lcOne, wipeE, restE, pos1, unI]
    | some y =>
      by_cases g : 1 ≤ y
      · simp [lcOne, wipeE, restE, pos1, unI, g]
      · simp [lcOne, wipeE, restE, pos1, unI, g]
  have hl : (posI (allI r1 r2 k)).length < 64 := by
    have : (posI (allI r1 r2 k)).length ≤ (allI r1 r2 k).length := List.length_filterMap_le _ _
    have e : (allI r1 r2 k).length = 12 := rfl
    omega
  have ss : dSortSet (.lst (VS.intD (posI (allI r1 r2 k)))) = some (.nl (VS.intD (triesN r1 r2 k))) := by
    unfold dSortSet triesN
    simp [hl]
  have rr1 : oD (if k = 0 then wid r1.s else hei r1.s) = oD (rch r1.s k) := rfl
  have rr2 : oD (if k = 0 then wid r2.s else hei r2.s) = oD (rch r2.s k) := rfl
  rw [rr1] at g1
  rw [rr2] at g2
  simp only [List.cons_append, List.nil_append] at a1 a2
  generalize oD (rch r1.s k) = o1 at *
  generalize oD (rch r2.s k) = o2 at *
  generalize (allI r1 r2 k).map oD = AL at *
  simp -implicitDefEqProofs [den__law_tries, denOf, m__law_tries, e_forC, x1, x2, p1, p2, p3, p4, t1, t2, g1, g2, a1, a2, lc, ss]
end HD

/-! Y4: the tried sizes tell. -/
namespace HD
open PySem PySem.Spec PyProof.Rows L2 VS VR PySem.W
theorem axis_tells {m : It} {l b l' b' : Int} (hm : okI m) (hl : l ≤ 20) (hl' : l' ≤ 20) (hb : -300000 ≤ b) (hb' : -300000 ≤ b') (h1 : max l (1 + b) = max l' (1 + b')) (h2 : m = none → max l (9999999 + b) = max l' (9999999 + b')) (h3 : ∀ y, m = some y → max l (y + b) = max l' (y + b')) : ∀ x, 1 ≤ x → upI (some x) m = true → max l (x + b) = max l' (x + b') := by
  intro x hx hu
  cases m with
  | none =>
    have := h2 rfl
    omega
  | some y =>
    have h3 := h3 y rfl
    have hy : 1 ≤ y := hm
    have hxy : x ≤ y := by simpa [upI] using hu
    omega
end HD

/-! Y5: forms that do the same are equal. -/
namespace HD
open PySem PySem.Spec PyProof.Rows L2 VS VR PySem.W
def bd (k x : Int) : Int × Int := if k = 0 then (x, 1) else (1, x)
def gw (r : Raw) (p : Int × Int) : Int × Int := (max r.l.1 (p.1 + r.b.1), max r.l.2 (p.2 + r.b.2))
def tellB (r1 r2 : Raw) (k x : Int) : Bool := hB r1.s (bd k x).1 (bd k x).2 && !(decide (gw r1 (bd k x) = gw r2 (bd k x)))
def axB (r1 r2 : Raw) (k : Int) : Bool := (triesN r1 r2 k).all fun x => !tellB r1 r2 k x
def sameB (r1 r2 : Raw) : Bool := decide (r1.s = r2.s) && (decide (r1.s = []) || (axB r1 r2 0 && axB r1 r2 1))
theorem okW {s : List Co} (hs : Sta s) (ne : s ≠ []) : okI (wid s) := by
  rcases List.eq_nil_or_concat s with rfl | ⟨k, d, rfl⟩
  · exact absurd rfl ne
  · rw [List.concat_eq_append] at *
    have e : wid (k ++ [d]) = d.1 := by
      unfold wid
      simp
    rw [e]
    exact (hs.ok d (by simp)).1
theorem okH {s : List Co} (hs : Sta s) (ne : s ≠ []) : okI (hei s) := by
  cases s with
  | nil => exact absurd rfl ne
  | cons d s => exact (hs.ok d (by simp)).2
theorem ax_at {r1 r2 : Raw} {k : Int} (h : axB r1 r2 k = true) {x : Int} (hx : x ∈ triesN r1 r2 k) (hh : hS r1.s (bd k x).1 (bd k x).2) : gw r1 (bd k x) = gw r2 (bd k x) := by
  unfold axB at h
  have := List.all_eq_true.mp h x hx
  unfold tellB at this
  rw [hB_iff.mpr hh] at this
  simpa using this
theorem eqF_iff {f g : Fm} : eqF f g = true ↔ f = g := by
  constructor
  · intro h
    obtain ⟨a1, a2, a3, ⟨a4, a5⟩, a6, a7⟩ := f
    obtain ⟨b1, b2, b3, ⟨b4, b5⟩, b6, b7⟩ := g
    simp only [eqF, Bool.and_eq_true, decide_eq_true_eq] at h
    obtain ⟨⟨⟨⟨h1, h2⟩, h3⟩, h4, h5⟩, h6, h7⟩ := h
    subst h1 h2 h3 h4 h5 h6 h7
    rfl
  · exact eqF_same
theorem same_eq {r1 r2 : Raw} {a e : Si} (o1 : OkR r1) (o2 : OkR r2) (m1 : Small 2 r1) (m2 : Small 2 r2) : sameB r1 r2 = eqF (mkF a e r1.s r1.l r1.b) (mkF a e r2.s r2.l r2.b) := by
  rw [Bool.eq_iff_iff, eqF_iff]
  constructor
  · intro h
    unfold sameB at h
    rw [Bool.and_eq_true, decide_eq_true_eq, Bool.or_eq_true, decide_eq_true_eq, Bool.and_eq_true] at h
    obtain ⟨es, h⟩ := h
    refine mk_ext o1.s o2.s (fun w h _ _ => by rw [es]) (fun w q hw hq hh => ?_)
    obtain ⟨c, hc, z1, z2⟩ := hh
    have ne : r1.s ≠ [] := fun z => by rw [z] at hc; cases hc
    obtain ⟨x1, x2⟩ := h.resolve_left ne
    have u1 := upI_trans z1 (wid_up o1.s.up c hc)
    have u2 := upI_trans z2 (hei_up o1.s.up c hc)
    obtain ⟨p1, p2, ⟨p3, p4⟩, p5, p6⟩ := m1
    obtain ⟨q1, q2, ⟨q3, q4⟩, q5, q6⟩ := m2
    have ow := okW o1.s ne
    have oh := okH o1.s ne
    have tw : ∀ x, some x ∈ allI r1 r2 0 → 1 ≤ x → upI (some x) (wid r1.s) = true → max r1.l.1 (x + r1.b.1) = max r2.l.1 (x + r2.b.1) := fun x hx h1 hu => congrArg Prod.fst (ax_at x1 (mem_tries.mpr ⟨hx, h1⟩) (hold_w o1.s h1 hu ne))
    have th : ∀ x, some x ∈ allI r1 r2 1 → 1 ≤ x → upI (some x) (hei r1.s) = true → max r1.l.2 (x + r1.b.2) = max r2.l.2 (x + r2.b.2) := fun x hx h1 hu => congrArg Prod.snd (ax_at x2 (mem_tries.mpr ⟨hx, h1⟩) (hold_h o1.s h1 hu ne))
    have up1 : ∀ m : It, okI m → upI (some 1) m = true := fun m hm => by
      cases m with
      | none => rfl
      | some y => exact decide_eq_true hm
    constructor
    · refine axis_tells ow (by omega) (by omega) (by omega) (by omega) (tw 1 (by simp [allI]) (by omega) (up1 _ ow)) (fun z => tw 9999999 (by simp [allI]) (by omega) (by rw [z]; rfl)) (fun y z => ?_) w hw u1
      have h1 : 1 ≤ y := by
        have := ow
        rw [z] at this
        exact this
      exact tw y (by simp [allI, trI, rch, z]) h1 (by rw [z]; exact upI_refl _)
    · refine axis_tells oh (by omega) (by omega) (by omega) (by omega) (th 1 (by simp [allI]) (by omega) (up1 _ oh)) (fun z => th 9999999 (by simp [allI]) (by omega) (by rw [z]; rfl)) (fun y z => ?_) q hq u2
      have h1 : 1 ≤ y := by
        have := oh
        rw [z] at this
        exact this
      exact th y (by simp [allI, trI, rch, z]) h1 (by rw [z]; exact upI_refl _)
  · intro h
    have es : r1.s = r2.s := congrArg Fm.sa h
    unfold sameB
    rw [Bool.and_eq_true, decide_eq_true_eq, Bool.or_eq_true, decide_eq_true_eq, Bool.and_eq_true]
    refine ⟨es, ?_⟩
    by_cases ne : r1.s = []
    · exact .inl ne
    · have ax : ∀ k, axB r1 r2 k = true := fun k => by
        unfold axB
        refine List.all_eq_true.mpr fun x hx => ?_
        obtain ⟨_, h1⟩ := mem_tries.mp hx
        unfold tellB
        by_cases hh : hB r1.s (bd k x).1 (bd k x).2 = true
        · have b1 : 1 ≤ (bd k x).1 := by
            unfold bd
            split <;> simp only [] <;> omega
          have b2 : 1 ≤ (bd k x).2 := by
            unfold bd
            split <;> simp only [] <;> omega
          have hs := hB_iff.mp hh
          have g1 := gr_same (a := a) (e := e) (l := r1.l) (b := r1.b) o1.s b1 b2 hs
          rw [es] at hs
          have g2 := gr_same (a := a) (e := e) (l := r2.l) (b := r2.b) o2.s b1 b2 hs
          rw [h, g2] at g1
          have : gw r1 (bd k x) = gw r2 (bd k x) := g1.symm
          simp [this]
        · simp [hh]
      exact .inr ⟨ax 0, ax 1⟩
end HD

/-! Y6: the walk of same_doing. -/
namespace HD
open PySem PySem.Spec PyProof.Rows L2 VS VR PySem.W
noncomputable abbrev sdB : M Fl := mSeq (mSet 4 (mIfE (mB (mBin (dEq false) (mVar 2) (M.ret (rSc (.int 0))))) (mTup (mCons (mVar 3) (mCons (M.ret (rSc (.int 1))) (M.ret [])))) (mTup (mCons (M.ret (rSc (.int 1))) (mCons (mVar 3) (M.ret [])))))) (mSeq (mPar 5 6 (mCall den__law_grow (mCons (mBin dIxX (mVar 0) (M.ret (rSc (.int 1)))) (mCons (mBin dIxX (mVar 0) (M.ret (rSc (.int 2)))) (mCons (mVar 4) (M.ret []))))) (mCall den__law_grow (mCons (mBin dIxX (mVar 1) (M.ret (rSc (.int 1)))) (mCons (mBin dIxX (mVar 1) (M.ret (rSc (.int 2)))) (mCons (mVar 4) (M.ret [])))))) (mIf (mAndT (mB (mCall den__law_held (mCons (mBin dIxX (mVar 0) (M.ret (rSc (.int 0)))) (mCons (mVar 4) (M.ret []))))) (mB (mBin (dEq true) (mVar 5) (mVar 6)))) (mRet [0, 1] (M.ret (rSc (.bl false)))) (M.ret .nx)))
theorem cD_p (a b : Int) : cD (some a, some b) = pD a b := rfl
theorem sd_loop {r1 r2 : Raw} {k : Int} (hk : k = 0 ∨ k = 1) (hn : r1.s.length < 4096) : ∀ (xs : List Int) (x y z w : Option SV), ∃ x' y' z' w', forR (tgName 3) sdB (VS.intD xs) [some (.d (rwD r1)), some (.d (rwD r2)), some (.d (.int k)), x, y, z, w] = .ok (if (xs.all fun x => !tellB r1 r2 k x) = true then .nx else .rt (.d (.bl false))) [some (.d (rwD r1)), some (.d (rwD r2)), some (.d (.int k)), x', y', z', w']
  | [], x, y, z, w => ⟨x, y, z, w, rfl⟩
  | t :: xs, x, y, z, w => by
    have x1 := rw_ix r1
    have x2 := rw_ix r2
    have hh := lheld_ok (s := r1.s) (some (bd k t).1, some (bd k t).2) hn
    rw [cD_p] at hh
    have hB' : (r1.s.any fun d => upI (some (bd k t).1) d.1 && upI (some (bd k t).2) d.2) = hB r1.s (bd k t).1 (bd k t).2 := rfl
    simp only [] at hh
    rw [hB'] at hh
    have g1 := grow_ok r1.l.1 r1.l.2 r1.b.1 r1.b.2 (bd k t).1 (bd k t).2
    have g2 := grow_ok r2.l.1 r2.l.2 r2.b.1 r2.b.2 (bd k t).1 (bd k t).2
    have en : dEq true (pD (max r1.l.1 ((bd k t).1 + r1.b.1)) (max r1.l.2 ((bd k t).2 + r1.b.2))) (pD (max r2.l.1 ((bd k t).1 + r2.b.1)) (max r2.l.2 ((bd k t).2 + r2.b.2))) = some (.sc (.bl (!decide (gw r1 (bd k t) = gw r2 (bd k t))))) := by
      rw [← cD_p, ← cD_p, eq_c]
      by_cases h : gw r1 (bd k t) = gw r2 (bd k t)
      · have := h
        unfold gw at this
        simp only [Prod.mk.injEq] at this
        simp [h, this.1, this.2]
      · have : ¬ ((max r1.l.1 ((bd k t).1 + r1.b.1)) = (max r2.l.1 ((bd k t).1 + r2.b.1)) ∧ (max r1.l.2 ((bd k t).2 + r1.b.2)) = (max r2.l.2 ((bd k t).2 + r2.b.2))) := fun q => h (by unfold gw; rw [q.1, q.2])
        simp [h]
        exact Decidable.not_and_iff_or_not.mp this
    have eb : (if k = 0 then pD t 1 else pD 1 t) = pD (bd k t).1 (bd k t).2 := by
      unfold bd
      split <;> rfl
    have tl : tellB r1 r2 k t = (hB r1.s (bd k t).1 (bd k t).2 && !(decide (gw r1 (bd k t) = gw r2 (bd k t)))) := rfl
    rw [show VS.intD (t :: xs) = .int t :: VS.intD xs from rfl, List.all_cons, tl]
    generalize hq : hB r1.s (bd k t).1 (bd k t).2 = q at *
    generalize hv : decide (gw r1 (bd k t) = gw r2 (bd k t)) = v at *
    have key : ∀ f : Fl, ∀ c, sdB [some (.d (rwD r1)), some (.d (rwD r2)), some (.d (.int k)), some (.d (.int t)), y, z, w] = .ok (if (q && !v) = true then .rt (.d (.bl false)) else .nx) [some (.d (rwD r1)), some (.d (rwD r2)), some (.d (.int k)), some (.d (.int t)), some (.d (pD (bd k t).1 (bd k t).2)), some (.d (pD (max r1.l.1 ((bd k t).1 + r1.b.1)) (max r1.l.2 ((bd k t).2 + r1.b.2)))), some (.d (pD (max r2.l.1 ((bd k t).1 + r2.b.1)) (max r2.l.2 ((bd k t).2 + r2.b.2))))] := fun _ (c : Unit) => by
      generalize max r1.l.1 ((bd k t).1 + r1.b.1) = a1 at *
      generalize max r1.l.2 ((bd k t).2 + r1.b.2) = a2 at *
      generalize max r2.l.1 ((bd k t).1 + r2.b.1) = a3 at *
      generalize max r2.l.2 ((bd k t).2 + r2.b.2) = a4 at *
      rcases hk with rfl | rfl
      · simp only [if_pos] at eb
        have tp := tup_p t 1
        cases q <;> cases v <;> simp -implicitDefEqProofs [sdB, x1, x2, tup_p, eb, g1, g2, hh, en]
      · have tp := tup_p 1 t
        rw [if_neg (by decide)] at eb
        cases q <;> cases v <;> simp -implicitDefEqProofs [sdB, x1, x2, tup_p, eb, g1, g2, hh, en]
    have key := key .nx ()
    obtain ⟨x', y', z', w', ih⟩ := sd_loop (k := k) (r1 := r1) (r2 := r2) hk hn xs (some (.d (.int t))) (some (.d (pD (bd k t).1 (bd k t).2))) (some (.d (pD (max r1.l.1 ((bd k t).1 + r1.b.1)) (max r1.l.2 ((bd k t).2 + r1.b.2))))) (some (.d (pD (max r2.l.1 ((bd k t).1 + r2.b.1)) (max r2.l.2 ((bd k t).2 + r2.b.2)))))
    rw [e_forC]
    show ∃ x' y' z' w', ((sdB _).bind _) = _
    by_cases g : (q && !v) = true
    · rw [if_pos g] at key
      refine ⟨some (.d (.int t)), some (.d (pD (bd k t).1 (bd k t).2)), some (.d (pD (max r1.l.1 ((bd k t).1 + r1.b.1)) (max r1.l.2 ((bd k t).2 + r1.b.2)))), some (.d (pD (max r2.l.1 ((bd k t).1 + r2.b.1)) (max r2.l.2 ((bd k t).2 + r2.b.2)))), ?_⟩
      · rw [show List.set _ _ _ = [some (.d (rwD r1)), some (.d (rwD r2)), some (.d (.int k)), some (.d (.int t)), y, z, w] from rfl, key, g]
        rfl
    · rw [if_neg g] at key
      refine ⟨x', y', z', w', ?_⟩
      rw [show List.set _ _ _ = [some (.d (rwD r1)), some (.d (rwD r2)), some (.d (.int k)), some (.d (.int t)), y, z, w] from rfl, key]
      have g' : (q && !v) = false := by simpa using g
      rw [g']
      exact ih
@[irreducible] noncomputable def sdO : M Fl := sdB
theorem sdO_eq : sdO = sdB := by unfold sdO; rfl
theorem m_sd : m__law_same_doing = mSeq (mIf (mB (mBin (dEq true) (mBin dIxX (mVar 0) (M.ret (rSc (.int 0)))) (mBin dIxX (mVar 1) (M.ret (rSc (.int 0)))))) (mRet [0, 1] (M.ret (rSc (.bl false)))) (M.ret .nx)) (mSeq (mIf (mB (mBin (dEq false) (mBin dIxX (mVar 0) (M.ret (rSc (.int 0)))) (mTup (M.ret [])))) (mRet [0, 1] (M.ret (rSc (.bl true)))) (M.ret .nx)) (mSeq (mFor (mRng rng1 (mCons (M.ret (rSc (.int 2))) (M.ret []))) (tgName 2) (mFor (mSeqI (mCall den__law_tries (mCons (mLst (mCons (mVar 0) (mCons (mVar 1) (M.ret [])))) (mCons (mVar 2) (M.ret []))))) (tgName 3) (sdO))) (mRet [0, 1] (M.ret (rSc (.bl true)))))) := by rw [sdO_eq]; rfl
theorem sameD_ok {r1 r2 : Raw} (o1 : OkR r1) (o2 : OkR r2) : den__law_same_doing [.d (rwD r1), .d (rwD r2)] = .ok (.d (.bl (sameB r1 r2))) [some (.d (rwD r1)), some (.d (rwD r2))] := by
  have x1 := rw_ix r1
  have x2 := rw_ix r2
  have n1 := o1.n
  have es := eq_s true r1.s r2.s
  have e0 := eq_s0 false r1.s
  unfold sameB
  by_cases h1 : r1.s = r2.s
  · by_cases h2 : r1.s = []
    · rw [decide_eq_true h1, decide_eq_true h2]
      rw [decide_eq_true h1] at es
      rw [decide_eq_true h2] at e0
      simp -implicitDefEqProofs [den__law_same_doing, denOf, m__law_same_doing, x1, x2, es, e0]
    · have t0 := tries_ok (r1 := r1) (r2 := r2) (k := 0) (.inl rfl) h2 (by rw [← h1]; exact h2)
      have t1 := tries_ok (r1 := r1) (r2 := r2) (k := 1) (.inr rfl) h2 (by rw [← h1]; exact h2)
      obtain ⟨a1, a2, a3, a4, l0⟩ := sd_loop (r1 := r1) (r2 := r2) (k := 0) (.inl rfl) (by omega) (triesN r1 r2 0) none none none none
      obtain ⟨b1, b2, b3, b4, l1⟩ := sd_loop (r1 := r1) (r2 := r2) (k := 1) (.inr rfl) (by omega) (triesN r1 r2 1) a1 a2 a3 a4
      rw [show ((triesN r1 r2 0).all fun x => !tellB r1 r2 0 x) = axB r1 r2 0 from rfl] at l0
      rw [show ((triesN r1 r2 1).all fun x => !tellB r1 r2 1 x) = axB r1 r2 1 from rfl] at l1
      rw [decide_eq_true h1, decide_eq_false h2]
      rw [decide_eq_true h1] at es
      rw [decide_eq_false h2] at e0
      generalize axB r1 r2 0 = v0 at *
      generalize axB r1 r2 1 = v1 at *
      generalize triesN r1 r2 0 = u0 at *
      generalize triesN r1 r2 1 = u1 at *
      rw [← sdO_eq] at l0 l1
      cases v0 <;> cases v1 <;> simp -implicitDefEqProofs [den__law_same_doing, denOf, m_sd, x1, x2, es, e0, intsD_succ, intsD_zero, e_forC, t0, t1, l0, l1]
  · simp -implicitDefEqProofs [den__law_same_doing, denOf, m__law_same_doing, x1, x2, es, h1]
end HD

/-! Y7: the form of a load; a form is no tuple. -/
namespace HD
open PySem PySem.Spec PyProof.Rows L2 VS VR PySem.W
theorem eqm_no (f : Fm) (r : Raw) : den_Form___eq__ [.d (fmD f), .d (rwD r)] = .ok (.d (.bl false)) [some (.d (fmD f)), some (.d (rwD r))] := by
  have i1 : dIsi ocs oes anc (.own "Form") (rwD r) = some (.sc (.bl false)) := rfl
  generalize rwD r = R at *
  generalize fmD f = F at *
  simp -implicitDefEqProofs [den_Form___eq__, denOf, m_Form___eq__, i1]
def ldS (s : List Co) (b : Int × Int) : List Co := cmn s (mvS s 1 1 b.1 b.2)
def ldF (p : Si) (s : List Co) (b : Int × Int) : Fm := mkF p p (ldS s b) (1, 1) b
theorem ld_len {s : List Co} {b : Int × Int} (hn : s.length ≤ 3) : (ldS s b).length < 60 := by
  have l1 := cmn_len s (mvS s 1 1 b.1 b.2)
  have l2 := mv_len s 1 1 b.1 b.2
  have : s.length * (mvS s 1 1 b.1 b.2).length ≤ 3 * 3 := Nat.mul_le_mul hn (by omega)
  unfold ldS
  omega
theorem ld_sta {s : List Co} {b : Int × Int} (hs : Sta s) : Sta (ldS s b) := (cmn_spec hs.ok (mv_spec (l1 := 1) (l2 := 1) (a := b.1) (b := b.2) hs).1.ok).1
theorem ld_hold {s : List Co} {b : Int × Int} (hs : Sta s) {w q : Int} (h1 : 1 ≤ w) (h2 : 1 ≤ q) : hS (ldS s b) w q ↔ hS s w q ∧ hS s (max 1 (w + b.1)) (max 1 (q + b.2)) := by
  have m := mv_spec (l1 := 1) (l2 := 1) (a := b.1) (b := b.2) hs
  rw [← m.2 w q h1 h2]
  exact (cmn_spec hs.ok m.1.ok).2 w q
theorem load_ok {p : Si} {s : List Co} {b : Int × Int} (hp : okSi p) (hs : Sta s) (hn : s.length ≤ 3) : den_load_form [.d (siD p), .d (sD s), .d (pD b.1 b.2)] = .ok (.d (fmD (ldF p s b))) [some (.d (siD p)), some (.d (sD s)), some (.d (pD b.1 b.2))] := by
  have s1 := site_ok hp
  have s2 := stairs_ok hs (by omega)
  have ns : den_need_stay [.d (siD p), .d (sD s)] = .ok (.d .non) [some (.d (siD p)), some (.d (sD s))] := by
    simp -implicitDefEqProofs [den_need_stay, denOf, m_need_stay, s1, s2]
  have mv := moved_ok (l1 := 1) (l2 := 1) (a := b.1) (b := b.2) hs (by omega) (Int.le_refl _) (Int.le_refl _)
  have ml := mv_len s 1 1 b.1 b.2
  have l3 : s.length * (mvS s 1 1 b.1 b.2).length ≤ 3 * 3 := Nat.mul_le_mul hn (by omega)
  have cm := common_ok (s := s) (t := mvS s 1 1 b.1 b.2) (by omega)
  have pr := pair_ok b.1 b.2
  have i := init_ok (l := (1, 1)) (b := b) hp hp (ld_sta (b := b) hs) (ld_len (b := b) hn) (Int.le_refl _) (Int.le_refl _)
  unfold ldF
  unfold ldS at i ⊢
  simp -implicitDefEqProofs [den_load_form, denOf, m_load_form, ns, pr, mv, cm, tup_p, i, fm_fold]
end HD

/-! Y8: loads. -/
namespace HD
open PySem PySem.Spec PyProof.Rows L2 VS VR PySem.W
theorem fl_s (s : List Co) : fList [sD s] = some (.nl (s.map cD)) := rfl
theorem eq_nn : dEq true .non .non = some (.sc (.bl false)) := rfl
theorem eq_self (a b : Int) : dEq true (pD a b) (pD a b) = some (.sc (.bl false)) := by
  rw [eq_p]
  simp
theorem ld_es {p : Si} {s : List Co} {b : Int × Int} (hs : Sta s) {w q : Int} (h1 : 1 ≤ w) (h2 : 1 ≤ q) : esF (ldF p s b) w q = if (hB s w q && hB s (max 1 (w + b.1)) (max 1 (q + b.2))) = true then pD (max 1 (w + b.1)) (max 1 (q + b.2)) else .non := by
  have e : hB (ldF p s b).sa w q = (hB s w q && hB s (max 1 (w + b.1)) (max 1 (q + b.2))) := by
    rw [Bool.eq_iff_iff, Bool.and_eq_true, hB_iff, hB_iff, hB_iff]
    exact ld_hold hs h1 h2
  unfold esF
  rw [e]
  by_cases g : (hB s w q && hB s (max 1 (w + b.1)) (max 1 (q + b.2))) = true
  · rw [if_pos g, if_pos g]
    have hh : hS (ldS s b) w q := by
      have : hB (ldF p s b).sa w q = true := e.trans g
      exact hB_iff.mp this
    have := gr_same (a := p) (e := p) (l := (1, 1)) (b := b) (ld_sta (b := b) hs) h1 h2 hh
    unfold ldF
    rw [this]
  · rw [if_neg g, if_neg g]
theorem st_es {p : Si} {s : List Co} (hs : Sta s) {w q : Int} (h1 : 1 ≤ w) (h2 : 1 ≤ q) : esF (mkF p p s (1, 1) (0, 0)) w q = if hB s w q = true then pD w q else .non := by
  unfold esF
  by_cases g : hB s w q = true
  · rw [if_pos g, if_pos (show hB (mkF p p s (1, 1) (0, 0)).sa w q = true from g)]
    have := gr_same (a := p) (e := p) (l := (1, 1)) (b := (0, 0)) hs h1 h2 (hB_iff.mp g)
    rw [this]
    simp only []
    rw [show max 1 (w + 0) = w by omega, show max 1 (q + 0) = q by omega]
  · rw [if_neg g, if_neg (show ¬ hB (mkF p p s (1, 1) (0, 0)).sa w q = true from g)]
theorem lheld_p {s : List Co} (hn : s.length < 4096) (w q : Int) : den__law_held [.d (sD s), .d (pD w q)] = .ok (.d (.bl (hB s w q))) [some (.d (sD s)), some (.d (pD w q))] := lheld_ok (some w, some q) hn
end HD

/-! Y9: the walk of loads_ok. -/
namespace HD
open PySem PySem.Spec PyProof.Rows L2 VS VR PySem.W
def LoJ (n : Int) (p r c l : SV) (i : Nat) (ρ : En) : Prop := ∃ (s : Draw) (x y z w : Option SV), ρ = [some (.dr s), some p, some r, some c, some l, x, y, z, w] ∧ Tn s (n + 20 * i)
theorem loads_ok {s : Draw} {n : Int} {p : Si} {r : Raw} (h : Tn s n) (hn : n ≤ 2 ^ 36) (hp : okSi p) (o : OkR r) : ∃ s', den__law_loads_ok [.dr s, .d (siD p), .d (rwD r)] = .ok (.d (.bl true)) [some (.dr s'), some (.d (siD p)), some (.d (rwD r))] ∧ Tn s' (n + 120) := by
  have on := o.n
  obtain ⟨x0, x1, x2⟩ := rw_ix r
  have st := still_ok hp o.s (show r.s.length < 60 by omega)
  have lo := load_ok (b := r.b) hp o.s on
  have mk := init_ok (l := (1, 1)) (b := (0, 0)) hp hp o.s (show r.s.length < 60 by omega) (by decide) (by decide)
  have eqm := eqm_ok (mkF p p r.s (1, 1) (0, 0)) (mkF p p r.s (1, 1) (0, 0))
  rw [eqF_same rfl] at eqm
  obtain ⟨f1, f2, _⟩ := fld_ok (ldF p r.s r.b)
  have q1 : (ldF p r.s r.b).st = p := rfl
  have q2 : (ldF p r.s r.b).en = p := rfl
  rw [q1] at f1
  rw [q2] at f2
  have es := eq_si true p p
  rw [decide_eq_true rfl] at es
  have E1 : ∀ w q : Int, 1 ≤ w → 1 ≤ q → _ := fun w q h1 h2 => ends_ok (ldF p r.s r.b) (w := w) (h := q) h1 h2
  have E2 : ∀ w q : Int, 1 ≤ w → 1 ≤ q → _ := fun w q h1 h2 => ends_ok (mkF p p r.s (1, 1) (0, 0)) (w := w) (h := q) h1 h2
  have L1 : ∀ w q : Int, 1 ≤ w → 1 ≤ q → _ := fun w q h1 h2 => ld_es (p := p) (b := r.b) o.s (w := w) (q := q) h1 h2
  have L2 : ∀ w q : Int, 1 ≤ w → 1 ≤ q → _ := fun w q h1 h2 => st_es (p := p) o.s (w := w) (q := q) h1 h2
  have okl : okL "Form" (fmD (mkF p p r.s (1, 1) (0, 0))) = true := rfl
  have okr : okR "Form" (fmD (mkF p p r.s (1, 1) (0, 0))) = true := rfl
  have fl := fl_s r.s
  have LH := lheld_p (s := r.s) (by omega)
  have gr := grow_ok 1 1 r.b.1 r.b.2
  obtain ⟨rr, oo, e, s', g1, g2, g3⟩ := den_wp (n := 3) (l := 6) (pin := [0, 1, 2]) (m := m__law_loads_ok) (args := [.dr s, .d (siD p), .d (rwD r)]) (Q := fun a b => ∃ s', a = .d (.bl true) ∧ b = [some (.dr s'), some (.d (siD p)), some (.d (rwD r))] ∧ Tn s' (n + 120)) (by
    unfold m__law_loads_ok
    generalize rwD r = R at *
    generalize hF1 : fmD (ldF p r.s r.b) = F1 at *
    generalize hF2 : fmD (mkF p p r.s (1, 1) (0, 0)) = F2 at *
    refine seq_wp (ρ' := [some (.dr s), some (.d (siD p)), some (.d R), some (.d F2), some (.d F1), none, none, none, none]) (by simp -implicitDefEqProofs [x0, x1, x2, st, lo]) ?_
    refine seq_wp (ρ' := [some (.dr s), some (.d (siD p)), some (.d R), some (.d F2), some (.d F1), none, none, none, none]) (by simp -implicitDefEqProofs [x0, x1, x2, mk, fm_fold, hF2, okl, okr, eqm, f1, f2, es, tup_p]) ?_
    rw [e_seq]
    refine Rs.Wp.bind ?_
    simp -implicitDefEqProofs only [e_for, e_rng]
    simp
    refine wp_forI (LoJ n (.d (siD p)) (.d R) (.d F2) (.d F1)) ⟨s, none, none, none, none, rfl, h.le (by omega)⟩ (fun i hi ρ h0 => ?_) (fun ρ h0 => ?_)
    · obtain ⟨s2, x, y, z, w, rfl, t2⟩ := h0
      obtain ⟨a, b, s3, e3, a1, b1, t3⟩ := beside_ok (cs := r.s) t2 (by omega) (by omega)
      have c1 := E1 a b a1 b1
      have c2 := E2 a b a1 b1
      rw [L1 a b a1 b1] at c1
      rw [L2 a b a1 b1] at c2
      have h1 := LH a b
      have h2 := LH (max 1 (a + r.b.1)) (max 1 (b + r.b.2))
      have gg := gr a b
      generalize max 1 (a + r.b.1) = m1 at *
      generalize max 1 (b + r.b.2) = m2 at *
      generalize hB r.s a b = v1 at *
      generalize hB r.s m1 m2 = v2 at *
      have fin : ∀ x y z w, LoJ n (.d (siD p)) (.d R) (.d F2) (.d F1) (i + 1) [some (.dr s3), some (.d (siD p)), some (.d R), some (.d F2), some (.d F1), x, y, z, w] := fun x y z w => ⟨s3, x, y, z, w, rfl, t3.le (by simp only [Int.natCast_add, Int.natCast_one]; omega)⟩
      unfold forS
      simp only [e_tgN]
      cases v1 <;> cases v2 <;> simp -implicitDefEqProofs [x0, x2, fl, e3, tup_p, gg, h1, h2, c1, c2, eq_nn, eq_self] at c1 c2 ⊢ <;> (try simp -implicitDefEqProofs [c1, c2, eq_nn, eq_self]) <;> exact fin _ _ _ _
    · obtain ⟨s2, x, y, z, w, rfl, t2⟩ := h0
      simp
      exact t2.le (by omega))
  exact ⟨s', e.trans (by rw [g1, g2]), g3⟩
end HD

/-! Y10: what is no site, no staircase, no body, no pair. -/
namespace HD
open PySem PySem.Spec PyProof.Rows L2 VS VR PySem.W
def badL : List D := [.non, .int 4, .tup [.int 1], .tup [.int 1, .tup [.int 2]], .tup [.bl true, .tup [.int 1, .int 1]], .tup [.int (-1), .tup [.int 0, .int 0]], .lst [.int 0, .tup [.int 1, .int 1]], .tup [.int 0, .tup [.int 1, .bl true]], .tup [.int 0, .tup [.int 0, .int 0], .int 1]]
def worL : List D := [.non, .tup [.int 0, .int 1], .tup [.int 2, .bl true], .lst [.int 2, .int 2], .int 7]
theorem bad_site : ∀ x ∈ badL, den_is_site [.d x] = .ok (.d (.bl false)) [some (.d x)] := by
  simp only [badL, List.forall_mem_cons, List.not_mem_nil, false_implies, implies_true, and_true]
  refine ⟨?_, ?_, ?_, ?_, ?_, ?_, ?_, ?_, ?_⟩ <;> rfl
theorem stairs_int (n : Int) (x : D) : den_is_stairs [.d (.tup [.int n, x])] = .ok (.d (.bl false)) [some (.d (.tup [.int n, x]))] := by
  have c : den_is_corner [.d (.int n)] = .ok (.d (.bl false)) [some (.d (.int n))] := rfl
  have i0 : dIxX (.tup [.int n, x]) (.int 0) = some (.it (.int n)) := rfl
  have it : dIsi ocs oes anc (.ty "tuple") (.tup [.int n, x]) = some (.sc (.bl true)) := rfl
  have fl : fLen [.tup [.int n, x]] = some (.sc (.int 2)) := rfl
  generalize D.tup [.int n, x] = T at *
  simp -implicitDefEqProofs [den_is_stairs, denOf, m_is_stairs, it, fl, intsD_succ, intsD_zero, e_forC, i0, c]
theorem wor_stairs : ∀ x ∈ worL, den_is_stairs [.d x] = .ok (.d (.bl false)) [some (.d x)] := by
  simp only [worL, List.forall_mem_cons, List.not_mem_nil, false_implies, implies_true, and_true]
  exact ⟨rfl, stairs_int _ _, stairs_int _ _, rfl, rfl⟩
theorem wor_body : ∀ x ∈ worL, den_is_body [.d x] = .ok (.d (.bl false)) [some (.d x)] := by
  simp only [worL, List.forall_mem_cons, List.not_mem_nil, false_implies, implies_true, and_true]
  refine ⟨?_, ?_, ?_, ?_, ?_⟩ <;> rfl
theorem wor_pair : ∀ x ∈ [D.non, .tup [.int 2, .bl true], .lst [.int 2, .int 2], .int 7], den_is_pair [.d x] = .ok (.d (.bl false)) [some (.d x)] := by
  simp only [List.forall_mem_cons, List.not_mem_nil, false_implies, implies_true, and_true]
  refine ⟨?_, ?_, ?_, ?_⟩ <;> rfl
end HD

/-! Y11: what is refused. -/
namespace HD
open PySem PySem.Spec PyProof.Rows L2 VS VR PySem.W
section
variable {a e s l b : D}
def SiB (x : D) (v : Bool) : Prop := den_is_site [.d x] = .ok (.d (.bl v)) [some (.d x)]
def StB (x : D) (v : Bool) : Prop := den_is_stairs [.d x] = .ok (.d (.bl v)) [some (.d x)]
def BoB (x : D) (v : Bool) : Prop := den_is_body [.d x] = .ok (.d (.bl v)) [some (.d x)]
def PaB (x : D) (v : Bool) : Prop := den_is_pair [.d x] = .ok (.d (.bl v)) [some (.d x)]
theorem in_start (h1 : SiB a false) : den_Form___init__ [.oi "Form" [], .d a, .d e, .d s, .d l, .d b] = .err "BadStart" [some (.oi "Form" []), some (.d a), some (.d e), some (.d s), some (.d l), some (.d b)] := by
  unfold SiB at *
  simp -implicitDefEqProofs [den_Form___init__, denOf, m_Form___init__, h1]
theorem in_end (h1 : SiB a true) (h2 : SiB e false) : den_Form___init__ [.oi "Form" [], .d a, .d e, .d s, .d l, .d b] = .err "BadEnd" [some (.oi "Form" []), some (.d a), some (.d e), some (.d s), some (.d l), some (.d b)] := by
  unfold SiB at *
  simp -implicitDefEqProofs [den_Form___init__, denOf, m_Form___init__, h1, h2]
theorem in_stairs (h1 : SiB a true) (h2 : SiB e true) (h3 : StB s false) : den_Form___init__ [.oi "Form" [], .d a, .d e, .d s, .d l, .d b] = .err "BadStairs" [some (.oi "Form" []), some (.d a), some (.d e), some (.d s), some (.d l), some (.d b)] := by
  unfold SiB StB at *
  simp -implicitDefEqProofs [den_Form___init__, denOf, m_Form___init__, h1, h2, h3]
theorem in_least (h1 : SiB a true) (h2 : SiB e true) (h3 : StB s true) (h4 : BoB l false) : den_Form___init__ [.oi "Form" [], .d a, .d e, .d s, .d l, .d b] = .err "BadLeast" [some (.oi "Form" []), some (.d a), some (.d e), some (.d s), some (.d l), some (.d b)] := by
  unfold SiB StB BoB at *
  simp -implicitDefEqProofs [den_Form___init__, denOf, m_Form___init__, h1, h2, h3, h4]
theorem in_by (h1 : SiB a true) (h2 : SiB e true) (h3 : StB s true) (h4 : BoB l true) (h5 : PaB b false) : den_Form___init__ [.oi "Form" [], .d a, .d e, .d s, .d l, .d b] = .err "BadBy" [some (.oi "Form" []), some (.d a), some (.d e), some (.d s), some (.d l), some (.d b)] := by
  unfold SiB StB BoB PaB at *
  simp -implicitDefEqProofs [den_Form___init__, denOf, m_Form___init__, h1, h2, h3, h4, h5]
theorem st_place (h1 : SiB a false) : den_still [.d a, .d s] = .err "BadPlace" [some (.d a), some (.d s)] := by
  unfold SiB at *
  simp -implicitDefEqProofs [den_still, denOf, m_still, den_need_stay, m_need_stay, h1]
theorem st_stairs (h1 : SiB a true) (h3 : StB s false) : den_still [.d a, .d s] = .err "BadStairs" [some (.d a), some (.d s)] := by
  unfold SiB StB at *
  simp -implicitDefEqProofs [den_still, denOf, m_still, den_need_stay, m_need_stay, h1, h3]
theorem ld_place (h1 : SiB a false) : den_load_form [.d a, .d s, .d b] = .err "BadPlace" [some (.d a), some (.d s), some (.d b)] := by
  unfold SiB at *
  simp -implicitDefEqProofs [den_load_form, denOf, m_load_form, den_need_stay, m_need_stay, h1]
theorem ld_by (h1 : SiB a true) (h3 : StB s true) (h5 : PaB b false) : den_load_form [.d a, .d s, .d b] = .err "BadBy" [some (.d a), some (.d s), some (.d b)] := by
  unfold SiB StB PaB at *
  simp -implicitDefEqProofs [den_load_form, denOf, m_load_form, den_need_stay, m_need_stay, h1, h3, h5]
theorem es_form (h : dIsi ocs oes anc (.own "Form") a = some (.sc (.bl false))) : den_end_size [.d a, .d b] = .err "BadForm" [some (.d a), some (.d b)] := by
  simp -implicitDefEqProofs [den_end_size, denOf, m_end_size, den_need_form_body, m_need_form_body, needf_err h]
theorem es_body {f : Fm} (h : BoB b false) : den_end_size [.d (fmD f), .d b] = .err "BadBody" [some (.d (fmD f)), some (.d b)] := by
  unfold BoB at *
  simp -implicitDefEqProofs [den_end_size, denOf, m_end_size, den_need_form_body, m_need_form_body, needf_ok f, h]
end
end HD

/-! Y12: the walk of refused. -/
namespace HD
open PySem PySem.Spec PyProof.Rows L2 VS VR PySem.W
theorem refused_ok {s : Draw} {n : Int} {f : Fm} {r : Raw} (h : Tn s n) (hn : n ≤ 2 ^ 38) (o : OkR r) : ∃ s', den__law_refused [.dr s, .d (fmD f), .d (rwD r)] = .ok (.d (.bl true)) [some (.dr s'), some (.d (fmD f)), some (.d (rwD r))] := by
  obtain ⟨x, s1, m1, e1, t1⟩ := pick_ok (xs := badL) h (by omega) (by simp [badL]) (by simp [badL])
  obtain ⟨y, s2, m2, e2, t2⟩ := pick_ok (xs := worL) t1 (by omega) (by simp [worL]) (by simp [worL])
  have bs : SiB x false := bad_site x m1
  have ws : StB y false := wor_stairs y m2
  have wb : BoB y false := wor_body y m2
  have g0 : SiB (.tup [.int 0, .tup [.int 0, .int 0]]) true := rfl
  have g1 : SiB (.tup [.int 1, .tup [.int 0, .int 0]]) true := rfl
  have gs : StB (sD r.s) true := stairs_ok o.s (by have := o.n; omega)
  have gb : BoB (pD r.l.1 r.l.2) true := by
    unfold BoB
    simp [bodyP, o.l1, o.l2]
  have p3 : PaB (.int 3) false := rfl
  have nF : dIsi ocs oes anc (.own "Form") (rwD r) = some (.sc (.bl false)) := rfl
  obtain ⟨x0, x1, x2⟩ := rw_ix r
  have c1 := in_start (a := x) (e := x) (s := .int 3) (l := .int 3) (b := .int 3) bs
  have c2 := in_end (a := .tup [.int 0, .tup [.int 0, .int 0]]) (e := x) (s := .int 3) (l := .int 3) (b := .int 3) g0 bs
  have c3 := in_stairs (s := y) (l := .int 3) (b := .int 3) g0 g1 ws
  have c4 := in_least (s := sD r.s) (l := y) (b := .int 3) g0 g1 gs wb
  have c5 := in_by g0 g1 gs gb p3
  have c6 := st_place (s := .int 3) bs
  have c7 := st_stairs g0 ws
  have c8 := ld_place (s := .int 3) (b := .int 3) bs
  have c10 := es_form (b := y) nF
  have c11 := es_body (f := f) wb
  have k9 : (∃ v : D, ∃ t : Bool, dIsi ocs oes anc (.own "BadBy") v = some (.sc (.bl t)) ∧ (t = true ∨ y = .tup [.int 0, .int 1])) := ⟨.exc "BadBy", true, rfl, .inl rfl⟩
  unfold badL at e1
  unfold worL at e2
  have ey : y ≠ .tup [.int 0, .int 1] → den_load_form [.d (.tup [.int 0, .tup [.int 0, .int 0]]), .d (sD r.s), .d y] = .err "BadBy" [some (.d (.tup [.int 0, .tup [.int 0, .int 0]])), some (.d (sD r.s)), some (.d y)] := fun ne => ld_by g0 gs (wor_pair y (by
    simp only [worL, List.mem_cons, List.not_mem_nil, or_false] at m2 ⊢
    rcases m2 with q | q | q | q | q
    · exact .inl q
    · exact absurd q ne
    · exact .inr (.inl q)
    · exact .inr (.inr (.inl q))
    · exact .inr (.inr (.inr q))))
  have ez := load_ok (p := (0, 0, 0)) (b := (0, 1)) (show okSi (0, 0, 0) from Int.le_refl _) o.s o.n
  rw [show siD (0, 0, 0) = .tup [.int 0, .tup [.int 0, .int 0]] from rfl, show pD ((0 : Int), (1 : Int)).1 ((0 : Int), (1 : Int)).2 = .tup [.int 0, .int 1] from rfl] at ez
  have j0 : dIsi ocs oes anc (.own "BadStart") (.exc "BadStart") = some (.sc (.bl true)) := rfl
  have j1 : dIsi ocs oes anc (.own "BadEnd") (.exc "BadEnd") = some (.sc (.bl true)) := rfl
  have j2 : dIsi ocs oes anc (.own "BadStairs") (.exc "BadStairs") = some (.sc (.bl true)) := rfl
  have j3 : dIsi ocs oes anc (.own "BadLeast") (.exc "BadLeast") = some (.sc (.bl true)) := rfl
  have j4 : dIsi ocs oes anc (.own "BadBy") (.exc "BadBy") = some (.sc (.bl true)) := rfl
  have j5 : dIsi ocs oes anc (.own "BadPlace") (.exc "BadPlace") = some (.sc (.bl true)) := rfl
  have j6 : dIsi ocs oes anc (.own "BadForm") (.exc "BadForm") = some (.sc (.bl true)) := rfl
  have j7 : dIsi ocs oes anc (.own "BadBody") (.exc "BadBody") = some (.sc (.bl true)) := rfl
  have j8 : dIsi ocs oes anc (.own "BadBy") .non = some (.sc (.bl false)) := rfl
  have j9 : dEq false (D.lst []) (D.lst []) = some (.sc (.bl true)) := rfl
  have lc : ∀ Y : D, lcR [some (.dr s2), some (.d (fmD f)), some (.d (rwD r)), some (.d x), some (.d Y), some (.d (.lst [.bl true, .bl true, .bl true, .bl true, .bl true, .bl true, .bl true, .bl true, .bl true, .bl true, .bl true])), none] [6] (tgName 6) (mNotT (mB (mVar 6))) (M.ret (Ref.sv (SV.d (D.int 1)))) [.bl true, .bl true, .bl true, .bl true, .bl true, .bl true, .bl true, .bl true, .bl true, .bl true, .bl true] [] [some (.dr s2), some (.d (fmD f)), some (.d (rwD r)), some (.d x), some (.d Y), some (.d (.lst [.bl true, .bl true, .bl true, .bl true, .bl true, .bl true, .bl true, .bl true, .bl true, .bl true, .bl true])), none] = .ok [] [some (.dr s2), some (.d (fmD f)), some (.d (rwD r)), some (.d x), some (.d Y), some (.d (.lst [.bl true, .bl true, .bl true, .bl true, .bl true, .bl true, .bl true, .bl true, .bl true, .bl true, .bl true])), none] := fun Y => by
    rw [lc_eq (fun _ => none) (by simp) (fun z hz => ?_)]
    · rfl
    · have : z = .bl true := by simpa using hz
      subst this
      simp [lcOne, wipeE, restE]
  refine ⟨s2, ?_⟩
  generalize rwD r = R at *
  generalize fmD f = F at *
  by_cases hy : y = .tup [.int 0, .int 1]
  · subst hy
    have ee : dEq false (D.tup [.int 0, .int 1]) (D.tup [.int 0, .int 1]) = some (.sc (.bl true)) := rfl
    simp -implicitDefEqProofs [den__law_refused, denOf, m__law_refused, e1, e2, x0, x1, x2, c1, c2, c3, c4, c5, c6, c7, c8, c10, c11, ez, ee, ces, j0, j1, j2, j3, j4, j5, j6, j7, j8, j9, lc]
  · have c9 := ey hy
    simp -implicitDefEqProofs [den__law_refused, denOf, m__law_refused, e1, e2, x0, x1, x2, c1, c2, c3, c4, c5, c6, c7, c8, c9, c10, c11, ces, j0, j1, j2, j3, j4, j5, j6, j7, j8, j9, lc]
end HD

/-! Y13: the law of k86 in rows. -/
namespace HD
open PySem PySem.Spec PyProof.Rows L2 VS VR PySem.W
noncomputable abbrev L0 : M Fl := mSet 1 (mCall den__law_begun (mCons (mVar 0) (M.ret [])))
noncomputable abbrev L1 : M Fl := mPar 2 3 (mTup (mCons (mCall den__law_take (mCons (mVar 1) (mCons (M.ret (rSc (.int 3))) (M.ret [])))) (mCons (mTup (mCons (mCall den__law_take (mCons (mVar 1) (mCons (M.ret (rSc (.int 5))) (M.ret [])))) (mCons (mUn dNeg (M.ret (rSc (.int 3)))) (M.ret [])))) (M.ret [])))) (mTup (mCons (mCall den__law_take (mCons (mVar 1) (mCons (M.ret (rSc (.int 2))) (M.ret [])))) (mCons (mTup (mCons (mCall den__law_take (mCons (mVar 1) (mCons (M.ret (rSc (.int 5))) (M.ret [])))) (mCons (mUn dNeg (M.ret (rSc (.int 3)))) (M.ret [])))) (M.ret []))))
noncomputable abbrev L2 : M Fl := mSet 4 (mCall den__law_changed (mCons (mVar 1) (mCons (mCall den__law_raw (mCons (mVar 1) (M.ret []))) (M.ret []))))
noncomputable abbrev L3 : M Fl := mSet 5 (mIfE (mB (mBin (dEq false) (mCall den__law_take (mCons (mVar 1) (mCons (M.ret (rSc (.int 2))) (M.ret [])))) (M.ret (rSc (.int 0))))) (mCall den__law_changed (mCons (mVar 1) (mCons (mVar 4) (M.ret [])))) (mCall den__law_raw (mCons (mVar 1) (M.ret []))))
noncomputable abbrev L4 : M Fl := mSet 6 (mMake "Form" den_Form___init__ (mCons (mVar 2) (mCons (mVar 3) (mCons (mBin dIxX (mVar 4) (M.ret (rSc (.int 0)))) (mCons (mBin dIxX (mVar 4) (M.ret (rSc (.int 1)))) (mCons (mBin dIxX (mVar 4) (M.ret (rSc (.int 2)))) (M.ret [])))))))
noncomputable abbrev L5 : M Fl := mSet 7 (mMake "Form" den_Form___init__ (mCons (mVar 2) (mCons (mVar 3) (mCons (mBin dIxX (mVar 5) (M.ret (rSc (.int 0)))) (mCons (mBin dIxX (mVar 5) (M.ret (rSc (.int 1)))) (mCons (mBin dIxX (mVar 5) (M.ret (rSc (.int 2)))) (M.ret [])))))))
noncomputable abbrev L6 : M Fl := mIf (mOrT (mB (mBin (dEq true) (mCmI "Form" false den_Form___eq__ (mVar 6) (mVar 7)) (mCall den__law_same_doing (mCons (mVar 4) (mCons (mVar 5) (M.ret [])))))) (mB (mCmI "Form" false den_Form___eq__ (mVar 6) (mVar 4)))) (mRet [0] (M.ret (rSc (.bl false)))) (M.ret .nx)
noncomputable abbrev L7 : M Fl := mIf (mB (mBin (dEq true) (mCmI "Form" false den_Form___eq__ (mVar 6) (mMake "Form" den_Form___init__ (mCons (mVar 3) (mCons (mVar 3) (mCons (mBin dIxX (mVar 4) (M.ret (rSc (.int 0)))) (mCons (mBin dIxX (mVar 4) (M.ret (rSc (.int 1)))) (mCons (mBin dIxX (mVar 4) (M.ret (rSc (.int 2)))) (M.ret [])))))))) (mBin (dEq false) (mVar 2) (mVar 3)))) (mRet [0] (M.ret (rSc (.bl false)))) (M.ret .nx)
noncomputable abbrev L8 : M Fl := mIf (mOrT (mB (mBin (dEq true) (mUn (dFld cf "start") (mVar 6)) (mVar 2))) (mOrT (mB (mBin (dEq true) (mUn (dFld cf "end") (mVar 6)) (mVar 3))) (mB (mBin (dEq true) (mUn (dFld cf "stairs") (mVar 6)) (mBin dIxX (mVar 4) (M.ret (rSc (.int 0)))))))) (mRet [0] (M.ret (rSc (.bl false)))) (M.ret .nx)
noncomputable abbrev L9 : M Fl := mAsg (mTup (mCons (mTup (mCons (M.ret (rSc (.int 1))) (mCons (M.ret (rSc (.int 1))) (M.ret [])))) (mCons (mTup (mCons (M.ret (rSc (.int 0))) (mCons (M.ret (rSc (.int 0))) (M.ret [])))) (M.ret [])))) (tgTup [8, 9])
noncomputable abbrev L10 : M Fl := mIf (mB (mBin (dEq true) (mBin dIxX (mVar 4) (M.ret (rSc (.int 0)))) (mTup (M.ret [])))) (mSeq (mPar 8 10 (mCall den__law_grow (mCons (mBin dIxX (mVar 4) (M.ret (rSc (.int 1)))) (mCons (mBin dIxX (mVar 4) (M.ret (rSc (.int 2)))) (mCons (mTup (mCons (M.ret (rSc (.int 1))) (mCons (M.ret (rSc (.int 1))) (M.ret [])))) (M.ret []))))) (mLst (M.ret []))) (mSeq (mFor (mRng rng1 (mCons (M.ret (rSc (.int 2))) (M.ret []))) (tgName 11) (mSeq (mSet 12 (mCall den__law_reach (mCons (mBin dIxX (mVar 4) (M.ret (rSc (.int 0)))) (mCons (mVar 11) (M.ret []))))) (mDrop (mMeth 10 gAppend (mCons (mIfE (mB (mBin (dIs false) (mVar 12) (M.ret (rSc .non)))) (mBin dIxX (mBin dIxX (mVar 4) (M.ret (rSc (.int 2)))) (mVar 11)) (mBin dSub (mFn fMax (mCons (mBin dIxX (mBin dIxX (mVar 4) (M.ret (rSc (.int 1)))) (mVar 11)) (mCons (mBin dAdd (mVar 12) (mBin dIxX (mBin dIxX (mVar 4) (M.ret (rSc (.int 2)))) (mVar 11))) (M.ret [])))) (mVar 12))) (M.ret [])))))) (mSet 9 (mTup (mCons (mBin dIxX (mVar 10) (M.ret (rSc (.int 0)))) (mCons (mBin dIxX (mVar 10) (M.ret (rSc (.int 1)))) (M.ret []))))))) (M.ret .nx)
noncomputable abbrev L11 : M Fl := mIf (mOrT (mB (mBin (dEq true) (mUn (dFld cf "least") (mVar 6)) (mVar 8))) (mOrT (mB (mBin (dEq true) (mUn (dFld cf "by") (mVar 6)) (mVar 9))) (mB (mCmI "Form" true den_Form___eq__ (mMake "Form" den_Form___init__ (mCons (mVar 2) (mCons (mVar 3) (mCons (mBin dIxX (mVar 4) (M.ret (rSc (.int 0)))) (mCons (mUn (dFld cf "least") (mVar 6)) (mCons (mUn (dFld cf "by") (mVar 6)) (M.ret []))))))) (mVar 6))))) (mRet [0] (M.ret (rSc (.bl false)))) (M.ret .nx)
noncomputable abbrev LB : M Fl := mSeq (mSet 14 (mCall den__law_beside (mCons (mVar 1) (mCons (mFn fList (mCons (mBin dIxX (mVar 4) (M.ret (rSc (.int 0)))) (M.ret []))) (M.ret []))))) (mSeq (mSet 15 (mIfE (mB (mCall den__law_held (mCons (mBin dIxX (mVar 4) (M.ret (rSc (.int 0)))) (mCons (mVar 14) (M.ret []))))) (mCall den__law_grow (mCons (mBin dIxX (mVar 4) (M.ret (rSc (.int 1)))) (mCons (mBin dIxX (mVar 4) (M.ret (rSc (.int 2)))) (mCons (mVar 14) (M.ret []))))) (M.ret (rSc .non)))) (mIf (mB (mBin (dEq true) (mCallK den_end_size (M.ret []) (mCons (mVar 6) (mCons (mVar 14) (M.ret [])))) (mVar 15))) (mRet [0] (M.ret (rSc (.bl false)))) (M.ret .nx)))
noncomputable abbrev L12 : M Fl := mFor (mRng rng1 (mCons (M.ret (rSc (.int 6))) (M.ret []))) (tgName 13) LB
noncomputable abbrev L13 : M Fl := mRet [0] (mAndV (mCall den__law_loads_ok (mCons (mVar 1) (mCons (mVar 2) (mCons (mVar 4) (M.ret []))))) (mCall den__law_refused (mCons (mVar 1) (mCons (mVar 6) (mCons (mVar 4) (M.ret []))))))
theorem m_law_eq : m_law = mSeq L0 (mSeq L1 (mSeq L2 (mSeq L3 (mSeq L4 (mSeq L5 (mSeq L6 (mSeq L7 (mSeq L8 (mSeq L9 (mSeq L10 (mSeq L11 (mSeq L12 (L13))))))))))))) := rfl
end HD

/-! Y14: what the law tells of least and by. -/
namespace HD
open PySem PySem.Spec PyProof.Rows L2 VS VR PySem.W
theorem r10 {r : Raw} {a0 a1 a2 a3 a5 a6 a7 b3 b4 b5 : Option SV} : ∃ x y z, L10 [a0, a1, a2, a3, some (.d (rwD r)), a5, a6, a7, some (.d (pD 1 1)), some (.d (pD 0 0)), none, none, none, b3, b4, b5] = .ok .nx [a0, a1, a2, a3, some (.d (rwD r)), a5, a6, a7, some (.d (pD (nrm r.s r.l r.b).1.1 (nrm r.s r.l r.b).1.2)), some (.d (pD (nrm r.s r.l r.b).2.1 (nrm r.s r.l r.b).2.2)), x, y, z, b3, b4, b5] := by
  obtain ⟨x0, x1, x2⟩ := rw_ix r
  have es := eq_s0 true r.s
  by_cases ne : r.s = []
  · refine ⟨none, none, none, ?_⟩
    unfold nrm
    rw [if_pos ne]
    rw [decide_eq_true ne] at es
    generalize rwD r = R at *
    simp -implicitDefEqProofs [L10, x0, es]
  · have k0 := reach_ok ne 0
    have k1 := reach_ok ne 1
    rw [if_pos rfl] at k0
    rw [if_neg (by decide)] at k1
    have gr := grow_ok r.l.1 r.l.2 r.b.1 r.b.2 1 1
    have i1 := ix_c (some r.l.1, some r.l.2)
    have i2 := ix_c (some r.b.1, some r.b.2)
    unfold nrm
    rw [if_neg ne]
    rw [decide_eq_false ne] at es
    generalize rwD r = R at *
    refine ⟨some (.ol [.int (plB (wid r.s) r.l.1 r.b.1), .int (plB (hei r.s) r.l.2 r.b.2)]), some (.d (.int 1)), some (.d (oD (hei r.s))), ?_⟩
    cases hw : wid r.s <;> cases hh : hei r.s <;> rw [hw] at k0 <;> rw [hh] at k1 <;>
      simp -implicitDefEqProofs [L10, x0, x1, x2, es, gr, tup_p, k0, k1, i1, i2, intsD_succ, intsD_zero, e_forC, max_if, gAppend, plB, sizeLine, at2]
end HD

/-! Y15: the last laps of the law. -/
namespace HD
open PySem PySem.Spec PyProof.Rows L2 VS VR PySem.W
def LaJ (n : Int) (a0 a2 a3 : Option SV) (R : SV) (a5 : Option SV) (F : SV) (ts : En) (i : Nat) (ρ : En) : Prop := ∃ (s : Draw) (x y z : Option SV), ρ = [a0, some (.dr s), a2, a3, some R, a5, some F] ++ ts ++ [x, y, z] ∧ Tn s (n + 20 * i)
theorem r12 {s : Draw} {n : Int} {f : Fm} {r : Raw} {a e : Si} {Q : Fl → En → Prop} (a0 a2 a3 a5 a7 a8 a9 a10 a11 a12 : Option SV) (h : Tn s n) (hn : n ≤ 2 ^ 36) (o : OkR r) (hf : f = mkF a e r.s r.l r.b) (hq : ∀ s x y z, Tn s (n + 120) → Q .nx [a0, some (.dr s), a2, a3, some (.d (rwD r)), a5, some (.d (fmD f)), a7, a8, a9, a10, a11, a12, x, y, z]) : (L12 [a0, some (.dr s), a2, a3, some (.d (rwD r)), a5, some (.d (fmD f)), a7, a8, a9, a10, a11, a12, none, none, none]).Wp Q := by
  have on := o.n
  obtain ⟨x0, x1, x2⟩ := rw_ix r
  have fl := fl_s r.s
  have LH := lheld_p (s := r.s) (by omega)
  have gr := grow_ok r.l.1 r.l.2 r.b.1 r.b.2
  have E1 : ∀ w q : Int, 1 ≤ w → 1 ≤ q → _ := fun w q h1 h2 => ends_ok f (w := w) (h := q) h1 h2
  have L1 : ∀ w q : Int, 1 ≤ w → 1 ≤ q → esF f w q = if hB r.s w q = true then pD (max r.l.1 (w + r.b.1)) (max r.l.2 (q + r.b.2)) else .non := fun w q h1 h2 => by
    subst hf
    unfold esF
    by_cases g : hB r.s w q = true
    · rw [if_pos g, if_pos (show hB (mkF a e r.s r.l r.b).sa w q = true from g), gr_same o.s h1 h2 (hB_iff.mp g)]
    · rw [if_neg g, if_neg (show ¬ hB (mkF a e r.s r.l r.b).sa w q = true from g)]
  clear hf
  generalize rwD r = R at *
  generalize fmD f = F at *
  simp -implicitDefEqProofs only [e_for, e_rng]
  simp
  refine wp_forI (LaJ n a0 a2 a3 (.d R) a5 (.d F) [a7, a8, a9, a10, a11, a12]) ⟨s, none, none, none, rfl, h.le (by omega)⟩ (fun i hi ρ h0 => ?_) (fun ρ h0 => ?_)
  · obtain ⟨s2, x, y, z, rfl, t2⟩ := h0
    obtain ⟨u, v, s3, e3, u1, v1, t3⟩ := beside_ok (cs := r.s) t2 (by omega) (by omega)
    have c1 := E1 u v u1 v1
    rw [L1 u v u1 v1] at c1
    have h1 := LH u v
    have gg := gr u v
    generalize max r.l.1 (u + r.b.1) = m1 at *
    generalize max r.l.2 (v + r.b.2) = m2 at *
    generalize hB r.s u v = v1 at *
    have fin : ∀ x y z, LaJ n a0 a2 a3 (.d R) a5 (.d F) [a7, a8, a9, a10, a11, a12] (i + 1) [a0, some (.dr s3), a2, a3, some (.d R), a5, some (.d F), a7, a8, a9, a10, a11, a12, x, y, z] := fun x y z => ⟨s3, x, y, z, rfl, t3.le (by simp only [Int.natCast_add, Int.natCast_one]; omega)⟩
    unfold forS
    simp only [e_tgN]
    cases v1 <;> simp -implicitDefEqProofs at c1 <;> simp -implicitDefEqProofs [LB, x0, x1, x2, fl, e3, gg, h1, c1, eq_nn, eq_self] <;> exact fin _ _ _
  · obtain ⟨s2, x, y, z, rfl, t2⟩ := h0
    exact hq s2 x y z (t2.le (by omega))
end HD

/-! Y16: rows of the law. -/
namespace HD
open PySem PySem.Spec PyProof.Rows L2 VS VR PySem.W
theorem r13 {s : Draw} {n : Int} {p : Si} {f : Fm} {r : Raw} (a0 a3 a5 a7 a8 a9 a10 a11 a12 a13 a14 a15 : Option SV) (h : Tn s n) (hn : n ≤ 2 ^ 36) (hp : okSi p) (o : OkR r) : ∃ s', L13 [a0, some (.dr s), some (.d (siD p)), a3, some (.d (rwD r)), a5, some (.d (fmD f)), a7, a8, a9, a10, a11, a12, a13, a14, a15] = .ok (.rt (.d (.bl true))) [a0, some (.dr s'), some (.d (siD p)), a3, some (.d (rwD r)), a5, some (.d (fmD f)), a7, a8, a9, a10, a11, a12, a13, a14, a15] := by
  obtain ⟨s1, e1, t1⟩ := loads_ok h hn hp o
  obtain ⟨s2, e2⟩ := refused_ok (f := f) t1 (by omega) o
  refine ⟨s2, ?_⟩
  generalize rwD r = R at *
  generalize fmD f = F at *
  simp -implicitDefEqProofs [L13, e1, e2]
end HD

/-! Y17: the row of the two forms. -/
namespace HD
open PySem PySem.Spec PyProof.Rows L2 VS VR PySem.W
theorem r6 {p q : Si} {r1 r2 : Raw} (a0 a1 a2 a3 a8 a9 a10 a11 a12 a13 a14 a15 : Option SV) (o1 : OkR r1) (o2 : OkR r2) (m1 : Small 2 r1) (m2 : Small 2 r2) : L6 [a0, a1, a2, a3, some (.d (rwD r1)), some (.d (rwD r2)), some (.d (fmD (mkF p q r1.s r1.l r1.b))), some (.d (fmD (mkF p q r2.s r2.l r2.b))), a8, a9, a10, a11, a12, a13, a14, a15] = .ok .nx [a0, a1, a2, a3, some (.d (rwD r1)), some (.d (rwD r2)), some (.d (fmD (mkF p q r1.s r1.l r1.b))), some (.d (fmD (mkF p q r2.s r2.l r2.b))), a8, a9, a10, a11, a12, a13, a14, a15] := by
  have e1 := eqm_ok (mkF p q r1.s r1.l r1.b) (mkF p q r2.s r2.l r2.b)
  have e2 := sameD_ok o1 o2
  rw [same_eq (a := p) (e := q) o1 o2 m1 m2] at e2
  have e3 := eqm_no (mkF p q r1.s r1.l r1.b) r1
  have k1 : okL "Form" (fmD (mkF p q r1.s r1.l r1.b)) = true := rfl
  have k2 : okR "Form" (fmD (mkF p q r2.s r2.l r2.b)) = true := rfl
  have k3 : okR "Form" (rwD r1) = true := rfl
  have bb : ∀ v : Bool, dEq true (.bl v) (.bl v) = some (.sc (.bl false)) := fun v => by cases v <;> rfl
  generalize eqF (mkF p q r1.s r1.l r1.b) (mkF p q r2.s r2.l r2.b) = v at *
  generalize fmD (mkF p q r1.s r1.l r1.b) = F1 at *
  generalize fmD (mkF p q r2.s r2.l r2.b) = F2 at *
  generalize rwD r1 = R1 at *
  generalize rwD r2 = R2 at *
  simp -implicitDefEqProofs [L6, e1, e2, e3, k1, k2, k3, bb]
end HD

/-! Y18: rows of the law. -/
namespace HD
open PySem PySem.Spec PyProof.Rows L2 VS VR PySem.W
theorem r4 {p q : Si} {r1 : Raw} (a0 a1 a5 a7 a8 a9 a10 a11 a12 a13 a14 a15 : Option SV) (hp : okSi p) (hq : okSi q) (o1 : OkR r1) : L4 [a0, a1, some (.d (siD p)), some (.d (siD q)), some (.d (rwD r1)), a5, none, a7, a8, a9, a10, a11, a12, a13, a14, a15] = .ok .nx [a0, a1, some (.d (siD p)), some (.d (siD q)), some (.d (rwD r1)), a5, some (.d (fmD (mkF p q r1.s r1.l r1.b))), a7, a8, a9, a10, a11, a12, a13, a14, a15] := by
  have i := init_ok (l := r1.l) (b := r1.b) hp hq o1.s (show r1.s.length < 60 by have := o1.n; omega) o1.l1 o1.l2
  obtain ⟨x0, x1, x2⟩ := rw_ix r1
  generalize rwD r1 = R1 at *
  simp -implicitDefEqProofs [L4, x0, x1, x2, i, fm_fold]
theorem r5 {p q : Si} {r1 : Raw} (a0 a1 a4 a6 a8 a9 a10 a11 a12 a13 a14 a15 : Option SV) (hp : okSi p) (hq : okSi q) (o1 : OkR r1) : L5 [a0, a1, some (.d (siD p)), some (.d (siD q)), a4, some (.d (rwD r1)), a6, none, a8, a9, a10, a11, a12, a13, a14, a15] = .ok .nx [a0, a1, some (.d (siD p)), some (.d (siD q)), a4, some (.d (rwD r1)), a6, some (.d (fmD (mkF p q r1.s r1.l r1.b))), a8, a9, a10, a11, a12, a13, a14, a15] := by
  have i := init_ok (l := r1.l) (b := r1.b) hp hq o1.s (show r1.s.length < 60 by have := o1.n; omega) o1.l1 o1.l2
  obtain ⟨x0, x1, x2⟩ := rw_ix r1
  generalize rwD r1 = R1 at *
  simp -implicitDefEqProofs [L5, x0, x1, x2, i, fm_fold]
end HD

/-! Y19: rows of the law. -/
namespace HD
open PySem PySem.Spec PyProof.Rows L2 VS VR PySem.W
theorem r8 {p q : Si} {r1 : Raw} (a0 a1 a5 a7 a8 a9 a10 a11 a12 a13 a14 a15 : Option SV) : L8 [a0, a1, some (.d (siD p)), some (.d (siD q)), some (.d (rwD r1)), a5, some (.d (fmD (mkF p q r1.s r1.l r1.b))), a7, a8, a9, a10, a11, a12, a13, a14, a15] = .ok .nx [a0, a1, some (.d (siD p)), some (.d (siD q)), some (.d (rwD r1)), a5, some (.d (fmD (mkF p q r1.s r1.l r1.b))), a7, a8, a9, a10, a11, a12, a13, a14, a15] := by
  obtain ⟨f1, f2, f3, _⟩ := fld_ok (mkF p q r1.s r1.l r1.b)
  rw [show (mkF p q r1.s r1.l r1.b).st = p from rfl] at f1
  rw [show (mkF p q r1.s r1.l r1.b).en = q from rfl] at f2
  rw [show (mkF p q r1.s r1.l r1.b).sa = r1.s from rfl] at f3
  have e1 := eq_si true p p
  have e2 := eq_si true q q
  have e3 := eq_s true r1.s r1.s
  rw [decide_eq_true rfl] at e1 e2 e3
  obtain ⟨x0, x1, x2⟩ := rw_ix r1
  generalize rwD r1 = R1 at *
  generalize fmD (mkF p q r1.s r1.l r1.b) = F1 at *
  simp -implicitDefEqProofs [L8, x0, x1, x2, f1, f2, f3, e1, e2, e3]
theorem r9 (a0 a1 a2 a3 a4 a5 a6 a7 a10 a11 a12 a13 a14 a15 : Option SV) : L9 [a0, a1, a2, a3, a4, a5, a6, a7, none, none, a10, a11, a12, a13, a14, a15] = .ok .nx [a0, a1, a2, a3, a4, a5, a6, a7, some (.d (pD 1 1)), some (.d (pD 0 0)), a10, a11, a12, a13, a14, a15] := by
  simp -implicitDefEqProofs [L9, tup_p]
end HD

/-! Y20: rows of the law. -/
namespace HD
open PySem PySem.Spec PyProof.Rows L2 VS VR PySem.W
theorem r7 {p q : Si} {r1 : Raw} (a0 a1 a5 a7 a8 a9 a10 a11 a12 a13 a14 a15 : Option SV) (hq : okSi q) (o1 : OkR r1) : L7 [a0, a1, some (.d (siD p)), some (.d (siD q)), some (.d (rwD r1)), a5, some (.d (fmD (mkF p q r1.s r1.l r1.b))), a7, a8, a9, a10, a11, a12, a13, a14, a15] = .ok .nx [a0, a1, some (.d (siD p)), some (.d (siD q)), some (.d (rwD r1)), a5, some (.d (fmD (mkF p q r1.s r1.l r1.b))), a7, a8, a9, a10, a11, a12, a13, a14, a15] := by
  have i := init_ok (l := r1.l) (b := r1.b) hq hq o1.s (show r1.s.length < 60 by have := o1.n; omega) o1.l1 o1.l2
  have em := eqm_ok (mkF p q r1.s r1.l r1.b) (mkF q q r1.s r1.l r1.b)
  have ev : eqF (mkF p q r1.s r1.l r1.b) (mkF q q r1.s r1.l r1.b) = decide (p = q) := by
    unfold eqF mkF
    simp
  rw [ev] at em
  have k1 : okL "Form" (fmD (mkF p q r1.s r1.l r1.b)) = true := rfl
  have k2 : okR "Form" (fmD (mkF q q r1.s r1.l r1.b)) = true := rfl
  have es := eq_si false p q
  have bb : ∀ v : Bool, dEq true (.bl v) (.bl v) = some (.sc (.bl false)) := fun v => by cases v <;> rfl
  obtain ⟨x0, x1, x2⟩ := rw_ix r1
  generalize rwD r1 = R1 at *
  generalize fmD (mkF p q r1.s r1.l r1.b) = F1 at *
  generalize decide (p = q) = v at *
  simp -implicitDefEqProofs [L7, x0, x1, x2, i, fm_fold, em, k1, k2, es, bb]
end HD

/-! Y21: rows of the law. -/
namespace HD
open PySem PySem.Spec PyProof.Rows L2 VS VR PySem.W
theorem Small.le {k j : Int} {r : Raw} (h : Small k r) (g : k ≤ j) : Small j r := by
  obtain ⟨m1, m2, ⟨m3, m4⟩, m5, m6⟩ := h
  exact ⟨by omega, by omega, ⟨by omega, by omega⟩, by omega, by omega⟩
theorem r0 (ns : List Int) (hn : ns.length ≤ 63) : ∃ s, L0 [some (.sc ns), none, none, none, none, none, none, none, none, none, none, none, none, none, none, none] = .ok .nx [some (.sc ns), some (.dr s), none, none, none, none, none, none, none, none, none, none, none, none, none, none] ∧ Tn s 0 := by
  obtain ⟨s, e, t⟩ := begun_ok hn
  exact ⟨s, by simp [e], t⟩
theorem si_p (a b c : Int) : D.tup [.int a, pD b c] = siD (a, b, c) := rfl
theorem r1 (ns : List Int) {s : Draw} (h : Tn s 0) : ∃ p q s', L1 [some (.sc ns), some (.dr s), none, none, none, none, none, none, none, none, none, none, none, none, none, none] = .ok .nx [some (.sc ns), some (.dr s'), some (.d (siD p)), some (.d (siD q)), none, none, none, none, none, none, none, none, none, none, none, none] ∧ okSi p ∧ okSi q ∧ Tn s' 4 := by
  obtain ⟨a, s1, e1, a0, a1, t1⟩ := take_ok (m := 3) h (by omega) (by decide) (by decide)
  obtain ⟨b, s2, e2, b0, b1, t2⟩ := take_ok (m := 5) t1 (by omega) (by decide) (by decide)
  obtain ⟨c, s3, e3, c0, c1, t3⟩ := take_ok (m := 2) t2 (by omega) (by decide) (by decide)
  obtain ⟨d, s4, e4, d0, d1, t4⟩ := take_ok (m := 5) t3 (by omega) (by decide) (by decide)
  refine ⟨(a, b, -3), (c, d, -3), s4, ?_, a0, c0, t4.le (by omega)⟩
  simp [L1, e1, e2, e3, e4, tup_p, si_p]
theorem r2 (ns : List Int) (P Q : Option SV) {s : Draw} (h : Tn s 4) : ∃ r s', L2 [some (.sc ns), some (.dr s), P, Q, none, none, none, none, none, none, none, none, none, none, none, none] = .ok .nx [some (.sc ns), some (.dr s'), P, Q, some (.d (rwD r)), none, none, none, none, none, none, none, none, none, none, none] ∧ OkR r ∧ Small 1 r ∧ Tn s' 104 := by
  obtain ⟨r0, s1, e1, o0, m0, t1⟩ := raw_okB h (by omega)
  obtain ⟨r, s2, e2, o, m, t2⟩ := changed_ok t1 (by omega) o0 m0 (by omega)
  refine ⟨r, s2, ?_, o, m.le (by omega), t2.le (by omega)⟩
  generalize rwD r = R at *
  generalize rwD r0 = R0 at *
  simp -implicitDefEqProofs [L2, e1, e2]
theorem r3 (ns : List Int) (P Q : Option SV) {s : Draw} {r : Raw} (h : Tn s 104) (o : OkR r) (m1 : Small 1 r) : ∃ r' s', L3 [some (.sc ns), some (.dr s), P, Q, some (.d (rwD r)), none, none, none, none, none, none, none, none, none, none, none] = .ok .nx [some (.sc ns), some (.dr s'), P, Q, some (.d (rwD r)), some (.d (rwD r')), none, none, none, none, none, none, none, none, none, none] ∧ OkR r' ∧ Small 2 r' ∧ Tn s' 204 := by
  obtain ⟨v, s1, e1, v0, v1, t1⟩ := take_ok (m := 2) h (by omega) (by decide) (by decide)
  by_cases g : v = 0
  · subst g
    obtain ⟨r', s2, e2, o2, m2, t2⟩ := changed_ok t1 (by omega) o m1 (by omega)
    refine ⟨r', s2, ?_, o2, m2.le (by omega), t2.le (by omega)⟩
    generalize rwD r = R at *
    generalize rwD r' = R' at *
    simp -implicitDefEqProofs [L3, e1, e2]
  · obtain ⟨r', s2, e2, o2, m2, t2⟩ := raw_okB t1 (by omega)
    refine ⟨r', s2, ?_, o2, m2.le (by omega), t2.le (by omega)⟩
    generalize rwD r = R at *
    generalize rwD r' = R' at *
    simp -implicitDefEqProofs [L3, e1, e2, g]
theorem r11 {p q : Si} {r : Raw} (a0 a1 a5 a7 a10 a11 a12 a13 a14 a15 : Option SV) (hp : okSi p) (hq : okSi q) (o : OkR r) : L11 [a0, a1, some (.d (siD p)), some (.d (siD q)), some (.d (rwD r)), a5, some (.d (fmD (mkF p q r.s r.l r.b))), a7, some (.d (pD (mkF p q r.s r.l r.b).le.1 (mkF p q r.s r.l r.b).le.2)), some (.d (pD (mkF p q r.s r.l r.b).by_.1 (mkF p q r.s r.l r.b).by_.2)), a10, a11, a12, a13, a14, a15] = .ok .nx [a0, a1, some (.d (siD p)), some (.d (siD q)), some (.d (rwD r)), a5, some (.d (fmD (mkF p q r.s r.l r.b))), a7, some (.d (pD (mkF p q r.s r.l r.b).le.1 (mkF p q r.s r.l r.b).le.2)), some (.d (pD (mkF p q r.s r.l r.b).by_.1 (mkF p q r.s r.l r.b).by_.2)), a10, a11, a12, a13, a14, a15] := by
  have hi := mk_idem (a := p) (e := q) (l := r.l) (b := r.b) o.s
  have g := mk_le (a := p) (e := q) (s := r.s) (b := r.b) o.l1 o.l2
  have i := init_ok (l := (mkF p q r.s r.l r.b).le) (b := (mkF p q r.s r.l r.b).by_) hp hq o.s (show r.s.length < 60 by have := o.n; omega) g.1 g.2
  rw [← hi] at i
  clear hi g
  obtain ⟨_, _, _, f4, f5⟩ := fld_ok (mkF p q r.s r.l r.b)
  have em := eqm_ok (mkF p q r.s r.l r.b) (mkF p q r.s r.l r.b)
  rw [eqF_same rfl] at em
  have k1 : okL "Form" (fmD (mkF p q r.s r.l r.b)) = true := rfl
  have k2 : okR "Form" (fmD (mkF p q r.s r.l r.b)) = true := rfl
  have e1 := eq_p true (mkF p q r.s r.l r.b).le.1 (mkF p q r.s r.l r.b).le.2 (mkF p q r.s r.l r.b).le.1 (mkF p q r.s r.l r.b).le.2
  have e2 := eq_p true (mkF p q r.s r.l r.b).by_.1 (mkF p q r.s r.l r.b).by_.2 (mkF p q r.s r.l r.b).by_.1 (mkF p q r.s r.l r.b).by_.2
  simp only [decide_true, Bool.and_true, Bool.bne_true, Bool.not_true, Bool.true_xor] at e1 e2
  have ff := fm_fold (mkF p q r.s r.l r.b)
  obtain ⟨x0, x1, x2⟩ := rw_ix r
  generalize mkF p q r.s r.l r.b = F at *
  generalize rwD r = R at *
  generalize fmD F = X at *
  simp -implicitDefEqProofs [L11, x0, f4, f5, e1, e2, i, ff, em, k1, k2]
end HD

/-! Y22: the law. -/
namespace HD
open PySem PySem.Spec PyProof.Rows L2 VS VR PySem.W
def LQ (r : SV) (_ : En) : Prop := r = .d (.bl true)
theorem seq_wpn {p q : M Fl} {ρ : En} {Q : Fl → En → Prop} (h : (p ρ).Wp fun fl ρ' => fl = .nx ∧ (q ρ').Wp Q) : (mSeq p q ρ).Wp Q := by
  rw [e_seq]
  refine Rs.Wp.bind (h.mono fun fl ρ' z => ?_)
  obtain ⟨rfl, z⟩ := z
  exact z
theorem plain (ns : List Int) (hn : ns.length ≤ 63) : ∃ outs, den_law [.sc ns] = .ok (.d (.bl true)) outs := by
  obtain ⟨r, o, e, rfl⟩ := den_wp (n := 1) (l := 15) (pin := [0]) (m := m_law) (args := [.sc ns]) (Q := LQ) (by
    rw [m_law_eq]
    obtain ⟨s0, e0, t0⟩ := r0 ns hn
    refine seq_wp e0 ?_
    obtain ⟨p, q, s1, e1, hp, hq, t1⟩ := r1 ns t0
    refine seq_wp e1 ?_
    obtain ⟨ra, s2, e2, oa, ma, t2⟩ := r2 ns (some (.d (siD p))) (some (.d (siD q))) t1
    refine seq_wp e2 ?_
    obtain ⟨rb, s3, e3, ob, mb, t3⟩ := r3 ns (some (.d (siD p))) (some (.d (siD q))) t2 oa ma
    refine seq_wp e3 ?_
    refine seq_wp (r4 _ _ _ _ _ _ _ _ _ _ _ _ hp hq oa) ?_
    refine seq_wp (r5 _ _ _ _ _ _ _ _ _ _ _ _ hp hq ob) ?_
    refine seq_wp (r6 _ _ _ _ _ _ _ _ _ _ _ _ oa ob (ma.le (by omega)) mb) ?_
    refine seq_wp (r7 _ _ _ _ _ _ _ _ _ _ _ _ hq oa) ?_
    refine seq_wp (r8 _ _ _ _ _ _ _ _ _ _ _ _) ?_
    refine seq_wp (r9 _ _ _ _ _ _ _ _ _ _ _ _ _ _) ?_
    obtain ⟨x, y, z, e10⟩ := r10 (r := ra) (a0 := some (.sc ns)) (a1 := some (.dr s3)) (a2 := some (.d (siD p))) (a3 := some (.d (siD q))) (a5 := some (.d (rwD rb))) (a6 := some (.d (fmD (mkF p q ra.s ra.l ra.b)))) (a7 := some (.d (fmD (mkF p q rb.s rb.l rb.b)))) (b3 := none) (b4 := none) (b5 := none)
    refine seq_wp e10 ?_
    refine seq_wp (r11 _ _ _ _ _ _ _ _ _ _ hp hq oa) ?_
    refine seq_wpn (r12 _ _ _ _ _ _ _ _ _ _ t3 (by omega) oa rfl fun s x y z t4 => ⟨rfl, ?_⟩)
    obtain ⟨s5, e5⟩ := r13 (p := p) (f := mkF p q ra.s ra.l ra.b) (r := ra) (some (.sc ns)) (some (.d (siD q))) (some (.d (rwD rb))) (some (.d (fmD (mkF p q rb.s rb.l rb.b)))) (some (.d (pD (mkF p q ra.s ra.l ra.b).le.1 (mkF p q ra.s ra.l ra.b).le.2))) (some (.d (pD (mkF p q ra.s ra.l ra.b).by_.1 (mkF p q ra.s ra.l ra.b).by_.2))) _ _ _ x y z t4 (by omega) hp oa
    exact wp_eq e5 rfl)
  exact ⟨o, e⟩
end HD

theorem PySem.Challenge.cw_gapstairs_k86_forms_equal_if_they_do_the_holds : PySem.Challenge.rw_gapstairs_k86_forms_equal_if_they_do_the.Holds := by
  exact law_holds HD.plain
