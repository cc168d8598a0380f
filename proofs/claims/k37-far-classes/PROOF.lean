import PyProof.Rows.All
import Wide.All
import OpenK.AllK
import Wide.FinOn
import HandS.ForMost
import HandS.ForExc
import HandS.Style
import HandS.Wide
import HandS.Gcd
import HandS.Rev
import HandS.IsInst
import HandS.SortInts
import HandS.Conv
import HandS.Strs
import HandS.SetFor
import HandS.ExcInit
import KE.DatumOrd
import HandS.SortKw
import HandS.ExcOwn
import HandS.ExcField
import HandS.ExcIs
import HandS.TryOnly
import KE.KExcIs
import PySem.Challenge.RW_wordruns_k37_far_classes
set_option Elab.async false
set_option linter.all false
set_option maxRecDepth 100000
set_option maxHeartbeats 4000000
/-! A functional reading of Python bodies: data without a heap (D), environments, and what a judgement of the hand layer says of them. -/
namespace Pc
open PySem L2

/-- data, without addresses -/
inductive D where
  | non | bl (b : Bool) | int (i : Int) | str (x : Str) | lst (xs : List D) | tup (xs : List D) | st (xs : List Int) | scr (xs : List Int)
  /-- the exception in hand: its class's name, its fields -/
  | exc (cls : Str) (ns : List Str) (ds : List D)
  /-- an instance of an own class -/
  | obj (cls : Str) (ns : List Str) (ds : List D)
  /-- a dict -/
  | dct (ks : List Key) (ds : List D)
  deriving Inhabited

/-- the world, the module's names, the exception in hand (its place, its class, its dict) -/
structure Wd where
  w : World
  mg : Str → Option Value
  xa : Option (Addr × Value × Option Addr)
def _root_.L2.Cx.wd (X : Cx) : Wd := ⟨X.w, X.mg, if X.calm = true then none else match X.pn with
  | (a, o) :: _ => some (a, o.cls, o.dict)
  | [] => none⟩
theorem wd_calm {X : Cx} (h : X.calm = true) : X.wd = ⟨X.w, X.mg, none⟩ := by unfold L2.Cx.wd; rw [if_pos h]
mutual
/-- v stands for the data d in the (frozen) heap F -/
inductive Rep (K : PySem.W.Frag) (w : Wd) (F : Hp) : D → V → Prop where
  | non : Rep K w F .non .non
  | bl (b : Bool) : Rep K w F (.bl b) (.bl b)
  | int (i : Int) : Rep K w F (.int i) (.int i)
  | str (x : Str) : Rep K w F (.str x) (.str x)
  | lst {a : Addr} {xs : List V} {ds : List D} : F a = some (.lst xs) → Reps K w F ds xs → Rep K w F (.lst ds) (.ref a)
  | tup {a : Addr} {xs : List V} {ds : List D} : SqT K F a xs → Reps K w F ds xs → Rep K w F (.tup ds) (.ref a)
  | st {a : Addr} {S : Int → Bool} {n : Nat} {is : List Int} : F a = some (SetO w.w a S n) → (∀ i, S i = decide (i ∈ is)) → n ≤ is.length → Rep K w F (.st is) (.ref a)
  | scr {a : Addr} {ns : List Int} : SqL K F a (ns.map V.int) → Rep K w F (.scr ns) (.ref a)
  | exc {a c : Addr} {dd : Option Addr} {cls : Str} {ns : List Str} {ds : List D} {vs : List V} : w.xa = some (a, .ref c, dd) → w.mg cls = some (.ref c) → Reps K w F ds vs → (ns ≠ [] → ∃ d, dd = some d ∧ F d = some (.xd (ns.zip vs))) → (ns = [] → dd = none) → Rep K w F (.exc cls ns ds) (.ref a)
  | obj {a C dx : Addr} {cls : Str} {ns : List Str} {ds : List D} {vs : List V} : F a = some (.ins C dx (ns.zip vs)) → w.mg cls = some (.ref C) → Reps K w F ds vs → Rep K w F (.obj cls ns ds) (.ref a)
  | dct {a : Addr} {ks : List Key} {ds : List D} {vs : List V} : F a = some (.dK (ks.zip vs)) → Reps K w F ds vs → Rep K w F (.dct ks ds) (.ref a)
inductive Reps (K : PySem.W.Frag) (w : Wd) (F : Hp) : List D → List V → Prop where
  | nil : Reps K w F [] []
  | cons {d : D} {ds : List D} {v : V} {vs : List V} : Rep K w F d v → Reps K w F ds vs → Reps K w F (d :: ds) (v :: vs)
end

theorem Same.tup {K : PySem.W.Frag} {H H' : Hp} {a : Addr} {xs : List V} (e : Same H H') (h : SqT K H a xs) : SqT K H' a xs := by
  rcases h with (h | ⟨o, h⟩) | h
  · exact .inl (.inl (e _ _ h))
  · exact .inl (.inr ⟨o, e _ _ h⟩)
  · exact .inr h

section
variable {K : PySem.W.Frag} {w : Wd} {F F' : Hp}
mutual
theorem Rep.mono (e : Same F F') : ∀ (d : D) (v : V), Rep K w F d v → Rep K w F' d v
  | .non, _, h => by cases h; exact .non
  | .bl b, _, h => by cases h; exact .bl b
  | .int i, _, h => by cases h; exact .int i
  | .str x, _, h => by cases h; exact .str x
  | .lst ds, _, h => by cases h with | lst h1 h2 => exact .lst (e _ _ h1) (Reps.mono e ds _ h2)
  | .tup ds, _, h => by cases h with | tup h1 h2 => exact .tup (Same.tup e h1) (Reps.mono e ds _ h2)
  | .st is, _, h => by cases h with | st h1 h2 h3 => exact .st (e _ _ h1) h2 h3
  | .scr is, _, h => by cases h with | scr h1 => exact .scr (e.seq h1)
  | .exc _ _ ds, _, h => by
    cases h with | exc h1 h2 h3 h4 h5 =>
    exact .exc h1 h2 (Reps.mono e ds _ h3) (fun n => by
      obtain ⟨d, k1, k2⟩ := h4 n
      exact ⟨d, k1, e _ _ k2⟩) h5
  | .obj _ _ ds, _, h => by cases h with | obj h1 h2 h3 => exact .obj (e _ _ h1) h2 (Reps.mono e ds _ h3)
  | .dct _ ds, _, h => by cases h with | dct h1 h3 => exact .dct (e _ _ h1) (Reps.mono e ds _ h3)
theorem Reps.mono (e : Same F F') : ∀ (ds : List D) (vs : List V), Reps K w F ds vs → Reps K w F' ds vs
  | [], _, h => by cases h; exact .nil
  | d :: ds, _, h => by cases h with | cons h1 h2 => exact .cons (Rep.mono e d _ h1) (Reps.mono e ds _ h2)
end
theorem Reps.length : ∀ {ds : List D} {vs : List V}, Reps K w F ds vs → ds.length = vs.length
  | [], _, h => by cases h; rfl
  | d :: ds, _, h => by cases h with | cons h1 h2 => simp [Reps.length h2]
theorem Reps.append : ∀ {ds es : List D} {vs us : List V}, Reps K w F ds vs → Reps K w F es us → Reps K w F (ds ++ es) (vs ++ us)
  | [], _, _, _, h, g => by cases h; exact g
  | d :: ds, _, _, _, h, g => by cases h with | cons h1 h2 => exact .cons h1 (Reps.append h2 g)
theorem Reps.get : ∀ {ds : List D} {vs : List V} {i : Nat} {d : D}, Reps K w F ds vs → ds[i]? = some d → ∃ v, vs[i]? = some v ∧ Rep K w F d v
  | [], _, _, _, h, e => by simp at e
  | d :: ds, _, 0, _, h, e => by cases h with | cons h1 h2 => simp at e; subst e; exact ⟨_, rfl, h1⟩
  | d :: ds, _, i + 1, _, h, e => by
    cases h with | cons h1 h2 =>
    obtain ⟨v, e1, e2⟩ := Reps.get (i := i) h2 (by simpa using e)
    exact ⟨v, by simpa using e1, e2⟩
theorem Reps.getV : ∀ {ds : List D} {vs : List V} {i : Nat} {v : V}, Reps K w F ds vs → vs[i]? = some v → ∃ d, ds[i]? = some d ∧ Rep K w F d v
  | [], _, _, _, h, e => by cases h; simp at e
  | d :: ds, _, 0, _, h, e => by cases h with | cons h1 h2 => simp at e; subst e; exact ⟨_, rfl, h1⟩
  | d :: ds, _, i + 1, _, h, e => by
    cases h with | cons h1 h2 =>
    obtain ⟨v, e1, e2⟩ := Reps.getV (i := i) h2 (by simpa using e)
    exact ⟨v, by simpa using e1, e2⟩
theorem Reps.set {d : D} {v : V} (r : Rep K w F d v) : ∀ {ds : List D} {vs : List V} (i : Nat), Reps K w F ds vs → Reps K w F (ds.set i d) (vs.set i v)
  | [], _, _, h => by cases h; exact .nil
  | _ :: ds, _, 0, h => by cases h with | cons h1 h2 => exact .cons r h2
  | _ :: ds, _, i + 1, h => by cases h with | cons h1 h2 => exact .cons h1 (Reps.set r i h2)
theorem Reps.take : ∀ {ds : List D} {vs : List V} (n : Nat), Reps K w F ds vs → Reps K w F (ds.take n) (vs.take n)
  | _, _, 0, _ => .nil
  | [], _, n + 1, h => by cases h; exact .nil
  | d :: ds, _, n + 1, h => by cases h with | cons h1 h2 => exact .cons h1 (Reps.take n h2)
theorem Reps.drop : ∀ {ds : List D} {vs : List V} (n : Nat), Reps K w F ds vs → Reps K w F (ds.drop n) (vs.drop n)
  | _, _, 0, h => h
  | [], _, n + 1, h => by cases h; exact .nil
  | d :: ds, _, n + 1, h => by cases h with | cons h1 h2 => exact Reps.drop n h2
theorem Reps.reverse : ∀ {ds : List D} {vs : List V}, Reps K w F ds vs → Reps K w F ds.reverse vs.reverse
  | [], _, h => by cases h; exact .nil
  | d :: ds, _, h => by
    cases h with | cons h1 h2 =>
    rw [List.reverse_cons, List.reverse_cons]
    exact Reps.append (Reps.reverse h2) (.cons h1 .nil)
theorem Reps.dropLast : ∀ {ds : List D} {vs : List V}, Reps K w F ds vs → Reps K w F ds.dropLast vs.dropLast := fun {ds vs} h => by
  rw [List.dropLast_eq_take, List.dropLast_eq_take, h.length]
  exact h.take _
theorem Reps.ints : ∀ (ns : List Int), Reps K w F (ns.map D.int) (ns.map V.int)
  | [] => .nil
  | n :: ns => .cons (.int n) (Reps.ints ns)
theorem Reps.intsV : ∀ {ns : List Int} {vs : List V}, Reps K w F (ns.map D.int) vs → vs = ns.map V.int
  | [], _, h => by cases h; rfl
  | n :: ns, _, h => by cases h with | cons h1 h2 => cases h1; rw [Reps.intsV h2]; rfl
theorem Reps.bools : ∀ (ns : List Bool), Reps K w F (ns.map D.bl) (ns.map V.bl)
  | [] => .nil
  | n :: ns => .cons (.bl n) (Reps.bools ns)
theorem Reps.boolsV : ∀ {ns : List Bool} {vs : List V}, Reps K w F (ns.map D.bl) vs → vs = ns.map V.bl
  | [], _, h => by cases h; rfl
  | n :: ns, _, h => by cases h with | cons h1 h2 => cases h1; rw [Reps.boolsV h2]; rfl
end

/-- the frozen part F grew to F', the heap H to H'; what F gained is new -/
structure Grow (F H F' H' : Hp) : Prop where
  ff : Same F F'
  fh : Same F' H'
  hh : Same H H'
  nw : ∀ a o, F' a = some o → H a ≠ none → F a = some o
theorem Grow.refl {F H : Hp} (h : Same F H) : Grow F H F H := ⟨Same.refl F, h, Same.refl H, fun _ _ e _ => e⟩
theorem Grow.trans {F H F1 H1 F2 H2 : Hp} (a : Grow F H F1 H1) (b : Grow F1 H1 F2 H2) : Grow F H F2 H2 :=
  ⟨a.ff.trans b.ff, b.fh, a.hh.trans b.hh, fun x o e n => a.nw x o (b.nw x o e (by
    cases h : H x with
    | none => exact absurd h n
    | some u => rw [a.hh _ _ h]; simp)) n⟩
/-- an object is laid and frozen -/
theorem Grow.new {F H F1 H1 : Hp} {p : Addr} {o : HO} (a : Grow F H F1 H1) (hp : H1 p = none) : Grow F H (upd F1 p o) (upd H1 p o) := by
  have hf : F1 p = none := by
    cases h : F1 p with
    | none => rfl
    | some u => rw [a.fh _ _ h] at hp; cases hp
  have hh : H p = none := a.hh.free hp
  refine ⟨fun x u e => ?_, fun x u e => ?_, fun x u e => ?_, fun x u e n => ?_⟩
  · rw [upd_ne (ne_of_none (a.ff _ _ e) hf)]; exact a.ff _ _ e
  · by_cases hx : x = p
    · subst hx; rw [upd_same] at e ⊢; exact e
    · rw [upd_ne hx] at e ⊢; exact a.fh _ _ e
  · rw [upd_ne (ne_of_none (a.hh _ _ e) hp)]; exact a.hh _ _ e
  · by_cases hx : x = p
    · subst hx; exact absurd hh n
    · rw [upd_ne hx] at e; exact a.nw _ _ e n
/-- an object is laid, not frozen -/
theorem Grow.lay {F H F1 H1 : Hp} {p : Addr} {o : HO} (a : Grow F H F1 H1) (hp : H1 p = none) : Grow F H F1 (upd H1 p o) := by
  refine ⟨a.ff, fun x u e => ?_, fun x u e => ?_, a.nw⟩
  · rw [upd_ne (ne_of_none (a.fh _ _ e) hp)]; exact a.fh _ _ e
  · rw [upd_ne (ne_of_none (a.hh _ _ e) hp)]; exact a.hh _ _ e
theorem Grow.freeF {F H F1 H1 : Hp} {p : Addr} (a : Grow F H F1 H1) (hp : H1 p = none) : F1 p = none := a.fh.free hp

/-! ### results -/
structure Exn where
  cls : Str
  ns : List Str
  ds : List D
inductive R (α : Type) where
  | ok (a : α) | ex (x : Exn) | bad
def R.bind {α β : Type} : R α → (α → R β) → R β
  | .ok a, f => f a
  | .ex x, _ => .ex x
  | .bad, _ => .bad
instance : Monad R where
  pure := .ok
  bind := R.bind
/-- an exception x stands in the heap: its class C, its own dict dd -/
def ExAt (K : PySem.W.Frag) (w : Wd) (mg : Str → Option Value) (x : Exn) (F H : Hp) (C : Value) (dd : Option Addr) : Prop :=
  ∃ c, mg x.cls = some (.ref c) ∧ C = .ref c ∧ ∃ vs, Reps K w F x.ds vs ∧ (x.ns ≠ [] → ∃ d, dd = some d ∧ F d = some (.xd (x.ns.zip vs))) ∧ (x.ns = [] → dd = none)
def Want (K : PySem.W.Frag) (w : Wd) (mg : Str → Option Value) {α : Type} (r : R α) (F H : Hp) (k : α → Hp → Hp → Prop) (e : Value → Option Addr → Hp → Prop) : Prop :=
  match r with
  | .ok a => ∀ F' H', Grow F H F' H' → k a F' H'
  | .ex x => ∀ C dd F' H', Grow F H F' H' → ExAt K w mg x F' H' C dd → e C dd H'
  | .bad => False
section
variable {K : PySem.W.Frag} {w : Wd} {mg : Str → Option Value} {F H F1 H1 : Hp} {e : Value → Option Addr → Hp → Prop} {α β : Type} {k : α → Hp → Hp → Prop}
theorem Want.grow {r : R α} (h : Want K w mg r F H k e) (g : Grow F H F1 H1) : Want K w mg r F1 H1 k e := by
  cases r with
  | ok a => exact fun F' H' g' => h F' H' (g.trans g')
  | ex x => exact fun C dd F' H' g' => h C dd F' H' (g.trans g')
  | bad => exact h
theorem Want.bind {r : R α} {f : α → R β} {k : β → Hp → Hp → Prop} (h : Want K w mg (r.bind f) F H k e) : Want K w mg r F H (fun a F1 H1 => Want K w mg (f a) F1 H1 k e) e := by
  cases r with
  | ok a => exact fun F' H' g => Want.grow (show Want K w mg (f a) F H k e from h) g
  | ex x => exact h
  | bad => exact h
theorem Want.imp {r : R α} {k' : α → Hp → Hp → Prop} (h : Want K w mg r F H k e) (i : ∀ a F' H', Grow F H F' H' → k a F' H' → k' a F' H') : Want K w mg r F H k' e := by
  cases r with
  | ok a => exact fun F' H' g => i a F' H' g (h F' H' g)
  | ex x => exact h
  | bad => exact h
end

/-! ### environments -/
abbrev En := List (Option (D × Bool))
/-- what a slot holds: data that is frozen, or a list that only this slot holds -/
def SlOk (K : PySem.W.Frag) (w : Wd) (B F H : Hp) (d : D) : Bool → V → Prop
  | false, v => Rep K w F d v
  | true, v => ∃ a xs ds, v = .ref a ∧ d = .lst ds ∧ H a = some (.lst xs) ∧ Reps K w F ds xs ∧ F a = none ∧ B a = none
structure EOk (K : PySem.W.Frag) (w : Wd) (B F0 F H : Hp) (σ : St) (ρ : En) : Prop where
  g : Grow F0 B F H
  ln : σ.length = ρ.length
  sl : ∀ (i : Nat) (d : D) (o : Bool), ρ[i]? = some (some (d, o)) → ∃ v, σ[i]? = some (some v) ∧ SlOk K w B F H d o v
  ds : ∀ (i j : Nat) (d e : D) (v : V), i ≠ j → ρ[i]? = some (some (d, true)) → ρ[j]? = some (some (e, true)) → σ[i]? = some (some v) → σ[j]? = some (some v) → False
section
variable {K : PySem.W.Frag} {w : Wd} {B F0 F H F1 H1 : Hp} {σ : St} {ρ : En} {d : D} {o : Bool} {v : V} {i : Nat}
theorem SlOk.grow (h : SlOk K w B F H d o v) (g : Grow F H F1 H1) : SlOk K w B F1 H1 d o v := by
  cases o with
  | false => exact Rep.mono g.ff _ _ h
  | true =>
    obtain ⟨a, xs, ds, e1, e2, e3, e4, e5, e6⟩ := h
    refine ⟨a, xs, ds, e1, e2, g.hh _ _ e3, Reps.mono g.ff _ _ e4, ?_, e6⟩
    cases h : F1 a with
    | none => rfl
    | some u => rw [g.nw a u h (by rw [e3]; simp)] at e5; cases e5
theorem EOk.fh (x : EOk K w B F0 F H σ ρ) : Same F H := x.g.fh
theorem EOk.growB {F0 B : Hp} (g0 : Grow F0 B F H) (g : Grow F H F1 H1) : Grow F0 B F1 H1 := g0.trans g
theorem EOk.grow (x : EOk K w B F0 F H σ ρ) (g : Grow F H F1 H1) : EOk K w B F0 F1 H1 σ ρ :=
  ⟨x.g.trans g, x.ln, fun i d o e => by
    obtain ⟨v, e1, e2⟩ := x.sl i d o e
    exact ⟨v, e1, e2.grow g⟩, x.ds⟩
theorem getElem?_set_cases {α : Type} {l : List α} {i j : Nat} {a b : α} (h : (l.set i a)[j]? = some b) : (i = j ∧ a = b ∧ i < l.length) ∨ (i ≠ j ∧ l[j]? = some b) := by
  by_cases e : i = j
  · subst e
    have hl : i < l.length := by
      have := (List.getElem?_eq_some_iff.mp h).1
      simpa using this
    rw [List.getElem?_set_self hl] at h
    exact .inl ⟨rfl, Option.some.inj h, hl⟩
  · rw [List.getElem?_set_ne e] at h
    exact .inr ⟨e, h⟩
/-- a slot gets frozen data -/
theorem EOk.set (x : EOk K w B F0 F H σ ρ) (r : Rep K w F d v) : EOk K w B F0 F H (σ.set i (some v)) (ρ.set i (some (d, false))) := by
  refine ⟨x.g, by rw [List.length_set, List.length_set]; exact x.ln, fun j e o h => ?_, fun j k e e' u n h1 h2 h3 h4 => ?_⟩
  · rcases getElem?_set_cases h with ⟨e1, e2, e3⟩ | ⟨e1, e2⟩
    · subst e1; cases e2
      exact ⟨v, List.getElem?_set_self (by rw [x.ln]; exact e3), r⟩
    · obtain ⟨u, e3, e4⟩ := x.sl j e o e2
      exact ⟨u, by rw [List.getElem?_set_ne e1]; exact e3, e4⟩
  · rcases getElem?_set_cases h1 with ⟨_, e2, _⟩ | ⟨e1, e2⟩
    · cases e2
    rcases getElem?_set_cases h2 with ⟨_, e2', _⟩ | ⟨e1', e2'⟩
    · cases e2'
    rw [List.getElem?_set_ne e1] at h3
    rw [List.getElem?_set_ne e1'] at h4
    exact x.ds j k e e' u n e2 e2' h3 h4
/-- a slot gets a list of its own -/
theorem EOk.setOwn {a : Addr} {xs : List V} {ds : List D} (x : EOk K w B F0 F H σ ρ) (e1 : H a = some (.lst xs)) (e2 : Reps K w F ds xs) (e3 : F a = none) (e4 : B a = none)
    (n : ∀ (j : Nat) (d : D), j ≠ i → ρ[j]? = some (some (d, true)) → σ[j]? ≠ some (some (.ref a))) : EOk K w B F0 F H (σ.set i (some (.ref a))) (ρ.set i (some (.lst ds, true))) := by
  refine ⟨x.g, by rw [List.length_set, List.length_set]; exact x.ln, fun j e o h => ?_, fun j k e e' u nn h1 h2 h3 h4 => ?_⟩
  · rcases getElem?_set_cases h with ⟨e1', e2', e3'⟩ | ⟨e1', e2'⟩
    · subst e1'; cases e2'
      exact ⟨_, List.getElem?_set_self (by rw [x.ln]; exact e3'), a, xs, ds, rfl, rfl, e1, e2, e3, e4⟩
    · obtain ⟨u, e3, e4⟩ := x.sl j e o e2'
      exact ⟨u, by rw [List.getElem?_set_ne e1']; exact e3, e4⟩
  · rcases getElem?_set_cases h1 with ⟨p1, p2, p3⟩ | ⟨p1, p2⟩
    · subst p1
      rcases getElem?_set_cases h2 with ⟨q1, q2, q3⟩ | ⟨q1, q2⟩
      · exact nn q1
      · rw [List.getElem?_set_self (by rw [x.ln]; exact p3)] at h3
        cases h3
        rw [List.getElem?_set_ne q1] at h4
        exact n k _ (Ne.symm q1) q2 h4
    · rw [List.getElem?_set_ne p1] at h3
      rcases getElem?_set_cases h2 with ⟨q1, q2, q3⟩ | ⟨q1, q2⟩
      · subst q1
        rw [List.getElem?_set_self (by rw [x.ln]; exact q3)] at h4
        cases h4
        exact n j _ (Ne.symm p1) p2 h3
      · rw [List.getElem?_set_ne q1] at h4
        exact x.ds j k e e' u nn p2 q2 h3 h4
/-- an owned list is rewritten -/
theorem EOk.write {a : Addr} {ys : List V} {ds es : List D} (x : EOk K w B F0 F H σ ρ) (hi : ρ[i]? = some (some (.lst ds, true))) (hs : σ[i]? = some (some (.ref a))) (r : Reps K w F es ys) :
    EOk K w B F0 F (upd H a (.lst ys)) σ (ρ.set i (some (.lst es, true))) := by
  obtain ⟨v, e1, a', xs', ds', e2, e3, e4, e5, e6, e7⟩ := x.sl i _ _ hi
  rw [hs] at e1
  cases e1; cases e2; cases e3
  have hil : i < ρ.length := (List.getElem?_eq_some_iff.mp hi).1
  refine ⟨⟨x.g.ff, fun b u e => ?_, fun b u e => ?_, x.g.nw⟩, by rw [List.length_set]; exact x.ln, fun j e o h => ?_, fun j k e e' u nn h1 h2 h3 h4 => ?_⟩
  · rw [upd_ne (ne_of_none e e6)]; exact x.g.fh _ _ e
  · rw [upd_ne (ne_of_none e e7)]; exact x.g.hh _ _ e
  · rcases getElem?_set_cases h with ⟨p1, p2, p3⟩ | ⟨p1, p2⟩
    · subst p1; cases p2
      exact ⟨_, hs, a, ys, es, rfl, rfl, upd_same, r, e6, e7⟩
    · obtain ⟨u, q1, q2⟩ := x.sl j e o p2
      refine ⟨u, q1, ?_⟩
      cases o with
      | false => exact q2
      | true =>
        obtain ⟨b, zs, fs, f1, f2, f3, f4, f5, f6⟩ := q2
        have hb : b ≠ a := fun z => by
          subst z; subst f1
          exact x.ds i j _ _ _ p1 hi p2 hs q1
        exact ⟨b, zs, fs, f1, f2, by rw [upd_ne hb]; exact f3, f4, f5, f6⟩
  · rcases getElem?_set_cases h1 with ⟨p1, p2, p3⟩ | ⟨p1, p2⟩
    · subst p1
      rcases getElem?_set_cases h2 with ⟨q1, q2, q3⟩ | ⟨q1, q2⟩
      · exact nn q1
      · exact x.ds i k _ _ _ nn hi q2 h3 h4
    · rcases getElem?_set_cases h2 with ⟨q1, q2, q3⟩ | ⟨q1, q2⟩
      · subst q1
        exact x.ds j i _ _ _ nn p2 hi h3 h4
      · exact x.ds j k e e' u nn p2 q2 h3 h4
/-- a slot's list is its own no more -/
def frz1 (ρ : En) (i : Nat) : En := match ρ[i]? with
  | some (some (d, true)) => ρ.set i (some (d, false))
  | _ => ρ
def frz (ρ : En) : List Nat → En
  | [] => ρ
  | i :: is => frz (frz1 ρ i) is
/-- F' is F and lists -/
def Lent (F F' : Hp) : Prop := Same F F' ∧ ∀ a o, F' a = some o → F a = some o ∨ (F a = none ∧ ∃ xs, o = .lst xs)
theorem Lent.refl (F : Hp) : Lent F F := ⟨Same.refl F, fun _ _ e => .inl e⟩
theorem Lent.trans {F F1 F2 : Hp} (a : Lent F F1) (b : Lent F1 F2) : Lent F F2 := ⟨a.1.trans b.1, fun x o e => by
  rcases b.2 x o e with h | ⟨h, h'⟩
  · exact a.2 x o h
  · refine .inr ⟨?_, h'⟩
    cases q : F x with
    | none => rfl
    | some u => rw [a.1 _ _ q] at h; cases h⟩
theorem EOk.frz1 (x : EOk K w B F0 F H σ ρ) (i : Nat) : ∃ F', Lent F F' ∧ EOk K w B F0 F' H σ (frz1 ρ i) := by
  unfold Pc.frz1
  split
  · rename_i d hi
    obtain ⟨v, e1, a, xs, ds, e2, e3, e4, e5, e6, e7⟩ := x.sl i _ _ hi
    subst e2 e3
    have gF : Same F (upd F a (.lst xs)) := fun b u e => by
      rw [upd_ne (ne_of_none e e6)]; exact e
    refine ⟨upd F a (.lst xs), ⟨gF, fun b o e => by
      by_cases hb : b = a
      · subst hb; rw [upd_same] at e; cases e; exact .inr ⟨e6, _, rfl⟩
      · rw [upd_ne hb] at e; exact .inl e⟩, ⟨x.g.ff.trans gF, fun b u e => ?_, x.g.hh, fun b u e n => ?_⟩, by rw [List.length_set]; exact x.ln, fun j e o h => ?_, fun j k e e' u nn h1 h2 h3 h4 => ?_⟩
    · by_cases hb : b = a
      · subst hb; rw [upd_same] at e; rw [e4]; exact e
      · rw [upd_ne hb] at e; exact x.g.fh _ _ e
    · by_cases hb : b = a
      · subst hb; exact absurd e7 n
      · rw [upd_ne hb] at e; exact x.g.nw _ _ e n
    · rcases getElem?_set_cases h with ⟨p1, p2, p3⟩ | ⟨p1, p2⟩
      · subst p1; cases p2
        exact ⟨_, e1, .lst upd_same (Reps.mono gF _ _ e5)⟩
      · obtain ⟨u, q1, q2⟩ := x.sl j e o p2
        refine ⟨u, q1, ?_⟩
        cases o with
        | false => exact Rep.mono gF _ _ q2
        | true =>
          obtain ⟨b, zs, fs, f1, f2, f3, f4, f5, f6⟩ := q2
          have hb : b ≠ a := fun z => by
            subst z; subst f1
            exact x.ds i j _ _ _ p1 hi p2 e1 q1
          exact ⟨b, zs, fs, f1, f2, f3, Reps.mono gF _ _ f4, by rw [upd_ne hb]; exact f5, f6⟩
    · rcases getElem?_set_cases h1 with ⟨_, p2, _⟩ | ⟨p1, p2⟩
      · cases p2
      rcases getElem?_set_cases h2 with ⟨_, q2, _⟩ | ⟨q1, q2⟩
      · cases q2
      exact x.ds j k e e' u nn p2 q2 h3 h4
  · exact ⟨F, .refl F, x⟩
theorem EOk.frz : ∀ (is : List Nat) {F : Hp} {ρ : En}, EOk K w B F0 F H σ ρ → ∃ F', Lent F F' ∧ EOk K w B F0 F' H σ (frz ρ is)
  | [], F, _, x => ⟨F, .refl F, x⟩
  | i :: is, _, _, x => by
    obtain ⟨F1, l1, x1⟩ := x.frz1 i
    obtain ⟨F2, l2, x2⟩ := EOk.frz is x1
    exact ⟨F2, l1.trans l2, x2⟩
end

/-! ### judgements as the weakest readings -/
def WE (X : Cx) (e : Expr) : TE := fun σ H Q => ∃ t, PE X e t ∧ t σ H Q
def WT (X : Cx) (e : Expr) : TT := fun σ H Q => ∃ t, PT X e t ∧ t σ H Q
def WA (X : Cx) (es : List Expr) : TA := fun σ H Q => ∃ t, PA X es t ∧ t σ H Q
def WS (X : Cx) (st : Stmt) : TS := fun D σ H => ∃ t, PS X st t ∧ t D σ H
def WSs (X : Cx) (sts : List Stmt) : TS := fun D σ H => ∃ t, PSs X sts t ∧ t D σ H
def WI (X : Cx) (tg e : Expr) : TI := fun σ H R => ∃ t, PI X tg e t ∧ t σ H R
def WG (X : Cx) (tg : Expr) : TG := fun v σ H Q => ∃ t, PG X tg t ∧ t v σ H Q
def WPs (X : Cx) (es : List Expr) : TT := fun σ H Q => ∃ t, PTs X es t ∧ t σ H Q
section
variable {X : Cx}
theorem pe_W (e : Expr) : PE X e (WE X e) := ⟨fun pins s σ H Q I ⟨t, h, q⟩ => h.run pins s σ H Q I q⟩
theorem pt_W (e : Expr) : PT X e (WT X e) := ⟨fun pins s σ H Q I ⟨t, h, q⟩ => h.run pins s σ H Q I q⟩
theorem pa_W (e : List Expr) : PA X e (WA X e) := ⟨fun pos pins s σ H Q I ⟨t, h, q⟩ => h.run pos pins s σ H Q I q⟩
theorem ps_W (e : Stmt) : PS X e (WS X e) := ⟨fun pins s σ H D I ⟨t, h, q⟩ => h.run pins s σ H D I q⟩
theorem pss_W (e : List Stmt) : PSs X e (WSs X e) := ⟨fun pins s σ H D I ⟨t, h, q⟩ => h.run pins s σ H D I q⟩
theorem pi_W (tg e : Expr) : PI X tg e (WI X tg e) := ⟨fun pins s σ H R I ⟨t, h, q⟩ => h.run pins s σ H R I q⟩
theorem pg_W (tg : Expr) : PG X tg (WG X tg) := ⟨fun pins s σ H v u Q I r ⟨t, h, q⟩ => h.run pins s σ H v u Q I r q⟩
theorem pts_W (es : List Expr) : PTs X es (WPs X es) := ⟨fun pins s σ H Q I ⟨t, h, q⟩ => h.run pins s σ H Q I q⟩
end

/-! ### what a judgement says of a function of environments -/
/-- a value that may be a list of a slot's own -/
def BRep (K : PySem.W.Frag) (w : Wd) (F H : Hp) (d : D) (v : V) : Prop := Rep K w F d v ∨ ∃ a xs ds, v = .ref a ∧ d = .lst ds ∧ H a = some (.lst xs) ∧ Reps K w F ds xs
/-- an expression gives frozen data -/
def RE (X : Cx) (W : WX) (e : Expr) (f : En → R D) : Prop := ∀ B F0 F H σ ρ (Q : VK), EOk X.K X.wd B F0 F H σ ρ →
  Want X.K X.wd X.mg (f ρ) F H (fun d F' H' => ∀ v, Rep X.K X.wd F' d v → Q v H') (fun C dd H' => W C dd σ H') → WE X e σ H Q
/-- .. is read only -/
def RB (X : Cx) (W : WX) (e : Expr) (f : En → R D) : Prop := ∀ B F0 F H σ ρ (Q : VK), EOk X.K X.wd B F0 F H σ ρ →
  Want X.K X.wd X.mg (f ρ) F H (fun d F' H' => ∀ v, BRep X.K X.wd F' H' d v → Q v H') (fun C dd H' => W C dd σ H') → WE X e σ H Q
/-- .. gives a new list -/
def RF (X : Cx) (W : WX) (e : Expr) (f : En → R (List D)) : Prop := ∀ B F0 F H σ ρ (Q : VK), EOk X.K X.wd B F0 F H σ ρ →
  Want X.K X.wd X.mg (f ρ) F H (fun ds F' H' => ∀ p xs, H p = none → F' p = none → H' p = some (.lst xs) → Reps X.K X.wd F' ds xs → Q (.ref p) H') (fun C dd H' => W C dd σ H') → WE X e σ H Q
/-- a test -/
def RT (X : Cx) (W : WX) (e : Expr) (f : En → R Bool) : Prop := ∀ B F0 F H σ ρ (Q : Bool → Hp → Prop), EOk X.K X.wd B F0 F H σ ρ →
  Want X.K X.wd X.mg (f ρ) F H (fun b _ H' => Q b H') (fun C dd H' => W C dd σ H') → WT X e σ H Q
/-- arguments -/
def RA (X : Cx) (W : WX) (es : List Expr) (f : En → R (List D)) : Prop := ∀ B F0 F H σ ρ (Q : List V → Hp → Prop), EOk X.K X.wd B F0 F H σ ρ →
  Want X.K X.wd X.mg (f ρ) F H (fun ds F' H' => ∀ vs, Reps X.K X.wd F' ds vs → Q vs H') (fun C dd H' => W C dd σ H') → WA X es σ H Q
/-- .. read only -/
inductive BReps (K : PySem.W.Frag) (w : Wd) (F H : Hp) : List D → List V → Prop where
  | nil : BReps K w F H [] []
  | cons {d : D} {ds : List D} {v : V} {vs : List V} : BRep K w F H d v → BReps K w F H ds vs → BReps K w F H (d :: ds) (v :: vs)
def RAB (X : Cx) (W : WX) (es : List Expr) (f : En → R (List D)) : Prop := ∀ B F0 F H σ ρ (Q : List V → Hp → Prop), EOk X.K X.wd B F0 F H σ ρ →
  Want X.K X.wd X.mg (f ρ) F H (fun ds F' H' => ∀ vs, BReps X.K X.wd F' H' ds vs → Q vs H') (fun C dd H' => W C dd σ H') → WA X es σ H Q

inductive O where
  | nx (ρ : En) | rt (d : D) | bk (ρ : En) | ct (ρ : En)
def WantS (X : Cx) (W : WX) (B F0 : Hp) (r : R O) (Z : Ends) : Prop := match r with
  | .ok (.nx ρ) => ∀ σ F H, EOk X.K X.wd B F0 F H σ ρ → Z.nx σ H
  | .ok (.bk ρ) => ∀ σ F H, EOk X.K X.wd B F0 F H σ ρ → Z.bk σ H
  | .ok (.ct ρ) => ∀ σ F H, EOk X.K X.wd B F0 F H σ ρ → Z.ct σ H
  | .ok (.rt d) => ∀ v F H, Grow F0 B F H → Rep X.K X.wd F d v → Z.rt v H
  | .ex x => ∀ C dd σ F H, Grow F0 B F H → ExAt X.K X.wd X.mg x F H C dd → W C dd σ H
  | .bad => False
def RS (X : Cx) (W : WX) (st : Stmt) (f : En → R O) : Prop := ∀ B F0 F H σ ρ (Z : Ends), EOk X.K X.wd B F0 F H σ ρ → WantS X W B F0 (f ρ) Z → WS X st Z σ H
def RSs (X : Cx) (W : WX) (st : List Stmt) (f : En → R O) : Prop := ∀ B F0 F H σ ρ (Z : Ends), EOk X.K X.wd B F0 F H σ ρ → WantS X W B F0 (f ρ) Z → WSs X st Z σ H
section
variable {X : Cx} {W : WX} {e : Expr} {f : En → R D}
theorem BRep.grow {K : PySem.W.Frag} {w : Wd} {F H F1 H1 : Hp} {d : D} {v : V} (h : BRep K w F H d v) (g : Grow F H F1 H1) : BRep K w F1 H1 d v := by
  rcases h with h | ⟨a, xs, ds, e1, e2, e3, e4⟩
  · exact .inl (Rep.mono g.ff _ _ h)
  · exact .inr ⟨a, xs, ds, e1, e2, g.hh _ _ e3, Reps.mono g.ff _ _ e4⟩
theorem RE.b (h : RE X W e f) : RB X W e f := fun B F0 F H σ ρ Q x hw => h B F0 F H σ ρ Q x (hw.imp fun d F' H' _ k v r => k v (.inl r))
theorem RF.re {f : En → R (List D)} (h : RF X W e f) : RE X W e fun ρ => (f ρ).bind fun ds => .ok (.lst ds) := fun B F0 F H σ ρ Q x hw => by
  refine h B F0 F H σ ρ Q x ?_
  replace hw : Want X.K X.wd X.mg ((f ρ).bind fun ds => R.ok (D.lst ds)) F H (fun d F' H' => ∀ v, Rep X.K X.wd F' d v → Q v H') (fun C dd H' => W C dd σ H') := hw
  cases hf : f ρ with
  | ok ds =>
    rw [hf] at hw
    intro F' H' g p xs h1 h2 h3 h4
    have s : Same F' (upd F' p (.lst xs)) := fun a o e => by rw [upd_ne (ne_of_none e h2)]; exact e
    refine hw (upd F' p (.lst xs)) H' ⟨g.ff.trans s, fun a o e => ?_, g.hh, fun a o e n => ?_⟩ (.ref p) (.lst upd_same (Reps.mono s _ _ h4))
    · by_cases ha : a = p
      · subst ha; rw [upd_same] at e; rw [h3]; exact e
      · rw [upd_ne ha] at e; exact g.fh _ _ e
    · by_cases ha : a = p
      · subst ha; exact absurd h1 n
      · rw [upd_ne ha] at e; exact g.nw _ _ e n
  | ex y => rw [hf] at hw; exact hw
  | bad => rw [hf] at hw; exact hw
theorem RF.b {f : En → R (List D)} (h : RF X W e f) : RB X W e fun ρ => (f ρ).bind fun ds => .ok (.lst ds) := (RF.re h).b
end
end Pc
set_option maxHeartbeats 4000000
namespace Pc
open PySem L2

/-! ### names and constants -/
def fVar (i : Nat) : En → R D := fun ρ => match ρ[i]? with
  | some (some (d, false)) => .ok d
  | _ => .bad
def fVarB (i : Nat) : En → R D := fun ρ => match ρ[i]? with
  | some (some (d, _)) => .ok d
  | _ => .bad
def fC (d : D) : En → R D := fun _ => .ok d
section
variable {X : Cx} {W : WX}
/-- a reading that hands on at once -/
theorem RE.at {e : Expr} {t : TE} (h : PE X e t) {σ : St} {H : Hp} {Q : VK} (q : t σ H Q) : WE X e σ H Q := ⟨t, h, q⟩
theorem re_var (i : Nat) {x : Str} {pos : Pos} (hN : X.N[i]? = some x := by rfl) (hv : Vis X.env.scope x := by first | exact Or.inl rfl | exact Or.inr (Or.inl rfl) | exact Or.inr (Or.inr rfl))
    (hd : (x == ("__debug__" : Str)) = false := by decide) (hcd : (x == ("__classdict__" : Str)) = false := by decide) : RE X W (.Name x pos) (fVar i) := fun B F0 F H σ ρ Q x hw => by
  refine ⟨_, pe_var hN hv hd hcd, ?_⟩
  unfold fVar at hw
  split at hw
  · rename_i d hi
    obtain ⟨v, e1, e2⟩ := x.sl i _ _ hi
    exact ⟨v, e1, hw F H (Grow.refl x.fh) v e2⟩
  · exact hw.elim
theorem rb_var (i : Nat) {x : Str} {pos : Pos} (hN : X.N[i]? = some x := by rfl) (hv : Vis X.env.scope x := by first | exact Or.inl rfl | exact Or.inr (Or.inl rfl) | exact Or.inr (Or.inr rfl))
    (hd : (x == ("__debug__" : Str)) = false := by decide) (hcd : (x == ("__classdict__" : Str)) = false := by decide) : RB X W (.Name x pos) (fVarB i) := fun B F0 F H σ ρ Q x hw => by
  refine ⟨_, pe_var hN hv hd hcd, ?_⟩
  unfold fVarB at hw
  split at hw
  · rename_i d o hi
    obtain ⟨v, e1, e2⟩ := x.sl i _ _ hi
    refine ⟨v, e1, hw F H (Grow.refl x.fh) v ?_⟩
    cases o with
    | false => exact .inl e2
    | true =>
      obtain ⟨a, xs, ds, f1, f2, f3, f4, _⟩ := e2
      exact .inr ⟨a, xs, ds, f1, f2, f3, f4⟩
  · exact hw.elim
theorem re_c {e : Expr} {d : D} {v : V} (h : PE X e (tC v)) (r : ∀ F, Rep X.K X.wd F d v) : RE X W e (fC d) := fun B F0 F H σ ρ Q x hw => ⟨_, h, hw F H (Grow.refl x.fh) v (r F)⟩
theorem re_int {i : Int} {j pos} : RE X W (.Constant (.int i) j pos) (fC (.int i)) := re_c pe_int fun _ => .int i
theorem re_bl {b : Bool} {j pos} : RE X W (.Constant (.bool b) j pos) (fC (.bl b)) := re_c pe_bl fun _ => .bl b
theorem re_non {j pos} : RE X W (.Constant .none j pos) (fC .non) := re_c pe_non fun _ => .non
theorem re_str {s : Str} {j pos} : RE X W (.Constant (.str s) j pos) (fC (.str s)) := re_c pe_str fun _ => .str s
theorem re_gint {i : Int} {x : Str} {pos : Pos} (hg : Gl X x) (hm : ∃ t, X.mg x = some (.int i t)) (hd : (x == ("__debug__" : Str)) = false := by decide) : RE X W (.Name x pos) (fC (.int i)) :=
  let ⟨t, hm⟩ := hm; re_c (v := .int i) (pe_glob hg hm ⟨t, rfl⟩ hd) fun _ => .int i
theorem re_gstr {i : Str} {x : Str} {pos : Pos} (hg : Gl X x) (hm : ∃ t, X.mg x = some (.str i t)) (hd : (x == ("__debug__" : Str)) = false := by decide) : RE X W (.Name x pos) (fC (.str i)) :=
  let ⟨t, hm⟩ := hm; re_c (v := .str i) (pe_glob hg hm ⟨t, rfl⟩ hd) fun _ => .str i

/-! ### two operands -/
def f2 (g : D → D → R D) (a b : En → R D) : En → R D := fun ρ => (a ρ).bind fun x => (b ρ).bind fun y => g x y
def f1 (g : D → R D) (a : En → R D) : En → R D := fun ρ => (a ρ).bind g
/-- what an operation by values gives of data -/
def OpD (X : Cx) (r : R2) (g : D → D → R D) : Prop := ∀ F H dx dy x y (Q : VK) (e : Value → Option Addr → Hp → Prop), Same F H → BRep X.K X.wd F H dx x → BRep X.K X.wd F H dy y →
  Want X.K X.wd X.mg (g dx dy) F H (fun d F' H' => ∀ v, Rep X.K X.wd F' d v → Q v H') e → r x y H Q
theorem re_op {op : Operator} {a b : Expr} {fa fb : En → R D} {r : R2} {g : D → D → R D} {pos : Pos} (ho : OpR X (binaryOp op) r) (hd : OpD X r g) (ha : RB X W a fa) (hb : RB X W b fb) : RE X W (.BinOp a op b pos) (f2 g fa fb) := fun B F0 F H σ ρ Q x hw => by
  refine ⟨_, pe_op ho (pe_W a) (pe_W b), ?_⟩
  refine ha B F0 F H σ ρ _ x ((Want.bind hw).imp fun dx F1 H1 g1 k v rv => ?_)
  refine hb B F0 F1 H1 σ ρ _ (x.grow g1) ((Want.bind k).imp fun dy F2 H2 g2 k2 u ru => ?_)
  exact hd F2 H2 dx dy v u Q _ g2.fh (rv.grow g2) ru k2
theorem re_cmp {op : CmpOp} {a b : Expr} {fa fb : En → R D} {r : R2} {g : D → D → R D} {pos : Pos} (ho : OpR X (compareOp op) r) (hd : OpD X r g) (ha : RB X W a fa) (hb : RB X W b fb) (hm : behindInMarks op b = false) : RE X W (.Compare a [op] [b] pos) (f2 g fa fb) := fun B F0 F H σ ρ Q x hw => by
  refine ⟨_, pe_cmpR ho (pe_W a) (pe_W b) hm, ?_⟩
  refine ha B F0 F H σ ρ _ x ((Want.bind hw).imp fun dx F1 H1 g1 k v rv => ?_)
  refine hb B F0 F1 H1 σ ρ _ (x.grow g1) ((Want.bind k).imp fun dy F2 H2 g2 k2 u ru => ?_)
  exact hd F2 H2 dx dy v u Q _ g2.fh (rv.grow g2) ru k2
/-- of a value its truth (bools) -/
def toB : D → R Bool
  | .bl b => .ok b
  | _ => .bad
def fB (f : En → R D) : En → R Bool := fun ρ => (f ρ).bind toB
theorem rt_cmp {op : CmpOp} {a b : Expr} {fa fb : En → R D} {r : R2} {g : D → D → R D} {pos : Pos} (ho : OpR X (compareOp op) r) (hd : OpD X r g) (ha : RB X W a fa) (hb : RB X W b fb) (hm : behindInMarks op b = false) : RT X W (.Compare a [op] [b] pos) (fB (f2 g fa fb)) := fun B F0 F H σ ρ Q x hw => by
  refine ⟨_, pt_cmpR ho (pe_W a) (pe_W b) hm, ?_⟩
  refine ha B F0 F H σ ρ _ x ((Want.bind (Want.bind hw)).imp fun dx F1 H1 g1 k v rv => ?_)
  refine hb B F0 F1 H1 σ ρ _ (x.grow g1) ((Want.bind k).imp fun dy F2 H2 g2 k2 u ru => ?_)
  refine hd F2 H2 dx dy v u _ _ g2.fh (rv.grow g2) ru (k2.imp fun d F3 H3 g3 k3 z rz => ?_)
  unfold toB at k3
  split at k3
  · cases rz; exact ⟨_, rfl, k3 F3 H3 (Grow.refl g3.fh)⟩
  · exact k3.elim

/-! ### values of data -/
end
section
variable {K : PySem.W.Frag} {w : Wd} {F H : Hp} {v : V}
theorem BRep.int {i : Int} (h : BRep K w F H (.int i) v) : v = .int i := by
  rcases h with h | ⟨_, _, _, _, h, _⟩
  · cases h; rfl
  · cases h
theorem BRep.bl {i : Bool} (h : BRep K w F H (.bl i) v) : v = .bl i := by
  rcases h with h | ⟨_, _, _, _, h, _⟩
  · cases h; rfl
  · cases h
theorem BRep.non (h : BRep K w F H .non v) : v = .non := by
  rcases h with h | ⟨_, _, _, _, h, _⟩
  · cases h; rfl
  · cases h
theorem BRep.str {i : Str} (h : BRep K w F H (.str i) v) : v = .str i := by
  rcases h with h | ⟨_, _, _, _, h, _⟩
  · cases h; rfl
  · cases h
theorem BRep.lst {ds : List D} (h : BRep K w F H (.lst ds) v) (s : Same F H) : ∃ a xs, v = .ref a ∧ H a = some (.lst xs) ∧ Reps K w F ds xs := by
  rcases h with h | ⟨a, xs, es, e1, e2, e3, e4⟩
  · cases h with | lst h1 h2 => exact ⟨_, _, rfl, s _ _ h1, h2⟩
  · cases e2; exact ⟨a, xs, e1, e3, e4⟩
theorem BRep.tup {ds : List D} (h : BRep K w F H (.tup ds) v) (s : Same F H) : ∃ a xs, v = .ref a ∧ SqT K H a xs ∧ Reps K w F ds xs := by
  rcases h with h | ⟨_, _, _, _, h, _⟩
  · cases h with | tup h1 h2 => exact ⟨_, _, rfl, Same.tup s h1, h2⟩
  · cases h
theorem BRep.st {is : List Int} (h : BRep K w F H (.st is) v) (s : Same F H) : ∃ a S n, v = .ref a ∧ H a = some (SetO w.w a S n) ∧ (∀ i, S i = decide (i ∈ is)) ∧ n ≤ is.length := by
  rcases h with h | ⟨_, _, _, _, h, _⟩
  · cases h with | st h1 h2 h3 => exact ⟨_, _, _, rfl, s _ _ h1, h2, h3⟩
  · cases h
theorem BRep.scr {ns : List Int} (h : BRep K w F H (.scr ns) v) (s : Same F H) : ∃ a, v = .ref a ∧ SqL K H a (ns.map V.int) := by
  rcases h with h | ⟨_, _, _, _, h, _⟩
  · cases h with | scr h1 => exact ⟨_, rfl, s.seq h1⟩
  · cases h
end
section
variable {X : Cx} {W : WX}
theorem OpR.or {f : Value → Value → Sem Value} {r r' : R2} (h : OpR X f r) (h' : OpR X f r') : OpR X f (fun x y H Q => r x y H Q ∨ r' x y H Q) := by
  intro pins s σ H x y v u Q I rx ry q
  rcases q with q | q
  · exact h pins s σ H x y v u Q I rx ry q
  · exact h' pins s σ H x y v u Q I rx ry q

/-! ### arithmetic -/
def lim : Nat := 100000
theorem lim_le {n : Nat} (h : n ≤ lim) : n ≤ sizeLine := Nat.le_trans h (by decide)
theorem lim_lt {n : Nat} (h : n ≤ lim) : n < sizeLine := Nat.lt_of_le_of_lt h (by decide)
def addD : D → D → R D
  | .int i, .int j => .ok (.int (i + j))
  | .str a, .str b => if a.length + b.length ≤ lim then .ok (.str (a ++ b)) else .bad
  | .lst a, .lst b => if a.length + b.length ≤ lim then .ok (.lst (a ++ b)) else .bad
  | _, _ => .bad
def subD : D → D → R D
  | .int i, .int j => .ok (.int (i - j))
  | _, _ => .bad
def mulD : D → D → R D
  | .int i, .int j => if i.natAbs.log2 + j.natAbs.log2 < 1000000 then .ok (.int (i * j)) else .bad
  | .lst ds, .int k => if ds.length ≤ 1000 ∧ -1000 ≤ k ∧ k ≤ 1000 then .ok (.lst (List.replicate k.toNat ds).flatten) else .bad
  | _, _ => .bad
def fdivD : D → D → R D
  | .int i, .int j => if 0 < j ∧ j.natAbs.log2 < 9000 then .ok (.int (i / j)) else .bad
  | _, _ => .bad
def modD : D → D → R D
  | .int i, .int j => if 0 < j then .ok (.int (i % j)) else .bad
  | _, _ => .bad
def powD : D → D → R D
  | .int i, .int j => if 0 ≤ j ∧ j ≤ 1000000 ∧ i.natAbs < 2 ^ 64 then .ok (.int (i ^ j.toNat)) else .bad
  | _, _ => .bad
theorem ifW {K : PySem.W.Frag} {w : Wd} {mg : Str → Option Value} {α : Type} {c : Prop} [Decidable c] {a : R α} {F H : Hp} {k : α → Hp → Hp → Prop} {e : Value → Option Addr → Hp → Prop} (h : Want K w mg (if c then a else .bad) F H k e) : c ∧ Want K w mg a F H k e := by
  by_cases hc : c
  · rw [if_pos hc] at h; exact ⟨hc, h⟩
  · rw [if_neg hc] at h; exact h.elim
abbrev rAddX : R2 := fun x y H Q => (∃ i j, x = .int i ∧ y = .int j ∧ Q (.int (i + j)) H) ∨ (∃ i j, x = .str i ∧ y = .str j ∧ i.length + j.length ≤ sizeLine ∧ Q (.str (i ++ j)) H) ∨ rCat x y H Q
theorem or_add : OpR X (binaryOp .Add) rAddX := op_add.or (op_add_str.or op_cat)
theorem od_add : OpD X rAddX addD := by
  intro F H dx dy x y Q e s rx ry hw
  unfold addD at hw
  split at hw
  · cases rx.int; cases ry.int
    exact .inl ⟨_, _, rfl, rfl, hw F H (Grow.refl s) _ (.int _)⟩
  · cases rx.str; cases ry.str
    obtain ⟨hc, hw⟩ := ifW hw
    exact .inr (.inl ⟨_, _, rfl, rfl, lim_le hc, hw F H (Grow.refl s) _ (.str _)⟩)
  · obtain ⟨a, xs, rfl, ha, ra⟩ := rx.lst s
    obtain ⟨b, ys, rfl, hb, rb⟩ := ry.lst s
    obtain ⟨hc, hw⟩ := ifW hw
    refine .inr (.inr ⟨a, b, xs, ys, rfl, rfl, ha, hb, by rw [← ra.length, ← rb.length]; exact lim_le hc, fun p hp => ?_⟩)
    have g := (Grow.refl s).new (o := .lst (xs ++ ys)) hp
    exact hw _ _ g _ (.lst upd_same ((Reps.mono g.ff _ _ ra).append (Reps.mono g.ff _ _ rb)))
  · exact hw.elim
theorem or_int {f : Int → Int → Int} {C : Int → Int → Prop} {g : D → D → R D} (h : ∀ dx dy F H k e, Want X.K X.wd X.mg (g dx dy) F H k e → ∃ i j, dx = .int i ∧ dy = .int j ∧ C i j ∧ Want X.K X.wd X.mg (.ok (.int (f i j))) F H k e) : OpD X (rI C fun i j => .int (f i j)) g := by
  intro F H dx dy x y Q e s rx ry hw
  obtain ⟨i, j, rfl, rfl, hc, hw⟩ := h dx dy _ _ _ _ hw
  cases rx.int; cases ry.int
  exact ⟨i, j, rfl, rfl, hc, hw F H (Grow.refl s) _ (.int _)⟩
theorem od_sub : OpD X (rI0 fun i j => .int (i - j)) subD := by
  intro F H dx dy x y Q e s rx ry hw
  unfold subD at hw
  split at hw
  · cases rx.int; cases ry.int
    exact ⟨_, _, rfl, rfl, hw F H (Grow.refl s) _ (.int _)⟩
  · exact hw.elim
abbrev rMulX : R2 := fun x y H Q => (rI CMulW fun i j => .int (i * j)) x y H Q ∨ rRep x y H Q
theorem or_mul : OpR X (binaryOp .Mult) rMulX := op_mulW.or op_rep
theorem Reps.rep {K : PySem.W.Frag} {w : Wd} {F : Hp} {ds : List D} {xs : List V} (h : Reps K w F ds xs) : ∀ n : Nat, Reps K w F (List.replicate n ds).flatten (List.replicate n xs).flatten
  | 0 => .nil
  | n + 1 => by rw [List.replicate_succ, List.replicate_succ, List.flatten_cons, List.flatten_cons]; exact h.append (Reps.rep h n)
theorem od_mul : OpD X rMulX mulD := by
  intro F H dx dy x y Q e s rx ry hw
  unfold mulD at hw
  split at hw
  · rename_i i j
    obtain ⟨hc, hw⟩ := ifW hw
    cases rx.int; cases ry.int
    exact .inl ⟨i, j, rfl, rfl, hc, hw F H (Grow.refl s) _ (.int _)⟩
  · rename_i ds k
    obtain ⟨hc, hw⟩ := ifW hw
    obtain ⟨a, xs, rfl, ha, ra⟩ := rx.lst s
    cases ry.int
    have hm : xs.length * k.toNat ≤ 1000 * 1000 := Nat.mul_le_mul (by rw [← ra.length]; exact hc.1) (by omega)
    refine .inr ⟨a, k, xs, rfl, rfl, ha, by omega, by omega, Nat.le_trans hm (by decide), fun p hp => ?_⟩
    have g := (Grow.refl s).new (o := .lst (List.replicate k.toNat xs).flatten) hp
    exact hw _ _ g _ (.lst upd_same (Reps.mono g.ff _ _ (ra.rep _)))
  · exact hw.elim
theorem od_fdiv : OpD X (rI CDivW fun i j => .int (i / j)) fdivD := or_int fun dx dy F H k e hw => by
  unfold fdivD at hw
  split at hw
  · obtain ⟨hc, hw⟩ := ifW hw
    exact ⟨_, _, rfl, rfl, hc, hw⟩
  · exact hw.elim
theorem od_mod : OpD X (rI (fun _ j => 0 < j) fun i j => .int (i % j)) modD := or_int fun dx dy F H k e hw => by
  unfold modD at hw
  split at hw
  · obtain ⟨hc, hw⟩ := ifW hw
    exact ⟨_, _, rfl, rfl, hc, hw⟩
  · exact hw.elim
theorem od_pow : OpD X (rI CPow fun i j => .int (i ^ j.toNat)) powD := or_int fun dx dy F H k e hw => by
  unfold powD at hw
  split at hw
  · obtain ⟨hc, hw⟩ := ifW hw
    exact ⟨_, _, rfl, rfl, hc, hw⟩
  · exact hw.elim
def negD : D → R D
  | .int i => .ok (.int (-i))
  | _ => .bad
theorem re_neg {a : Expr} {fa : En → R D} {pos : Pos} (ha : RB X W a fa) : RE X W (.UnaryOp .USub a pos) (f1 negD fa) := fun B F0 F H σ ρ Q x hw => by
  refine ⟨_, pe_un un_neg (pe_W a), ?_⟩
  refine ha B F0 F H σ ρ _ x ((Want.bind hw).imp fun dx F1 H1 g1 k v rv => ?_)
  unfold negD at k
  split at k
  · cases rv.int
    exact ⟨_, rfl, k F1 H1 (Grow.refl g1.fh) _ (.int _)⟩
  · exact k.elim

/-! ### comparisons -/
def ltD : D → D → R D
  | .int i, .int j => .ok (.bl (decide (i < j)))
  | .str i, .str j => .ok (.bl (decide (i.cps.toList < j.cps.toList)))
  | _, _ => .bad
def leD : D → D → R D
  | .int i, .int j => .ok (.bl (decide (i ≤ j)))
  | _, _ => .bad
def gtD : D → D → R D
  | .int i, .int j => .ok (.bl (decide (j < i)))
  | _, _ => .bad
def geD : D → D → R D
  | .int i, .int j => .ok (.bl (decide (j ≤ i)))
  | _, _ => .bad
abbrev rLtX : R2 := fun x y H Q => rI0 (fun i j => .bl (decide (i < j))) x y H Q ∨ (∃ i j, x = .str i ∧ y = .str j ∧ Q (.bl (decide (i.cps.toList < j.cps.toList))) H)
theorem or_lt : OpR X (compareOp .Lt) rLtX := op_lt.or op_lt_str
theorem od_lt : OpD X rLtX ltD := by
  intro F H dx dy x y Q e s rx ry hw
  unfold ltD at hw
  split at hw
  · cases rx.int; cases ry.int
    exact .inl ⟨_, _, rfl, rfl, hw F H (Grow.refl s) _ (.bl _)⟩
  · cases rx.str; cases ry.str
    exact .inr ⟨_, _, rfl, rfl, hw F H (Grow.refl s) _ (.bl _)⟩
  · exact hw.elim
theorem od_le : OpD X (rI0 fun i j => .bl (decide (i ≤ j))) leD := by
  intro F H dx dy x y Q e s rx ry hw
  unfold leD at hw
  split at hw
  · cases rx.int; cases ry.int
    exact ⟨_, _, rfl, rfl, hw F H (Grow.refl s) _ (.bl _)⟩
  · exact hw.elim
theorem od_gt : OpD X (rI0 fun i j => .bl (decide (j < i))) gtD := by
  intro F H dx dy x y Q e s rx ry hw
  unfold gtD at hw
  split at hw
  · cases rx.int; cases ry.int
    exact ⟨_, _, rfl, rfl, hw F H (Grow.refl s) _ (.bl _)⟩
  · exact hw.elim
theorem od_ge : OpD X (rI0 fun i j => .bl (decide (j ≤ i))) geD := by
  intro F H dx dy x y Q e s rx ry hw
  unfold geD at hw
  split at hw
  · cases rx.int; cases ry.int
    exact ⟨_, _, rfl, rfl, hw F H (Grow.refl s) _ (.bl _)⟩
  · exact hw.elim
/-- is, of bools and of None -/
def isD : D → D → R D
  | .bl a, .bl b => .ok (.bl (decide (a = b)))
  | d, .non => .ok (.bl (match d with | .non => true | _ => false))
  | _, _ => .bad
abbrev rIsX : R2 := fun x y H Q => rIsB x y H Q ∨ (y = .non ∧ Q (.bl (decide (x = .non))) H)
theorem or_is : OpR X (compareOp .Is) rIsX := op_isBl.or op_isN
theorem od_is : OpD X rIsX isD := by
  intro F H dx dy x y Q e s rx ry hw
  unfold isD at hw
  split at hw
  · cases rx.bl; cases ry.bl
    exact .inl ⟨_, _, rfl, rfl, hw F H (Grow.refl s) _ (.bl _)⟩
  · cases ry.non
    refine .inr ⟨rfl, ?_⟩
    have k := hw F H (Grow.refl s) _ (.bl _)
    cases dx with
    | non => cases rx.non; exact k
    | bl b => cases rx.bl; exact k
    | int b => cases rx.int; exact k
    | str b => cases rx.str; exact k
    | lst b => obtain ⟨_, _, rfl, _⟩ := rx.lst s; exact k
    | tup b => obtain ⟨_, _, rfl, _⟩ := rx.tup s; exact k
    | st b => obtain ⟨_, _, _, rfl, _⟩ := rx.st s; exact k
    | scr b => obtain ⟨_, rfl, _⟩ := rx.scr s; exact k
    | exc _ _ _ =>
      rcases rx with h | ⟨_, _, _, _, h, _⟩
      · cases h; exact k
      · cases h
    | obj _ _ _ =>
      rcases rx with h | ⟨_, _, _, _, h, _⟩
      · cases h; exact k
      · cases h
    | dct _ _ =>
      rcases rx with h | ⟨_, _, _, _, h, _⟩
      · cases h; exact k
      · cases h
  · exact hw.elim
mutual
/-- data as the library's data -/
def D.py : D → Option PyData
  | .non => some .none
  | .bl b => some (.bool b)
  | .int i => some (.int i)
  | .str x => some (.str x)
  | .lst ds => (D.pys ds).map .list
  | .tup ds => (D.pys ds).map .tuple
  | .st _ => none
  | .scr _ => none
  | .exc _ _ _ => none
  | .obj _ _ _ => none
  | .dct _ _ => none
def D.pys : List D → Option (List PyData)
  | [] => some []
  | d :: ds => (D.py d).bind fun p => (D.pys ds).map (p :: ·)
end
mutual
theorem Rep.dp {K : PySem.W.Frag} {w : Wd} {F : Hp} : ∀ (d : D) (v : V) (p : PyData), Rep K w F d v → d.py = some p → Dp K F v p
  | .non, _, _, h, e => by cases h; cases e; exact .non
  | .bl b, _, _, h, e => by cases h; cases e; exact .bl b
  | .int b, _, _, h, e => by cases h; cases e; exact .int b
  | .str b, _, _, h, e => by cases h; cases e; exact .str b
  | .lst ds, _, _, h, e => by
    cases h with | lst h1 h2 =>
    simp only [D.py, Option.map_eq_some_iff] at e
    obtain ⟨ps, e1, rfl⟩ := e
    exact .lst (SqL.of h1) (Reps.dp ds _ ps h2 e1)
  | .tup ds, _, _, h, e => by
    cases h with | tup h1 h2 =>
    simp only [D.py, Option.map_eq_some_iff] at e
    obtain ⟨ps, e1, rfl⟩ := e
    exact .tup h1 (Reps.dp ds _ ps h2 e1)
  | .st _, _, _, _, e => by cases e
  | .scr _, _, _, _, e => by cases e
  | .exc _ _ _, _, _, _, e => by cases e
  | .obj _ _ _, _, _, _, e => by cases e
  | .dct _ _, _, _, _, e => by cases e
theorem Reps.dp {K : PySem.W.Frag} {w : Wd} {F : Hp} : ∀ (ds : List D) (vs : List V) (ps : List PyData), Reps K w F ds vs → D.pys ds = some ps → DpAll K F vs ps
  | [], _, _, h, e => by cases h; cases e; exact .nil
  | d :: ds, _, _, h, e => by
    cases h with | cons h1 h2 =>
    simp only [D.pys, Option.bind_eq_some_iff, Option.map_eq_some_iff] at e
    obtain ⟨p, e1, ps, e2, rfl⟩ := e
    exact .cons (Rep.dp d _ p h1 e1) (Reps.dp ds _ ps h2 e2)
end
theorem DpAll.mono' {K : PySem.W.Frag} {F H : Hp} (s : Same F H) : True := trivial
theorem BRep.dp {K : PySem.W.Frag} {w : Wd} {F H : Hp} {d : D} {v : V} {p : PyData} (h : BRep K w F H d v) (s : Same F H) (e : d.py = some p) : Dp K H v p := by
  rcases h with h | ⟨a, xs, ds, rfl, rfl, e3, e4⟩
  · exact Rep.dp _ _ _ (Rep.mono s _ _ h) e
  · simp only [D.py, Option.map_eq_some_iff] at e
    obtain ⟨ps, e1, rfl⟩ := e
    exact .lst (SqL.of e3) (Reps.dp _ _ _ (Reps.mono s _ _ e4) e1)
def deepB (d e : D) : Option Bool := match d.py, e.py with
    | some p, some q => if SeqAt.shaped p = true ∧ SeqAt.shaped q = true then some (PyData.eqv p q) else none
    | _, _ => none
/-- == : the answer for flat data at once, else by the library's data -/
def eqB (d e : D) : Bool × Option Bool := match d, e with
  | .int i, .int j => (true, some (decide (i = j)))
  | .bl i, .bl j => (true, some (decide (i = j)))
  | .str i, .str j => (true, some (decide (i = j)))
  | d, e => (false, deepB d e)
def eqD (d e : D) : R D := match (eqB d e).2 with
  | some b => .ok (.bl b)
  | none => .bad
def neD (d e : D) : R D := match (eqB d e).2 with
  | some b => .ok (.bl (!b))
  | none => .bad
theorem deepB_ok {d e : D} {b : Bool} (h : deepB d e = some b) : ∃ p q, d.py = some p ∧ e.py = some q ∧ SeqAt.shaped p = true ∧ SeqAt.shaped q = true ∧ PyData.eqv p q = b := by
  unfold deepB at h
  split at h
  · rename_i p q e1 e2
    split at h
    · rename_i hc; cases h; exact ⟨p, q, e1, e2, hc.1, hc.2, rfl⟩
    · cases h
  · cases h
theorem eqB_ok {K : PySem.W.Frag} {w : Wd} {F H : Hp} {x y : V} {d e : D} {b : Bool} (s : Same F H) (rx : BRep K w F H d x) (ry : BRep K w F H e y) (h : (eqB d e).2 = some b) :
    (scal x y = true ∧ decide (x = y) = b) ∨ ∃ p q, Dp K H x p ∧ Dp K H y q ∧ SeqAt.shaped p = true ∧ SeqAt.shaped q = true ∧ PyData.eqv p q = b := by
  unfold eqB at h
  split at h
  · cases h; cases rx.int; cases ry.int; exact .inl ⟨rfl, by simp⟩
  · cases h; cases rx.bl; cases ry.bl; exact .inl ⟨rfl, by simp⟩
  · cases h; cases rx.str; cases ry.str; exact .inl ⟨rfl, by simp⟩
  · obtain ⟨p, q, e1, e2, s1, s2, e3⟩ := deepB_ok h
    exact .inr ⟨p, q, rx.dp s e1, ry.dp s e2, s1, s2, e3⟩
abbrev rEqX (K : PySem.W.Frag) : R2 := fun x y H Q => rEq x y H Q ∨ rEqD K x y H Q
abbrev rNeX (K : PySem.W.Frag) : R2 := fun x y H Q => rNe x y H Q ∨ rNeD K x y H Q
theorem or_eq (hu : X.A.units + 64 < cLine) : OpR X (compareOp .Eq) (rEqX X.K) := op_eq.or (op_eqD hu)
theorem or_ne (hu : X.A.units + 64 < cLine) : OpR X (compareOp .NotEq) (rNeX X.K) := op_ne.or (op_neD hu)
theorem od_eq : OpD X (rEqX X.K) eqD := by
  intro F H dx dy x y Q e s rx ry hw
  unfold eqD at hw
  split at hw
  · rename_i b hb
    have k := hw F H (Grow.refl s) _ (.bl _)
    rcases eqB_ok s rx ry hb with ⟨h1, h2⟩ | ⟨p, q, e1, e2, s1, s2, e3⟩
    · exact .inl ⟨h1, by rw [h2]; exact k⟩
    · exact .inr ⟨p, q, e1, e2, s1, s2, by rw [e3]; exact k⟩
  · exact hw.elim
theorem od_ne : OpD X (rNeX X.K) neD := by
  intro F H dx dy x y Q e s rx ry hw
  unfold neD at hw
  split at hw
  · rename_i b hb
    have k := hw F H (Grow.refl s) _ (.bl _)
    rcases eqB_ok s rx ry hb with ⟨h1, h2⟩ | ⟨p, q, e1, e2, s1, s2, e3⟩
    · exact .inl ⟨h1, by rw [h2]; exact k⟩
    · exact .inr ⟨p, q, e1, e2, s1, s2, by rw [e3]; exact k⟩
  · exact hw.elim
end
end Pc
set_option maxHeartbeats 4000000
namespace Pc
open PySem L2
section
variable {X : Cx} {W : WX}

/-! ### x in a list, a tuple, a set, a text -/
def flatD : D → Bool
  | .non => true
  | .bl _ => true
  | .int _ => true
  | .str _ => true
  | _ => false
def toV : D → V
  | .bl b => .bl b
  | .int i => .int i
  | .str x => .str x
  | _ => .non
theorem Rep.flat {K : PySem.W.Frag} {w : Wd} {F : Hp} {d : D} {v : V} (h : Rep K w F d v) (f : flatD d = true) : v = toV d ∧ flatV v = true := by
  cases h <;> first | exact ⟨rfl, rfl⟩ | cases f
theorem BRep.flat {K : PySem.W.Frag} {w : Wd} {F H : Hp} {d : D} {v : V} (h : BRep K w F H d v) (f : flatD d = true) : v = toV d ∧ flatV v = true := by
  rcases h with h | ⟨_, _, _, _, rfl, _⟩
  · exact h.flat f
  · cases f
theorem Reps.flat {K : PySem.W.Frag} {w : Wd} {F : Hp} : ∀ {ds : List D} {vs : List V}, Reps K w F ds vs → ds.all flatD = true → vs = ds.map toV ∧ vs.all flatV = true
  | [], _, h, _ => by cases h; exact ⟨rfl, rfl⟩
  | d :: ds, _, h, f => by
    cases h with | cons h1 h2 =>
    rw [List.all_cons, Bool.and_eq_true] at f
    obtain ⟨e1, e2⟩ := h1.flat f.1
    obtain ⟨e3, e4⟩ := Reps.flat h2 f.2
    exact ⟨by rw [e1, e3, List.map_cons], by rw [List.all_cons, e2, e4]; rfl⟩
def inB (d : D) : D → Option Bool
  | .lst ds => if flatD d = true ∧ ds.all flatD = true then some (inV (toV d) (ds.map toV)) else none
  | .tup ds => if flatD d = true ∧ ds.all flatD = true then some (inV (toV d) (ds.map toV)) else none
  | .st is => match d with
    | .int k => some (decide (k ∈ is))
    | _ => none
  | .str z => match d with
    | .str y => some (!(Builtin.Str.occurrences z y 0 z.length 1).isEmpty)
    | _ => none
  | _ => none
def inD (d e : D) : R D := match inB d e with
  | some b => .ok (.bl b)
  | none => .bad
def ninD (d e : D) : R D := match inB d e with
  | some b => .ok (.bl (!b))
  | none => .bad
abbrev rInX (K : PySem.W.Frag) (w : World) : R2 := fun x y H Q => rIn K false x y H Q ∨ rSIn w x y H Q ∨ (∃ i j, x = .str i ∧ y = .str j ∧ Q (.bl (!(Builtin.Str.occurrences j i 0 j.length 1).isEmpty)) H)
abbrev rNinX (K : PySem.W.Frag) (w : World) : R2 := fun x y H Q => rIn K true x y H Q ∨ rSNotIn w x y H Q ∨ (∃ i j, x = .str i ∧ y = .str j ∧ Q (.bl (!(!(Builtin.Str.occurrences j i 0 j.length 1).isEmpty))) H)
theorem or_in : OpR X (compareOp .In) (rInX X.K X.w) := op_in_seq.or (or_sin.or op_in_str)
theorem or_nin : OpR X (compareOp .NotIn) (rNinX X.K X.w) := op_notIn_seq.or (or_snotin.or op_notin_str)
theorem inB_ok {K : PySem.W.Frag} {w : Wd} {F H : Hp} {dx dy : D} {x y : V} {b : Bool} (s : Same F H) (rx : BRep K w F H dx x) (ry : BRep K w F H dy y) (h : inB dx dy = some b) :
    (∃ p xs, y = .ref p ∧ (SqL K H p xs ∨ SqT K H p xs) ∧ flatV x = true ∧ xs.all flatV = true ∧ inV x xs = b) ∨ (∃ k a S n, x = V.int k ∧ y = V.ref a ∧ H a = some (SetO w.w a S n) ∧ S k = b) ∨
    (∃ i j, x = .str i ∧ y = .str j ∧ (!(Builtin.Str.occurrences j i 0 j.length 1).isEmpty) = b) := by
  unfold inB at h
  split at h
  · split at h
    · rename_i hc
      cases h
      obtain ⟨e1, e2⟩ := rx.flat hc.1
      obtain ⟨a, xs, rfl, ha, ra⟩ := ry.lst s
      obtain ⟨e3, e4⟩ := ra.flat hc.2
      exact .inl ⟨a, xs, rfl, .inl (SqL.of ha), e2, e4, by rw [e1, e3]⟩
    · cases h
  · split at h
    · rename_i hc
      cases h
      obtain ⟨e1, e2⟩ := rx.flat hc.1
      obtain ⟨a, xs, rfl, ha, ra⟩ := ry.tup s
      obtain ⟨e3, e4⟩ := ra.flat hc.2
      exact .inl ⟨a, xs, rfl, .inr ha, e2, e4, by rw [e1, e3]⟩
    · cases h
  · split at h
    · cases h
      cases rx.int
      obtain ⟨a, S, n, rfl, ha, hS, _⟩ := ry.st s
      exact .inr (.inl ⟨_, a, S, n, rfl, rfl, ha, hS _⟩)
    · cases h
  · split at h
    · cases h
      cases rx.str; cases ry.str
      exact .inr (.inr ⟨_, _, rfl, rfl, rfl⟩)
    · cases h
  · cases h
theorem od_in : OpD X (rInX X.K X.w) inD := by
  intro F H dx dy x y Q e s rx ry hw
  unfold inD at hw
  split at hw
  · rename_i b hb
    have k := hw F H (Grow.refl s) _ (.bl _)
    rcases inB_ok s rx ry hb with ⟨p, xs, e1, e2, e3, e4, e5⟩ | ⟨k', a, S, n, e1, e2, e3, e4⟩ | ⟨i, j, e1, e2, e3⟩
    · exact .inl ⟨p, xs, e1, e2, e3, e4, by subst e5; exact k⟩
    · exact .inr (.inl ⟨k', a, S, n, e1, e2, e3, by rw [e4]; exact k⟩)
    · exact .inr (.inr ⟨i, j, e1, e2, by rw [e3]; exact k⟩)
  · exact hw.elim
theorem od_nin : OpD X (rNinX X.K X.w) ninD := by
  intro F H dx dy x y Q e s rx ry hw
  unfold ninD at hw
  split at hw
  · rename_i b hb
    have k := hw F H (Grow.refl s) _ (.bl _)
    rcases inB_ok s rx ry hb with ⟨p, xs, e1, e2, e3, e4, e5⟩ | ⟨k', a, S, n, e1, e2, e3, e4⟩ | ⟨i, j, e1, e2, e3⟩
    · exact .inl ⟨p, xs, e1, e2, e3, e4, by subst e5; exact k⟩
    · exact .inr (.inl ⟨k', a, S, n, e1, e2, e3, by rw [e4]; exact k⟩)
    · exact .inr (.inr ⟨i, j, e1, e2, by rw [e3]; exact k⟩)
  · exact hw.elim

/-! ### and, or, not, a if t else b: tests and bools -/
def gAnd (f g : En → R Bool) : En → R Bool := fun ρ => (f ρ).bind fun b => if b = true then g ρ else .ok false
def gOr (f g : En → R Bool) : En → R Bool := fun ρ => (f ρ).bind fun b => if b = true then .ok true else g ρ
def gNot (f : En → R Bool) : En → R Bool := fun ρ => (f ρ).bind fun b => .ok (!b)
def fBl (f : En → R Bool) : En → R D := fun ρ => (f ρ).bind fun b => .ok (.bl b)
def fIf (c : En → R Bool) (f g : En → R D) : En → R D := fun ρ => (c ρ).bind fun b => if b = true then f ρ else g ρ
/-- a test of any shape in and, or -/
def RW (X : Cx) (W : WX) (e : Expr) (f : En → R Bool) : Prop := ∀ B F0 F H σ ρ (Q : Bool → Hp → Prop), EOk X.K X.wd B F0 F H σ ρ →
  Want X.K X.wd X.mg (f ρ) F H (fun b _ H' => Q b H') (fun C dd H' => W C dd σ H') → ∃ t, PW X e t ∧ t σ H Q
theorem RW.t {e : Expr} {f : En → R Bool} (h : RW X W e f) : RT X W e f := fun B F0 F H σ ρ Q x hw => by
  obtain ⟨t, h1, h2⟩ := h B F0 F H σ ρ Q x hw
  exact ⟨t, h1.pt, h2⟩
def tW (X : Cx) (e : Expr) : TT := fun σ H Q => ∃ t, PW X e t ∧ t σ H Q
theorem pw_W (e : Expr) : PW X e (tW X e) := ⟨fun wh pins s σ H Q I ⟨t, h, q⟩ => h.run wh pins s σ H Q I q⟩
variable {a b : Expr} {rest : List Expr} {pos : Pos} {fa fb : En → R Bool}
theorem rw_and1 (ha : RT X W a fa) : RW X W (.BoolOp .And [a] pos) fa := fun B F0 F H σ ρ Q x hw => ⟨_, pw_and1 (pt_W a), ha B F0 F H σ ρ Q x hw⟩
theorem rw_or1 (ha : RT X W a fa) : RW X W (.BoolOp .Or [a] pos) fa := fun B F0 F H σ ρ Q x hw => ⟨_, pw_or1 (pt_W a), ha B F0 F H σ ρ Q x hw⟩
theorem rw_and (ha : RT X W a fa) (hb : RW X W (.BoolOp .And (b :: rest) pos) fb) : RW X W (.BoolOp .And (a :: b :: rest) pos) (gAnd fa fb) := fun B F0 F H σ ρ Q x hw => by
  refine ⟨_, pw_and (pt_W a) (pw_W _), ?_⟩
  refine ha B F0 F H σ ρ _ x ((Want.bind hw).imp fun c F1 H1 g1 k => ?_)
  cases c with
  | true => exact hb B F0 F1 H1 σ ρ Q (x.grow g1) k
  | false => exact k F1 H1 (Grow.refl g1.fh)
theorem rw_or (ha : RT X W a fa) (hb : RW X W (.BoolOp .Or (b :: rest) pos) fb) : RW X W (.BoolOp .Or (a :: b :: rest) pos) (gOr fa fb) := fun B F0 F H σ ρ Q x hw => by
  refine ⟨_, pw_or (pt_W a) (pw_W _), ?_⟩
  refine ha B F0 F H σ ρ _ x ((Want.bind hw).imp fun c F1 H1 g1 k => ?_)
  cases c with
  | false => exact hb B F0 F1 H1 σ ρ Q (x.grow g1) k
  | true => exact k F1 H1 (Grow.refl g1.fh)
theorem rt_not (ha : RT X W a fa) : RT X W (.UnaryOp .Not a pos) (gNot fa) := fun B F0 F H σ ρ Q x hw => by
  refine ⟨_, pt_not (pt_W a), ?_⟩
  exact ha B F0 F H σ ρ _ x ((Want.bind hw).imp fun c F1 H1 g1 k => k F1 H1 (Grow.refl g1.fh))
/-- the same as values -/
def fAnd (f g : En → R D) : En → R D := fun ρ => (f ρ).bind fun d => (toB d).bind fun b => if b = true then g ρ else .ok (.bl false)
def fOr (f g : En → R D) : En → R D := fun ρ => (f ρ).bind fun d => (toB d).bind fun b => if b = true then .ok (.bl true) else g ρ
def notD : D → R D
  | .bl b => .ok (.bl (!b))
  | _ => .bad
variable {ga gb : En → R D}
theorem re_one {op : BoolOp} (ha : RE X W a ga) : RE X W (.BoolOp op [a] pos) ga := fun B F0 F H σ ρ Q x hw => ⟨_, pe_one (pe_W a), ha B F0 F H σ ρ Q x hw⟩
theorem toB_ok {K : PySem.W.Frag} {w : Wd} {mg : Str → Option Value} {α : Type} {d : D} {f : Bool → R α} {F H : Hp} {k : α → Hp → Hp → Prop} {e : Value → Option Addr → Hp → Prop} (h : Want K w mg ((toB d).bind f) F H k e) : ∃ b, d = .bl b ∧ Want K w mg (f b) F H k e := by
  cases d with
  | bl b => exact ⟨b, rfl, h⟩
  | _ => exact h.elim
theorem re_and (ha : RE X W a ga) (hb : RE X W (.BoolOp .And (b :: rest) pos) gb) : RE X W (.BoolOp .And (a :: b :: rest) pos) (fAnd ga gb) := fun B F0 F H σ ρ Q x hw => by
  refine ⟨_, pe_and (pe_W a) (pe_W _), ?_⟩
  refine ha B F0 F H σ ρ _ x ((Want.bind hw).imp fun d F1 H1 g1 k v rv => ?_)
  obtain ⟨c, rfl, k⟩ := toB_ok k
  cases rv
  refine ⟨c, rfl, ?_⟩
  cases c with
  | true => exact hb B F0 F1 H1 σ ρ Q (x.grow g1) k
  | false => exact k F1 H1 (Grow.refl g1.fh) _ (.bl _)
theorem re_or (ha : RE X W a ga) (hb : RE X W (.BoolOp .Or (b :: rest) pos) gb) : RE X W (.BoolOp .Or (a :: b :: rest) pos) (fOr ga gb) := fun B F0 F H σ ρ Q x hw => by
  refine ⟨_, pe_or (pe_W a) (pe_W _), ?_⟩
  refine ha B F0 F H σ ρ _ x ((Want.bind hw).imp fun d F1 H1 g1 k v rv => ?_)
  obtain ⟨c, rfl, k⟩ := toB_ok k
  cases rv
  refine ⟨c, rfl, ?_⟩
  cases c with
  | false => exact hb B F0 F1 H1 σ ρ Q (x.grow g1) k
  | true => exact k F1 H1 (Grow.refl g1.fh) _ (.bl _)
theorem re_not (ha : RE X W a ga) : RE X W (.UnaryOp .Not a pos) (f1 notD ga) := fun B F0 F H σ ρ Q x hw => by
  refine ⟨_, pe_not (pe_W a), ?_⟩
  refine ha B F0 F H σ ρ _ x ((Want.bind hw).imp fun d F1 H1 g1 k v rv => ?_)
  cases d with
  | bl c => cases rv; exact ⟨c, rfl, k F1 H1 (Grow.refl g1.fh) _ (.bl _)⟩
  | _ => exact k.elim
theorem re_ifExp {c : Expr} {fc : En → R Bool} (hc : RT X W c fc) (ha : RE X W a ga) (hb : RE X W b gb) : RE X W (.IfExp c a b pos) (fIf fc ga gb) := fun B F0 F H σ ρ Q x hw => by
  refine ⟨_, pe_ifExp (pt_W c) (pe_W a) (pe_W b), ?_⟩
  refine hc B F0 F H σ ρ _ x ((Want.bind hw).imp fun d F1 H1 g1 k => ?_)
  cases d with
  | true => exact ha B F0 F1 H1 σ ρ Q (x.grow g1) k
  | false => exact hb B F0 F1 H1 σ ρ Q (x.grow g1) k
/-- truth of a value -/
def truD : D → R Bool
  | .non => .ok false
  | .bl b => .ok b
  | .int i => .ok (i != 0)
  | .str x => if x.length ≤ lim then .ok ((x.length : Int) != 0) else .bad
  | .lst ds => .ok (!ds.isEmpty)
  | .tup ds => .ok (!ds.isEmpty)
  | _ => .bad
def fTru (f : En → R D) : En → R Bool := fun ρ => (f ρ).bind truD
theorem Reps.empty {K : PySem.W.Frag} {w : Wd} {F : Hp} {ds : List D} {vs : List V} (h : Reps K w F ds vs) : (!ds.isEmpty) = !vs.isEmpty := by
  cases h <;> rfl
theorem rt_tru {e : Expr} {f : En → R D} (h : RB X W e f) (he : ∀ whole, isTrue e X.env whole = (do let v ← whole; standAt e.pos; holding [v] (truthy v)) := by intro _; rfl) : RT X W e (fTru f) := fun B F0 F H σ ρ Q x hw => by
  refine ⟨_, pt_truth (pe_W e) he, ?_⟩
  refine h B F0 F H σ ρ _ x ((Want.bind hw).imp fun d F1 H1 g1 k v rv => ?_)
  cases d with
  | non => cases rv.non; exact ⟨_, rfl, k F1 H1 (Grow.refl g1.fh)⟩
  | bl b => cases rv.bl; exact ⟨_, rfl, k F1 H1 (Grow.refl g1.fh)⟩
  | int b => cases rv.int; exact ⟨_, rfl, k F1 H1 (Grow.refl g1.fh)⟩
  | str b =>
    cases rv.str
    obtain ⟨hc, k⟩ := ifW k
    exact ⟨_, ⟨lim_le hc, rfl⟩, k F1 H1 (Grow.refl g1.fh)⟩
  | lst ds =>
    obtain ⟨a, xs, rfl, ha, ra⟩ := rv.lst g1.fh
    exact ⟨_, .inl ⟨xs, SqL.of ha, ra.empty⟩, k F1 H1 (Grow.refl g1.fh)⟩
  | tup ds =>
    obtain ⟨a, xs, rfl, ha, ra⟩ := rv.tup g1.fh
    exact ⟨_, .inr (.inl ⟨xs, ha, ra.empty⟩), k F1 H1 (Grow.refl g1.fh)⟩
  | st _ => exact k.elim
  | scr _ => exact k.elim
  | exc _ _ _ => exact k.elim
  | obj _ _ _ => exact k.elim
  | dct _ _ => exact k.elim

/-! ### argument lists and displays -/
def gNil : En → R (List D) := fun _ => .ok []
def gCons (f : En → R D) (g : En → R (List D)) : En → R (List D) := fun ρ => (f ρ).bind fun d => (g ρ).bind fun ds => .ok (d :: ds)
variable {e : Expr} {es : List Expr} {f : En → R D} {fs : En → R (List D)}
theorem ra_nil : RA X W [] gNil := fun B F0 F H σ ρ Q x hw => ⟨_, pa_nil, hw F H (Grow.refl x.fh) _ .nil⟩
theorem ra_cons (h : RE X W e f) (hs : RA X W es fs) (hst : starEach (e :: es) X.env = (false, eval e X.env) :: starEach es X.env := by rfl) : RA X W (e :: es) (gCons f fs) := fun B F0 F H σ ρ Q x hw => by
  refine ⟨_, pa_cons (pe_W e) (pa_W es) hst, ?_⟩
  refine h B F0 F H σ ρ _ x ((Want.bind hw).imp fun d F1 H1 g1 k v rv => ?_)
  refine hs B F0 F1 H1 σ ρ _ (x.grow g1) ((Want.bind k).imp fun ds F2 H2 g2 k2 vs rvs => ?_)
  exact k2 F2 H2 (Grow.refl g2.fh) _ (.cons (Rep.mono g2.ff _ _ rv) rvs)
theorem rab_nil : RAB X W [] gNil := fun B F0 F H σ ρ Q x hw => ⟨_, pa_nil, hw F H (Grow.refl x.fh) _ .nil⟩
theorem BReps.grow {K : PySem.W.Frag} {w : Wd} {F H F1 H1 : Hp} : ∀ {ds : List D} {vs : List V}, BReps K w F H ds vs → Grow F H F1 H1 → BReps K w F1 H1 ds vs
  | _, _, .nil, _ => .nil
  | _, _, .cons h t, g => .cons (h.grow g) (BReps.grow t g)
theorem rab_cons (h : RB X W e f) (hs : RAB X W es fs) (hst : starEach (e :: es) X.env = (false, eval e X.env) :: starEach es X.env := by rfl) : RAB X W (e :: es) (gCons f fs) := fun B F0 F H σ ρ Q x hw => by
  refine ⟨_, pa_cons (pe_W e) (pa_W es) hst, ?_⟩
  refine h B F0 F H σ ρ _ x ((Want.bind hw).imp fun d F1 H1 g1 k v rv => ?_)
  refine hs B F0 F1 H1 σ ρ _ (x.grow g1) ((Want.bind k).imp fun ds F2 H2 g2 k2 vs rvs => ?_)
  exact k2 F2 H2 (Grow.refl g2.fh) _ (.cons (rv.grow g2) rvs)
def cap (n : Nat) (ds : List D) : R (List D) := if ds.length ≤ n then .ok ds else .bad
def fLst (fs : En → R (List D)) : En → R (List D) := fun ρ => (fs ρ).bind fun ds => cap lim ds
def fTup (fs : En → R (List D)) : En → R D := fun ρ => (fs ρ).bind fun ds => if ds.length ≤ lim then .ok (.tup ds) else .bad
theorem rf_lst (hs : RA X W es fs) : RF X W (.List es pos) (fLst fs) := fun B F0 F H σ ρ Q x hw => by
  refine ⟨_, pe_lst (pa_W es), ?_⟩
  refine hs B F0 F H σ ρ _ x ?_
  replace hw : Want X.K X.wd X.mg ((fs ρ).bind fun ds => cap lim ds) F H _ _ := hw
  cases hf : fs ρ with
  | ex y => rw [hf] at hw; exact hw
  | bad => rw [hf] at hw; exact hw
  | ok ds =>
    rw [hf] at hw
    intro F1 H1 g1 vs rvs
    obtain ⟨hc, hw⟩ := ifW hw
    exact ⟨by rw [← rvs.length]; exact lim_le hc, fun p hp => hw F1 _ (g1.lay hp) p vs (g1.hh.free hp) (g1.freeF hp) upd_same rvs⟩
theorem re_tup {x1} (hs : RA X W es fs) : RE X W (.Tuple es x1 pos) (fTup fs) := fun B F0 F H σ ρ Q x hw => by
  refine ⟨_, pe_tup (pa_W es), ?_⟩
  refine hs B F0 F H σ ρ _ x ((Want.bind hw).imp fun ds F1 H1 g1 k vs rvs => ?_)
  obtain ⟨hc, k⟩ := ifW k
  refine ⟨by rw [← rvs.length]; exact lim_le hc, fun p hp => ?_⟩
  have g := (Grow.refl g1.fh).new (o := .tup vs) hp
  exact k _ _ g _ (.tup (.inl (.inl upd_same)) (Reps.mono g.ff _ _ rvs))
end
end Pc
set_option maxHeartbeats 8000000
/-! set(l) of a list of ints, with the layer's own description of a set (the library has it of a tuple; its loop lemma serves both). -/
namespace Pc
open PySem PySem.Spec PyProof.Rows L2
section
variable {P : Program} {w : World} {A : Around} {E : Value → Shared → Prop} {s : Shared}
abbrev e0 (w : World) : Obj := { cls := .type "set", dict := none, data := .set #[] 0 (.fresh 0 0 (!w.params.followText "set-order")) }
theorem set_of_list {l : Addr} {items : Array Value} (ns : List Int) {Q : Value → Shared → Prop} (hh : A.handled = none) (hl : s.heap.IsList l items) (hit : IntsAre items.toList ns) (hb : ns.length + 1 < scanBound)
    (h : ∀ (h' : Heap) (tk c : Nat), SetR w h' s.heap.objs.size (fun j => decide (j ∈ ns)) c → c ≤ ns.length → (∀ b o, s.heap.get? b = some o → h'.get? b = some o) → Q (.ref s.heap.objs.size) { s with heap := h', toks := tk }) :
    wpAny (model P w) A (call (.type "set") [.ref l]) Q E s := by
  have hn : items.size = ns.length := by
    have q := IntsAre.length hit
    rwa [Array.length_toList] at q
  obtain ⟨c, tl, hm⟩ := F.called_set.mro
  have g1 := F.called_set.made
  have g2 := F.called_set.sub
  refine wpAny_call (codeAny_of_tree ?_)
  show wpAny _ _ (callAny (.type "set") _) _ _ _
  refine wpAny_pure ⟨Code.quiet_builtin _ (by decide +kernel), codeAny_builtin F.entry_type_call ?_⟩
  rw [Around.under_plain (weight_type_call_type "set" [.ref l] []) rfl]
  have g3 := F.called_set.notType
  have g4 := F.called_set.canCreate
  have g5 := F.typeCall_set_1 (.ref l)
  repeat (any_goals (first | assumption | wp_step))
  refine codeAny_mono (code_set_led1 (.ref l) (E := E) (Q₁ := fun x t => x = .ref s.heap.objs.size ∧ t = { s with heap := s.heap.push (e0 w) }) ⟨rfl, rfl⟩) fun r t hr => ?_
  cases r with
  | error e => exact hr
  | ok fl =>
    cases fl with
    | next => exact hr.elim
    | brk => exact hr.elim
    | cont => exact hr.elim
    | ret x =>
      obtain ⟨rfl, rfl⟩ := hr
      have o1 : (s.heap.push (e0 w)).get? s.heap.objs.size = some (e0 w) := Heap.get?_push_size _ rfl
      have o2 : Shared.TypeIs { s with heap := s.heap.push (e0 w) } (.ref s.heap.objs.size) "set" := ⟨_, o1, rfl⟩
      have o3 := F.called_set.init.lookup
      have o4 := F.called_set.init.bind (.ref s.heap.objs.size)
      repeat (any_goals (first | assumption | wp_step))
      refine codeAny_mono (codeAny_call_builtin (R := wants (fun r t => r = .none ∧ ∃ h' tk c, t = { s with heap := h', toks := tk } ∧ SetR w h' s.heap.objs.size (fun j => decide (j ∈ ns)) c ∧ c ≤ ns.length ∧
          (∀ b o, s.heap.get? b = some o → h'.get? b = some o)) E) F.called_set.init.plain F.entry_set_init (check_set_init_1 o2 ?_)) fun r t hr => ?_
      · obtain ⟨⟨lc, ld, lx, ls⟩, hol, hcl, nl, hdl⟩ := hl
        dsimp only at hcl hdl
        subst hcl; subst hdl
        have hol' : (s.heap.push (e0 w)).get? l = some { cls := .type "list", dict := ld, data := .seq items nl, slots := ls } := Heap.get?_push_of_some _ hol
        have k1 := F.sub_list_set
        have k2 := F.sub_list_frozenset
        have k3 : (Value.type "list" == Value.type "dict") = false := by decide
        have hL : (s.heap.push (e0 w)).IsList l items := ⟨_, hol', rfl, nl, rfl⟩
        unfold Builtin.«set.__init__» noKeywords Builtin.Frozenset.updateFrom
        generalize hPI : pyIter = PI
        wp_walk
        subst hPI
        refine wpAny_pyIter_list hL ?_
        refine wpAny_bind (wpAny_runValue ?_)
        have lS : l < s.heap.objs.size := Heap.lt_size hol
        have h3 : A.in1.in1.in1.handled = none := by simp [hh]
        have z1 : (s.heap.push (e0 w)).objs.size = s.heap.objs.size + 1 := Heap.size_push ..
        have nI : l ≠ (s.heap.push (e0 w)).objs.size := Nat.ne_of_lt (by rw [z1]; exact Nat.lt_succ_of_lt lS)
        have nS : s.heap.objs.size ∉ [(s.heap.push (e0 w)).objs.size, l] := by
          rw [z1]
          simp only [List.mem_cons, List.not_mem_nil, or_false, not_or]
          exact ⟨Nat.ne_of_lt (Nat.lt_succ_self _), Nat.ne_of_gt lS⟩
        have hv : ∀ (i : Nat) (v : Value), items[i]? = some v → ∃ k t, ns[i]? = some k ∧ v = .int k t := fun i v hv => by
          have hi : i < ns.length := by rw [← hn]; exact (Array.getElem?_eq_some_iff.mp hv).1
          obtain ⟨t, e⟩ := PyProof.Rows.IntsAre.int_at hit i v (by rw [Array.getElem?_toList]; exact hv)
          exact ⟨ns[i], t, List.getElem?_eq_getElem hi, by rw [e, List.getD_eq_getElem?_getD, List.getElem?_eq_getElem hi]; rfl⟩
        refine set_update_ints ((Walks.list h3 _ l nI items).toS) s.heap.objs.size nS ns hn hb hv (items.size - 0) 0 _ rfl (Nat.zero_le _) ⟨⟨_, Heap.get?_push_size _ rfl, rfl, rfl⟩, (hL.push _)⟩ ⟨0, Nat.le_refl 0, setR_new_at (Heap.get?_push_of_some _ o1)⟩ ?_
        intro t c mv hc hS
        obtain ⟨h', g', d', tk', os'⟩ := t
        obtain rfl : g' = s.gens := mv.gens
        obtain rfl : d' = s.drawn := mv.drawn
        obtain rfl : os' = s.os := mv.os
        show wpAny _ _ _ _ _ _
        refine wpAny_pure ?_
        show wpAny _ _ (ret Value.none) _ _ _
        rw [hn] at hc
        refine wpAny_pure ⟨rfl, h', tk', c, rfl, hS, hc, fun b o e => ?_⟩
        have hb0 : b < s.heap.objs.size := Heap.lt_size e
        refine mv.heap b o ?_ (Heap.get?_push_of_some _ (Heap.get?_push_of_some _ e))
        simp only [List.mem_cons, List.not_mem_nil, or_false, not_or]
        rw [z1]
        exact ⟨Nat.ne_of_lt hb0, Nat.ne_of_lt (Nat.lt_succ_of_lt hb0)⟩
      · cases r with
        | error e => exact hr
        | ok fl =>
          cases fl with
          | next => exact hr.elim
          | brk => exact hr.elim
          | cont => exact hr.elim
          | ret r =>
            obtain ⟨rfl, h', tk, c', rfl, hS, hc, hk⟩ := hr
            repeat (any_goals (first | assumption | wp_step))
            exact h _ _ _ hS hc hk
end
end Pc
set_option maxHeartbeats 4000000
namespace Pc
open PySem L2
section
variable {X : Cx} {W : WX}

/-! ### a[b], a[lo:hi], a[::-1] -/
def ixD : D → D → R D
  | .lst ds, .int i => match atI ds i with | some d => .ok d | none => .bad
  | .tup ds, .int i => match atI ds i with | some d => .ok d | none => .bad
  | .scr ns, .int i => match atI ns i with | some d => .ok (.int d) | none => .bad
  | .str z, .int i => if z.length ≤ lim then (match atI z.cps.toList i with | some c => .ok (.str ⟨#[c]⟩) | none => .bad) else .bad
  | _, _ => .bad
theorem Reps.atI {K : PySem.W.Frag} {w : Wd} {F : Hp} {ds : List D} {vs : List V} {i : Int} {d : D} (r : Reps K w F ds vs) (h : atI ds i = some d) : ∃ v, L2.atI vs i = some v ∧ Rep K w F d v := by
  unfold L2.atI at h ⊢
  rw [← r.length]
  cases e : ixN ds.length i with
  | none => rw [e] at h; cases h
  | some j =>
    rw [e] at h
    exact r.get (i := j) h
theorem atI_map {α β : Type} (f : α → β) (xs : List α) (i : Int) : atI (xs.map f) i = (atI xs i).map f := by
  unfold atI
  rw [List.length_map]
  cases ixN xs.length i with
  | none => rfl
  | some j => simp
variable {a b e : Expr} {pos : Pos} {fa fb f : En → R D}
theorem re_ix (ha : RB X W a fa) (hb : RB X W b fb) (hs : PlainIx b) : RE X W (.Subscript a b pos) (f2 ixD fa fb) := fun B F0 F H σ ρ Q x hw => by
  refine ⟨_, pe_ix ix_seq (pe_W a) (pe_W b) hs, ?_⟩
  refine ha B F0 F H σ ρ _ x ((Want.bind hw).imp fun dx F1 H1 g1 k v rv => ?_)
  refine hb B F0 F1 H1 σ ρ _ (x.grow g1) ((Want.bind k).imp fun dy F2 H2 g2 k2 u ru => ?_)
  have rx := rv.grow g2
  have s := g2.fh
  unfold ixD at k2
  split at k2
  · cases ru.int
    split at k2
    · rename_i d hd
      obtain ⟨p, xs, rfl, hp, r⟩ := rx.lst s
      obtain ⟨u, e1, e2⟩ := r.atI hd
      exact .inl ⟨p, xs, _, u, rfl, rfl, SqL.of hp, e1, k2 F2 H2 (Grow.refl s) _ e2⟩
    · exact k2.elim
  · cases ru.int
    split at k2
    · rename_i d hd
      rcases rx with h | ⟨q, ys, es, e1, e2, e3, e4⟩
      · cases h with | tup h1 h2 =>
        obtain ⟨u, e1, e2⟩ := h2.atI hd
        exact .inr (.inl ⟨_, _, _, u, rfl, rfl, Same.tup s h1, e1, k2 F2 H2 (Grow.refl s) _ e2⟩)
      · cases e2
    · exact k2.elim
  · cases ru.int
    split at k2
    · rename_i d hd
      obtain ⟨p, rfl, hp⟩ := rx.scr s
      exact .inl ⟨p, _, _, _, rfl, rfl, hp, by rw [atI_map, hd]; rfl, k2 F2 H2 (Grow.refl s) _ (.int _)⟩
    · exact k2.elim
  · cases ru.int; cases rx.str
    obtain ⟨hc, k2⟩ := ifW k2
    split at k2
    · rename_i c hd
      exact .inr (.inr ⟨_, _, _, rfl, rfl, lim_le hc, hd, k2 F2 H2 (Grow.refl s) _ (.str _)⟩)
    · exact k2.elim
  · exact k2.elim

/-- a slice's bound -/
def RO (X : Cx) (W : WX) (e : Option Expr) (f : En → R (Option Int)) : Prop := ∀ B F0 F H σ ρ (Q : Option Int → Hp → Prop), EOk X.K X.wd B F0 F H σ ρ →
  Want X.K X.wd X.mg (f ρ) F H (fun o _ H' => Q o H') (fun C dd H' => W C dd σ H') → ∃ t, PO X e t ∧ t σ H Q
def gNo : En → R (Option Int) := fun _ => .ok none
def gSo (f : En → R D) : En → R (Option Int) := fun ρ => (f ρ).bind fun d => match d with | .int i => .ok (some i) | _ => .bad
theorem ro_none : RO X W none gNo := fun B F0 F H σ ρ Q x hw => ⟨_, po_none, hw F H (Grow.refl x.fh)⟩
theorem ro_some (h : RB X W e f) : RO X W (some e) (gSo f) := fun B F0 F H σ ρ Q x hw => by
  refine ⟨_, po_some (pe_W e), ?_⟩
  refine h B F0 F H σ ρ _ x ((Want.bind hw).imp fun d F1 H1 g1 k v rv => ?_)
  cases d with
  | int i => cases rv.int; exact ⟨i, rfl, k F1 H1 (Grow.refl g1.fh)⟩
  | _ => exact k.elim
def tO (X : Cx) (e : Option Expr) : TO := fun σ H Q => ∃ t, PO X e t ∧ t σ H Q
theorem po_W (e : Option Expr) : PO X e (tO X e) := ⟨fun pins s σ H Q I ⟨t, h, q⟩ => h.run pins s σ H Q I q⟩
/-- the items of a slice -/
def cutL {α : Type} (xs : List α) (lo hi : Option Int) : List α := (xs.drop (HT.sIx xs.length 0 lo)).take (HT.sIx xs.length xs.length hi - HT.sIx xs.length 0 lo)
theorem cutL_map {α β : Type} (f : α → β) (xs : List α) (lo hi : Option Int) : cutL (xs.map f) lo hi = (cutL xs lo hi).map f := by
  unfold cutL
  rw [List.length_map, List.map_take, List.map_drop]
def slL (d : D) (lo hi : Option Int) : R (List D) := match d with
  | .lst ds => .ok (cutL ds lo hi)
  | .scr ns => .ok ((cutL ns lo hi).map .int)
  | _ => .bad
def fSl (f : En → R D) (l h : En → R (Option Int)) : En → R (List D) := fun ρ => (f ρ).bind fun d => (l ρ).bind fun lo => (h ρ).bind fun hi => slL d lo hi
variable {lo hi : Option Expr} {p2 : Pos} {fl fh : En → R (Option Int)}
theorem rf_sl (ha : RB X W a fa) (hl : RO X W lo fl) (hh : RO X W hi fh) : RF X W (.Subscript a (.Slice lo hi none p2) pos) (fSl fa fl fh) := fun B F0 F H σ ρ Q x hw => by
  refine ⟨_, pe_slice sl_list (pe_W a) (po_W lo) (po_W hi), ?_⟩
  refine ha B F0 F H σ ρ _ x ?_
  replace hw : Want X.K X.wd X.mg ((fa ρ).bind fun d => (fl ρ).bind fun lo => (fh ρ).bind fun hi => slL d lo hi) F H _ _ := hw
  refine Want.imp (Want.bind hw) fun d F1 H1 g1 k v rv => ?_
  refine hl B F0 F1 H1 σ ρ _ (x.grow g1) ((Want.bind k).imp fun l F2 H2 g2 k2 => ?_)
  refine hh B F0 F2 H2 σ ρ _ ((x.grow g1).grow g2) ((Want.bind k2).imp fun h F3 H3 g3 k3 => ?_)
  have rx := (rv.grow g2).grow g3
  have s := g3.fh
  unfold slL at k3
  have g := (g1.trans g2).trans g3
  split at k3
  · rename_i ds
    obtain ⟨q, ys, rfl, e3, e4⟩ := rx.lst s
    refine ⟨_, _, rfl, SqL.of e3, fun p hp => ?_⟩
    refine k3 F3 _ ((Grow.refl s).lay hp) p _ (g.hh.free hp) (s.free hp) upd_same ?_
    unfold cutL cutV
    rw [← e4.length]
    exact (e4.drop _).take _
  · rename_i ns
    obtain ⟨q, rfl, hq⟩ := rx.scr s
    refine ⟨_, _, rfl, hq, fun p hp => ?_⟩
    refine k3 F3 _ ((Grow.refl s).lay hp) p _ (g.hh.free hp) (s.free hp) upd_same ?_
    show Reps _ _ _ _ (cutL (ns.map V.int) l h)
    rw [cutL_map]
    exact Reps.ints _
  · exact k3.elim
def revL (d : D) : R (List D) := match d with
  | .lst ds => .ok ds.reverse
  | _ => .bad
def fRev (f : En → R D) : En → R (List D) := fun ρ => (f ρ).bind revL
theorem rf_rev {k : Nat} {p1 p2 p3 : Pos} (ha : RB X W a fa) : RF X W (.Subscript a (.Slice none none (some (.UnaryOp .USub (.Constant (.int 1) k p1) p2)) p3) pos) (fRev fa) := fun B F0 F H σ ρ Q x hw => by
  refine ⟨_, pe_revL (pe_W a), ?_⟩
  refine ha B F0 F H σ ρ _ x ((Want.bind (r := fa ρ) (f := revL) hw).imp fun d F1 H1 g1 k v rv => ?_)
  have s := g1.fh
  unfold revL at k
  split at k
  · rename_i ds
    obtain ⟨q, ys, rfl, e3, e4⟩ := rv.lst s
    exact ⟨_, _, rfl, SqL.of e3, fun p hp => k F1 _ ((Grow.refl s).lay hp) p _ (g1.hh.free hp) (s.free hp) upd_same e4.reverse⟩
  · exact k.elim
end
end Pc
set_option maxHeartbeats 4000000
namespace Pc
open PySem L2

/-! ### what is walked -/
/-- J yields the data ds, one after another, in every heap that has grown from F, H so that F stands -/
def ItD (K : PySem.W.Frag) (w : Wd) (J : It) (F0 : Hp) (ds : List D) : Prop := ∀ (i : Nat) (F H : Hp), Same F0 F → Same F H →
  (∀ d, ds[i]? = some d → J.go i H ∧ ∀ x H', J.yld i H x H' → ∃ F', Grow F H F' H' ∧ Rep K w F' d x) ∧ (i = ds.length → J.stop i H)
def RI (X : Cx) (W : WX) (tg e : Expr) (f : En → R (List D)) : Prop := ∀ B F0 F H σ ρ (Q : It → Hp → Prop), EOk X.K X.wd B F0 F H σ ρ →
  Want X.K X.wd X.mg (f ρ) F H (fun ds F' H' => ∀ J, ItD X.K X.wd J F' ds → Q J H') (fun C dd H' => W C dd σ H') → WI X tg e σ H Q
section
variable {X : Cx} {W : WX} {tg e a b : Expr} {pos p : Pos} {f fa fb : En → R D} {fs : En → R (List D)}
theorem itd_list {K : PySem.W.Frag} {w : Wd} {F : Hp} {l : Addr} {xs : List V} {ds : List D} (h : F l = some (.lst xs)) (r : Reps K w F ds xs) : ItD K w (Itl K l) F ds := fun i F' H s1 s2 => by
  have hl : SqL K H l xs := SqL.of (s2 _ _ (s1 _ _ h))
  refine ⟨fun d hd => ?_, fun hi => ⟨xs, hl, by rw [← r.length, hi]; exact Nat.le_refl _⟩⟩
  obtain ⟨v, e1, e2⟩ := r.get hd
  refine ⟨⟨xs, v, hl, e1⟩, fun x H' y => ?_⟩
  obtain ⟨rfl, y⟩ := y
  have := y xs hl
  rw [e1] at this
  cases this
  exact ⟨F', Grow.refl s2, Rep.mono s1 _ _ e2⟩
theorem itd_scr {K : PySem.W.Frag} {w : Wd} {F : Hp} {l : Addr} {ns : List Int} (h : SqL K F l (ns.map V.int)) : ItD K w (Itl K l) F (ns.map .int) := fun i F' H s1 s2 => by
  have hl : SqL K H l (ns.map V.int) := (s1.trans s2).seq h
  refine ⟨fun d hd => ?_, fun hi => ⟨_, hl, by rw [hi]; simp⟩⟩
  rw [List.getElem?_map, Option.map_eq_some_iff] at hd
  obtain ⟨n, e1, rfl⟩ := hd
  have e2 : (ns.map V.int)[i]? = some (.int n) := by rw [List.getElem?_map, e1]; rfl
  refine ⟨⟨_, _, hl, e2⟩, fun x H' y => ?_⟩
  obtain ⟨rfl, y⟩ := y
  have := y _ hl
  rw [e2] at this
  cases this
  exact ⟨F', Grow.refl s2, .int _⟩
theorem itd_tup {K : PySem.W.Frag} {w : Wd} {F : Hp} {l : Addr} {xs : List V} {ds : List D} (h : SqT K F l xs) (r : Reps K w F ds xs) : ItD K w (Itt K l) F ds := fun i F' H s1 s2 => by
  have hl : SqT K H l xs := Same.tup (s1.trans s2) h
  refine ⟨fun d hd => ?_, fun hi => ⟨xs, hl, by rw [← r.length, hi]; exact Nat.le_refl _⟩⟩
  obtain ⟨v, e1, e2⟩ := r.get hd
  refine ⟨⟨xs, v, hl, e1⟩, fun x H' y => ?_⟩
  obtain ⟨rfl, y⟩ := y
  have := y xs hl
  rw [e1] at this
  cases this
  exact ⟨F', Grow.refl s2, Rep.mono s1 _ _ e2⟩
def signs (z : Str) : List D := z.cps.toList.map fun c => .str ⟨#[c]⟩
theorem itd_str {K : PySem.W.Frag} {w : Wd} {F : Hp} (z : Str) : ItD K w (Its z) F (signs z) := fun i F' H s1 s2 => by
  unfold signs
  refine ⟨fun d hd => ?_, fun hi => by rw [hi]; show z.cps.size ≤ _; simp⟩
  rw [List.getElem?_map, Option.map_eq_some_iff] at hd
  obtain ⟨c, e1, rfl⟩ := hd
  rw [Array.getElem?_toList] at e1
  refine ⟨(Array.getElem?_eq_some_iff.mp e1).1, fun x H' y => ?_⟩
  obtain ⟨rfl, c', y, rfl⟩ := y
  rw [e1] at y
  cases y
  exact ⟨F', Grow.refl s2, .str _⟩
def itD : D → R (List D)
  | .lst ds => .ok ds
  | .tup ds => .ok ds
  | .scr ns => .ok (ns.map .int)
  | .str z => .ok (signs z)
  | _ => .bad
def gIt (f : En → R D) : En → R (List D) := fun ρ => (f ρ).bind itD
/-- any expression, walked -/
theorem ri_e (h : RE X W e f) : RI X W tg e (gIt f) := fun B F0 F H σ ρ Q x hw => by
  replace hw : Want X.K X.wd X.mg ((f ρ).bind itD) F H _ _ := hw
  cases hf : f ρ with
  | bad => rw [hf] at hw; exact hw.elim
  | ex y => rw [hf] at hw; exact ⟨_, pi_list (pe_W e), h B F0 F H σ ρ _ x (by rw [hf]; exact hw)⟩
  | ok d =>
    rw [hf] at hw
    have hw : Want X.K X.wd X.mg (itD d) F H _ _ := hw
    cases d with
    | lst ds => exact ⟨_, pi_list (pe_W e), h B F0 F H σ ρ _ x (by
        rw [hf]; intro F' H' g v r
        cases r with | lst h1 h2 => exact ⟨_, rfl, ⟨_, SqL.of (g.fh _ _ h1)⟩, hw F' H' g _ (itd_list h1 h2)⟩)⟩
    | scr ns => exact ⟨_, pi_list (pe_W e), h B F0 F H σ ρ _ x (by
        rw [hf]; intro F' H' g v r
        cases r with | scr h1 => exact ⟨_, rfl, ⟨_, g.fh.seq h1⟩, hw F' H' g _ (itd_scr h1)⟩)⟩
    | tup ds => exact ⟨_, pi_tup (pe_W e), h B F0 F H σ ρ _ x (by
        rw [hf]; intro F' H' g v r
        cases r with | tup h1 h2 => exact ⟨_, rfl, ⟨_, Same.tup g.fh h1⟩, hw F' H' g _ (itd_tup h1 h2)⟩)⟩
    | str z => exact ⟨_, pi_str (pe_W e), h B F0 F H σ ρ _ x (by
        rw [hf]; intro F' H' g v r
        cases r; exact ⟨z, rfl, hw F' H' g _ (itd_str z)⟩)⟩
    | _ => exact hw.elim
theorem itd_range {K : PySem.W.Frag} {w : Wd} {F : Hp} (lo : Int) (n : Nat) : ItD K w (Itr lo n) F ((List.range n).map fun (i : Nat) => D.int (lo + (i : Int))) := fun i F' H s1 s2 => by
  refine ⟨fun d hd => ?_, fun hi => by rw [hi]; show n ≤ _; simp⟩
  rw [List.getElem?_map, Option.map_eq_some_iff] at hd
  obtain ⟨c, e1, rfl⟩ := hd
  obtain ⟨h1, e1⟩ := List.getElem?_eq_some_iff.mp e1
  rw [List.getElem_range] at e1
  subst e1
  refine ⟨by rw [List.length_range] at h1; exact h1, fun x H' y => ?_⟩
  obtain ⟨rfl, rfl⟩ := y
  exact ⟨F', Grow.refl s2, .int _⟩
def rangeL (lo hi : Int) : List D := (List.range (hi - lo).toNat).map fun (i : Nat) => D.int (lo + (i : Int))
def rng1 : List D → R (List D)
  | [.int j] => if -(2 ^ 62) ≤ j ∧ j < 2 ^ 62 then .ok (rangeL 0 j) else .bad
  | _ => .bad
def rng2 : List D → R (List D)
  | [.int i, .int j] => if -(2 ^ 62) ≤ i ∧ i < 2 ^ 62 ∧ -(2 ^ 62) ≤ j ∧ j < 2 ^ 62 then .ok (rangeL i j) else .bad
  | _ => .bad
def gR1 (fs : En → R (List D)) : En → R (List D) := fun ρ => (fs ρ).bind rng1
def gR2 (fs : En → R (List D)) : En → R (List D) := fun ρ => (fs ρ).bind rng2
theorem ri_range1 (hg : Gl X "range") (hm : X.mg "range" = none) (ha : RA X W [a] fs) (hs : starEach [a] X.env = [(false, eval a X.env)] := by rfl) : RI X W tg (.Call (.Name "range" p) [a] [] pos) (gR1 fs) := fun B F0 F H σ ρ Q x hw => by
  refine ⟨_, pi_range1 hg hm (pa_W _) hs, ?_⟩
  refine ha B F0 F H σ ρ _ x ((Want.bind (r := fs ρ) (f := rng1) hw).imp fun ds F1 H1 g1 k vs r => ?_)
  unfold rng1 at k
  split at k
  · obtain ⟨hc, k⟩ := ifW k
    cases r with | cons r1 r2 =>
    cases r1; cases r2
    refine ⟨_, rfl, hc.1, hc.2, k F1 H1 (Grow.refl g1.fh) _ ?_⟩
    unfold rangeL
    rw [Int.sub_zero]
    exact itd_range _ _
  · exact k.elim
theorem ri_range2 (hg : Gl X "range") (hm : X.mg "range" = none) (ha : RA X W [a, b] fs) (hs : starEach [a, b] X.env = [(false, eval a X.env), (false, eval b X.env)] := by rfl) (hs2 : starEach [b] X.env = [(false, eval b X.env)] := by rfl) :
    RI X W tg (.Call (.Name "range" p) [a, b] [] pos) (gR2 fs) := fun B F0 F H σ ρ Q x hw => by
  refine ⟨_, pi_range2 hg hm (pa_W _) hs hs2, ?_⟩
  refine ha B F0 F H σ ρ _ x ((Want.bind (r := fs ρ) (f := rng2) hw).imp fun ds F1 H1 g1 k vs r => ?_)
  unfold rng2 at k
  split at k
  · obtain ⟨hc, k⟩ := ifW k
    cases r with | cons r1 r2 =>
    cases r2 with | cons r2 r3 =>
    cases r1; cases r2; cases r3
    exact ⟨_, _, rfl, hc, k F1 H1 (Grow.refl g1.fh) _ (itd_range _ _)⟩
  · exact k.elim
def revI : List D → R (List D)
  | [.lst ds] => .ok ds.reverse
  | _ => .bad
def gRv (fs : En → R (List D)) : En → R (List D) := fun ρ => (fs ρ).bind revI
theorem itd_rev {K : PySem.W.Frag} {w : Wd} {F : Hp} {l : Addr} {xs : List V} {ds : List D} (h : F l = some (.lst xs)) (r : Reps K w F ds xs) : ItD K w (Itv K l xs.length) F ds.reverse := fun i F' H s1 s2 => by
  have hl : SqL K H l xs := SqL.of (s2 _ _ (s1 _ _ h))
  refine ⟨fun d hd => ?_, fun hi => by rw [hi]; show xs.length ≤ _; rw [List.length_reverse, r.length]; exact Nat.le_refl _⟩
  have hi : i < ds.length := by
    have := (List.getElem?_eq_some_iff.mp hd).1
    simpa using this
  rw [List.getElem?_reverse hi] at hd
  obtain ⟨v, e1, e2⟩ := r.get hd
  rw [r.length] at e1 hi
  refine ⟨⟨hi, xs, v, hl, e1⟩, fun x H' y => ?_⟩
  obtain ⟨rfl, y⟩ := y
  have := y xs hl
  rw [e1] at this
  cases this
  exact ⟨F', Grow.refl s2, Rep.mono s1 _ _ e2⟩
theorem ri_reversed (hg : Gl X "reversed") (hm : X.mg "reversed" = none) (ha : RA X W [a] fs) (hs : starEach [a] X.env = [(false, eval a X.env)] := by rfl) : RI X W tg (.Call (.Name "reversed" p) [a] [] pos) (gRv fs) := fun B F0 F H σ ρ Q x hw => by
  refine ⟨_, pi_reversed hg hm (pa_W _) hs, ?_⟩
  refine ha B F0 F H σ ρ _ x ((Want.bind (r := fs ρ) (f := revI) hw).imp fun ds F1 H1 g1 k vs r => ?_)
  unfold revI at k
  split at k
  · cases r with | cons r1 r2 =>
    cases r2
    cases r1 with | lst h1 h2 =>
    exact ⟨_, _, rfl, SqL.of (g1.fh _ _ h1), k F1 H1 (Grow.refl g1.fh) _ (itd_rev h1 h2)⟩
  · exact k.elim
/-- pairs -/
def pairs (as bs : List D) : List D := (as.zip bs).map fun p => .tup [p.1, p.2]
def zipI : List D → R (List D)
  | [.lst as, .lst bs] => .ok (pairs as bs)
  | _ => .bad
def gZip (fs : En → R (List D)) : En → R (List D) := fun ρ => (fs ρ).bind zipI
theorem itd_zip {K : PySem.W.Frag} {w : Wd} {F : Hp} {l m : Addr} {xs ys : List V} {as bs : List D} (h : F l = some (.lst xs)) (r : Reps K w F as xs) (h' : F m = some (.lst ys)) (r' : Reps K w F bs ys) : ItD K w (Itz K l m) F (pairs as bs) := fun i F' H s1 s2 => by
  have hl : SqL K H l xs := SqL.of (s2 _ _ (s1 _ _ h))
  have hm : SqL K H m ys := SqL.of (s2 _ _ (s1 _ _ h'))
  unfold pairs
  refine ⟨fun d hd => ?_, fun hi => ⟨xs, ys, hl, hm, ?_⟩⟩
  · rw [List.getElem?_map, Option.map_eq_some_iff] at hd
    obtain ⟨⟨a, b⟩, e1, rfl⟩ := hd
    rw [List.getElem?_zip_eq_some] at e1
    obtain ⟨v, e3, e4⟩ := r.get e1.1
    obtain ⟨u, e5, e6⟩ := r'.get e1.2
    refine ⟨⟨xs, ys, v, u, hl, hm, e3, e5⟩, fun x H' y => ?_⟩
    obtain ⟨T, x1, y1, rfl, hT, rfl, q1, q2⟩ := y
    have z1 := q1 xs hl
    rw [e3] at z1
    cases z1
    have z2 := q2 ys hm
    rw [e5] at z2
    cases z2
    have g := (Grow.refl s2).new (o := .tup [v, u]) hT
    exact ⟨_, g, .tup (.inl (.inl upd_same)) (.cons (Rep.mono (s1.trans g.ff) _ _ e4) (.cons (Rep.mono (s1.trans g.ff) _ _ e6) .nil))⟩
  · rw [hi, List.length_map, List.length_zip, ← r.length, ← r'.length]
    omega
variable {elts : List Expr} {kk : Nat} {tpos : Pos}
theorem ri_zip (hg : Gl X "zip") (hm : X.mg "zip" = none) (ha : RA X W [a, b] fs) (hs : starEach [a, b] X.env = (false, eval a X.env) :: starEach [b] X.env := by rfl) (hpl : (backTo pos (starEach [b] X.env)).any (·.1) = false := by rfl) :
    RI X W (.Tuple elts kk tpos) (.Call (.Name "zip" p) [a, b] [] pos) (gZip fs) := fun B F0 F H σ ρ Q x hw => by
  refine ⟨_, pi_zip hg hm (pa_W _) hs hpl, ?_⟩
  refine ha B F0 F H σ ρ _ x ((Want.bind (r := fs ρ) (f := zipI) hw).imp fun ds F1 H1 g1 k vs r => ?_)
  unfold zipI at k
  split at k
  · cases r with | cons r1 r2 =>
    cases r2 with | cons r2 r3 =>
    cases r3
    cases r1 with | lst h1 h2 =>
    cases r2 with | lst h3 h4 =>
    exact ⟨_, _, _, _, rfl, SqL.of (g1.fh _ _ h1), SqL.of (g1.fh _ _ h3), k F1 H1 (Grow.refl g1.fh) _ (itd_zip h1 h2 h3 h4)⟩
  · exact k.elim
def enumL (as : List D) : List D := (List.range as.length).zip as |>.map fun p => .tup [.int (p.1 : Nat), p.2]
def enumI : List D → R (List D)
  | [.lst as] => .ok (enumL as)
  | _ => .bad
def gEnum (fs : En → R (List D)) : En → R (List D) := fun ρ => (fs ρ).bind enumI
theorem itd_enum {K : PySem.W.Frag} {w : Wd} {F : Hp} {l : Addr} {xs : List V} {as : List D} (h : F l = some (.lst xs)) (r : Reps K w F as xs) : ItD K w (Ite K l) F (enumL as) := fun i F' H s1 s2 => by
  have hl : SqL K H l xs := SqL.of (s2 _ _ (s1 _ _ h))
  unfold enumL
  refine ⟨fun d hd => ?_, fun hi => ⟨xs, hl, ?_⟩⟩
  · rw [List.getElem?_map, Option.map_eq_some_iff] at hd
    obtain ⟨⟨a, b⟩, e1, rfl⟩ := hd
    rw [List.getElem?_zip_eq_some] at e1
    obtain ⟨v, e3, e4⟩ := r.get e1.2
    obtain ⟨q1, q2⟩ := List.getElem?_eq_some_iff.mp e1.1
    rw [List.getElem_range] at q2
    subst q2
    refine ⟨⟨xs, v, hl, e3⟩, fun x H' y => ?_⟩
    obtain ⟨T, x1, rfl, hT, rfl, q1⟩ := y
    have z1 := q1 xs hl
    rw [e3] at z1
    cases z1
    have g := (Grow.refl s2).new (o := .tup [.int (i : Nat), v]) hT
    exact ⟨_, g, .tup (.inl (.inl upd_same)) (.cons (.int _) (.cons (Rep.mono (s1.trans g.ff) _ _ e4) .nil))⟩
  · rw [hi, List.length_map, List.length_zip, List.length_range, ← r.length]
    omega
theorem ri_enum (hg : Gl X "enumerate") (hm : X.mg "enumerate" = none) (ha : RA X W [a] fs) (hs : starEach [a] X.env = [(false, eval a X.env)] := by rfl) : RI X W (.Tuple elts kk tpos) (.Call (.Name "enumerate" p) [a] [] pos) (gEnum fs) := fun B F0 F H σ ρ Q x hw => by
  refine ⟨_, pi_enum hg hm (pa_W _) hs, ?_⟩
  refine ha B F0 F H σ ρ _ x ((Want.bind (r := fs ρ) (f := enumI) hw).imp fun ds F1 H1 g1 k vs r => ?_)
  unfold enumI at k
  split at k
  · cases r with | cons r1 r2 =>
    cases r2
    cases r1 with | lst h1 h2 =>
    exact ⟨_, _, rfl, SqL.of (g1.fh _ _ h1), k F1 H1 (Grow.refl g1.fh) _ (itd_enum h1 h2)⟩
  · exact k.elim
end

/-! ### targets -/
def RG (X : Cx) (tg : Expr) (ts : List Nat) (g : D → En → R En) : Prop := ∀ B F0 F H σ ρ d v (Q : St → Hp → Prop), EOk X.K X.wd B F0 F H σ ρ → Rep X.K X.wd F d v →
  (match g d ρ with
    | .ok ρ' => ∀ σ', EOk X.K X.wd B F0 F H σ' ρ' → (∀ vs : List Nat, (∀ i ∈ ts, i ∈ vs) → wipe σ' vs = wipe σ vs) → Q σ' H
    | _ => False) → WG X tg v σ H Q
def tName (i : Nat) : D → En → R En := fun d ρ => .ok (ρ.set i (some (d, false)))
theorem wipe_get {σ : St} : ∀ {vs : List Nat} {j : Nat}, (wipe σ vs)[j]? = if j ∈ vs then (if j < σ.length then some none else none) else σ[j]?
  | [], j => by simp [wipe]
  | v :: vs, j => by
    unfold wipe
    rw [List.getElem?_set, wipe_get (vs := vs), wipe_length]
    by_cases h : v = j
    · subst h; simp
    · have h2 : j ≠ v := fun e => h e.symm
      simp [h, h2]
theorem wipe_set {σ : St} {i : Nat} {x : Option V} {vs : List Nat} (h : i ∈ vs) : wipe (σ.set i x) vs = wipe σ vs := by
  apply List.ext_getElem?
  intro j
  rw [wipe_get, wipe_get, List.length_set]
  by_cases hj : j ∈ vs
  · rw [if_pos hj, if_pos hj]
  · rw [if_neg hj, if_neg hj, List.getElem?_set_ne (fun e => hj (by rw [← e]; exact h))]
section
variable {X : Cx} {pos : Pos}
theorem rg_name {i : Nat} {x : Str} (hN : X.N.Nodup) (hi : X.N[i]? = some x) (hx : Loc X.env.scope x) (hf : X.fn x = true ∨ X.env.scope.names.lookup x = some .local := by first | exact .inl rfl | exact .inr rfl | assumption) : RG X (.Name x pos) [i] (tName i) :=
  fun B F0 F H σ ρ d v Q x r h => ⟨_, pg_name hN hi hx hf, h _ (x.set r) fun vs hv => wipe_set (hv i (List.mem_singleton.mpr rfl))⟩
/-- several targets -/
def RGs (X : Cx) (tgs : List Expr) (ts : List Nat) (g : List D → En → R En) : Prop := ∀ B F0 F H σ ρ ds vs (Q : St → Hp → Prop), EOk X.K X.wd B F0 F H σ ρ → Reps X.K X.wd F ds vs →
  (match g ds ρ with
    | .ok ρ' => ∀ σ', EOk X.K X.wd B F0 F H σ' ρ' → (∀ vs : List Nat, (∀ i ∈ ts, i ∈ vs) → wipe σ' vs = wipe σ vs) → Q σ' H
    | _ => False) → ∃ t, PGs X tgs t ∧ t vs σ H Q
def tsNil : List D → En → R En
  | [], ρ => .ok ρ
  | _, _ => .bad
def tsCons (g : D → En → R En) (gs : List D → En → R En) : List D → En → R En
  | d :: ds, ρ => (g d ρ).bind (gs ds)
  | _, _ => .bad
theorem rgs_nil : RGs X [] [] tsNil := fun B F0 F H σ ρ ds vs Q x r h => by
  refine ⟨_, pgs_nil, ?_⟩
  cases r with
  | nil => exact ⟨rfl, h σ x fun _ _ => rfl⟩
  | cons _ _ => exact h.elim
def wGs (X : Cx) (tgs : List Expr) : TGs := fun vs σ H Q => ∃ t, PGs X tgs t ∧ t vs σ H Q
theorem pgs_W (tgs : List Expr) : PGs X tgs (wGs X tgs) := ⟨fun pins s σ H vs us Q I r ⟨t, h, q⟩ => h.run pins s σ H vs us Q I r q⟩
theorem rgs_cons {e : Expr} {es : List Expr} {t ts : List Nat} {g : D → En → R En} {gs : List D → En → R En} (h1 : RG X e t g) (h2 : RGs X es ts gs)
    (hs : (assignEach (e :: es) X.env).map (·.2) = assign e X.env :: (assignEach es X.env).map (·.2) := by rfl) : RGs X (e :: es) (t ++ ts) (tsCons g gs) := fun B F0 F H σ ρ ds vs Q x r h => by
  refine ⟨_, pgs_cons (pg_W e) (pgs_W es) hs, ?_⟩
  cases r with
  | nil => exact h.elim
  | @cons d ds v vs r1 r2 =>
    refine ⟨v, vs, rfl, ?_⟩
    refine h1 B F0 F H σ ρ d v _ x r1 ?_
    replace h : (match (g d ρ).bind (gs ds) with
      | .ok ρ' => ∀ σ', EOk X.K X.wd B F0 F H σ' ρ' → (∀ vs : List Nat, (∀ i ∈ t ++ ts, i ∈ vs) → wipe σ' vs = wipe σ vs) → Q σ' H
      | _ => False) := h
    cases hg : g d ρ with
    | ok ρ1 =>
      rw [hg] at h
      intro σ1 x1 w1
      refine h2 B F0 F H σ1 ρ1 ds vs Q x1 r2 ?_
      replace h : (match gs ds ρ1 with
        | .ok ρ' => ∀ σ', EOk X.K X.wd B F0 F H σ' ρ' → (∀ vs : List Nat, (∀ i ∈ t ++ ts, i ∈ vs) → wipe σ' vs = wipe σ vs) → Q σ' H
        | _ => False) := h
      cases hg2 : gs ds ρ1 with
      | ok ρ2 =>
        rw [hg2] at h
        intro σ2 x2 w2
        exact h σ2 x2 fun vs hv => (w2 vs fun i hi => hv i (List.mem_append_right _ hi)).trans (w1 vs fun i hi => hv i (List.mem_append_left _ hi))
      | ex y => rw [hg2] at h; exact h
      | bad => rw [hg2] at h; exact h
    | ex y => rw [hg] at h; exact h
    | bad => rw [hg] at h; exact h
def tTup (n : Nat) (gs : List D → En → R En) : D → En → R En
  | .tup ds, ρ => if ds.length = n then gs ds ρ else .bad
  | _, _ => .bad
theorem rg_tup {es : List Expr} {k : Nat} {n : Nat} {ts : List Nat} {gs : List D → En → R En} (hc : X.calm = true) (h : RGs X es ts gs)
    (hn : (assignEach es X.env).length = n := by rfl) (hst : (assignEach es X.env).findIdx? (·.1) = none := by rfl) : RG X (.Tuple es k pos) ts (tTup n gs) := fun B F0 F H σ ρ d v Q x r hw => by
  refine ⟨_, pg_tup hc (pgs_W es) hn hst, ?_⟩
  cases d with
  | tup ds =>
    cases r with | tup h1 h2 =>
    by_cases hl : ds.length = n
    · refine ⟨_, _, rfl, Same.tup x.fh h1, by rw [← h2.length]; exact hl, h B F0 F H σ ρ ds _ Q x h2 ?_⟩
      have e : tTup n gs (.tup ds) ρ = gs ds ρ := if_pos hl
      rw [← e]
      exact hw
    · have e : tTup n gs (.tup ds) ρ = .bad := if_neg hl
      rw [e] at hw
      exact hw.elim
  | _ => exact hw.elim
end
end Pc
set_option maxHeartbeats 4000000
namespace Pc
open PySem L2

/-! ### list comprehensions -/
def wipeE (ρ : En) : List Nat → En
  | [] => ρ
  | v :: vs => (wipeE ρ vs).set v none
theorem wipeE_length (ρ : En) : ∀ vs : List Nat, (wipeE ρ vs).length = ρ.length
  | [] => rfl
  | v :: vs => by unfold wipeE; rw [List.length_set, wipeE_length ρ vs]
theorem wipeE_some {ρ : En} {i : Nat} {x : D × Bool} : ∀ {vs : List Nat}, (wipeE ρ vs)[i]? = some (some x) → ρ[i]? = some (some x) ∧ i ∉ vs
  | [], h => ⟨h, by simp⟩
  | v :: vs, h => by
    unfold wipeE at h
    rcases getElem?_set_cases h with ⟨_, e, _⟩ | ⟨e1, e2⟩
    · cases e
    obtain ⟨h1, h2⟩ := wipeE_some e2
    exact ⟨h1, by simp only [List.mem_cons, not_or]; exact ⟨fun e => e1 e.symm, h2⟩⟩
theorem EOk.wipe {K : PySem.W.Frag} {w : Wd} {B F0 F H : Hp} {σ : St} {ρ : En} (x : EOk K w B F0 F H σ ρ) (vs : List Nat) : EOk K w B F0 F H (wipe σ vs) (wipeE ρ vs) := by
  have key : ∀ (i : Nat), i ∉ vs → (L2.wipe σ vs)[i]? = σ[i]? := fun i hi => by rw [wipe_get, if_neg hi]
  refine ⟨x.g, by rw [wipe_length, wipeE_length]; exact x.ln, fun i d o e => ?_, fun i j d e v n h1 h2 h3 h4 => ?_⟩
  · obtain ⟨e1, e2⟩ := wipeE_some e
    obtain ⟨v, e3, e4⟩ := x.sl i d o e1
    exact ⟨v, by rw [key i e2]; exact e3, e4⟩
  · obtain ⟨e1, e2⟩ := wipeE_some h1
    obtain ⟨e1', e2'⟩ := wipeE_some h2
    rw [key i e2] at h3
    rw [key j e2'] at h4
    exact x.ds i j d e v n e1 e1' h3 h4
def lcGo (tgt : D → En → R En) (tt : En → R Bool) (el : En → R D) (ρ : En) : List D → List D → R (List D)
  | [], acc => .ok acc
  | d :: ds, acc => match tgt d ρ with
    | .ok ρ1 => match tt ρ1 with
      | .ok true => match el ρ1 with
        | .ok y => if acc.length < lim then lcGo tgt tt el ρ ds (acc ++ [y]) else .bad
        | _ => .bad
      | .ok false => lcGo tgt tt el ρ ds acc
      | _ => .bad
    | _ => .bad
def fLc (own : List Nat) (it : En → R (List D)) (tgt : D → En → R En) (tt : En → R Bool) (el : En → R D) : En → R (List D) := fun ρ => (it ρ).bind fun ds => lcGo tgt tt el (wipeE ρ own) ds []
def gYes : En → R Bool := fun _ => .ok true
/-- the tests of a clause -/
def RP (X : Cx) (W : WX) (es : List Expr) (f : En → R Bool) : Prop := ∀ B F0 F H σ ρ (Q : Bool → Hp → Prop), EOk X.K X.wd B F0 F H σ ρ →
  Want X.K X.wd X.mg (f ρ) F H (fun b _ H' => Q b H') (fun C dd H' => W C dd σ H') → WPs X es σ H Q
section
variable {X : Cx} {W : WX}
theorem rp_nil : RP X W [] gYes := fun B F0 F H σ ρ Q x hw => ⟨_, pts_nil, hw F H (Grow.refl x.fh)⟩
theorem rp_one {c : Expr} {f : En → R Bool} (h : RT X W c f) : RP X W [c] f := fun B F0 F H σ ρ Q x hw => ⟨_, pts_one (pt_W c), h B F0 F H σ ρ Q x hw⟩
abbrev WF : WX := fun _ _ _ _ => False
variable {elt tg iter : Expr} {ifs : List Expr} {scope : Scope} {own : List (Str × Nat)} {pos : Pos} {it : En → R (List D)} {tgt : D → En → R En} {tt : En → R Bool} {el : En → R D} {ts : List Nat}
/-- the loop of a comprehension -/
theorem lc_run {B F0 F H : Hp} {σ : St} {ρ : En} {W : WX} {vs : List Nat} {Q : VK} (hts : ∀ i ∈ ts, i ∈ vs) (x : EOk X.K X.wd B F0 F H σ ρ)
    (hi : RI X W tg iter it) {g : TG} {t : TT} {e : TE}
    (hg : ∀ B F0 F H σ ρ d v (Q : St → Hp → Prop), EOk X.K X.wd B F0 F H σ ρ → Rep X.K X.wd F d v → (match tgt d ρ with
      | .ok ρ' => ∀ σ', EOk X.K X.wd B F0 F H σ' ρ' → (∀ vs : List Nat, (∀ i ∈ ts, i ∈ vs) → wipe σ' vs = wipe σ vs) → Q σ' H
      | _ => False) → g v σ H Q)
    (ht : ∀ B F0 F H σ ρ (Q : Bool → Hp → Prop), EOk X.K X.wd B F0 F H σ ρ → Want X.K X.wd X.mg (tt ρ) F H (fun b _ H' => Q b H') (fun _ _ _ => False) → t σ H Q)
    (he : ∀ B F0 F H σ ρ (Q : VK), EOk X.K X.wd B F0 F H σ ρ → Want X.K X.wd X.mg (el ρ) F H (fun d F' H' => ∀ v, Rep X.K X.wd F' d v → Q v H') (fun _ _ _ => False) → e σ H Q)
    (hw : Want X.K X.wd X.mg (fLc vs it tgt tt el ρ) F H (fun ds F' H' => ∀ p xs, H p = none → F' p = none → H' p = some (.lst xs) → Reps X.K X.wd F' ds xs → Q (.ref p) H') (fun C dd H' => W C dd σ H')) :
    tLc (WI X tg iter) g t e vs σ H Q := by
  refine hi B F0 F H σ ρ _ x ?_
  replace hw : Want X.K X.wd X.mg ((it ρ).bind fun ds => lcGo tgt tt el (wipeE ρ vs) ds []) F H (fun ds F' H' => ∀ p xs, H p = none → F' p = none → H' p = some (.lst xs) → Reps X.K X.wd F' ds xs → Q (.ref p) H') (fun C dd H' => W C dd σ H') := hw
  refine (Want.bind hw).imp fun ds F1 H1 g1 k J hJ L hL => ?_
  -- the list at L holds what is made so far
  refine ⟨fun i m H' => m = ds.length - i ∧ i ≤ ds.length ∧ ∃ F' acc xs, Grow F1 H1 F' H' ∧ H' L = some (.lst xs) ∧ F' L = none ∧ Reps X.K X.wd F' acc xs ∧
    Want X.K X.wd X.mg (lcGo tgt tt el (wipeE ρ vs) (ds.drop i) acc) F1 H1 (fun ds F' H' => ∀ p xs, H p = none → F' p = none → H' p = some (.lst xs) → Reps X.K X.wd F' ds xs → Q (.ref p) H') (fun C dd H' => W C dd σ H'), ⟨ds.length, by simp, Nat.zero_le _, F1, [], [], (Grow.refl g1.fh).lay hL, upd_same, g1.freeF hL, .nil, by rw [List.drop_zero]; exact k⟩, ?_⟩
  rintro i m H' ⟨rfl, hle, F', acc, xs, gg, hl, hf, r, kk⟩
  obtain ⟨j1, j2⟩ := hJ i F' H' gg.ff gg.fh
  by_cases hi' : i = ds.length
  · left
    refine ⟨j2 hi', ?_⟩
    rw [hi', List.drop_length] at kk
    exact kk F' H' gg L xs (g1.hh.free hL) hf hl r
  · right
    have hlt : i < ds.length := by omega
    obtain ⟨go, yl⟩ := j1 ds[i] (List.getElem?_eq_getElem hlt)
    refine ⟨go, fun H'' => ∃ F' acc xs, Grow F1 H1 F' H'' ∧ H'' L = some (.lst xs) ∧ F' L = none ∧ Reps X.K X.wd F' acc xs ∧
      Want X.K X.wd X.mg (lcGo tgt tt el (wipeE ρ vs) (ds.drop (i + 1)) acc) F1 H1 (fun ds F' H' => ∀ p xs, H p = none → F' p = none → H' p = some (.lst xs) → Reps X.K X.wd F' ds xs → Q (.ref p) H') (fun C dd H' => W C dd σ H'), fun H'' q => ⟨ds.length - (i + 1), by omega, rfl, hlt, q⟩, fun y H2 hy => ?_⟩
    obtain ⟨F2, g2, ry⟩ := yl y H2 hy
    rw [List.drop_eq_getElem_cons hlt] at kk
    unfold lcGo at kk
    have X0 := ((x.grow g1).wipe vs).grow (gg.trans g2)
    have notL : ∀ {F3 H3 : Hp}, Grow F' H' F3 H3 → F3 L = none := fun {F3 H3} g3 => by
      cases q : F3 L with
      | none => rfl
      | some o => rw [g3.nw L o q (by rw [hl]; simp)] at hf; cases hf
    refine hg B F0 F2 H2 (wipe σ vs) (wipeE ρ vs) ds[i] y _ X0 ry ?_
    cases hq : tgt ds[i] (wipeE ρ vs) with
    | ex _ => rw [hq] at kk; exact kk.elim
    | bad => rw [hq] at kk; exact kk.elim
    | ok ρ1 =>
      rw [hq] at kk
      dsimp only at kk
      intro σ1 x1 w1
      refine ⟨by
        have := w1 vs hts
        rw [this]
        apply List.ext_getElem?
        intro j
        rw [wipe_get, wipe_get, wipe_length]
        by_cases h : j ∈ vs <;> simp [h], ?_⟩
      refine ht B F0 F2 H2 σ1 ρ1 _ x1 ?_
      cases hb : tt ρ1 with
      | ex _ => rw [hb] at kk; exact kk.elim
      | bad => rw [hb] at kk; exact kk.elim
      | ok b =>
        rw [hb] at kk
        intro F3 H3 g3
        cases b with
        | false => exact ⟨F3, acc, xs, (gg.trans g2).trans g3, g3.hh _ _ (g2.hh _ _ hl), notL (g2.trans g3), Reps.mono (g2.ff.trans g3.ff) _ _ r, kk⟩
        | true =>
          dsimp only at kk
          refine he B F0 F3 H3 σ1 ρ1 _ (x1.grow g3) ?_
          cases hy : el ρ1 with
          | ex _ => rw [hy] at kk; exact kk.elim
          | bad => rw [hy] at kk; exact kk.elim
          | ok z =>
            rw [hy] at kk
            obtain ⟨hc, kk⟩ := ifW kk
            intro F4 H4 g4 v rv
            have g5 := (g2.trans g3).trans g4
            have f4 : F4 L = none := notL g5
            refine ⟨xs, g5.hh _ _ hl, by rw [← r.length]; exact Nat.lt_of_lt_of_le hc (by decide), F4, acc ++ [z], xs ++ [v], ?_, upd_same, f4, (Reps.mono g5.ff _ _ r).append (.cons rv .nil), kk⟩
            have g6 := gg.trans g5
            refine ⟨g6.ff, fun a o e => ?_, fun a o e => ?_, g6.nw⟩
            · rw [upd_ne (ne_of_none e f4)]; exact g6.fh _ _ e
            · rw [upd_ne (ne_of_none e hL)]; exact g6.hh _ _ e
theorem wd_blk (hc : X.calm = true) {s : Shared} {H : Hp} {cenv : Env} {fp : List Addr} : (X.blk s H scope cenv fp).wd = X.wd := by
  unfold L2.Cx.wd
  rw [if_pos (show (X.blk s H scope cenv fp).calm = true from hc), if_pos hc]
/-- a comprehension: a new list -/
theorem rf_lc (hc : X.calm = true) (hN : X.N.Nodup) (hi : RI X W tg iter it) (ok : BlkOk X.N X.env.scope scope own)
    (hg : ∀ (s : Shared) (H : Hp) (C : Addr) (cl : List (Str × Addr)) (fp : List Addr), RG (X.blk s H scope (compEnvC scope cl C X.env) fp) tg ts tgt)
    (ht : ∀ (s : Shared) (H : Hp) (C : Addr) (cl : List (Str × Addr)) (fp : List Addr), RP (X.blk s H scope (compEnvC scope cl C X.env) fp) WF ifs tt)
    (he : ∀ (s : Shared) (H : Hp) (C : Addr) (cl : List (Str × Addr)) (fp : List Addr), RE (X.blk s H scope (compEnvC scope cl C X.env) fp) WF elt el)
    (hts : ∀ i ∈ ts, i ∈ own.map (·.2)) (hs : ∀ x, foldedSetIterable iter X.env x = pure x := by intro _; rfl) :
    RF X W (.ListComp elt [⟨tg, iter, ifs, 0⟩] scope pos) (fLc (own.map (·.2)) it tgt tt el) := fun B F0 F H σ ρ Q x hw => by
  refine ⟨_, pe_lc (g := fun v σ H Q => ∀ (s : Shared) (H1 : Hp) (C : Addr) (cl : List (Str × Addr)) (fp : List Addr), WG (X.blk s H1 scope (compEnvC scope cl C X.env) fp) tg v σ H Q)
    (tt := fun σ H Q => ∀ (s : Shared) (H1 : Hp) (C : Addr) (cl : List (Str × Addr)) (fp : List Addr), WPs (X.blk s H1 scope (compEnvC scope cl C X.env) fp) ifs σ H Q)
    (te := fun σ H Q => ∀ (s : Shared) (H1 : Hp) (C : Addr) (cl : List (Str × Addr)) (fp : List Addr), WE (X.blk s H1 scope (compEnvC scope cl C X.env) fp) elt σ H Q)
    hc hN (pi_W tg iter) ok (fun s H C cl fp => ⟨fun pins s' σ H' v u Q I r q => (pg_W _).run pins s' σ H' v u Q I r (q s H C cl fp)⟩) (fun s H C cl fp => ⟨fun pins s' σ H' Q I q => (pts_W _).run pins s' σ H' Q I (q s H C cl fp)⟩)
    (fun s H C cl fp => ⟨fun pins s' σ H' Q I q => (pe_W _).run pins s' σ H' Q I (q s H C cl fp)⟩) hs, ?_⟩
  exact lc_run hts x hi (fun B F0 F H σ ρ d v Q x r k s H1 C cl fp => hg s H1 C cl fp B F0 F H σ ρ d v Q (by rw [wd_blk hc]; exact x) (by rw [wd_blk hc]; exact r) (by rw [wd_blk hc]; exact k))
    (fun B F0 F H σ ρ Q x k s H1 C cl fp => ht s H1 C cl fp B F0 F H σ ρ Q (by rw [wd_blk hc]; exact x) (by rw [wd_blk hc]; exact k))
    (fun B F0 F H σ ρ Q x k s H1 C cl fp => he s H1 C cl fp B F0 F H σ ρ Q (by rw [wd_blk hc]; exact x) (by rw [wd_blk hc]; exact k)) hw
end
end Pc
set_option maxHeartbeats 4000000
namespace Pc
open PySem L2

/-! ### statements -/
section
variable {X : Cx} {W : WX} {B F0 F H : Hp} {Z : Ends}
theorem Grow.rebase {F0 B F H F1 H1 : Hp} (a : Grow F0 B F H) (b : Grow F B F1 H1) : Grow F0 B F1 H1 :=
  ⟨a.ff.trans b.ff, b.fh, b.hh, fun x o e n => a.nw x o (b.nw x o e n) n⟩
theorem EOk.rebase {K : PySem.W.Frag} {w : Wd} {σ : St} {ρ : En} {F1 H1 : Hp} (a : Grow F0 B F H) (x : EOk K w B F F1 H1 σ ρ) : EOk K w B F0 F1 H1 σ ρ := ⟨a.rebase x.g, x.ln, x.sl, x.ds⟩
theorem EOk.base {K : PySem.W.Frag} {w : Wd} {σ : St} {ρ : En} (x : EOk K w B F0 F H σ ρ) : EOk K w B F F H σ ρ := ⟨⟨Same.refl _, x.g.fh, x.g.hh, fun _ _ e _ => e⟩, x.ln, x.sl, x.ds⟩
theorem WantS.rebase {r : R O} (a : Grow F0 B F H) (h : WantS X W B F0 r Z) : WantS X W B F r Z := by
  cases r with
  | ok o =>
    cases o with
    | nx ρ => exact fun σ F1 H1 x => h σ F1 H1 (x.rebase a)
    | bk ρ => exact fun σ F1 H1 x => h σ F1 H1 (x.rebase a)
    | ct ρ => exact fun σ F1 H1 x => h σ F1 H1 (x.rebase a)
    | rt d => exact fun v F1 H1 g r => h v F1 H1 (a.rebase g) r
  | ex x => exact fun C dd σ F1 H1 g e => h C dd σ F1 H1 (a.rebase g) e
  | bad => exact h
/-- a result ahead of a statement's end -/
theorem WantS.want {α : Type} {r : R α} {f : α → R O} {σ : St} {ρ : En} (x : EOk X.K X.wd B F0 F H σ ρ) (h : WantS X W B F0 (r.bind f) Z) : Want X.K X.wd X.mg r F H (fun a F' H' => Grow F H F' H' ∧ WantS X W B F0 (f a) Z) (fun C dd H' => W C dd σ H') := by
  cases r with
  | ok a => exact fun F' H' g => ⟨g, h⟩
  | ex y => exact fun C dd F' H' g e => h C dd σ F' H' (x.g.trans g) e
  | bad => exact h
variable {st : Stmt} {rest sts : List Stmt} {f g : En → R O} {e : Expr} {fe : En → R D} {pos : Pos}
def sNx : En → R O := fun ρ => .ok (.nx ρ)
def sSeq (f g : En → R O) : En → R O := fun ρ => (f ρ).bind fun o => match o with
  | .nx ρ' => g ρ'
  | o => .ok o
theorem rss_nil : RSs X W [] sNx := fun B F0 F H σ ρ Z x hw => ⟨_, pss_nil, hw σ F H x⟩
theorem rss_cons (h1 : RS X W st f) (h2 : RSs X W rest g) : RSs X W (st :: rest) (sSeq f g) := fun B F0 F H σ ρ Z x hw => by
  refine ⟨_, pss_cons (ps_W st) (pss_W rest), ?_⟩
  refine h1 B F0 F H σ ρ _ x ?_
  replace hw : WantS X W B F0 ((f ρ).bind fun o => match o with | .nx ρ' => g ρ' | o => .ok o) Z := hw
  cases hf : f ρ with
  | ok o =>
    rw [hf] at hw
    cases o with
    | nx ρ' => exact fun σ' F' H' x' => h2 B F0 F' H' σ' ρ' Z x' hw
    | bk ρ' => exact hw
    | ct ρ' => exact hw
    | rt d => exact hw
  | ex y => rw [hf] at hw; exact hw
  | bad => rw [hf] at hw; exact hw
theorem rss_one (h1 : RS X W st f) : RSs X W [st] f := fun B F0 F H σ ρ Z x hw => ⟨_, pss_one (ps_W st), h1 B F0 F H σ ρ Z x hw⟩
/-- slots whose lists are their own no more -/
def sFrz (is : List Nat) (f : En → R O) : En → R O := fun ρ => f (frz ρ is)
theorem rs_frz (is : List Nat) (h : RS X W st f) : RS X W st (sFrz is f) := fun B F0 F H σ ρ Z x hw => by
  obtain ⟨F', _, x'⟩ := x.frz is
  exact h B F0 F' H σ _ Z x' hw
theorem rs_pass : RS X W (.Pass pos) sNx := fun B F0 F H σ ρ Z x hw => ⟨_, ps_pass, hw σ F H x⟩
def sBk : En → R O := fun ρ => .ok (.bk ρ)
def sCt : En → R O := fun ρ => .ok (.ct ρ)
theorem rs_break : RS X W (.Break pos) sBk := fun B F0 F H σ ρ Z x hw => ⟨_, ps_break, hw σ F H x⟩
theorem rs_continue : RS X W (.Continue pos) sCt := fun B F0 F H σ ρ Z x hw => ⟨_, ps_continue, hw σ F H x⟩
def sRet (f : En → R D) : En → R O := fun ρ => (f ρ).bind fun d => .ok (.rt d)
theorem rs_ret (h : RE X W e fe) : RS X W (.Return (some e) pos) (sRet fe) := fun B F0 F H σ ρ Z x hw => by
  refine ⟨_, ps_ret (pe_W e), ?_⟩
  exact h B F0 F H σ ρ _ x ((WantS.want (r := fe ρ) x hw).imp fun d F' H' _ ⟨g, k⟩ v r => k v F' H' (x.g.trans g) r)
def sRetN : En → R O := fun _ => .ok (.rt .non)
theorem rs_retN : RS X W (.Return none pos) sRetN := fun B F0 F H σ ρ Z x hw => ⟨_, ps_retN, hw _ F H x.g .non⟩
def sExp (f : En → R D) : En → R O := fun ρ => (f ρ).bind fun _ => .ok (.nx ρ)
theorem rs_expr (h : RE X W e fe) (hs : swapsWith e none pos.line X.env = pure false := by rfl) : RS X W (.Expr e pos) (sExp fe) := fun B F0 F H σ ρ Z x hw => by
  refine ⟨_, ps_expr (pe_W e) hs, ?_⟩
  exact h B F0 F H σ ρ _ x ((WantS.want (r := fe ρ) x hw).imp fun d F' H' _ ⟨g, k⟩ v r => k σ F' H' (x.grow g))
def sIf (c : En → R Bool) (f g : En → R O) : En → R O := fun ρ => (c ρ).bind fun b => if b = true then f ρ else g ρ
theorem rs_if {c : Expr} {a b : List Stmt} {fc : En → R Bool} (hc : RT X W c fc) (ha : RSs X W a f) (hb : RSs X W b g) : RS X W (.If c a b pos) (sIf fc f g) := fun B F0 F H σ ρ Z x hw => by
  refine ⟨_, ps_if (pt_W c) (pss_W a) (pss_W b), ?_⟩
  refine hc B F0 F H σ ρ _ x ((WantS.want (r := fc ρ) x hw).imp fun t F' H' _ ⟨g', k⟩ => ?_)
  cases t with
  | true => exact ha B F0 F' H' σ ρ Z (x.grow g') k
  | false => exact hb B F0 F' H' σ ρ Z (x.grow g') k
/-- target = value -/
def toN (g : R En) : R O := g.bind fun ρ => .ok (.nx ρ)
def sAsg (f : En → R D) (g : D → En → R En) : En → R O := fun ρ => (f ρ).bind fun d => toN (g d ρ)
theorem rg_next {tg : Expr} {ts : List Nat} {g : D → En → R En} {σ : St} {ρ : En} {d : D} {v : V} (hg : RG X tg ts g) (x : EOk X.K X.wd B F0 F H σ ρ) (r : Rep X.K X.wd F d v) (h : WantS X W B F0 (toN (g d ρ)) Z) (hx : ∀ y, g d ρ ≠ .ex y) : WG X tg v σ H Z.nx := by
  refine hg B F0 F H σ ρ d v _ x r ?_
  cases e : g d ρ with
  | ok ρ' => rw [e] at h; exact fun σ' x' _ => h σ' F H x'
  | ex y => exact absurd e (hx y)
  | bad => rw [e] at h; exact h.elim
/-- a target's function raises nothing -/
def NoEx (g : D → En → R En) : Prop := ∀ d ρ y, g d ρ ≠ .ex y
theorem nx_name (i : Nat) : NoEx (tName i) := fun _ _ _ h => by cases h
theorem rs_asg {tg : Expr} {ts : List Nat} {g : D → En → R En} (he : RE X W e fe) (hg : RG X tg ts g) (nx : NoEx g) (hs : swapsWithSole [tg] e pos.line X.env = pure false := by rfl) (hw : swappedStores [tg] e X.env = pure none := by rfl)
    (h1 : (assignEach [tg] X.env).map (·.2) = [assign tg X.env] := by rfl) : RS X W (.Assign [tg] e pos) (sAsg fe g) := fun B F0 F H σ ρ Z x hw' => by
  refine ⟨_, ps_asg (pe_W e) (pg_W tg) hs hw h1, ?_⟩
  exact he B F0 F H σ ρ _ x ((WantS.want (r := fe ρ) x hw').imp fun d F' H' _ ⟨g', k⟩ v r => rg_next hg (x.grow g') r k (nx d ρ))
/-- name = value -/
def sSet (i : Nat) (f : En → R D) : En → R O := fun ρ => (f ρ).bind fun d => .ok (.nx (ρ.set i (some (d, false))))
theorem rs_set {i : Nat} {x : Str} {p : Pos} (hN : X.N.Nodup) (hi : X.N[i]? = some x) (hx : Loc X.env.scope x) (he : RE X W e fe) (hs : swapsWith e (some (.Name x p)) pos.line X.env = pure false := by rfl) (hf : X.fn x = true ∨ X.env.scope.names.lookup x = some .local := by first | exact .inl rfl | exact .inr rfl | assumption) :
    RS X W (.Assign [.Name x p] e pos) (sSet i fe) := fun B F0 F H σ ρ Z x hw => by
  refine ⟨_, ps_set hN hi hx (pe_W e) hs hf, ?_⟩
  exact he B F0 F H σ ρ _ x ((WantS.want (r := fe ρ) x hw).imp fun d F' H' _ ⟨g', k⟩ v r => k _ F' H' ((x.grow g').set r))
/-- name = a new list, of its own -/
def sOwn (i : Nat) (f : En → R (List D)) : En → R O := fun ρ => (f ρ).bind fun ds => .ok (.nx (ρ.set i (some (.lst ds, true))))
theorem own_step {i : Nat} {σ : St} {ρ : En} {ds : List D} {F' H' : Hp} {p : Addr} {xs : List V} (x : EOk X.K X.wd B F0 F H σ ρ) (g : Grow F H F' H') (h1 : H p = none) (h2 : F' p = none) (h3 : H' p = some (.lst xs)) (h4 : Reps X.K X.wd F' ds xs) :
    EOk X.K X.wd B F0 F' H' (σ.set i (some (.ref p))) (ρ.set i (some (.lst ds, true))) := by
  refine (x.grow g).setOwn h3 h4 h2 (x.g.hh.free h1) fun j d n e q => ?_
  obtain ⟨v, e1, a, ys, es, e2, e3, e4, _⟩ := x.sl j _ _ e
  rw [q] at e1
  cases e1
  cases e2
  rw [h1] at e4
  cases e4
theorem rs_own {i : Nat} {x : Str} {p : Pos} {fl : En → R (List D)} (hN : X.N.Nodup) (hi : X.N[i]? = some x) (hx : Loc X.env.scope x) (he : RF X W e fl) (hs : swapsWith e (some (.Name x p)) pos.line X.env = pure false := by rfl) (hf : X.fn x = true ∨ X.env.scope.names.lookup x = some .local := by first | exact .inl rfl | exact .inr rfl | assumption) :
    RS X W (.Assign [.Name x p] e pos) (sOwn i fl) := fun B F0 F H σ ρ Z x hw => by
  refine ⟨_, ps_set hN hi hx (pe_W e) hs hf, ?_⟩
  exact he B F0 F H σ ρ _ x ((WantS.want (r := fl ρ) x hw).imp fun ds F' H' _ ⟨g', k⟩ p xs h1 h2 h3 h4 => k _ F' H' (own_step x g' h1 h2 h3 h4))
/-- name = [.. for ..], the name a local -/
def sSetL (i : Nat) (f : En → R (List D)) : En → R O := fun ρ => (f ρ).bind fun ds => .ok (.nx (ρ.set i (some (.lst ds, false))))
section
variable {i : Nat} {y : Str} {py spos : Pos} {elt tg iter : Expr} {ifs : List Expr} {scope : Scope} {own : List (Str × Nat)} {it : En → R (List D)} {tgt : D → En → R En} {tt : En → R Bool} {el : En → R D} {ts : List Nat}
/-- its reading, whatever becomes of the list -/
theorem lc_stmt (hc : X.calm = true) (hN : X.N.Nodup) (hy : X.N[i]? = some y) (hyl : X.env.scope.names.lookup y = some .local) (hsw : swapsWith (.ListComp elt [⟨tg, iter, ifs, 0⟩] scope pos) (some (.Name y py)) spos.line X.env = pure true)
    (hi : RI X W tg iter it) (ok : BlkOk X.N X.env.scope scope own)
    (hg : ∀ (s : Shared) (H : Hp) (C : Addr) (cl : List (Str × Addr)) (fp : List Addr), RG (X.blk s H scope (compEnvC scope cl C X.env) fp) tg ts tgt)
    (ht : ∀ (s : Shared) (H : Hp) (C : Addr) (cl : List (Str × Addr)) (fp : List Addr), RP (X.blk s H scope (compEnvC scope cl C X.env) fp) WF ifs tt)
    (he : ∀ (s : Shared) (H : Hp) (C : Addr) (cl : List (Str × Addr)) (fp : List Addr), RE (X.blk s H scope (compEnvC scope cl C X.env) fp) WF elt el)
    (hts : ∀ i ∈ ts, i ∈ own.map (·.2)) (hs : ∀ x, foldedSetIterable iter X.env x = pure x)
    {σ : St} {ρ : En} (x : EOk X.K X.wd B F0 F H σ ρ)
    (hw : Want X.K X.wd X.mg (fLc (own.map (·.2)) it tgt tt el ρ) F H (fun ds F' H' => ∀ p xs, H p = none → F' p = none → H' p = some (.lst xs) → Reps X.K X.wd F' ds xs → Z.nx (σ.set i (some (.ref p))) H') (fun C dd H' => W C dd σ H')) :
    WS X (.Assign [.Name y py] (.ListComp elt [⟨tg, iter, ifs, 0⟩] scope pos) spos) Z σ H := by
  refine ⟨_, ps_setLc (g := fun v σ H Q => ∀ (s : Shared) (H1 : Hp) (C : Addr) (cl : List (Str × Addr)) (fp : List Addr), WG (X.blk s H1 scope (compEnvC scope cl C X.env) fp) tg v σ H Q)
    (tt := fun σ H Q => ∀ (s : Shared) (H1 : Hp) (C : Addr) (cl : List (Str × Addr)) (fp : List Addr), WPs (X.blk s H1 scope (compEnvC scope cl C X.env) fp) ifs σ H Q)
    (te := fun σ H Q => ∀ (s : Shared) (H1 : Hp) (C : Addr) (cl : List (Str × Addr)) (fp : List Addr), WE (X.blk s H1 scope (compEnvC scope cl C X.env) fp) elt σ H Q)
    hc hN hy hyl hsw (pi_W tg iter) ok (fun s H C cl fp => ⟨fun pins s' σ H' v u Q I r q => (pg_W _).run pins s' σ H' v u Q I r (q s H C cl fp)⟩) (fun s H C cl fp => ⟨fun pins s' σ H' Q I q => (pts_W _).run pins s' σ H' Q I (q s H C cl fp)⟩)
    (fun s H C cl fp => ⟨fun pins s' σ H' Q I q => (pe_W _).run pins s' σ H' Q I (q s H C cl fp)⟩) hs, ?_⟩
  exact lc_run (Q := fun v H' => Z.nx (σ.set i (some v)) H') hts x hi (fun B F0 F H σ ρ d v Q x r k s H1 C cl fp => hg s H1 C cl fp B F0 F H σ ρ d v Q (by rw [wd_blk hc]; exact x) (by rw [wd_blk hc]; exact r) (by rw [wd_blk hc]; exact k))
    (fun B F0 F H σ ρ Q x k s H1 C cl fp => ht s H1 C cl fp B F0 F H σ ρ Q (by rw [wd_blk hc]; exact x) (by rw [wd_blk hc]; exact k))
    (fun B F0 F H σ ρ Q x k s H1 C cl fp => he s H1 C cl fp B F0 F H σ ρ Q (by rw [wd_blk hc]; exact x) (by rw [wd_blk hc]; exact k)) hw
theorem rs_lc (hc : X.calm = true) (hN : X.N.Nodup) (hy : X.N[i]? = some y) (hyl : X.env.scope.names.lookup y = some .local) (hsw : swapsWith (.ListComp elt [⟨tg, iter, ifs, 0⟩] scope pos) (some (.Name y py)) spos.line X.env = pure true)
    (hi : RI X W tg iter it) (ok : BlkOk X.N X.env.scope scope own)
    (hg : ∀ (s : Shared) (H : Hp) (C : Addr) (cl : List (Str × Addr)) (fp : List Addr), RG (X.blk s H scope (compEnvC scope cl C X.env) fp) tg ts tgt)
    (ht : ∀ (s : Shared) (H : Hp) (C : Addr) (cl : List (Str × Addr)) (fp : List Addr), RP (X.blk s H scope (compEnvC scope cl C X.env) fp) WF ifs tt)
    (he : ∀ (s : Shared) (H : Hp) (C : Addr) (cl : List (Str × Addr)) (fp : List Addr), RE (X.blk s H scope (compEnvC scope cl C X.env) fp) WF elt el)
    (hts : ∀ i ∈ ts, i ∈ own.map (·.2)) (hs : ∀ x, foldedSetIterable iter X.env x = pure x := by intro _; rfl) :
    RS X W (.Assign [.Name y py] (.ListComp elt [⟨tg, iter, ifs, 0⟩] scope pos) spos) (sSetL i (fLc (own.map (·.2)) it tgt tt el)) := fun B F0 F H σ ρ Z x hw => by
  refine lc_stmt hc hN hy hyl hsw hi ok hg ht he hts hs x ?_
  replace hw : WantS X W B F0 ((fLc (own.map (·.2)) it tgt tt el ρ).bind fun ds => .ok (.nx (ρ.set i (some (.lst ds, false))))) Z := hw
  refine (WantS.want x hw).imp fun ds F' H' _ ⟨g', k⟩ p xs h1 h2 h3 h4 => ?_
  have z := own_step (i := i) x g' h1 h2 h3 h4
  obtain ⟨F2, _, z2⟩ := z.frz1 i
  by_cases hl : i < ρ.length
  · have e : frz1 (ρ.set i (some (.lst ds, true))) i = ρ.set i (some (.lst ds, false)) := by
      unfold frz1
      rw [List.getElem?_set_self hl]
      dsimp only
      rw [List.set_set]
    rw [e] at z2
    exact k _ F2 H' z2
  · have e1 : ∀ y, ρ.set i y = ρ := fun y => List.set_eq_of_length_le (by omega)
    rw [e1] at z k
    exact k _ F' H' z
theorem rs_lcOwn (hc : X.calm = true) (hN : X.N.Nodup) (hy : X.N[i]? = some y) (hyl : X.env.scope.names.lookup y = some .local) (hsw : swapsWith (.ListComp elt [⟨tg, iter, ifs, 0⟩] scope pos) (some (.Name y py)) spos.line X.env = pure true)
    (hi : RI X W tg iter it) (ok : BlkOk X.N X.env.scope scope own)
    (hg : ∀ (s : Shared) (H : Hp) (C : Addr) (cl : List (Str × Addr)) (fp : List Addr), RG (X.blk s H scope (compEnvC scope cl C X.env) fp) tg ts tgt)
    (ht : ∀ (s : Shared) (H : Hp) (C : Addr) (cl : List (Str × Addr)) (fp : List Addr), RP (X.blk s H scope (compEnvC scope cl C X.env) fp) WF ifs tt)
    (he : ∀ (s : Shared) (H : Hp) (C : Addr) (cl : List (Str × Addr)) (fp : List Addr), RE (X.blk s H scope (compEnvC scope cl C X.env) fp) WF elt el)
    (hts : ∀ i ∈ ts, i ∈ own.map (·.2)) (hs : ∀ x, foldedSetIterable iter X.env x = pure x := by intro _; rfl) :
    RS X W (.Assign [.Name y py] (.ListComp elt [⟨tg, iter, ifs, 0⟩] scope pos) spos) (sOwn i (fLc (own.map (·.2)) it tgt tt el)) := fun B F0 F H σ ρ Z x hw => by
  refine lc_stmt hc hN hy hyl hsw hi ok hg ht he hts hs x ?_
  replace hw : WantS X W B F0 ((fLc (own.map (·.2)) it tgt tt el ρ).bind fun ds => .ok (.nx (ρ.set i (some (.lst ds, true))))) Z := hw
  exact (WantS.want x hw).imp fun ds F' H' _ ⟨g', k⟩ p xs h1 h2 h3 h4 => k _ F' H' (own_step x g' h1 h2 h3 h4)
end
end
end Pc
set_option maxHeartbeats 4000000
namespace Pc
open PySem L2
section
variable {X : Cx} {W : WX} {B F0 F H : Hp} {Z : Ends} {st : Stmt} {rest sts : List Stmt} {f g : En → R O} {e o i : Expr} {fe fi : En → R D} {pos apos cpos tpos : Pos}

/-! ### statements that change a list of a slot's own -/
def fOwn (i : Nat) : En → R (List D) := fun ρ => match ρ[i]? with
  | some (some (.lst ds, true)) => .ok ds
  | _ => .bad
theorem fOwn_ok {i : Nat} {ρ : En} {ds : List D} (h : fOwn i ρ = .ok ds) : ρ[i]? = some (some (.lst ds, true)) := by
  unfold fOwn at h
  split at h
  · cases h; assumption
  · cases h
theorem fOwn_ex {i : Nat} {ρ : En} {y : Exn} : fOwn i ρ ≠ .ex y := fun h => by
  unfold fOwn at h
  split at h <;> cases h
theorem own_at {K : PySem.W.Frag} {w : Wd} {σ : St} {ρ : En} {i : Nat} {ds : List D} (x : EOk K w B F0 F H σ ρ) (h : ρ[i]? = some (some (.lst ds, true))) : ∃ a xs, σ[i]? = some (some (.ref a)) ∧ H a = some (.lst xs) ∧ Reps K w F ds xs := by
  obtain ⟨v, e1, a, xs, ds', e2, e3, e4, e5, _⟩ := x.sl _ _ _ h
  cases e2; cases e3
  exact ⟨a, xs, e1, e4, e5⟩
theorem own_want {i : Nat} {ρ : En} {k : List D → R O} (h : WantS X W B F0 ((fOwn i ρ).bind k) Z) : ∃ ds, ρ[i]? = some (some (.lst ds, true)) ∧ WantS X W B F0 (k ds) Z := by
  cases hf : fOwn i ρ with
  | ok ds => rw [hf] at h; exact ⟨ds, fOwn_ok hf, h⟩
  | ex y => exact absurd hf fOwn_ex
  | bad => rw [hf] at h; exact h.elim
theorem ifS {c : Prop} [Decidable c] {a : R O} (h : WantS X W B F0 (if c then a else .bad) Z) : c ∧ WantS X W B F0 a Z := by
  by_cases hc : c
  · rw [if_pos hc] at h; exact ⟨hc, h⟩
  · rw [if_neg hc] at h; exact h.elim
/-- x.append(e) -/
def sApp (i : Nat) (f : En → R D) : En → R O := fun ρ => (fOwn i ρ).bind fun ds => (f ρ).bind fun d => if ds.length < lim then .ok (.nx (ρ.set i (some (.lst (ds ++ [d]), true)))) else .bad
theorem rs_app {i : Nat} {x : Str} {p : Pos} (hN : X.N[i]? = some x) (hv : Vis X.env.scope x) (he : RE X W e fe) (hd : (x == ("__debug__" : Str)) = false := by decide) (hcd : (x == ("__classdict__" : Str)) = false := by decide)
    (hbase : attributeBase (.Name x p) "append" X.env (eval (.Name x p) X.env) = eval (.Name x p) X.env := by rfl)
    (hfew : ((backTo cpos (starEach [e] X.env)).all (fun x => !x.1) && (backToKw cpos (keywordEach [] X.env)).all (fun x => x.1.isSome)
      && decide ([e].length + ([] : List Keyword).length + (if ([] : List Keyword).isEmpty then 0 else 1) < 30)) = true := by rfl)
    (hline : (apos.endLine == cpos.line) = true := by rfl) (hs : starEach [e] X.env = (false, eval e X.env) :: starEach [] X.env := by rfl) (hplain : (backTo cpos (starEach [] X.env)).any (·.1) = false := by rfl)
    (hsw : swapsWith (.Call (.Attribute (.Name x p) "append" apos) [e] [] cpos) none pos.line X.env = pure false := by rfl) :
    RS X W (.Expr (.Call (.Attribute (.Name x p) "append" apos) [e] [] cpos) pos) (sApp i fe) := fun B F0 F H σ ρ Z x hw => by
  refine ⟨_, ps_expr (pe_bm PySem.F.plainAttrs_list PySem.F.slot_list_append PySem.F.type_list_append mt_append (pe_var hN hv hd hcd) (pa_cons (pe_W e) pa_nil hs) hbase hfew hline hs hplain) hsw, ?_⟩
  obtain ⟨ds, hi, hw⟩ := own_want (i := i) (ρ := ρ) (k := fun ds => (fe ρ).bind fun d => if ds.length < lim then .ok (.nx (ρ.set i (some (.lst (ds ++ [d]), true)))) else .bad) hw
  obtain ⟨a, xs, e1, e2, e3⟩ := own_at x hi
  refine ⟨_, e1, .inl ⟨rfl, xs, SqL.of e2⟩, ?_⟩
  refine he B F0 F H σ ρ _ x ((WantS.want x hw).imp fun d F' H' _ ⟨g', k⟩ v r => ?_)
  obtain ⟨hc, k⟩ := ifS k
  have x' := x.grow g'
  obtain ⟨a', xs', e1', e2', e3'⟩ := own_at x' hi
  rw [e1] at e1'
  cases e1'
  refine ⟨a, xs', v, rfl, rfl, e2', by rw [← e3'.length]; exact Nat.lt_of_lt_of_le hc (by decide), ?_⟩
  exact k σ F' _ (x'.write hi e1 (e3'.append (.cons r .nil)))
/-- x[i] = e -/
def setAt (ds : List D) (d : D) : D → R (List D)
  | .int k => match ixN ds.length k with
    | some j => .ok (ds.set j d)
    | none => .bad
  | _ => .bad
def sPut (i : Nat) (f fi : En → R D) : En → R O := fun ρ => (f ρ).bind fun d => (fOwn i ρ).bind fun ds => (fi ρ).bind fun k => (setAt ds d k).bind fun es => .ok (.nx (ρ.set i (some (.lst es, true))))
theorem rs_put {j : Nat} {x : Str} {p : Pos} (hN : X.N[j]? = some x) (hv : Vis X.env.scope x) (he : RE X W e fe) (hi : RB X W i fi) (hd : (x == ("__debug__" : Str)) = false := by decide) (hcd : (x == ("__classdict__" : Str)) = false := by decide)
    (ha : ∀ v, assign (.Subscript (.Name x p) i tpos) X.env v = (do
      let ov ← holding [v] (eval (.Name x p) X.env)
      let iv ← holding [v, ov] (eval i X.env)
      standAt tpos
      holding [v, ov, iv] (setItem ov iv v)
      release [v, ov, iv] []) := by intro _; rfl)
    (hs : swapsWithSole [.Subscript (.Name x p) i tpos] e pos.line X.env = pure false := by rfl) (hw' : swappedStores [.Subscript (.Name x p) i tpos] e X.env = pure none := by rfl)
    (h1 : (assignEach [.Subscript (.Name x p) i tpos] X.env).map (·.2) = [assign (.Subscript (.Name x p) i tpos) X.env] := by rfl) :
    RS X W (.Assign [.Subscript (.Name x p) i tpos] e pos) (sPut j fe fi) := fun B F0 F H σ ρ Z x hw => by
  refine ⟨_, ps_asg (pe_W e) (pg_sub (pe_var hN hv hd hcd) (pe_W i) set_list ha) hs hw' h1, ?_⟩
  refine he B F0 F H σ ρ _ x ((WantS.want (r := fe ρ) x hw).imp fun d F1 H1 _ ⟨g1, k1⟩ v r => ?_)
  have x1 := x.grow g1
  obtain ⟨ds, hj, k1⟩ := own_want k1
  obtain ⟨a, xs, e1, e2, e3⟩ := own_at x1 hj
  refine ⟨_, e1, ?_⟩
  refine hi B F0 F1 H1 σ ρ _ x1 ((WantS.want x1 k1).imp fun kd F2 H2 _ ⟨g2, k2⟩ u ru => ?_)
  have x2 := x1.grow g2
  obtain ⟨a', xs', e1', e2', e3'⟩ := own_at x2 hj
  rw [e1] at e1'
  cases e1'
  cases kd with
  | int z =>
    cases ru.int
    replace k2 : WantS X W B F0 ((match ixN ds.length z with
      | some j => (.ok (ds.set j d) : R (List D))
      | none => .bad).bind fun es => .ok (.nx (ρ.set j (some (.lst es, true))))) Z := k2
    cases hz : ixN ds.length z with
    | none => rw [hz] at k2; exact k2.elim
    | some m =>
      rw [hz] at k2
      refine ⟨a, xs', z, m, rfl, rfl, e2', by rw [← e3'.length]; exact hz, ?_⟩
      exact k2 σ F2 _ (x2.write hj e1 (e3'.set (Rep.mono g2.ff _ _ r) m))
  | _ => exact k2.elim
/-- x += e, x -= e: ints -/
def augR (i : Nat) (h : Int → Int → Int) (ρ : En) : D → D → R O
  | .int m, .int n => .ok (.nx (ρ.set i (some (.int (h m n), false))))
  | _, _ => .bad
def sAug (i : Nat) (h : Int → Int → Int) (f : En → R D) : En → R O := fun ρ => (fVar i ρ).bind fun a => (f ρ).bind fun b => augR i h ρ a b
theorem rs_aug {i : Nat} {x : Str} {p : Pos} {op : Operator} {h : Int → Int → Int} (hN : X.N.Nodup) (hi : X.N[i]? = some x) (hx : Loc X.env.scope x) (he : RE X W e fe) (ho : PIp X op (ipI h)) (hf : X.fn x = true ∨ X.env.scope.names.lookup x = some .local := by first | exact .inl rfl | exact .inr rfl | assumption) :
    RS X W (.AugAssign (.Name x p) op e pos) (sAug i h fe) := fun B F0 F H σ ρ Z x hw => by
  refine ⟨_, ps_aug hN hi hx (pe_W e) ho hf, ?_⟩
  replace hw : WantS X W B F0 ((fVar i ρ).bind fun a => (fe ρ).bind fun b => augR i h ρ a b) Z := hw
  cases hv : fVar i ρ with
  | bad => rw [hv] at hw; exact hw.elim
  | ex y => unfold fVar at hv; split at hv <;> cases hv
  | ok a =>
    rw [hv] at hw
    have hr : ρ[i]? = some (some (a, false)) := by
      unfold fVar at hv
      split at hv
      · cases hv; assumption
      · cases hv
    obtain ⟨v, e1, e2⟩ := x.sl _ _ _ hr
    refine ⟨v, e1, ?_⟩
    refine he B F0 F H σ ρ _ x ((WantS.want (r := fe ρ) (f := fun b => augR i h ρ a b) x hw).imp fun d F' H' _ ⟨g', k⟩ u r => ?_)
    cases a with
    | int m =>
      cases d with
      | int n =>
        cases e2; cases r
        exact ⟨m, n, rfl, rfl, k _ F' H' ((x.grow g').set (.int _))⟩
      | _ => exact k.elim
    | _ => exact k.elim
/-! ### loops -/
def forGo (tgt : D → En → R En) (body : En → R O) : List D → En → R O
  | [], ρ => .ok (.nx ρ)
  | d :: ds, ρ => match tgt d ρ with
    | .ok ρ1 => (body ρ1).bind fun o => match o with
      | .nx ρ2 => forGo tgt body ds ρ2
      | .ct ρ2 => forGo tgt body ds ρ2
      | .bk ρ2 => .ok (.nx ρ2)
      | .rt d => .ok (.rt d)
    | _ => .bad
def sFor (it : En → R (List D)) (tgt : D → En → R En) (body : En → R O) : En → R O := fun ρ => (it ρ).bind fun ds => forGo tgt body ds ρ
theorem rs_for {tg iter : Expr} {body : List Stmt} {it : En → R (List D)} {tgt : D → En → R En} {fb : En → R O} {ts : List Nat} (hp : PassesOwn (model X.prog X.w) X.A X.env X.xe) (hc : X.calm = true) (hi : RI X W tg iter it) (hg : RG X tg ts tgt) (hb : RSs X W body fb)
    (hs : ∀ x, foldedSetIterable iter X.env x = pure x := by intro _; rfl) : RS X W (.For tg iter body [] pos) (sFor it tgt fb) := fun B F0 F H σ ρ Z x hw => by
  refine ⟨_, ps_for hp hc (pi_W tg iter) (pg_W tg) (pss_W body) hs, ?_⟩
  refine hi B F0 F H σ ρ _ x ((WantS.want (r := it ρ) x hw).imp fun ds F1 H1 _ ⟨g1, k1⟩ J hJ => ?_)
  refine ⟨fun i m σ' H' => m = ds.length - i ∧ i ≤ ds.length ∧ ∃ F' ρ', EOk X.K X.wd B F0 F' H' σ' ρ' ∧ Same F1 F' ∧ WantS X W B F0 (forGo tgt fb (ds.drop i) ρ') Z, ⟨ds.length, rfl, Nat.zero_le _, F1, ρ, x.grow g1, Same.refl _, k1⟩, ?_⟩
  rintro i m σ' H' ⟨rfl, hle, F', ρ', x', s', k⟩
  obtain ⟨j1, j2⟩ := hJ i F' H' s' x'.fh
  by_cases hi' : i = ds.length
  · left
    refine ⟨j2 hi', ?_⟩
    rw [hi', List.drop_length] at k
    exact k σ' F' H' x'
  · right
    have hlt : i < ds.length := by omega
    obtain ⟨go, yl⟩ := j1 ds[i] (List.getElem?_eq_getElem hlt)
    refine ⟨go, fun σ2 H2 => ∃ F2 ρ2, EOk X.K X.wd B F0 F2 H2 σ2 ρ2 ∧ Same F1 F2 ∧ WantS X W B F0 (forGo tgt fb (ds.drop (i + 1)) ρ2) Z, fun σ2 H2 q => ⟨ds.length - (i + 1), by omega, rfl, hlt, q⟩, fun y H2 hy => ?_⟩
    obtain ⟨F2, g2, ry⟩ := yl y H2 hy
    have x2 := x'.grow g2
    rw [List.drop_eq_getElem_cons hlt] at k
    unfold forGo at k
    refine hg B F0 F2 H2 σ' ρ' ds[i] y _ x2 ry ?_
    cases hq : tgt ds[i] ρ' with
    | ex _ => rw [hq] at k; exact k.elim
    | bad => rw [hq] at k; exact k.elim
    | ok ρ1 =>
      rw [hq] at k
      dsimp only at k
      intro σ1 x1 _
      have k' := WantS.rebase x2.g k
      have sF : Same F1 F2 := s'.trans g2.ff
      refine hb B F2 F2 H2 σ1 ρ1 _ x1.base ?_
      cases hr : fb ρ1 with
      | bad => rw [hr] at k'; exact k'.elim
      | ex z => rw [hr] at k'; exact k'
      | ok o =>
        rw [hr] at k k'
        cases o with
        | nx ρ3 => exact fun σ3 F3 H3 x3 => ⟨F3, ρ3, x3.rebase x2.g, sF.trans x3.g.ff, k⟩
        | ct ρ3 => exact fun σ3 F3 H3 x3 => ⟨F3, ρ3, x3.rebase x2.g, sF.trans x3.g.ff, k⟩
        | bk ρ3 => exact fun σ3 F3 H3 x3 => k' σ3 F3 H3 x3
        | rt d => exact k'
def whGo (c : En → R Bool) (body : En → R O) : Nat → En → R O
  | 0, _ => .bad
  | n + 1, ρ => (c ρ).bind fun b => if b = true then (body ρ).bind fun o => match o with
      | .nx ρ2 => whGo c body n ρ2
      | .ct ρ2 => whGo c body n ρ2
      | .bk ρ2 => .ok (.nx ρ2)
      | .rt d => .ok (.rt d)
    else .ok (.nx ρ)
def sWh (n : Nat) (c : En → R Bool) (body : En → R O) : En → R O := whGo c body n
theorem rs_while (n : Nat) {c : Expr} {body : List Stmt} {fc : En → R Bool} {fb : En → R O} (hp : PassesOwn (model X.prog X.w) X.A X.env X.xe) (hc : RT X W c fc) (hb : RSs X W body fb) : RS X W (.While c body [] pos) (sWh n fc fb) := fun B F0 F H σ ρ Z x hw => by
  refine ⟨_, ps_while hp (pt_W c) (pss_W body), ?_⟩
  refine ⟨fun m σ' H' => ∃ F' ρ', EOk X.K X.wd B F0 F' H' σ' ρ' ∧ WantS X W B F0 (whGo fc fb m ρ') Z, ⟨n, F, ρ, x, hw⟩, ?_⟩
  rintro m σ' H' ⟨F', ρ', x', k⟩
  cases m with
  | zero => exact k.elim
  | succ m =>
    unfold whGo at k
    refine hc B F0 F' H' σ' ρ' _ x' ((WantS.want x' k).imp fun b F1 H1 _ ⟨g1, k1⟩ => ?_)
    have x1 := x'.grow g1
    cases b with
    | false => exact k1 σ' F1 H1 x1
    | true =>
      refine ⟨fun σ2 H2 => ∃ F2 ρ2, EOk X.K X.wd B F0 F2 H2 σ2 ρ2 ∧ WantS X W B F0 (whGo fc fb m ρ2) Z, fun σ2 H2 q => ⟨m, Nat.lt_succ_self _, q⟩, ?_⟩
      rw [if_pos rfl] at k1
      refine hb B F0 F1 H1 σ' ρ' _ x1 ?_
      cases hr : fb ρ' with
      | bad => rw [hr] at k1; exact k1.elim
      | ex z => rw [hr] at k1; exact k1
      | ok o =>
        rw [hr] at k1
        cases o with
        | nx ρ3 => exact fun σ3 F3 H3 x3 => ⟨F3, ρ3, x3, k1⟩
        | ct ρ3 => exact fun σ3 F3 H3 x3 => ⟨F3, ρ3, x3, k1⟩
        | bk ρ3 => exact fun σ3 F3 H3 x3 => k1 σ3 F3 H3 x3
        | rt d => exact k1
/-- a statement that is not come to -/
def sNo : En → R O := fun _ => .bad
theorem rs_no : RS X W st sNo := fun B F0 F H σ ρ Z x hw => hw.elim
end
end Pc
set_option maxHeartbeats 4000000
namespace Pc
open PySem L2
/-! ### defs -/
abbrev wd0 (w : World) (mg : Str → Option Value) : Wd := ⟨w, mg, none⟩
def spOf (K : PySem.W.Frag) (w : World) (mg : Str → Option Value) (n : Nat) (g : List D → R D) : Sp := fun vs H Q E => vs.length = n ∧ ∃ ds F, Same F H ∧ Reps K (wd0 w mg) F ds vs ∧
  Want K (wd0 w mg) mg (g ds) F H (fun d F' H' => ∀ v, Rep K (wd0 w mg) F' d v → Q v H') (fun C dd H' => E C dd H')
structure Def (P : Program) (w : World) (K : PySem.W.Frag) (mg : Str → Option Value) (base : Heap) (x : Str) (k n : Nat) (g : List D → R D) : Prop where
  ex : ∃ f fd ps, FnOk P w K mg base (L2.CX P w) k f fd ps (spOf K w mg n g) ∧ mg x = some (.ref f) ∧ PySem.W.keepIn K (.ref f) = true ∧ Binds K fd ps []
def ini (m : Nat) (ds : List D) : En := ds.map (fun d => some (d, false)) ++ List.replicate (m - ds.length) none
def endD : R O → R D
  | .ok (.rt d) => .ok d
  | .ok (.nx _) => .ok .non
  | .ok _ => .bad
  | .ex x => .ex x
  | .bad => .bad
def runDef (m : Nat) (body : En → R O) (ds : List D) : R D := endD (body (ini m ds))
section
variable {P : Program} {w : World} {K : PySem.W.Frag} {mg : Str → Option Value} {base : Heap}
theorem start_ok {wd : Wd} {F H : Hp} (s : Same F H) (m : Nat) : ∀ {ds : List D} {vs : List V}, Reps K wd F ds vs → EOk K wd H F F H (vs.map some ++ List.replicate (m - vs.length) none) (ini m ds) := fun {ds vs} r => by
  have hl := r.length
  refine ⟨Grow.refl s, by simp [ini, hl], fun i d o e => ?_, fun i j d e v n h1 h2 h3 h4 => ?_⟩
  · unfold ini at e
    by_cases hi : i < ds.length
    · rw [List.getElem?_append_left (by simpa using hi), List.getElem?_map, Option.map_eq_some_iff] at e
      obtain ⟨d', e1, e2⟩ := e
      cases e2
      obtain ⟨v, e3, e4⟩ := r.get e1
      exact ⟨v, by rw [List.getElem?_append_left (by simp; omega), List.getElem?_map, e3]; rfl, e4⟩
    · rw [List.getElem?_append_right (by simpa using hi), List.getElem?_replicate] at e
      split at e <;> cases e
  · unfold ini at h1
    by_cases hi : i < ds.length
    · rw [List.getElem?_append_left (by simpa using hi), List.getElem?_map, Option.map_eq_some_iff] at h1
      obtain ⟨d', _, e2⟩ := h1
      cases e2
    · rw [List.getElem?_append_right (by simpa using hi), List.getElem?_replicate] at h1
      split at h1 <;> cases h1
/-- what an expression may lean on: room, exceptions taken, nothing handled -/
structure Bq (X : Cx) (W : WX) (k : Nat) : Prop where
  hr : Room k X.A
  tk : Takes X W
  hc : X.calm = true
  hu : X.A.units + 64 < cLine
/-- what a body may lean on -/
structure Bd (X : Cx) (W : WX) (k : Nat) : Prop where
  q : Bq X W k
  hp : PassesOwn (model X.prog X.w) X.A X.env X.xe
theorem fn_ok {x qual : Str} {st : Stmt} {f : Addr} {fd : FuncData} {N ps : List Str} {k : Nat} {fb : En → R O} (F : Fun K x qual st f fd) (S : FnScope N ps (defScope st))
    (h : ∀ (cdv : Value) (A : Around) (outer : List Env) (s : Shared) (H : Hp) (E : XK), Bd (cxOf (L2.CX P w) P w K mg base N qual (defScope st) f cdv A outer s H E) (fun c d _ H => E c d H) k →
      RSs (cxOf (L2.CX P w) P w K mg base N qual (defScope st) f cdv A outer s H E) (fun c d _ H => E c d H) (defBody st) fb) :
    FnOk P w K mg base (L2.CX P w) (k + 1) f fd ps (spOf K w mg ps.length (runDef N.length fb)) := by
  refine F.okX S (fun vs H Q E h => h.1) (fun cdv A outer s H vs Q E hr hsp => ?_)
  obtain ⟨hl, ds, F0, sF, r, hw⟩ := hsp
  refine ⟨_, pss_W _, ?_⟩
  refine h cdv A outer s H E ⟨⟨hr, takes_of rfl rfl rfl rfl, rfl, hr.units⟩, passes_of rfl⟩ H F0 F0 H _ _ _ (start_ok sF N.length r) ?_
  unfold runDef at hw
  show WantS _ _ H F0 (fb (ini N.length ds)) { nx := fun _ H' => Q .non H', rt := Q }
  cases e : fb (ini N.length ds) with
  | bad => rw [e] at hw; exact hw.elim
  | ex y => rw [e] at hw; exact fun C dd σ F' H' g e => hw C dd F' H' g e
  | ok o =>
    rw [e] at hw
    cases o with
    | nx ρ => exact fun σ F' H' x => hw F' H' x.g _ .non
    | rt d => exact fun v F' H' g r => hw F' H' g v r
    | bk ρ => exact hw.elim
    | ct ρ => exact hw.elim
theorem fn_def {x qual : Str} {st : Stmt} {f : Addr} {fd : FuncData} {N ps : List Str} {k : Nat} {fb : En → R O} (F : Fun K x qual st f fd) (S : FnScope N ps (defScope st)) (hm : mg x = some (.ref f)) (hb : Binds K fd ps [])
    (h : ∀ (cdv : Value) (A : Around) (outer : List Env) (s : Shared) (H : Hp) (E : XK), Bd (cxOf (L2.CX P w) P w K mg base N qual (defScope st) f cdv A outer s H E) (fun c d _ H => E c d H) k →
      RSs (cxOf (L2.CX P w) P w K mg base N qual (defScope st) f cdv A outer s H E) (fun c d _ H => E c d H) (defBody st) fb) :
    Def P w K mg base x (k + 1) ps.length (runDef N.length fb) := ⟨f, fd, ps, fn_ok F S h, hm, F.kp, hb⟩
/-- the law's promise: of a list of at most 63 ints True -/
def spLaw (K : PySem.W.Frag) : Sp := fun vs H Q _ => ∃ (a : Addr) (ns : List Int), vs = [.ref a] ∧ SqL K H a (ns.map V.int) ∧ ns.length ≤ 63 ∧ ∀ H', Q (.bl true) H'
theorem law_fn {k : Nat} {f : Addr} {fd : FuncData} {ps : List Str} {g : List D → R D} (main : ∀ ns : List Int, ns.length ≤ 63 → g [.scr ns] = .ok (.bl true)) (h : FnOk P w K mg base (L2.CX P w) k f fd ps (spOf K w mg 1 g)) :
    FnOk P w K mg base (L2.CX P w) k f fd ps (spLaw K) := h.imp fun vs H Q E q => by
  obtain ⟨a, ns, rfl, hs, hl, k⟩ := q
  refine ⟨rfl, [.scr ns], H, Same.refl H, .cons (.scr hs) .nil, ?_⟩
  rw [main ns hl]
  intro F' H' _ v r
  cases r
  exact k H'
theorem no_law {H : Hp} {s : Shared} {e : Value} {s' : Shared} (h : L2.CX P w [] H s (fun _ _ _ => False) e s') : False := by
  obtain ⟨_, _, _, _, _, _, _, _, _, _, _, _, z⟩ := h
  exact z
theorem law_walk {l : PySem.W.OpenLaw} {k : Nat} {q : Program} {loose : List Str} {XP : (Str → Option Value) → Heap → Prop} {YP : World → Heap → Prop} {d : DefRec} {K : Params → PySem.W.Frag} (hn : l.most = some 63) (hdf : d.params.defaults = []) (hr : Room k callerA)
    (hY : ∀ (w : World) (h : Heap), YP w h → (K w.params).In h)
    (F : ∀ (w : World) (mg : Str → Option Value) (fa : Addr) (h : Heap), (K w.params).In h → h.Ns mainGlobals mg → mg d.name = some (.ref fa) →
      ∃ fd : FuncData, (∀ (s : Shared) (u : Value), BindsTo s fd ⟨[u], []⟩ [("script", u)]) ∧ ∀ base : Heap, (K w.params).In base → base.Ns mainGlobals mg → FnOk l.prog w (K w.params) mg base (L2.CX l.prog w) k fa fd ["script"] (spLaw (K w.params))) :
    PySem.W.WalkO q loose XP YP l.row.toRowW d [] (fun f vs => PySem.call f vs) :=
  L2.walk_of (n := 63) (k := k) (x := "script") (CX := fun w => L2.CX l.prog w) (sp := fun w => spLaw (K w.params)) hn (by decide) hdf hr hY F (fun _ _ a ns hl _ hS => ⟨a, ns, rfl, hS, hl, fun _ => rfl⟩) fun _ _ _ _ _ z => no_law z
end
section
variable {X : Cx} {W : WX} {e : Expr} {es : List Expr} {x : Str} {p pos : Pos} {fa : En → R (List D)} {k n : Nat} {g : List D → R D}
def fCall (n : Nat) (g : List D → R D) (fa : En → R (List D)) : En → R D := fun ρ => (fa ρ).bind fun ds => if ds.length = n then g ds else .bad
theorem re_call {j : Nat} (d : Def X.prog X.w X.K X.mg X.base x k n g) (b : Bq X W j) (hj : k ≤ j) (hg : Gl X x) (ha : RA X W (e :: es) fa)
    (hdb : (x == ("__debug__" : Str)) = false := by decide) (he : starEach (e :: es) X.env = (false, eval e X.env) :: starEach es X.env := by rfl) (hpl : (backTo pos (starEach es X.env)).any (·.1) = false := by rfl) :
    RE X W (.Call (.Name x p) (e :: es) [] pos) (fCall n g fa) := fun B F0 F H σ ρ Q x0 hw => by
  obtain ⟨f, fd, ps, F1, hm, hk, hb⟩ := d.ex
  refine ⟨_, pe_callS (E := fun σ c dd H => W c dd σ H) F1 (b.hr.mono hj) hg hm hk hb (fun σ => passAt b.tk σ) (pa_W _) hdb he hpl, ?_⟩
  have ew : X.wd = wd0 X.w X.mg := wd_calm b.hc
  refine ha B F0 F H σ ρ _ x0 ((Want.bind (r := fa ρ) hw).imp fun ds F1 H1 g1 k vs r => ?_)
  obtain ⟨hc, k⟩ := ifW k
  refine ⟨by rw [← r.length]; exact hc, ds, F1, g1.fh, by rw [← ew]; exact r, ?_⟩
  rw [← ew]
  exact k
/-- in a comprehension's block -/
theorem Bq.blk {j : Nat} (b : Bq X W j) (s : Shared) (H : Hp) (scope : Scope) (cenv : Env) (fp : List Addr) : Bq (X.blk s H scope cenv fp) WF j :=
  ⟨b.hr, takes0, b.hc, b.hu⟩
def fL (f : En → R (List D)) : En → R D := fun ρ => (f ρ).bind fun ds => .ok (.lst ds)
theorem rfe {f : En → R (List D)} (h : RF X W e f) : RE X W e (fL f) := RF.re h

/-! ### built-in functions -/
def CallD (X : Cx) (r : List V → Hp → VK → Prop) (g : List D → R D) : Prop := ∀ F H ds vs (Q : VK) (e : Value → Option Addr → Hp → Prop), Same F H → BReps X.K X.wd F H ds vs →
  Want X.K X.wd X.mg (g ds) F H (fun d F' H' => ∀ v, Rep X.K X.wd F' d v → Q v H') e → r vs H Q
def CallF (X : Cx) (r : List V → Hp → VK → Prop) (g : List D → R (List D)) : Prop := ∀ F H ds vs (Q : VK) (e : Value → Option Addr → Hp → Prop), Same F H → BReps X.K X.wd F H ds vs →
  Want X.K X.wd X.mg (g ds) F H (fun es F' H' => ∀ p xs, H p = none → F' p = none → H' p = some (.lst xs) → Reps X.K X.wd F' es xs → Q (.ref p) H') e → r vs H Q
def fBi {α : Type} (g : List D → R α) (fa : En → R (List D)) : En → R α := fun ρ => (fa ρ).bind g
variable {r : List V → Hp → VK → Prop} {id : String}
theorem re_bi {g : List D → R D} (hc : CallR X (.builtin id) r) (hd : CallD X r g) (hg : Gl X x) (hm : X.mg x = none) (hv : bootBuiltins x = some (.builtin id)) (ha : RAB X W (e :: es) fa) (hn : x ≠ "__name__" := by decide) (hdb : (x == ("__debug__" : Str)) = false := by decide)
    (he : starEach (e :: es) X.env = (false, eval e X.env) :: starEach es X.env := by rfl) (hpl : (backTo pos (starEach es X.env)).any (·.1) = false := by rfl) : RE X W (.Call (.Name x p) (e :: es) [] pos) (fBi g fa) := fun B F0 F H σ ρ Q x0 hw => by
  refine ⟨_, pe_callB hc hg hm hv (pa_W _) hn hdb he hpl, ?_⟩
  exact ha B F0 F H σ ρ _ x0 ((Want.bind (r := fa ρ) hw).imp fun ds F1 H1 g1 k vs r => hd F1 H1 ds vs Q _ g1.fh r k)
theorem re_bfun {g : List D → R D} (hc : CallR X (.builtin id) r) (hd : CallD X r g) (hg : Gl X x) (hm : X.mg x = some (.builtin id)) (ha : RAB X W (e :: es) fa) (hdb : (x == ("__debug__" : Str)) = false := by decide)
    (he : starEach (e :: es) X.env = (false, eval e X.env) :: starEach es X.env := by rfl) (hpl : (backTo pos (starEach es X.env)).any (·.1) = false := by rfl) : RE X W (.Call (.Name x p) (e :: es) [] pos) (fBi g fa) := fun B F0 F H σ ρ Q x0 hw => by
  refine ⟨_, pe_callBfun hc hg hm (pa_W _) hdb he hpl, ?_⟩
  exact ha B F0 F H σ ρ _ x0 ((Want.bind (r := fa ρ) hw).imp fun ds F1 H1 g1 k vs r => hd F1 H1 ds vs Q _ g1.fh r k)
theorem re_ty {g : List D → R D} (hc : CallR X (.type id) r) (hd : CallD X r g) (hg : Gl X x) (hm : X.mg x = none) (hv : bootBuiltins x = some (.type id)) (ha : RAB X W (e :: es) fa) (hn : x ≠ "__name__" := by decide) (hdb : (x == ("__debug__" : Str)) = false := by decide)
    (he : starEach (e :: es) X.env = (false, eval e X.env) :: starEach es X.env := by rfl) (hpl : (backTo pos (starEach es X.env)).any (·.1) = false := by rfl) : RE X W (.Call (.Name x p) (e :: es) [] pos) (fBi g fa) := fun B F0 F H σ ρ Q x0 hw => by
  refine ⟨_, pe_callTy hc hg hm hv (pa_W _) hn hdb he hpl, ?_⟩
  exact ha B F0 F H σ ρ _ x0 ((Want.bind (r := fa ρ) hw).imp fun ds F1 H1 g1 k vs r => hd F1 H1 ds vs Q _ g1.fh r k)
/-- a new list is told by its place at the call -/
theorem callF_step {fa : En → R (List D)} {g : List D → R (List D)} (hd : CallF X r g) (ha : RAB X W (e :: es) fa) {B F0 F H : Hp} {σ : St} {ρ : En} {Q : VK} (x0 : EOk X.K X.wd B F0 F H σ ρ)
    (hw : Want X.K X.wd X.mg ((fa ρ).bind g) F H (fun ds F' H' => ∀ p xs, H p = none → F' p = none → H' p = some (.lst xs) → Reps X.K X.wd F' ds xs → Q (.ref p) H') (fun C dd H' => W C dd σ H')) : WA X (e :: es) σ H fun vs H1 => r vs H1 Q := by
  refine ha B F0 F H σ ρ _ x0 ((Want.bind hw).imp fun ds F1 H1 g1 k vs r => ?_)
  exact hd F1 H1 ds vs Q _ g1.fh r (k.imp fun es F2 H2 g2 k2 p xs h1 h2 h3 h4 => k2 p xs (g1.hh.free h1) h2 h3 h4)
theorem rf_bi {g : List D → R (List D)} (hc : CallR X (.builtin id) r) (hd : CallF X r g) (hg : Gl X x) (hm : X.mg x = none) (hv : bootBuiltins x = some (.builtin id)) (ha : RAB X W (e :: es) fa) (hn : x ≠ "__name__" := by decide) (hdb : (x == ("__debug__" : Str)) = false := by decide)
    (he : starEach (e :: es) X.env = (false, eval e X.env) :: starEach es X.env := by rfl) (hpl : (backTo pos (starEach es X.env)).any (·.1) = false := by rfl) : RF X W (.Call (.Name x p) (e :: es) [] pos) (fBi g fa) := fun B F0 F H σ ρ Q x0 hw =>
  ⟨_, pe_callB hc hg hm hv (pa_W _) hn hdb he hpl, callF_step hd ha x0 hw⟩
theorem rf_ty {g : List D → R (List D)} (hc : CallR X (.type id) r) (hd : CallF X r g) (hg : Gl X x) (hm : X.mg x = none) (hv : bootBuiltins x = some (.type id)) (ha : RAB X W (e :: es) fa) (hn : x ≠ "__name__" := by decide) (hdb : (x == ("__debug__" : Str)) = false := by decide)
    (he : starEach (e :: es) X.env = (false, eval e X.env) :: starEach es X.env := by rfl) (hpl : (backTo pos (starEach es X.env)).any (·.1) = false := by rfl) : RF X W (.Call (.Name x p) (e :: es) [] pos) (fBi g fa) := fun B F0 F H σ ρ Q x0 hw =>
  ⟨_, pe_callTy hc hg hm hv (pa_W _) hn hdb he hpl, callF_step hd ha x0 hw⟩
theorem BReps.one {K : PySem.W.Frag} {w : Wd} {F H : Hp} {d : D} {vs : List V} (h : BReps K w F H [d] vs) : ∃ v, vs = [v] ∧ BRep K w F H d v := by
  cases h with | cons h1 h2 => cases h2; exact ⟨_, rfl, h1⟩
theorem BReps.two {K : PySem.W.Frag} {w : Wd} {F H : Hp} {d e : D} {vs : List V} (h : BReps K w F H [d, e] vs) : ∃ v u, vs = [v, u] ∧ BRep K w F H d v ∧ BRep K w F H e u := by
  cases h with | cons h1 h2 => cases h2 with | cons h2 h3 => cases h3; exact ⟨_, _, rfl, h1, h2⟩
/-- len -/
def lenD : List D → R D
  | [.lst ds] => .ok (.int ds.length)
  | [.tup ds] => .ok (.int ds.length)
  | [.scr ds] => .ok (.int ds.length)
  | [.str z] => if z.length ≤ lim then .ok (.int z.length) else .bad
  | _ => .bad
abbrev rLen (K : PySem.W.Frag) : List V → Hp → VK → Prop := fun xs H Q => (∃ p ys, xs = [.ref p] ∧ (SqL K H p ys ∨ SqT K H p ys) ∧ Q (.int ys.length) H) ∨ ∃ z, xs = [.str z] ∧ z.length ≤ sizeLine ∧ Q (.int z.length) H
theorem c_len : CallR X (.builtin "len") (rLen X.K) := call_len_seq.or call_len_str
theorem d_len : CallD X (rLen X.K) lenD := by
  intro F H ds vs Q e s r hw
  unfold lenD at hw
  split at hw
  · obtain ⟨v, rfl, b⟩ := r.one
    obtain ⟨a, xs, rfl, h1, h2⟩ := b.lst s
    exact .inl ⟨a, xs, rfl, .inl (SqL.of h1), by rw [← h2.length]; exact hw F H (Grow.refl s) _ (.int _)⟩
  · obtain ⟨v, rfl, b⟩ := r.one
    obtain ⟨a, xs, rfl, h1, h2⟩ := b.tup s
    exact .inl ⟨a, xs, rfl, .inr h1, by rw [← h2.length]; exact hw F H (Grow.refl s) _ (.int _)⟩
  · obtain ⟨v, rfl, b⟩ := r.one
    obtain ⟨a, rfl, h1⟩ := b.scr s
    exact .inl ⟨a, _, rfl, .inl h1, by rw [List.length_map]; exact hw F H (Grow.refl s) _ (.int _)⟩
  · obtain ⟨v, rfl, b⟩ := r.one
    cases b.str
    obtain ⟨hc, hw⟩ := ifW hw
    exact .inr ⟨_, rfl, lim_le hc, hw F H (Grow.refl s) _ (.int _)⟩
  · exact hw.elim
/-- abs, int -/
def absD : List D → R D
  | [.int i] => .ok (.int (if i < 0 then -i else i))
  | _ => .bad
theorem d_abs : CallD X (fun xs H Q => ∃ i, xs = [.int i] ∧ Q (.int (if i < 0 then -i else i)) H) absD := by
  intro F H ds vs Q e s r hw
  unfold absD at hw
  split at hw
  · obtain ⟨v, rfl, b⟩ := r.one
    cases b.int
    exact ⟨_, rfl, hw F H (Grow.refl s) _ (.int _)⟩
  · exact hw.elim
def intD : List D → R D
  | [.int i] => .ok (.int i)
  | [.bl k] => .ok (.int (if k then 1 else 0))
  | _ => .bad
theorem d_int : CallD X (fun xs H Q => (∃ i, xs = [.int i] ∧ Q (.int i) H) ∨ ∃ k, xs = [.bl k] ∧ Q (.int (if k then 1 else 0)) H) intD := by
  intro F H ds vs Q e s r hw
  unfold intD at hw
  split at hw
  · obtain ⟨v, rfl, b⟩ := r.one
    cases b.int
    exact .inl ⟨_, rfl, hw F H (Grow.refl s) _ (.int _)⟩
  · obtain ⟨v, rfl, b⟩ := r.one
    cases b.bl
    exact .inr ⟨_, rfl, hw F H (Grow.refl s) _ (.int _)⟩
  · exact hw.elim
/-- the ints of a list -/
def D.ints : List D → Option (List Int)
  | [] => some []
  | .int i :: ds => (D.ints ds).map (i :: ·)
  | _ => none
theorem ints_ok : ∀ {ds : List D} {ns : List Int}, D.ints ds = some ns → ds = ns.map .int
  | [], _, h => by cases h; rfl
  | .int i :: ds, _, h => by
    simp only [D.ints, Option.map_eq_some_iff] at h
    obtain ⟨ns, e1, rfl⟩ := h
    rw [ints_ok e1]; rfl
theorem ints_map (ns : List Int) : D.ints (ns.map .int) = some ns := by
  induction ns with
  | nil => rfl
  | cons n ns ih => simp [D.ints, ih]
def minL : List Int → Int
  | [] => 0
  | x :: xs => xs.foldl (fun a y => if y < a then y else a) x
def maxL : List Int → Int
  | [] => 0
  | x :: xs => xs.foldl (fun a y => if a < y then y else a) x
theorem fmin_le : ∀ (xs : List Int) (x : Int), xs.foldl (fun a y => if y < a then y else a) x ≤ x ∧ (∀ y ∈ xs, xs.foldl (fun a y => if y < a then y else a) x ≤ y) ∧ (xs.foldl (fun a y => if y < a then y else a) x = x ∨ xs.foldl (fun a y => if y < a then y else a) x ∈ xs) := fun xs => by
  induction xs with
  | nil => exact fun x => ⟨Int.le_refl x, (fun _ h => by cases h), .inl rfl⟩
  | cons y xs ih =>
    intro x
    rw [List.foldl_cons]
    by_cases h : y < x
    · rw [if_pos h]
      obtain ⟨h1, h2, h3⟩ := ih y
      refine ⟨by omega, fun z hz => ?_, .inr ?_⟩
      · rcases List.mem_cons.mp hz with rfl | hz
        · exact h1
        · exact h2 z hz
      · rcases h3 with h3 | h3
        · rw [h3]; exact List.mem_cons_self
        · exact List.mem_cons_of_mem _ h3
    · rw [if_neg h]
      obtain ⟨h1, h2, h3⟩ := ih x
      refine ⟨h1, fun z hz => ?_, ?_⟩
      · rcases List.mem_cons.mp hz with rfl | hz
        · omega
        · exact h2 z hz
      · rcases h3 with h3 | h3
        · exact .inl h3
        · exact .inr (List.mem_cons_of_mem _ h3)
theorem fmax_le : ∀ (xs : List Int) (x : Int), x ≤ xs.foldl (fun a y => if a < y then y else a) x ∧ (∀ y ∈ xs, y ≤ xs.foldl (fun a y => if a < y then y else a) x) ∧ (xs.foldl (fun a y => if a < y then y else a) x = x ∨ xs.foldl (fun a y => if a < y then y else a) x ∈ xs) := fun xs => by
  induction xs with
  | nil => exact fun x => ⟨Int.le_refl x, (fun _ h => by cases h), .inl rfl⟩
  | cons y xs ih =>
    intro x
    rw [List.foldl_cons]
    by_cases h : x < y
    · rw [if_pos h]
      obtain ⟨h1, h2, h3⟩ := ih y
      refine ⟨by omega, fun z hz => ?_, .inr ?_⟩
      · rcases List.mem_cons.mp hz with rfl | hz
        · exact h1
        · exact h2 z hz
      · rcases h3 with h3 | h3
        · rw [h3]; exact List.mem_cons_self
        · exact List.mem_cons_of_mem _ h3
    · rw [if_neg h]
      obtain ⟨h1, h2, h3⟩ := ih x
      refine ⟨h1, fun z hz => ?_, ?_⟩
      · rcases List.mem_cons.mp hz with rfl | hz
        · omega
        · exact h2 z hz
      · rcases h3 with h3 | h3
        · exact .inl h3
        · exact .inr (List.mem_cons_of_mem _ h3)
theorem minL_le {ns : List Int} {y : Int} (h : y ∈ ns) : minL ns ≤ y := by
  cases ns with
  | nil => cases h
  | cons x xs =>
    rcases List.mem_cons.mp h with rfl | h
    · exact (fmin_le xs _).1
    · exact (fmin_le xs x).2.1 y h
theorem minL_mem {ns : List Int} (h : ns ≠ []) : minL ns ∈ ns := by
  cases ns with
  | nil => exact absurd rfl h
  | cons x xs =>
    rcases (fmin_le xs x).2.2 with e | e
    · show xs.foldl _ x ∈ _
      rw [e]; exact List.mem_cons_self
    · exact List.mem_cons_of_mem _ e
theorem le_maxL {ns : List Int} {y : Int} (h : y ∈ ns) : y ≤ maxL ns := by
  cases ns with
  | nil => cases h
  | cons x xs =>
    rcases List.mem_cons.mp h with rfl | h
    · exact (fmax_le xs _).1
    · exact (fmax_le xs x).2.1 y h
theorem maxL_mem {ns : List Int} (h : ns ≠ []) : maxL ns ∈ ns := by
  cases ns with
  | nil => exact absurd rfl h
  | cons x xs =>
    rcases (fmax_le xs x).2.2 with e | e
    · show xs.foldl _ x ∈ _
      rw [e]; exact List.mem_cons_self
    · exact List.mem_cons_of_mem _ e
def minD : List D → R D
  | [.int i, .int j] => .ok (.int (if j < i then j else i))
  | [.lst ds] => match D.ints ds with
    | some (n :: ns) => .ok (.int (minL (n :: ns)))
    | _ => .bad
  | _ => .bad
def maxD : List D → R D
  | [.int i, .int j] => .ok (.int (if j > i then j else i))
  | [.lst ds] => match D.ints ds with
    | some (n :: ns) => .ok (.int (maxL (n :: ns)))
    | _ => .bad
  | _ => .bad
abbrev rMinX (K : PySem.W.Frag) : List V → Hp → VK → Prop := fun xs H Q => (∃ i j, xs = [.int i, .int j] ∧ Q (.int (if j < i then j else i)) H) ∨ rMin K xs H Q
abbrev rMaxX (K : PySem.W.Frag) : List V → Hp → VK → Prop := fun xs H Q => (∃ i j, xs = [.int i, .int j] ∧ Q (.int (if j > i then j else i)) H) ∨ rMax K xs H Q
theorem c_min (hc : X.calm = true) : CallR X (.builtin "min") (rMinX X.K) := (call_min2 hc).or (cr_min hc)
theorem c_max (hc : X.calm = true) : CallR X (.builtin "max") (rMaxX X.K) := (call_max2 hc).or (cr_max hc)
theorem d_min : CallD X (rMinX X.K) minD := by
  intro F H ds vs Q e s r hw
  unfold minD at hw
  split at hw
  · obtain ⟨v, u, rfl, b, c⟩ := r.two
    cases b.int; cases c.int
    exact .inl ⟨_, _, rfl, hw F H (Grow.refl s) _ (.int _)⟩
  · obtain ⟨v, rfl, b⟩ := r.one
    obtain ⟨a, xs, rfl, h1, h2⟩ := b.lst s
    split at hw
    · rename_i n ns hn
      have e1 := ints_ok hn
      subst e1
      have e2 := h2.intsV
      subst e2
      refine .inr ⟨a, _, rfl, SqL.of h1, Nat.succ_pos _, fun m hm hle => ?_⟩
      have e3 : m = minL (n :: ns) := Int.le_antisymm (hle _ (minL_mem (by simp))) (minL_le hm)
      rw [e3]
      exact hw F H (Grow.refl s) _ (.int _)
    · exact hw.elim
  · exact hw.elim
theorem d_max : CallD X (rMaxX X.K) maxD := by
  intro F H ds vs Q e s r hw
  unfold maxD at hw
  split at hw
  · obtain ⟨v, u, rfl, b, c⟩ := r.two
    cases b.int; cases c.int
    exact .inl ⟨_, _, rfl, hw F H (Grow.refl s) _ (.int _)⟩
  · obtain ⟨v, rfl, b⟩ := r.one
    obtain ⟨a, xs, rfl, h1, h2⟩ := b.lst s
    split at hw
    · rename_i n ns hn
      have e1 := ints_ok hn
      subst e1
      have e2 := h2.intsV
      subst e2
      refine .inr ⟨a, _, rfl, SqL.of h1, Nat.succ_pos _, fun m hm hle => ?_⟩
      have e3 : m = maxL (n :: ns) := Int.le_antisymm (le_maxL hm) (hle _ (maxL_mem (by simp)))
      rw [e3]
      exact hw F H (Grow.refl s) _ (.int _)
    · exact hw.elim
  · exact hw.elim
end
end Pc
set_option maxHeartbeats 4000000
namespace Pc
open PySem L2
/-! ### sorting ints -/
def ins (n : Int) : List Int → List Int
  | [] => [n]
  | x :: xs => if n ≤ x then n :: x :: xs else x :: ins n xs
def isort : List Int → List Int
  | [] => []
  | x :: xs => ins x (isort xs)
theorem ins_perm (n : Int) : ∀ xs : List Int, (ins n xs).Perm (n :: xs)
  | [] => .refl _
  | x :: xs => by
    unfold ins
    split
    · exact .refl _
    · exact ((ins_perm n xs).cons x).trans (.swap n x xs)
theorem isort_perm : ∀ xs : List Int, (isort xs).Perm xs
  | [] => .refl _
  | x :: xs => (ins_perm x _).trans ((isort_perm xs).cons x)
theorem ins_sorted (n : Int) : ∀ {xs : List Int}, xs.Pairwise (· ≤ ·) → (ins n xs).Pairwise (· ≤ ·)
  | [], _ => List.pairwise_singleton _ _
  | x :: xs, h => by
    unfold ins
    split
    · rename_i hn
      refine List.pairwise_cons.mpr ⟨fun y hy => ?_, h⟩
      rcases List.mem_cons.mp hy with rfl | hy
      · exact hn
      · have := (List.pairwise_cons.mp h).1 y hy
        omega
    · rename_i hn
      refine List.pairwise_cons.mpr ⟨fun y hy => ?_, ins_sorted n (List.pairwise_cons.mp h).2⟩
      rcases List.mem_cons.mp ((ins_perm n xs).mem_iff.mp hy) with rfl | hy
      · omega
      · exact (List.pairwise_cons.mp h).1 y hy
theorem isort_sorted : ∀ xs : List Int, (isort xs).Pairwise (· ≤ ·)
  | [] => .nil
  | x :: xs => ins_sorted x (isort_sorted xs)
theorem sorted_same {a b : List Int} (hp : a.Perm b) (ha : a.Pairwise (· ≤ ·)) (hb : b.Pairwise (· ≤ ·)) : a = b := hp.eq_of_pairwise (fun _ _ _ _ h1 h2 => Int.le_antisymm h1 h2) ha hb
/-- the members, each once, ascending -/
def uins (n : Int) : List Int → List Int
  | [] => [n]
  | x :: xs => if n < x then n :: x :: xs else if n = x then x :: xs else x :: uins n xs
def usort : List Int → List Int
  | [] => []
  | x :: xs => uins x (usort xs)
theorem uins_mem (n k : Int) : ∀ {xs : List Int}, k ∈ uins n xs ↔ k = n ∨ k ∈ xs
  | [] => by simp [uins]
  | x :: xs => by
    unfold uins
    split
    · simp
    · split
      · rename_i h; subst h; simp
      · rw [List.mem_cons, uins_mem n k, List.mem_cons]
        exact ⟨fun h => by rcases h with h | h | h <;> simp [h], fun h => by rcases h with h | h | h <;> simp [h]⟩
theorem usort_mem (k : Int) : ∀ {xs : List Int}, k ∈ usort xs ↔ k ∈ xs
  | [] => by simp [usort]
  | x :: xs => by
    unfold usort
    rw [uins_mem, usort_mem k, List.mem_cons]
theorem uins_sorted (n : Int) : ∀ {xs : List Int}, xs.Pairwise (· < ·) → (uins n xs).Pairwise (· < ·)
  | [], _ => List.pairwise_singleton _ _
  | x :: xs, h => by
    unfold uins
    split
    · rename_i hn
      refine List.pairwise_cons.mpr ⟨fun y hy => ?_, h⟩
      rcases List.mem_cons.mp hy with rfl | hy
      · exact hn
      · have := (List.pairwise_cons.mp h).1 y hy
        omega
    · split
      · exact h
      · refine List.pairwise_cons.mpr ⟨fun y hy => ?_, uins_sorted n (List.pairwise_cons.mp h).2⟩
        rcases (uins_mem n y).mp hy with rfl | hy
        · omega
        · exact (List.pairwise_cons.mp h).1 y hy
theorem usort_sorted : ∀ xs : List Int, (usort xs).Pairwise (· < ·)
  | [] => .nil
  | x :: xs => uins_sorted x (usort_sorted xs)
theorem lt_same {a b : List Int} (ha : a.Pairwise (· < ·)) (hb : b.Pairwise (· < ·)) (h : ∀ k, k ∈ a ↔ k ∈ b) : a = b := by
  have na : a.Nodup := ha.imp fun h => by omega
  have nb : b.Nodup := hb.imp fun h => by omega
  exact sorted_same ((List.perm_ext_iff_of_nodup na nb).mpr h) (ha.imp fun h => by omega) (hb.imp fun h => by omega)
section
variable {X : Cx} {W : WX} {e : Expr} {es : List Expr} {x : Str} {p pos : Pos} {fa : En → R (List D)}
def sortedL : List D → R (List D)
  | [.lst ds] => match D.ints ds with
    | some ns => .ok ((isort ns).map .int)
    | none => .bad
  | [.st is] => if is.length < 64 then .ok ((usort is).map .int) else .bad
  | _ => .bad
abbrev rSrt (K : PySem.W.Frag) (w : World) : List V → Hp → VK → Prop := fun xs H Q => rSortedI K xs H Q ∨ rSortedSet w xs H Q
theorem c_sorted (hc : X.calm = true) : CallR X (.builtin "sorted") (rSrt X.K X.w) := cr_sortedI.or (cr_sortedSet hc)
theorem d_sorted : CallF X (rSrt X.K X.w) sortedL := by
  intro F H ds vs Q e s r hw
  unfold sortedL at hw
  split at hw
  · obtain ⟨v, rfl, b⟩ := r.one
    obtain ⟨a, xs, rfl, h1, h2⟩ := b.lst s
    split at hw
    · rename_i ns hn
      have e1 := ints_ok hn
      subst e1
      have e2 := h2.intsV
      subst e2
      refine .inl ⟨a, ns, rfl, SqL.of h1, fun ns' p hp hs hf => ?_⟩
      have e3 : ns' = isort ns := sorted_same (hp.trans (isort_perm ns).symm) hs (isort_sorted ns)
      subst e3
      exact hw F _ ((Grow.refl s).lay hf) p _ hf (s.free hf) upd_same (Reps.ints _)
    · exact hw.elim
  · rename_i is
    obtain ⟨v, rfl, b⟩ := r.one
    obtain ⟨a, S, n, rfl, h1, h2, h3⟩ := b.st s
    obtain ⟨hc, hw⟩ := ifW hw
    refine .inr ⟨a, S, n, rfl, h1, Nat.lt_of_le_of_lt h3 hc, fun ns p hs hm _ hf => ?_⟩
    have e3 : ns = usort is := lt_same hs (usort_sorted _) fun k => by rw [hm, h2, usort_mem]; simp
    subst e3
    exact hw F _ ((Grow.refl s).lay hf) p _ hf (s.free hf) upd_same (Reps.ints _)
  · exact hw.elim
/-- set(l) of a list or tuple of ints -/
def setD : List D → R D
  | [.lst ds] => match D.ints ds with
    | some ns => if ns.length ≤ 1000 then .ok (.st ns) else .bad
    | none => .bad
  | [.tup ds] => match D.ints ds with
    | some ns => if ns.length ≤ 1000 then .ok (.st ns) else .bad
    | none => .bad
  | _ => .bad
def rSetL' (K : PySem.W.Frag) (w : World) : List V → Hp → VK → Prop := fun xs H Q => ∃ (a : Addr) (ns : List Int), xs = [.ref a] ∧ (SqL K H a (ns.map V.int) ∨ SqT K H a (ns.map V.int)) ∧ ns.length ≤ 1000 ∧
  ∀ (p : Addr) (c : Nat), H p = none → c ≤ ns.length → Q (.ref p) (upd H p (SetO w p (fun j => decide (j ∈ ns)) c))
theorem c_set (hc : X.calm = true) : CallR X (.type "set") (rSetL' X.K X.w) := by
  intro pins s σ H xs us Q I r h
  obtain ⟨a, ns, rfl, hs, hn, q⟩ := h
  have hbd : ns.length + 1 < scanBound := by
    have : (scanBound : Nat) > 2000 := by decide
    omega
  have hf : H s.heap.objs.size = none := I.hok.fresh (Nat.le_refl _)
  rcases hs with hs | hs
  · obtain ⟨its, rv, hl, _⟩ := I.list hs
    rw [Vals.ref1 r]
    exact set_of_list ns (I.ok.hd hc) hl.isList rv.ints hbd fun h' tk c hS hc' hk => ⟨.ref _, _, I.laid (t' := tk) hk (Nat.le_refl _) (setO_new hS), rfl, q _ c hf hc'⟩
  · obtain ⟨its, rv, pt, hz⟩ := I.tuple hs
    rw [Vals.ref1 r]
    exact call_set_tupI ns (I.ok.hd hc) (show s.heap.IsTuple a its.toArray from pt) rv.ints hbd fun h' tk c hS hc' hk => ⟨.ref _, _, I.laid (t' := tk) hk (Nat.le_refl _) (setO_new hS), rfl, q _ c hf hc'⟩
theorem d_set : CallD X (rSetL' X.K X.w) setD := by
  intro F H ds vs Q e s r hw
  unfold setD at hw
  split at hw
  · obtain ⟨v, rfl, b⟩ := r.one
    obtain ⟨a, xs, rfl, h1, h2⟩ := b.lst s
    split at hw
    · rename_i ns hn
      have e1 := ints_ok hn
      subst e1
      have e2 := h2.intsV
      subst e2
      obtain ⟨hc, hw⟩ := ifW hw
      refine ⟨a, ns, rfl, .inl (SqL.of h1), hc, fun p c hf hc' => ?_⟩
      have g := (Grow.refl s).new (o := SetO X.w p (fun j => decide (j ∈ ns)) c) hf
      exact hw _ _ g _ (.st upd_same (fun _ => rfl) hc')
    · exact hw.elim
  · obtain ⟨v, rfl, b⟩ := r.one
    obtain ⟨a, xs, rfl, h1, h2⟩ := b.tup s
    split at hw
    · rename_i ns hn
      have e1 := ints_ok hn
      subst e1
      have e2 := h2.intsV
      subst e2
      obtain ⟨hc, hw⟩ := ifW hw
      refine ⟨a, ns, rfl, .inr h1, hc, fun p c hf hc' => ?_⟩
      have g := (Grow.refl s).new (o := SetO X.w p (fun j => decide (j ∈ ns)) c) hf
      exact hw _ _ g _ (.st upd_same (fun _ => rfl) hc')
    · exact hw.elim
  · exact hw.elim
/-- list(l), tuple(l) -/
def listL : List D → R (List D)
  | [.lst ds] => .ok ds
  | [.tup ds] => .ok ds
  | [.scr ns] => .ok (ns.map .int)
  | _ => .bad
theorem d_list : CallF X (fun xs H Q => ∃ p ys, xs = [.ref p] ∧ (SqL X.K H p ys ∨ SqT X.K H p ys) ∧ ∀ l, H l = none → Q (.ref l) (upd H l (.lst ys))) listL := by
  intro F H ds vs Q e s r hw
  unfold listL at hw
  split at hw
  · obtain ⟨v, rfl, b⟩ := r.one
    obtain ⟨a, xs, rfl, h1, h2⟩ := b.lst s
    exact ⟨a, xs, rfl, .inl (SqL.of h1), fun l hl => hw F _ ((Grow.refl s).lay hl) l _ hl (s.free hl) upd_same h2⟩
  · obtain ⟨v, rfl, b⟩ := r.one
    rcases b with b | ⟨_, _, _, _, h, _⟩
    · cases b with | tup h1 h2 =>
      exact ⟨_, _, rfl, .inr (Same.tup s h1), fun l hl => hw F _ ((Grow.refl s).lay hl) l _ hl (s.free hl) upd_same h2⟩
    · cases h
  · obtain ⟨v, rfl, b⟩ := r.one
    obtain ⟨a, rfl, h1⟩ := b.scr s
    exact ⟨a, _, rfl, .inl h1, fun l hl => hw F _ ((Grow.refl s).lay hl) l _ hl (s.free hl) upd_same (Reps.ints _)⟩
  · exact hw.elim
def tupleD : List D → R D
  | [.lst ds] => .ok (.tup ds)
  | [.tup ds] => .ok (.tup ds)
  | _ => .bad
theorem d_tuple : CallD X (fun xs H Q => ∃ p ys, xs = [.ref p] ∧ ((SqL X.K H p ys ∧ ∀ l, H l = none → Q (.ref l) (upd H l (.tup ys))) ∨ (SqT X.K H p ys ∧ Q (.ref p) H))) tupleD := by
  intro F H ds vs Q e s r hw
  unfold tupleD at hw
  split at hw
  · obtain ⟨v, rfl, b⟩ := r.one
    obtain ⟨a, xs, rfl, h1, h2⟩ := b.lst s
    refine ⟨a, xs, rfl, .inl ⟨SqL.of h1, fun l hl => ?_⟩⟩
    have g := (Grow.refl s).new (o := .tup xs) hl
    exact hw _ _ g _ (.tup (.inl (.inl upd_same)) (Reps.mono g.ff _ _ h2))
  · obtain ⟨v, rfl, b⟩ := r.one
    rcases b with b | ⟨_, _, _, _, h, _⟩
    · cases b with | tup h1 h2 =>
      exact ⟨_, _, rfl, .inr ⟨Same.tup s h1, hw F H (Grow.refl s) _ (.tup h1 h2)⟩⟩
    · cases h
  · exact hw.elim
/-- all, any -/
def D.bls : List D → Option (List Bool)
  | [] => some []
  | .bl i :: ds => (D.bls ds).map (i :: ·)
  | _ => none
theorem bls_ok : ∀ {ds : List D} {ns : List Bool}, D.bls ds = some ns → ds = ns.map .bl
  | [], _, h => by cases h; rfl
  | .bl i :: ds, _, h => by
    simp only [D.bls, Option.map_eq_some_iff] at h
    obtain ⟨ns, e1, rfl⟩ := h
    rw [bls_ok e1]; rfl
theorem bls_map (ns : List Bool) : D.bls (ns.map .bl) = some ns := by
  induction ns with
  | nil => rfl
  | cons n ns ih => simp [D.bls, ih]
def allD : List D → R D
  | [.lst ds] => match D.bls ds with
    | some bs => .ok (.bl (bs.all id))
    | none => .bad
  | _ => .bad
def anyD : List D → R D
  | [.lst ds] => match D.bls ds with
    | some bs => .ok (.bl (bs.any id))
    | none => .bad
  | _ => .bad
theorem d_all : CallD X (rAll X.K) allD := by
  intro F H ds vs Q e s r hw
  unfold allD at hw
  split at hw
  · obtain ⟨v, rfl, b⟩ := r.one
    obtain ⟨a, xs, rfl, h1, h2⟩ := b.lst s
    split at hw
    · rename_i ns hn
      have e1 := bls_ok hn
      subst e1
      have e2 := h2.boolsV
      subst e2
      exact ⟨a, ns, rfl, SqL.of h1, hw F H (Grow.refl s) _ (.bl _)⟩
    · exact hw.elim
  · exact hw.elim
theorem d_any : CallD X (rAny X.K) anyD := by
  intro F H ds vs Q e s r hw
  unfold anyD at hw
  split at hw
  · obtain ⟨v, rfl, b⟩ := r.one
    obtain ⟨a, xs, rfl, h1, h2⟩ := b.lst s
    split at hw
    · rename_i ns hn
      have e1 := bls_ok hn
      subst e1
      have e2 := h2.boolsV
      subst e2
      exact ⟨a, ns, rfl, SqL.of h1, hw F H (Grow.refl s) _ (.bl _)⟩
    · exact hw.elim
  · exact hw.elim
def sumD : List D → R D
  | [.lst ds] => match D.ints ds with
    | some ns => .ok (.int ns.sum)
    | none => .bad
  | _ => .bad
theorem d_sum : CallD X (rSum X.K) sumD := by
  intro F H ds vs Q e s r hw
  unfold sumD at hw
  split at hw
  · obtain ⟨v, rfl, b⟩ := r.one
    obtain ⟨a, xs, rfl, h1, h2⟩ := b.lst s
    split at hw
    · rename_i ns hn
      have e1 := ints_ok hn
      subst e1
      have e2 := h2.intsV
      subst e2
      exact ⟨a, ns, rfl, SqL.of h1, hw F H (Grow.refl s) _ (.int _)⟩
    · exact hw.elim
  · exact hw.elim
def gcdD : List D → R D
  | [.int a, .int b] => .ok (.int ((Nat.gcd a.natAbs b.natAbs : Nat) : Int))
  | _ => .bad
theorem d_gcd : CallD X rGcd gcdD := by
  intro F H ds vs Q e s r hw
  unfold gcdD at hw
  split at hw
  · obtain ⟨v, u, rfl, b, c⟩ := r.two
    cases b.int; cases c.int
    exact ⟨_, _, rfl, hw F H (Grow.refl s) _ (.int _)⟩
  · exact hw.elim
/-- isinstance(x, T), T a built-in class -/
inductive Tn where
  | int | bool | str | list | tuple
def Tn.name : Tn → String
  | .int => "int" | .bool => "bool" | .str => "str" | .list => "list" | .tuple => "tuple"
def isT : Tn → D → R Bool
  | .int, .int _ => .ok true
  | .int, .bl _ => .ok true
  | .bool, .bl _ => .ok true
  | .str, .str _ => .ok true
  | .list, .lst _ => .ok true
  | .tuple, .tup _ => .ok true
  | _, .st _ => .bad
  | _, .scr _ => .bad
  | _, .exc _ _ _ => .bad
  | _, .obj _ _ _ => .bad
  | _, .dct _ _ => .bad
  | _, _ => .ok false
def tyN : D → String
  | .non => "NoneType" | .bl _ => "bool" | .int _ => "int" | .str _ => "str" | .lst _ => "list" | .tup _ => "tuple" | _ => ""
theorem isT_kit {T : Tn} {d : D} {b : Bool} (h : isT T d = .ok b) : kitB (tyN d) T.name = some b := by
  cases T <;> cases d <;> simp only [isT] at h <;> first | cases h | skip
  all_goals (simp only [tyN, Tn.name]; decide +kernel)
theorem ty_of {K : PySem.W.Frag} {w : Wd} {F H : Hp} {d : D} {v : V} (s : Same F H) (b : BRep K w F H d v) {T : Tn} {c : Bool} (h : isT T d = .ok c) : TyX K H v (.type (tyN d)) := by
  cases d with
  | non => cases b.non; exact .base .non
  | bl i => cases b.bl; exact .base (.bl i)
  | int i => cases b.int; exact .base (.int i)
  | str i => cases b.str; exact .base (.str i)
  | lst ds => obtain ⟨a, xs, rfl, h1, _⟩ := b.lst s; exact .base (.lst h1)
  | tup ds =>
    obtain ⟨a, xs, rfl, h1, _⟩ := b.tup s
    rcases h1 with (h1 | ⟨o, h1⟩) | ⟨o, its, n, hk, hc, _⟩
    · exact .base (.tup h1)
    · exact .fTuple h1
    · exact .kTuple hk hc
  | st is => cases T <;> cases h
  | scr is => cases T <;> cases h
  | exc _ _ _ => cases T <;> cases h
  | obj _ _ _ => cases T <;> cases h
  | dct _ _ => cases T <;> cases h
def isiD (T : Tn) (fa : En → R D) : En → R D := fun ρ => (fa ρ).bind fun d => (isT T d).bind fun b => .ok (.bl b)
theorem re_isi (T : Tn) {a : Expr} {y : Str} {py : Pos} {ga : En → R D} (hg : Gl X "isinstance") (hm : X.mg "isinstance" = none) (hgy : Gl X y) (hmy : X.mg y = none) (hvy : bootBuiltins y = some (.type T.name)) (ha : RB X W a ga)
    (hny : y ≠ "__name__" := by decide) (hdy : (y == ("__debug__" : Str)) = false := by decide)
    (he : starEach [a, .Name y py] X.env = (false, eval a X.env) :: starEach [.Name y py] X.env := by rfl) (he2 : starEach [.Name y py] X.env = (false, eval (.Name y py) X.env) :: starEach [] X.env := by rfl) (hpl : (backTo pos (starEach [.Name y py] X.env)).any (·.1) = false := by rfl) :
    RE X W (.Call (.Name "isinstance" p) [a, .Name y py] [] pos) (isiD T ga) := fun B F0 F H σ ρ Q x0 hw => by
  refine ⟨_, pe_callB call_isi hg hm PyProof.Rows.boot_isinstance (pa_cons (pe_W a) (pa_cons (pe_bltn (v := .ty T.name) hgy hmy hvy rfl hny hdy) pa_nil he2) he) (by decide) (by decide) he hpl, ?_⟩
  refine ha B F0 F H σ ρ _ x0 ((Want.bind (r := ga ρ) hw).imp fun d F1 H1 g1 k v r => ?_)
  cases hb : isT T d with
  | ok b =>
    rw [hb] at k
    exact ⟨v, .ty T.name, .type (tyN d), .type T.name, b, rfl, .ty _, ty_of g1.fh r hb, kit_ty (isT_kit hb), k F1 H1 (Grow.refl g1.fh) _ (.bl _)⟩
  | ex y => rw [hb] at k; cases T <;> cases d <;> cases hb
  | bad => rw [hb] at k; exact k.elim
/-- min(l, default=d) -/
def minDf : List D → D → R D
  | [.lst ds], d => match D.ints ds with
    | some [] => .ok d
    | some (n :: ns) => .ok (.int (minL (n :: ns)))
    | none => .bad
  | _, _ => .bad
def rMinDf (K : PySem.W.Frag) : List V → List V → Hp → VK → Prop := fun xs zs H Q => ∃ (a : Addr) (ns : List Int) (z : V), xs = [.ref a] ∧ zs = [z] ∧ SqL K H a (ns.map V.int) ∧ (ns = [] → Q z H) ∧ (ns ≠ [] → Q (.int (minL ns)) H)
theorem c_minDf (hc : X.calm = true) (hu : X.A.units + 64 < cLine) : CallRK X (.builtin "min") [Str.ofString "default"] (rMinDf X.K) := by
  intro pins s σ H xs zs us ws Q I r rz h
  obtain ⟨a, ns, z, rfl, rfl, hs, q0, q1⟩ := h
  obtain ⟨its, rv, hl, _⟩ := I.list hs
  rw [Vals.ref1 r]
  cases rz with
  | cons rz rz' =>
  cases rz'
  have hI := rv.ints
  have hd : DpAll X.K H (ns.map V.int) (ns.map PyData.int) := by
    have : ∀ ns : List Int, DpAll X.K H (ns.map V.int) (ns.map PyData.int) := fun ns => by
      induction ns with
      | nil => exact .nil
      | cons n ns ih => exact .cons (.int n) ih
    exact this ns
  obtain ⟨as, hr⟩ := Dp.readsAll I _ _ _ hd rv
  refine PySem.W.min_list_datum_default (α := Int) (xs := ns) (I.ok.hd hc) hl.isList ⟨as, hr⟩ (by show X.A.units + 1 + 0 < cLine; omega) (fun e h' tk hk => ⟨z, H, I.kept hk, rz, q0 e⟩) (fun y ys i v h' tk e hi hh hk => ?_)
  have hv : ∃ n t, v = .int n t := by
    obtain ⟨b, hr'⟩ := hh
    cases hr'
    exact ⟨_, _, rfl⟩
  obtain ⟨n, t, rfl⟩ := hv
  have hn : n = minL ns := by
    obtain ⟨b, hr'⟩ := hh
    subst e
    have : (PySem.W.Datum.toD (PySem.W.minOf y ys) : PyData) = .int (PySem.W.minOf y ys) := rfl
    rw [this] at hr'
    cases hr'
    unfold PySem.W.minOf minL
    have : ∀ (ys : List Int) (y : Int), List.foldl (fun a y => if PySem.W.DatumOrd.lt y a = true then y else a) y ys = List.foldl (fun a y => if y < a then y else a) y ys := fun ys => by
      induction ys with
      | nil => intro y; rfl
      | cons u us ih =>
        intro y
        rw [List.foldl_cons, List.foldl_cons, ih]
        congr 1
        show (if decide (u < y) = true then u else y) = _
        simp
    exact this ys y
  exact ⟨.int n, H, I.kept hk, ⟨t, rfl⟩, by rw [hn]; exact q1 (by rw [e]; simp)⟩
def fMinDf (fa fd : En → R D) : En → R D := fun ρ => (fa ρ).bind fun d => (fd ρ).bind fun z => minDf [d] z
theorem re_minDf {j : Nat} {a d : Expr} {kp : Pos} {ga gd : En → R D} (b : Bq X W j) (hg : Gl X "min") (hm : X.mg "min" = none) (ha : RB X W a ga) (hd : RE X W d gd)
    (he : backTo pos (starEach [a] X.env) = (false, eval a X.env) :: backTo pos (starEach [] X.env) := by rfl) (hst : starEach [a] X.env = (false, eval a X.env) :: starEach [] X.env := by rfl) (hpl : (backTo pos (starEach [a] X.env)).any (·.1) = false := by rfl)
    (hall : (backToKw pos (keywordEach [⟨some "default", d, kp⟩] X.env)).all (·.1.isSome) = true := by rfl) (hnone : (backToKw pos (keywordEach [⟨some "default", d, kp⟩] X.env)).any (·.1.isNone) = false := by rfl)
    (hks : (backToKw pos (keywordEach [⟨some "default", d, kp⟩] X.env)).filterMap (·.1) = [Str.ofString "default"] := by rfl) :
    RE X W (.Call (.Name "min" p) [a] [⟨some "default", d, kp⟩] pos) (fMinDf ga gd) := fun B F0 F H σ ρ Q x0 hw => by
  refine ⟨_, pe_callBK (c_minDf b.hc b.hu) hg hm PyProof.Rows.boot_min (pa_cons (pe_W a) pa_nil hst) (pk_cons (pe_W d) pk_nil) (by decide) (by decide) he hpl hall hnone hks, ?_⟩
  refine ha B F0 F H σ ρ _ x0 ((Want.bind (r := ga ρ) hw).imp fun da F1 H1 g1 k v r => ?_)
  refine hd B F0 F1 H1 σ ρ _ (x0.grow g1) ((Want.bind (r := gd ρ) k).imp fun dz F2 H2 g2 k2 z rz => ?_)
  have r2 := r.grow g2
  unfold minDf at k2
  split at k2
  · rename_i ds d' e
    cases e
    obtain ⟨l, xs, rfl, h1, h2⟩ := r2.lst g2.fh
    split at k2
    · rename_i hn
      have e1 := ints_ok hn
      subst e1
      cases h2
      exact ⟨l, [], z, rfl, rfl, SqL.of h1, fun _ => k2 F2 H2 (Grow.refl g2.fh) _ rz, fun h => absurd rfl h⟩
    · rename_i n ns hn
      have e1 := ints_ok hn
      subst e1
      have e2 := h2.intsV
      subst e2
      exact ⟨l, n :: ns, z, rfl, rfl, SqL.of h1, fun h => (by cases h), fun _ => k2 F2 H2 (Grow.refl g2.fh) _ (.int _)⟩
    · exact k2.elim
  · exact k2.elim
end
end Pc
set_option maxHeartbeats 4000000
namespace Pc
open PySem L2
/-! ### raise -/
/-- an own class of errors without an __init__ of its own -/
structure Err0 (K : PySem.W.Frag) (mg : Str → Option Value) (x : Str) : Prop where
  ex : ∃ C, mg x = some (.ref C) ∧ PySem.W.excIn K C [.type "ValueError", .type "Exception", .type "BaseException", .type "object"] "ValueError.__new__" = true ∧ PySem.W.keepIn K (.ref C) = true ∧
    PySem.W.subIn K (.ref C) (.type "BaseException") = some true ∧ PySem.W.typeIn K (.ref C) = some (.type "type")
section
variable {X : Cx} {W : WX} {x : Str} {p pos pos' : Pos}
theorem pmk_bare {C : Addr} (q : PySem.W.excIn X.K C [.type "ValueError", .type "Exception", .type "BaseException", .type "object"] "ValueError.__new__" = true) (gC : X.mg x = some (.ref C)) (kC : PySem.W.keepIn X.K (.ref C) = true) (r : Raises X (.ref C)) (hg : Gl X x)
    (hdb : (x == ("__debug__" : Str)) = false := by decide) : PMk X (.Call (.Name x p) [] [] pos) (fun _ H Q => Q (.ref C) none H) := by
  intro pins s σ H Q I h
  refine wpAny_Call_Name_kw (ld_glob I hg gC (PySem.W.callWith_K0 I.kIn kC ?_) hdb)
  obtain ⟨bm, N, nm, qn, bs, hdct, sn, sub, ab, col, dd, k0, k1, k2, k3, k5, mN, hC, hN, hni, T⟩ := exc_obj I.kIn q
  exact wpAny_call_exc_subT PySem.F.excBase_ValueError T hC hN hni (fun h' e hm => mk_of I hm r h (I.hok.gone hm.new)) (Nat.zero_le _)
def sRaise0 (x : Str) : En → R O := fun _ => .ex ⟨x, [], []⟩
theorem rs_raise0 (hc : X.calm = true) (tk : Takes X W) (E : Err0 X.K X.mg x) (hg : Gl X x) (hdb : (x == ("__debug__" : Str)) = false := by decide) : RS X W (.Raise (some (.Call (.Name x p) [] [] pos)) none pos') (sRaise0 x) := fun B F0 F H σ ρ Z x0 hw => by
  obtain ⟨C, g, q, k, b, t⟩ := E.ex
  exact ⟨_, ps_raise hc tk (pmk_bare q g k (raises_own b t) hg hdb), hw (.ref C) none σ F H x0.g ⟨C, g, rfl, [], .nil, fun h => absurd rfl h, fun _ => rfl⟩⟩
/-! an own class of errors with one field, set by its __init__ -/
def spInit (C : Addr) (f : Str) : Sp := fun vs H Q _ => ∃ (a : Addr) (v : V), vs = [.ref a, v] ∧ H a = some (exo a C none) ∧ ∀ dx, H dx = none → dx ≠ a → Q .non (upd (upd H dx (exd dx [(f, v)])) a (exo a C (some dx)))
structure Err1 (P : Program) (w : World) (K : PySem.W.Frag) (mg : Str → Option Value) (base : Heap) (x f : Str) : Prop where
  ex : ∃ (C fI : Addr) (fd : FuncData) (ps : List Str), mg x = some (.ref C) ∧ OexC K C ∧ PySem.W.findIn K (.ref C) "__init__" = some (some (.ref fI)) ∧ PySem.W.typeIn K (.ref fI) = some (.type "function") ∧
    FnOk P w K mg base (L2.CX P w) 1 fI fd ps (spInit C f) ∧ Binds K fd ps []
theorem init_ok {P : Program} {w : World} {K : PySem.W.Frag} {mg : Str → Option Value} {base : Heap} {nm qual a f : Str} {st : Stmt} {fI C : Addr} {fd : FuncData} {p1 p2 p3 p4 : Pos} (F : Fun K nm qual st fI fd) (S : FnScope ["self", a] ["self", a] (defScope st))
    (hb : defBody st = [.Assign [.Attribute (.Name "self" p1) f p2] (.Name a p3) p4]) (T : OexC K C) (hno : PySem.W.findIn K (.ref C) f = some none) (v0 : Vis (defScope st) "self") (v1 : Vis (defScope st) a)
    (hd : (a == ("__debug__" : Str)) = false) (hcd : (a == ("__classdict__" : Str)) = false) : FnOk P w K mg base (L2.CX P w) 1 fI fd ["self", a] (spInit C f) := by
  refine F.okX S (fun vs H Q E h => by obtain ⟨a, v, rfl, _⟩ := h; rfl) (fun cdv A outer s H vs Q E hr hsp => ?_)
  obtain ⟨b, v, rfl, h1, h2⟩ := hsp
  rw [hb]
  refine ⟨_, pss_one (ps_ost (pe_var (i := 0) rfl v0 (by decide) (by decide)) (pe_var (i := 1) rfl v1 hd hcd) (by rfl)), ?_⟩
  exact ⟨v, rfl, .ref b, rfl, b, C, rfl, T, hno, .inl ⟨h1, fun dx n ne => h2 dx n ne⟩⟩
def sRaise1 (x f : Str) (fe : En → R D) : En → R O := fun ρ => (fe ρ).bind fun d => .ex ⟨x, [f], [d]⟩
theorem no_passes {CX : CXT} {k : Nat} {f : Addr} {fd : FuncData} {ps : List Str} {sp : Sp} : True := trivial
theorem rs_raise1 {e : Expr} {fe : En → R D} {f : Str} {k : Nat} (hc : X.calm = true) (tk : Takes X W) (E : Err1 X.prog X.w X.K X.mg X.base x f) (hr : Room k X.A) (hk : 2 ≤ k) (hg : Gl X x) (he : RE X W e fe)
    (hdb : (x == ("__debug__" : Str)) = false := by decide) (hs : starEach [e] X.env = (false, eval e X.env) :: starEach [] X.env := by rfl) (hpl : (backTo pos (starEach [] X.env)).any (·.1) = false := by rfl) :
    RS X W (.Raise (some (.Call (.Name x p) [e] [] pos)) none pos') (sRaise1 x f fe) := fun B F0 F H σ ρ Z x0 hw => by
  obtain ⟨C, fI, fd, ps, g, T, iC, tI, F1, hb⟩ := E.ex
  refine ⟨_, ps_raise hc tk (pmk_oex T iC tI F1 (hr.mono hk) hb .nil (fun pins σ H s e s' I h => ?_) hg g (pa_cons (pe_W e) pa_nil hs) hdb hs hpl), ?_⟩
  · obtain ⟨_, _, _, _, _, _, _, _, _, _, _, _, z⟩ := h
    exact z.elim
  · refine he B F0 F H σ ρ _ x0 ((WantS.want (r := fe ρ) x0 hw).imp fun d F1 H1 _ ⟨g1, k1⟩ v r => ?_)
    refine ⟨by simp, fun a ha => ⟨a, v, rfl, upd_same, fun dx n ne => ⟨rfl, dx, [(f, v)], upd_same, by rw [upd_ne ne]; exact upd_same, by rwa [upd_ne ne] at n, ?_⟩⟩⟩
    have hdx : H1 dx = none := by rwa [upd_ne ne] at n
    have e1 : upd (del (upd (upd (upd H1 a (exo a C none)) dx (exd dx [(f, v)])) a (exo a C (some dx))) a) dx (.xd [(f, v)]) = upd H1 dx (.xd [(f, v)]) := by
      funext b
      by_cases h1 : b = dx
      · subst h1; rw [upd_same, upd_same]
      · rw [upd_ne h1, upd_ne h1]
        by_cases h2 : b = a
        · subst h2; rw [del_same, ha]
        · rw [del_ne h2, upd_ne h2, upd_ne h1, upd_ne h2]
    rw [e1]
    have gn := g1.new (o := .xd [(f, v)]) hdx
    exact k1 (.ref C) (some dx) σ _ _ (x0.g.trans gn) ⟨C, g, rfl, [v], .cons (Rep.mono (fun b u e => by rw [upd_ne (ne_of_none e (g1.fh.free hdx))]; exact e) _ _ r) .nil, fun _ => ⟨dx, rfl, upd_same⟩, fun h => by cases h⟩
end
end Pc
set_option maxHeartbeats 4000000
namespace Pc
open PySem L2
/-! ### try: what its body may be: tests, expressions, returns -/
def RQ (X : Cx) (W : WX) (sts : List Stmt) (f : En → R (Option D)) : Prop := ∀ B F0 F H σ ρ (Z : Ends), EOk X.K X.wd B F0 F H σ ρ →
  Want X.K X.wd X.mg (f ρ) F H (fun o F' H' => match o with | none => Z.nx σ H' | some d => ∀ v, Rep X.K X.wd F' d v → Z.rt v H') (fun C dd H' => W C dd σ H') → WSs X sts Z σ H
section
variable {X : Cx} {W : WX} {e c : Expr} {fe : En → R D} {fc : En → R Bool} {rest a b : List Stmt} {fr ga gb : En → R (Option D)} {pos : Pos}
def qNil : En → R (Option D) := fun _ => .ok none
theorem rq_nil : RQ X W [] qNil := fun B F0 F H σ ρ Z x hw => ⟨_, pss_nil, hw F H (Grow.refl x.fh)⟩
def qRet (f : En → R D) : En → R (Option D) := fun ρ => (f ρ).bind fun d => .ok (some d)
theorem rq_ret (he : RE X W e fe) : RQ X W (.Return (some e) pos :: rest) (qRet fe) := fun B F0 F H σ ρ Z x hw => by
  refine ⟨_, pss_cons (ps_ret (pe_W e)) (pss_W rest), ?_⟩
  exact he B F0 F H σ ρ _ x ((Want.bind (r := fe ρ) hw).imp fun d F1 H1 g1 k v r => k F1 H1 (Grow.refl g1.fh) v r)
def qExp (f : En → R D) (g : En → R (Option D)) : En → R (Option D) := fun ρ => (f ρ).bind fun _ => g ρ
theorem rq_expr (he : RE X W e fe) (hr : RQ X W rest fr) (hs : swapsWith e none pos.line X.env = pure false := by rfl) : RQ X W (.Expr e pos :: rest) (qExp fe fr) := fun B F0 F H σ ρ Z x hw => by
  refine ⟨_, pss_cons (ps_expr (pe_W e) hs) (pss_W rest), ?_⟩
  exact he B F0 F H σ ρ _ x ((Want.bind (r := fe ρ) hw).imp fun d F1 H1 g1 k v r => hr B F0 F1 H1 σ ρ Z (x.grow g1) k)
def qIf (c : En → R Bool) (f g h : En → R (Option D)) : En → R (Option D) := fun ρ => (c ρ).bind fun t => ((if t = true then f ρ else g ρ).bind fun o => match o with
  | none => h ρ
  | some d => .ok (some d))
theorem rq_if (hc : RT X W c fc) (ha : RQ X W a ga) (hb : RQ X W b gb) (hr : RQ X W rest fr) : RQ X W (.If c a b pos :: rest) (qIf fc ga gb fr) := fun B F0 F H σ ρ Z x hw => by
  refine ⟨_, pss_cons (ps_if (pt_W c) (pss_W a) (pss_W b)) (pss_W rest), ?_⟩
  refine hc B F0 F H σ ρ _ x ((Want.bind (r := fc ρ) hw).imp fun t F1 H1 g1 k => ?_)
  have x1 := x.grow g1
  have step : ∀ {g : En → R (Option D)} {sts : List Stmt}, RQ X W sts g → Want X.K X.wd X.mg ((g ρ).bind fun o => match o with
      | none => fr ρ
      | some d => .ok (some d)) F1 H1 (fun o F' H' => match o with | none => Z.nx σ H' | some d => ∀ v, Rep X.K X.wd F' d v → Z.rt v H') (fun C dd H' => W C dd σ H') → WSs X sts { Z with nx := fun σ' H' => WSs X rest Z σ' H' } σ H1 := fun {g sts} hg k => by
    refine hg B F0 F1 H1 σ ρ _ x1 ((Want.bind (r := g ρ) k).imp fun o F2 H2 g2 k2 => ?_)
    cases o with
    | none => exact hr B F0 F2 H2 σ ρ Z (x1.grow g2) k2
    | some d => exact fun v r => k2 F2 H2 (Grow.refl g2.fh) v r
  cases t with
  | true => exact step ha k
  | false => exact step hb k
end
/-! ### the exception in hand -/
mutual
theorem Rep.xa {K : PySem.W.Frag} {w : World} {mg : Str → Option Value} {xa : Option (Addr × Value × Option Addr)} {F : Hp} : ∀ (d : D) (v : V), Rep K ⟨w, mg, none⟩ F d v → Rep K ⟨w, mg, xa⟩ F d v
  | .non, _, h => by cases h; exact .non
  | .bl b, _, h => by cases h; exact .bl b
  | .int i, _, h => by cases h; exact .int i
  | .str x, _, h => by cases h; exact .str x
  | .lst ds, _, h => by cases h with | lst h1 h2 => exact .lst h1 (Reps.xa ds _ h2)
  | .tup ds, _, h => by cases h with | tup h1 h2 => exact .tup h1 (Reps.xa ds _ h2)
  | .st is, _, h => by cases h with | st h1 h2 h3 => exact .st h1 h2 h3
  | .scr is, _, h => by cases h with | scr h1 => exact .scr h1
  | .exc _ _ ds, _, h => by cases h with | exc h1 h2 h3 h4 h5 => cases h1
  | .obj _ _ ds, _, h => by cases h with | obj h1 h2 h3 => exact .obj h1 h2 (Reps.xa ds _ h3)
  | .dct _ ds, _, h => by cases h with | dct h1 h3 => exact .dct h1 (Reps.xa ds _ h3)
theorem Reps.xa {K : PySem.W.Frag} {w : World} {mg : Str → Option Value} {xa : Option (Addr × Value × Option Addr)} {F : Hp} : ∀ (ds : List D) (vs : List V), Reps K ⟨w, mg, none⟩ F ds vs → Reps K ⟨w, mg, xa⟩ F ds vs
  | [], _, h => by cases h; exact .nil
  | d :: ds, _, h => by cases h with | cons h1 h2 => exact .cons (Rep.xa d _ h1) (Reps.xa ds _ h2)
end
theorem EOk.xa {K : PySem.W.Frag} {w : World} {mg : Str → Option Value} {xa : Option (Addr × Value × Option Addr)} {B F0 F H : Hp} {σ : St} {ρ : En} (x : EOk K ⟨w, mg, none⟩ B F0 F H σ ρ) : EOk K ⟨w, mg, xa⟩ B F0 F H σ ρ :=
  ⟨x.g, x.ln, fun i d o e => by
    obtain ⟨v, e1, e2⟩ := x.sl i d o e
    refine ⟨v, e1, ?_⟩
    cases o with
    | false => exact Rep.xa _ _ e2
    | true =>
      obtain ⟨a, xs, ds, f1, f2, f3, f4, f5, f6⟩ := e2
      exact ⟨a, xs, ds, f1, f2, f3, Reps.xa _ _ f4, f5, f6⟩, x.ds⟩
/-- data without the exception: flat, or a list or tuple of flat data -/
def clean : D → Bool
  | .lst ds => ds.all flatD
  | .tup ds => ds.all flatD
  | d => flatD d
theorem flat_re {K : PySem.W.Frag} {w w' : Wd} {F : Hp} : ∀ {d : D} {v : V}, Rep K w F d v → flatD d = true → Rep K w' F d v := fun {d v} h f => by
  cases h <;> first | exact .non | exact .bl _ | exact .int _ | exact .str _ | cases f
theorem flats_re {K : PySem.W.Frag} {w w' : Wd} {F : Hp} : ∀ {ds : List D} {vs : List V}, Reps K w F ds vs → ds.all flatD = true → Reps K w' F ds vs
  | [], _, h, _ => by cases h; exact .nil
  | d :: ds, _, h, f => by
    cases h with | cons h1 h2 =>
    rw [List.all_cons, Bool.and_eq_true] at f
    exact .cons (flat_re h1 f.1) (flats_re h2 f.2)
theorem clean_re {K : PySem.W.Frag} {w w' : Wd} {F : Hp} {d : D} {v : V} (h : Rep K w F d v) (c : clean d = true) : Rep K w' F d v := by
  cases h with
  | lst h1 h2 => exact .lst h1 (flats_re h2 c)
  | tup h1 h2 => exact .tup h1 (flats_re h2 c)
  | non => exact .non
  | bl => exact .bl _
  | int => exact .int _
  | str => exact .str _
  | st h1 h2 h3 => cases c
  | scr h1 => cases c
  | exc h1 h2 h3 h4 h5 => cases c
  | obj h1 h2 h3 => cases c
  | dct h1 h2 => cases c
theorem wd_tr {X : Cx} (hc : X.calm = true) {pn : List (Addr × Obj)} {xe : Value → Shared → Prop} : (X.tr pn xe).wd = X.wd := by
  unfold L2.Cx.wd
  rw [if_pos (show (X.tr pn xe).calm = true from hc), if_pos hc]
theorem wd_suite {X : Cx} {a : Addr} {oe : Obj} {pn : List (Addr × Obj)} : (X.suite a ((a, oe) :: pn)).wd = ⟨X.w, X.mg, some (a, oe.cls, oe.dict)⟩ := rfl
/-! ### try .. except x as n -/
/-- which classes a clause takes -/
def ExM (K : PySem.W.Frag) (mg : Str → Option Value) (c : Value) (exm : Str → Option Bool) : Prop := ∀ cls c' b, exm cls = some b → mg cls = some (.ref c') → PySem.W.exmOne K (.ref c') c = some b
def sTry (i : Nat) (exm : Str → Option Bool) (fb : En → R (Option D)) (fs : En → R O) : En → R O := fun ρ => match fb ρ with
  | .ok none => .ok (.nx ρ)
  | .ok (some d) => .ok (.rt d)
  | .bad => .bad
  | .ex y => match exm y.cls with
    | some false => .ex y
    | none => .bad
    | some true => match fs (ρ.set i (some (.exc y.cls y.ns y.ds, false))) with
      | .ok (.rt d) => if clean d = true then .ok (.rt d) else .bad
      | _ => .bad
section
variable {X : Cx} {W : WX} {x n : Str} {c : Value} {i : Nat} {body suite : List Stmt} {b₀ : Stmt} {np pos pos' : Pos} {fb : En → R (Option D)} {fs : En → R O} {exm : Str → Option Bool}
theorem rs_try (hcalm : X.calm = true) (hs : X.stack = X.env :: X.outer) (hf : X.env.frame = some X.env.locals) (hN : X.N.Nodup) (hi : X.N[i]? = some n) (hln : X.env.kindOf n = some .local) (hc : Names X x c) (hM : ExM X.K X.mg c exm) (tk : Takes X W)
    (hb : ∀ (W' : WX) (pn : List (Addr × Obj)) (xe : Value → Shared → Prop), Takes (X.tr pn xe) W' → RQ (X.tr pn xe) W' body fb)
    (hsu : ∀ (a : Addr) (oe : Obj) (pn : List (Addr × Obj)), (∃ vs, oe.data = .fields vs) → RSs (X.suite a ((a, oe) :: pn)) WF (b₀ :: suite) fs) :
    RS X W (.Try body [.ExceptHandler (some (.Name x np)) (some n) (b₀ :: suite) pos'] [] [] pos) (sTry i exm fb fs) := fun B F0 F H σ ρ Z x0 hw => by
  refine ⟨_, ps_try_as (i := i) (c := c) (Wout := W) (tb := fun W' D σ H => ∀ (pn : List (Addr × Obj)) (xe : Value → Shared → Prop), Takes (X.tr pn xe) W' → WSs (X.tr pn xe) body D σ H)
    (ts := fun a cls d D σ H => ∀ (oe : Obj) (pn : List (Addr × Obj)), Zc cls d oe → (∃ vs, oe.data = .fields vs) → WSs (X.suite a ((a, oe) :: pn)) (b₀ :: suite) D σ H)
    hs hf hN hi hln hc tk (fun W' pn xe tk' _ => ⟨fun pins s σ H D I q => (pss_W body).run pins s σ H D I (q pn xe tk')⟩)
    (fun a oe cls d pn hz hf => ⟨fun pins s σ H D I q => (pss_W (b₀ :: suite)).run pins s σ H D I (q oe pn hz hf)⟩), ?_⟩
  intro pn xe tk'
  refine hb _ pn xe tk' B F0 F H σ ρ _ (by rw [wd_tr hcalm]; exact x0) ?_
  rw [wd_tr hcalm]
  unfold sTry at hw
  cases hfb : fb ρ with
  | bad => rw [hfb] at hw; exact hw.elim
  | ok o =>
    rw [hfb] at hw
    cases o with
    | none => exact fun F' H' g => hw σ F' H' (x0.grow g)
    | some d => exact fun F' H' g v r => hw v F' H' (x0.g.trans g) r
  | ex y =>
    rw [hfb] at hw
    dsimp only at hw
    intro C dd F' H' g e
    obtain ⟨c', m1, rfl, vs, rv, fv, nv⟩ := id e
    cases hm : exm y.cls with
    | none => rw [hm] at hw; exact hw.elim
    | some t =>
      rw [hm] at hw
      refine ⟨t, hM _ _ _ hm m1, fun ht a ha oe pn' hz hd => ?_, fun ht => ?_⟩
      · subst ht
        dsimp only at hw
        have x1 := x0.grow g
        rw [wd_calm hcalm] at x1 rv
        have x2 : EOk X.K ⟨X.w, X.mg, some (a, oe.cls, oe.dict)⟩ B F0 F' H' (σ.set i (some (.ref a))) (ρ.set i (some (.exc y.cls y.ns y.ds, false))) :=
          (EOk.xa x1).set (.exc (dd := dd) (by rw [hz.1, hz.2]) m1 (Reps.xa _ _ rv) fv nv)
        refine hsu a oe pn' hd B F0 F' H' _ _ _ x2 ?_
        cases hq : fs (ρ.set i (some (.exc y.cls y.ns y.ds, false))) with
        | bad => rw [hq] at hw; exact hw.elim
        | ex _ => rw [hq] at hw; exact hw.elim
        | ok o =>
          rw [hq] at hw
          cases o with
          | rt d =>
            dsimp only at hw
            by_cases hcl : clean d = true
            · rw [if_pos hcl] at hw
              exact fun v F2 H2 g2 r => hw v F2 H2 g2 (clean_re r hcl)
            · rw [if_neg hcl] at hw; exact hw.elim
          | nx _ => exact hw.elim
          | bk _ => exact hw.elim
          | ct _ => exact hw.elim
      · subst ht
        exact hw (.ref c') dd σ F' H' (x0.g.trans g) e
end
end Pc
set_option maxHeartbeats 4000000
namespace Pc
open PySem L2
/-! ### in an except suite: isinstance(e, C), e.f -/
/-- what isinstance asks of the class of an error -/
structure XC (K : PySem.W.Frag) (C : Addr) : Prop where
  cl : (PySem.W.clsIn K C).isSome = true
  ga : PySem.W.findIn K (.ref C) "__getattribute__" = some (some (.builtin "BaseException.__getattribute__"))
  gg : PySem.W.findIn K (.ref C) "__getattr__" = some none
  su : PySem.W.subIn K (.ref C) (.type "BaseException") = some true
  ca : PySem.W.findIn K (.ref C) "__class__" = some (some (.builtin "object.__class__"))
  sp : PySem.W.specialIn K (.builtin "object.__class__") "__get__" = some (some (.builtin "getset_descriptor.__get__"))
  tk : PySem.W.takesIn K (.builtin "object.__class__") = some true
  mr : PySem.W.mroIn K C (.type "object") = some true
  hd : PySem.W.hasDictIn K C = true
def rIsXc (K : PySem.W.Frag) (C a : Addr) (dd : Option Addr) : List V → Hp → VK → Prop := fun xs H Q => ∃ (c : V) (cv : Value) (b : Bool), xs = [.ref a, c] ∧ (∀ u, RelV c u → u = cv) ∧ PySem.W.kitOne K (.ref C) cv = some b ∧
  (∀ d, dd = some d → ∃ fs, H d = some (.xd fs)) ∧ Q (.bl b) H
theorem call_isX {X : Cx} {a C : Addr} {oe : Obj} {pn : List (Addr × Obj)} (T : XC X.K C) (hz : oe.cls = .ref C) (hf : ∃ vs, oe.data = .fields vs) : CallR (X.suite a ((a, oe) :: pn)) (.builtin "isinstance") (rIsXc X.K C a oe.dict) := by
  intro pins s σ H xs us Q I r h
  obtain ⟨c, cv, b, rfl, hcv, e, hdd, q⟩ := h
  cases r with
  | cons rx rr =>
    cases rr with
    | cons rt rr =>
      cases rr
      cases rx
      obtain rfl := hcv _ rt
      obtain ⟨hget, _⟩ := I.pin (a, oe) (List.mem_append.mpr (.inl List.mem_cons_self))
      obtain ⟨vs, hv⟩ := hf
      have hno : PySem.W.notCls oe = true := by unfold PySem.W.notCls; rw [hv] <;> rfl
      have J : ∃ od, PySem.W.InstAt s.heap a oe C od := by
        cases hq : oe.dict with
        | none => exact ⟨none, hget, hz, hno, by rw [hq]; trivial⟩
        | some d =>
          obtain ⟨fs, hfs⟩ := hdd d hq
          have hx : ObjOk X.prog X.w H s.heap d (.xd fs) := I.hok d _ hfs
          obtain ⟨mA, hns, hr⟩ := hx
          obtain ⟨od, ho, hl⟩ := lookIn_ns hns
          exact ⟨some od, hget, hz, hno, by rw [hq]; exact ho⟩
      obtain ⟨od, J⟩ := J
      exact PySem.W.kia_one (PySem.W.kitx_exc T.cl T.ga T.gg T.su T.ca T.sp T.tk T.mr) I.kIn J e (fun z => nomatch z) fun tk => ⟨.bl b, H, I.kept (t' := tk) fun _ _ z => z, rfl, q⟩
/-- the classes of errors: whether one is another; whether an error of the class has a field -/
structure ExTab (K : PySem.W.Frag) (mg : Str → Option Value) (tab : Str → Str → Option Bool) (fld : Str → Str → Bool) : Prop where
  xc : ∀ cls y b c', tab cls y = some b → mg cls = some (.ref c') → XC K c'
  own : ∀ cls y b c' cy, tab cls y = some b → mg cls = some (.ref c') → mg y = some (.ref cy) → PySem.W.kitOne K (.ref c') (.ref cy) = some b
  blt : ∀ cls y b c' T, tab cls y = some b → mg cls = some (.ref c') → mg y = none → bootBuiltins y = some (.type T) → PySem.W.kitOne K (.ref c') (.type T) = some b
  fl : ∀ cls f c', fld cls f = true → mg cls = some (.ref c') → XC K c' ∧ PySem.W.findIn K (.ref c') f = some none
def isxD (tab : Str → Str → Option Bool) (y : Str) : D → R D
  | .exc cls _ _ => match tab cls y with
    | some b => .ok (.bl b)
    | none => .bad
  | _ => .bad
def getF (f : Str) : List Str → List D → Option D
  | n :: ns, d :: ds => if f = n then some d else getF f ns ds
  | _, _ => none
theorem getF_ok {K : PySem.W.Frag} {w : Wd} {F : Hp} {f : Str} : ∀ {ns : List Str} {ds : List D} {vs : List V} {d : D}, Reps K w F ds vs → getF f ns ds = some d → ∃ v, (ns.zip vs).lookup f = some v ∧ Rep K w F d v
  | [], _, _, _, _, h => by simp [getF] at h
  | n :: ns, [], _, _, _, h => by simp [getF] at h
  | n :: ns, d :: ds, _, _, r, h => by
    cases r with | @cons _ _ v vs r1 r2 =>
    unfold getF at h
    rw [List.zip_cons_cons, lookup_put]
    by_cases e : f = n
    · rw [if_pos e] at h ⊢
      cases h
      exact ⟨v, rfl, r1⟩
    · rw [if_neg e] at h ⊢
      exact getF_ok r2 h
def xfD (fld : Str → Str → Bool) (f : Str) : D → R D
  | .exc cls ns ds => if fld cls f = true then match getF f ns ds with
      | some d => .ok d
      | none => .bad
    else .bad
  | _ => .bad
section
variable {X : Cx} {W : WX} {a : Addr} {oe : Obj} {pn : List (Addr × Obj)} {n y f : Str} {np py p pos : Pos} {i : Nat} {tab : Str → Str → Option Bool} {fld : Str → Str → Bool}
theorem exc_slot {K : PySem.W.Frag} {w : World} {mg : Str → Option Value} {B F0 F H : Hp} {σ : St} {ρ : En} {a : Addr} {C : Value} {dd : Option Addr} {g : D → R D} {Q : VK} {e : Value → Option Addr → Hp → Prop} (x : EOk K ⟨w, mg, some (a, C, dd)⟩ B F0 F H σ ρ)
    (hb : ∀ d : D, (∀ c ns ds, d ≠ .exc c ns ds) → g d = .bad) (hw : Want K ⟨w, mg, some (a, C, dd)⟩ mg ((fVar i ρ).bind g) F H (fun d F' H' => ∀ v, Rep K ⟨w, mg, some (a, C, dd)⟩ F' d v → Q v H') e) :
    ∃ cls ns ds c vs, σ[i]? = some (some (.ref a)) ∧ C = .ref c ∧ mg cls = some (.ref c) ∧ Reps K ⟨w, mg, some (a, C, dd)⟩ F ds vs ∧ (ns ≠ [] → ∃ d, dd = some d ∧ F d = some (.xd (ns.zip vs))) ∧ (ns = [] → dd = none) ∧
      Want K ⟨w, mg, some (a, C, dd)⟩ mg (g (.exc cls ns ds)) F H (fun d F' H' => ∀ v, Rep K ⟨w, mg, some (a, C, dd)⟩ F' d v → Q v H') e := by
  cases hv : fVar i ρ with
  | bad => rw [hv] at hw; exact hw.elim
  | ex y => unfold fVar at hv; split at hv <;> cases hv
  | ok d =>
    rw [hv] at hw
    have hr : ρ[i]? = some (some (d, false)) := by
      unfold fVar at hv
      split at hv
      · cases hv; assumption
      · cases hv
    obtain ⟨v, e1, e2⟩ := x.sl _ _ _ hr
    replace hw : Want K ⟨w, mg, some (a, C, dd)⟩ mg (g d) F H (fun d F' H' => ∀ v, Rep K ⟨w, mg, some (a, C, dd)⟩ F' d v → Q v H') e := hw
    by_cases hx : ∃ c ns ds, d = .exc c ns ds
    · obtain ⟨cls, ns, ds, rfl⟩ := hx
      have e2' : Rep K ⟨w, mg, some (a, C, dd)⟩ F (.exc cls ns ds) v := e2
      cases e2' with | exc h1 h2 h3 h4 h5 =>
      cases h1
      exact ⟨cls, ns, ds, _, _, e1, rfl, h2, h3, h4, h5, hw⟩
    · rw [hb d fun c ns ds q => hx ⟨c, ns, ds, q⟩] at hw; exact hw.elim
theorem re_isxO (hd : ∃ vs, oe.data = .fields vs) (TB : ExTab X.K X.mg tab fld) (hg : Gl (X.suite a ((a, oe) :: pn)) "isinstance") (hm : X.mg "isinstance" = none) (hN : X.N[i]? = some n) (hv : Vis X.env.scope n) (hgy : Gl (X.suite a ((a, oe) :: pn)) y) {cy : Addr} (gy : X.mg y = some (.ref cy))
    (hn : (n == ("__debug__" : Str)) = false := by decide) (hn2 : (n == ("__classdict__" : Str)) = false := by decide) (hdy : (y == ("__debug__" : Str)) = false := by decide)
    (he : starEach [.Name n np, .Name y py] X.env = (false, eval (.Name n np) X.env) :: starEach [.Name y py] X.env := by rfl) (he2 : starEach [.Name y py] X.env = (false, eval (.Name y py) X.env) :: starEach [] X.env := by rfl) (hpl : (backTo pos (starEach [.Name y py] X.env)).any (·.1) = false := by rfl) :
    RE (X.suite a ((a, oe) :: pn)) W (.Call (.Name "isinstance" p) [.Name n np, .Name y py] [] pos) (f1 (isxD tab y) (fVar i)) := fun B F0 F H σ ρ Q x hw => by
  obtain ⟨cls, ns, ds, c, vs, e1, e2, e3, e4, e5, e6, hw⟩ := exc_slot (i := i) (C := oe.cls) (dd := oe.dict) x (fun d h => by cases d <;> first | rfl | exact absurd rfl (h _ _ _)) hw
  replace hw : Want X.K ⟨X.w, X.mg, some (a, oe.cls, oe.dict)⟩ X.mg (match tab cls y with | some b => R.ok (D.bl b) | none => .bad) F H (fun d F' H' => ∀ v, Rep X.K ⟨X.w, X.mg, some (a, oe.cls, oe.dict)⟩ F' d v → Q v H') (fun C dd H' => W C dd σ H') := hw
  cases ht : tab cls y with
  | none => rw [ht] at hw; exact hw.elim
  | some b =>
    rw [ht] at hw
    refine ⟨_, pe_callB (call_isX (TB.xc _ _ _ _ ht e3) e2 hd) hg hm PyProof.Rows.boot_isinstance (pa_cons (pe_var (i := i) hN hv hn hn2) (pa_cons (pe_glob (v := .ref cy) hgy gy rfl hdy) pa_nil he2) he) (by decide) (by decide) he hpl, ?_⟩
    refine ⟨_, e1, .ref cy, .ref cy, b, rfl, fun u r => r, TB.own _ _ _ _ _ ht e3 gy, fun d q => ?_, hw F H (Grow.refl x.fh) _ (.bl b)⟩
    by_cases hns : ns = []
    · rw [e6 hns] at q; cases q
    · obtain ⟨d', k1, k2⟩ := e5 hns
      rw [k1] at q
      cases q
      exact ⟨_, x.fh _ _ k2⟩
theorem re_isxB (hd : ∃ vs, oe.data = .fields vs) (TB : ExTab X.K X.mg tab fld) (hg : Gl (X.suite a ((a, oe) :: pn)) "isinstance") (hm : X.mg "isinstance" = none) (hN : X.N[i]? = some n) (hv : Vis X.env.scope n) (hgy : Gl (X.suite a ((a, oe) :: pn)) y) (gy : X.mg y = none) {T : String} (by_ : bootBuiltins y = some (.type T))
    (hn : (n == ("__debug__" : Str)) = false := by decide) (hn2 : (n == ("__classdict__" : Str)) = false := by decide) (hdy : (y == ("__debug__" : Str)) = false := by decide) (hny : y ≠ "__name__" := by decide)
    (he : starEach [.Name n np, .Name y py] X.env = (false, eval (.Name n np) X.env) :: starEach [.Name y py] X.env := by rfl) (he2 : starEach [.Name y py] X.env = (false, eval (.Name y py) X.env) :: starEach [] X.env := by rfl) (hpl : (backTo pos (starEach [.Name y py] X.env)).any (·.1) = false := by rfl) :
    RE (X.suite a ((a, oe) :: pn)) W (.Call (.Name "isinstance" p) [.Name n np, .Name y py] [] pos) (f1 (isxD tab y) (fVar i)) := fun B F0 F H σ ρ Q x hw => by
  obtain ⟨cls, ns, ds, c, vs, e1, e2, e3, e4, e5, e6, hw⟩ := exc_slot (i := i) (C := oe.cls) (dd := oe.dict) x (fun d h => by cases d <;> first | rfl | exact absurd rfl (h _ _ _)) hw
  replace hw : Want X.K ⟨X.w, X.mg, some (a, oe.cls, oe.dict)⟩ X.mg (match tab cls y with | some b => R.ok (D.bl b) | none => .bad) F H (fun d F' H' => ∀ v, Rep X.K ⟨X.w, X.mg, some (a, oe.cls, oe.dict)⟩ F' d v → Q v H') (fun C dd H' => W C dd σ H') := hw
  cases ht : tab cls y with
  | none => rw [ht] at hw; exact hw.elim
  | some b =>
    rw [ht] at hw
    refine ⟨_, pe_callB (call_isX (TB.xc _ _ _ _ ht e3) e2 hd) hg hm PyProof.Rows.boot_isinstance (pa_cons (pe_var (i := i) hN hv hn hn2) (pa_cons (pe_bltn (v := .ty T) hgy gy by_ rfl hny hdy) pa_nil he2) he) (by decide) (by decide) he hpl, ?_⟩
    refine ⟨_, e1, .ty T, .type T, b, rfl, fun u r => r, TB.blt _ _ _ _ _ ht e3 gy by_, fun d q => ?_, hw F H (Grow.refl x.fh) _ (.bl b)⟩
    by_cases hns : ns = []
    · rw [e6 hns] at q; cases q
    · obtain ⟨d', k1, k2⟩ := e5 hns
      rw [k1] at q
      cases q
      exact ⟨_, x.fh _ _ k2⟩
theorem re_xf (hd : ∃ vs, oe.data = .fields vs) (TB : ExTab X.K X.mg tab fld) (hN : X.N[i]? = some n) (hv : Vis X.env.scope n) (hn : (n == ("__debug__" : Str)) = false := by decide) (hn2 : (n == ("__classdict__" : Str)) = false := by decide)
    (hb : attributeBase (.Name n np) f X.env (eval (.Name n np) X.env) = eval (.Name n np) X.env := by rfl) :
    RE (X.suite a ((a, oe) :: pn)) W (.Attribute (.Name n np) f pos) (f1 (xfD fld f) (fVar i)) := fun B F0 F H σ ρ Q x hw => by
  obtain ⟨cls, ns, ds, c, vs, e1, e2, e3, e4, e5, e6, hw⟩ := exc_slot (i := i) (C := oe.cls) (dd := oe.dict) x (fun d h => by cases d <;> first | rfl | exact absurd rfl (h _ _ _)) hw
  replace hw : Want X.K ⟨X.w, X.mg, some (a, oe.cls, oe.dict)⟩ X.mg (if fld cls f = true then (match getF f ns ds with | some d => R.ok d | none => .bad) else .bad) F H (fun d F' H' => ∀ v, Rep X.K ⟨X.w, X.mg, some (a, oe.cls, oe.dict)⟩ F' d v → Q v H') (fun C dd H' => W C dd σ H') := hw
  obtain ⟨hf, hw⟩ := ifW hw
  obtain ⟨T, hno⟩ := TB.fl _ _ _ hf e3
  cases hq : getF f ns ds with
  | none => rw [hq] at hw; exact hw.elim
  | some d =>
    rw [hq] at hw
    obtain ⟨v, k1, k2⟩ := getF_ok e4 hq
    have hns : ns ≠ [] := fun z => by subst z; simp [getF] at hq
    obtain ⟨dd, m1, m2⟩ := e5 hns
    refine ⟨_, pe_xf (cls := .ref c) (d := oe.dict) ⟨T.ga, T.gg, T.su, T.hd⟩ hno ⟨e2, rfl⟩ hd (pe_var (i := i) hN hv hn hn2) hb, ?_⟩
    exact ⟨_, e1, rfl, rfl, dd, _, v, m1, x.fh _ _ m2, k1, hw F H (Grow.refl x.fh) v k2⟩
end
end Pc
set_option maxHeartbeats 4000000
namespace Pc
open PySem L2
/-! ### a list of a slot's own is lent to an expression of a flat value -/
def lendE (is : List Nat) (f : En → R D) : En → R D := fun ρ => match f (frz ρ is) with
  | .ok d => if flatD d = true then .ok d else .bad
  | .ex y => if y.ds.all flatD = true then .ex y else .bad
  | .bad => .bad
/-- F2 without what was lent -/
def unlend (F F1 F2 : Hp) : Hp := fun a => match F a, F1 a with
  | none, some _ => none
  | _, _ => F2 a
theorem unlend_at {F F1 F2 : Hp} {a : Addr} {o : HO} (h : unlend F F1 F2 a = some o) : F2 a = some o ∧ (F1 a = some o → F a ≠ none) := by
  unfold unlend at h
  split at h
  · cases h
  · rename_i k
    refine ⟨h, fun e n => ?_⟩
    exact k _ n e
theorem unlend_grow {F F1 F2 H H2 : Hp} (s : Same F H) (l : Lent F F1) (g : Grow F1 H F2 H2) : Grow F H (unlend F F1 F2) H2 := by
  refine ⟨fun a o e => ?_, fun a o e => g.fh _ _ (unlend_at e).1, g.hh, fun a o e n => ?_⟩
  · unfold unlend
    rw [e]
    exact g.ff _ _ (l.1 _ _ e)
  · obtain ⟨e1, e2⟩ := unlend_at e
    have e3 := g.nw _ _ e1 n
    rcases l.2 _ _ e3 with h | ⟨h, _⟩
    · exact h
    · exact absurd h (e2 e3)
theorem flat_any {K : PySem.W.Frag} {w : Wd} {F F' : Hp} {d : D} {v : V} (h : Rep K w F d v) (f : flatD d = true) : Rep K w F' d v := by
  cases h <;> first | exact .non | exact .bl _ | exact .int _ | exact .str _ | cases f
theorem flats_any {K : PySem.W.Frag} {w : Wd} {F F' : Hp} : ∀ {ds : List D} {vs : List V}, Reps K w F ds vs → ds.all flatD = true → Reps K w F' ds vs
  | [], _, h, _ => by cases h; exact .nil
  | d :: ds, _, h, f => by
    cases h with | cons h1 h2 =>
    rw [List.all_cons, Bool.and_eq_true] at f
    exact .cons (flat_any h1 f.1) (flats_any h2 f.2)
section
variable {X : Cx} {W : WX} {e : Expr} {es : List Expr} {kws : List Keyword} {x : Str} {p pos kpos : Pos} {f fe : En → R D} {fa fk : En → R (List D)}
theorem re_lend (is : List Nat) (h : RE X W e f) : RE X W e (lendE is f) := fun B F0 F H σ ρ Q x hw => by
  obtain ⟨F1, l, x1⟩ := x.frz is
  refine h B F0 F1 H σ _ Q x1 ?_
  unfold lendE at hw
  cases hf : f (frz ρ is) with
  | bad => rw [hf] at hw; exact hw.elim
  | ok d =>
    rw [hf] at hw
    obtain ⟨hc, hw⟩ := ifW hw
    intro F2 H2 g v r
    exact hw _ _ (unlend_grow x.fh l g) v (flat_any r hc)
  | ex y =>
    rw [hf] at hw
    obtain ⟨hc, hw⟩ := ifW hw
    intro C dd F2 H2 g ⟨c, m1, m2, vs, rv, fv, nv⟩
    refine hw C dd _ _ (unlend_grow x.fh l g) ⟨c, m1, m2, vs, flats_any rv hc, fun n => ?_, nv⟩
    obtain ⟨d, e1, e2⟩ := fv n
    refine ⟨d, e1, ?_⟩
    unfold unlend
    split
    · rename_i o q1 q2
      rcases l.2 _ _ q2 with h | ⟨_, xs, rfl⟩
      · rw [q1] at h; cases h
      · rw [g.ff _ _ q2] at e2; cases e2
    · exact e2
/-! ### calls of own defs with keywords -/
def perm {α : Type} (ix : List Nat) (l : List α) : List α := ix.filterMap fun i => l[i]?
structure DefK (P : Program) (w : World) (K : PySem.W.Frag) (mg : Str → Option Value) (base : Heap) (x : Str) (k n : Nat) (g : List D → R D) (m : Nat) (ks : List Str) (ix : List Nat) : Prop where
  ex : ∃ f fd ps, FnOk P w K mg base (L2.CX P w) k f fd ps (spOf K w mg n g) ∧ mg x = some (.ref f) ∧ PySem.W.keepIn K (.ref f) = true ∧
    ∀ (s : Shared) (us ws : List Value), K.In s.heap → us.length = m → ws.length = ks.length → BindsTo s fd ⟨us, ks.zip ws⟩ (ps.zip (perm ix (us ++ ws)))
theorem perm_vals : ∀ (ix : List Nat) {vs : List V} {us : List Value}, Vals vs us → Vals (perm ix vs) (perm ix us)
  | [], _, _, _ => .nil
  | i :: ix, vs, us, r => by
    have ih := perm_vals ix r
    have key : ∀ (i : Nat) {vs : List V} {us : List Value}, Vals vs us → (vs[i]? = none ∧ us[i]? = none) ∨ ∃ v u, vs[i]? = some v ∧ us[i]? = some u ∧ RelV v u := fun i => by
      induction i with
      | zero => intro vs us r; cases r with
        | nil => exact .inl ⟨rfl, rfl⟩
        | cons h _ => exact .inr ⟨_, _, rfl, rfl, h⟩
      | succ i ih => intro vs us r; cases r with
        | nil => exact .inl ⟨rfl, rfl⟩
        | cons h t => simpa using ih t
    unfold perm at ih ⊢
    rcases key i r with ⟨h1, h2⟩ | ⟨v, u, h1, h2, h3⟩
    · rw [List.filterMap_cons_none h1, List.filterMap_cons_none h2]; exact ih
    · rw [List.filterMap_cons_some h1, List.filterMap_cons_some h2]; exact .cons h3 ih
theorem perm_reps {K : PySem.W.Frag} {w : Wd} {F : Hp} : ∀ (ix : List Nat) {ds : List D} {vs : List V}, Reps K w F ds vs → Reps K w F (perm ix ds) (perm ix vs)
  | [], _, _, _ => .nil
  | i :: ix, ds, vs, r => by
    have ih := perm_reps ix r
    unfold perm at ih ⊢
    cases h : ds[i]? with
    | none =>
      have h2 : vs[i]? = none := by rw [List.getElem?_eq_none_iff] at h ⊢; rw [← r.length]; exact h
      rw [List.filterMap_cons_none h, List.filterMap_cons_none h2]; exact ih
    | some d =>
      obtain ⟨v, h2, h3⟩ := r.get h
      rw [List.filterMap_cons_some h, List.filterMap_cons_some h2]; exact .cons h3 ih
def WK (X : Cx) (kws : List Keyword) : TA := fun σ H Q => ∃ t, PK X kws t ∧ t σ H Q
theorem pk_W (kws : List Keyword) : PK X kws (WK X kws) := ⟨fun pos pins s σ H Q I ⟨t, h, q⟩ => h.run pos pins s σ H Q I q⟩
def RK (X : Cx) (W : WX) (kws : List Keyword) (f : En → R (List D)) : Prop := ∀ B F0 F H σ ρ (Q : List V → Hp → Prop), EOk X.K X.wd B F0 F H σ ρ →
  Want X.K X.wd X.mg (f ρ) F H (fun ds F' H' => ∀ vs, Reps X.K X.wd F' ds vs → Q vs H') (fun C dd H' => W C dd σ H') → WK X kws σ H Q
theorem rk_nil : RK X W [] gNil := fun B F0 F H σ ρ Q x hw => ⟨_, pk_nil, hw F H (Grow.refl x.fh) _ .nil⟩
theorem rk_cons {nm : Option Str} (he : RE X W e fe) (hs : RK X W kws fk) {n : Str} : RK X W (⟨some n, e, kpos⟩ :: kws) (gCons fe fk) := fun B F0 F H σ ρ Q x hw => by
  refine ⟨_, pk_cons (pe_W e) (pk_W kws), ?_⟩
  refine he B F0 F H σ ρ _ x ((Want.bind (r := fe ρ) hw).imp fun d F1 H1 g1 k v r => ?_)
  exact hs B F0 F1 H1 σ ρ _ (x.grow g1) ((Want.bind (r := fk ρ) k).imp fun ds F2 H2 g2 k2 vs rs => k2 F2 H2 (Grow.refl g2.fh) _ (.cons (Rep.mono g2.ff _ _ r) rs))
def fCallK (m l n : Nat) (g : List D → R D) (ix : List Nat) (fa fk : En → R (List D)) : En → R D := fun ρ => (fa ρ).bind fun ds => (fk ρ).bind fun es => if (ds.length = m ∧ es.length = l) ∧ (perm ix (ds ++ es)).length = n then g (perm ix (ds ++ es)) else .bad
theorem run_kw {k m : Nat} {f : Addr} {fd : FuncData} {ps ks : List Str} {sp : Sp} {E : St → XK} {ix : List Nat} {pins : List (Addr × Obj)} {σ : St} {H : Hp} {s : Shared} {Q : VK} {us ws : List Value} {vs zs : List V}
    (F : FnOk X.prog X.w X.K X.mg X.base (L2.CX X.prog X.w) k f fd ps sp) (hr : Room k X.A)
    (hb : ∀ (s : Shared) (us ws : List Value), X.K.In s.heap → us.length = m → ws.length = ks.length → BindsTo s fd ⟨us, ks.zip ws⟩ (ps.zip (perm ix (us ++ ws)))) (hx : PassesAt (L2.CX X.prog X.w) X σ (E σ))
    (I : Inv X pins σ H s) (r : Vals vs us) (rz : Vals zs ws) (h1 : us.length = m) (h2 : ws.length = ks.length) (h : sp (perm ix (vs ++ zs)) H Q (E σ)) : wpAny (model X.prog X.w) X.A (call (.ref f) us (ks.zip ws)) (EP X pins σ Q) X.xe s := by
  refine wpAny_call (codeAny_mono (F.run X.A X.stack s H ⟨us, ks.zip ws⟩ (perm ix (us ++ ws)) _ Q (E σ) hr I.env0 (hb s us ws I.kIn h1 h2) (perm_vals ix (r.append rz)) h) fun r s' hq => ?_)
  cases r with
  | error e => exact hx pins H s e s' I hq
  | ok fl => cases fl <;> first | exact I.after hq | exact False.elim hq
theorem re_callK0 {k n j : Nat} {g : List D → R D} {ks : List Str} {ix : List Nat} (d : DefK X.prog X.w X.K X.mg X.base x k n g 0 ks ix) (b : Bq X W j) (hj : k ≤ j) (hg : Gl X x) (hk : RK X W kws fk)
    (hall : (backToKw pos (keywordEach kws X.env)).all (·.1.isSome) = true := by rfl) (hks : (backToKw pos (keywordEach kws X.env)).filterMap (·.1) = ks := by rfl) (hdb : (x == ("__debug__" : Str)) = false := by decide)
    (hpl : ((backTo pos (starEach [] X.env)).any (·.1) || (backToKw pos (keywordEach kws X.env)).any (·.1.isNone)) = false := by rfl) :
    RE X W (.Call (.Name x p) [] kws pos) (fCallK 0 ks.length n g ix gNil fk) := fun B F0 F H σ ρ Q x0 hw => by
  obtain ⟨f, fd, ps, F1, hm, hkp, hb⟩ := d.ex
  have ew : X.wd = wd0 X.w X.mg := wd_calm b.hc
  refine ⟨fun σ H Q => WK X kws σ H fun zs H1 => zs.length = ks.length ∧ spOf X.K X.w X.mg n g (perm ix ([] ++ zs)) H1 Q (fun C dd H => W C dd σ H), ⟨fun pins s σ H Q I h => ?_⟩, ?_⟩
  · refine wpAny_Call_Name_kw (ld_glob I hg hm ?_ hdb)
    refine PySem.W.callWith_KW0 (h₀ := X.base) I.ok.mod.kin hkp hall (thn ((pk_W kws).run pos pins s σ H _ I h) fun ws s2 hh => ?_) hpl
    obtain ⟨zs, H2, I2, rz, hl, q⟩ := hh
    refine ⟨I2.kIn, ?_⟩
    rw [hks]
    exact run_kw (us := []) (vs := []) (E := fun σ C dd H => W C dd σ H) F1 (b.hr.mono hj) hb (passAt b.tk σ) I2 .nil rz rfl (by rw [← rz.length]; exact hl) q
  · refine hk B F0 F H σ ρ _ x0 ((Want.bind (r := fk ρ) (f := fun es => if (([] : List D).length = 0 ∧ es.length = ks.length) ∧ (perm ix ([] ++ es)).length = n then g (perm ix ([] ++ es)) else .bad) hw).imp fun ds F1 H1 g1 k vs r => ?_)
    obtain ⟨hc, k⟩ := ifW k
    refine ⟨by rw [← r.length]; exact hc.1.2, ?_⟩
    have rp := perm_reps ix (Reps.append (.nil : Reps X.K X.wd F1 [] []) r)
    refine ⟨by rw [← rp.length]; exact hc.2, _, F1, g1.fh, by rw [← ew]; exact rp, ?_⟩
    rw [← ew]
    exact k
theorem re_callK {k n m j : Nat} {g : List D → R D} {ks : List Str} {ix : List Nat} (d : DefK X.prog X.w X.K X.mg X.base x k n g m ks ix) (b : Bq X W j) (hj : k ≤ j) (hg : Gl X x) (ha : RA X W (e :: es) fa) (hk : RK X W kws fk)
    (hall : (backToKw pos (keywordEach kws X.env)).all (·.1.isSome) = true := by rfl) (hks : (backToKw pos (keywordEach kws X.env)).filterMap (·.1) = ks := by rfl) (hdb : (x == ("__debug__" : Str)) = false := by decide)
    (he : starEach (e :: es) X.env = (false, eval e X.env) :: starEach es X.env := by rfl)
    (hpl : ((backTo pos (starEach (e :: es) X.env)).any (·.1) || (backToKw pos (keywordEach kws X.env)).any (·.1.isNone)) = false := by rfl) :
    RE X W (.Call (.Name x p) (e :: es) kws pos) (fCallK m ks.length n g ix fa fk) := fun B F0 F H σ ρ Q x0 hw => by
  obtain ⟨f, fd, ps, F1, hm, hkp, hb⟩ := d.ex
  have ew : X.wd = wd0 X.w X.mg := wd_calm b.hc
  refine ⟨fun σ H Q => WA X (e :: es) σ H fun vs H0 => WK X kws σ H0 fun zs H1 => (vs.length = m ∧ zs.length = ks.length) ∧ spOf X.K X.w X.mg n g (perm ix (vs ++ zs)) H1 Q (fun C dd H => W C dd σ H), ⟨fun pins s σ H Q I h => ?_⟩, ?_⟩
  · refine wpAny_Call_Name_kw (ld_glob I hg hm ?_ hdb)
    refine PySem.W.callWith_KW (h₀ := X.base) I.ok.mod.kin hkp hall (thn ((pa_W (e :: es)).run pos pins s σ H _ I h) fun us s1 hh => ?_) hpl he
    obtain ⟨vs, H1, I1, r, h1⟩ := hh
    refine thn ((pk_W kws).run pos pins s1 σ H1 _ I1 h1) fun ws s2 hh => ?_
    obtain ⟨zs, H2, I2, rz, hl, q⟩ := hh
    refine ⟨I2.kIn, ?_⟩
    rw [hks]
    exact run_kw (us := us) (E := fun σ C dd H => W C dd σ H) F1 (b.hr.mono hj) hb (passAt b.tk σ) I2 r rz (by rw [← r.length]; exact hl.1) (by rw [← rz.length]; exact hl.2) q
  · refine ha B F0 F H σ ρ _ x0 ((Want.bind (r := fa ρ) hw).imp fun ds F1 H1 g1 k vs r => ?_)
    refine hk B F0 F1 H1 σ ρ _ (x0.grow g1) ((Want.bind (r := fk ρ) (f := fun es => if (ds.length = m ∧ es.length = ks.length) ∧ (perm ix (ds ++ es)).length = n then g (perm ix (ds ++ es)) else .bad) k).imp fun es' F2 H2 g2 k zs rz => ?_)
    obtain ⟨hc, k⟩ := ifW k
    refine ⟨⟨by rw [← r.length]; exact hc.1.1, by rw [← rz.length]; exact hc.1.2⟩, ?_⟩
    have rp := perm_reps ix (Reps.append (Reps.mono g2.ff _ _ r) rz)
    refine ⟨by rw [← rp.length]; exact hc.2, _, F2, g2.fh, by rw [← ew]; exact rp, ?_⟩
    rw [← ew]
    exact k
/-- f() -/
theorem re_call0 {k n j : Nat} {g : List D → R D} (d : Def X.prog X.w X.K X.mg X.base x k n g) (b : Bq X W j) (hj : k ≤ j) (hg : Gl X x) (hdb : (x == ("__debug__" : Str)) = false := by decide) :
    RE X W (.Call (.Name x p) [] [] pos) (fCall n g gNil) := fun B F0 F H σ ρ Q x0 hw => by
  obtain ⟨f, fd, ps, F1, hm, hkp, hb⟩ := d.ex
  have ew : X.wd = wd0 X.w X.mg := wd_calm b.hc
  refine ⟨fun σ H Q => spOf X.K X.w X.mg n g [] H Q (fun C dd H => W C dd σ H), ⟨fun pins s σ H Q I h => ?_⟩, ?_⟩
  · refine wpAny_Call_Name_kw (ld_glob I hg hm ?_ hdb)
    exact PySem.W.callWith_K0 I.kIn hkp (run_fnS (us := []) (vs := []) (E := fun σ C dd H => W C dd σ H) F1 (b.hr.mono hj) hb (passAt b.tk σ) I .nil h)
  · replace hw : Want X.K X.wd X.mg (if ([] : List D).length = n then g [] else .bad) F H (fun d F' H' => ∀ v, Rep X.K X.wd F' d v → Q v H') (fun C dd H' => W C dd σ H') := hw
    obtain ⟨hc, k⟩ := ifW hw
    exact ⟨hc, [], F, x0.fh, .nil, by rw [← ew]; exact k⟩
/-! ### list(range(..)) -/
def rngL : List D → R (List D)
  | [.int i] => if -(2 ^ 62) ≤ i ∧ i < 2 ^ 62 ∧ i.toNat ≤ 100000 then .ok (rangeL 0 i) else .bad
  | [.int i, .int j] => if (-(2 ^ 62) ≤ i ∧ i < 2 ^ 62) ∧ -(2 ^ 62) ≤ j ∧ j < 2 ^ 62 ∧ (j - i).toNat ≤ 100000 then .ok (rangeL i j) else .bad
  | _ => .bad
theorem rgV_reps {K : PySem.W.Frag} {w : Wd} {F : Hp} (i j : Int) : Reps K w F (rangeL i j) (rgV i j) := by
  have e1 : rangeL i j = ((List.range (j - i).toNat).map fun (k : Nat) => i + (k : Int)).map D.int := by unfold rangeL; simp
  have e2 : rgV i j = ((List.range (j - i).toNat).map fun (k : Nat) => i + (k : Int)).map V.int := by unfold rgV; simp
  rw [e1, e2]
  exact Reps.ints _
theorem rf_listRange1 {a : Expr} {ga : En → R D} {q : Pos} {p2 : Pos} (hc : X.calm = true) (hg : Gl X "list") (hm : X.mg "list" = none) (hgr : Gl X "range") (hmr : X.mg "range" = none) (ha : RE X W a ga)
    (na : starEach [a] X.env = (false, eval a X.env) :: starEach [] X.env := by rfl) (nb : starEach [.Call (.Name "range" p2) [a] [] q] X.env = (false, eval (.Call (.Name "range" p2) [a] [] q) X.env) :: starEach [] X.env := by rfl) :
    RF X W (.Call (.Name "list" p) [.Call (.Name "range" p2) [a] [] q] [] pos) (fBi rngL (gCons ga gNil)) := fun B F0 F H σ ρ Q x0 hw => by
  refine ⟨_, pe_listRg hc hg hm (prg_1 hgr hmr (pe_W a) na) nb, ?_⟩
  have hw' : Want X.K X.wd X.mg ((ga ρ).bind fun d => rngL [d]) F H (fun ds F' H' => ∀ p xs, H p = none → F' p = none → H' p = some (.lst xs) → Reps X.K X.wd F' ds xs → Q (.ref p) H') (fun C dd H' => W C dd σ H') := by
    have e : (fBi rngL (gCons ga gNil)) ρ = (ga ρ).bind fun d => rngL [d] := by
      unfold fBi gCons gNil
      cases ga ρ <;> rfl
    rw [← e]; exact hw
  refine ha B F0 F H σ ρ _ x0 ((Want.bind hw').imp fun d F1 H1 g1 k v r => ?_)
  cases d with
  | int i =>
    cases r
    obtain ⟨hc, k⟩ := ifW k
    refine ⟨i, rfl, ⟨by omega, by omega, hc.1, hc.2.1, by have := hc.2.2; omega⟩, fun q hq => ?_⟩
    exact k F1 _ ((Grow.refl g1.fh).lay hq) q _ (g1.hh.free hq) (g1.fh.free hq) upd_same (rgV_reps _ _)
  | _ => exact k.elim
end
end Pc
set_option maxHeartbeats 4000000
namespace Pc
open PySem L2
/-! ### tables of error classes -/
def exmOf : List (Str × Bool) → Str → Option Bool
  | [], _ => none
  | (c, b) :: r, s => if s = c then some b else exmOf r s
inductive ExMl (K : PySem.W.Frag) (mg : Str → Option Value) (c : Value) : List (Str × Bool) → Prop where
  | nil : ExMl K mg c []
  | cons {x : Str} {b : Bool} {r : List (Str × Bool)} {a : Addr} : mg x = some (.ref a) → PySem.W.exmOne K (.ref a) c = some b → ExMl K mg c r → ExMl K mg c ((x, b) :: r)
theorem exM_of {K : PySem.W.Frag} {mg : Str → Option Value} {c : Value} : ∀ {l : List (Str × Bool)}, ExMl K mg c l → ExM K mg c (exmOf l)
  | _, .nil => fun _ _ _ h _ => by cases h
  | _, .cons m e r => fun cls c' b h hm => by
    unfold exmOf at h
    split at h
    · rename_i q
      subst q
      cases h
      rw [hm] at m
      cases m
      exact e
    · exact exM_of r cls c' b h hm
def etabOf : List (Str × Str × Bool) → Str → Str → Option Bool
  | [], _, _ => none
  | (c, z, b) :: r, s, y => if s = c ∧ y = z then some b else etabOf r s y
def efldOf : List (Str × Str) → Str → Str → Bool
  | [], _, _ => false
  | (c, z) :: r, s, y => if s = c ∧ y = z then true else efldOf r s y
inductive ExL (K : PySem.W.Frag) (mg : Str → Option Value) : List (Str × Str × Bool) → Prop where
  | nil : ExL K mg []
  | own {x y : Str} {b : Bool} {r : List (Str × Str × Bool)} {a cy : Addr} : mg x = some (.ref a) → mg y = some (.ref cy) → XC K a → PySem.W.kitOne K (.ref a) (.ref cy) = some b → ExL K mg r → ExL K mg ((x, y, b) :: r)
  | blt {x y : Str} {b : Bool} {r : List (Str × Str × Bool)} {a : Addr} {T : String} : mg x = some (.ref a) → mg y = none → bootBuiltins y = some (.type T) → XC K a → PySem.W.kitOne K (.ref a) (.type T) = some b → ExL K mg r → ExL K mg ((x, y, b) :: r)
inductive ExF (K : PySem.W.Frag) (mg : Str → Option Value) : List (Str × Str) → Prop where
  | nil : ExF K mg []
  | cons {x f : Str} {r : List (Str × Str)} {a : Addr} : mg x = some (.ref a) → XC K a → PySem.W.findIn K (.ref a) f = some none → ExF K mg r → ExF K mg ((x, f) :: r)
section
variable {K : PySem.W.Frag} {mg : Str → Option Value}
theorem exl_xc : ∀ {l : List (Str × Str × Bool)}, ExL K mg l → ∀ cls y b c', etabOf l cls y = some b → mg cls = some (.ref c') → XC K c'
  | _, .nil, _, _, _, _, h, _ => by cases h
  | _, .own m1 m2 x k r, cls, y, b, c', h, hm => by
    unfold etabOf at h
    split at h
    · rename_i q
      obtain ⟨rfl, rfl⟩ := q
      rw [hm] at m1; cases m1; exact x
    · exact exl_xc r _ _ _ _ h hm
  | _, .blt m1 m2 m3 x k r, cls, y, b, c', h, hm => by
    unfold etabOf at h
    split at h
    · rename_i q
      obtain ⟨rfl, rfl⟩ := q
      rw [hm] at m1; cases m1; exact x
    · exact exl_xc r _ _ _ _ h hm
theorem exl_own : ∀ {l : List (Str × Str × Bool)}, ExL K mg l → ∀ cls y b c' cy, etabOf l cls y = some b → mg cls = some (.ref c') → mg y = some (.ref cy) → PySem.W.kitOne K (.ref c') (.ref cy) = some b
  | _, .nil, _, _, _, _, _, h, _, _ => by cases h
  | _, .own m1 m2 x k r, cls, y, b, c', cy, h, hm, hy => by
    unfold etabOf at h
    split at h
    · rename_i q
      obtain ⟨rfl, rfl⟩ := q
      cases h
      rw [hm] at m1; rw [hy] at m2; cases m1; cases m2; exact k
    · exact exl_own r _ _ _ _ _ h hm hy
  | _, .blt m1 m2 m3 x k r, cls, y, b, c', cy, h, hm, hy => by
    unfold etabOf at h
    split at h
    · rename_i q
      obtain ⟨rfl, rfl⟩ := q
      rw [hy] at m2; cases m2
    · exact exl_own r _ _ _ _ _ h hm hy
theorem exl_blt : ∀ {l : List (Str × Str × Bool)}, ExL K mg l → ∀ cls y b c' T, etabOf l cls y = some b → mg cls = some (.ref c') → mg y = none → bootBuiltins y = some (.type T) → PySem.W.kitOne K (.ref c') (.type T) = some b
  | _, .nil, _, _, _, _, _, h, _, _, _ => by cases h
  | _, .own m1 m2 x k r, cls, y, b, c', T, h, hm, hy, hb => by
    unfold etabOf at h
    split at h
    · rename_i q
      obtain ⟨rfl, rfl⟩ := q
      rw [hy] at m2; cases m2
    · exact exl_blt r _ _ _ _ _ h hm hy hb
  | _, .blt m1 m2 m3 x k r, cls, y, b, c', T, h, hm, hy, hb => by
    unfold etabOf at h
    split at h
    · rename_i q
      obtain ⟨rfl, rfl⟩ := q
      cases h
      rw [hm] at m1; rw [hb] at m3; cases m1; cases m3; exact k
    · exact exl_blt r _ _ _ _ _ h hm hy hb
theorem exf_ok : ∀ {l : List (Str × Str)}, ExF K mg l → ∀ cls f c', efldOf l cls f = true → mg cls = some (.ref c') → XC K c' ∧ PySem.W.findIn K (.ref c') f = some none
  | _, .nil, _, _, _, h, _ => by cases h
  | _, .cons m1 x k r, cls, f, c', h, hm => by
    unfold efldOf at h
    split at h
    · rename_i q
      obtain ⟨rfl, rfl⟩ := q
      rw [hm] at m1; cases m1; exact ⟨x, k⟩
    · exact exf_ok r _ _ _ h hm
theorem tab_of {l : List (Str × Str × Bool)} {fl : List (Str × Str)} (a : ExL K mg l) (b : ExF K mg fl) : ExTab K mg (etabOf l) (efldOf fl) := ⟨exl_xc a, exl_own a, exl_blt a, exf_ok b⟩
theorem xc_of {C : Addr} (h1 : PySem.W.isClsIn K C = true) (h2 : PySem.W.findIn K (.ref C) "__getattribute__" = some (some (.builtin "BaseException.__getattribute__"))) (h3 : PySem.W.findIn K (.ref C) "__getattr__" = some none)
    (h4 : PySem.W.subIn K (.ref C) (.type "BaseException") = some true) (h5 : PySem.W.findIn K (.ref C) "__class__" = some (some (.builtin "object.__class__"))) (h6 : PySem.W.specialIn K (.builtin "object.__class__") "__get__" = some (some (.builtin "getset_descriptor.__get__")))
    (h7 : PySem.W.takesIn K (.builtin "object.__class__") = some true) (h8 : PySem.W.mroIn K C (.type "object") = some true) (h9 : PySem.W.hasDictIn K C = true) : XC K C := ⟨h1, h2, h3, h4, h5, h6, h7, h8, h9⟩
theorem cls_eq {C : Addr} (h1 : PySem.W.isClsIn K C = true) (h3 : PySem.W.typeIn K (.ref C) = some (.type "type")) : ((PySem.W.clsIn K C).isSome && PySem.W.typeIn K (.ref C) == some (.type "type")) = true := by
  have h : (PySem.W.clsIn K C).isSome = true := h1
  rw [h, h3]; rfl
theorem kit_own {C D : Addr} {b : Bool} (h1 : PySem.W.isClsIn K D = true) (h3 : PySem.W.typeIn K (.ref D) = some (.type "type")) (h4 : PySem.W.subIn K (.ref C) (.ref D) = some b) (h5 : PySem.W.subIn K (.ref C) (.ref C) = some true) : PySem.W.kitOne K (.ref C) (.ref D) = some b := by
  unfold PySem.W.kitOne
  by_cases h : C = D
  · subst h
    rw [h4] at h5
    rw [if_pos (by simp), h5]
  · rw [if_neg (by simpa using h)]
    unfold PySem.W.kitCls
    dsimp only
    rw [if_pos (cls_eq h1 h3)]
    exact h4
theorem kit_blt {C : Addr} {T : String} {b : Bool} (hm : PySem.W.kitMeta T = true) (h4 : PySem.W.subIn K (.ref C) (.type T) = some b) : PySem.W.kitOne K (.ref C) (.type T) = some b := by
  unfold PySem.W.kitOne
  rw [if_neg (by simp)]
  unfold PySem.W.kitCls
  dsimp only
  rw [if_pos hm]
  exact h4
theorem exm_own {C D : Addr} {b : Bool} (h0 : PySem.W.subIn K (.ref D) (.type "BaseException") = some true) (h1 : PySem.W.isClsIn K D = true) (h3 : PySem.W.typeIn K (.ref D) = some (.type "type")) (h4 : PySem.W.subIn K (.ref C) (.ref D) = some b) : PySem.W.exmOne K (.ref C) (.ref D) = some b := by
  unfold PySem.W.exmOne
  rw [if_pos (by rw [h0]; rfl)]
  unfold PySem.W.kitCls
  dsimp only
  rw [if_pos (cls_eq h1 h3)]
  exact h4
end
/-! ### the rules, by what the tables say -/
theorem Bq.tr {X : Cx} {W W' : WX} {k : Nat} {pn : List (Addr × Obj)} {xe : Value → Shared → Prop} (b : Bq X W k) (tk : Takes (X.tr pn xe) W') : Bq (X.tr pn xe) W' k := ⟨b.hr, tk, b.hc, b.hu⟩
/-- a class that a clause names -/
structure Caught (K : PySem.W.Frag) (mg : Str → Option Value) (x : Str) (exm : Str → Option Bool) : Prop where
  ex : ∃ c, mg x = some (.ref c) ∧ ExM K mg (.ref c) exm
structure OwnC (mg : Str → Option Value) (x : Str) : Prop where
  ex : ∃ c, mg x = some (.ref c)
section
variable {X : Cx} {W : WX} {x n y f : Str} {i : Nat} {body suite : List Stmt} {b₀ : Stmt} {np pos pos' p py : Pos} {fb : En → R (Option D)} {fs : En → R O} {exm : Str → Option Bool} {tab : Str → Str → Option Bool} {fld : Str → Str → Bool} {a : Addr} {oe : Obj} {pn : List (Addr × Obj)}
theorem rs_tryC {k : Nat} (b : Bq X W k) (C : Caught X.K X.mg x exm) (hN : X.N.Nodup) (hi : X.N[i]? = some n)
    (hb : ∀ (W' : WX) (pn : List (Addr × Obj)) (xe : Value → Shared → Prop), Takes (X.tr pn xe) W' → RQ (X.tr pn xe) W' body fb)
    (hsu : ∀ (a : Addr) (oe : Obj) (pn : List (Addr × Obj)), (∃ vs, oe.data = .fields vs) → RSs (X.suite a ((a, oe) :: pn)) WF (b₀ :: suite) fs)
    (hln : X.env.kindOf n = some .local) (hg : Gl X x) (hs : X.stack = X.env :: X.outer) (hf : X.env.frame = some X.env.locals) (hdb : (x == ("__debug__" : Str)) = false := by decide) :
    RS X W (.Try body [.ExceptHandler (some (.Name x np)) (some n) (b₀ :: suite) pos'] [] [] pos) (sTry i exm fb fs) := by
  obtain ⟨c, hm, hM⟩ := C.ex
  exact rs_try b.hc hs hf hN hi hln ⟨hg, hdb, .inl hm⟩ hM b.tk hb hsu
theorem re_isxC (i : Nat) (hd : ∃ vs, oe.data = .fields vs) (TB : ExTab X.K X.mg tab fld) (hm : X.mg "isinstance" = none) (C : OwnC X.mg y) (hg : Gl (X.suite a ((a, oe) :: pn)) "isinstance") (hN : X.N[i]? = some n) (hv : Vis X.env.scope n) (hgy : Gl (X.suite a ((a, oe) :: pn)) y)
    (hn : (n == ("__debug__" : Str)) = false := by decide) (hn2 : (n == ("__classdict__" : Str)) = false := by decide) (hdy : (y == ("__debug__" : Str)) = false := by decide)
    (he : starEach [.Name n np, .Name y py] X.env = (false, eval (.Name n np) X.env) :: starEach [.Name y py] X.env := by rfl) (he2 : starEach [.Name y py] X.env = (false, eval (.Name y py) X.env) :: starEach [] X.env := by rfl) (hpl : (backTo pos (starEach [.Name y py] X.env)).any (·.1) = false := by rfl) :
    RE (X.suite a ((a, oe) :: pn)) W (.Call (.Name "isinstance" p) [.Name n np, .Name y py] [] pos) (f1 (isxD tab y) (fVar i)) := by
  obtain ⟨cy, gy⟩ := C.ex
  exact re_isxO hd TB hg hm hN hv hgy gy hn hn2 hdy he he2 hpl
end
end Pc
set_option maxHeartbeats 4000000
namespace Pc
open PySem L2
@[simp] theorem R.bind_ok {α β : Type} (a : α) (f : α → R β) : R.bind (.ok a) f = f a := rfl
@[simp] theorem R.bind_bad {α β : Type} (f : α → R β) : R.bind (.bad : R α) f = .bad := rfl
@[simp] theorem R.bind_ex {α β : Type} (x : Exn) (f : α → R β) : R.bind (.ex x : R α) f = .ex x := rfl
/-! ### the combinators at an environment -/
section
variable {ρ : En} {f g : En → R D} {s s' : En → R O} {c c' : En → R Bool} {fs : En → R (List D)}
@[simp] theorem x_seq : sSeq s s' ρ = (s ρ).bind fun o => match o with | .nx ρ' => s' ρ' | o => .ok o := rfl
@[simp] theorem x_nx : sNx ρ = .ok (.nx ρ) := rfl
@[simp] theorem x_no : sNo ρ = .bad := rfl
@[simp] theorem x_bk : sBk ρ = .ok (.bk ρ) := rfl
@[simp] theorem x_ct : sCt ρ = .ok (.ct ρ) := rfl
@[simp] theorem x_ret : sRet f ρ = (f ρ).bind fun d => .ok (.rt d) := rfl
@[simp] theorem x_retN : sRetN ρ = .ok (.rt .non) := rfl
@[simp] theorem x_exp : sExp f ρ = (f ρ).bind fun _ => .ok (.nx ρ) := rfl
@[simp] theorem x_if : sIf c s s' ρ = (c ρ).bind fun b => if b = true then s ρ else s' ρ := rfl
@[simp] theorem x_set {i : Nat} : sSet i f ρ = (f ρ).bind fun d => .ok (.nx (ρ.set i (some (d, false)))) := rfl
@[simp] theorem x_own {i : Nat} : sOwn i fs ρ = (fs ρ).bind fun d => .ok (.nx (ρ.set i (some (.lst d, true)))) := rfl
@[simp] theorem x_setL {i : Nat} : sSetL i fs ρ = (fs ρ).bind fun d => .ok (.nx (ρ.set i (some (.lst d, false)))) := rfl
@[simp] theorem x_app {i : Nat} : sApp i f ρ = (fOwn i ρ).bind fun ds => (f ρ).bind fun d => if ds.length < lim then .ok (.nx (ρ.set i (some (.lst (ds ++ [d]), true)))) else .bad := rfl
@[simp] theorem x_put {i : Nat} : sPut i f g ρ = (f ρ).bind fun d => (fOwn i ρ).bind fun ds => (g ρ).bind fun k => (setAt ds d k).bind fun es => .ok (.nx (ρ.set i (some (.lst es, true)))) := rfl
@[simp] theorem x_aug {i : Nat} {h : Int → Int → Int} : sAug i h f ρ = (fVar i ρ).bind fun a => (f ρ).bind fun b => augR i h ρ a b := rfl
@[simp] theorem x_augR {i : Nat} {h : Int → Int → Int} {a b : Int} : augR i h ρ (.int a) (.int b) = .ok (.nx (ρ.set i (some (.int (h a b), false)))) := rfl
@[simp] theorem x_frz {is : List Nat} : sFrz is s ρ = s (frz ρ is) := rfl
@[simp] theorem x_frz0 : frz ρ [] = ρ := rfl
@[simp] theorem x_frz1 {i : Nat} {is : List Nat} : frz ρ (i :: is) = frz (frz1 ρ i) is := rfl
theorem frz1_own {i : Nat} {d : D} (h : ρ[i]? = some (some (d, true))) : frz1 ρ i = ρ.set i (some (d, false)) := by unfold frz1; rw [h]
theorem frz1_no {i : Nat} (h : ∀ d, ρ[i]? ≠ some (some (d, true))) : frz1 ρ i = ρ := by
  unfold frz1
  split
  · rename_i d e; exact absurd e (h d)
  · rfl
@[simp] theorem x_for {it : En → R (List D)} {tgt : D → En → R En} : sFor it tgt s ρ = (it ρ).bind fun ds => forGo tgt s ds ρ := rfl
@[simp] theorem x_asg {tgt : D → En → R En} : sAsg f tgt ρ = (f ρ).bind fun d => toN (tgt d ρ) := rfl
@[simp] theorem x_toN {ρ' : En} : toN (.ok ρ') = .ok (.nx ρ') := rfl
@[simp] theorem x_tName {i : Nat} {d : D} : tName i d ρ = .ok (ρ.set i (some (d, false))) := rfl
@[simp] theorem x_fC {d : D} : fC d ρ = .ok d := rfl
@[simp] theorem x_fL : fL fs ρ = (fs ρ).bind fun ds => .ok (.lst ds) := rfl
@[simp] theorem x_f2 {h : D → D → R D} : f2 h f g ρ = (f ρ).bind fun x => (g ρ).bind fun y => h x y := rfl
@[simp] theorem x_f1 {h : D → R D} : f1 h f ρ = (f ρ).bind h := rfl
@[simp] theorem x_fB : fB f ρ = (f ρ).bind toB := rfl
@[simp] theorem x_fTru : fTru f ρ = (f ρ).bind truD := rfl
@[simp] theorem x_fBl : fBl c ρ = (c ρ).bind fun b => .ok (.bl b) := rfl
@[simp] theorem x_gAnd : gAnd c c' ρ = (c ρ).bind fun b => if b = true then c' ρ else .ok false := rfl
@[simp] theorem x_gOr : gOr c c' ρ = (c ρ).bind fun b => if b = true then .ok true else c' ρ := rfl
@[simp] theorem x_gNot : gNot c ρ = (c ρ).bind fun b => .ok (!b) := rfl
@[simp] theorem x_gYes : gYes ρ = .ok true := rfl
@[simp] theorem x_fAnd : fAnd f g ρ = (f ρ).bind fun d => (toB d).bind fun b => if b = true then g ρ else .ok (.bl false) := rfl
@[simp] theorem x_fOr : fOr f g ρ = (f ρ).bind fun d => (toB d).bind fun b => if b = true then .ok (.bl true) else g ρ := rfl
@[simp] theorem x_fIf : fIf c f g ρ = (c ρ).bind fun b => if b = true then f ρ else g ρ := rfl
@[simp] theorem x_gNil : gNil ρ = .ok [] := rfl
@[simp] theorem x_gCons : gCons f fs ρ = (f ρ).bind fun d => (fs ρ).bind fun ds => .ok (d :: ds) := rfl
@[simp] theorem x_fLst : fLst fs ρ = (fs ρ).bind fun ds => cap lim ds := rfl
@[simp] theorem x_fTup : fTup fs ρ = (fs ρ).bind fun ds => if ds.length ≤ lim then .ok (.tup ds) else .bad := rfl
@[simp] theorem x_fBi {α : Type} {h : List D → R α} : fBi h fs ρ = (fs ρ).bind h := rfl
@[simp] theorem x_fCall {n : Nat} {h : List D → R D} : fCall n h fs ρ = (fs ρ).bind fun ds => if ds.length = n then h ds else .bad := rfl
@[simp] theorem x_fRev : fRev f ρ = (f ρ).bind revL := rfl
@[simp] theorem x_fSl {l h : En → R (Option Int)} : fSl f l h ρ = (f ρ).bind fun d => (l ρ).bind fun lo => (h ρ).bind fun hi => slL d lo hi := rfl
@[simp] theorem x_gNo : gNo ρ = .ok none := rfl
@[simp] theorem x_gSo : gSo f ρ = (f ρ).bind fun d => match d with | .int i => .ok (some i) | _ => .bad := rfl
@[simp] theorem x_gIt : gIt f ρ = (f ρ).bind itD := rfl
@[simp] theorem x_gR1 : gR1 fs ρ = (fs ρ).bind rng1 := rfl
@[simp] theorem x_gR2 : gR2 fs ρ = (fs ρ).bind rng2 := rfl
@[simp] theorem x_gRv : gRv fs ρ = (fs ρ).bind revI := rfl
@[simp] theorem x_gZip : gZip fs ρ = (fs ρ).bind zipI := rfl
@[simp] theorem x_isi {T : Tn} : isiD T f ρ = (f ρ).bind fun d => (isT T d).bind fun b => .ok (.bl b) := rfl
@[simp] theorem x_minDf : fMinDf f g ρ = (f ρ).bind fun d => (g ρ).bind fun z => minDf [d] z := rfl
theorem fVar_at {i : Nat} {d : D} (h : ρ[i]? = some (some (d, false))) : fVar i ρ = .ok d := by unfold fVar; rw [h]
theorem fVarB_at {i : Nat} {d : D} {o : Bool} (h : ρ[i]? = some (some (d, o))) : fVarB i ρ = .ok d := by unfold fVarB; rw [h]
end
section
variable {i j : Int} {b b' : Bool} {ds es : List D} {d : D}
@[simp] theorem x_end_rt : endD (.ok (.rt d)) = .ok d := rfl
@[simp] theorem x_end_nx {ρ : En} : endD (.ok (.nx ρ)) = .ok .non := rfl
@[simp] theorem x_add : addD (.int i) (.int j) = .ok (.int (i + j)) := rfl
@[simp] theorem x_sub : subD (.int i) (.int j) = .ok (.int (i - j)) := rfl
@[simp] theorem x_neg : negD (.int i) = .ok (.int (-i)) := rfl
@[simp] theorem x_addL : addD (.lst ds) (.lst es) = if ds.length + es.length ≤ lim then .ok (.lst (ds ++ es)) else .bad := rfl
@[simp] theorem x_lt : ltD (.int i) (.int j) = .ok (.bl (decide (i < j))) := rfl
@[simp] theorem x_le : leD (.int i) (.int j) = .ok (.bl (decide (i ≤ j))) := rfl
@[simp] theorem x_gt : gtD (.int i) (.int j) = .ok (.bl (decide (j < i))) := rfl
@[simp] theorem x_ge : geD (.int i) (.int j) = .ok (.bl (decide (j ≤ i))) := rfl
@[simp] theorem x_eq : eqD (.int i) (.int j) = .ok (.bl (decide (i = j))) := rfl
@[simp] theorem x_ne : neD (.int i) (.int j) = .ok (.bl (!decide (i = j))) := rfl
@[simp] theorem x_eqb : eqD (.bl b) (.bl b') = .ok (.bl (decide (b = b'))) := rfl
@[simp] theorem x_is : isD (.bl b) (.bl b') = .ok (.bl (decide (b = b'))) := rfl
@[simp] theorem x_toB : toB (.bl b) = .ok b := rfl
@[simp] theorem x_not : notD (.bl b) = .ok (.bl (!b)) := rfl
@[simp] theorem x_truB : truD (.bl b) = .ok b := rfl
@[simp] theorem x_abs : absD [.int i] = .ok (.int (if i < 0 then -i else i)) := rfl
@[simp] theorem x_int : intD [.int i] = .ok (.int i) := rfl
@[simp] theorem x_intb : intD [.bl b] = .ok (.int (if b then 1 else 0)) := rfl
@[simp] theorem x_len : lenD [.lst ds] = .ok (.int ds.length) := rfl
@[simp] theorem x_lent : lenD [.tup ds] = .ok (.int ds.length) := rfl
@[simp] theorem x_lens {ns : List Int} : lenD [.scr ns] = .ok (.int ns.length) := rfl
@[simp] theorem x_min2 : minD [.int i, .int j] = .ok (.int (if j < i then j else i)) := rfl
@[simp] theorem x_max2 : maxD [.int i, .int j] = .ok (.int (if j > i then j else i)) := rfl
@[simp] theorem x_listL : listL [.lst ds] = .ok ds := rfl
@[simp] theorem x_listT : listL [.tup ds] = .ok ds := rfl
@[simp] theorem x_tupleL : tupleD [.lst ds] = .ok (.tup ds) := rfl
@[simp] theorem x_tupleT : tupleD [.tup ds] = .ok (.tup ds) := rfl
@[simp] theorem x_revL : revL (.lst ds) = .ok ds.reverse := rfl
@[simp] theorem x_revI : revI [.lst ds] = .ok ds.reverse := rfl
@[simp] theorem x_itD : itD (.lst ds) = .ok ds := rfl
@[simp] theorem x_itT : itD (.tup ds) = .ok ds := rfl
@[simp] theorem x_gcd : gcdD [.int i, .int j] = .ok (.int ((Nat.gcd i.natAbs j.natAbs : Nat) : Int)) := rfl
@[simp] theorem x_isInt : isT .int (.int i) = .ok true := rfl
@[simp] theorem x_isBool : isT .bool (.int i) = .ok false := rfl
@[simp] theorem x_isBool2 : isT .bool (.bl b) = .ok true := rfl
@[simp] theorem x_isInt2 : isT .int (.bl b) = .ok true := rfl
@[simp] theorem x_isList : isT .list (.lst ds) = .ok true := rfl
theorem x_mul (h : i.natAbs.log2 + j.natAbs.log2 < 1000000) : mulD (.int i) (.int j) = .ok (.int (i * j)) := if_pos h
theorem x_fdiv (h : 0 < j) (h' : j.natAbs.log2 < 9000) : fdivD (.int i) (.int j) = .ok (.int (i / j)) := if_pos ⟨h, h'⟩
theorem x_mod (h : 0 < j) : modD (.int i) (.int j) = .ok (.int (i % j)) := if_pos h
theorem x_pow (h : 0 ≤ j ∧ j ≤ 1000000 ∧ i.natAbs < 2 ^ 64) : powD (.int i) (.int j) = .ok (.int (i ^ j.toNat)) := if_pos h
theorem x_ix (h : atI ds i = some d) : ixD (.lst ds) (.int i) = .ok d := by show (match atI ds i with | some d => R.ok d | none => .bad) = _; rw [h]
theorem x_ixt (h : atI ds i = some d) : ixD (.tup ds) (.int i) = .ok d := by show (match atI ds i with | some d => R.ok d | none => .bad) = _; rw [h]
theorem x_cap (h : ds.length ≤ lim) : cap lim ds = .ok ds := if_pos h
theorem x_min {ns : List Int} (h : ns ≠ []) : minD [.lst (ns.map D.int)] = .ok (.int (minL ns)) := by
  cases ns with
  | nil => exact absurd rfl h
  | cons n ns => show (match D.ints ((n :: ns).map D.int) with | some (n :: ns) => R.ok (D.int (minL (n :: ns))) | _ => .bad) = _; rw [ints_map]
theorem x_max {ns : List Int} (h : ns ≠ []) : maxD [.lst (ns.map D.int)] = .ok (.int (maxL ns)) := by
  cases ns with
  | nil => exact absurd rfl h
  | cons n ns => show (match D.ints ((n :: ns).map D.int) with | some (n :: ns) => R.ok (D.int (maxL (n :: ns))) | _ => .bad) = _; rw [ints_map]
theorem x_minDf0 : minDf [.lst (([] : List Int).map D.int)] d = .ok d := rfl
theorem x_minDf1 {ns : List Int} (h : ns ≠ []) : minDf [.lst (ns.map D.int)] d = .ok (.int (minL ns)) := by
  cases ns with
  | nil => exact absurd rfl h
  | cons n ns => show (match D.ints ((n :: ns).map D.int) with | some [] => R.ok d | some (n :: ns) => R.ok (D.int (minL (n :: ns))) | none => .bad) = _; rw [ints_map]
theorem x_sorted {ns : List Int} : sortedL [.lst (ns.map D.int)] = .ok ((isort ns).map D.int) := by
  show (match D.ints (ns.map D.int) with | some ns => R.ok ((isort ns).map D.int) | none => .bad) = _; rw [ints_map]
theorem x_sortedS {ns : List Int} (h : ns.length < 64) : sortedL [.st ns] = .ok ((usort ns).map D.int) := if_pos h
theorem x_setI {ns : List Int} (h : ns.length ≤ 1000) : setD [.lst (ns.map D.int)] = .ok (.st ns) := by
  show (match D.ints (ns.map D.int) with | some ns => if ns.length ≤ 1000 then R.ok (D.st ns) else .bad | none => .bad) = _; rw [ints_map]; exact if_pos h
theorem x_all {bs : List Bool} : allD [.lst (bs.map D.bl)] = .ok (.bl (bs.all id)) := by
  show (match D.bls (bs.map D.bl) with | some bs => R.ok (D.bl (bs.all id)) | none => .bad) = _; rw [bls_map]
theorem x_rng1 (h : -(2 ^ 62) ≤ i ∧ i < 2 ^ 62) : rng1 [.int i] = .ok (rangeL 0 i) := if_pos h
theorem x_rng2 (h : -(2 ^ 62) ≤ i ∧ i < 2 ^ 62 ∧ -(2 ^ 62) ≤ j ∧ j < 2 ^ 62) : rng2 [.int i, .int j] = .ok (rangeL i j) := if_pos h
@[simp] theorem x_slL {lo hi : Option Int} : slL (.lst ds) lo hi = .ok (cutL ds lo hi) := rfl
@[simp] theorem x_slS {ns : List Int} {lo hi : Option Int} : slL (.scr ns) lo hi = .ok ((cutL ns lo hi).map D.int) := rfl
theorem x_setAt {j : Nat} (h : j < ds.length) : setAt ds d (.int (j : Int)) = .ok (ds.set j d) := by
  have e : ixN ds.length (j : Int) = some j := by
    unfold ixN
    rw [if_pos (by omega), if_pos (by omega)]; simp
  show (match ixN ds.length (j : Int) with | some j => R.ok (ds.set j d) | none => .bad) = _; rw [e]
end
/-! ### loops by what they keep -/
theorem forGo_all {tgt : D → En → R En} {body : En → R O} (P : Nat → En → Prop) : ∀ (ds : List D) (k : Nat) (ρ : En), P k ρ →
    (∀ j d ρ, ds[j]? = some d → P (k + j) ρ → ∃ ρ1 ρ2, tgt d ρ = .ok ρ1 ∧ (body ρ1 = .ok (.nx ρ2) ∨ body ρ1 = .ok (.ct ρ2)) ∧ P (k + j + 1) ρ2) → ∃ ρ', forGo tgt body ds ρ = .ok (.nx ρ') ∧ P (k + ds.length) ρ'
  | [], k, ρ, h, _ => ⟨ρ, rfl, h⟩
  | d :: ds, k, ρ, h, hs => by
    obtain ⟨ρ1, ρ2, e1, e2, h2⟩ := hs 0 d ρ rfl h
    obtain ⟨ρ', e3, h3⟩ := forGo_all P ds (k + 1) ρ2 h2 fun j d ρ hj hp => by
      have := hs (j + 1) d ρ (by simpa using hj) (by rw [Nat.add_assoc, Nat.add_comm 1 j] at hp; exact hp)
      rw [show k + (j + 1) + 1 = k + 1 + j + 1 by omega] at this
      exact this
    refine ⟨ρ', ?_, by rw [List.length_cons, show k + (ds.length + 1) = k + 1 + ds.length by omega]; exact h3⟩
    unfold forGo
    rw [e1]
    rcases e2 with e2 | e2 <;> (dsimp only; rw [e2]; exact e3)
/-- a loop over all of a list -/
theorem for_inv {tgt : D → En → R En} {body : En → R O} {ds : List D} {ρ : En} (P : Nat → En → Prop) (h0 : P 0 ρ)
    (hs : ∀ j d ρ, ds[j]? = some d → P j ρ → ∃ ρ1 ρ2, tgt d ρ = .ok ρ1 ∧ (body ρ1 = .ok (.nx ρ2) ∨ body ρ1 = .ok (.ct ρ2)) ∧ P (j + 1) ρ2) : ∃ ρ', forGo tgt body ds ρ = .ok (.nx ρ') ∧ P ds.length ρ' := by
  obtain ⟨ρ', e, h⟩ := forGo_all P ds 0 ρ h0 fun j d ρ hj hp => by
    rw [Nat.zero_add] at hp ⊢
    exact hs j d ρ hj hp
  exact ⟨ρ', e, by rwa [Nat.zero_add] at h⟩
theorem for_name {i : Nat} {body : En → R O} {ds : List D} {ρ : En} (P : Nat → En → Prop) (h0 : P 0 ρ)
    (hs : ∀ j d ρ, ds[j]? = some d → P j ρ → ∃ ρ2, body (ρ.set i (some (d, false))) = .ok (.nx ρ2) ∧ P (j + 1) ρ2) : ∃ ρ', forGo (tName i) body ds ρ = .ok (.nx ρ') ∧ P ds.length ρ' :=
  for_inv P h0 fun j d ρ hj hp => by
    obtain ⟨ρ2, e, h⟩ := hs j d ρ hj hp
    exact ⟨_, ρ2, rfl, .inl e, h⟩
theorem map_get {α : Type} {inj : α → D} {xs : List α} {j : Nat} {d : D} (h : (xs.map inj)[j]? = some d) : ∃ x, xs[j]? = some x ∧ d = inj x := by
  rw [List.getElem?_map, Option.map_eq_some_iff] at h
  obtain ⟨x, e, rfl⟩ := h
  exact ⟨x, e, rfl⟩
/-- a comprehension over a list of like things -/
theorem lc_map {α : Type} {tgt : D → En → R En} {tt : En → R Bool} {el : En → R D} {ρ : En} {inj : α → D} (p : α → Bool) (v : α → D) : ∀ (xs : List α) (acc : List D), acc.length + xs.length ≤ lim →
    (∀ x ∈ xs, ∃ ρ1, tgt (inj x) ρ = .ok ρ1 ∧ tt ρ1 = .ok (p x) ∧ (p x = true → el ρ1 = .ok (v x))) → lcGo tgt tt el ρ (xs.map inj) acc = .ok (acc ++ (xs.filter p).map v)
  | [], acc, _, _ => by simp [lcGo]
  | x :: xs, acc, hl, h => by
    obtain ⟨ρ1, e1, e2, e3⟩ := h x List.mem_cons_self
    rw [List.length_cons] at hl
    rw [List.map_cons]
    unfold lcGo
    rw [e1]
    dsimp only
    rw [e2]
    cases hp : p x with
    | false =>
      dsimp only
      rw [lc_map p v xs acc (by omega) fun y hy => h y (List.mem_cons_of_mem _ hy), List.filter_cons, if_neg (by rw [hp]; simp)]
    | true =>
      dsimp only
      rw [e3 hp]
      dsimp only
      rw [if_pos (by omega), lc_map p v xs _ (by simp; omega) fun y hy => h y (List.mem_cons_of_mem _ hy), List.filter_cons, if_pos hp]
      simp
theorem lc_ok {α : Type} {own : List Nat} {it : En → R (List D)} {tgt : D → En → R En} {tt : En → R Bool} {el : En → R D} {ρ : En} {inj : α → D} {xs : List α} (p : α → Bool) (v : α → D) (hi : it ρ = .ok (xs.map inj)) (hl : xs.length ≤ lim)
    (h : ∀ x ∈ xs, ∃ ρ1, tgt (inj x) (wipeE ρ own) = .ok ρ1 ∧ tt ρ1 = .ok (p x) ∧ (p x = true → el ρ1 = .ok (v x))) : fLc own it tgt tt el ρ = .ok ((xs.filter p).map v) := by
  unfold fLc
  rw [hi, R.bind_ok, lc_map p v xs [] (by simpa using hl) h]
  rfl
theorem lc_all {α : Type} {own : List Nat} {it : En → R (List D)} {tgt : D → En → R En} {el : En → R D} {ρ : En} {inj : α → D} {xs : List α} (v : α → D) (hi : it ρ = .ok (xs.map inj)) (hl : xs.length ≤ lim)
    (h : ∀ x ∈ xs, ∃ ρ1, tgt (inj x) (wipeE ρ own) = .ok ρ1 ∧ el ρ1 = .ok (v x)) : fLc own it tgt gYes el ρ = .ok (xs.map v) := by
  rw [lc_ok (fun _ => true) v hi hl fun x hx => by
    obtain ⟨ρ1, e1, e2⟩ := h x hx
    exact ⟨ρ1, e1, rfl, fun _ => e2⟩, List.filter_eq_self.mpr (by simp)]
theorem rangeL_get {lo hi : Int} {j : Nat} {d : D} (h : (rangeL lo hi)[j]? = some d) : d = .int (lo + j) ∧ lo + j < hi := by
  unfold rangeL at h
  rw [List.getElem?_map, Option.map_eq_some_iff] at h
  obtain ⟨k, e1, rfl⟩ := h
  obtain ⟨h1, h2⟩ := List.getElem?_eq_some_iff.mp e1
  rw [List.length_range] at h1
  rw [List.getElem_range] at h2
  subst h2
  exact ⟨rfl, by omega⟩
theorem rangeL_len (lo hi : Int) : (rangeL lo hi).length = (hi - lo).toNat := by unfold rangeL; simp
theorem rangeL_eq (lo hi : Int) : rangeL lo hi = ((List.range (hi - lo).toNat).map fun (i : Nat) => lo + (i : Int)).map D.int := by unfold rangeL; simp
theorem atI_get? {α : Type} {xs : List α} {j : Nat} (h : j < xs.length) : atI xs (j : Int) = some xs[j] := atI_nat (by simp [h])
theorem log2_small {i : Int} {n : Nat} (h : i.natAbs < 2 ^ n) (hn : 0 < n) : i.natAbs.log2 < n := PySem.Flt.log2_lt_of hn h
end Pc
set_option maxHeartbeats 4000000
namespace Pc
open PySem L2
theorem pys_ints : ∀ ns : List Int, D.pys (ns.map D.int) = some (ns.map PyData.int)
  | [] => by simp [D.pys]
  | n :: ns => by rw [List.map_cons, D.pys, pys_ints ns]; simp [D.py]
theorem shaped_ints : ∀ ns : List Int, SeqAt.shaped (.list (ns.map PyData.int)) = true := by
  intro ns
  have e1 : ∀ ns : List Int, PyData.canLayAll0 (ns.map PyData.int) = true := fun ns => by
    induction ns with
    | nil => simp [PyData.canLayAll0]
    | cons n ns ih => simp [PyData.canLayAll0, PyData.canLay0, ih]
  have e2 : ∀ ns : List Int, PyData.depthAll (ns.map PyData.int) ≤ 1 := fun ns => by
    induction ns with
    | nil => simp [PyData.depthAll]
    | cons n ns ih => simp [PyData.depthAll, PyData.depth]; omega
  have := e2 ns
  unfold SeqAt.shaped
  simp [PyData.canLay0, PyData.depth, e1]
  omega
theorem eqv_ints : ∀ ns ms : List Int, PyData.eqvAll (ns.map PyData.int) (ms.map PyData.int) = decide (ns = ms)
  | [], [] => by simp [PyData.eqvAll]
  | [], _ :: _ => by simp [PyData.eqvAll]
  | _ :: _, [] => by simp [PyData.eqvAll]
  | n :: ns, m :: ms => by
    rw [List.map_cons, List.map_cons, PyData.eqvAll, eqv_ints ns ms]
    by_cases h : n = m <;> by_cases h' : ns = ms <;> simp [PyData.eqv, h, h']
theorem x_eqL {ns ms : List Int} : eqD (.lst (ns.map D.int)) (.lst (ms.map D.int)) = .ok (.bl (decide (ns = ms))) := by
  unfold eqD eqB deepB
  simp only [D.py, pys_ints, Option.map_some, shaped_ints, and_self, if_true]
  rw [PyData.eqv, eqv_ints]
theorem p18 : powD (.int 10) (.int 18) = .ok (.int 1000000000000000000) := x_pow (by decide)
theorem p9 : powD (.int 10) (.int 9) = .ok (.int 1000000000) := x_pow (by decide)
theorem p8 : powD (.int 10) (.int 8) = .ok (.int 100000000) := x_pow (by decide)
end Pc
set_option maxHeartbeats 4000000
namespace Pc
open PySem L2
theorem x_in {ns : List Int} {i : Int} : inD (.int i) (.lst (ns.map D.int)) = .ok (.bl (decide (i ∈ ns))) := by
  have e1 : (ns.map D.int).all flatD = true := by simp [flatD]
  have e2 : ∀ l : List Int, inV (V.int i) ((l.map D.int).map toV) = decide (i ∈ l) := fun l => by
    induction l with
    | nil => rfl
    | cons n l ih =>
      unfold inV at ih ⊢
      rw [List.map_cons, List.map_cons, List.any_cons, ih]
      show (n == i || decide (i ∈ l)) = _
      by_cases h : n = i
      · subst h; simp
      · have : (n == i) = false := by simpa using h
        rw [this, Bool.false_or]
        have h2 : ¬ i = n := fun q => h q.symm
        simp [h2]
  have e3 : inB (.int i) (.lst (ns.map D.int)) = some (decide (i ∈ ns)) := by
    show (if flatD (D.int i) = true ∧ (ns.map D.int).all flatD = true then some (inV (toV (D.int i)) ((ns.map D.int).map toV)) else none) = _
    rw [if_pos ⟨rfl, e1⟩]
    exact congrArg some (e2 ns)
  unfold inD
  rw [e3]
@[simp] theorem x_rngL {i : Int} (h : 0 ≤ i) (h2 : i ≤ 100000) : rngL [.int i] = .ok (rangeL 0 i) := if_pos ⟨by omega, by omega, by omega⟩
end Pc
set_option maxHeartbeats 8000000
namespace K37
open PySem L2 Pc
def fuel : Nat := 1000
def top (i : Nat) : Stmt := PySem.Challenge.pw_wordruns_k37_far_classes.main.body.getD i (.Pass ⟨0, 0, 0, 0⟩)
/-- what the top has written -/
structure Txt (mg : Str → Option Value) : Prop where
  b_ValueError : mg "ValueError" = none
  b_abs : mg "abs" = none
  b_bool : mg "bool" = none
  b_int : mg "int" = none
  b_isinstance : mg "isinstance" = none
  b_len : mg "len" = none
  b_list : mg "list" = none
  b_max : mg "max" = none
  b_min : mg "min" = none
  b_range : mg "range" = none
  b_set : mg "set" = none
  b_sorted : mg "sorted" = none
  b_tuple : mg "tuple" = none
  c_LONGEST : ∃ t, mg "LONGEST" = some (.int 1000000000000000000 t)
  c_MOST_PERIODS : ∃ t, mg "MOST_PERIODS" = some (.int 6 t)

def exm_WordError : Str → Option Bool := exmOf [("TooMany", true), ("OutOfBounds", true), ("NoPeriod", true)]
def etab : Str → Str → Option Bool := etabOf [("TooMany", "TooMany", true), ("TooMany", "OutOfBounds", false), ("TooMany", "NoPeriod", false), ("TooMany", "ValueError", true), ("OutOfBounds", "TooMany", false), ("OutOfBounds", "OutOfBounds", true), ("OutOfBounds", "NoPeriod", false), ("OutOfBounds", "ValueError", true), ("NoPeriod", "TooMany", false), ("NoPeriod", "OutOfBounds", false), ("NoPeriod", "NoPeriod", true), ("NoPeriod", "ValueError", true)]
def efld : Str → Str → Bool := efldOf [("TooMany", "most"), ("OutOfBounds", "value")]
structure Errs (P : Program) (w : World) (K : PySem.W.Frag) (mg : Str → Option Value) (base : Heap) : Prop where
  e_TooMany : Err1 P w K mg base "TooMany" "most"
  e_OutOfBounds : Err1 P w K mg base "OutOfBounds" "value"
  e_NoPeriod : Err0 K mg "NoPeriod"
  m_WordError : Caught K mg "WordError" exm_WordError
  y_TooMany : OwnC mg "TooMany"
  y_OutOfBounds : OwnC mg "OutOfBounds"
  y_NoPeriod : OwnC mg "NoPeriod"
  tab : ExTab K mg etab efld

/-! ### _law_dig -/
abbrev s__law_dig : Stmt := top 20
abbrev n__law_dig : List Str := ["cells", "place", "sizes", "cell", "left", "row", "k", "mixed"]
def b__law_dig_1 : En → R O := sSeq (sIf (fB (f2 ltD (fBi absD (gCons (fVar 3) (gNil))) (f2 powD (fC (.int 10)) (fC (.int 18))))) (
  sSeq (sSet 7 (f2 modD (fBi intD (gCons (f2 addD (f2 addD (f2 addD (f2 mulD (fVar 3) (fC (.int 48271))) (f2 mulD (fVar 1) (fC (.int 8191)))) (f2 mulD (fVar 6) (fC (.int 69621)))) (fC (.int 40692))) (gNil))) (fC (.int 2147483647)))) (
  sSet 4 (f2 fdivD (f2 modD (fBi intD (gCons (f2 addD (f2 addD (f2 mulD (fVar 7) (fVar 7)) (f2 mulD (fVar 6) (fC (.int 16807)))) (fVar 1)) (gNil))) (fC (.int 998244353))) (fC (.int 8))))) (
  sNx)) (
  sSeq (sApp 5 (f2 modD (fBi intD (gCons (fVar 4) (gNil))) (f2 ixD (fVar 2) (fVar 6)))) (
  sSet 4 (f2 fdivD (fVar 4) (f2 ixD (fVar 2) (fVar 6)))))
def b__law_dig : En → R O := sSeq (sSet 3 (fC (.int 0))) (
  sSeq (sIf (fB (f2 ltD (fVar 1) (fBi lenD (gCons (fVar 0) (gNil))))) (
  sSet 3 (f2 ixD (fVar 0) (fVar 1))) (
  sNx)) (
  sSeq (sSet 4 (fBi absD (gCons (fVar 3) (gNil)))) (
  sSeq (sOwn 5 (fLst (gNil))) (
  sSeq (sFor (gR1 (gCons (fBi lenD (gCons (fVar 2) (gNil))) (gNil))) (tName 6) b__law_dig_1) (
  sFrz [5] (sRet (fVar 5)))))))
def g__law_dig : List D → R D := runDef 8 b__law_dig
theorem r__law_dig (x0 x1 x2 : D) : g__law_dig [x0, x1, x2] = endD (b__law_dig [some (x0, false), some (x1, false), some (x2, false), none, none, none, none, none]) := rfl
/-! ### _law_closing -/
abbrev s__law_closing : Stmt := top 22
abbrev n__law_closing : List Str := ["periods", "n", "marks", "p", "t", "low", "high", "mark"]
def b__law_closing_1 : En → R O := sIf (fB (f2 neD (f2 ixD (fVar 2) (fVar 4)) (f2 ixD (fVar 2) (f2 addD (fVar 4) (fVar 3))))) (
  sSeq (sSet 5 (fBi minD (gCons (f2 ixD (fVar 2) (fVar 4)) (gCons (f2 ixD (fVar 2) (f2 addD (fVar 4) (fVar 3))) (gNil))))) (
  sSeq (sSet 6 (fBi maxD (gCons (f2 ixD (fVar 2) (fVar 4)) (gCons (f2 ixD (fVar 2) (f2 addD (fVar 4) (fVar 3))) (gNil))))) (
  sSetL 2 (fLc [7] (gIt (fVar 2)) (tName 7) (gYes) (fIf (fB (f2 eqD (fVar 7) (fVar 6))) (fVar 5) (fVar 7)))))) (
  sNx)
def b__law_closing_2 : En → R O := sFor (gR1 (gCons (f2 subD (fVar 1) (fVar 3)) (gNil))) (tName 4) b__law_closing_1
def b__law_closing : En → R O := sSeq (sSet 2 (fL (fBi rngL (gCons (fVar 1) gNil)))) (
  sSeq (sFor (gIt (fVar 0)) (tName 3) b__law_closing_2) (
  sRet (fVar 2)))
def g__law_closing : List D → R D := runDef 8 b__law_closing
theorem r__law_closing (x0 x1 : D) : g__law_closing [x0, x1] = endD (b__law_closing [some (x0, false), some (x1, false), none, none, none, none, none, none]) := rfl
/-! ### _law_table -/
abbrev s__law_table : Stmt := top 25
abbrev n__law_table : List Str := ["periods", "n", "m", "more"]
def b__law_table : En → R O := sRet (fL (fLst (gCons (fVar 2) (gCons (fVar 3) (gCons (fCall 2 g__law_closing (gCons (fVar 0) (gCons (fVar 1) (gNil)))) (gCons (fCall 2 g__law_closing (gCons (fVar 0) (gCons (f2 addD (fVar 1) (fC (.int 1))) (gNil)))) (gNil)))))))
def g__law_table : List D → R D := runDef 4 b__law_table
theorem r__law_table (x0 x1 x2 x3 : D) : g__law_table [x0, x1, x2, x3] = endD (b__law_table [some (x0, false), some (x1, false), some (x2, false), some (x3, false)]) := rfl
/-! ### _law_firsts -/
abbrev s__law_firsts : Stmt := top 23
abbrev n__law_firsts : List Str := ["marks", "t"]
def b__law_firsts : En → R O := sRet (fL (fLc [1] (gR1 (gCons (fBi lenD (gCons (fVar 0) (gNil))) (gNil))) (tName 1) (fB (f2 eqD (f2 ixD (fVar 0) (fVar 1)) (fVar 1))) (fVar 1)))
def g__law_firsts : List D → R D := runDef 2 b__law_firsts
theorem r__law_firsts (x0 : D) : g__law_firsts [x0] = endD (b__law_firsts [some (x0, false), none]) := rfl
/-! ### _law_total -/
abbrev s__law_total : Stmt := top 26
abbrev n__law_total : List Str := ["tab", "less"]
def b__law_total : En → R O := sSeq (sSet 1 (fBi lenD (gCons (fCall 1 g__law_firsts (gCons (f2 ixD (fVar 0) (fC (.int 2))) (gNil))) (gNil)))) (
  sRet (f2 addD (f2 mulD (f2 ixD (fVar 0) (fC (.int 0))) (fVar 1)) (f2 mulD (f2 ixD (fVar 0) (fC (.int 1))) (f2 subD (fBi lenD (gCons (fCall 1 g__law_firsts (gCons (f2 ixD (fVar 0) (fC (.int 3))) (gNil))) (gNil))) (fVar 1)))))
def g__law_total : List D → R D := runDef 2 b__law_total
theorem r__law_total (x0 : D) : g__law_total [x0] = endD (b__law_total [some (x0, false), none]) := rfl
/-! ### _law_led_on -/
abbrev s__law_led_on : Stmt := top 29
abbrev n__law_led_on : List Str := ["cells", "periods", "n", "total", "rounds", "rows", "size", "count", "steps", "k", "row", "p", "room", "m", "q"]
def b__law_led_on_1 : En → R O := sSeq (sSet 10 (fCall 3 g__law_dig (gCons (fVar 0) (gCons (f2 addD (fC (.int 10)) (fVar 9)) (gCons (fL (fLst (gCons (fBi lenD (gCons (fVarB 5) (gNil))) (gCons (fC (.int 2)) (gCons (f2 powD (fC (.int 10)) (fC (.int 9))) (gCons (f2 powD (fC (.int 10)) (fC (.int 9))) (gNil))))))) (gNil)))))) (
  sSeq (sSet 11 (f2 ixD (fVarB 5) (f2 ixD (fVar 10) (fC (.int 0))))) (
  sSeq (sSet 12 (f2 fdivD (f2 subD (f2 powD (fC (.int 10)) (fC (.int 18))) (fBi maxD (gCons (f2 addD (fVarB 5) (fL (fLst (gCons (fVar 6) (gNil))))) (gNil)))) (fVar 11))) (
  sIf (fB (f2 gtD (fVar 12) (fC (.int 0)))) (
  sSeq (sSet 13 (f2 addD (fC (.int 1)) (f2 modD (f2 addD (f2 mulD (f2 ixD (fVar 10) (fC (.int 2))) (f2 powD (fC (.int 10)) (fC (.int 9)))) (f2 ixD (fVar 10) (fC (.int 3)))) (fVar 12)))) (
  sSeq (sIf (fB (f2 eqD (f2 ixD (fVar 10) (fC (.int 1))) (fC (.int 0)))) (
  sSet 13 (f2 addD (fC (.int 1)) (f2 modD (f2 ixD (fVar 10) (fC (.int 2))) (fBi minD (gCons (fVar 12) (gCons (fC (.int 3)) (gNil))))))) (
  sNx)) (
  sSeq (sApp 8 (fL (fLst (gCons (fVar 11) (gCons (fVar 6) (gCons (fVar 7) (gNil))))))) (
  sSeq (sSet 7 (f2 addD (fVar 7) (fBi maxD (gCons (fC (.int 0)) (gCons (f2 subD (fVar 11) (fVar 6)) (gNil)))))) (
  sSeq (sSet 6 (f2 addD (fVar 6) (f2 mulD (fVar 13) (fVar 11)))) (
  sSeq (sFrz [5] (sOwn 5 (fLc [14] (gIt (fVar 5)) (tName 14) (gYes) (f2 addD (fVar 14) (f2 mulD (fVar 13) (fVar 11)))))) (
  sPut 5 (fVar 11) (f2 ixD (fVar 10) (fC (.int 0)))))))))) (
  sNx))))
def b__law_led_on : En → R O := sSeq (sOwn 5 (fBi listL (gCons (fVar 1) (gNil)))) (
  sSeq (sSet 6 (fVar 2)) (
  sSeq (sSet 7 (fVar 3)) (
  sSeq (sOwn 8 (fLst (gNil))) (
  sSeq (sFor (gR1 (gCons (fVar 4) (gNil))) (tName 9) b__law_led_on_1) (
  sFrz [5, 8] (sRet (fL (fLst (gCons (fVar 5) (gCons (fVar 6) (gCons (fVar 7) (gCons (fVar 8) (gNil)))))))))))))
def g__law_led_on : List D → R D := runDef 15 b__law_led_on
theorem r__law_led_on (x0 x1 x2 x3 x4 : D) : g__law_led_on [x0, x1, x2, x3, x4] = endD (b__law_led_on [some (x0, false), some (x1, false), some (x2, false), some (x3, false), some (x4, false), none, none, none, none, none, none, none, none, none, none]) := rfl
/-! ### _law_two -/
abbrev s__law_two : Stmt := top 32
abbrev n__law_two : List Str := ["row", "first", "second"]
def b__law_two : En → R O := sSeq (sSet 1 (f2 addD (f2 addD (fC (.int 1)) (f2 mulD (f2 ixD (fVar 0) (fC (.int 1))) (f2 powD (fC (.int 10)) (fC (.int 9))))) (f2 ixD (fVar 0) (fC (.int 2))))) (
  sSeq (sSet 2 (f2 addD (f2 addD (fC (.int 1)) (f2 mulD (f2 ixD (fVar 0) (fC (.int 3))) (f2 powD (fC (.int 10)) (fC (.int 9))))) (f2 ixD (fVar 0) (fC (.int 4))))) (
  sSeq (sIf (fB (f2 eqD (f2 ixD (fVar 0) (fC (.int 0))) (fC (.int 1)))) (
  sSet 2 (f2 addD (f2 addD (fVar 1) (fC (.int 1))) (f2 ixD (fVar 0) (fC (.int 5))))) (
  sNx)) (
  sSeq (sIf (fB (f2 eqD (f2 ixD (fVar 0) (fC (.int 0))) (fC (.int 2)))) (
  sSet 2 (f2 mulD (fVar 1) (f2 addD (fC (.int 2)) (f2 ixD (fVar 0) (fC (.int 5)))))) (
  sNx)) (
  sSeq (sIf (fB (f2 eqD (f2 ixD (fVar 0) (fC (.int 0))) (fC (.int 3)))) (
  sSeq (sSet 1 (f2 mulD (f2 addD (fC (.int 1)) (f2 ixD (fVar 0) (fC (.int 1)))) (f2 addD (fC (.int 1)) (f2 ixD (fVar 0) (fC (.int 2)))))) (
  sSet 2 (f2 mulD (f2 addD (fC (.int 1)) (f2 ixD (fVar 0) (fC (.int 3)))) (f2 addD (fC (.int 1)) (f2 ixD (fVar 0) (fC (.int 2))))))) (
  sNx)) (
  sSeq (sIf (fB (f2 gtD (fVar 2) (f2 powD (fC (.int 10)) (fC (.int 18))))) (
  sSet 2 (fVar 1)) (
  sNx)) (
  sRet (fL (fLst (gCons (fBi minD (gCons (fVar 1) (gCons (fVar 2) (gNil)))) (gCons (fBi maxD (gCons (fVar 1) (gCons (fVar 2) (gNil)))) (gNil)))))))))))
def g__law_two : List D → R D := runDef 3 b__law_two
theorem r__law_two (x0 : D) : g__law_two [x0] = endD (b__law_two [some (x0, false), none, none]) := rfl
/-! ### _law_places -/
abbrev s__law_places : Stmt := top 30
abbrev n__law_places : List Str := ["n", "row", "found", "draw"]
def b__law_places_1 : En → R O := sSeq (sApp 2 (f2 modD (fBi intD (gCons (fVar 3) (gNil))) (fVar 0))) (
  sApp 2 (f2 modD (fBi intD (gCons (fVar 3) (gNil))) (fC (.int 60))))
def b__law_places : En → R O := sSeq (sIf (fB (f2 leD (fVar 0) (fC (.int 60)))) (
  sRet (fL (fBi rngL (gCons (fVar 0) gNil)))) (
  sNx)) (
  sSeq (sOwn 2 (fLst (gCons (fC (.int 0)) (gCons (fC (.int 1)) (gCons (f2 subD (fVar 0) (fC (.int 1))) (gCons (f2 fdivD (fVar 0) (fC (.int 2))) (gNil))))))) (
  sSeq (sFor (gIt (fVar 1)) (tName 3) b__law_places_1) (
  sFrz [2] (sRet (fVar 2)))))
def g__law_places : List D → R D := runDef 4 b__law_places
theorem r__law_places (x0 x1 : D) : g__law_places [x0, x1] = endD (b__law_places [some (x0, false), some (x1, false), none, none]) := rfl
/-! ### _law_number -/
abbrev s__law_number : Stmt := top 21
abbrev n__law_number : List Str := ["told", "due"]
def b__law_number : En → R O := sRet (fAnd (isiD .int (fVar 0)) (fAnd (f1 notD (isiD .bool (fVar 0))) (f2 eqD (fVar 0) (fVar 1))))
def g__law_number : List D → R D := runDef 2 b__law_number
theorem r__law_number (x0 x1 : D) : g__law_number [x0, x1] = endD (b__law_number [some (x0, false), some (x1, false)]) := rfl
/-! ### _law_below -/
abbrev s__law_below : Stmt := top 24
abbrev n__law_below : List Str := ["firsts", "first", "t"]
def b__law_below : En → R O := sRet (fBi lenD (gCons (fL (fLc [2] (gIt (fVar 0)) (tName 2) (fB (f2 ltD (fVar 2) (fVar 1))) (fVar 2))) (gNil)))
def g__law_below : List D → R D := runDef 3 b__law_below
theorem r__law_below (x0 x1 : D) : g__law_below [x0, x1] = endD (b__law_below [some (x0, false), some (x1, false), none]) := rfl
/-! ### _law_code -/
abbrev s__law_code : Stmt := top 27
abbrev n__law_code : List Str := ["tab", "place", "m", "more", "turn", "marks", "first", "lower", "upper", "code"]
def b__law_code : En → R O := sSeq (sSet 2 (f2 ixD (fVar 0) (fC (.int 0)))) (
  sSeq (sSet 3 (f2 ixD (fVar 0) (fC (.int 1)))) (
  sSeq (sSet 4 (f2 modD (fBi intD (gCons (fVar 1) (gNil))) (fVar 2))) (
  sSeq (sSet 5 (f2 ixD (fVar 0) (fC (.int 2)))) (
  sSeq (sIf (fB (f2 ltD (fVar 4) (fVar 3))) (
  sSet 5 (f2 ixD (fVar 0) (fC (.int 3)))) (
  sNx)) (
  sSeq (sSet 6 (f2 ixD (fVar 5) (f2 fdivD (fVar 1) (fVar 2)))) (
  sSeq (sSet 7 (fCall 1 g__law_firsts (gCons (f2 ixD (fVar 0) (fC (.int 2))) (gNil)))) (
  sSeq (sSet 8 (fCall 1 g__law_firsts (gCons (f2 ixD (fVar 0) (fC (.int 3))) (gNil)))) (
  sSeq (sSet 9 (f2 mulD (f2 subD (fVar 2) (fVar 3)) (fCall 2 g__law_below (gCons (fVar 7) (gCons (fVar 6) (gNil)))))) (
  sSeq (sSet 9 (f2 addD (fVar 9) (f2 mulD (fVar 3) (fCall 2 g__law_below (gCons (fVar 8) (gCons (fVar 6) (gNil))))))) (
  sSeq (sIf (fB (f2 inD (fVar 6) (fVar 8))) (
  sSet 9 (f2 addD (fVar 9) (fBi minD (gCons (fVar 4) (gCons (fVar 3) (gNil)))))) (
  sNx)) (
  sSeq (sIf (fB (f2 inD (fVar 6) (fVar 7))) (
  sSet 9 (f2 addD (fVar 9) (fBi maxD (gCons (fC (.int 0)) (gCons (f2 subD (fVar 4) (fVar 3)) (gNil)))))) (
  sNx)) (
  sRet (fVar 9)))))))))))))
def g__law_code : List D → R D := runDef 10 b__law_code
theorem r__law_code (x0 x1 : D) : g__law_code [x0, x1] = endD (b__law_code [some (x0, false), some (x1, false), none, none, none, none, none, none, none, none]) := rfl
/-! ### _law_class -/
abbrev s__law_class : Stmt := top 28
abbrev n__law_class : List Str := ["tab", "steps", "place", "left", "step"]
def b__law_class_1 : En → R O := sSeq (sSet 3 (f2 modD (fBi intD (gCons (fVar 3) (gNil))) (f2 ixD (fVar 4) (fC (.int 0))))) (
  sIf (fB (f2 geD (fVar 3) (f2 ixD (fVar 4) (fC (.int 1))))) (
  sRet (f2 subD (f2 addD (f2 ixD (fVar 4) (fC (.int 2))) (fVar 3)) (f2 ixD (fVar 4) (fC (.int 1))))) (
  sNx))
def b__law_class : En → R O := sSeq (sSet 3 (fVar 2)) (
  sSeq (sFor (gIt (fL (fRev (fVar 1)))) (tName 4) b__law_class_1) (
  sRet (fCall 2 g__law_code (gCons (fVar 0) (gCons (fVar 3) (gNil))))))
def g__law_class : List D → R D := runDef 5 b__law_class
theorem r__law_class (x0 x1 x2 : D) : g__law_class [x0, x1, x2] = endD (b__law_class [some (x0, false), some (x1, false), some (x2, false), none, none]) := rfl
/-! ### check_many -/
abbrev s_check_many : Stmt := top 7
abbrev n_check_many : List Str := ["things", "most"]
def b_check_many : En → R O := sIf (fB (f2 gtD (fBi lenD (gCons (fVar 0) (gNil))) (fVar 1))) (
  sRaise1 "TooMany" "most" (fVar 1)) (
  sNx)
def g_check_many : List D → R D := runDef 2 b_check_many
theorem r_check_many (x0 x1 : D) : g_check_many [x0, x1] = endD (b_check_many [some (x0, false), some (x1, false)]) := rfl
/-! ### check_range -/
abbrev s_check_range : Stmt := top 6
abbrev n_check_range : List Str := ["value", "low", "high"]
def b_check_range : En → R O := sIf (gOr (fB (f2 ltD (fVar 0) (fVar 1))) (fB (f2 gtD (fVar 0) (fVar 2)))) (
  sRaise1 "OutOfBounds" "value" (fVar 0)) (
  sNx)
def g_check_range : List D → R D := runDef 3 b_check_range
theorem r_check_range (x0 x1 x2 : D) : g_check_range [x0, x1, x2] = endD (b_check_range [some (x0, false), some (x1, false), some (x2, false)]) := rfl
/-! ### check_periods -/
abbrev s_check_periods : Stmt := top 11
abbrev n_check_periods : List Str := ["periods", "period"]
def b_check_periods_1 : En → R O := sExp (fCall 3 g_check_range (gCons (fVar 1) (gCons (fC (.int 1)) (gCons (fC (.int 1000000000000000000)) (gNil)))))
def b_check_periods : En → R O := sSeq (sExp (fCall 2 g_check_many (gCons (fVar 0) (gCons (fC (.int 6)) (gNil))))) (
  sFor (gIt (fVar 0)) (tName 1) b_check_periods_1)
def g_check_periods : List D → R D := runDef 2 b_check_periods
theorem r_check_periods (x0 : D) : g_check_periods [x0] = endD (b_check_periods [some (x0, false), none]) := rfl
/-! ### require_period -/
abbrev s_require_period : Stmt := top 12
abbrev n_require_period : List Str := ["periods"]
def b_require_period : En → R O := sIf (fB (f2 eqD (fBi lenD (gCons (fVar 0) (gNil))) (fC (.int 0)))) (
  sRaise0 "NoPeriod") (
  sNx)
def g_require_period : List D → R D := runDef 1 b_require_period
theorem r_require_period (x0 : D) : g_require_period [x0] = endD (b_require_period [some (x0, false)]) := rfl
/-! ### _rounds -/
abbrev s__rounds : Stmt := top 13
abbrev n__rounds : List Str := ["rows", "least", "counts", "period"]
def b__rounds : En → R O := sSeq (sSet 1 (f2 ixD (fVar 0) (fC (.int 0)))) (
  sSeq (sSetL 2 (fLc [3] (gIt (fVar 0)) (tName 3) (fB (f2 neD (f2 modD (fVar 3) (fVar 1)) (fC (.int 0)))) (f2 fdivD (fVar 3) (fVar 1)))) (
  sRet (fMinDf (fVar 2) (fC (.int 0)))))
def g__rounds : List D → R D := runDef 4 b__rounds
theorem r__rounds (x0 : D) : g__rounds [x0] = endD (b__rounds [some (x0, false), none, none, none]) := rfl
/-! ### _lessened -/
abbrev s__lessened : Stmt := top 14
abbrev n__lessened : List Str := ["rows", "rounds", "least", "taken", "rest", "period"]
def b__lessened : En → R O := sSeq (sSet 2 (f2 ixD (fVar 0) (fC (.int 0)))) (
  sSeq (sSet 3 (f2 mulD (fVar 1) (fVar 2))) (
  sSeq (sSetL 4 (fLc [5] (gIt (fVar 0)) (tName 5) (fB (f2 gtD (fVar 5) (fVar 3))) (f2 subD (fVar 5) (fVar 3)))) (
  sRet (fL (fBi sortedL (gCons (fBi setD (gCons (f2 addD (fL (fLst (gCons (fVar 2) (gNil)))) (fVar 4)) (gNil))) (gNil)))))))
def g__lessened : List D → R D := runDef 6 b__lessened
theorem r__lessened (x0 x1 : D) : g__lessened [x0, x1] = endD (b__lessened [some (x0, false), some (x1, false), none, none, none, none]) := rfl
/-! ### _classes -/
abbrev s__classes : Stmt := top 15
abbrev n__classes : List Str := ["rows", "length", "added", "least", "rounds"]
def b__classes_1 : En → R O := sSeq (sSet 3 (f2 ixD (fVar 0) (fC (.int 0)))) (
  sSeq (sSet 4 (fCall 1 g__rounds (gCons (fVar 0) (gNil)))) (
  sSeq (sIf (fB (f2 eqD (fVar 4) (fC (.int 0)))) (
  sRet (f2 addD (fVar 2) (fVar 3))) (
  sNx)) (
  sSeq (sIf (fB (f2 ltD (fVar 1) (f2 mulD (fC (.int 2)) (fVar 3)))) (
  sSeq (sAug 2 (fun x y => x + y) (f2 subD (f2 mulD (fC (.int 2)) (fVar 3)) (fVar 1))) (
  sSet 4 (fC (.int 1)))) (
  sSet 4 (fBi minD (gCons (fVar 4) (gCons (f2 subD (f2 fdivD (fVar 1) (fVar 3)) (fC (.int 1))) (gNil)))))) (
  sSeq (sSet 0 (fCall 2 g__lessened (gCons (fVar 0) (gCons (fVar 4) (gNil))))) (
  sAug 1 (fun x y => x - y) (f2 mulD (fVar 4) (fVar 3)))))))
def b__classes : En → R O := sSeq (sSet 2 (fC (.int 0))) (
  sSeq (sWh fuel (fB (f2 gtD (fVar 1) (f2 ixD (fVar 0) (fC (.int 0))))) b__classes_1) (
  sRet (f2 addD (fVar 2) (fVar 1))))
def g__classes : List D → R D := runDef 5 b__classes
theorem r__classes (x0 x1 : D) : g__classes [x0, x1] = endD (b__classes [some (x0, false), some (x1, false), none, none, none]) := rfl
/-! ### class_count -/
abbrev s_class_count : Stmt := top 16
abbrev n_class_count : List Str := ["periods", "length"]
def b_class_count : En → R O := sSeq (sExp (fCall 1 g_check_periods (gCons (fVar 0) (gNil)))) (
  sSeq (sExp (fCall 3 g_check_range (gCons (fVar 1) (gCons (fC (.int 0)) (gCons (fC (.int 1000000000000000000)) (gNil)))))) (
  sSeq (sExp (fCall 1 g_require_period (gCons (fVar 0) (gNil)))) (
  sRet (fCall 2 g__classes (gCons (fL (fBi sortedL (gCons (fBi setD (gCons (fVar 0) (gNil))) (gNil)))) (gCons (fVar 1) (gNil)))))))
def g_class_count : List D → R D := runDef 2 b_class_count
theorem r_class_count (x0 x1 : D) : g_class_count [x0, x1] = endD (b_class_count [some (x0, false), some (x1, false)]) := rfl
/-! ### _class_at -/
abbrev s__class_at : Stmt := top 17
abbrev n__class_at : List Str := ["rows", "length", "place", "least", "rounds", "border"]
def b__class_at_1 : En → R O := sSeq (sSet 3 (f2 ixD (fVar 0) (fC (.int 0)))) (
  sSeq (sSet 2 (f2 modD (fVar 2) (fVar 3))) (
  sSeq (sSet 4 (fCall 1 g__rounds (gCons (fVar 0) (gNil)))) (
  sSeq (sIf (fB (f2 eqD (fVar 4) (fC (.int 0)))) (
  sRet (fVar 2)) (
  sNx)) (
  sSeq (sIf (fB (f2 ltD (fVar 1) (f2 mulD (fC (.int 2)) (fVar 3)))) (
  sSeq (sSet 5 (f2 subD (fVar 1) (fVar 3))) (
  sSeq (sSet 4 (fC (.int 1))) (
  sIf (fB (f2 geD (fVar 2) (fVar 5))) (
  sRet (f2 subD (f2 addD (fCall 2 g__classes (gCons (fCall 2 g__lessened (gCons (fVar 0) (gCons (fVar 4) (gNil)))) (gCons (fVar 5) (gNil)))) (fVar 2)) (fVar 5))) (
  sNx)))) (
  sSet 4 (fBi minD (gCons (fVar 4) (gCons (f2 subD (f2 fdivD (fVar 1) (fVar 3)) (fC (.int 1))) (gNil)))))) (
  sSeq (sSet 0 (fCall 2 g__lessened (gCons (fVar 0) (gCons (fVar 4) (gNil))))) (
  sAug 1 (fun x y => x - y) (f2 mulD (fVar 4) (fVar 3))))))))
def b__class_at : En → R O := sSeq (sWh fuel (fB (f2 gtD (fVar 1) (f2 ixD (fVar 0) (fC (.int 0))))) b__class_at_1) (
  sRet (fVar 2))
def g__class_at : List D → R D := runDef 6 b__class_at
theorem r__class_at (x0 x1 x2 : D) : g__class_at [x0, x1, x2] = endD (b__class_at [some (x0, false), some (x1, false), some (x2, false), none, none, none]) := rfl
/-! ### class_of -/
abbrev s_class_of : Stmt := top 18
abbrev n_class_of : List Str := ["periods", "length", "place"]
def b_class_of : En → R O := sSeq (sExp (fCall 1 g_check_periods (gCons (fVar 0) (gNil)))) (
  sSeq (sExp (fCall 3 g_check_range (gCons (fVar 1) (gCons (fC (.int 0)) (gCons (fC (.int 1000000000000000000)) (gNil)))))) (
  sSeq (sExp (fCall 3 g_check_range (gCons (fVar 2) (gCons (fC (.int 0)) (gCons (f2 subD (fVar 1) (fC (.int 1))) (gNil)))))) (
  sSeq (sExp (fCall 1 g_require_period (gCons (fVar 0) (gNil)))) (
  sRet (fCall 3 g__class_at (gCons (fL (fBi sortedL (gCons (fBi setD (gCons (fVar 0) (gNil))) (gNil)))) (gCons (fVar 1) (gCons (fVar 2) (gNil)))))))))
def g_class_of : List D → R D := runDef 3 b_class_of
theorem r_class_of (x0 x1 x2 : D) : g_class_of [x0, x1, x2] = endD (b_class_of [some (x0, false), some (x1, false), some (x2, false)]) := rfl
/-! ### _law_asked -/
abbrev s__law_asked : Stmt := top 31
abbrev n__law_asked : List Str := ["handed", "n", "total", "tab", "steps", "row", "at", "due"]
def b__law_asked_1 : En → R O := sSeq (sSet 7 (fCall 3 g__law_class (gCons (fVar 3) (gCons (fVar 4) (gCons (fVar 6) (gNil)))))) (
  sIf (gNot (fTru (fCall 2 g__law_number (gCons (fCall 3 g_class_of (gCons (fVar 0) (gCons (fVar 1) (gCons (fVar 6) (gNil))))) (gCons (fVar 7) (gNil)))))) (
  sRet (fC (.bl false))) (
  sNx))
def b__law_asked : En → R O := sSeq (sIf (gNot (fTru (fCall 2 g__law_number (gCons (fCall 2 g_class_count (gCons (fVar 0) (gCons (fVar 1) (gNil)))) (gCons (fVar 2) (gNil)))))) (
  sRet (fC (.bl false))) (
  sNx)) (
  sSeq (sFor (gIt (fCall 2 g__law_places (gCons (fVar 1) (gCons (fVar 5) (gNil))))) (tName 6) b__law_asked_1) (
  sRet (fCall 2 g__law_number (gCons (fCallK 0 2 2 g_class_count [1, 0] (gNil) (gCons (fVar 1) (gCons (fVar 0) (gNil)))) (gCons (fVar 2) (gNil))))))
def g__law_asked : List D → R D := runDef 8 b__law_asked
theorem r__law_asked (x0 x1 x2 x3 x4 x5 : D) : g__law_asked [x0, x1, x2, x3, x4, x5] = endD (b__law_asked [some (x0, false), some (x1, false), some (x2, false), some (x3, false), some (x4, false), some (x5, false), none, none]) := rfl
/-! ### _law_gcd -/
abbrev s__law_gcd : Stmt := top 33
abbrev n__law_gcd : List Str := ["first", "second", "a", "b", "k", "rest"]
def b__law_gcd_1 : En → R O := sIf (fB (f2 neD (fVar 3) (fC (.int 0)))) (
  sSeq (sSet 5 (f2 modD (fBi intD (gCons (fVar 2) (gNil))) (fVar 3))) (
  sSeq (sSet 2 (fVar 3)) (
  sSet 3 (fVar 5)))) (
  sNx)
def b__law_gcd : En → R O := sSeq (sSet 2 (fVar 0)) (
  sSeq (sSet 3 (fVar 1)) (
  sSeq (sFor (gR1 (gCons (fC (.int 100)) (gNil))) (tName 4) b__law_gcd_1) (
  sRet (fVar 2))))
def g__law_gcd : List D → R D := runDef 6 b__law_gcd
theorem r__law_gcd (x0 x1 : D) : g__law_gcd [x0, x1] = endD (b__law_gcd [some (x0, false), some (x1, false), none, none, none, none]) := rfl
/-! ### _law_two_asked -/
abbrev s__law_two_asked : Stmt := top 34
abbrev n__law_two_asked : List Str := ["low", "high", "draw", "unit", "most", "lengths", "n", "due", "at"]
def b__law_two_asked_1 : En → R O := sIf (gNot (fTru (fCall 2 g__law_number (gCons (fCall 3 g_class_of (gCons (fL (fLst (gCons (fVar 0) (gCons (fVar 1) (gNil))))) (gCons (fVar 6) (gCons (fVar 8) (gNil))))) (gCons (f2 modD (fBi intD (gCons (fVar 8) (gNil))) (fVar 7)) (gNil)))))) (
  sRet (fC (.bl false))) (
  sNx)
def b__law_two_asked_2 : En → R O := sSeq (sSet 7 (fVar 3)) (
  sSeq (sIf (fB (f2 ltD (fVar 6) (fVar 4))) (
  sSet 7 (f2 subD (f2 addD (fVar 0) (fVar 1)) (fVar 6))) (
  sNx)) (
  sSeq (sIf (gOr (fB (f2 leD (fVar 6) (fVar 1))) (fB (f2 eqD (fVar 3) (fVar 0)))) (
  sSet 7 (fBi minD (gCons (fVar 6) (gCons (fVar 0) (gNil))))) (
  sNx)) (
  sSeq (sIf (gAnd (fB (f2 leD (fC (.int 0)) (fVar 6))) (fB (f2 leD (fVar 6) (f2 powD (fC (.int 10)) (fC (.int 18)))))) (
  sIf (gNot (fTru (fCall 2 g__law_number (gCons (fCall 2 g_class_count (gCons (fL (fLst (gCons (fVar 1) (gCons (fVar 0) (gNil))))) (gCons (fVar 6) (gNil)))) (gCons (fVar 7) (gNil)))))) (
  sRet (fC (.bl false))) (
  sNx)) (
  sNx)) (
  sIf (gAnd (fB (f2 ltD (fC (.int 0)) (fVar 6))) (gAnd (fB (f2 leD (fVar 6) (f2 powD (fC (.int 10)) (fC (.int 18))))) (gOr (fB (f2 eqD (fVar 7) (fVar 3))) (fB (f2 leD (fVar 6) (fVar 1)))))) (
  sFor (gIt (fL (fLst (gCons (fC (.int 0)) (gCons (f2 subD (fVar 6) (fC (.int 1))) (gCons (f2 modD (fBi intD (gCons (fVar 2) (gNil))) (fVar 6)) (gCons (f2 modD (fBi intD (gCons (fVar 2) (gNil))) (fBi minD (gCons (fVar 6) (gCons (f2 addD (fVar 0) (fC (.int 7))) (gNil))))) (gNil)))))))) (tName 8) b__law_two_asked_1) (
  sNx)))))
def b__law_two_asked : En → R O := sSeq (sSet 3 (fCall 2 g__law_gcd (gCons (fVar 0) (gCons (fVar 1) (gNil))))) (
  sSeq (sSet 4 (f2 subD (f2 addD (fVar 0) (fVar 1)) (fVar 3))) (
  sSeq (sSet 5 (fL (fLst (gCons (f2 subD (fVar 0) (fC (.int 1))) (gCons (fVar 0) (gCons (f2 addD (fVar 0) (fC (.int 1))) (gCons (fVar 1) (gCons (f2 addD (fVar 1) (fC (.int 1))) (gNil))))))))) (
  sSeq (sFor (gIt (f2 addD (fVar 5) (fL (fLst (gCons (f2 subD (fVar 4) (fC (.int 1))) (gCons (fVar 4) (gCons (f2 powD (fC (.int 10)) (fC (.int 18))) (gCons (fVar 2) (gNil))))))))) (tName 6) b__law_two_asked_2) (
  sRet (fC (.bl true))))))
def g__law_two_asked : List D → R D := runDef 9 b__law_two_asked
theorem r__law_two_asked (x0 x1 x2 : D) : g__law_two_asked [x0, x1, x2] = endD (b__law_two_asked [some (x0, false), some (x1, false), some (x2, false), none, none, none, none, none, none]) := rfl
/-! ### _law_refused -/
abbrev s__law_refused : Stmt := top 36
abbrev n__law_refused : List Str := ["told", "kind", "due"]
def b__law_refused : En → R O := sRet (fAnd (f2 eqD (f2 ixD (fVar 0) (fC (.int 0))) (fVar 1)) (fCall 2 g__law_number (gCons (f2 ixD (fVar 0) (fC (.int 1))) (gCons (fVar 2) (gNil)))))
def g__law_refused : List D → R D := runDef 3 b__law_refused
theorem r__law_refused (x0 x1 x2 : D) : g__law_refused [x0, x1, x2] = endD (b__law_refused [some (x0, false), some (x1, false), some (x2, false)]) := rfl
/-! ### _law_told -/
abbrev s__law_told : Stmt := top 35
abbrev n__law_told : List Str := ["which", "periods", "length", "place", "e", "many", "beyond", "none"]
def b__law_told_1 : En → R (Option D) := qIf (fB (f2 eqD (fVar 0) (fC (.int 0)))) (qRet (fTup (gCons (fC (.str "told")) (gCons (fCall 2 g_class_count (gCons (fVar 1) (gCons (fVar 2) (gNil)))) (gNil))))) (qNil) (qRet (fTup (gCons (fC (.str "told")) (gCons (fCall 3 g_class_of (gCons (fVar 1) (gCons (fVar 2) (gCons (fVar 3) (gNil))))) (gNil)))))
def b__law_told_2 : En → R O := sSeq (sSet 5 (f1 (isxD etab "TooMany") (fVar 4))) (
  sSeq (sSet 6 (f1 (isxD etab "OutOfBounds") (fVar 4))) (
  sSeq (sSet 7 (f1 (isxD etab "NoPeriod") (fVar 4))) (
  sSeq (sIf (gNot (fTru (f1 (isxD etab "ValueError") (fVar 4)))) (
  sRet (fTup (gCons (fC (.str "other")) (gCons (fC (.int 0)) (gNil))))) (
  sNx)) (
  sSeq (sIf (gAnd (fTru (fVar 5)) (gAnd (gNot (fTru (fVar 6))) (gNot (fTru (fVar 7))))) (
  sRet (fTup (gCons (fC (.str "many")) (gCons (f1 (xfD efld "most") (fVar 4)) (gNil))))) (
  sNx)) (
  sSeq (sIf (gAnd (fTru (fVar 6)) (gAnd (gNot (fTru (fVar 5))) (gNot (fTru (fVar 7))))) (
  sRet (fTup (gCons (fC (.str "beyond")) (gCons (f1 (xfD efld "value") (fVar 4)) (gNil))))) (
  sNx)) (
  sSeq (sIf (gAnd (fTru (fVar 7)) (gAnd (gNot (fTru (fVar 5))) (gNot (fTru (fVar 6))))) (
  sRet (fTup (gCons (fC (.str "none")) (gCons (fC (.int 0)) (gNil))))) (
  sNx)) (
  sRet (fTup (gCons (fC (.str "other")) (gCons (fC (.int 0)) (gNil)))))))))))
def b__law_told : En → R O := sTry 4 exm_WordError b__law_told_1 b__law_told_2
def g__law_told : List D → R D := runDef 8 b__law_told
theorem r__law_told (x0 x1 x2 x3 : D) : g__law_told [x0, x1, x2, x3] = endD (b__law_told [some (x0, false), some (x1, false), some (x2, false), some (x3, false), none, none, none, none]) := rfl
/-! ### _law_refusals -/
abbrev s__law_refusals : Stmt := top 37
abbrev n__law_refusals : List Str := ["periods", "at", "bad", "length", "n", "spoilt", "which", "place"]
def b__law_refusals_1 : En → R O := sSeq (sIf (gNot (fTru (fCall 3 g__law_refused (gCons (fCall 4 g__law_told (gCons (fVar 6) (gCons (fL (fBi listL (gCons (fVar 5) (gNil)))) (gCons (fVar 3) (gCons (fVar 4) (gNil)))))) (gCons (fC (.str "beyond")) (gCons (fVar 2) (gNil))))))) (
  sRet (fC (.bl false))) (
  sNx)) (
  sSeq (sIf (gNot (fTru (fCall 3 g__law_refused (gCons (fCall 4 g__law_told (gCons (fVar 6) (gCons (fL (fSl (f2 mulD (fVar 5) (fC (.int 7))) (gNo) (gSo (fC (.int 7))))) (gCons (fVar 3) (gCons (fVar 4) (gNil)))))) (gCons (fC (.str "many")) (gCons (fC (.int 6)) (gNil))))))) (
  sRet (fC (.bl false))) (
  sNx)) (
  sSeq (sIf (gNot (fTru (fCall 3 g__law_refused (gCons (fCall 4 g__law_told (gCons (fVar 6) (gCons (fL (fBi listL (gCons (fVar 0) (gNil)))) (gCons (fVar 3) (gCons (fVar 4) (gNil)))))) (gCons (fC (.str "beyond")) (gCons (fVar 3) (gNil))))))) (
  sRet (fC (.bl false))) (
  sNx)) (
  sSeq (sIf (gNot (fTru (fCall 3 g__law_refused (gCons (fCall 4 g__law_told (gCons (fVar 6) (gCons (fL (fLst (gNil))) (gCons (fVar 3) (gCons (fC (.int 0)) (gNil)))))) (gCons (fC (.str "beyond")) (gCons (fVar 3) (gNil))))))) (
  sRet (fC (.bl false))) (
  sNx)) (
  sIf (gNot (fTru (fCall 3 g__law_refused (gCons (fCall 4 g__law_told (gCons (fVar 6) (gCons (fL (fLst (gNil))) (gCons (fC (.int 7)) (gCons (fC (.int 6)) (gNil)))))) (gCons (fC (.str "none")) (gCons (fC (.int 0)) (gNil))))))) (
  sRet (fC (.bl false))) (
  sNx)))))
def b__law_refusals_2 : En → R O := sSeq (sIf (gNot (fTru (fCall 3 g__law_refused (gCons (fCall 4 g__law_told (gCons (fC (.int 1)) (gCons (fL (fBi listL (gCons (fVar 0) (gNil)))) (gCons (fVar 4) (gCons (fVar 7) (gNil)))))) (gCons (fC (.str "beyond")) (gCons (fVar 7) (gNil))))))) (
  sRet (fC (.bl false))) (
  sNx)) (
  sIf (gNot (fTru (fCall 3 g__law_refused (gCons (fCall 4 g__law_told (gCons (fC (.int 1)) (gCons (fL (fLst (gNil))) (gCons (fVar 4) (gCons (fVar 7) (gNil)))))) (gCons (fC (.str "beyond")) (gCons (fVar 7) (gNil))))))) (
  sRet (fC (.bl false))) (
  sNx))
def b__law_refusals : En → R O := sSeq (sSet 5 (f2 addD (f2 addD (fL (fSl (fVar 0) (gNo) (gSo (fVar 1)))) (fL (fLst (gCons (fVar 2) (gNil))))) (fL (fSl (fVar 0) (gSo (f2 addD (fVar 1) (fC (.int 1)))) (gNo))))) (
  sSeq (sFor (gR1 (gCons (fC (.int 2)) (gNil))) (tName 6) b__law_refusals_1) (
  sSeq (sFor (gIt (fL (fLst (gCons (fVar 4) (gCons (f1 negD (fC (.int 1))) (gCons (f2 addD (f2 powD (fC (.int 10)) (fC (.int 18))) (fC (.int 1))) (gNil))))))) (tName 7) b__law_refusals_2) (
  sRet (fCall 3 g__law_refused (gCons (fCall 4 g__law_told (gCons (fC (.int 0)) (gCons (fL (fLst (gNil))) (gCons (fC (.int 0)) (gCons (fC (.int 0)) (gNil)))))) (gCons (fC (.str "none")) (gCons (fC (.int 0)) (gNil))))))))
def g__law_refusals : List D → R D := runDef 8 b__law_refusals
theorem r__law_refusals (x0 x1 x2 x3 x4 : D) : g__law_refusals [x0, x1, x2, x3, x4] = endD (b__law_refusals [some (x0, false), some (x1, false), some (x2, false), some (x3, false), some (x4, false), none, none, none]) := rfl
/-! ### law -/
abbrev s_law : Stmt := top 38
abbrev n_law : List Str := ["script", "cells", "plan", "limit", "n", "periods", "spots", "near", "handed", "big", "most", "m", "more", "tab", "total", "great", "k", "far", "led", "row", "pair", "bad", "length", "p", "draw"]
def b_law_1 : En → R O := sPut 8 (f2 ixD (fVar 15) (fVar 16)) (fVar 16)
def b_law : En → R O := sSeq (sSet 1 (fL (fSl (fVar 0) (gNo) (gSo (fC (.int 63)))))) (
  sSeq (sSet 2 (fCall 3 g__law_dig (gCons (fVar 1) (gCons (fC (.int 0)) (gCons (fL (fLst (gCons (fC (.int 8)) (gCons (fC (.int 6)) (gCons (fC (.int 41)) (gCons (fC (.int 61)) (gCons (fC (.int 4)) (gCons (fC (.int 4)) (gCons (fC (.int 6)) (gCons (fC (.int 6)) (gNil))))))))))) (gNil)))))) (
  sSeq (sSet 3 (fC (.int 12))) (
  sSeq (sSet 4 (f2 ixD (fVar 2) (fC (.int 2)))) (
  sSeq (sIf (fB (f2 eqD (f2 ixD (fVar 2) (fC (.int 0))) (fC (.int 5)))) (
  sSeq (sSet 3 (fC (.int 20))) (
  sSet 4 (f2 ixD (fVar 2) (fC (.int 3))))) (
  sNx)) (
  sSeq (sSetL 5 (fLc [16] (gR1 (gCons (f2 addD (fC (.int 1)) (f2 ixD (fVar 2) (fC (.int 1)))) (gNil))) (tName 16) (gYes) (f2 addD (fC (.int 1)) (f2 ixD (fCall 3 g__law_dig (gCons (fVar 1) (gCons (f2 addD (fC (.int 1)) (fVar 16)) (gCons (fL (fLst (gCons (fVar 3) (gNil)))) (gNil))))) (fC (.int 0)))))) (
  sSeq (sSet 6 (fCall 3 g__law_dig (gCons (fVar 1) (gCons (fC (.int 7)) (gCons (fL (fLst (gCons (f2 powD (fC (.int 10)) (fC (.int 9))) (gCons (f2 powD (fC (.int 10)) (fC (.int 9))) (gCons (f2 powD (fC (.int 10)) (fC (.int 9))) (gNil)))))) (gNil)))))) (
  sSeq (sSet 7 (fCall 4 g__law_table (gCons (fVar 5) (gCons (fVar 4) (gCons (fC (.int 1)) (gCons (fC (.int 0)) (gNil))))))) (
  sSeq (sOwn 8 (fBi listL (gCons (fVar 5) (gNil)))) (
  sSeq (sIf (gNot (fTru (lendE [8] (fCall 6 g__law_asked (gCons (fVar 8) (gCons (fVar 4) (gCons (fCall 1 g__law_total (gCons (fVar 7) (gNil))) (gCons (fVar 7) (gCons (fL (fLst (gNil))) (gCons (fVar 6) (gNil))))))))))) (
  sRet (fC (.bl false))) (
  sNx)) (
  sSeq (sIf (fB (f2 neD (fVarB 8) (fVar 5))) (
  sRet (fC (.bl false))) (
  sNx)) (
  sSeq (sSet 9 (fCall 3 g__law_dig (gCons (fVar 1) (gCons (fC (.int 8)) (gCons (fL (fLst (gCons (fC (.int 9)) (gCons (f2 powD (fC (.int 10)) (fC (.int 8))) (gCons (f2 powD (fC (.int 10)) (fC (.int 8))) (gCons (fC (.int 3)) (gCons (f2 powD (fC (.int 10)) (fC (.int 8))) (gCons (f2 powD (fC (.int 10)) (fC (.int 8))) (gNil))))))))) (gNil)))))) (
  sSeq (sSet 10 (f2 addD (f2 addD (fC (.int 1)) (f2 mulD (f2 ixD (fVar 9) (fC (.int 1))) (f2 powD (fC (.int 10)) (fC (.int 8))))) (f2 ixD (fVar 9) (fC (.int 2))))) (
  sSeq (sSet 11 (f2 ixD (fL (fLst (gCons (f2 addD (fC (.int 2)) (f2 ixD (fVar 9) (fC (.int 0)))) (gCons (f2 addD (fC (.int 1)) (f2 ixD (fVar 9) (fC (.int 1)))) (gCons (f2 addD (fC (.int 1)) (f2 ixD (fVar 9) (fC (.int 1)))) (gCons (fVar 10) (gNil))))))) (f2 ixD (fVar 2) (fC (.int 4))))) (
  sSeq (sSet 12 (f2 ixD (fL (fLst (gCons (fC (.int 0)) (gCons (f2 modD (fBi intD (gCons (f2 ixD (fVar 9) (fC (.int 4))) (gNil))) (fVar 11)) (gCons (f2 modD (f2 addD (f2 mulD (f2 ixD (fVar 9) (fC (.int 4))) (f2 powD (fC (.int 10)) (fC (.int 8)))) (f2 ixD (fVar 9) (fC (.int 5)))) (fVar 11)) (gNil)))))) (f2 ixD (fVar 9) (fC (.int 3))))) (
  sSeq (sSet 13 (fCall 4 g__law_table (gCons (fVar 5) (gCons (fVar 4) (gCons (fVar 11) (gCons (fVar 12) (gNil))))))) (
  sSeq (sSet 14 (fCall 1 g__law_total (gCons (fVar 13) (gNil)))) (
  sSeq (sSetL 15 (fLc [23] (gIt (fVar 5)) (tName 23) (gYes) (f2 mulD (fVar 11) (fVar 23)))) (
  sSeq (sFor (gR1 (gCons (fBi lenD (gCons (fVar 5) (gNil))) (gNil))) (tName 16) b_law_1) (
  sSeq (sSetL 17 (fLc [24] (gIt (fVar 6)) (tName 24) (gYes) (f2 addD (f2 mulD (fVar 24) (f2 powD (fC (.int 10)) (fC (.int 9)))) (f2 ixD (fVar 6) (fC (.int 0)))))) (
  sSeq (sIf (gNot (fTru (lendE [8] (fCall 6 g__law_asked (gCons (fVar 8) (gCons (f2 addD (f2 mulD (fVar 11) (fVar 4)) (fVar 12)) (gCons (fVar 14) (gCons (fVar 13) (gCons (fL (fLst (gNil))) (gCons (fVar 17) (gNil))))))))))) (
  sRet (fC (.bl false))) (
  sNx)) (
  sSeq (sIf (fB (f2 neD (fVarB 8) (fVar 15))) (
  sRet (fC (.bl false))) (
  sNx)) (
  sSeq (sSet 18 (fCall 5 g__law_led_on (gCons (fVar 1) (gCons (fVar 15) (gCons (f2 addD (f2 mulD (fVar 11) (fVar 4)) (fVar 12)) (gCons (fVar 14) (gCons (f2 ixD (fVar 2) (fC (.int 5))) (gNil)))))))) (
  sSeq (sIf (gNot (fTru (fCall 6 g__law_asked (gCons (fBi tupleD (gCons (f2 ixD (fVar 18) (fC (.int 0))) (gNil))) (gCons (f2 ixD (fVar 18) (fC (.int 1))) (gCons (f2 ixD (fVar 18) (fC (.int 2))) (gCons (fVar 13) (gCons (f2 ixD (fVar 18) (fC (.int 3))) (gCons (fVar 17) (gNil)))))))))) (
  sRet (fC (.bl false))) (
  sNx)) (
  sSeq (sSet 19 (fCall 3 g__law_dig (gCons (fVar 1) (gCons (fC (.int 9)) (gCons (fL (fLst (gCons (fC (.int 4)) (gCons (f2 powD (fC (.int 10)) (fC (.int 9))) (gCons (f2 powD (fC (.int 10)) (fC (.int 9))) (gCons (f2 powD (fC (.int 10)) (fC (.int 9))) (gCons (f2 powD (fC (.int 10)) (fC (.int 9))) (gCons (fC (.int 9)) (gCons (f2 powD (fC (.int 10)) (fC (.int 9))) (gCons (f2 powD (fC (.int 10)) (fC (.int 9))) (gNil))))))))))) (gNil)))))) (
  sSeq (sSet 20 (fCall 1 g__law_two (gCons (fVar 19) (gNil)))) (
  sSeq (sIf (gNot (fTru (fCall 3 g__law_two_asked (gCons (f2 ixD (fVar 20) (fC (.int 0))) (gCons (f2 ixD (fVar 20) (fC (.int 1))) (gCons (f2 addD (f2 mulD (f2 ixD (fVar 19) (fC (.int 6))) (f2 powD (fC (.int 10)) (fC (.int 9)))) (f2 ixD (fVar 19) (fC (.int 7)))) (gNil))))))) (
  sRet (fC (.bl false))) (
  sNx)) (
  sSeq (sSet 21 (f2 ixD (fL (fLst (gCons (fC (.int 0)) (gCons (f1 negD (fC (.int 1))) (gCons (f2 addD (f2 powD (fC (.int 10)) (fC (.int 18))) (fC (.int 1))) (gCons (f2 subD (f1 negD (fC (.int 1))) (f2 ixD (fVar 6) (fC (.int 1)))) (gCons (f2 addD (f2 addD (f2 powD (fC (.int 10)) (fC (.int 18))) (fC (.int 1))) (f2 ixD (fVar 6) (fC (.int 1)))) (gCons (f1 negD (f2 powD (fC (.int 10)) (fC (.int 39)))) (gNil))))))))) (f2 ixD (fVar 2) (fC (.int 6))))) (
  sSeq (sSet 22 (f2 ixD (fL (fLst (gCons (f1 negD (fC (.int 1))) (gCons (f2 addD (f2 powD (fC (.int 10)) (fC (.int 18))) (fC (.int 1))) (gCons (f1 negD (fC (.int 1))) (gCons (f2 addD (f2 powD (fC (.int 10)) (fC (.int 18))) (fC (.int 1))) (gCons (f1 negD (fC (.int 1))) (gCons (f2 addD (f2 powD (fC (.int 10)) (fC (.int 18))) (fC (.int 1))) (gNil))))))))) (f2 ixD (fVar 2) (fC (.int 6))))) (
  sSeq (sIf (gNot (fTru (fCall 5 g__law_refusals (gCons (fVar 5) (gCons (f2 modD (fBi intD (gCons (f2 ixD (fVar 2) (fC (.int 7))) (gNil))) (fBi lenD (gCons (fVar 5) (gNil)))) (gCons (fVar 21) (gCons (fVar 22) (gCons (fVar 4) (gNil))))))))) (
  sRet (fC (.bl false))) (
  sNx)) (
  sRet (fCall 6 g__law_asked (gCons (fL (fBi listL (gCons (fVar 5) (gNil)))) (gCons (fVar 4) (gCons (fCall 1 g__law_total (gCons (fVar 7) (gNil))) (gCons (fVar 7) (gCons (fL (fLst (gNil))) (gCons (fVar 6) (gNil))))))))))))))))))))))))))))))))))))))
def g_law : List D → R D := runDef 25 b_law
theorem r_law (x0 : D) : g_law [x0] = endD (b_law [some (x0, false), none, none, none, none, none, none, none, none, none, none, none, none, none, none, none, none, none, none, none, none, none, none, none, none]) := rfl

end K37
set_option maxHeartbeats 4000000
/-! Thresholds of several periods: the plain mathematics. -/
namespace Th
/-- t is the threshold of the periods S, g their common divisor: while the least one p is not g, p is subtracted from all others -/
inductive TH (g : Int) : (Int → Prop) → Int → Prop where
  | base {S : Int → Prop} : S g → TH g S 0
  | step {S : Int → Prop} {p t : Int} : S p → (∀ q, S q → p ≤ q) → ¬ S g → TH g (fun x => x = p ∨ (S (x + p) ∧ 0 < x)) t → TH g S (p + max p t)
theorem TH.congr {g t : Int} {S S' : Int → Prop} (h : TH g S t) (e : ∀ x, S x ↔ S' x) : TH g S' t := by
  have : S = S' := funext fun x => propext (e x)
  rw [← this]; exact h
theorem TH.det {g t : Int} {S : Int → Prop} (h : TH g S t) : ∀ {t'}, TH g S t' → t = t' := by
  induction h with
  | base h =>
    intro t' h'
    cases h' with
    | base _ => rfl
    | step _ _ n _ => exact absurd h n
  | step h1 h2 h3 _ ih =>
    intro t' h'
    cases h' with
    | base h => exact absurd h h3
    | @step _ p' t'' h1' h2' h3' h4' =>
      have e : p' = _ := Int.le_antisymm (h2' _ h1) (h2 _ h1')
      subst e
      rw [ih h4']
theorem TH.nonneg {g t : Int} {S : Int → Prop} (h : TH g S t) (hp : ∀ q, S q → 0 < q) : 0 ≤ t := by
  cases h with
  | base _ => exact Int.le_refl 0
  | step h1 _ _ _ => have := hp _ h1; omega
/-- the members are positive multiples of g -/
structure Ok (g : Int) (S : Int → Prop) : Prop where
  g0 : 0 < g
  pos : ∀ q, S q → 0 < q
  dv : ∀ q, S q → g ∣ q
theorem Ok.next {g p : Int} {S : Int → Prop} (k : Ok g S) (h : S p) : Ok g (fun x => x = p ∨ (S (x + p) ∧ 0 < x)) :=
  ⟨k.g0, fun q hq => by
    rcases hq with rfl | hq
    · exact k.pos _ h
    · exact hq.2, fun q hq => by
    rcases hq with rfl | hq
    · exact k.dv _ h
    · have h1 := k.dv _ hq.1
      have h2 := k.dv _ h
      have := Int.dvd_sub h1 h2
      rwa [show q + p - p = q by omega] at this⟩
theorem Ok.le {g q : Int} {S : Int → Prop} (k : Ok g S) (h : S q) : g ≤ q := Int.le_of_dvd (k.pos _ h) (k.dv _ h)
theorem Ok.lt {g q : Int} {S : Int → Prop} (k : Ok g S) (h : S q) (n : ¬ S g) : 2 * g ≤ q := by
  have h1 := k.le h
  have h2 : q ≠ g := fun e => n (e ▸ h)
  obtain ⟨c, rfl⟩ := k.dv _ h
  have h3 : 1 < c := by
    have hg := k.g0
    have : ¬ c ≤ 1 := fun hc => by
      have := Int.mul_le_mul_of_nonneg_left hc (Int.le_of_lt hg)
      omega
    omega
  have := Int.mul_le_mul_of_nonneg_left (show (2 : Int) ≤ c by omega) (Int.le_of_lt k.g0)
  omega
/-- a threshold other than 0 is at least twice a member -/
theorem TH.two {g t : Int} {S : Int → Prop} (h : TH g S t) (n : ¬ S g) : ∃ p, S p ∧ 2 * p ≤ t ∧ ∀ q, S q → p ≤ q := by
  cases h with
  | base h => exact absurd h n
  | step h1 h2 _ _ => exact ⟨_, h1, by omega, h2⟩
/-- a multiple of g that is not below the threshold changes nothing -/
theorem TH.more {g t : Int} {S : Int → Prop} (h : TH g S t) : ∀ {m : Int}, Ok g S → g ∣ m → g ≤ m → t ≤ m → TH g (fun x => S x ∨ x = m) t := by
  induction h with
  | base h => exact fun _ _ _ _ => .base (.inl h)
  | @step S p t h1 h2 h3 h4 ih =>
    intro m k hd hg hm
    have hp := k.pos _ h1
    have hgp := k.lt h1 h3
    have hg0 := k.g0
    refine .step (.inl h1) (fun q hq => ?_) (fun hq => ?_) ?_
    · rcases hq with hq | rfl
      · exact h2 q hq
      · omega
    · rcases hq with hq | hq
      · exact h3 hq
      · omega
    · have hd' : g ∣ m - p := Int.dvd_sub hd (k.dv _ h1)
      refine (ih (m := m - p) (k.next h1) hd' (by omega) (by omega)).congr fun x => ?_
      constructor
      · rintro ((rfl | ⟨a, b⟩) | rfl)
        · exact .inl rfl
        · exact .inr ⟨.inl a, b⟩
        · exact .inr ⟨.inr (by omega), by omega⟩
      · rintro (rfl | ⟨a | a, b⟩)
        · exact .inl (.inl rfl)
        · exact .inl (.inr ⟨a, b⟩)
        · exact .inr (by omega)
/-- multiplied by c -/
theorem TH.scale {g t c : Int} {S : Int → Prop} (hc : 0 < c) (h : TH g S t) : TH (c * g) (fun x => ∃ y, S y ∧ x = c * y) (c * t) := by
  induction h with
  | base h => rw [Int.mul_zero]; exact .base ⟨_, h, rfl⟩
  | @step S p t h1 h2 h3 h4 ih =>
    have hm : c * (p + max p t) = c * p + max (c * p) (c * t) := by
      rw [Int.mul_add]
      congr 1
      rcases Int.le_total p t with h | h
      · rw [Int.max_eq_right h, Int.max_eq_right (Int.mul_le_mul_of_nonneg_left h (Int.le_of_lt hc))]
      · rw [Int.max_eq_left h, Int.max_eq_left (Int.mul_le_mul_of_nonneg_left h (Int.le_of_lt hc))]
    rw [hm]
    refine .step ⟨p, h1, rfl⟩ (fun q hq => ?_) (fun hq => ?_) (ih.congr fun x => ?_)
    · obtain ⟨y, hy, rfl⟩ := hq
      exact Int.mul_le_mul_of_nonneg_left (h2 y hy) (Int.le_of_lt hc)
    · obtain ⟨y, hy, e⟩ := hq
      have := Int.eq_of_mul_eq_mul_left (by omega) e
      exact h3 (this ▸ hy)
    · constructor
      · rintro ⟨y, (rfl | ⟨a, b⟩), rfl⟩
        · exact .inl rfl
        · exact .inr ⟨⟨y + p, a, by rw [Int.mul_add]⟩, Int.mul_pos hc b⟩
      · rintro (rfl | ⟨⟨y, hy, e⟩, b⟩)
        · exact ⟨p, .inl rfl, rfl⟩
        · have e2 : x = c * (y - p) := by rw [Int.mul_sub]; omega
          refine ⟨y - p, .inr ⟨by rw [show y - p + p = y by omega]; exact hy, ?_⟩, e2⟩
          rw [e2] at b
          refine Int.lt_of_not_ge fun h => ?_
          have := Int.mul_le_mul_of_nonneg_left h (Int.le_of_lt hc)
          omega
/-- p and the others, each n times p greater -/
def up (p : Int) (S : Int → Prop) (n : Nat) : Int → Prop := fun x => x = p ∨ ∃ y, S y ∧ x = y + n * p
/-- a first member p stays the least while it is subtracted: n rounds -/
theorem TH.ups {g p t : Int} {S : Int → Prop} (hp : 0 < p) (hg : ∀ y, S y → 0 < y) (hgp : g < p) (h : TH g (fun x => x = p ∨ S x) t) : ∀ n : Nat, TH g (up p S (n + 1)) ((n + 1) * p + max p t)
  | 0 => by
    have z : TH g (up p S (0 + 1)) (p + max p t) := by
      refine .step (.inl rfl) (fun q hq => ?_) (fun hq => ?_) (h.congr fun x => ?_)
      · rcases hq with rfl | ⟨y, hy, rfl⟩
        · exact Int.le_refl _
        · have := hg y hy; simp; omega
      · rcases hq with rfl | ⟨y, hy, e⟩
        · omega
        · have := hg y hy; simp at e; omega
      · constructor
        · rintro (rfl | a)
          · exact .inl rfl
          · exact .inr ⟨.inr ⟨x, a, by simp⟩, hg x a⟩
        · rintro (rfl | ⟨a | ⟨y, hy, e⟩, b⟩)
          · exact .inl rfl
          · omega
          · simp at e
            exact .inr (by rw [show x = y by omega]; exact hy)
    have e : (((0 : Nat) : Int) + 1) * p + max p t = p + max p t := by simp
    rw [e]; exact z
  | n + 1 => by
    have ih := TH.ups hp hg hgp h n
    have hn : (0 : Int) ≤ (n : Int) * p := Int.mul_nonneg (by omega) (by omega)
    have e1 : ((n + 1 : Nat) : Int) * p = n * p + p := by rw [Int.natCast_add, Int.add_mul]; simp
    have e2 : ((n + 1 + 1 : Nat) : Int) * p = n * p + p + p := by rw [Int.natCast_add, Int.add_mul, e1]; simp
    have e3 : ((n : Int) + 1) * p = n * p + p := by rw [Int.add_mul]; simp
    have e4 : (((n + 1 : Nat) : Int) + 1) * p = n * p + p + p := by rw [Int.add_mul, e1]; simp
    rw [e3] at ih
    rw [e4]
    have z : TH g (up p S (n + 1 + 1)) (p + max p (n * p + p + max p t)) := by
      refine .step (.inl rfl) (fun q hq => ?_) (fun hq => ?_) (ih.congr fun x => ?_)
      · rcases hq with rfl | ⟨y, hy, rfl⟩
        · exact Int.le_refl _
        · have := hg y hy; rw [e2]; omega
      · rcases hq with rfl | ⟨y, hy, e⟩
        · omega
        · have := hg y hy; rw [e2] at e; omega
      · constructor
        · rintro (rfl | ⟨y, hy, rfl⟩)
          · exact .inl rfl
          · have := hg y hy
            exact .inr ⟨.inr ⟨y, hy, by rw [e1, e2]; omega⟩, by rw [e1]; omega⟩
        · rintro (rfl | ⟨a | ⟨y, hy, e⟩, b⟩)
          · exact .inl rfl
          · omega
          · exact .inr ⟨y, hy, by rw [e2] at e; rw [e1]; omega⟩
    rw [show n * p + p + p + max p t = p + max p (n * p + p + max p t) by omega]
    exact z
end Th
set_option maxHeartbeats 4000000
namespace Th
/-- r rounds at once -/
theorem TH.batch {g p : Int} {S : Int → Prop} (k : Ok g S) (h1 : S p) (h2 : ∀ q, S q → p ≤ q) (h3 : ¬ S g) : ∀ (r : Nat) {t : Int}, (∀ q, S q → ¬ p ∣ q → ((r : Int) + 1) * p ≤ q) →
    TH g (fun x => x = p ∨ (S (x + (r + 1) * p) ∧ 0 < x)) t → TH g S ((r + 1) * p + max p t)
  | 0, t, _, h => by
    have e : (((0 : Nat) : Int) + 1) * p = p := by simp
    rw [e] at h ⊢
    exact .step h1 h2 h3 h
  | r + 1, t, hr, h => by
    have hp := k.pos _ h1
    have hgp := k.lt h1 h3
    have hg0 := k.g0
    have e1 : ((r + 1 : Nat) : Int) = (r : Int) + 1 := by omega
    rw [e1] at hr h ⊢
    have e2 : ((r : Int) + 1 + 1) * p = (r + 1) * p + p := by rw [Int.add_mul ((r : Int) + 1)]; simp
    rw [e2] at hr h ⊢
    have hn : (0 : Int) ≤ ((r : Int) + 1) * p := Int.mul_nonneg (by omega) (by omega)
    have least : ∀ q, (q = p ∨ (S (q + (r + 1) * p) ∧ 0 < q)) → p ≤ q := fun q hq => by
      rcases hq with rfl | ⟨a, b⟩
      · exact Int.le_refl _
      · by_cases hd : p ∣ q + (r + 1) * p
        · have h' : p ∣ (r + 1) * p := Int.dvd_mul_left _ _
          have := Int.dvd_sub hd h'
          rw [show q + (r + 1) * p - (r + 1) * p = q by omega] at this
          exact Int.le_of_dvd b this
        · have := hr _ a hd
          omega
    have z : TH g (fun x => x = p ∨ (S (x + (r + 1) * p) ∧ 0 < x)) (p + max p t) := by
      refine .step (.inl rfl) least (fun hq => ?_) (h.congr fun x => ?_)
      · have := least g hq
        omega
      · constructor
        · rintro (rfl | ⟨a, b⟩)
          · exact .inl rfl
          · exact .inr ⟨.inr ⟨by rw [show x + p + (r + 1) * p = x + ((r + 1) * p + p) by omega]; exact a, by omega⟩, b⟩
        · rintro (rfl | ⟨a | ⟨a, _⟩, b⟩)
          · exact .inl rfl
          · omega
          · exact .inr ⟨by rw [show x + ((r + 1) * p + p) = x + p + (r + 1) * p by omega]; exact a, b⟩
    have := TH.batch k h1 h2 h3 r (fun q hq hd => by have := hr q hq hd; omega) z
    rw [show (r + 1) * p + p + max p t = (r + 1) * p + max p (p + max p t) by omega]
    exact this
theorem gcd_sub_self (a b : Int) : Int.gcd a (b - a) = Int.gcd a b := by simp
/-- two periods -/
theorem TH.pair {g : Int} (hg : 0 < g) : ∀ (n : Nat) (a b : Int), a + b ≤ n → 0 < a → 0 < b → (Int.gcd a b : Int) = g → TH g (fun x => x = a ∨ x = b) (if g = a ∨ g = b then 0 else a + b - g)
  | 0, a, b, h, ha, hb, _ => by omega
  | n + 1, a, b, h, ha, hb, e => by
    have half : ∀ a b : Int, a + b ≤ (n + 1 : Nat) → 0 < a → 0 < b → (Int.gcd a b : Int) = g → a < b → ¬ (g = a ∨ g = b) → TH g (fun x => x = a ∨ x = b) (a + b - g) := fun a b h ha hb e hab hn => by
      have ih := TH.pair hg n a (b - a) (by omega) ha (by omega) (by rw [← e, gcd_sub_self])
      have d1 : g ∣ a := by rw [← e]; exact Int.gcd_dvd_left ..
      have d2 : g ∣ b := by rw [← e]; exact Int.gcd_dvd_right ..
      have d3 : g ≤ b - a := Int.le_of_dvd (by omega) (Int.dvd_sub d2 d1)
      have z : TH g (fun x => x = a ∨ x = b) (a + max a (if g = a ∨ g = b - a then 0 else a + (b - a) - g)) := by
        refine .step (.inl rfl) (fun q hq => by omega) (fun hq => hn hq) (ih.congr fun x => ?_)
        constructor
        · rintro (rfl | rfl)
          · exact .inl rfl
          · exact .inr ⟨.inr (by omega), by omega⟩
        · rintro (rfl | ⟨q | q, b'⟩)
          · exact .inl rfl
          · omega
          · exact .inr (by omega)
      have e2 : a + max a (if g = a ∨ g = b - a then 0 else a + (b - a) - g) = a + b - g := by
        by_cases hc : g = b - a
        · rw [if_pos (.inr hc)]; omega
        · rw [if_neg (fun q => q.elim (fun q => hn (.inl q)) hc)]; omega
      rw [← e2]; exact z
    by_cases hn : g = a ∨ g = b
    · rw [if_pos hn]; exact .base hn
    · rw [if_neg hn]
      rcases Int.lt_trichotomy a b with hab | hab | hab
      · exact half a b h ha hb e hab hn
      · subst hab
        rw [Int.gcd_self] at e
        omega
      · have := half b a (by omega) hb ha (by rw [Int.gcd_comm]; exact e) hab (fun q => hn q.symm)
        rw [show b + a - g = a + b - g by omega] at this
        exact this.congr fun x => Or.comm
/-! ### joined places -/
/-- the least joining in which each two of E are joined -/
inductive Cl (E : Int → Int → Prop) : Int → Int → Prop where
  | refl (i : Int) : Cl E i i
  | edge {i j : Int} : E i j → Cl E i j
  | symm {i j : Int} : Cl E i j → Cl E j i
  | trans {i j k : Int} : Cl E i j → Cl E j k → Cl E i k
theorem Cl.map {E E' : Int → Int → Prop} {f : Int → Int} (h : ∀ i j, E i j → Cl E' (f i) (f j)) : ∀ {i j}, Cl E i j → Cl E' (f i) (f j) := fun {i j} c => by
  induction c with
  | refl i => exact .refl _
  | edge e => exact h _ _ e
  | symm _ ih => exact .symm ih
  | trans _ _ ih1 ih2 => exact .trans ih1 ih2
theorem Cl.mono {E E' : Int → Int → Prop} (h : ∀ i j, E i j → Cl E' i j) {i j : Int} (c : Cl E i j) : Cl E' i j := Cl.map (f := fun x => x) h c
/-- places of a word of n letters, as far apart as a period -/
def Ed (n : Int) (S : Int → Prop) : Int → Int → Prop := fun i j => 0 ≤ i ∧ j < n ∧ S (j - i)
abbrev Cn (n : Int) (S : Int → Prop) : Int → Int → Prop := Cl (Ed n S)
/-- g is a period of the freest word -/
def Fo (n : Int) (S : Int → Prop) (g : Int) : Prop := ∀ i, 0 ≤ i → i + g < n → Cn n S i (i + g)
section
variable {n p g : Int} {S : Int → Prop}
def cut (p : Int) (S : Int → Prop) : Int → Prop := fun x => x = p ∨ (S (x + p) ∧ 0 < x)
def fold (p i : Int) : Int := if i < p then i else i - p
theorem cn_down (hp : 0 < p) (h2 : ∀ q, S q → p ≤ q) {i j : Int} (c : Cn n S i j) : Cn (n - p) (cut p S) (fold p i) (fold p j) := by
  refine Cl.map (fun i j ⟨h0, hj, hs⟩ => ?_) c
  have hq := h2 _ hs
  have ej : fold p j = j - p := if_neg (by omega)
  rw [ej]
  by_cases hi : i < p
  · rw [show fold p i = i from if_pos hi]
    by_cases e : j - i = p
    · rw [show j - p = i by omega]; exact .refl _
    · exact .edge ⟨h0, by omega, .inr ⟨by rw [show j - p - i + p = j - i by omega]; exact hs, by omega⟩⟩
  · rw [show fold p i = i - p from if_neg hi]
    have e1 : Cn (n - p) (cut p S) (i - p) i ∨ j - i = p := by
      by_cases e : j - i = p
      · exact .inr e
      · exact .inl (.edge ⟨by omega, by omega, .inl (by omega)⟩)
    rcases e1 with e1 | e
    · by_cases e : j - i = p
      · rw [show j - p = i by omega]; exact e1
      · exact e1.trans (.edge ⟨h0, by omega, .inr ⟨by rw [show j - p - i + p = j - i by omega]; exact hs, by omega⟩⟩)
    · rw [show j - p = i by omega]
      exact .edge ⟨by omega, by omega, .inl (by omega)⟩
theorem cn_up (hp : 0 < p) (h1 : S p) {i j : Int} (c : Cn (n - p) (cut p S) i j) : Cn n S (i + p) (j + p) := by
  refine Cl.map (f := fun x => x + p) (fun i j ⟨h0, hj, hs⟩ => ?_) c
  rcases hs with e | ⟨hs, h⟩
  · exact .edge ⟨by omega, by omega, by rw [show j + p - (i + p) = p by omega]; exact h1⟩
  · refine .trans (.symm (.edge (i := i) ⟨h0, by omega, by rw [show i + p - i = p by omega]; exact h1⟩)) (.edge ⟨h0, by omega, ?_⟩)
    rw [show j + p - i = j - i + p by omega]; exact hs
theorem fo_mult (hg : 0 < g) (h : Fo n S g) : ∀ (k : Nat) (i : Int), 0 ≤ i → i + k * g < n → Cn n S i (i + k * g)
  | 0, i, _, _ => by rw [show i + ((0 : Nat) : Int) * g = i by simp]; exact .refl _
  | k + 1, i, h0, hk => by
    have e : i + ((k + 1 : Nat) : Int) * g = i + k * g + g := by rw [show ((k + 1 : Nat) : Int) = (k : Int) + 1 by omega, Int.add_mul]; omega
    have hn : (0 : Int) ≤ k * g := Int.mul_nonneg (by omega) (by omega)
    rw [e] at hk ⊢
    exact (fo_mult hg h k i h0 (by omega)).trans (h _ (by omega) hk)
/-- a long word is forced exactly if the word without its first p letters is -/
theorem fo_long (k : Ok g S) (h1 : S p) (h2 : ∀ q, S q → p ≤ q) (hn : 2 * p ≤ n) : Fo n S g ↔ Fo (n - p) (cut p S) g := by
  have hp := k.pos _ h1
  have hg := k.g0
  have hgp := k.le h1
  constructor
  · intro h i h0 hi
    have := cn_down hp h2 (h (i + p) (by omega) (by omega))
    rw [show fold p (i + p) = i by unfold fold; rw [if_neg (by omega)]; omega, show fold p (i + p + g) = i + g by unfold fold; rw [if_neg (by omega)]; omega] at this
    exact this
  · intro h i h0 hi
    have to : ∀ x, 0 ≤ x → x < n → Cn n S x (fold p x + p) := fun x hx hxn => by
      unfold fold
      by_cases c : x < p
      · rw [if_pos c]; exact .edge ⟨hx, by omega, by rw [show x + p - x = p by omega]; exact h1⟩
      · rw [if_neg c, show x - p + p = x by omega]; exact .refl _
    refine (to i h0 (by omega)).trans (.trans (cn_up hp h1 ?_) (to (i + g) (by omega) hi).symm)
    unfold fold
    by_cases c1 : i + g < p
    · rw [if_pos (by omega), if_pos c1]; exact h i h0 (by omega)
    · rw [if_neg c1]
      by_cases c2 : i < p
      · rw [if_pos c2]
        obtain ⟨c, hc⟩ := k.dv _ h1
        have hc1 : 1 ≤ c := by
          have : ¬ c ≤ 0 := fun q => by
            have := Int.mul_le_mul_of_nonneg_left q (Int.le_of_lt hg)
            omega
          omega
        have e : (((c - 1).toNat : Nat) : Int) = c - 1 := by omega
        have e2 : i = i + g - p + ((c - 1).toNat : Nat) * g := by
          rw [e, Int.sub_mul, Int.mul_comm c g, ← hc]; omega
        have := fo_mult hg h (c - 1).toNat (i + g - p) (by omega) (by rw [← e2]; omega)
        rw [← e2] at this
        exact this.symm
      · rw [if_neg c2]
        have := h (i - p) (by omega) (by omega)
        rw [show i - p + g = i + g - p by omega] at this
        exact this
theorem cl_iso {E : Int → Int → Prop} {i : Int} (h : ∀ j, ¬ E i j ∧ ¬ E j i) : ∀ {a b : Int}, Cl E a b → (a = i ↔ b = i) := fun {a b} c => by
  induction c with
  | refl _ => exact Iff.rfl
  | edge e =>
    constructor
    · rintro rfl; exact ((h _).1 e).elim
    · rintro rfl; exact ((h _).2 e).elim
  | symm _ ih => exact ih.symm
  | trans _ _ ih1 ih2 => exact ih1.trans ih2
/-- a short word is not -/
theorem fo_short (k : Ok g S) (h1 : S p) (h2 : ∀ q, S q → p ≤ q) (h3 : ¬ S g) (hg : g < n) (hn : n < 2 * p) : ¬ Fo n S g := by
  intro h
  have hgp := k.lt h1 h3
  have hg0 := k.g0
  by_cases c : n ≤ p
  · have := (cl_iso (i := 0) (fun j => ⟨fun ⟨_, a, b⟩ => by have := h2 _ b; omega, fun ⟨a, _, b⟩ => by have := h2 _ b; omega⟩) (h 0 (Int.le_refl 0) (by omega))).mp rfl
    omega
  · have := (cl_iso (i := p - 1) (fun j => ⟨fun ⟨_, a, b⟩ => by have := h2 _ b; omega, fun ⟨a, _, b⟩ => by have := h2 _ b; omega⟩) (h (p - 1 - g) (by omega) (by omega))).mpr (by omega)
    omega
end
/-- what a threshold is -/
theorem TH.forced {g t : Int} {S : Int → Prop} (h : TH g S t) : Ok g S → ∀ n, g < n → (Fo n S g ↔ t ≤ n) := by
  induction h with
  | base h =>
    intro k n hn
    have := k.g0
    exact ⟨fun _ => by omega, fun _ i h0 hi => .edge ⟨h0, hi, by rw [show i + g - i = g by omega]; exact h⟩⟩
  | @step S p t h1 h2 h3 h4 ih =>
    intro k n hn
    have hgp := k.lt h1 h3
    have hg0 := k.g0
    by_cases c : n < 2 * p
    · exact ⟨fun h => (fo_short k h1 h2 h3 hn c h).elim, fun h => by omega⟩
    · rw [fo_long k h1 h2 (by omega), show Fo (n - p) (cut p S) g ↔ t ≤ n - p from ih (k.next h1) (n - p) (by omega)]
      omega
theorem TH.no_one {g t : Int} {S : Int → Prop} (h : TH g S t) : ∀ {p : Int}, 0 < p → (∀ q, S q ↔ q = p) → p = g := by
  induction h with
  | base h => exact fun _ e => ((e _).mp h).symm
  | @step S p t h1 h2 h3 h4 ih =>
    intro p' hp e
    have := (e _).mp h1
    subst this
    refine ih hp fun q => ⟨fun hq => ?_, fun hq => .inl hq⟩
    rcases hq with hq | ⟨a, b⟩
    · exact hq
    · have := (e _).mp a; omega
theorem TH.le {g t : Int} {S : Int → Prop} (h : TH g S t) : Ok g S → ∀ p M, S p → (∀ q, S q → p ≤ q) → S M → (∀ q, S q → q ≤ M) → t ≤ p + M - g := by
  induction h with
  | base h =>
    intro k p M hp _ hM _
    have := k.le hp; have := k.pos _ hM; omega
  | @step S p t h1 h2 h3 h4 ih =>
    intro k p' M hp' hl hM hu
    have : p' = p := Int.le_antisymm (hl _ h1) (h2 _ hp')
    subst this
    have hgp := k.lt h1 h3
    have hg0 := k.g0
    by_cases hpM : M = p'
    · subst hpM
      exact (h3 ((TH.no_one (.step h1 h2 h3 h4) (k.pos _ h1) fun q => ⟨fun hq => Int.le_antisymm (hu q hq) (h2 q hq), fun hq => hq ▸ h1⟩) ▸ h1)).elim
    · have hlt : p' < M := by have := h2 _ hM; omega
      have hgM : g ≤ M - p' := Int.le_of_dvd (by omega) (Int.dvd_sub (k.dv _ hM) (k.dv _ h1))
      have t' : t ≤ M - g := by
        cases h4 with
        | base _ => omega
        | @step _ p2 t2 a1 a2 a3 a4 =>
          have q1 := a2 _ (.inl rfl)
          have q2 := a2 (M - p') (.inr ⟨by rw [show M - p' + p' = M by omega]; exact hM, by omega⟩)
          have q3 := ih (k.next h1) p2 (max p' (M - p')) a1 a2 (by
            rcases Int.le_total p' (M - p') with q | q
            · rw [Int.max_eq_right q]; exact .inr ⟨by rw [show M - p' + p' = M by omega]; exact hM, by omega⟩
            · rw [Int.max_eq_left q]; exact .inl rfl) (fun q hq => by
            rcases hq with rfl | ⟨a, b⟩
            · omega
            · have := hu _ a; omega)
          omega
      omega
/-! ### labels -/
/-- two labels made one -/
theorem merge_lab {E : Int → Int → Prop} {m : Int} {lab : Int → Int} {a b : Int} (ha : 0 ≤ a ∧ a < m) (hb : 0 ≤ b ∧ b < m) (h : ∀ i j, 0 ≤ i → i < m → 0 ≤ j → j < m → (lab i = lab j ↔ Cl E i j)) (hE : ∀ i j, E i j → (0 ≤ i ∧ i < m) ∧ 0 ≤ j ∧ j < m) :
    ∀ i j, 0 ≤ i → i < m → 0 ≤ j → j < m → ((if lab i = lab b then lab a else lab i) = (if lab j = lab b then lab a else lab j) ↔ Cl (fun x y => E x y ∨ (x = a ∧ y = b)) i j) := by
  intro i j hi hi' hj hj'
  have up : ∀ {x y}, Cl E x y → Cl (fun x y => E x y ∨ (x = a ∧ y = b)) x y := fun c => c.mono fun _ _ e => .edge (.inl e)
  have ab : Cl (fun x y => E x y ∨ (x = a ∧ y = b)) a b := .edge (.inr ⟨rfl, rfl⟩)
  constructor
  · intro e
    by_cases c1 : lab i = lab b
    · have q1 := up ((h i b hi hi' hb.1 hb.2).mp c1)
      rw [if_pos c1] at e
      by_cases c2 : lab j = lab b
      · exact q1.trans (up ((h j b hj hj' hb.1 hb.2).mp c2)).symm
      · rw [if_neg c2] at e
        exact (q1.trans ab.symm).trans (up ((h a j ha.1 ha.2 hj hj').mp e))
    · rw [if_neg c1] at e
      by_cases c2 : lab j = lab b
      · rw [if_pos c2] at e
        exact (up ((h i a hi hi' ha.1 ha.2).mp e)).trans (ab.trans (up ((h j b hj hj' hb.1 hb.2).mp c2)).symm)
      · rw [if_neg c2] at e
        exact up ((h i j hi hi' hj hj').mp e)
  · intro c
    clear hi hi' hj hj'
    induction c with
    | refl _ => rfl
    | @edge x y e =>
      rcases e with e | ⟨rfl, rfl⟩
      · obtain ⟨q1, q2⟩ := hE _ _ e
        rw [(h _ _ q1.1 q1.2 q2.1 q2.2).mpr (.edge e)]
      · simp
    | symm _ ih => exact ih.symm
    | trans _ _ ih1 ih2 => exact ih1.trans ih2
end Th
set_option maxHeartbeats 4000000
/-! Places numbered by first places. -/
namespace Th
/-- nu numbers the classes of E below n by their first places; c classes -/
structure RG (n c : Int) (ν : Int → Int) (E : Int → Int → Prop) : Prop where
  c0 : 0 ≤ c
  bd : ∀ i, 0 ≤ i → i < n → 0 ≤ ν i ∧ ν i < c
  gr : ∀ i v, 0 ≤ i → i < n → 0 ≤ v → v < ν i → ∃ j, 0 ≤ j ∧ j < i ∧ ν j = v
  on : ∀ v, 0 ≤ v → v < c → ∃ i, 0 ≤ i ∧ i < n ∧ ν i = v
  eq : ∀ i j, 0 ≤ i → i < n → 0 ≤ j → j < n → (ν i = ν j ↔ E i j)
section
variable {n c c' p g : Int} {ν ν' : Int → Int} {E : Int → Int → Prop} {S : Int → Prop}
theorem RG.same (a : RG n c ν E) (b : RG n c' ν' E) : ∀ (k : Nat) (i : Int), i = k → 0 ≤ i → i < n → ν i = ν' i := fun k => by
  induction k using Nat.strongRecOn with
  | ind k ih =>
    intro i hk h0 hn
    have one : ∀ {c c' : Int} {ν ν' : Int → Int}, RG n c ν E → RG n c' ν' E → (∀ j, 0 ≤ j → j < i → ν j = ν' j) → ¬ ν i < ν' i := fun {c c' ν ν'} a b ih lt => by
      obtain ⟨j, j0, j1, e⟩ := b.gr i (ν i) h0 hn (a.bd i h0 hn).1 lt
      have e2 := ih j j0 j1
      have : E j i := (a.eq j i j0 (by omega) h0 hn).mp (by omega)
      have := (b.eq j i j0 (by omega) h0 hn).mpr this
      omega
    have ih' : ∀ j, 0 ≤ j → j < i → ν j = ν' j := fun j j0 j1 => ih j.toNat (by omega) j (by omega) j0 (by omega)
    have h1 := one a b ih'
    have h2 := one b a fun j j0 j1 => (ih' j j0 j1).symm
    omega
theorem RG.nu (a : RG n c ν E) (b : RG n c' ν' E) {i : Int} (h0 : 0 ≤ i) (hn : i < n) : ν i = ν' i := a.same b i.toNat i (by omega) h0 hn
theorem RG.cc (a : RG n c ν E) (b : RG n c' ν' E) : c = c' := by
  have one : ∀ {c c' : Int} {ν ν' : Int → Int}, RG n c ν E → RG n c' ν' E → ¬ c < c' := fun {c c' ν ν'} a b lt => by
    obtain ⟨i, i0, i1, e⟩ := b.on c a.c0 lt
    have := a.nu b i0 i1
    have := a.bd i i0 i1
    omega
  have h1 := one a b
  have h2 := one b a
  omega
theorem RG.congr {E' : Int → Int → Prop} (a : RG n c ν E) (e : ∀ i j, 0 ≤ i → i < n → 0 ≤ j → j < n → (E i j ↔ E' i j)) : RG n c ν E' := ⟨a.c0, a.bd, a.gr, a.on, fun i j h1 h2 h3 h4 => (a.eq i j h1 h2 h3 h4).trans (e i j h1 h2 h3 h4)⟩
theorem RG.fn (a : RG n c ν E) (e : ∀ i, 0 ≤ i → i < n → ν i = ν' i) : RG n c ν' E :=
  ⟨a.c0, fun i h0 h1 => by rw [← e i h0 h1]; exact a.bd i h0 h1, fun i v h0 h1 v0 v1 => by
    rw [← e i h0 h1] at v1
    obtain ⟨j, j0, j1, k⟩ := a.gr i v h0 h1 v0 v1
    exact ⟨j, j0, j1, by rw [← e j j0 (by omega)]; exact k⟩, fun v v0 v1 => by
    obtain ⟨i, i0, i1, k⟩ := a.on v v0 v1
    exact ⟨i, i0, i1, by rw [← e i i0 i1]; exact k⟩, fun i j h1 h2 h3 h4 => by rw [← e i h1 h2, ← e j h3 h4]; exact a.eq i j h1 h2 h3 h4⟩
theorem cn_set {S' : Int → Prop} (e : ∀ x, S x ↔ S' x) {i j : Int} : Cn n S i j ↔ Cn n S' i j :=
  ⟨fun c => c.mono fun _ _ ⟨a, b, d⟩ => .edge ⟨a, b, (e _).mp d⟩, fun c => c.mono fun _ _ ⟨a, b, d⟩ => .edge ⟨a, b, (e _).mpr d⟩⟩
theorem RG.set {S' : Int → Prop} (a : RG n c ν (Cn n S)) (e : ∀ x, S x ↔ S' x) : RG n c ν (Cn n S') := a.congr fun _ _ _ _ _ _ => cn_set e
/-- no period is less than the length: each place by itself -/
theorem RG.base (h0 : 0 ≤ n) (h : ∀ q, S q → n ≤ q) : RG n n (fun i => i) (Cn n S) := by
  have no : ∀ i j, ¬ Ed n S i j := fun i j ⟨a, b, d⟩ => by have := h _ d; omega
  refine ⟨h0, fun i a b => ⟨a, b⟩, fun i v a b v0 v1 => ⟨v, v0, v1, rfl⟩, fun v v0 v1 => ⟨v, v0, v1, rfl⟩, fun i j _ _ _ _ => ⟨fun e => ?_, fun k => ?_⟩⟩
  · subst e; exact .refl _
  · exact ((cl_iso (i := i) (fun j => ⟨no i j, no j i⟩) k).mp rfl).symm
theorem fo_self (h : S p) : Fo n S p := fun i h0 hi => .edge ⟨h0, hi, by rw [show i + p - i = p by omega]; exact h⟩
theorem cn_mod (hp : 0 < p) (h : Fo n S p) {i : Int} (h0 : 0 ≤ i) (hi : i < n) : Cn n S (i % p) i := by
  have h1 := Int.emod_nonneg i (show p ≠ 0 by omega)
  have h2 := Int.ediv_mul_add_emod i p
  have h3 : 0 ≤ i / p := Int.ediv_nonneg h0 (by omega)
  have := fo_mult hp h (i / p).toNat (i % p) h1 (by rw [show ((i / p).toNat : Int) = i / p by omega]; omega)
  rw [show ((i / p).toNat : Int) = i / p by omega, show i % p + i / p * p = i by omega] at this
  exact this
/-- the classes are the remainders by g -/
theorem RG.rem (hg : 0 < g) (hn : g ≤ n) (hd : ∀ q, S q → g ∣ q) (hf : Fo n S g) : RG n g (fun i => i % g) (Cn n S) := by
  refine ⟨by omega, fun i _ _ => ⟨Int.emod_nonneg _ (by omega), Int.emod_lt_of_pos _ hg⟩, fun i v h0 h1 v0 v1 => ?_, fun v v0 v1 => ⟨v, v0, by omega, Int.emod_eq_of_lt v0 v1⟩, fun i j h0 h1 h2 h3 => ⟨fun e => ?_, fun k => ?_⟩⟩
  · skip
    have h2 := Int.ediv_mul_add_emod i g
    have h3 : 0 ≤ i / g * g := Int.mul_nonneg (Int.ediv_nonneg h0 (by omega)) (by omega)
    have := Int.emod_lt_of_pos i hg
    exact ⟨v, v0, by omega, Int.emod_eq_of_lt v0 (by omega)⟩
  · exact (cn_mod hg hf h0 h1).symm.trans (e ▸ cn_mod hg hf h2 h3)
  · clear h0 h1 h2 h3
    induction k with
    | refl _ => rfl
    | @edge x y e =>
      obtain ⟨_, _, k⟩ := e
      exact (Int.emod_eq_emod_iff_emod_sub_eq_zero.mpr (Int.emod_eq_zero_of_dvd (hd _ k))).symm
    | symm _ ih => exact ih.symm
    | trans _ _ ih1 ih2 => exact ih1.trans ih2
/-- THE STEP: p the least period, within the length -/
theorem RG.step {b : Int} (hp : 0 < p) (h1 : S p) (h2 : ∀ q, S q → p ≤ q) (hb : 0 ≤ b) (hn : n = b + p) (r : RG b c ν (Cn b (cut p S))) :
    RG n (c + max 0 (p - b)) (fun i => if i % p < b then ν (i % p) else c + (i % p - b)) (Cn n S) := by
  have iso : ∀ x, b ≤ x → ∀ j, ¬ Ed b (cut p S) x j ∧ ¬ Ed b (cut p S) j x := fun x hx j => ⟨fun ⟨_, k, d⟩ => by
    have : 0 < j - x := by rcases d with d | ⟨_, d⟩ <;> omega
    omega, fun ⟨_, k, d⟩ => by omega⟩
  have c0 := r.c0
  -- below p
  have low : ∀ x y, 0 ≤ x → x < p → 0 ≤ y → y < p → ((if x < b then ν x else c + (x - b)) = (if y < b then ν y else c + (y - b)) ↔ Cn n S x y) := fun x y x0 xp y0 yp => by
    have key : Cn n S x y ↔ Cn b (cut p S) x y := by
      constructor
      · intro k
        have := cn_down hp h2 k
        rw [show n - p = b by omega] at this
        unfold fold at this
        rwa [if_pos xp, if_pos yp] at this
      · intro k
        by_cases hx : x < b
        · by_cases hy : y < b
          · have k2 := cn_up (n := n) hp h1 (by rw [show n - p = b by omega]; exact k)
            have e1 : Cn n S x (x + p) := .edge ⟨x0, by omega, by rw [show x + p - x = p by omega]; exact h1⟩
            have e2 : Cn n S y (y + p) := .edge ⟨y0, by omega, by rw [show y + p - y = p by omega]; exact h1⟩
            exact (e1.trans k2).trans e2.symm
          · have := (cl_iso (iso y (by omega)) k).mpr rfl
            omega
        · have := (cl_iso (iso x (by omega)) k).mp rfl
          subst this; exact .refl _
    rw [key]
    by_cases hx : x < b <;> by_cases hy : y < b
    · rw [if_pos hx, if_pos hy]; exact r.eq x y x0 hx y0 hy
    · rw [if_pos hx, if_neg hy]
      have := (r.bd x x0 hx).2
      exact ⟨fun e => by omega, fun k => by have := (cl_iso (iso y (by omega)) k).mpr rfl; omega⟩
    · rw [if_neg hx, if_pos hy]
      have := (r.bd y y0 hy).2
      exact ⟨fun e => by omega, fun k => by have := (cl_iso (iso x (by omega)) k).mp rfl; omega⟩
    · rw [if_neg hx, if_neg hy]
      exact ⟨fun e => by rw [show x = y by omega]; exact .refl _, fun k => by have := (cl_iso (iso x (by omega)) k).mp rfl; omega⟩
  have em : ∀ i : Int, 0 ≤ i % p ∧ i % p < p := fun i => ⟨Int.emod_nonneg _ (by omega), Int.emod_lt_of_pos _ hp⟩
  have le : ∀ i : Int, 0 ≤ i → i % p ≤ i := fun i h0 => by
    have := Int.ediv_mul_add_emod i p
    have : 0 ≤ i / p * p := Int.mul_nonneg (Int.ediv_nonneg h0 (by omega)) (by omega)
    omega
  have sm : ∀ z : Int, 0 ≤ z → z < p → z % p = z := fun z a b => Int.emod_eq_of_lt a b
  refine ⟨by omega, fun i i0 i1 => ?_, fun i v i0 i1 v0 v1 => ?_, fun v v0 v1 => ?_, fun i j i0 i1 j0 j1 => ?_⟩
  · have := em i
    show 0 ≤ (if i % p < b then ν (i % p) else c + (i % p - b)) ∧ (if i % p < b then ν (i % p) else c + (i % p - b)) < _
    split
    · rename_i h; have := r.bd _ this.1 h; omega
    · omega
  · have e1 := em i
    have e2 := le i i0
    replace v1 : v < (if i % p < b then ν (i % p) else c + (i % p - b)) := v1
    have mem : ∀ j, 0 ≤ j → j < p → j < i % p → (if j < b then ν j else c + (j - b)) = v → ∃ j, 0 ≤ j ∧ j < i ∧ (if j % p < b then ν (j % p) else c + (j % p - b)) = v := fun j j0 jp j1 h => ⟨j, j0, by omega, by rw [sm j j0 jp]; exact h⟩
    split at v1
    · rename_i h
      obtain ⟨j, j0, j1, k⟩ := r.gr _ v e1.1 h v0 v1
      exact mem j j0 (by omega) j1 (by rw [if_pos (by omega)]; exact k)
    · rename_i h
      by_cases hv : v < c
      · obtain ⟨j, j0, j1, k⟩ := r.on v v0 hv
        exact mem j j0 (by omega) (by omega) (by rw [if_pos j1]; exact k)
      · exact mem (v - c + b) (by omega) (by omega) (by omega) (by rw [if_neg (by omega)]; omega)
  · by_cases hv : v < c
    · obtain ⟨j, j0, j1, k⟩ := r.on v v0 hv
      have a := em j
      have a2 := le j j0
      have hc : Cn b (cut p S) (j % p) j := cn_mod hp (fo_self (.inl rfl)) j0 j1
      have := (r.eq (j % p) j a.1 (by omega) j0 j1).mpr hc
      refine ⟨j % p, a.1, by omega, ?_⟩
      show (if j % p % p < b then ν (j % p % p) else c + (j % p % p - b)) = v
      rw [sm _ a.1 a.2, if_pos (by omega)]
      omega
    · refine ⟨v - c + b, by omega, by omega, ?_⟩
      show (if (v - c + b) % p < b then ν ((v - c + b) % p) else c + ((v - c + b) % p - b)) = v
      rw [sm _ (by omega) (by omega), if_neg (by omega)]
      omega
  · have a := em i
    have a' := em j
    have k1 : Cn n S (i % p) i := cn_mod hp (fo_self h1) i0 i1
    have k2 : Cn n S (j % p) j := cn_mod hp (fo_self h1) j0 j1
    refine (low _ _ a.1 a.2 a'.1 a'.2).trans ⟨fun k => (k1.symm.trans k).trans k2, fun k => (k1.trans k).trans k2.symm⟩
end
end Th
set_option maxHeartbeats 4000000
/-! Places marked by the first place of their class. -/
namespace Th
structure Mk (n : Int) (mk : Int → Int) (E : Int → Int → Prop) : Prop where
  le : ∀ i, 0 ≤ i → i < n → 0 ≤ mk i ∧ mk i ≤ i
  id : ∀ i, 0 ≤ i → i < n → mk (mk i) = mk i
  eq : ∀ i j, 0 ≤ i → i < n → 0 ≤ j → j < n → (mk i = mk j ↔ E i j)
/-- how many first places lie before k -/
def cnt (mk : Int → Int) : Nat → Int
  | 0 => 0
  | k + 1 => cnt mk k + if mk k = k then 1 else 0
section
variable {n : Int} {mk : Int → Int} {E : Int → Int → Prop}
theorem cnt_nn : ∀ k : Nat, 0 ≤ cnt mk k
  | 0 => Int.le_refl _
  | k + 1 => by have := cnt_nn k; unfold cnt; split <;> omega
theorem cnt_mono {a : Nat} : ∀ d : Nat, cnt mk a ≤ cnt mk (a + d)
  | 0 => Int.le_refl _
  | d + 1 => by have := cnt_mono (a := a) d; rw [← Nat.add_assoc, cnt]; split <;> omega
theorem cnt_lt {a b : Nat} (h : a < b) (e : mk a = a) : cnt mk a < cnt mk b := by
  have h1 : cnt mk (a + 1) = cnt mk a + 1 := by rw [cnt, if_pos e]
  have := cnt_mono (mk := mk) (a := a + 1) (b - (a + 1))
  rw [show a + 1 + (b - (a + 1)) = b by omega] at this
  omega
theorem cnt_at {v : Int} (v0 : 0 ≤ v) : ∀ k : Nat, v < cnt mk k → ∃ t : Nat, t < k ∧ mk t = t ∧ cnt mk t = v
  | 0, h => by simp [cnt] at h; omega
  | k + 1, h => by
    by_cases hk : v < cnt mk k
    · obtain ⟨t, a, b, c⟩ := cnt_at v0 k hk
      exact ⟨t, by omega, b, c⟩
    · rw [cnt] at h
      split at h
      · rename_i e
        exact ⟨k, by omega, e, by omega⟩
      · omega
theorem Mk.rg (h : Mk n mk E) (hn : 0 ≤ n) : RG n (cnt mk n.toNat) (fun i => cnt mk (mk i).toNat) E := by
  have nat : ∀ i : Int, 0 ≤ i → ((i.toNat : Nat) : Int) = i := fun i h => by omega
  have fx : ∀ i, 0 ≤ i → i < n → mk ((mk i).toNat : Int) = ((mk i).toNat : Int) := fun i i0 i1 => by rw [nat _ (h.le i i0 i1).1]; exact h.id i i0 i1
  refine ⟨cnt_nn _, fun i i0 i1 => ⟨cnt_nn _, ?_⟩, fun i v i0 i1 v0 v1 => ?_, fun v v0 v1 => ?_, fun i j i0 i1 j0 j1 => ?_⟩
  · have := h.le i i0 i1
    exact cnt_lt (by omega) (fx i i0 i1)
  · obtain ⟨t, a, b, e⟩ := cnt_at v0 _ v1
    have := h.le i i0 i1
    refine ⟨t, by omega, by omega, ?_⟩
    show cnt mk (mk (t : Int)).toNat = v
    rw [b]; exact e
  · obtain ⟨t, a, b, e⟩ := cnt_at v0 _ v1
    refine ⟨t, by omega, by omega, ?_⟩
    show cnt mk (mk (t : Int)).toNat = v
    rw [b]; exact e
  · rw [← h.eq i j i0 i1 j0 j1]
    have a := h.le i i0 i1
    have b := h.le j j0 j1
    constructor
    · intro e
      replace e : cnt mk (mk i).toNat = cnt mk (mk j).toNat := e
      rcases Nat.lt_trichotomy (mk i).toNat (mk j).toNat with k | k | k
      · have := cnt_lt k (fx i i0 i1); omega
      · omega
      · have := cnt_lt k (fx j j0 j1); omega
    · intro e; show cnt mk (mk i).toNat = cnt mk (mk j).toNat; rw [e]
/-- two classes are joined: the higher mark goes -/
theorem Mk.join {a b : Int} (h : Mk n mk E) (ha : 0 ≤ a ∧ a < n) (hb : 0 ≤ b ∧ b < n) (hE : ∀ i j, E i j ↔ Cl E i j) (hin : ∀ i j, E i j → i = j ∨ ((0 ≤ i ∧ i < n) ∧ 0 ≤ j ∧ j < n)) (hlt : mk a < mk b) :
    Mk n (fun i => if mk i = mk b then mk a else mk i) (Cl fun x y => E x y ∨ (x = a ∧ y = b)) := by
  refine ⟨fun i i0 i1 => ?_, fun i i0 i1 => ?_, fun i j i0 i1 j0 j1 => ?_⟩
  · have := h.le i i0 i1
    have := h.le a ha.1 ha.2
    show 0 ≤ (if mk i = mk b then mk a else mk i) ∧ (if mk i = mk b then mk a else mk i) ≤ i
    split <;> omega
  · show (if mk (if mk i = mk b then mk a else mk i) = mk b then mk a else mk (if mk i = mk b then mk a else mk i)) = if mk i = mk b then mk a else mk i
    by_cases c : mk i = mk b
    · rw [if_pos c, h.id a ha.1 ha.2, if_neg (by omega)]
    · rw [if_neg c, h.id i i0 i1, if_neg c]
  · have key := merge_lab (E := fun x y => E x y ∧ ((0 ≤ x ∧ x < n) ∧ 0 ≤ y ∧ y < n)) (lab := mk) ha hb (fun i j a1 a2 a3 a4 => by
      rw [h.eq i j a1 a2 a3 a4]
      refine ⟨fun e => .edge ⟨e, ⟨a1, a2⟩, a3, a4⟩, fun c => (hE i j).mpr (c.mono fun x y e => .edge e.1)⟩) (fun _ _ e => e.2) i j i0 i1 j0 j1
    refine key.trans ⟨fun c => c.mono fun x y e => .edge ?_, fun c => c.mono fun x y e => ?_⟩
    · rcases e with e | e
      · exact .inl e.1
      · exact .inr e
    · rcases e with e | e
      · rcases hin _ _ e with rfl | k
        · exact .refl _
        · exact .edge (.inl ⟨e, k⟩)
      · exact .edge (.inr e)
end
/-! ### the far word: every period times m, more letters than m * n -/
section
variable {n m more : Int} {S : Int → Prop} {lo hi : Int → Int}
def mul (m : Int) (S : Int → Prop) : Int → Prop := fun x => ∃ y, S y ∧ x = m * y
def nr (n more r : Int) : Int := if r < more then n + 1 else n
def far (m more : Int) (lo hi : Int → Int) (i : Int) : Int := m * (if i % m < more then hi (i / m) else lo (i / m)) + i % m
theorem cn_far (hm : 0 < m) (hmore : more ≤ m) {i j : Int} (i0 : 0 ≤ i) (c : Cn (m * n + more) (mul m S) i j) : i % m = j % m ∧ Cn (nr n more (i % m)) S (i / m) (j / m) := by
  have ed : ∀ {i j}, Ed (m * n + more) (mul m S) i j → i % m = j % m ∧ Cn (nr n more (i % m)) S (i / m) (j / m) := fun {i j} ⟨a, b, y, hy, e⟩ => by
    have e1 : j = i + m * y := by omega
    have e2 : i % m = j % m := by rw [e1, Int.add_mul_emod_self_left]
    have e3 : j / m = i / m + y := by rw [e1, Int.add_mul_ediv_left _ _ (by omega)]
    refine ⟨e2, .edge ⟨Int.ediv_nonneg a (by omega), ?_, by rw [e3, show i / m + y - i / m = y by omega]; exact hy⟩⟩
    have e4 := Int.mul_ediv_add_emod j m
    have e5 := Int.emod_lt_of_pos j hm
    have e6 := Int.emod_nonneg j (show m ≠ 0 by omega)
    unfold nr
    split
    · have : m * (j / m) < m * (n + 1) := by rw [Int.mul_add]; omega
      exact Int.lt_of_mul_lt_mul_left this (by omega)
    · have : m * (j / m) < m * n := by omega
      exact Int.lt_of_mul_lt_mul_left this (by omega)
  clear i0
  induction c with
  | refl _ => exact ⟨rfl, .refl _⟩
  | edge e => exact ed e
  | symm _ ih => exact ⟨ih.1.symm, by rw [← ih.1]; exact ih.2.symm⟩
  | trans _ _ ih1 ih2 => exact ⟨ih1.1.trans ih2.1, ih1.2.trans (by rw [ih1.1]; exact ih2.2)⟩
theorem far_cn (hm : 0 < m) (hmore : 0 ≤ more) {r q q' : Int} (r0 : 0 ≤ r) (r1 : r < m) (c : Cn (nr n more r) S q q') : Cn (m * n + more) (mul m S) (m * q + r) (m * q' + r) :=
  Cl.map (f := fun x => m * x + r) (fun i j ⟨a, b, d⟩ => .edge ⟨by
    have := Int.mul_nonneg (show 0 ≤ m by omega) a
    omega, by
    unfold nr at b
    split at b
    · have := Int.mul_le_mul_of_nonneg_left (show j ≤ n by omega) (show 0 ≤ m by omega)
      omega
    · have := Int.mul_le_mul_of_nonneg_left (show j + 1 ≤ n by omega) (show 0 ≤ m by omega)
      rw [Int.mul_add] at this
      omega, j - i, d, by rw [Int.mul_sub]; omega⟩) c
theorem qr {q r : Int} (hm : 0 < m) (r0 : 0 ≤ r) (r1 : r < m) : (m * q + r) % m = r ∧ (m * q + r) / m = q := by
  constructor
  · rw [Int.add_comm, Int.add_mul_emod_self_left, Int.emod_eq_of_lt r0 r1]
  · rw [Int.add_comm, Int.add_mul_ediv_left _ _ (by omega), Int.ediv_eq_zero_of_lt r0 r1]; omega
theorem Mk.far (hm : 0 < m) (h0 : 0 ≤ more) (h1 : more ≤ m) (hl : Mk n lo (Cn n S)) (hh : Mk (n + 1) hi (Cn (n + 1) S)) : Mk (m * n + more) (Th.far m more lo hi) (Cn (m * n + more) (mul m S)) := by
  have dec : ∀ i : Int, 0 ≤ i → i < m * n + more → 0 ≤ i / m ∧ i / m < nr n more (i % m) ∧ 0 ≤ i % m ∧ i % m < m ∧ i = m * (i / m) + i % m := fun i i0 i1 => by
    have e4 := Int.mul_ediv_add_emod i m
    have e5 := Int.emod_lt_of_pos i hm
    have e6 := Int.emod_nonneg i (show m ≠ 0 by omega)
    refine ⟨Int.ediv_nonneg i0 (by omega), ?_, e6, e5, by omega⟩
    unfold nr
    split
    · have : m * (i / m) < m * (n + 1) := by rw [Int.mul_add]; omega
      exact Int.lt_of_mul_lt_mul_left this (by omega)
    · have : m * (i / m) < m * n := by omega
      exact Int.lt_of_mul_lt_mul_left this (by omega)
  -- the marks of one remainder
  have mk : ∀ r, Mk (nr n more r) (fun q => if r < more then hi q else lo q) (Cn (nr n more r) S) := fun r => by
    unfold nr
    by_cases c : r < more
    · simp only [c, if_true]; exact hh
    · simp only [c, if_false]; exact hl
  refine ⟨fun i i0 i1 => ?_, fun i i0 i1 => ?_, fun i j i0 i1 j0 j1 => ?_⟩
  · obtain ⟨a, b, d, e, f⟩ := dec i i0 i1
    have k := (mk (i % m)).le _ a b
    try dsimp only at k
    unfold Th.far
    generalize (if i % m < more then hi (i / m) else lo (i / m)) = z at k
    have k1 := Int.mul_nonneg (show 0 ≤ m by omega) k.1
    have k2 := Int.mul_le_mul_of_nonneg_left k.2 (show 0 ≤ m by omega)
    omega
  · obtain ⟨a, b, d, e, f⟩ := dec i i0 i1
    have k := (mk (i % m)).id _ a b
    try dsimp only at k
    unfold Th.far
    rw [(qr hm d e).1, (qr hm d e).2]
    rw [k]
  · obtain ⟨a, b, d, e, f⟩ := dec i i0 i1
    obtain ⟨a', b', d', e', f'⟩ := dec j j0 j1
    constructor
    · intro k
      have k1 : i % m = j % m := by
        have := congrArg (· % m) k
        unfold Th.far at this
        try dsimp only at this
        rwa [(qr hm d e).1, (qr hm d' e').1] at this
      have k2 := congrArg (· / m) k
      unfold Th.far at k2
      try dsimp only at k2
      rw [(qr hm d e).2, (qr hm d' e').2, ← k1] at k2
      have k3 := ((mk (i % m)).eq _ _ a b a' (by rw [k1]; exact b')).mp k2
      have := far_cn hm h0 d e k3
      rw [← f] at this
      rw [k1, ← f'] at this
      exact this
    · intro k
      obtain ⟨k1, k2⟩ := cn_far hm h1 i0 k
      have := ((mk (i % m)).eq _ _ a b a' (by rw [k1]; exact b')).mpr k2
      unfold Th.far
      rw [← k1]
      try dsimp only at this
      rw [this]
end
end Th
namespace Th
section
variable {n m more : Int} {lo hi : Int → Int}
/-- how many first places of the far word lie before the place m * q + r -/
theorem cnt_far (hm : 0 < m) (h0 : 0 ≤ more) (h1 : more ≤ m) : ∀ (q r : Nat), (r : Int) ≤ m → cnt (far m more lo hi) (m.toNat * q + r) = (m - more) * cnt lo q + more * cnt hi q + (if hi q = q then min (r : Int) more else 0) + (if lo q = q then max 0 ((r : Int) - more) else 0)
  | 0, 0, _ => by
    have e : m.toNat * 0 + 0 = 0 := by omega
    rw [e]
    simp only [cnt]
    split <;> split <;> omega
  | q + 1, 0, _ => by
    have ih := cnt_far hm h0 h1 q m.toNat (by omega)
    have e : m.toNat * (q + 1) + 0 = m.toNat * q + m.toNat := by rw [Nat.mul_add]; omega
    rw [e, ih, cnt, cnt]
    have a1 : ((m.toNat : Nat) : Int) = m := by omega
    rw [a1, show min m more = more by omega, show max 0 (m - more) = m - more by omega, show min ((0 : Nat) : Int) more = 0 by omega, show max 0 (((0 : Nat) : Int) - more) = 0 by omega]
    rw [Int.mul_add, Int.mul_add]
    split <;> split <;> simp <;> omega
  | q, r + 1, hr => by
    have ih := cnt_far hm h0 h1 q r (by omega)
    have e : m.toNat * q + (r + 1) = (m.toNat * q + r) + 1 := by omega
    rw [e, cnt, ih]
    have a1 : ((m.toNat * q + r : Nat) : Int) = m * (q : Int) + (r : Int) := by
      rw [Int.natCast_add, Int.natCast_mul, show ((m.toNat : Nat) : Int) = m by omega]
    have k := qr (m := m) (q := (q : Int)) (r := (r : Int)) hm (by omega) (by omega)
    have f : far m more lo hi ((m.toNat * q + r : Nat) : Int) = m * (if (r : Int) < more then hi q else lo q) + r := by
      unfold far
      rw [a1, k.1, k.2]
    rw [f, a1]
    have can : ∀ z : Int, (m * z + (r : Int) = m * (q : Int) + (r : Int)) ↔ z = q := fun z => ⟨fun h => Int.eq_of_mul_eq_mul_left (show m ≠ 0 by omega) (by omega), fun h => by rw [h]⟩
    by_cases c : (r : Int) < more
    · rw [if_pos c]
      by_cases c1 : hi q = q
      · rw [if_pos ((can _).mpr c1), if_pos c1, if_pos c1]
        split <;> omega
      · rw [if_neg (fun h => c1 ((can _).mp h)), if_neg c1, if_neg c1]
        split <;> omega
    · rw [if_neg c]
      by_cases c1 : lo q = q
      · rw [if_pos ((can _).mpr c1), if_pos c1, if_pos c1]
        split <;> omega
      · rw [if_neg (fun h => c1 ((can _).mp h)), if_neg c1, if_neg c1]
        split <;> omega
termination_by q r => (q, r)
end
end Th
set_option maxHeartbeats 4000000
namespace K37
open PySem L2 Pc Th
abbrev L (ns : List Int) : D := .lst (ns.map .int)
theorem check_range_ok {v lo hi : Int} (h1 : lo ≤ v) (h2 : v ≤ hi) : g_check_range [.int v, .int lo, .int hi] = .ok .non := by
  have e1 : ¬ v < lo := by omega
  have e2 : ¬ hi < v := by omega
  simp [r_check_range, b_check_range, fVar, e1, e2]
theorem check_many_ok {ds : List D} {m : Int} (h : (ds.length : Int) ≤ m) : g_check_many [.lst ds, .int m] = .ok .non := by
  have e1 : ¬ m < (ds.length : Int) := by omega
  simp [r_check_many, b_check_many, fVar, e1]
theorem number_ok {a b : Int} : g__law_number [.int a, .int b] = .ok (.bl (decide (a = b))) := by
  simp [r__law_number, b__law_number, fVar]
theorem check_periods_ok {ps : List Int} (hl : ps.length ≤ 6) (h : ∀ p ∈ ps, 1 ≤ p ∧ p ≤ 10 ^ 18) : g_check_periods [L ps] = .ok .non := by
  have hm : g_check_many [L ps, .int 6] = .ok .non := check_many_ok (by simp; omega)
  obtain ⟨ρ', e, _⟩ := for_name (i := 1) (body := b_check_periods_1) (ds := ps.map D.int) (ρ := [some (L ps, false), none]) (fun _ ρ => ∃ x, ρ = [some (L ps, false), x]) ⟨_, rfl⟩ fun j d ρ hj ⟨x, hρ⟩ => by
    obtain ⟨p, hp, rfl⟩ := map_get hj
    subst hρ
    have := @check_range_ok p 1 1000000000000000000 (h p (List.mem_of_getElem? hp)).1 (h p (List.mem_of_getElem? hp)).2
    exact ⟨[some (L ps, false), some (.int p, false)], by simp [b_check_periods_1, fVar, this], _, rfl⟩
  simp [r_check_periods, b_check_periods, fVar, hm, e]

theorem take_snoc {α : Type} {xs : List α} {j : Nat} {x : α} (h : xs[j]? = some x) : xs.take (j + 1) = xs.take j ++ [x] := by rw [List.take_add_one, h]; rfl
theorem lg {i : Int} (h : i.natAbs < 2 ^ 64) : i.natAbs.log2 < 64 := log2_small h (by decide)
theorem lg18 {i : Int} (h0 : 0 ≤ i) (h : i ≤ 10 ^ 18) : i.natAbs.log2 < 64 := lg (by omega)
theorem mul18 {i j : Int} (h0 : 0 ≤ i) (h : i ≤ 10 ^ 18) (h0' : 0 ≤ j) (h' : j ≤ 10 ^ 18) : mulD (.int i) (.int j) = .ok (.int (i * j)) := x_mul (by have := lg18 h0 h; have := lg18 h0' h'; omega)
theorem require_ok {ps : List Int} (h : ps ≠ []) : g_require_period [L ps] = .ok .non := by
  have : ¬ (ps.length : Int) = 0 := by
    cases ps with
    | nil => exact absurd rfl h
    | cons _ _ => simp; omega
  simp [r_require_period, b_require_period, fVar, this]
  cases ps with
  | nil => exact absurd rfl h
  | cons _ _ => simp
/-! ### rounds -/
def rnd (p : Int) (rows : List Int) : Int := let c := (rows.filter fun q => !decide (q % p = 0)).map (· / p); if c = [] then 0 else minL c
theorem head_at (p : Int) (qs : List Int) : atI ((p :: qs).map D.int) 0 = some (.int p) := by
  have := @atI_nat D ((p :: qs).map D.int) 0 (.int p) rfl
  simpa using this
theorem rounds_ok {p : Int} {qs : List Int} (hp : 0 < p) (hp' : p ≤ 10 ^ 18) (hl : qs.length < 50) : g__rounds [L (p :: qs)] = .ok (.int (rnd p (p :: qs))) := by
  have hc : fLc [3] (gIt (fVar 0)) (tName 3) (fB (f2 neD (f2 modD (fVar 3) (fVar 1)) (fC (.int 0)))) (f2 fdivD (fVar 3) (fVar 1)) [some (L (p :: qs), false), some (.int p, false), none, none]
      = .ok (((p :: qs).filter fun q => !decide (q % p = 0)).map fun q => D.int (q / p)) := by
    refine lc_ok (inj := D.int) (xs := p :: qs) (fun q => !decide (q % p = 0)) (fun q => D.int (q / p)) (by simp [fVar]) (by simp [lim]; omega) fun x _ => ⟨[some (L (p :: qs), false), some (.int p, false), none, some (.int x, false)], by simp [wipeE], ?_, fun _ => ?_⟩
    · simp [fVar, x_mod hp]
    · have := lg18 (Int.le_of_lt hp) hp'
      simp [fVar, x_fdiv hp (by omega : p.natAbs.log2 < 9000)]
  have e1 : (((p :: qs).filter fun q => !decide (q % p = 0)).map fun q => D.int (q / p)) = (((p :: qs).filter fun q => !decide (q % p = 0)).map (· / p)).map D.int := by simp
  rw [e1] at hc
  have h0 : ixD (L (p :: qs)) (.int 0) = .ok (.int p) := x_ix (head_at p qs)
  have h1 : minDf [.lst ((((p :: qs).filter fun q => !decide (q % p = 0)).map (· / p)).map D.int)] (.int 0) = .ok (.int (rnd p (p :: qs))) := by
    unfold rnd
    by_cases h : ((p :: qs).filter fun q => !decide (q % p = 0)).map (· / p) = []
    · rw [h]; simp only [if_pos]; exact x_minDf0
    · simp only [h, if_false]; exact x_minDf1 h
  simp only [r__rounds, b__rounds, x_seq, x_set, x_setL, x_f2, x_fC, x_ret, x_minDf, fVar, List.getElem?_cons_zero, R.bind_ok, h0, List.set_cons_succ, List.set_cons_zero, hc, List.getElem?_cons_succ, h1, x_end_rt]
/-! ### one step of the rows -/
def les (p r : Int) (rows : List Int) : List Int := usort (p :: (rows.filter fun q => decide (r * p < q)).map (· - r * p))
theorem lessened_ok {p r : Int} {qs : List Int} (hp : 0 < p) (hp' : p ≤ 10 ^ 18) (hr : 0 ≤ r) (hr' : r ≤ 10 ^ 18) (hl : qs.length < 50) : g__lessened [L (p :: qs), .int r] = .ok (L (les p r (p :: qs))) := by
  have hc : fLc [5] (gIt (fVar 0)) (tName 5) (fB (f2 gtD (fVar 5) (fVar 3))) (f2 subD (fVar 5) (fVar 3)) [some (L (p :: qs), false), some (.int r, false), some (.int p, false), some (.int (r * p), false), none, none]
      = .ok (((p :: qs).filter fun q => decide (r * p < q)).map fun q => D.int (q - r * p)) := by
    refine lc_ok (inj := D.int) (xs := p :: qs) (fun q => decide (r * p < q)) (fun q => D.int (q - r * p)) (by simp [fVar]) (by simp [lim]; omega) fun x _ => ⟨[some (L (p :: qs), false), some (.int r, false), some (.int p, false), some (.int (r * p), false), none, some (.int x, false)], by simp [wipeE], ?_, fun _ => ?_⟩
    · simp [fVar]
    · simp [fVar]
  have e1 : (((p :: qs).filter fun q => decide (r * p < q)).map fun q => D.int (q - r * p)) = (((p :: qs).filter fun q => decide (r * p < q)).map (· - r * p)).map D.int := by simp
  rw [e1] at hc
  have hlen : (((p :: qs).filter fun q => decide (r * p < q)).map (· - r * p)).length ≤ 50 := by
    rw [List.length_map]
    refine Nat.le_trans (List.length_filter_le _ _) ?_
    simp; omega
  have h0 : ixD (L (p :: qs)) (.int 0) = .ok (.int p) := x_ix (head_at p qs)
  have h1 : addD (.lst [.int p]) (.lst ((((p :: qs).filter fun q => decide (r * p < q)).map (· - r * p)).map D.int)) = .ok (L (p :: ((p :: qs).filter fun q => decide (r * p < q)).map (· - r * p))) := by
    rw [x_addL, if_pos (by simp only [List.length_map, List.length_cons, List.length_nil, lim] at hlen ⊢; omega)]
    rfl
  have h2 : setD [L (p :: ((p :: qs).filter fun q => decide (r * p < q)).map (· - r * p))] = .ok (.st (p :: ((p :: qs).filter fun q => decide (r * p < q)).map (· - r * p))) := x_setI (by simp only [List.length_cons]; omega)
  have h3 : sortedL [.st (p :: ((p :: qs).filter fun q => decide (r * p < q)).map (· - r * p))] = .ok ((les p r (p :: qs)).map D.int) := x_sortedS (by simp only [List.length_cons]; omega)
  have h4 := mul18 hr hr' (Int.le_of_lt hp) hp'
  have h5 : cap lim [D.int p] = .ok [.int p] := x_cap (by simp [lim])
  simp only [r__lessened, b__lessened, x_seq, x_set, x_setL, x_f2, x_fC, x_ret, x_fL, x_fBi, x_gCons, x_gNil, x_fLst, fVar, List.getElem?_cons_zero, R.bind_ok, h0, h4, List.set_cons_succ, List.set_cons_zero, hc, List.getElem?_cons_succ, h5, h1, h2, h3, x_end_rt]
end K37
set_option maxHeartbeats 4000000
namespace K37
open PySem L2 Pc Th
/-! ### what a row of periods is worth in the loop -/
def wt (q : Int) : Nat := q.toNat.log2
def ws (rows : List Int) : Nat := (rows.map wt).sum
theorem log2_mono {a b : Nat} (h : a ≤ b) : a.log2 ≤ b.log2 := by
  by_cases ha : a = 0
  · subst ha; simp
  · rw [Nat.le_log2 (by omega)]
    exact Nat.le_trans (Nat.log2_self_le ha) h
theorem wt_mono {a b : Int} (h : a ≤ b) : wt a ≤ wt b := log2_mono (by omega)
theorem wt_half {a b : Int} (h0 : 0 < a) (h : 2 * a ≤ b) : wt a < wt b := by
  have e : wt (2 * a) = wt a + 1 := by
    unfold wt
    rw [show (2 * a).toNat = 2 * a.toNat by omega, Nat.log2_two_mul (by omega)]
  have := wt_mono h
  omega
theorem ws_uins (n : Int) : ∀ xs : List Int, ws (uins n xs) ≤ wt n + ws xs ∧ (uins n xs).length ≤ xs.length + 1
  | [] => by simp [uins, ws]
  | x :: xs => by
    have ih := ws_uins n xs
    unfold uins
    split
    · simp [ws]
    · split
      · simp [ws]
      · have e1 : ws (x :: uins n xs) = wt x + ws (uins n xs) := by simp [ws]
        have e2 : ws (x :: xs) = wt x + ws xs := by simp [ws]
        rw [e1, e2, List.length_cons, List.length_cons]
        omega
theorem ws_usort : ∀ xs : List Int, ws (usort xs) ≤ ws xs ∧ (usort xs).length ≤ xs.length
  | [] => by simp [usort, ws]
  | x :: xs => by
    have h1 := ws_uins x (usort xs)
    have h2 := ws_usort xs
    have e : ws (x :: xs) = wt x + ws xs := by simp [ws]
    unfold usort
    rw [e, List.length_cons]
    omega
theorem ws_sub {c : Int → Bool} {f : Int → Int} : ∀ {xs : List Int}, (∀ q ∈ xs, c q = true → f q ≤ q) → ws ((xs.filter c).map f) ≤ ws xs
  | [], _ => by simp
  | x :: xs, h => by
    have ih := ws_sub (c := c) (f := f) (xs := xs) fun q hq => h q (List.mem_cons_of_mem _ hq)
    have e : ws (x :: xs) = wt x + ws xs := by simp [ws]
    rw [List.filter_cons, e]
    by_cases hc : c x = true
    · rw [if_pos hc, List.map_cons]
      have e2 : ws (f x :: (xs.filter c).map f) = wt (f x) + ws ((xs.filter c).map f) := by simp [ws]
      have := wt_mono (h x List.mem_cons_self hc)
      omega
    · rw [if_neg hc]; omega
theorem ws_sub_lt {c : Int → Bool} {f : Int → Int} {q0 : Int} (c0 : c q0 = true) (h0 : 0 < f q0) (h1 : 2 * f q0 ≤ q0) : ∀ {xs : List Int}, q0 ∈ xs → (∀ q ∈ xs, c q = true → f q ≤ q) → ws ((xs.filter c).map f) < ws xs
  | x :: xs, hm, h => by
    have e : ws (x :: xs) = wt x + ws xs := by simp [ws]
    rw [List.filter_cons, e]
    have ih := ws_sub (c := c) (f := f) (xs := xs) fun q hq => h q (List.mem_cons_of_mem _ hq)
    rcases List.mem_cons.mp hm with rfl | hm
    · rw [if_pos c0, List.map_cons]
      have e2 : ws (f q0 :: (xs.filter c).map f) = wt (f q0) + ws ((xs.filter c).map f) := by simp [ws]
      have := wt_half h0 h1
      omega
    · have ih2 := ws_sub_lt c0 h0 h1 hm fun q hq => h q (List.mem_cons_of_mem _ hq)
      by_cases hc : c x = true
      · rw [if_pos hc, List.map_cons]
        have e2 : ws (f x :: (xs.filter c).map f) = wt (f x) + ws ((xs.filter c).map f) := by simp [ws]
        have := wt_mono (h x List.mem_cons_self hc)
        omega
      · rw [if_neg hc]; omega
theorem dvd_mod {q p : Int} : p ∣ q ↔ q % p = 0 := Int.dvd_iff_emod_eq_zero
theorem les_mem {p r x : Int} {rows : List Int} : x ∈ les p r rows ↔ x = p ∨ (x + r * p ∈ rows ∧ 0 < x) := by
  unfold les
  rw [usort_mem, List.mem_cons, List.mem_map]
  constructor
  · rintro (rfl | ⟨q, hq, rfl⟩)
    · exact .inl rfl
    · obtain ⟨h1, h2⟩ := List.mem_filter.mp hq
      have := of_decide_eq_true h2
      exact .inr ⟨by rw [show q - r * p + r * p = q by omega]; exact h1, by omega⟩
  · rintro (rfl | ⟨h1, h2⟩)
    · exact .inl rfl
    · exact .inr ⟨x + r * p, List.mem_filter.mpr ⟨h1, by simp; omega⟩, by omega⟩
/-- the rows in the loop: ascending, within their bounds, few -/
structure Rk (rows : List Int) : Prop where
  ne : rows ≠ []
  asc : rows.Pairwise (· < ·)
  bd : ∀ q ∈ rows, 0 < q ∧ q ≤ 10 ^ 18
  few : rows.length ≤ 40
theorem Rk.head {p : Int} {qs : List Int} (h : Rk (p :: qs)) : ∀ q ∈ p :: qs, p ≤ q := fun q hq => by
  rcases List.mem_cons.mp hq with rfl | hq
  · exact Int.le_refl _
  · exact Int.le_of_lt ((List.pairwise_cons.mp h.asc).1 q hq)
/-- no rounds: p divides each member; else how often p can be taken from each that it does not divide -/
theorem rnd_spec {p : Int} {qs : List Int} (h : Rk (p :: qs)) : (rnd p (p :: qs) = 0 ∧ ∀ q ∈ p :: qs, p ∣ q) ∨
    (1 ≤ rnd p (p :: qs) ∧ (∃ q0 ∈ p :: qs, ¬ p ∣ q0 ∧ rnd p (p :: qs) = q0 / p) ∧ ∀ q ∈ p :: qs, ¬ p ∣ q → rnd p (p :: qs) ≤ q / p) := by
  have hp := (h.bd p List.mem_cons_self).1
  by_cases hne : ((p :: qs).filter fun q => !decide (q % p = 0)).map (· / p) = []
  · left
    have e' : ((p :: qs).filter fun q => !decide (q % p = 0)) = [] := List.map_eq_nil_iff.mp hne
    refine ⟨by unfold rnd; simp only [hne, if_true], fun q hq => ?_⟩
    rw [dvd_mod]
    have := List.filter_eq_nil_iff.mp e' q hq
    simpa using this
  · right
    have er : rnd p (p :: qs) = minL (((p :: qs).filter fun q => !decide (q % p = 0)).map (· / p)) := by unfold rnd; simp only [hne, if_false]
    have hm := minL_mem hne
    rw [← er] at hm
    obtain ⟨q0, hq0, e0⟩ := List.mem_map.mp hm
    obtain ⟨m0, d0⟩ := List.mem_filter.mp hq0
    have nd : ¬ p ∣ q0 := by rw [dvd_mod]; simpa using d0
    refine ⟨?_, ⟨q0, m0, nd, e0.symm⟩, fun q hq hd => ?_⟩
    · rw [← e0]
      have := h.head q0 m0
      exact (Int.le_ediv_iff_mul_le hp).mpr (by omega)
    · rw [er]
      exact minL_le (List.mem_map.mpr ⟨q, List.mem_filter.mpr ⟨hq, by rw [dvd_mod] at hd; simpa using hd⟩, rfl⟩)
/-- a row after r rounds -/
theorem Rk.next {p r : Int} {qs : List Int} (h : Rk (p :: qs)) (hr : 1 ≤ r) : Rk (les p r (p :: qs)) ∧ (les p r (p :: qs)).length ≤ (p :: qs).length ∧ ws (les p r (p :: qs)) ≤ ws (p :: qs) := by
  have hp := h.bd p List.mem_cons_self
  have hrp : p ≤ r * p := by
    have := Int.mul_le_mul_of_nonneg_right hr (Int.le_of_lt hp.1)
    omega
  have hlen : (K37.les p r (p :: qs)).length ≤ (p :: qs).length := by
    have := (ws_usort (p :: ((p :: qs).filter fun q => decide (r * p < q)).map (· - r * p))).2
    have h2 : ((p :: qs).filter fun q => decide (r * p < q)).length ≤ qs.length := by
      rw [List.filter_cons, if_neg (by simp; omega)]
      exact List.length_filter_le _ _
    unfold K37.les
    simp only [List.length_cons, List.length_map] at *
    omega
  refine ⟨⟨fun e => ?_, usort_sorted _, fun q hq => ?_, Nat.le_trans hlen h.few⟩, hlen, ?_⟩
  · have : p ∈ K37.les p r (p :: qs) := les_mem.mpr (.inl rfl)
    rw [e] at this
    cases this
  · rcases les_mem.mp hq with rfl | ⟨a, b⟩
    · exact hp
    · have := h.bd _ a; omega
  · have k1 := (ws_usort (p :: ((p :: qs).filter fun q => decide (r * p < q)).map (· - r * p))).1
    rw [List.filter_cons, if_neg (by simp; omega)] at k1
    have k2 := ws_sub (c := fun q => decide (r * p < q)) (f := (· - r * p)) (xs := qs) (fun q _ _ => by omega)
    have e2 : ∀ l : List Int, ws (p :: l) = wt p + ws l := fun l => by simp [ws]
    unfold K37.les
    rw [List.filter_cons, if_neg (by simp; omega)]
    rw [e2] at k1 ⊢
    omega
/-- all rounds: a member is more than halved -/
theorem Rk.fewer {p : Int} {qs : List Int} (h : Rk (p :: qs)) (h1 : 1 ≤ rnd p (p :: qs)) (h0 : ∃ q0 ∈ p :: qs, ¬ p ∣ q0 ∧ rnd p (p :: qs) = q0 / p) : ws (les p (rnd p (p :: qs)) (p :: qs)) < ws (p :: qs) := by
  obtain ⟨q0, m0, nd, e0⟩ := h0
  generalize rnd p (p :: qs) = r at h1 e0
  have hp := h.bd p List.mem_cons_self
  have hrp : p ≤ r * p := by
    have := Int.mul_le_mul_of_nonneg_right h1 (Int.le_of_lt hp.1)
    omega
  have dec := Int.ediv_mul_add_emod q0 p
  have lt0 := Int.emod_lt_of_pos q0 hp.1
  have ge0 := Int.emod_nonneg q0 (show p ≠ 0 by omega)
  have ne0 : q0 % p ≠ 0 := fun e => nd (dvd_mod.mpr e)
  rw [← e0] at dec
  have hm : q0 ∈ qs := by
    rcases List.mem_cons.mp m0 with rfl | hm
    · exact absurd (Int.dvd_refl _) nd
    · exact hm
  have k1 := (ws_usort (p :: ((p :: qs).filter fun q => decide (r * p < q)).map (· - r * p))).1
  rw [List.filter_cons, if_neg (by simp; omega)] at k1
  have k2 := ws_sub_lt (c := fun q => decide (r * p < q)) (f := (· - r * p)) (q0 := q0) (by simp; omega) (by omega) (by omega) hm (fun q _ _ => by omega)
  have e2 : ∀ l : List Int, ws (p :: l) = wt p + ws l := fun l => by simp [ws]
  unfold K37.les
  rw [List.filter_cons, if_neg (by simp; omega)]
  rw [e2] at k1 ⊢
  omega
/-- r rounds back -/
theorem rg_batch {p c : Int} {ν : Int → Int} {S : Int → Prop} (hp : 0 < p) (h1 : S p) (h2 : ∀ q, S q → 0 < q) : ∀ (r : Nat) (n : Int), (∀ q, S q → ¬ p ∣ q → (r : Int) * p ≤ q) → p ≤ n - r * p →
    RG (n - r * p) c ν (Cn (n - r * p) fun x => x = p ∨ (S (x + r * p) ∧ 0 < x)) → RG n c (fun i => ν (i % p)) (Cn n S)
  | 0, n, _, hn, h => by
    have e0 : ((0 : Nat) : Int) * p = 0 := by simp
    rw [e0, show n - 0 = n by omega] at h hn
    have h' : RG n c ν (Cn n S) := h.set fun x => ⟨fun k => by
      rcases k with rfl | ⟨k, _⟩
      · exact h1
      · rwa [show x + 0 = x by omega] at k, fun k => .inr ⟨by rw [show x + 0 = x by omega]; exact k, h2 x k⟩⟩
    refine h'.fn fun i i0 i1 => ?_
    have a := Int.emod_nonneg i (show p ≠ 0 by omega)
    have b := Int.emod_lt_of_pos i hp
    exact ((h'.eq (i % p) i a (by omega) i0 i1).mpr (cn_mod hp (fo_self h1) i0 i1)).symm
  | r + 1, n, hd, hn, h => by
    have e : ((r + 1 : Nat) : Int) * p = (r : Int) * p + p := by rw [Int.natCast_add, Int.add_mul]; simp
    rw [e] at hn h
    have mp : ∀ q, (fun x => x = p ∨ (S (x + r * p) ∧ 0 < x)) q → p ≤ q := fun q hq => by
      rcases hq with rfl | ⟨a, b⟩
      · exact Int.le_refl _
      · by_cases c : p ∣ q + r * p
        · have : p ∣ q := by
            have := Int.dvd_sub c (Int.dvd_mul_left (r : Int) p)
            rwa [show q + r * p - r * p = q by omega] at this
          exact Int.le_of_dvd b this
        · have := hd _ a c
          rw [e] at this
          omega
    have st := RG.step (n := n - r * p) (b := n - (r * p + p)) (S := fun x => x = p ∨ (S (x + r * p) ∧ 0 < x)) hp (.inl rfl) mp (by omega) (by omega) (h.set fun x => by
      unfold cut
      constructor
      · rintro (k | ⟨k1, k2⟩)
        · exact .inl k
        · exact .inr ⟨.inr ⟨by rw [show x + p + r * p = x + (r * p + p) by omega]; exact k1, by omega⟩, k2⟩
      · rintro (k | ⟨k1 | ⟨k1, _⟩, k2⟩)
        · exact .inl k
        · omega
        · exact .inr ⟨by rw [show x + (r * p + p) = x + p + r * p by omega]; exact k1, k2⟩)
    rw [show max 0 (p - (n - (r * p + p))) = 0 by omega, Int.add_zero] at st
    have := rg_batch hp h1 h2 r n (fun q a b => by have := hd q a b; rw [e] at this; omega) (by omega) st
    refine this.fn fun i i0 i1 => ?_
    have a := Int.emod_nonneg i (show p ≠ 0 by omega)
    have b := Int.emod_lt_of_pos i hp
    show (if i % p % p < n - (r * p + p) then ν (i % p % p) else c + (i % p % p - (n - (r * p + p)))) = ν (i % p)
    rw [Int.emod_eq_of_lt a b, if_pos (by omega)]
end K37
set_option maxHeartbeats 4000000
namespace K37
open PySem L2 Pc Th
def hd (rows : List Int) : Int := rows.headD 0
def mu (rows : List Int) (n : Int) : Nat := ws rows + 2 * wt n + if 2 * hd rows ≤ n then 1 else 0
theorem mu_a {p : Int} {qs : List Int} {n : Int} (h : Rk (p :: qs)) (h1 : p < n) (h2 : n < 2 * p) : mu (les p 1 (p :: qs)) (n - p) < mu (p :: qs) n := by
  have a := (h.next (r := 1) (by decide)).2.2
  have b := wt_half (a := n - p) (b := n) (by omega) (by omega)
  unfold mu
  split <;> omega
theorem mu_b {p r : Int} {qs : List Int} {n : Int} (h : Rk (p :: qs)) (h2 : 2 * p ≤ n) (h1 : 1 ≤ rnd p (p :: qs)) (h0 : ∃ q0 ∈ p :: qs, ¬ p ∣ q0 ∧ rnd p (p :: qs) = q0 / p) (hm : ∀ q ∈ p :: qs, ¬ p ∣ q → rnd p (p :: qs) ≤ q / p)
    (hr1 : 1 ≤ r) (hr : r = rnd p (p :: qs) ∨ (r < rnd p (p :: qs) ∧ n < (r + 2) * p)) : mu (les p r (p :: qs)) (n - r * p) < mu (p :: qs) n := by
  have hp := h.bd p List.mem_cons_self
  have hrp : 0 ≤ r * p := Int.mul_nonneg (by omega) (by omega)
  have a := (h.next hr1).2.2
  have b := wt_mono (a := n - r * p) (b := n) (by omega)
  have e : hd (p :: qs) = p := rfl
  unfold mu
  rw [e, if_pos h2]
  rcases hr with rfl | ⟨hr, hn⟩
  · have := h.fewer h1 h0
    split <;> omega
  · have R := (h.next hr1).1
    have : hd (les p r (p :: qs)) = p := by
      have mp : p ∈ les p r (p :: qs) := les_mem.mpr (.inl rfl)
      have R1 := R.ne
      have mem : ∀ x ∈ les p r (p :: qs), p ≤ x := fun x hx => by
        rcases les_mem.mp hx with rfl | ⟨k1, k2⟩
        · exact Int.le_refl _
        · by_cases c : p ∣ x + r * p
          · have : p ∣ x := by
              have := Int.dvd_sub c (Int.dvd_mul_left r p)
              rwa [show x + r * p - r * p = x by omega] at this
            exact Int.le_of_dvd k2 this
          · have := hm _ k1 c
            have := (Int.le_ediv_iff_mul_le (show 0 < p by omega)).mp this
            have k3 := Int.mul_le_mul_of_nonneg_right (show r + 1 ≤ rnd p (p :: qs) by omega) (show 0 ≤ p by omega)
            rw [Int.add_mul] at k3
            omega
      generalize les p r (p :: qs) = l at mp R1 mem R
      cases l with
      | nil => exact absurd rfl R1
      | cons x l =>
        have h1 := R.head p mp
        have h2 := mem x List.mem_cons_self
        show x = p
        omega
    rw [this]
    rw [Int.add_mul] at hn
    rw [if_neg (by omega)]
    omega
/-- how many rounds are taken -/
theorem rounds_cap {p n R : Int} (hp : 0 < p) (h2 : 2 * p ≤ n) (hR : 1 ≤ R) : ∃ r : Int, (if n / p - 1 < R then n / p - 1 else R) = r ∧ 1 ≤ r ∧ r ≤ R ∧ p ≤ n - r * p ∧ (r = R ∨ (r < R ∧ n < (r + 2) * p)) := by
  have h3 : 2 ≤ n / p := (Int.le_ediv_iff_mul_le hp).mpr h2
  have h4 := Int.ediv_mul_add_emod n p
  have h5 := Int.emod_lt_of_pos n hp
  have h6 := Int.emod_nonneg n (show p ≠ 0 by omega)
  refine ⟨_, rfl, by split <;> omega, by split <;> omega, ?_, ?_⟩
  · split
    · rw [Int.sub_mul]; omega
    · have := Int.mul_le_mul_of_nonneg_right (show R ≤ n / p - 1 by omega) (show 0 ≤ p by omega)
      rw [Int.sub_mul] at this
      omega
  · split
    · right
      refine ⟨by omega, ?_⟩
      rw [show n / p - 1 + 2 = n / p + 1 by omega, Int.add_mul]; omega
    · exact .inl rfl
/-- one turn over the numbering, whatever the number of rounds -/
theorem rg_a {p n c : Int} {qs : List Int} {ν : Int → Int} (h : Rk (p :: qs)) (h1 : p < n) (h2 : n < 2 * p) (r : RG (n - p) c ν (Cn (n - p) (· ∈ les p 1 (p :: qs)))) :
    RG n (c + (2 * p - n)) (fun i => if i % p < n - p then ν (i % p) else c + (i % p - (n - p))) (Cn n (· ∈ p :: qs)) := by
  have hp := h.bd p List.mem_cons_self
  have := RG.step (n := n) (b := n - p) (S := (· ∈ p :: qs)) hp.1 List.mem_cons_self h.head (by omega) (by omega) (r.set fun x => by
    rw [les_mem, Int.one_mul]; exact Iff.rfl)
  rwa [show max 0 (p - (n - p)) = 2 * p - n by omega] at this
theorem rg_b {p n c r : Int} {qs : List Int} {ν : Int → Int} (h : Rk (p :: qs)) (r1 : 1 ≤ r) (hr : ∀ q ∈ p :: qs, ¬ p ∣ q → r ≤ q / p) (hn : p ≤ n - r * p) (g : RG (n - r * p) c ν (Cn (n - r * p) (· ∈ les p r (p :: qs)))) :
    RG n c (fun i => ν (i % p)) (Cn n (· ∈ p :: qs)) := by
  have hp := h.bd p List.mem_cons_self
  have e : ((r.toNat : Nat) : Int) = r := by omega
  have := rg_batch (c := c) (ν := ν) (S := (· ∈ p :: qs)) hp.1 List.mem_cons_self (fun q hq => (h.bd q hq).1) r.toNat n (by
    rw [e]; intro q hq hd
    exact (Int.le_ediv_iff_mul_le hp.1).mp (hr q hq hd))
  rw [e] at this
  exact this hn (g.set fun x => les_mem)
abbrev clE (rows : List Int) (n added : Int) (x y : Option (D × Bool)) : En := [some (L rows, false), some (.int n, false), some (.int added, false), x, y]
def clEnd (o : O) : R O := match o with
  | .nx ρ' => sRet (f2 addD (fVar 2) (fVar 1)) ρ'
  | o => .ok o
abbrev clC : En → R Bool := fB (f2 gtD (fVar 1) (f2 ixD (fVar 0) (fC (.int 0))))
theorem classes_loop : ∀ (k : Nat) (rows : List Int) (n added : Int) (x y : Option (D × Bool)), Rk rows → 0 ≤ n → n ≤ 10 ^ 18 → mu rows n < k →
    ∃ c ν, RG n c ν (Cn n (· ∈ rows)) ∧ (whGo clC b__classes_1 k (clE rows n added x y)).bind clEnd = .ok (.rt (.int (added + c)))
  | 0, _, _, _, _, _, _, _, _, h => by omega
  | k + 1, rows, n, added, x, y, h, n0, n1, hk => by
    obtain ⟨p, qs, rfl⟩ : ∃ p qs, rows = p :: qs := by
      cases rows with
      | nil => exact absurd rfl h.ne
      | cons p qs => exact ⟨p, qs, rfl⟩
    have h0 : ixD (L (p :: qs)) (.int 0) = .ok (.int p) := x_ix (head_at p qs)
    have hp := h.bd p List.mem_cons_self
    have few := h.few
    simp only [List.length_cons] at few
    have ht : clC (clE (p :: qs) n added x y) = .ok (decide (p < n)) := by
      simp only [x_fB, x_f2, fVar, x_fC, List.getElem?_cons_succ, List.getElem?_cons_zero, R.bind_ok, h0, x_gt, x_toB]
    unfold whGo
    rw [ht, R.bind_ok]
    by_cases c1 : p < n
    · rw [decide_eq_true c1, if_pos rfl]
      have q1 : g__rounds [L (p :: qs)] = .ok (.int (rnd p (p :: qs))) := rounds_ok hp.1 hp.2 (by omega)
      rcases rnd_spec h with ⟨z, all⟩ | ⟨g1, g0, gm⟩
      · refine ⟨p, _, RG.rem hp.1 (by omega) all (fo_self List.mem_cons_self), ?_⟩
        rw [z] at q1
        simp only [b__classes_1, x_seq, x_set, x_f2, x_fC, x_fCall, x_gCons, x_gNil, fVar, List.getElem?_cons_succ, List.getElem?_cons_zero, R.bind_ok, h0, List.set_cons_succ, List.set_cons_zero, List.length_cons, List.length_nil, if_true, q1, x_if, x_fB, x_eq, x_toB, decide_true, x_ret, x_add, clEnd]
      · have rne : ¬ rnd p (p :: qs) = 0 := by omega
        have m2 : mulD (.int 2) (.int p) = .ok (.int (2 * p)) := mul18 (by omega) (by omega) (by omega) hp.2
        by_cases c2 : n < 2 * p
        · obtain ⟨c, ν, g, e⟩ := classes_loop k (les p 1 (p :: qs)) (n - p) (added + (2 * p - n)) (some (.int p, false)) (some (.int 1, false)) (h.next (by decide)).1 (by omega) (by omega) (by have := mu_a h c1 c2; omega)
          refine ⟨_, _, rg_a h c1 c2 g, ?_⟩
          have q2 : g__lessened [L (p :: qs), .int 1] = .ok (L (les p 1 (p :: qs))) := lessened_ok hp.1 hp.2 (by omega) (by omega) (by omega)
          have m1 : mulD (.int 1) (.int p) = .ok (.int p) := by rw [mul18 (by omega) (by omega) (by omega) hp.2, Int.one_mul]
          have body : b__classes_1 (clE (p :: qs) n added x y) = .ok (.nx (clE (les p 1 (p :: qs)) (n - p) (added + (2 * p - n)) (some (.int p, false)) (some (.int 1, false)))) := by
            simp only [b__classes_1, x_seq, x_set, x_f2, x_fC, x_fCall, x_gCons, x_gNil, fVar, List.getElem?_cons_succ, List.getElem?_cons_zero, R.bind_ok, h0, List.set_cons_succ, List.set_cons_zero, List.length_cons, List.length_nil, if_true, q1, x_if, x_fB, x_eq, x_toB, rne, decide_false, Bool.false_eq_true, if_false, x_nx, x_lt, m2, c2, decide_true, x_aug, x_sub, x_augR, q2, m1]
          rw [body, R.bind_ok]
          dsimp only
          rw [e]
          congr 3; omega
        · obtain ⟨r, er, r1, rR, rn, rc⟩ := rounds_cap (p := p) (n := n) hp.1 (by omega) g1
          have hr18 : r ≤ 10 ^ 18 := by
            have := Int.mul_le_mul_of_nonneg_left (show 1 ≤ p by omega) (show 0 ≤ r by omega)
            omega
          have hrp : 0 ≤ r * p := Int.mul_nonneg (by omega) (by omega)
          obtain ⟨c, ν, g, e⟩ := classes_loop k (les p r (p :: qs)) (n - r * p) added (some (.int p, false)) (some (.int r, false)) (h.next r1).1 (by omega) (by omega) (by have := mu_b h (by omega) g1 g0 gm r1 rc; omega)
          refine ⟨_, _, rg_b h r1 (fun q hq hd => Int.le_trans rR (gm q hq hd)) rn g, ?_⟩
          have q2 : g__lessened [L (p :: qs), .int r] = .ok (L (les p r (p :: qs))) := lessened_ok hp.1 hp.2 (by omega) hr18 (by omega)
          have m1 := mul18 (show 0 ≤ r by omega) hr18 (Int.le_of_lt hp.1) hp.2
          have lg := lg18 (Int.le_of_lt hp.1) hp.2
          have f1 : fdivD (.int n) (.int p) = .ok (.int (n / p)) := x_fdiv hp.1 (by omega)
          have body : b__classes_1 (clE (p :: qs) n added x y) = .ok (.nx (clE (les p r (p :: qs)) (n - r * p) added (some (.int p, false)) (some (.int r, false)))) := by
            simp only [b__classes_1, x_seq, x_set, x_f2, x_fC, x_fCall, x_gCons, x_gNil, fVar, List.getElem?_cons_succ, List.getElem?_cons_zero, R.bind_ok, h0, List.set_cons_succ, List.set_cons_zero, List.length_cons, List.length_nil, if_true, q1, x_if, x_fB, x_eq, x_toB, rne, decide_false, Bool.false_eq_true, if_false, x_nx, x_lt, m2, c2, x_fBi, f1, x_sub, x_min2, er, q2, m1, x_aug, x_augR]
          rw [body, R.bind_ok]
          dsimp only
          exact e
    · rw [decide_eq_false c1]
      simp only [Bool.false_eq_true, if_false]
      refine ⟨n, _, RG.base n0 (fun q hq => by have := h.head q hq; omega), ?_⟩
      simp only [R.bind_ok, clEnd, x_ret, x_f2, fVar, List.getElem?_cons_succ, List.getElem?_cons_zero, x_add]
theorem mu_small {rows : List Int} {n : Int} (h : Rk rows) (hl : rows.length ≤ 7) (n0 : 0 ≤ n) (n1 : n ≤ 10 ^ 18) : mu rows n < 1000 := by
  have w60 : ∀ x : Int, x ≤ 10 ^ 18 → wt x ≤ 60 := fun x hx => by
    have := @wt_mono x (10 ^ 18) hx
    have e : wt (10 ^ 18) = 59 := by decide +kernel
    omega
  have : ∀ l : List Int, (∀ p ∈ l, p ≤ 10 ^ 18) → ws l ≤ l.length * 60 := fun l => by
    induction l with
    | nil => intro _; simp [ws]
    | cons x l ih =>
      intro hx
      have e2 : ws (x :: l) = wt x + ws l := by simp [ws]
      have h1 := w60 x (hx x List.mem_cons_self)
      have := ih fun p hp => hx p (List.mem_cons_of_mem _ hp)
      rw [e2, List.length_cons, Nat.add_mul]
      omega
  have a := this rows fun p hp => (h.bd p hp).2
  have b := w60 n n1
  have : rows.length * 60 ≤ 7 * 60 := Nat.mul_le_mul_right _ hl
  unfold mu
  split <;> omega
theorem classes_ok {rows : List Int} {n : Int} (h : Rk rows) (hl : rows.length ≤ 7) (n0 : 0 ≤ n) (n1 : n ≤ 10 ^ 18) : ∃ c ν, RG n c ν (Cn n (· ∈ rows)) ∧ g__classes [L rows, .int n] = .ok (.int c) := by
  obtain ⟨c, ν, g, e⟩ := classes_loop fuel rows n 0 none none h n0 n1 (mu_small h hl n0 n1)
  refine ⟨c, ν, g, ?_⟩
  rw [r__classes]
  have e2 : b__classes [some (L rows, false), some (.int n, false), none, none, none] = (whGo clC b__classes_1 fuel (clE rows n 0 none none)).bind clEnd := rfl
  rw [e2, e, Int.zero_add]
  rfl
end K37
set_option maxHeartbeats 4000000
namespace K37
open PySem L2 Pc Th
theorem rg_exists {rows : List Int} {n : Int} (h : Rk rows) (n0 : 0 ≤ n) (n1 : n ≤ 10 ^ 18) : ∃ c ν, RG n c ν (Cn n (· ∈ rows)) := by
  obtain ⟨c, ν, g, _⟩ := classes_loop (mu rows n + 1) rows n 0 none none h n0 n1 (Nat.lt_succ_self _)
  exact ⟨c, ν, g⟩
abbrev caE (rows : List Int) (n pl : Int) (x y z : Option (D × Bool)) : En := [some (L rows, false), some (.int n, false), some (.int pl, false), x, y, z]
def caEnd (o : O) : R O := match o with
  | .nx ρ' => sRet (fVar 2) ρ'
  | o => .ok o
theorem class_at_loop : ∀ (k : Nat) (rows : List Int) (n pl : Int) (x y z : Option (D × Bool)), Rk rows → rows.length ≤ 7 → 0 ≤ pl → pl < n → n ≤ 10 ^ 18 → mu rows n < k →
    ∃ c ν, RG n c ν (Cn n (· ∈ rows)) ∧ (whGo clC b__class_at_1 k (caE rows n pl x y z)).bind caEnd = .ok (.rt (.int (ν pl)))
  | 0, _, _, _, _, _, _, _, _, _, _, _, h => by omega
  | k + 1, rows, n, pl, x, y, z, h, hl7, p0, pn, n1, hk => by
    obtain ⟨p, qs, rfl⟩ : ∃ p qs, rows = p :: qs := by
      cases rows with
      | nil => exact absurd rfl h.ne
      | cons p qs => exact ⟨p, qs, rfl⟩
    have h0 : ixD (L (p :: qs)) (.int 0) = .ok (.int p) := x_ix (head_at p qs)
    have hp := h.bd p List.mem_cons_self
    have few := hl7
    simp only [List.length_cons] at few
    have ht : clC (caE (p :: qs) n pl x y z) = .ok (decide (p < n)) := by
      simp only [x_fB, x_f2, fVar, x_fC, List.getElem?_cons_succ, List.getElem?_cons_zero, R.bind_ok, h0, x_gt, x_toB]
    unfold whGo
    rw [ht, R.bind_ok]
    by_cases c1 : p < n
    · rw [decide_eq_true c1, if_pos rfl]
      have q1 : g__rounds [L (p :: qs)] = .ok (.int (rnd p (p :: qs))) := rounds_ok hp.1 hp.2 (by omega)
      have mp : modD (.int pl) (.int p) = .ok (.int (pl % p)) := x_mod hp.1
      have a := Int.emod_nonneg pl (show p ≠ 0 by omega)
      have b := Int.emod_lt_of_pos pl hp.1
      rcases rnd_spec h with ⟨z, all⟩ | ⟨g1, g0, gm⟩
      · refine ⟨p, _, RG.rem hp.1 (by omega) all (fo_self List.mem_cons_self), ?_⟩
        rw [z] at q1
        simp only [b__class_at_1, x_seq, x_set, x_f2, x_fC, x_fCall, x_gCons, x_gNil, fVar, List.getElem?_cons_succ, List.getElem?_cons_zero, R.bind_ok, h0, List.set_cons_succ, List.set_cons_zero, List.length_cons, List.length_nil, if_true, mp, q1, x_if, x_fB, x_eq, x_toB, decide_true, x_ret, caEnd]
      · have rne : ¬ rnd p (p :: qs) = 0 := by omega
        have m2 : mulD (.int 2) (.int p) = .ok (.int (2 * p)) := mul18 (by omega) (by omega) (by omega) hp.2
        by_cases c2 : n < 2 * p
        · have q2 : g__lessened [L (p :: qs), .int 1] = .ok (L (les p 1 (p :: qs))) := lessened_ok hp.1 hp.2 (by omega) (by omega) (by omega)
          have m1 : mulD (.int 1) (.int p) = .ok (.int p) := by rw [mul18 (by omega) (by omega) (by omega) hp.2, Int.one_mul]
          have hx := h.next (r := 1) (by decide)
          by_cases c3 : n - p ≤ pl % p
          · obtain ⟨c, ν, g, e⟩ := classes_ok hx.1 (by omega) (show 0 ≤ n - p by omega) (by omega)
            refine ⟨_, _, rg_a h c1 c2 g, ?_⟩
            show _ = R.ok (O.rt (D.int (if pl % p < n - p then ν (pl % p) else c + (pl % p - (n - p)))))
            rw [if_neg (by omega), show c + (pl % p - (n - p)) = c + pl % p - (n - p) by omega]
            simp only [b__class_at_1, x_seq, x_set, x_f2, x_fC, x_fCall, x_gCons, x_gNil, fVar, List.getElem?_cons_succ, List.getElem?_cons_zero, R.bind_ok, h0, List.set_cons_succ, List.set_cons_zero, List.length_cons, List.length_nil, if_true, mp, q1, x_if, x_fB, x_eq, x_toB, rne, decide_false, Bool.false_eq_true, if_false, x_nx, x_lt, m2, c2, decide_true, x_sub, x_ge, c3, x_ret, q2, e, x_add, caEnd]
          · obtain ⟨c, ν, g, e⟩ := class_at_loop k (les p 1 (p :: qs)) (n - p) (pl % p) (some (.int p, false)) (some (.int 1, false)) (some (.int (n - p), false)) hx.1 (by omega) a (by omega) (by omega) (by have := mu_a h c1 c2; omega)
            refine ⟨_, _, rg_a h c1 c2 g, ?_⟩
            show _ = R.ok (O.rt (D.int (if pl % p < n - p then ν (pl % p) else c + (pl % p - (n - p)))))
            rw [if_pos (by omega)]
            have body : b__class_at_1 (caE (p :: qs) n pl x y z) = .ok (.nx (caE (les p 1 (p :: qs)) (n - p) (pl % p) (some (.int p, false)) (some (.int 1, false)) (some (.int (n - p), false)))) := by
              simp only [b__class_at_1, x_seq, x_set, x_f2, x_fC, x_fCall, x_gCons, x_gNil, fVar, List.getElem?_cons_succ, List.getElem?_cons_zero, R.bind_ok, h0, List.set_cons_succ, List.set_cons_zero, List.length_cons, List.length_nil, if_true, mp, q1, x_if, x_fB, x_eq, x_toB, rne, decide_false, Bool.false_eq_true, if_false, x_nx, x_lt, m2, c2, decide_true, x_sub, x_ge, c3, q2, x_aug, x_augR, m1]
            rw [body, R.bind_ok]
            dsimp only
            exact e
        · obtain ⟨r, er, r1, rR, rn, rc⟩ := rounds_cap (p := p) (n := n) hp.1 (by omega) g1
          have hr18 : r ≤ 10 ^ 18 := by
            have := Int.mul_le_mul_of_nonneg_left (show 1 ≤ p by omega) (show 0 ≤ r by omega)
            omega
          have hrp : 0 ≤ r * p := Int.mul_nonneg (by omega) (by omega)
          have hx := h.next r1
          obtain ⟨c, ν, g, e⟩ := class_at_loop k (les p r (p :: qs)) (n - r * p) (pl % p) (some (.int p, false)) (some (.int r, false)) z hx.1 (by omega) a (by omega) (by omega) (by have := mu_b h (by omega) g1 g0 gm r1 rc; omega)
          refine ⟨_, _, rg_b h r1 (fun q hq hd => Int.le_trans rR (gm q hq hd)) rn g, ?_⟩
          have q2 : g__lessened [L (p :: qs), .int r] = .ok (L (les p r (p :: qs))) := lessened_ok hp.1 hp.2 (by omega) hr18 (by omega)
          have m1 := mul18 (show 0 ≤ r by omega) hr18 (Int.le_of_lt hp.1) hp.2
          have lg := lg18 (Int.le_of_lt hp.1) hp.2
          have f1 : fdivD (.int n) (.int p) = .ok (.int (n / p)) := x_fdiv hp.1 (by omega)
          have body : b__class_at_1 (caE (p :: qs) n pl x y z) = .ok (.nx (caE (les p r (p :: qs)) (n - r * p) (pl % p) (some (.int p, false)) (some (.int r, false)) z)) := by
            simp only [b__class_at_1, x_seq, x_set, x_f2, x_fC, x_fCall, x_gCons, x_gNil, fVar, List.getElem?_cons_succ, List.getElem?_cons_zero, R.bind_ok, h0, List.set_cons_succ, List.set_cons_zero, List.length_cons, List.length_nil, if_true, mp, q1, x_if, x_fB, x_eq, x_toB, rne, decide_false, Bool.false_eq_true, if_false, x_nx, x_lt, m2, c2, x_fBi, f1, x_sub, x_min2, er, q2, m1, x_aug, x_augR]
          rw [body, R.bind_ok]
          dsimp only
          exact e
    · rw [decide_eq_false c1]
      simp only [Bool.false_eq_true, if_false]
      refine ⟨n, _, RG.base (by omega) (fun q hq => by have := h.head q hq; omega), ?_⟩
      simp only [R.bind_ok, caEnd, x_ret, fVar, List.getElem?_cons_succ, List.getElem?_cons_zero]
theorem class_at_ok {rows : List Int} {n pl c : Int} {ν : Int → Int} (h : Rk rows) (hl : rows.length ≤ 7) (p0 : 0 ≤ pl) (pn : pl < n) (n1 : n ≤ 10 ^ 18) (r : RG n c ν (Cn n (· ∈ rows))) : g__class_at [L rows, .int n, .int pl] = .ok (.int (ν pl)) := by
  obtain ⟨c', ν', g, e⟩ := class_at_loop fuel rows n pl none none none h hl p0 pn n1 (mu_small h hl (by omega) n1)
  rw [r.nu g p0 pn, r__class_at]
  have e2 : b__class_at [some (L rows, false), some (.int n, false), some (.int pl, false), none, none, none] = (whGo clC b__class_at_1 fuel (caE rows n pl none none none)).bind caEnd := rfl
  rw [e2, e]
  rfl
/-! ### class_count and class_of over good periods -/
structure Gp (ps : List Int) : Prop where
  ne : ps ≠ []
  few : ps.length ≤ 6
  bd : ∀ p ∈ ps, 1 ≤ p ∧ p ≤ 10 ^ 18
theorem Gp.rk {ps : List Int} (h : Gp ps) : Rk (usort ps) ∧ (usort ps).length ≤ 6 := by
  have k := (ws_usort ps).2
  have few := h.few
  refine ⟨⟨fun e => ?_, usort_sorted ps, fun q hq => ?_, by omega⟩, by omega⟩
  · obtain ⟨p, hp⟩ := List.exists_mem_of_ne_nil _ h.ne
    have := (usort_mem p).mpr hp
    rw [e] at this
    cases this
  · have := h.bd q ((usort_mem q).mp hq); omega
/-- a list or a tuple of ints -/
inductive Seq (ps : List Int) : D → Prop where
  | lst : Seq ps (L ps)
  | tup : Seq ps (.tup (ps.map .int))
theorem check_periods_seq {ps : List Int} {d : D} (s : Seq ps d) (hl : ps.length ≤ 6) (h : ∀ p ∈ ps, 1 ≤ p ∧ p ≤ 10 ^ 18) : g_check_periods [d] = .ok .non := by
  cases s with
  | lst => exact check_periods_ok hl h
  | tup =>
    have hm : g_check_many [.tup (ps.map .int), .int 6] = .ok .non := by
      have e1 : ¬ (6 : Int) < (ps.length : Int) := by omega
      simp [r_check_many, b_check_many, fVar, e1]
    obtain ⟨ρ', e, _⟩ := for_name (i := 1) (body := b_check_periods_1) (ds := ps.map D.int) (ρ := [some (.tup (ps.map .int), false), none]) (fun _ ρ => ∃ x, ρ = [some (.tup (ps.map .int), false), x]) ⟨_, rfl⟩ fun j d ρ hj ⟨x, hρ⟩ => by
      obtain ⟨p, hp, rfl⟩ := map_get hj
      subst hρ
      have := @check_range_ok p 1 1000000000000000000 (h p (List.mem_of_getElem? hp)).1 (h p (List.mem_of_getElem? hp)).2
      exact ⟨[some (.tup (ps.map .int), false), some (.int p, false)], by simp [b_check_periods_1, fVar, this], _, rfl⟩
    simp [r_check_periods, b_check_periods, fVar, hm, e]
theorem require_seq {ps : List Int} {d : D} (s : Seq ps d) (h : ps ≠ []) : g_require_period [d] = .ok .non := by
  cases s with
  | lst => exact require_ok h
  | tup =>
    cases ps with
    | nil => exact absurd rfl h
    | cons p ps =>
      have : ¬ ((ps.length : Int) + 1 = 0) := by omega
      simp [r_require_period, b_require_period, fVar, this]
theorem set_seq {ps : List Int} {d : D} (s : Seq ps d) (h : ps.length ≤ 6) : setD [d] = .ok (.st ps) := by
  cases s with
  | lst => exact x_setI (by omega)
  | tup =>
    show (match D.ints (ps.map D.int) with | some ns => if ns.length ≤ 1000 then R.ok (D.st ns) else .bad | none => .bad) = _
    rw [ints_map]; exact if_pos (by omega)
theorem count_ok {ps : List Int} {d : D} {n c : Int} {ν : Int → Int} (s : Seq ps d) (h : Gp ps) (n0 : 0 ≤ n) (n1 : n ≤ 10 ^ 18) (r : RG n c ν (Cn n (· ∈ ps))) : g_class_count [d, .int n] = .ok (.int c) := by
  have e1 := check_periods_seq s h.few h.bd
  have e2 := @check_range_ok n 0 1000000000000000000 n0 n1
  have e3 := require_seq s h.ne
  have e4 := set_seq s h.few
  have few := h.few
  have e5 : sortedL [.st ps] = .ok ((usort ps).map D.int) := x_sortedS (by omega)
  obtain ⟨c', ν', g, e6⟩ := classes_ok h.rk.1 (by have := h.rk.2; omega) n0 n1
  have : c = c' := r.cc (g.set fun x => usort_mem x)
  subst this
  simp [r_class_count, b_class_count, fVar, e1, e2, e3, e4, e5, e6]
theorem of_ok {ps : List Int} {d : D} {n pl c : Int} {ν : Int → Int} (s : Seq ps d) (h : Gp ps) (p0 : 0 ≤ pl) (pn : pl < n) (n1 : n ≤ 10 ^ 18) (r : RG n c ν (Cn n (· ∈ ps))) : g_class_of [d, .int n, .int pl] = .ok (.int (ν pl)) := by
  have e1 := check_periods_seq s h.few h.bd
  have e2 := @check_range_ok n 0 1000000000000000000 (by omega) n1
  have e2' := @check_range_ok pl 0 (n - 1) p0 (by omega)
  have e3 := require_seq s h.ne
  have e4 := set_seq s h.few
  have few := h.few
  have e5 : sortedL [.st ps] = .ok ((usort ps).map D.int) := x_sortedS (by omega)
  have e6 := class_at_ok h.rk.1 (by have := h.rk.2; omega) p0 pn n1 (r.set fun x => (usort_mem x).symm)
  simp [r_class_of, b_class_of, fVar, e1, e2, e2', e3, e4, e5, e6]
end K37
set_option maxHeartbeats 4000000
namespace K37
open PySem L2 Pc Th
theorem mul64 {i j : Int} (h : i.natAbs < 2 ^ 64) (h' : j.natAbs < 2 ^ 64) : mulD (.int i) (.int j) = .ok (.int (i * j)) := x_mul (by have := lg h; have := lg h'; omega)
/-! ### _law_dig -/
inductive Dg : List Int → List Int → Prop where
  | nil : Dg [] []
  | cons {x s : Int} {xs ss : List Int} : 0 ≤ x → x < s → Dg xs ss → Dg (x :: xs) (s :: ss)
theorem Dg.snoc {x s : Int} (h0 : 0 ≤ x) (h1 : x < s) : ∀ {xs ss : List Int}, Dg xs ss → Dg (xs ++ [x]) (ss ++ [s])
  | _, _, .nil => .cons h0 h1 .nil
  | _, _, .cons a b h => .cons a b (h.snoc h0 h1)
theorem Dg.len : ∀ {xs ss : List Int}, Dg xs ss → xs.length = ss.length
  | _, _, .nil => rfl
  | _, _, .cons _ _ h => by simp [h.len]
theorem dig_ok {cells sizes : List Int} {place : Int} (hp : 0 ≤ place) (hp' : place ≤ 1000) (hs : ∀ s ∈ sizes, 0 < s ∧ s ≤ 10 ^ 18) (hl : sizes.length ≤ 20) :
    ∃ row, g__law_dig [L cells, .int place, L sizes] = .ok (L row) ∧ Dg row sizes := by
  -- the cell
  obtain ⟨cell, hcell⟩ : ∃ cell : Int, b__law_dig [some (L cells, false), some (.int place, false), some (L sizes, false), none, none, none, none, none] = (sSeq (sSet 4 (fBi absD (gCons (fVar 3) (gNil)))) (
  sSeq (sOwn 5 (fLst (gNil))) (
  sSeq (sFor (gR1 (gCons (fBi lenD (gCons (fVar 2) (gNil))) (gNil))) (tName 6) b__law_dig_1) (
  sFrz [5] (sRet (fVar 5)))))) [some (L cells, false), some (.int place, false), some (L sizes, false), some (.int cell, false), none, none, none, none] := by
    by_cases c : place < cells.length
    · have hx : atI (cells.map D.int) place = some (.int cells[place.toNat]!) := by
        have : place.toNat < (cells.map D.int).length := by simp; omega
        have := atI_get? this
        rw [show (place.toNat : Int) = place by omega] at this
        rw [this]
        simp
        rw [List.getElem?_eq_getElem (by omega)]; rfl
      refine ⟨cells[place.toNat]!, ?_⟩
      have := x_ix hx
      simp -implicitDefEqProofs [b__law_dig, fVar, c, this]
    · exact ⟨0, by simp -implicitDefEqProofs [b__law_dig, fVar, c]⟩
  -- the loop
  obtain ⟨ρ', e2, left, row, x, y, hρ, hrow⟩ := for_name (i := 6) (body := b__law_dig_1) (ds := rangeL 0 sizes.length) (ρ := [some (L cells, false), some (.int place, false), some (L sizes, false), some (.int cell, false), some (.int (if cell < 0 then -cell else cell), false), some (.lst [], true), none, none])
    (fun j ρ => ∃ (left : Int) (row : List Int) (x y : Option (D × Bool)), ρ = [some (L cells, false), some (.int place, false), some (L sizes, false), some (.int cell, false), some (.int left, false), some (L row, true), x, y] ∧ Dg row (sizes.take j)) ⟨_, [], none, none, rfl, .nil⟩ fun j d ρ hj hρ => by
      obtain ⟨left, row, x, y, hρ, hrow⟩ := hρ
      subst hρ
      obtain ⟨rfl, hj'⟩ := rangeL_get hj
      have hjn : j < sizes.length := by omega
      have hs0 := hs sizes[j] (List.getElem_mem hjn)
      have hx : ixD (L sizes) (.int (j : Int)) = .ok (.int sizes[j]) := by
        have h1 : j < (sizes.map D.int).length := by simpa using hjn
        have h2 := atI_get? h1
        rw [List.getElem_map] at h2
        exact x_ix h2
      have hlog := lg18 (Int.le_of_lt hs0.1) hs0.2
      -- the mixed part
      obtain ⟨left', y', hm⟩ : ∃ (left' : Int) (y' : Option (D × Bool)), b__law_dig_1 [some (L cells, false), some (.int place, false), some (L sizes, false), some (.int cell, false), some (.int left, false), some (L row, true), some (.int j, false), y]
          = (sSeq (sApp 5 (f2 modD (fBi intD (gCons (fVar 4) (gNil))) (f2 ixD (fVar 2) (fVar 6)))) (
  sSet 4 (f2 fdivD (fVar 4) (f2 ixD (fVar 2) (fVar 6))))) [some (L cells, false), some (.int place, false), some (L sizes, false), some (.int cell, false), some (.int left', false), some (L row, true), some (.int j, false), y'] := by
        by_cases c : (if cell < 0 then -cell else cell) < 1000000000000000000
        · have m1 : mulD (.int cell) (.int 48271) = .ok (.int (cell * 48271)) := x_mul (by
            have := @lg cell (by omega)
            have := @lg 48271 (by omega)
            omega)
          have m2 : mulD (.int place) (.int 8191) = .ok (.int (place * 8191)) := mul18 hp (by omega) (by omega) (by omega)
          have m3 : mulD (.int j) (.int 69621) = .ok (.int (j * 69621)) := mul18 (by omega) (by omega) (by omega) (by omega)
          obtain ⟨mx, hmx⟩ : ∃ mx : Int, mx = (cell * 48271 + place * 8191 + j * 69621 + 40692) % 2147483647 := ⟨_, rfl⟩
          have m4 : modD (.int (cell * 48271 + place * 8191 + j * 69621 + 40692)) (.int 2147483647) = .ok (.int mx) := by rw [hmx]; exact x_mod (by omega)
          have m5 : mulD (.int mx) (.int mx) = .ok (.int (mx * mx)) := mul18 (by omega) (by omega) (by omega) (by omega)
          have m6 : mulD (.int j) (.int 16807) = .ok (.int (j * 16807)) := mul18 (by omega) (by omega) (by omega) (by omega)
          have m7 : modD (.int (mx * mx + j * 16807 + place)) (.int 998244353) = .ok (.int _) := x_mod (by omega)
          have m8 : ∀ i : Int, fdivD (.int i) (.int 8) = .ok (.int (i / 8)) := fun i => x_fdiv (by omega) (by have := @lg 8 (by omega); omega)
          refine ⟨(mx * mx + j * 16807 + place) % 998244353 / 8, some (.int mx, false), ?_⟩
          simp only [b__law_dig_1, x_seq, x_if, x_fB, x_f2, x_fBi, x_gCons, x_gNil, x_set, x_fC, fVar, List.getElem?_cons_succ, List.getElem?_cons_zero, R.bind_ok, x_abs, p18, x_lt, x_toB, c, decide_true, if_true, m1, m2, m3, x_add, x_int, m4, List.set_cons_succ, List.set_cons_zero, m5, m6, m7, m8]
        · refine ⟨left, y, ?_⟩
          simp only [b__law_dig_1, x_seq, x_if, x_fB, x_f2, x_fBi, x_gCons, x_gNil, x_set, x_fC, fVar, List.getElem?_cons_succ, List.getElem?_cons_zero, R.bind_ok, x_abs, p18, x_lt, x_toB, c, decide_false, x_nx]
          simp only [Bool.false_eq_true, if_false, R.bind_ok]
      have d1 : modD (.int left') (.int sizes[j]) = .ok (.int (left' % sizes[j])) := x_mod hs0.1
      have d2 : fdivD (.int left') (.int sizes[j]) = .ok (.int (left' / sizes[j])) := x_fdiv hs0.1 (by omega)
      have hrl : (row.map D.int).length < lim := by
        have := hrow.len
        rw [List.length_take] at this
        simp only [List.length_map, lim]; omega
      refine ⟨[some (L cells, false), some (.int place, false), some (L sizes, false), some (.int cell, false), some (.int (left' / sizes[j]), false), some (L (row ++ [left' % sizes[j]]), true), some (.int j, false), y'], ?_, _, row ++ [left' % sizes[j]], _, _, rfl, ?_⟩
      · rw [show (0 : Int) + (j : Int) = j by omega, List.set_cons_succ, List.set_cons_succ, List.set_cons_succ, List.set_cons_succ, List.set_cons_succ, List.set_cons_succ, List.set_cons_zero, hm]
        simp only [x_seq, x_app, fOwn, x_f2, x_fBi, x_gCons, x_gNil, x_set, x_fC, fVar, List.getElem?_cons_succ, List.getElem?_cons_zero, R.bind_ok, x_int, hx, d1, if_pos hrl, List.set_cons_succ, List.set_cons_zero, d2, L, List.map_append, List.map_cons, List.map_nil]
      · rw [take_snoc (List.getElem?_eq_getElem hjn)]
        exact hrow.snoc (Int.emod_nonneg _ (by omega)) (Int.emod_lt_of_pos _ hs0.1)
  subst hρ
  rw [rangeL_len, List.take_of_length_le (by omega)] at hrow
  refine ⟨row, ?_, hrow⟩
  have r1 : rng1 [.int (sizes.length : Int)] = .ok (rangeL 0 sizes.length) := x_rng1 (by omega)
  have f4 : frz1 [some (L cells, false), some (.int place, false), some (L sizes, false), some (.int cell, false), some (.int left, false), some (L row, true), x, y] 5 = [some (L cells, false), some (.int place, false), some (L sizes, false), some (.int cell, false), some (.int left, false), some (L row, false), x, y] := frz1_own rfl
  have c0 : cap lim ([] : List D) = .ok [] := x_cap (by simp)
  rw [r__law_dig, hcell]
  simp -implicitDefEqProofs only [x_seq, x_set, x_fBi, x_gCons, x_gNil, fVar, List.getElem?_cons_succ, List.getElem?_cons_zero, R.bind_ok, x_abs, List.set_cons_succ, List.set_cons_zero, x_own, x_fLst, c0, x_for, x_gR1, x_len, List.length_map, r1, e2, x_frz, x_frz1, x_frz0, f4, x_ret, x_end_rt]
/-! ### _law_gcd -/
def fp : Nat → Nat × Nat
  | 0 => (0, 1)
  | n + 1 => ((fp n).2, (fp n).1 + (fp n).2)
def fib (n : Nat) : Nat := (fp n).1
theorem fib_two (n : Nat) : fib (n + 2) = fib n + fib (n + 1) := rfl
def Eu (k : Nat) (a b : Int) : Prop := 0 ≤ a ∧ 0 ≤ b ∧ (b = 0 ∨ b < fib (k + 1) ∨ (b ≤ a ∧ a < fib (k + 2)))
theorem Eu.step {k : Nat} {a b : Int} (h : Eu (k + 1) a b) (hb : b ≠ 0) : Eu k b (a % b) := by
  obtain ⟨h0, h1, h2⟩ := h
  have hb0 : 0 < b := by omega
  have p1 := Int.emod_nonneg a hb
  have p2 := Int.emod_lt_of_pos a hb0
  refine ⟨h1, p1, ?_⟩
  have f1 : fib (k + 1 + 2) = fib (k + 1) + fib (k + 2) := fib_two (k + 1)
  have f2 : fib (k + 1 + 1) = fib (k + 2) := rfl
  rw [f1, f2] at h2
  by_cases c : b < fib (k + 2)
  · exact .inr (.inr ⟨by omega, c⟩)
  · rcases h2 with h2 | h2 | ⟨h2, h3⟩
    · exact absurd h2 hb
    · exact absurd h2 c
    · have : a % b ≤ a - b := by
        have := Int.ediv_mul_add_emod a b
        have h4 : 1 ≤ a / b := (Int.le_ediv_iff_mul_le hb0).mpr (by omega)
        have := Int.mul_le_mul_of_nonneg_right h4 h1
        omega
      exact .inr (.inl (by omega))
theorem Eu.stay {k : Nat} {a : Int} (h : 0 ≤ a) : Eu k a 0 := ⟨h, Int.le_refl _, .inl rfl⟩
theorem law_gcd_ok {a b : Int} (ha : 0 ≤ a) (hb : 0 ≤ b) (hb' : b ≤ 10 ^ 18) : g__law_gcd [.int a, .int b] = .ok (.int (Int.gcd a b : Int)) := by
  obtain ⟨ρ', e, x, y, c, d, hρ, hg, hk⟩ := for_name (i := 4) (body := b__law_gcd_1) (ds := rangeL 0 100) (ρ := [some (.int a, false), some (.int b, false), some (.int a, false), some (.int b, false), none, none])
    (fun j ρ => ∃ (x y : Option (D × Bool)) (c d : Int), ρ = [some (.int a, false), some (.int b, false), some (.int c, false), some (.int d, false), x, y] ∧ Int.gcd c d = Int.gcd a b ∧ Eu (100 - j) c d)
    ⟨none, none, a, b, rfl, rfl, ha, hb, .inr (.inl (by
      have : (10 : Int) ^ 18 < (fib (100 - 0 + 1) : Int) := by decide +kernel
      exact Int.lt_of_le_of_lt hb' this))⟩ fun j dd ρ hj hρ => by
      obtain ⟨x, y, c, d, hρ, hg, hk⟩ := hρ
      subst hρ
      obtain ⟨rfl, hj'⟩ := rangeL_get hj
      by_cases hd : d = 0
      · subst hd
        exact ⟨[some (.int a, false), some (.int b, false), some (.int c, false), some (.int 0, false), some (.int (0 + j), false), y], by simp [b__law_gcd_1, fVar], _, _, c, 0, rfl, hg, .stay hk.1⟩
      · have hd0 : 0 < d := by have := hk.2.1; omega
        have m1 : modD (.int c) (.int d) = .ok (.int (c % d)) := x_mod hd0
        refine ⟨[some (.int a, false), some (.int b, false), some (.int d, false), some (.int (c % d), false), some (.int (0 + j), false), some (.int (c % d), false)], by simp [b__law_gcd_1, fVar, hd, m1], _, _, d, c % d, rfl, ?_, ?_⟩
        · rw [← hg]
          obtain ⟨c', rfl⟩ := Int.eq_ofNat_of_zero_le hk.1
          obtain ⟨d', rfl⟩ := Int.eq_ofNat_of_zero_le hk.2.1
          show Nat.gcd d' (c' % d') = Nat.gcd c' d'
          rw [Nat.gcd_comm c' d', Nat.gcd_rec d' c', Nat.gcd_comm]
        · rw [show 100 - j = 100 - (j + 1) + 1 by omega] at hk
          exact hk.step hd
  subst hρ
  have hl : (rangeL 0 100).length = 100 := by rw [rangeL_len]; rfl
  rw [hl] at hk
  have hd : d = 0 := by
    obtain ⟨h0, h1, h2⟩ := hk
    have f1 : fib (100 - 100 + 1) = 1 := rfl
    have f2 : fib (100 - 100 + 2) = 1 := rfl
    rw [f1, f2] at h2
    omega
  subst hd
  have hc : (Int.gcd a b : Int) = c := by
    rw [← hg]
    have := hk.1
    simp
    omega
  have r1 : rng1 [.int 100] = .ok (rangeL 0 100) := x_rng1 (by decide)
  rw [hc]
  simp [r__law_gcd, b__law_gcd, fVar, r1, e]
theorem cut_from {α : Type} {xs : List α} {k : Int} (h0 : 0 ≤ k) (h : k ≤ xs.length) : cutL xs (some k) none = xs.drop k.toNat := by
  obtain ⟨k, rfl⟩ := Int.eq_ofNat_of_zero_le h0
  rw [Int.toNat_natCast]
  unfold cutL
  rw [HT.sIx_nat, HT.sIx_none, Nat.min_eq_left (by omega)]
  exact List.take_of_length_le (by simp)
theorem cut_to {α : Type} {xs : List α} {k : Int} (h0 : 0 ≤ k) (h : k ≤ xs.length) : cutL xs none (some k) = xs.take k.toNat := by
  obtain ⟨k, rfl⟩ := Int.eq_ofNat_of_zero_le h0
  rw [Int.toNat_natCast]
  unfold cutL
  rw [HT.sIx_nat, HT.sIx_none, Nat.min_eq_left (by omega)]
  simp
theorem at_int {xs : List Int} {k : Int} (h0 : 0 ≤ k) (h : k < xs.length) : ∃ x, x ∈ xs ∧ xs[k.toNat]? = some x ∧ ixD (L xs) (.int k) = .ok (.int x) := by
  have h1 : k.toNat < (xs.map D.int).length := by rw [List.length_map]; omega
  have h2 := atI_get? h1
  rw [show (k.toNat : Int) = k by omega, List.getElem_map] at h2
  exact ⟨xs[k.toNat], List.getElem_mem _, List.getElem?_eq_getElem _, x_ix h2⟩
theorem ix0 {a : Int} {xs : List Int} : ixD (L (a :: xs)) (.int 0) = .ok (.int a) := x_ix (head_at a xs)
theorem ix1 {a b : Int} {xs : List Int} : ixD (L (a :: b :: xs)) (.int 1) = .ok (.int b) := x_ix (atI_nat (j := 1) rfl)
theorem ix2 {a b c : Int} {xs : List Int} : ixD (L (a :: b :: c :: xs)) (.int 2) = .ok (.int c) := x_ix (atI_nat (j := 2) rfl)
theorem ix3 {a b c d : Int} {xs : List Int} : ixD (L (a :: b :: c :: d :: xs)) (.int 3) = .ok (.int d) := x_ix (atI_nat (j := 3) rfl)
theorem ix4 {a b c d e : Int} {xs : List Int} : ixD (L (a :: b :: c :: d :: e :: xs)) (.int 4) = .ok (.int e) := x_ix (atI_nat (j := 4) rfl)
theorem ix5 {a b c d e f : Int} {xs : List Int} : ixD (L (a :: b :: c :: d :: e :: f :: xs)) (.int 5) = .ok (.int f) := x_ix (atI_nat (j := 5) rfl)
def labs (n : Nat) (lab : Int → Int) : List Int := (List.range n).map fun (i : Nat) => lab (i : Int)
theorem labs_len (n : Nat) (lab : Int → Int) : (labs n lab).length = n := by simp [labs]
theorem labs_at {n : Nat} {lab : Int → Int} {i : Int} (h0 : 0 ≤ i) (h1 : i < n) : ixD (L (labs n lab)) (.int i) = .ok (.int (lab i)) := by
  have h : i.toNat < ((labs n lab).map D.int).length := by rw [List.length_map, labs_len]; omega
  have h2 := atI_get? h
  rw [show (i.toNat : Int) = i by omega] at h2
  refine x_ix (h2.trans ?_)
  simp [labs]
  rw [show max i 0 = i by omega]
theorem labs_snoc (n : Nat) (lab : Int → Int) : labs n lab ++ [(n : Int)] = labs (n + 1) fun i => if i = n then (n : Int) else lab i := by
  unfold labs
  rw [List.range_succ, List.map_append]
  congr 1
  · apply List.map_congr_left
    intro i hi
    have := List.mem_range.mp hi
    show _ = if (i : Int) = n then (n : Int) else lab i
    rw [if_neg (by omega)]
  · simp
theorem labs_map (n : Nat) (lab : Int → Int) (f : Int → Int) : (labs n lab).map f = labs n fun i => f (lab i) := by simp [labs]
end K37
set_option maxHeartbeats 4000000
namespace K37
open PySem L2 Pc Th
/-! ### _law_closing -/
theorem Mk.congr {n : Int} {mk : Int → Int} {E E' : Int → Int → Prop} (h : Mk n mk E) (e : ∀ i j, 0 ≤ i → i < n → 0 ≤ j → j < n → (E i j ↔ E' i j)) : Mk n mk E' := ⟨h.le, h.id, fun i j a b c d => (h.eq i j a b c d).trans (e i j a b c d)⟩
theorem cl_cl {E : Int → Int → Prop} {i j : Int} : Cl E i j ↔ Cl (Cl E) i j := ⟨fun c => .edge c, fun c => c.mono fun _ _ e => e⟩
theorem cl_in {E : Int → Int → Prop} {n : Int} (h : ∀ i j, E i j → (0 ≤ i ∧ i < n) ∧ 0 ≤ j ∧ j < n) {i j : Int} (c : Cl E i j) : i = j ∨ ((0 ≤ i ∧ i < n) ∧ 0 ≤ j ∧ j < n) := by
  induction c with
  | refl _ => exact .inl rfl
  | edge e => exact .inr (h _ _ e)
  | symm _ ih => rcases ih with ih | ih; exact .inl ih.symm; exact .inr ⟨ih.2, ih.1⟩
  | trans _ _ a b =>
    rcases a with rfl | a
    · exact b
    · rcases b with rfl | b
      · exact .inr a
      · exact .inr ⟨a.1, b.2⟩
/-- a further edge -/
theorem Mk.edge {n a b : Int} {mk : Int → Int} {E : Int → Int → Prop} (h : Mk n mk (Cl E)) (hE : ∀ i j, E i j → (0 ≤ i ∧ i < n) ∧ 0 ≤ j ∧ j < n) (ha : 0 ≤ a ∧ a < n) (hb : 0 ≤ b ∧ b < n) :
    (mk a = mk b → Mk n mk (Cl fun x y => E x y ∨ (x = a ∧ y = b))) ∧
    (mk a < mk b → Mk n (fun i => if mk i = mk b then mk a else mk i) (Cl fun x y => E x y ∨ (x = a ∧ y = b))) ∧
    (mk b < mk a → Mk n (fun i => if mk i = mk a then mk b else mk i) (Cl fun x y => E x y ∨ (x = a ∧ y = b))) := by
  refine ⟨fun e => ?_, fun lt => ?_, fun lt => ?_⟩
  · refine Mk.congr h fun i j a1 a2 a3 a4 => ⟨fun c => c.mono fun _ _ e => .edge (.inl e), fun c => c.mono fun x y k => ?_⟩
    rcases k with k | ⟨rfl, rfl⟩
    · exact .edge k
    · exact (h.eq _ _ ha.1 ha.2 hb.1 hb.2).mp e
  · refine Mk.congr (h.join ha hb (fun i j => cl_cl) (fun i j c => cl_in hE c) lt) fun i j _ _ _ _ => ⟨fun c => c.mono fun x y k => ?_, fun c => c.mono fun x y k => ?_⟩
    · rcases k with k | k
      · exact k.mono fun _ _ e => .edge (.inl e)
      · exact .edge (.inr k)
    · rcases k with k | k
      · exact .edge (.inl (.edge k))
      · exact .edge (.inr k)
  · refine Mk.congr (h.join hb ha (fun i j => cl_cl) (fun i j c => cl_in hE c) lt) fun i j _ _ _ _ => ⟨fun c => c.mono fun x y k => ?_, fun c => c.mono fun x y k => ?_⟩
    · rcases k with k | ⟨rfl, rfl⟩
      · exact k.mono fun _ _ e => .edge (.inl e)
      · exact .symm (.edge (.inr ⟨rfl, rfl⟩))
    · rcases k with k | ⟨rfl, rfl⟩
      · exact .edge (.inl (.edge k))
      · exact .symm (.edge (.inr ⟨rfl, rfl⟩))
abbrev coE (ps : List Int) (N : Nat) (mk : Int → Int) (a b c d e : Option (D × Bool)) : En := [some (L ps, false), some (.int N, false), some (L (labs N mk), false), a, b, c, d, e]
theorem closing_1 {ps : List Int} {N : Nat} (hN : N ≤ 1000) {p t : Int} (hp : 0 < p) (t0 : 0 ≤ t) (tp : t + p < N) {mk : Int → Int} {E : Int → Int → Prop} (hE : ∀ i j, E i j → (0 ≤ i ∧ i < (N : Int)) ∧ 0 ≤ j ∧ j < (N : Int)) (h : Mk N mk (Cl E)) (c d e : Option (D × Bool)) :
    ∃ mk' c' d', b__law_closing_1 (coE ps N mk (some (.int p, false)) (some (.int t, false)) c d e) = .ok (.nx (coE ps N mk' (some (.int p, false)) (some (.int t, false)) c' d' e)) ∧ Mk N mk' (Cl fun x y => E x y ∨ (x = t ∧ y = t + p)) := by
  obtain ⟨k1, k2, k3⟩ := Mk.edge h hE (a := t) (b := t + p) ⟨t0, by omega⟩ ⟨by omega, tp⟩
  have i1 : ixD (L (labs N mk)) (.int t) = .ok (.int (mk t)) := labs_at t0 (by omega)
  have i2 : ixD (L (labs N mk)) (.int (t + p)) = .ok (.int (mk (t + p))) := labs_at (by omega) tp
  by_cases q : mk t = mk (t + p)
  · refine ⟨mk, c, d, ?_, k1 q⟩
    simp [b__law_closing_1, fVar, i1, i2, q]
  · have hc : ∀ lo hi : Int, fLc [7] (gIt (fVar 2)) (tName 7) (gYes) (fIf (fB (f2 eqD (fVar 7) (fVar 6))) (fVar 5) (fVar 7)) (coE ps N mk (some (.int p, false)) (some (.int t, false)) (some (.int lo, false)) (some (.int hi, false)) e)
        = .ok ((labs N fun i => if mk i = hi then lo else mk i).map D.int) := fun lo hi => by
      rw [← labs_map N mk (fun m => if m = hi then lo else m), List.map_map]
      refine lc_all (inj := D.int) (D.int ∘ fun m => if m = hi then lo else m) (by simp [fVar]) (by rw [labs_len]; simp only [lim]; omega) fun m _ => ⟨_, rfl, ?_⟩
      by_cases c3 : m = hi <;> simp [fVar, wipeE, c3]
    by_cases lt : mk t < mk (t + p)
    · refine ⟨_, some (.int (mk t), false), some (.int (mk (t + p)), false), ?_, k2 lt⟩
      have e1 : (if mk (t + p) < mk t then mk (t + p) else mk t) = mk t := by omega
      have e2 : (if mk (t + p) > mk t then mk (t + p) else mk t) = mk (t + p) := by omega
      simp only [b__law_closing_1, x_if, x_fB, x_f2, fVar, List.getElem?_cons_succ, List.getElem?_cons_zero, R.bind_ok, i1, x_add, i2, x_ne, q, decide_false, Bool.not_false, x_toB, if_true, x_seq, x_set, x_fBi, x_gCons, x_gNil, x_min2, x_max2, e1, e2, List.set_cons_succ, List.set_cons_zero, x_setL, hc]
    · have lt' : mk (t + p) < mk t := by omega
      refine ⟨_, some (.int (mk (t + p)), false), some (.int (mk t), false), ?_, k3 lt'⟩
      have e1 : (if mk (t + p) < mk t then mk (t + p) else mk t) = mk (t + p) := by omega
      have e2 : (if mk (t + p) > mk t then mk (t + p) else mk t) = mk t := by omega
      simp only [b__law_closing_1, x_if, x_fB, x_f2, fVar, List.getElem?_cons_succ, List.getElem?_cons_zero, R.bind_ok, i1, x_add, i2, x_ne, q, decide_false, Bool.not_false, x_toB, if_true, x_seq, x_set, x_fBi, x_gCons, x_gNil, x_min2, x_max2, e1, e2, List.set_cons_succ, List.set_cons_zero, x_setL, hc]
theorem closing_2 {ps : List Int} {N : Nat} (hN : N ≤ 1000) {p : Int} (hp : 0 < p) (hp' : p ≤ 1000) {mk : Int → Int} {S : Int → Prop} (hS : ∀ q, S q → 0 < q) (h : Mk N mk (Cn N S)) (b c d e : Option (D × Bool)) :
    ∃ mk' b' c' d', b__law_closing_2 (coE ps N mk (some (.int p, false)) b c d e) = .ok (.nx (coE ps N mk' (some (.int p, false)) b' c' d' e)) ∧ Mk N mk' (Cn N fun x => S x ∨ x = p) := by
  obtain ⟨ρ', e1, mk', b', c', d', hρ, hm⟩ := for_name (i := 4) (body := b__law_closing_1) (ds := rangeL 0 ((N : Int) - p)) (ρ := coE ps N mk (some (.int p, false)) b c d e)
    (fun j ρ => ∃ mk' b' c' d', ρ = coE ps N mk' (some (.int p, false)) b' c' d' e ∧ Mk N mk' (Cl fun x y => Ed N S x y ∨ (0 ≤ x ∧ x < (j : Int) ∧ y < (N : Int) ∧ y = x + p)))
    ⟨mk, b, c, d, rfl, Mk.congr h fun i k _ _ _ _ => ⟨fun c => c.mono fun _ _ e => .edge (.inl e), fun c => c.mono fun _ _ e => by
      rcases e with e | e
      · exact .edge e
      · omega⟩⟩ fun j dd ρ hj hρ => by
      obtain ⟨mk', b', c', d', hρ, hm⟩ := hρ
      obtain ⟨rfl, hj'⟩ := rangeL_get hj
      subst hρ
      rw [show (0 : Int) + (j : Int) = j by omega]
      obtain ⟨mk2, c2, d2, k1, k2⟩ := closing_1 (ps := ps) hN hp (t := (j : Int)) (by omega) (by omega) (fun x y k => by
        rcases k with ⟨k1, k2, k3⟩ | k
        · have := hS _ k3; omega
        · omega) hm c' d' e
      refine ⟨_, k1, mk2, some (.int j, false), c2, d2, rfl, Mk.congr k2 fun x y _ _ _ _ => ⟨fun c => c.mono fun u v k => .edge ?_, fun c => c.mono fun u v k => .edge ?_⟩⟩
      · rcases k with (k | k) | k
        · exact .inl k
        · exact .inr (by omega)
        · exact .inr (by omega)
      · rcases k with k | k
        · exact .inl (.inl k)
        · by_cases hu : u = (j : Int)
          · exact .inr ⟨hu, by omega⟩
          · exact .inl (.inr (by omega))
  subst hρ
  rw [rangeL_len] at hm
  refine ⟨mk', b', c', d', ?_, Mk.congr hm fun x y _ _ _ _ => ⟨fun c => c.mono fun u v k => .edge ?_, fun c => c.mono fun u v k => .edge ?_⟩⟩
  · have r1 : rng1 [.int ((N : Int) - p)] = .ok (rangeL 0 ((N : Int) - p)) := x_rng1 (by omega)
    simp -implicitDefEqProofs only [b__law_closing_2, x_for, x_gR1, x_gCons, x_gNil, x_f2, fVar, List.getElem?_cons_succ, List.getElem?_cons_zero, R.bind_ok, x_sub, r1, e1]
  · rcases k with ⟨k1, k2, k3⟩ | k
    · exact ⟨k1, k2, .inl k3⟩
    · exact ⟨by omega, by omega, .inr (by omega)⟩
  · obtain ⟨k1, k2, k3⟩ := k
    rcases k3 with k3 | k3
    · exact .inl ⟨k1, k2, k3⟩
    · exact .inr (by omega)
theorem closing_ok {ps : List Int} (hps : ∀ p ∈ ps, 0 < p ∧ p ≤ 1000) {N : Nat} (hN : N ≤ 1000) : ∃ mk, g__law_closing [L ps, .int N] = .ok (L (labs N mk)) ∧ Mk N mk (Cn N (· ∈ ps)) := by
  obtain ⟨ρ', e1, mk, a, b, c, d, hρ, hm⟩ := for_name (i := 3) (body := b__law_closing_2) (ds := ps.map D.int) (ρ := coE ps N (fun i => i) none none none none none)
    (fun j ρ => ∃ mk a b c d, ρ = coE ps N mk a b c d none ∧ Mk N mk (Cn N (· ∈ ps.take j)))
    ⟨fun i => i, none, none, none, none, rfl, ⟨fun i a b => ⟨a, Int.le_refl _⟩, fun i _ _ => rfl, fun i j _ _ _ _ => ⟨fun e => by subst e; exact .refl _, fun c => by
      have no : ∀ x y, ¬ Ed N (· ∈ ps.take 0) x y := fun x y ⟨_, _, k⟩ => by simp at k
      exact ((cl_iso (i := i) (fun z => ⟨no i z, no z i⟩) c).mp rfl).symm⟩⟩⟩ fun j dd ρ hj hρ => by
      obtain ⟨mk, a, b, c, d, hρ, hm⟩ := hρ
      obtain ⟨p, hp, rfl⟩ := map_get hj
      subst hρ
      have hp0 := hps p (List.mem_of_getElem? hp)
      obtain ⟨mk', b', c', d', k1, k2⟩ := closing_2 (ps := ps) hN hp0.1 hp0.2 (fun q hq => (hps q (List.mem_of_mem_take hq)).1) hm b c d none
      refine ⟨_, k1, mk', some (.int p, false), b', c', d', rfl, Mk.congr k2 fun x y _ _ _ _ => cn_set fun z => ?_⟩
      rw [take_snoc hp, List.mem_append, List.mem_singleton]
  subst hρ
  rw [List.length_map, List.take_length] at hm
  refine ⟨mk, ?_, hm⟩
  have r1 : rngL [.int (N : Int)] = .ok (rangeL 0 N) := x_rngL (by omega) (by omega)
  have e0 : rangeL 0 (N : Int) = (labs N fun i => i).map D.int := by
    rw [rangeL_eq]; simp [labs]
  rw [e0] at r1
  simp -implicitDefEqProofs only [r__law_closing, b__law_closing, x_seq, x_set, x_fL, x_fBi, x_gCons, x_gNil, fVar, List.getElem?_cons_succ, List.getElem?_cons_zero, List.set_cons_succ, List.set_cons_zero, R.bind_ok, r1, x_for, x_gIt, x_itD, e1, x_ret, x_end_rt]
/-! ### firsts -/
def fst (N : Nat) (mk : Int → Int) : List Int := ((List.range N).map fun (i : Nat) => (0 : Int) + (i : Int)).filter fun t => decide (mk t = t)
theorem firsts_ok {N : Nat} (hN : N ≤ 1000) (mk : Int → Int) : g__law_firsts [L (labs N mk)] = .ok (L (fst N mk)) := by
  have r1 : rng1 [.int ((labs N mk).length : Int)] = .ok (rangeL 0 N) := by rw [labs_len]; exact x_rng1 (by omega)
  have hc : fLc [1] (gR1 (gCons (fBi lenD (gCons (fVar 0) (gNil))) (gNil))) (tName 1) (fB (f2 eqD (f2 ixD (fVar 0) (fVar 1)) (fVar 1))) (fVar 1) [some (L (labs N mk), false), none] = .ok ((fst N mk).map D.int) := by
    refine lc_ok (inj := D.int) (xs := (List.range N).map fun (i : Nat) => (0 : Int) + (i : Int)) (fun t => decide (mk t = t)) D.int ?_ (by rw [List.length_map, List.length_range]; simp only [lim]; omega) fun t ht => ⟨_, rfl, ?_, fun _ => ?_⟩
    · simp -implicitDefEqProofs only [x_gR1, x_gCons, x_gNil, x_fBi, fVar, List.getElem?_cons_zero, R.bind_ok, x_len, List.length_map, r1, rangeL_eq]
      rw [show ((N : Int) - 0).toNat = N by omega]
    · obtain ⟨i, hi, rfl⟩ := List.mem_map.mp ht
      have := List.mem_range.mp hi
      have l1 : ixD (L (labs N mk)) (.int (0 + (i : Int))) = .ok (.int (mk (0 + (i : Int)))) := labs_at (by omega) (by omega)
      simp only [x_fB, x_f2, fVar, wipeE, List.set_cons_succ, List.set_cons_zero, List.getElem?_cons_succ, List.getElem?_cons_zero, R.bind_ok, l1, x_eq, x_toB]
    · simp [fVar, wipeE]
  simp only [r__law_firsts, b__law_firsts, x_ret, x_fL, hc, R.bind_ok, x_end_rt]
theorem fst_mem {N : Nat} {mk : Int → Int} {f : Int} : f ∈ fst N mk ↔ (0 ≤ f ∧ f < N) ∧ mk f = f := by
  unfold fst
  rw [List.mem_filter, List.mem_map]
  constructor
  · rintro ⟨⟨i, hi, rfl⟩, h⟩
    have := List.mem_range.mp hi
    exact ⟨by omega, of_decide_eq_true h⟩
  · rintro ⟨h1, h2⟩
    exact ⟨⟨f.toNat, List.mem_range.mpr (by omega), by omega⟩, decide_eq_true h2⟩
theorem fst_succ (N : Nat) (mk : Int → Int) : fst (N + 1) mk = fst N mk ++ if mk (N : Int) = N then [(N : Int)] else [] := by
  unfold fst
  rw [List.range_succ, List.map_append, List.filter_append]
  congr 1
  simp only [List.map_cons, List.map_nil, List.filter_cons, List.filter_nil, Int.zero_add]
  by_cases h : mk (N : Int) = N <;> simp [h]
theorem fst_len (mk : Int → Int) : ∀ N : Nat, ((fst N mk).length : Int) = cnt mk N
  | 0 => by simp [fst, cnt]
  | N + 1 => by
    rw [fst_succ, List.length_append, cnt, ← fst_len mk N]
    split <;> simp
theorem fst_below (mk : Int → Int) (f : Nat) : ∀ N : Nat, f ≤ N → (((fst N mk).filter fun t => decide (t < (f : Int))).length : Int) = cnt mk f
  | 0, h => by
    have : f = 0 := by omega
    subst this; simp [fst, cnt]
  | N + 1, h => by
    rw [fst_succ, List.filter_append, List.length_append]
    by_cases hf : f ≤ N
    · rw [Int.natCast_add, fst_below mk f N hf]
      have : ¬ (N : Int) < f := by omega
      split <;> simp [this]
    · have e : f = N + 1 := by omega
      subst e
      have all : (fst N mk).filter (fun t => decide (t < ((N + 1 : Nat) : Int))) = fst N mk := List.filter_eq_self.mpr fun t ht => by
        have := fst_mem.mp ht
        exact decide_eq_true (by omega)
      rw [all, Int.natCast_add, fst_len, cnt]
      have lt : (N : Int) < ((N + 1 : Nat) : Int) := by omega
      split
      · rw [List.filter_cons, if_pos (decide_eq_true lt)]; simp
      · simp
theorem below_ok {N : Nat} (hN : N ≤ 1000) (mk : Int → Int) {f : Int} (f0 : 0 ≤ f) (f1 : f ≤ N) : g__law_below [L (fst N mk), .int f] = .ok (.int (cnt mk f.toNat)) := by
  have hlen : (fst N mk).length ≤ 1000 := by
    unfold fst
    refine Nat.le_trans (List.length_filter_le _ _) ?_
    rw [List.length_map, List.length_range]; exact hN
  have hc : fLc [2] (gIt (fVar 0)) (tName 2) (fB (f2 ltD (fVar 2) (fVar 1))) (fVar 2) [some (L (fst N mk), false), some (.int f, false), none] = .ok (((fst N mk).filter fun t => decide (t < f)).map D.int) := by
    refine lc_ok (inj := D.int) (fun t => decide (t < f)) D.int (by simp [fVar]) (by simp only [lim]; omega) fun t ht => ⟨_, rfl, ?_, fun _ => ?_⟩
    · simp [fVar, wipeE]
    · simp [fVar, wipeE]
  have := fst_below mk f.toNat N (by omega)
  rw [show ((f.toNat : Nat) : Int) = f by omega] at this
  simp only [r__law_below, b__law_below, x_ret, x_fBi, x_gCons, x_gNil, x_fL, hc, R.bind_ok, x_len, List.length_map, this, x_end_rt]
end K37
set_option maxHeartbeats 4000000
namespace K37
open PySem L2 Pc Th
abbrev Tab (m more : Int) (N : Nat) (lo hi : Int → Int) : D := .lst [.int m, .int more, L (labs N lo), L (labs (N + 1) hi)]
theorem cnt_le (mk : Int → Int) : ∀ k : Nat, 0 ≤ cnt mk k ∧ cnt mk k ≤ k
  | 0 => by simp [cnt]
  | k + 1 => by have := cnt_le mk k; rw [cnt]; split <;> omega
theorem lx0 {a : D} {xs : List D} : ixD (.lst (a :: xs)) (.int 0) = .ok a := x_ix (atI_nat (j := 0) rfl)
theorem lx1 {a b : D} {xs : List D} : ixD (.lst (a :: b :: xs)) (.int 1) = .ok b := x_ix (atI_nat (j := 1) rfl)
theorem lx2 {a b c : D} {xs : List D} : ixD (.lst (a :: b :: c :: xs)) (.int 2) = .ok c := x_ix (atI_nat (j := 2) rfl)
theorem lx3 {a b c d : D} {xs : List D} : ixD (.lst (a :: b :: c :: d :: xs)) (.int 3) = .ok d := x_ix (atI_nat (j := 3) rfl)
theorem table_ok {ps : List Int} (hps : ∀ p ∈ ps, 0 < p ∧ p ≤ 1000) {N : Nat} (hN : N < 1000) (m more : Int) : ∃ lo hi, g__law_table [L ps, .int N, .int m, .int more] = .ok (Tab m more N lo hi) ∧ Mk N lo (Cn N (· ∈ ps)) ∧ Mk (N + 1) hi (Cn (N + 1) (· ∈ ps)) := by
  obtain ⟨lo, e1, h1⟩ := closing_ok hps (N := N) (by omega)
  obtain ⟨hi, e2, h2⟩ := closing_ok hps (N := N + 1) (by omega)
  have hc0 : ((N + 1 : Nat) : Int) = (N : Int) + 1 := by omega
  refine ⟨lo, hi, ?_, h1, by rw [hc0] at h2; exact h2⟩
  have hc : ((N + 1 : Nat) : Int) = (N : Int) + 1 := by omega
  have e2' : g__law_closing [L ps, .int ((N : Int) + 1)] = .ok (L (labs (N + 1) hi)) := by rw [hc] at e2; exact e2
  have c4 : cap lim [D.int m, .int more, L (labs N lo), L (labs (N + 1) hi)] = .ok [D.int m, .int more, L (labs N lo), L (labs (N + 1) hi)] := x_cap (by simp [lim])
  simp -implicitDefEqProofs only [r__law_table, b__law_table, x_ret, x_fL, x_fLst, x_gCons, x_gNil, x_fCall, x_f2, x_fC, fVar, List.getElem?_cons_succ, List.getElem?_cons_zero, R.bind_ok, List.length_cons, List.length_nil, if_true, x_add, e1, e2', c4, x_end_rt]
section
variable {m more : Int} {N : Nat} {lo hi : Int → Int} {ps : List Int}
/-- the far word's number of classes, its numbering -/
def tot (m more : Int) (N : Nat) (lo hi : Int → Int) : Int := m * cnt lo N + more * (cnt hi (N + 1) - cnt lo N)
def num (m more : Int) (lo hi : Int → Int) (i : Int) : Int := cnt (far m more lo hi) (far m more lo hi i).toNat
theorem far_rg (hm : 0 < m) (h0 : 0 ≤ more) (h1 : more ≤ m) (hl : Mk N lo (Cn N (· ∈ ps))) (hh : Mk (N + 1) hi (Cn (N + 1) (· ∈ ps))) : RG (m * N + more) (tot m more N lo hi) (num m more lo hi) (Cn (m * N + more) (mul m (· ∈ ps))) := by
  have hmN : 0 ≤ m * (N : Int) := Int.mul_nonneg (by omega) (by omega)
  have k := (Mk.far hm h0 h1 hl hh).rg (by omega)
  have e : (m * (N : Int) + more).toNat = m.toNat * N + more.toNat := by
    have : ((m.toNat * N : Nat) : Int) = m * (N : Int) := by rw [Int.natCast_mul, show ((m.toNat : Nat) : Int) = m by omega]
    omega
  have c := cnt_far (lo := lo) (hi := hi) hm h0 h1 N more.toNat (by omega)
  rw [← e, show ((more.toNat : Nat) : Int) = more by omega, show min more more = more by omega, show max 0 (more - more) = 0 by omega] at c
  have e2 : tot m more N lo hi = cnt (far m more lo hi) (m * (N : Int) + more).toNat := by
    rw [c]
    unfold tot
    rw [cnt, Int.mul_sub, Int.mul_add, Int.sub_mul]
    split <;> simp <;> omega
  rw [e2]
  exact k
theorem total_ok (hN : N < 1000) (hm : 0 < m) (hm' : m ≤ 10 ^ 17) (h0 : 0 ≤ more) (h1 : more ≤ m) : g__law_total [Tab m more N lo hi] = .ok (.int (tot m more N lo hi)) := by
  have f1 := firsts_ok (N := N) (by omega) lo
  have g2 := firsts_ok (N := N + 1) (by omega) hi
  have c1 := cnt_le lo N
  have c2 := cnt_le hi (N + 1)
  have m1 : mulD (.int m) (.int (cnt lo N)) = .ok (.int (m * cnt lo N)) := mul64 (by omega) (by omega)
  have m2 : mulD (.int more) (.int (cnt hi (N + 1) - cnt lo N)) = .ok (.int (more * (cnt hi (N + 1) - cnt lo N))) := mul64 (by omega) (by omega)
  simp -implicitDefEqProofs only [r__law_total, b__law_total, x_seq, x_set, x_fBi, x_gCons, x_gNil, x_fCall, x_f2, x_fC, fVar, List.getElem?_cons_succ, List.getElem?_cons_zero, List.set_cons_succ, List.set_cons_zero, R.bind_ok, lx0, lx1, lx2, lx3, List.length_cons, List.length_nil, if_true, f1, g2, x_len, List.length_map, fst_len, m1, m2, x_sub, x_add, x_ret, x_end_rt]
  rfl
theorem code_ok (hN : N < 1000) (hm : 0 < m) (hm' : m ≤ 10 ^ 17) (h0 : 0 ≤ more) (h1 : more ≤ m) (hl : Mk N lo (Cn N (· ∈ ps))) (hh : Mk (N + 1) hi (Cn (N + 1) (· ∈ ps))) {pl : Int} (p0 : 0 ≤ pl) (p1 : pl < m * N + more) : g__law_code [Tab m more N lo hi, .int pl] = .ok (.int (num m more lo hi pl)) := by
  have f1 := firsts_ok (N := N) (by omega) lo
  have g2 := firsts_ok (N := N + 1) (by omega) hi
  have md : modD (.int pl) (.int m) = .ok (.int (pl % m)) := x_mod hm
  have dv : fdivD (.int pl) (.int m) = .ok (.int (pl / m)) := x_fdiv hm (by have := lg18 (Int.le_of_lt hm) (by omega); omega)
  have r0 := Int.emod_nonneg pl (show m ≠ 0 by omega)
  have r1 := Int.emod_lt_of_pos pl hm
  have dec := Int.mul_ediv_add_emod pl m
  have q0 : 0 ≤ pl / m := Int.ediv_nonneg p0 (by omega)
  have hq : pl / m < nr N more (pl % m) := by
    unfold nr
    split
    · have : m * (pl / m) < m * ((N : Int) + 1) := by rw [Int.mul_add]; omega
      exact Int.lt_of_mul_lt_mul_left this (by omega)
    · have : m * (pl / m) < m * (N : Int) := by omega
      exact Int.lt_of_mul_lt_mul_left this (by omega)
  -- the first place
  obtain ⟨f, hf, fa, fb, hx⟩ : ∃ f : Int, f = (if pl % m < more then hi (pl / m) else lo (pl / m)) ∧ 0 ≤ f ∧ f ≤ pl / m ∧ ixD (if pl % m < more then L (labs (N + 1) hi) else L (labs N lo)) (.int (pl / m)) = .ok (.int f) := by
    refine ⟨_, rfl, ?_⟩
    unfold nr at hq
    by_cases c : pl % m < more
    · rw [if_pos c] at hq ⊢
      rw [if_pos c]
      have := hh.le _ q0 hq
      exact ⟨this.1, this.2, labs_at q0 (by rw [Int.natCast_add]; exact hq)⟩
    · rw [if_neg c] at hq ⊢
      rw [if_neg c]
      have := hl.le _ q0 hq
      exact ⟨this.1, this.2, labs_at q0 hq⟩
  have fN : f ≤ N := by unfold nr at hq; split at hq <;> omega
  have b1 := below_ok (N := N) (by omega) lo fa fN
  have b2 := below_ok (N := N + 1) (by omega) hi fa (by rw [Int.natCast_add]; omega)
  have c1 := cnt_le lo f.toNat
  have c2 := cnt_le hi f.toNat
  have m1 : mulD (.int (m - more)) (.int (cnt lo f.toNat)) = .ok (.int ((m - more) * cnt lo f.toNat)) := mul64 (by omega) (by omega)
  have m2 : mulD (.int more) (.int (cnt hi f.toNat)) = .ok (.int (more * cnt hi f.toNat)) := mul64 (by omega) (by omega)
  -- the answer
  have ans : num m more lo hi pl = (m - more) * cnt lo f.toNat + more * cnt hi f.toNat + (if hi f = f then min (pl % m) more else 0) + (if f < N ∧ lo f = f then max 0 (pl % m - more) else 0) := by
    unfold num
    have e1 : far m more lo hi pl = m * f + pl % m := by unfold far; rw [hf]
    have e2 : (far m more lo hi pl).toNat = m.toNat * f.toNat + (pl % m).toNat := by
      rw [e1]
      have : ((m.toNat * f.toNat : Nat) : Int) = m * f := by rw [Int.natCast_mul, show ((m.toNat : Nat) : Int) = m by omega, show ((f.toNat : Nat) : Int) = f by omega]
      have : 0 ≤ m * f := Int.mul_nonneg (by omega) fa
      omega
    have c := cnt_far (lo := lo) (hi := hi) hm h0 h1 f.toNat (pl % m).toNat (by omega)
    rw [show ((f.toNat : Nat) : Int) = f by omega, show (((pl % m).toNat : Nat) : Int) = pl % m by omega] at c
    have key : (if lo f = f then max 0 (pl % m - more) else 0) = (if f < (N : Int) ∧ lo f = f then max 0 (pl % m - more) else 0) := by
      by_cases c3 : lo f = f
      · rw [if_pos c3]
        by_cases c4 : f < (N : Int)
        · rw [if_pos ⟨c4, c3⟩]
        · rw [if_neg (fun k => c4 k.1)]
          have : pl % m < more := by
            unfold nr at hq
            split at hq
            · assumption
            · omega
          omega
      · rw [if_neg c3, if_neg (fun k => c3 k.2)]
    rw [e2, c, key]
  have mi : (if more < pl % m then more else pl % m) = min (pl % m) more := by omega
  have ma : (if pl % m - more > 0 then pl % m - more else 0) = max 0 (pl % m - more) := by omega
  have d1 : decide (f ∈ fst (N + 1) hi) = decide (hi f = f) := by
    refine decide_eq_decide.mpr (fst_mem.trans ⟨fun k => k.2, fun k => ⟨⟨fa, ?_⟩, k⟩⟩)
    have : ((N + 1 : Nat) : Int) = (N : Int) + 1 := by omega
    omega
  have d2 : decide (f ∈ fst N lo) = decide (f < N ∧ lo f = f) := by
    refine decide_eq_decide.mpr (fst_mem.trans ⟨fun k => ⟨k.1.2, k.2⟩, fun k => ⟨⟨fa, k.1⟩, k.2⟩⟩)
  rw [ans]
  -- the marks
  have hM : (sIf (fB (f2 ltD (fVar 4) (fVar 3))) (sSet 5 (f2 ixD (fVar 0) (fC (.int 3)))) sNx) [some (Tab m more N lo hi, false), some (.int pl, false), some (.int m, false), some (.int more, false), some (.int (pl % m), false), some (L (labs N lo), false), none, none, none, none]
      = .ok (.nx [some (Tab m more N lo hi, false), some (.int pl, false), some (.int m, false), some (.int more, false), some (.int (pl % m), false), some (if pl % m < more then L (labs (N + 1) hi) else L (labs N lo), false), none, none, none, none]) := by
    by_cases c : pl % m < more
    · simp -implicitDefEqProofs only [x_if, x_fB, x_f2, x_fC, fVar, List.getElem?_cons_succ, List.getElem?_cons_zero, R.bind_ok, x_lt, x_toB, c, decide_true, if_true, x_set, lx3, List.set_cons_succ, List.set_cons_zero]
    · simp -implicitDefEqProofs only [x_if, x_fB, x_f2, x_fC, fVar, List.getElem?_cons_succ, List.getElem?_cons_zero, R.bind_ok, x_lt, x_toB, c, decide_false, Bool.false_eq_true, if_false, x_nx]
  by_cases e1 : hi f = f <;> by_cases e2 : f < (N : Int) ∧ lo f = f
  · have d1' := d1.trans (decide_eq_true e1)
    have d2' := d2.trans (decide_eq_true e2)
    rw [if_pos e1, if_pos e2]
    simp -implicitDefEqProofs only [r__law_code, b__law_code, x_seq, x_set, x_f2, x_fBi, x_gCons, x_gNil, x_fC, x_fCall, fVar, List.getElem?_cons_succ, List.getElem?_cons_zero, List.set_cons_succ, List.set_cons_zero, R.bind_ok, lx0, lx1, lx2, lx3, x_int, md, hM, dv, hx, List.length_cons, List.length_nil, if_true, f1, g2, x_sub, b1, b2, m1, m2, x_add, x_if (c := fB (f2 inD _ _)), x_fB, x_in, x_toB, d1', d2', x_min2, x_max2, mi, ma, x_ret, x_end_rt]
  · have d1' := d1.trans (decide_eq_true e1)
    have d2' := d2.trans (decide_eq_false e2)
    rw [if_pos e1, if_neg e2, Int.add_zero]
    simp -implicitDefEqProofs only [r__law_code, b__law_code, x_seq, x_set, x_f2, x_fBi, x_gCons, x_gNil, x_fC, x_fCall, fVar, List.getElem?_cons_succ, List.getElem?_cons_zero, List.set_cons_succ, List.set_cons_zero, R.bind_ok, lx0, lx1, lx2, lx3, x_int, md, hM, dv, hx, List.length_cons, List.length_nil, if_true, f1, g2, x_sub, b1, b2, m1, m2, x_add, x_if (c := fB (f2 inD _ _)), x_fB, x_in, x_toB, d1', d2', Bool.false_eq_true, if_false, x_nx, x_min2, x_max2, mi, ma, x_ret, x_end_rt]
  · have d1' := d1.trans (decide_eq_false e1)
    have d2' := d2.trans (decide_eq_true e2)
    rw [if_neg e1, if_pos e2, Int.add_zero]
    simp -implicitDefEqProofs only [r__law_code, b__law_code, x_seq, x_set, x_f2, x_fBi, x_gCons, x_gNil, x_fC, x_fCall, fVar, List.getElem?_cons_succ, List.getElem?_cons_zero, List.set_cons_succ, List.set_cons_zero, R.bind_ok, lx0, lx1, lx2, lx3, x_int, md, hM, dv, hx, List.length_cons, List.length_nil, if_true, f1, g2, x_sub, b1, b2, m1, m2, x_add, x_if (c := fB (f2 inD _ _)), x_fB, x_in, x_toB, d1', d2', Bool.false_eq_true, if_false, x_nx, x_min2, x_max2, mi, ma, x_ret, x_end_rt]
  · have d1' := d1.trans (decide_eq_false e1)
    have d2' := d2.trans (decide_eq_false e2)
    rw [if_neg e1, if_neg e2, Int.add_zero, Int.add_zero]
    simp -implicitDefEqProofs only [r__law_code, b__law_code, x_seq, x_set, x_f2, x_fBi, x_gCons, x_gNil, x_fC, x_fCall, fVar, List.getElem?_cons_succ, List.getElem?_cons_zero, List.set_cons_succ, List.set_cons_zero, R.bind_ok, lx0, lx1, lx2, lx3, x_int, md, hM, dv, hx, List.length_cons, List.length_nil, if_true, f1, g2, x_sub, b1, b2, m1, m2, x_add, x_if (c := fB (f2 inD _ _)), x_fB, x_in, x_toB, d1', d2', Bool.false_eq_true, if_false, x_nx, x_min2, x_max2, mi, ma, x_ret, x_end_rt]
/-! ### _law_class -/
abbrev Stp := Int × Int × Int
def stD (s : Stp) : D := .lst [.int s.1, .int s.2.1, .int s.2.2]
def nuR (ν : Int → Int) : List Stp → Int → Int
  | [], i => ν i
  | (p, s, c) :: r, i => if i % p < s then nuR ν r (i % p) else c + (i % p - s)
/-- the lengths fit -/
def Ch (n0 : Int) : List Stp → Int → Prop
  | [], n => n = n0
  | (p, s, _) :: r, _ => 0 < p ∧ Ch n0 r s
theorem class_ok (hN : N < 1000) (hm : 0 < m) (hm' : m ≤ 10 ^ 17) (h0 : 0 ≤ more) (h1 : more ≤ m) (hl : Mk N lo (Cn N (· ∈ ps))) (hh : Mk (N + 1) hi (Cn (N + 1) (· ∈ ps))) (st : List Stp) {n pl : Int} (p0 : 0 ≤ pl) (p1 : pl < n) (hc : Ch (m * N + more) st.reverse n) :
    g__law_class [Tab m more N lo hi, .lst (st.map stD), .int pl] = .ok (.int (nuR (num m more lo hi) st.reverse pl)) := by
  have go : ∀ (rs : List Stp) (n left : Int) (x : Option (D × Bool)), Ch (m * N + more) rs n → 0 ≤ left → left < n →
      (forGo (tName 4) b__law_class_1 (rs.map stD) [some (Tab m more N lo hi, false), some (.lst (st.map stD), false), some (.int pl, false), some (.int left, false), x]).bind (fun o => match o with
        | .nx ρ' => sRet (fCall 2 g__law_code (gCons (fVar 0) (gCons (fVar 3) (gNil)))) ρ'
        | o => .ok o) = .ok (.rt (.int (nuR (num m more lo hi) rs left))) := fun rs => by
    induction rs with
    | nil =>
      intro n left x hc l0 l1
      have hc' : n = m * N + more := hc
      subst hc'
      have := code_ok hN hm hm' h0 h1 hl hh l0 l1
      simp only [List.map_nil, forGo, R.bind_ok, x_ret, x_fCall, x_gCons, x_gNil, fVar, List.getElem?_cons_succ, List.getElem?_cons_zero, List.length_cons, List.length_nil, if_true, this]
      rfl
    | cons s rs ih =>
      obtain ⟨p, sz, c⟩ := s
      intro n left x hc l0 l1
      obtain ⟨hp, hc'⟩ := hc
      have md : modD (.int left) (.int p) = .ok (.int (left % p)) := x_mod hp
      have r0 := Int.emod_nonneg left (show p ≠ 0 by omega)
      rw [List.map_cons]
      unfold forGo
      dsimp only [tName]
      by_cases k : sz ≤ left % p
      · have body : b__law_class_1 ([some (Tab m more N lo hi, false), some (.lst (st.map stD), false), some (.int pl, false), some (.int left, false), x].set 4 (some (stD (p, sz, c), false))) = .ok (.rt (.int (c + (left % p - sz)))) := by
          rw [show c + (left % p - sz) = c + left % p - sz by omega]
          simp -implicitDefEqProofs only [b__law_class_1, stD, x_seq, x_set, x_f2, x_fBi, x_gCons, x_gNil, x_fC, fVar, List.set_cons_succ, List.set_cons_zero, List.getElem?_cons_succ, List.getElem?_cons_zero, R.bind_ok, x_int, lx0, lx1, lx2, md, x_if, x_fB, x_ge, x_toB, k, decide_true, if_true, x_ret, x_add, x_sub]
        rw [body]
        show R.ok (O.rt (D.int (c + (left % p - sz)))) = R.ok (O.rt (D.int (if left % p < sz then nuR _ rs (left % p) else c + (left % p - sz))))
        rw [if_neg (by omega)]
      · have body : b__law_class_1 ([some (Tab m more N lo hi, false), some (.lst (st.map stD), false), some (.int pl, false), some (.int left, false), x].set 4 (some (stD (p, sz, c), false))) = .ok (.nx [some (Tab m more N lo hi, false), some (.lst (st.map stD), false), some (.int pl, false), some (.int (left % p), false), some (stD (p, sz, c), false)]) := by
          simp -implicitDefEqProofs only [b__law_class_1, stD, x_seq, x_set, x_f2, x_fBi, x_gCons, x_gNil, x_fC, fVar, List.set_cons_succ, List.set_cons_zero, List.getElem?_cons_succ, List.getElem?_cons_zero, R.bind_ok, x_int, lx0, lx1, lx2, md, x_if, x_fB, x_ge, x_toB, k, decide_false, Bool.false_eq_true, if_false, x_nx]
        rw [body]
        have := ih sz (left % p) (some (stD (p, sz, c), false)) hc' r0 (by omega)
        show (forGo (tName 4) b__law_class_1 (rs.map stD) _).bind _ = R.ok (O.rt (D.int (if left % p < sz then nuR _ rs (left % p) else c + (left % p - sz))))
        rw [if_pos (by omega)]
        exact this
  have := go st.reverse n pl none hc p0 p1
  rw [List.map_reverse] at this
  rw [r__law_class]
  have e : b__law_class [some (Tab m more N lo hi, false), some (.lst (st.map stD), false), some (.int pl, false), none, none] = (forGo (tName 4) b__law_class_1 (st.map stD).reverse [some (Tab m more N lo hi, false), some (.lst (st.map stD), false), some (.int pl, false), some (.int pl, false), none]).bind (fun o => match o with
        | .nx ρ' => sRet (fCall 2 g__law_code (gCons (fVar 0) (gCons (fVar 3) (gNil)))) ρ'
        | o => .ok o) := rfl
  rw [e, this]
  rfl
end
end K37
set_option maxHeartbeats 4000000
namespace K37
open PySem L2 Pc Th
/-! ### _law_places -/
theorem places_ok {n : Int} (n0 : 0 ≤ n) (n1 : n ≤ 10 ^ 18) {row : List Int} (hr : row.length ≤ 20) : ∃ pls : List Int, g__law_places [.int n, L row] = .ok (L pls) ∧ ∀ x ∈ pls, 0 ≤ x ∧ x < n := by
  by_cases c : n ≤ 60
  · refine ⟨(List.range (n - 0).toNat).map fun (i : Nat) => (0 : Int) + (i : Int), ?_, fun x hx => ?_⟩
    · have r1 : rngL [.int n] = .ok (rangeL 0 n) := x_rngL n0 (by omega)
      rw [rangeL_eq] at r1
      simp -implicitDefEqProofs only [r__law_places, b__law_places, x_seq, x_if, x_fB, x_f2, x_fC, fVar, List.getElem?_cons_succ, List.getElem?_cons_zero, R.bind_ok, x_le, c, decide_true, x_toB, if_true, x_ret, x_fL, x_fBi, x_gCons, x_gNil, r1, x_end_rt]
    · obtain ⟨i, hi, rfl⟩ := List.mem_map.mp hx
      have := List.mem_range.mp hi
      omega
  · have hn : 0 < n := by omega
    obtain ⟨ρ', e1, pls, x, hρ, hm, hl⟩ := for_name (i := 3) (body := b__law_places_1) (ds := row.map D.int) (ρ := [some (.int n, false), some (L row, false), some (L [0, 1, n - 1, n / 2], true), none])
      (fun j ρ => ∃ (pls : List Int) (x : Option (D × Bool)), ρ = [some (.int n, false), some (L row, false), some (L pls, true), x] ∧ (∀ y ∈ pls, 0 ≤ y ∧ y < n) ∧ pls.length = 4 + 2 * j)
      ⟨[0, 1, n - 1, n / 2], none, rfl, fun y hy => by
        simp only [List.mem_cons, List.not_mem_nil, or_false] at hy
        omega, rfl⟩ fun j dd ρ hj hρ => by
        obtain ⟨pls, x, hρ, hm, hl⟩ := hρ
        obtain ⟨d, hd, rfl⟩ := map_get hj
        have hjl : j < row.length := (List.getElem?_eq_some_iff.mp hd).1
        subst hρ
        have m1 : modD (.int d) (.int n) = .ok (.int (d % n)) := x_mod hn
        have m2 : modD (.int d) (.int 60) = .ok (.int (d % 60)) := x_mod (by decide)
        have l1 : (pls.map D.int).length < lim := by rw [List.length_map]; simp only [lim]; omega
        have l2 : ((pls ++ [d % n]).map D.int).length < lim := by rw [List.length_map, List.length_append]; simp only [lim, List.length_cons, List.length_nil]; omega
        have a1 : pls.map D.int ++ [.int (d % n)] = (pls ++ [d % n]).map D.int := by simp
        have a2 : (pls ++ [d % n]).map D.int ++ [.int (d % 60)] = (pls ++ [d % n] ++ [d % 60]).map D.int := by simp
        refine ⟨[some (.int n, false), some (L row, false), some (L (pls ++ [d % n] ++ [d % 60]), true), some (.int d, false)], ?_, pls ++ [d % n] ++ [d % 60], some (.int d, false), rfl, fun y hy => ?_, ?_⟩
        · simp only [b__law_places_1, x_seq, x_app, fOwn, x_f2, x_fBi, x_gCons, x_gNil, x_fC, fVar, List.set_cons_succ, List.set_cons_zero, List.getElem?_cons_succ, List.getElem?_cons_zero, R.bind_ok, x_int, m1, m2, if_pos l1, a1, if_pos l2, a2]
        · have q1 := Int.emod_nonneg d (show n ≠ 0 by omega)
          have q2 := Int.emod_lt_of_pos d hn
          have q3 := Int.emod_nonneg d (show (60 : Int) ≠ 0 by decide)
          have q4 := Int.emod_lt_of_pos d (show (0 : Int) < 60 by decide)
          simp only [List.mem_append, List.mem_singleton] at hy
          rcases hy with (hy | rfl) | rfl
          · exact hm y hy
          · exact ⟨q1, q2⟩
          · exact ⟨q3, by omega⟩
        · simp only [List.length_append, List.length_cons, List.length_nil]; omega
    subst hρ
    refine ⟨pls, ?_, hm⟩
    have c4 : cap lim [D.int 0, .int 1, .int (n - 1), .int (n / 2)] = .ok [D.int 0, .int 1, .int (n - 1), .int (n / 2)] := x_cap (by simp [lim])
    have lg2 := lg18 (i := 2) (by omega) (by omega)
    have dv : fdivD (.int n) (.int 2) = .ok (.int (n / 2)) := x_fdiv (by decide) (by omega)
    have hfr : frz1 [some (.int n, false), some (L row, false), some (L pls, true), x] 2 = [some (.int n, false), some (L row, false), some (L pls, false), x] := frz1_own rfl
    have e1' : forGo (tName 3) b__law_places_1 (row.map D.int) [some (.int n, false), some (L row, false), some (.lst [D.int 0, .int 1, .int (n - 1), .int (n / 2)], true), none] = _ := e1
    simp -implicitDefEqProofs only [r__law_places, b__law_places, x_seq, x_if, x_fB, x_f2, x_fC, fVar, List.getElem?_cons_succ, List.getElem?_cons_zero, R.bind_ok, x_le, c, decide_false, x_toB, Bool.false_eq_true, if_false, x_nx, x_own, x_fLst, x_gCons, x_gNil, x_sub, dv, c4, List.set_cons_succ, List.set_cons_zero, x_for, x_gIt, x_itD, e1', x_frz, x_frz1, x_frz0, hfr, x_ret, x_end_rt]
/-! ### _law_asked -/
theorem asked_ok {m more : Int} {N : Nat} {lo hi : Int → Int} {pw : List Int} (hN : N < 1000) (hm : 0 < m) (hm' : m ≤ 10 ^ 17) (h0 : 0 ≤ more) (h1 : more ≤ m) (hl : Mk N lo (Cn N (· ∈ pw))) (hh : Mk (N + 1) hi (Cn (N + 1) (· ∈ pw)))
    {ps row : List Int} {d : D} {n c : Int} {st : List Stp} (s : Seq ps d) (g : Gp ps) (n0 : 0 ≤ n) (n1 : n ≤ 10 ^ 18) (hr : row.length ≤ 20) (hc : Ch (m * N + more) st.reverse n) (r : RG n c (nuR (num m more lo hi) st.reverse) (Cn n (· ∈ ps))) :
    g__law_asked [d, .int n, .int c, Tab m more N lo hi, .lst (st.map stD), L row] = .ok (.bl true) := by
  have e1 := count_ok s g n0 n1 r
  obtain ⟨pls, e2, hp⟩ := places_ok n0 n1 hr
  have nn : g__law_number [.int c, .int c] = .ok (.bl true) := by rw [number_ok, decide_eq_true rfl]
  obtain ⟨ρ', e3, x, y, hρ⟩ := for_name (i := 6) (body := b__law_asked_1) (ds := pls.map D.int) (ρ := [some (d, false), some (.int n, false), some (.int c, false), some (Tab m more N lo hi, false), some (.lst (st.map stD), false), some (L row, false), none, none])
    (fun j ρ => ∃ x y, ρ = [some (d, false), some (.int n, false), some (.int c, false), some (Tab m more N lo hi, false), some (.lst (st.map stD), false), some (L row, false), x, y]) ⟨none, none, rfl⟩ fun j dd ρ hj hρ => by
      obtain ⟨x, y, hρ⟩ := hρ
      obtain ⟨pl, hpl, rfl⟩ := map_get hj
      subst hρ
      have hb := hp pl (List.mem_of_getElem? hpl)
      have k1 := class_ok hN hm hm' h0 h1 hl hh st hb.1 hb.2 hc
      have k2 := of_ok s g hb.1 hb.2 n1 r
      have nn2 : g__law_number [.int (nuR (num m more lo hi) st.reverse pl), .int (nuR (num m more lo hi) st.reverse pl)] = .ok (.bl true) := by rw [number_ok, decide_eq_true rfl]
      refine ⟨[some (d, false), some (.int n, false), some (.int c, false), some (Tab m more N lo hi, false), some (.lst (st.map stD), false), some (L row, false), some (.int pl, false), some (.int (nuR (num m more lo hi) st.reverse pl), false)], ?_, some (.int pl, false), some (.int (nuR (num m more lo hi) st.reverse pl), false), rfl⟩
      simp -implicitDefEqProofs only [b__law_asked_1, x_seq, x_set, x_fCall, x_gCons, x_gNil, fVar, List.set_cons_succ, List.set_cons_zero, List.getElem?_cons_succ, List.getElem?_cons_zero, R.bind_ok, List.length_cons, List.length_nil, if_true, k1, k2, nn2, x_if, x_gNot, x_fTru, x_truB, Bool.not_true, Bool.false_eq_true, if_false, x_nx]
  subst hρ
  have kw : ∀ ρ : En, ρ[0]? = some (some (d, false)) → ρ[1]? = some (some (.int n, false)) → fCallK 0 2 2 g_class_count [1, 0] (gNil) (gCons (fVar 1) (gCons (fVar 0) (gNil))) ρ = .ok (.int c) := fun ρ q0 q1 => by
    unfold fCallK
    simp only [x_gNil, R.bind_ok, x_gCons, fVar_at q0, fVar_at q1]
    show (if (_ ∧ _) ∧ _ then g_class_count [d, .int n] else _) = _
    rw [if_pos ⟨⟨rfl, rfl⟩, rfl⟩]
    exact e1
  simp -implicitDefEqProofs only [r__law_asked, b__law_asked, x_seq, x_if, x_gNot, x_fTru, x_fCall, x_gCons, x_gNil, fVar, List.getElem?_cons_succ, List.getElem?_cons_zero, R.bind_ok, List.length_cons, List.length_nil, if_true, e1, nn, x_truB, Bool.not_true, Bool.false_eq_true, if_false, x_nx, x_for, x_gIt, e2, x_itD, e3, x_ret, kw [some (d, false), some (.int n, false), some (.int c, false), some (Tab m more N lo hi, false), some (.lst (st.map stD), false), some (L row, false), x, y] rfl rfl, x_end_rt]
end K37
set_option maxHeartbeats 4000000
namespace K37
open PySem L2 Pc Th
/-! ### the numbering led on -/
theorem rg_led {n c p : Int} {ν : Int → Int} {S O : Int → Prop} (hp : 0 < p) (hS : ∀ x, S x ↔ x = p ∨ O x) (hO : ∀ y, O y → 0 < y) (n0 : 0 ≤ n) (r : RG n c ν (Cn n S)) : ∀ m : Nat,
    RG (n + (m + 1) * p) (c + max 0 (p - n)) (fun i => if i % p < n then ν (i % p) else c + (i % p - n)) (Cn (n + (m + 1) * p) fun x => x = p ∨ ∃ y, O y ∧ x = y + (m + 1) * p)
  | 0 => by
    have e : ((0 : Nat) : Int) + 1 = 1 := by omega
    rw [e, Int.one_mul]
    refine RG.step (b := n) (S := fun x => x = p ∨ ∃ y, O y ∧ x = y + p) hp (.inl rfl) (fun q hq => ?_) n0 rfl (r.set fun x => ?_)
    · rcases hq with rfl | ⟨y, hy, rfl⟩
      · exact Int.le_refl _
      · have := hO y hy; omega
    · unfold cut
      rw [hS]
      constructor
      · rintro (k | k)
        · exact .inl k
        · exact .inr ⟨.inr ⟨x, k, rfl⟩, hO x k⟩
      · rintro (k | ⟨k | ⟨y, hy, k⟩, k2⟩)
        · exact .inl k
        · omega
        · have : x = y := by omega
          subst this; exact .inr hy
  | m + 1 => by
    have ih := rg_led hp hS hO n0 r m
    have hmp : 0 ≤ (m : Int) * p := Int.mul_nonneg (by omega) (by omega)
    have e1 : (((m + 1 : Nat) : Int) + 1) * p = ((m : Int) + 1) * p + p := by
      rw [Int.natCast_add, Int.add_mul (((m : Int) + ((1 : Nat) : Int))) 1 p]; simp
    have e2 : ((m : Int) + 1) * p = (m : Int) * p + p := by rw [Int.add_mul]; simp
    have st := RG.step (n := n + (((m + 1 : Nat) : Int) + 1) * p) (b := n + ((m : Int) + 1) * p) (S := fun x => x = p ∨ ∃ y, O y ∧ x = y + (((m + 1 : Nat) : Int) + 1) * p) hp (.inl rfl) (fun q hq => by
      rcases hq with rfl | ⟨y, hy, rfl⟩
      · exact Int.le_refl _
      · have := hO y hy; omega) (by omega) (by omega) (ih.set fun x => by
      unfold cut
      constructor
      · rintro (k | ⟨y, hy, k⟩)
        · exact .inl k
        · exact .inr ⟨.inr ⟨y, hy, by omega⟩, by have := hO y hy; omega⟩
      · rintro (k | ⟨k | ⟨y, hy, k⟩, k2⟩)
        · exact .inl k
        · omega
        · exact .inr ⟨y, hy, by omega⟩)
    rw [show max 0 (p - (n + ((m : Int) + 1) * p)) = 0 by omega, Int.add_zero] at st
    refine st.fn fun i i0 i1 => ?_
    have a := Int.emod_nonneg i (show p ≠ 0 by omega)
    have b := Int.emod_lt_of_pos i hp
    show (if i % p < n + ((m : Int) + 1) * p then (if i % p % p < n then ν (i % p % p) else c + (i % p % p - n)) else _) = if i % p < n then ν (i % p) else c + (i % p - n)
    rw [if_pos (by omega), Int.emod_eq_of_lt a b]
/-! ### _law_led_on -/
theorem led_mem {ps : List Int} {p c x : Int} {i : Nat} (hi : ps[i]? = some p) : x ∈ (ps.map (· + c)).set i p ↔ x = p ∨ ∃ y, (∃ k, k ≠ i ∧ ps[k]? = some y) ∧ x = y + c := by
  have hlt : i < ps.length := (List.getElem?_eq_some_iff.mp hi).1
  rw [List.mem_iff_getElem?]
  constructor
  · rintro ⟨k, hk⟩
    rw [List.getElem?_set] at hk
    by_cases c1 : i = k
    · rw [if_pos c1] at hk
      split at hk
      · exact .inl (Option.some.inj hk).symm
      · cases hk
    · rw [if_neg c1, List.getElem?_map, Option.map_eq_some_iff] at hk
      obtain ⟨y, hy, rfl⟩ := hk
      exact .inr ⟨y, ⟨k, fun e => c1 e.symm, hy⟩, rfl⟩
  · rintro (rfl | ⟨y, ⟨k, hk, hy⟩, rfl⟩)
    · exact ⟨i, by rw [List.getElem?_set, if_pos rfl, if_pos (by rw [List.length_map]; exact hlt)]⟩
    · exact ⟨k, by rw [List.getElem?_set, if_neg (fun e => hk e.symm), List.getElem?_map, hy]; rfl⟩
theorem mem_split {ps : List Int} {p x : Int} {i : Nat} (hi : ps[i]? = some p) : x ∈ ps ↔ x = p ∨ ∃ k, k ≠ i ∧ ps[k]? = some x := by
  rw [List.mem_iff_getElem?]
  constructor
  · rintro ⟨k, hk⟩
    by_cases c : k = i
    · subst c; rw [hi] at hk; exact .inl (Option.some.inj hk).symm
    · exact .inr ⟨k, c, hk⟩
  · rintro (rfl | ⟨k, _, hk⟩)
    · exact ⟨i, hi⟩
    · exact ⟨k, hk⟩
/-- what is known of rows led on -/
structure Led (n0 : Int) (ν : Int → Int) (rows : List Int) (size count : Int) (st : List Stp) : Prop where
  g : Gp rows
  s0 : 0 ≤ size
  s1 : size ≤ 10 ^ 18
  ch : Ch n0 st.reverse size
  rg : RG size count (nuR ν st.reverse) (Cn size (· ∈ rows))
theorem Led.next {n0 : Int} {ν : Int → Int} {rows : List Int} {size count p m : Int} {st : List Stp} {i : Nat} (h : Led n0 ν rows size count st) (hi : rows[i]? = some p) (hm : 1 ≤ m) (hb : ∀ q ∈ rows, q + m * p ≤ 10 ^ 18) (hs : size + m * p ≤ 10 ^ 18) :
    Led n0 ν ((rows.map (· + m * p)).set i p) (size + m * p) (count + max 0 (p - size)) (st ++ [(p, size, count)]) := by
  have hpm : p ∈ rows := List.mem_of_getElem? hi
  have hp := h.g.bd p hpm
  have s0 := h.s0
  have hnp : 0 ≤ m * p := Int.mul_nonneg (by omega) (by omega)
  refine ⟨⟨fun e => ?_, by rw [List.length_set, List.length_map]; exact h.g.few, fun x hx => ?_⟩, by omega, hs, ?_, ?_⟩
  · have : p ∈ (rows.map (· + m * p)).set i p := (led_mem hi).mpr (.inl rfl)
    rw [e] at this; cases this
  · rcases (led_mem hi).mp hx with rfl | ⟨y, ⟨k, _, hy⟩, rfl⟩
    · exact hp
    · have hym := List.mem_of_getElem? hy
      have := hb y hym; have := h.g.bd y hym
      omega
  · rw [List.reverse_append]
    exact ⟨by omega, h.ch⟩
  · have := rg_led (p := p) (S := (· ∈ rows)) (O := fun y => ∃ k, k ≠ i ∧ rows[k]? = some y) (by omega) (fun x => mem_split hi) (fun y ⟨k, _, hy⟩ => by have := h.g.bd y (List.mem_of_getElem? hy); omega) s0 h.rg (m.toNat - 1)
    rw [show (((m.toNat - 1 : Nat) : Int) + 1) = m by omega] at this
    rw [List.reverse_append]
    exact this.set fun x => (led_mem hi).symm
end K37
set_option maxHeartbeats 4000000
namespace K37
open PySem L2 Pc Th
abbrev lE (cells ps : List Int) (n t r : Int) (rows : List Int) (size count : Int) (st : List Stp) (o : Bool) (a b c d e f : Option (D × Bool)) : En :=
  [some (L cells, false), some (L ps, false), some (.int n, false), some (.int t, false), some (.int r, false), some (L rows, o), some (.int size, false), some (.int count, false), some (.lst (st.map stD), o), a, b, c, d, e, f]
abbrev lE2 (cells ps : List Int) (n t r : Int) (rows : List Int) (size count : Int) (st : List Stp) (o : Bool) (a b c d e f : Option (D × Bool)) : En :=
  [some (L cells, false), some (L ps, false), some (.int n, false), some (.int t, false), some (.int r, false), some (L rows, o), some (.int size, false), some (.int count, false), some (.lst (st.map stD), true), a, b, c, d, e, f]
theorem led_step {n0 : Int} {ν : Int → Int} {cells ps rows : List Int} {n t r size count : Int} {st : List Stp} (h : Led n0 ν rows size count st) (hst : st.length < 100) (k : Nat) (hk : k < 10) (b c d e f : Option (D × Bool)) :
    ∃ rows' size' count' st' b' c' d' e' f', b__law_led_on_1 (lE cells ps n t r rows size count st true (some (.int k, false)) b c d e f) = .ok (.nx (lE cells ps n t r rows' size' count' st' true (some (.int k, false)) b' c' d' e' f')) ∧ Led n0 ν rows' size' count' st' ∧ rows'.length = rows.length ∧ st'.length ≤ st.length + 1 := by
  have hlen0 : 0 < (rows.length : Int) := by
    have := List.length_pos_iff.mpr h.g.ne
    omega
  have few := h.g.few
  have s0 := h.s0
  have s1 := h.s1
  obtain ⟨row, d1, hrow⟩ := dig_ok (cells := cells) (place := 10 + (k : Int)) (sizes := [(rows.length : Int), 2, 1000000000, 1000000000]) (by omega) (by omega) (by
    intro s hs
    simp only [List.mem_cons, List.not_mem_nil, or_false] at hs
    omega) (by simp)
  obtain ⟨r0, r1, r2, r3, rfl, a0, b0, a1, b1, a2, b2, a3, b3⟩ : ∃ r0 r1 r2 r3 : Int, row = [r0, r1, r2, r3] ∧ 0 ≤ r0 ∧ r0 < rows.length ∧ 0 ≤ r1 ∧ r1 < 2 ∧ 0 ≤ r2 ∧ r2 < 1000000000 ∧ 0 ≤ r3 ∧ r3 < 1000000000 := by
    cases hrow with | cons a0 b0 hrow => cases hrow with | cons a1 b1 hrow => cases hrow with | cons a2 b2 hrow => cases hrow with | cons a3 b3 hrow => cases hrow with | nil =>
    exact ⟨_, _, _, _, rfl, a0, b0, a1, b1, a2, b2, a3, b3⟩
  have d1' : g__law_dig [L cells, .int (10 + (k : Int)), .lst [D.int (rows.length : Int), .int 2, .int 1000000000, .int 1000000000]] = .ok (L [r0, r1, r2, r3]) := d1
  have c4 : cap lim [D.int (rows.length : Int), .int 2, .int 1000000000, .int 1000000000] = .ok [D.int (rows.length : Int), .int 2, .int 1000000000, .int 1000000000] := x_cap (by simp [lim])
  obtain ⟨p, hpm, hpg, hpx⟩ := at_int a0 b0
  have hp := h.g.bd p hpm
  have c1 : cap lim [D.int size] = .ok [.int size] := x_cap (by simp [lim])
  have ad : addD (L rows) (.lst [.int size]) = .ok (L (rows ++ [size])) := by
    rw [x_addL, if_pos (by rw [List.length_map]; simp only [lim, List.length_cons, List.length_nil]; omega)]; simp
  have mx : maxD [L (rows ++ [size])] = .ok (.int (maxL (rows ++ [size]))) := x_max (by simp)
  have hms := le_maxL (ns := rows ++ [size]) (y := size) (by simp)
  have hmr : ∀ q ∈ rows, q ≤ maxL (rows ++ [size]) := fun q hq => le_maxL (by simp [hq])
  have hmb : maxL (rows ++ [size]) ≤ 10 ^ 18 := by
    have := maxL_mem (ns := rows ++ [size]) (by simp)
    rw [List.mem_append, List.mem_singleton] at this
    rcases this with k | k
    · exact (h.g.bd _ k).2
    · omega
  have hlog := @lg p (by omega)
  have f1 : fdivD (.int (1000000000000000000 - maxL (rows ++ [size]))) (.int p) = .ok (.int ((1000000000000000000 - maxL (rows ++ [size])) / p)) := x_fdiv (by omega) (by omega)
  obtain ⟨room, hroom⟩ : ∃ room : Int, room = (1000000000000000000 - maxL (rows ++ [size])) / p := ⟨_, rfl⟩
  rw [← hroom] at f1
  have hr1 : room * p ≤ 1000000000000000000 - maxL (rows ++ [size]) := by rw [hroom]; exact Int.ediv_mul_le _ (by omega)
  have hr2 : room ≤ 1000000000000000000 := by rw [hroom]; have := Int.ediv_le_self p (show 0 ≤ 1000000000000000000 - maxL (rows ++ [size]) by omega); omega
  by_cases u : 0 < room
  · have m2 : mulD (.int r2) (.int 1000000000) = .ok (.int (r2 * 1000000000)) := mul64 (by omega) (by omega)
    have q1 : modD (.int (r2 * 1000000000 + r3)) (.int room) = .ok (.int ((r2 * 1000000000 + r3) % room)) := x_mod u
    have v1 := Int.emod_nonneg (r2 * 1000000000 + r3) (show room ≠ 0 by omega)
    have v2 := Int.emod_lt_of_pos (r2 * 1000000000 + r3) u
    have q2 : modD (.int r2) (.int (if 3 < room then 3 else room)) = .ok (.int (r2 % (if 3 < room then 3 else room))) := x_mod (by split <;> omega)
    have v3 := Int.emod_nonneg r2 (show (if 3 < room then (3 : Int) else room) ≠ 0 by split <;> omega)
    have v4 := Int.emod_lt_of_pos r2 (show 0 < (if 3 < room then (3 : Int) else room) by split <;> omega)
    have rest : ∀ m : Int, 1 ≤ m → m ≤ room → ∃ rows' size' count' st' f', ((sSeq (sApp 8 (fL (fLst (gCons (fVar 11) (gCons (fVar 6) (gCons (fVar 7) (gNil))))))) (
  sSeq (sSet 7 (f2 addD (fVar 7) (fBi maxD (gCons (fC (.int 0)) (gCons (f2 subD (fVar 11) (fVar 6)) (gNil)))))) (
  sSeq (sSet 6 (f2 addD (fVar 6) (f2 mulD (fVar 13) (fVar 11)))) (
  sSeq (sFrz [5] (sOwn 5 (fLc [14] (gIt (fVar 5)) (tName 14) (gYes) (f2 addD (fVar 14) (f2 mulD (fVar 13) (fVar 11)))))) (
  sPut 5 (fVar 11) (f2 ixD (fVar 10) (fC (.int 0))))))))
        (lE cells ps n t r rows size count st true (some (.int k, false)) (some (L [r0, r1, r2, r3], false)) (some (.int p, false)) (some (.int room, false)) (some (.int m, false)) f)) = .ok (.nx (lE cells ps n t r rows' size' count' st' true (some (.int k, false)) (some (L [r0, r1, r2, r3], false)) (some (.int p, false)) (some (.int room, false)) (some (.int m, false)) f')) ∧ Led n0 ν rows' size' count' st' ∧ rows'.length = rows.length ∧ st'.length ≤ st.length + 1 := fun m n1 n2 => by
      have hnp := Int.mul_le_mul_of_nonneg_right n2 (show 0 ≤ p by omega)
      have hm : mulD (.int m) (.int p) = .ok (.int (m * p)) := mul64 (by omega) (by omega)
      have hpd := h.next (m := m) hpg n1 (fun q hq => by have := hmr q hq; omega) (by omega)
      have hc : fLc [14] (gIt (fVar 5)) (tName 14) (gYes) (f2 addD (fVar 14) (f2 mulD (fVar 13) (fVar 11))) (lE2 cells ps n t r rows (size + m * p) (count + max 0 (p - size)) (st ++ [(p, size, count)]) false (some (.int k, false)) (some (L [r0, r1, r2, r3], false)) (some (.int p, false)) (some (.int room, false)) (some (.int m, false)) f)
          = .ok (rows.map fun q => D.int (q + m * p)) := by
        refine lc_all (inj := D.int) (fun q => D.int (q + m * p)) (by simp [fVar]) (by simp only [lim]; omega) fun q _ => ⟨_, rfl, ?_⟩
        simp [fVar, wipeE, hm]
      have e2 : (rows.map fun q => D.int (q + m * p)) = (rows.map (· + m * p)).map D.int := by simp
      rw [e2] at hc
      have hfr : frz1 (lE2 cells ps n t r rows (size + m * p) (count + max 0 (p - size)) (st ++ [(p, size, count)]) true (some (.int k, false)) (some (L [r0, r1, r2, r3], false)) (some (.int p, false)) (some (.int room, false)) (some (.int m, false)) f) 5 = lE2 cells ps n t r rows (size + m * p) (count + max 0 (p - size)) (st ++ [(p, size, count)]) false (some (.int k, false)) (some (L [r0, r1, r2, r3], false)) (some (.int p, false)) (some (.int room, false)) (some (.int m, false)) f := frz1_own rfl
      have hst' : setAt ((rows.map (· + m * p)).map D.int) (.int p) (.int r0) = .ok (((rows.map (· + m * p)).set r0.toNat p).map D.int) := by
        have := x_setAt (ds := (rows.map (· + m * p)).map D.int) (d := .int p) (j := r0.toNat) (by rw [List.length_map, List.length_map]; omega)
        rw [show (r0.toNat : Int) = r0 by omega] at this
        rw [this, List.map_set]
      have c3 : cap lim [D.int p, .int size, .int count] = .ok [D.int p, .int size, .int count] := x_cap (by simp [lim])
      have lst : (st.map stD).length < lim := by rw [List.length_map]; simp only [lim]; omega
      have ap : st.map stD ++ [D.lst [.int p, .int size, .int count]] = (st ++ [(p, size, count)]).map stD := by simp [stD]
      have ma : (if p - size > 0 then p - size else 0) = max 0 (p - size) := by omega
      refine ⟨_, _, _, _, f, ?_, hpd, by rw [List.length_set, List.length_map], by rw [List.length_append]; exact Nat.le_refl _⟩
      simp only [x_seq, x_app, fOwn, x_fL, x_fLst, x_gCons, x_gNil, fVar, List.getElem?_cons_succ, List.getElem?_cons_zero, R.bind_ok, c3, if_pos lst, ap, List.set_cons_succ, List.set_cons_zero, x_set, x_f2, x_fBi, x_fC, x_sub, x_max2, ma, x_add, hm, x_frz, x_frz1, x_frz0, hfr, x_own, hc, x_put, ix0, hst']
    by_cases w : r1 = 0
    · have hw : decide (r1 = 0) = true := decide_eq_true w
      obtain ⟨rows', size', count', st', f', e1, e2, e3, e4⟩ := rest (1 + r2 % (if 3 < room then 3 else room)) (by omega) (by split at v4 <;> split <;> omega)
      refine ⟨rows', size', count', st', some (L [r0, r1, r2, r3], false), some (.int p, false), some (.int room, false), some (.int (1 + r2 % (if 3 < room then 3 else room)), false), f', ?_, e2, e3, e4⟩
      simp only [b__law_led_on_1, x_seq (s := sSet _ _), x_seq (s := sIf _ _ _), x_set, x_fCall, x_gCons, x_gNil, x_f2, x_fC, x_fL, x_fLst, x_fBi, fVar, fVarB, List.getElem?_cons_succ, List.getElem?_cons_zero, List.set_cons_succ, List.set_cons_zero, R.bind_ok, x_add, x_len, List.length_map, p9, c4, List.length_cons, List.length_nil, if_true, d1', ix0, ix1, ix2, ix3, hpx, p18, c1, ad, mx, x_sub, f1, x_if, x_fB, x_gt, u, decide_true, x_toB, m2, q1, x_eq, hw, x_min2, q2, e1]
    · obtain ⟨rows', size', count', st', f', e1, e2, e3, e4⟩ := rest (1 + (r2 * 1000000000 + r3) % room) (by omega) (by omega)
      refine ⟨rows', size', count', st', some (L [r0, r1, r2, r3], false), some (.int p, false), some (.int room, false), some (.int (1 + (r2 * 1000000000 + r3) % room), false), f', ?_, e2, e3, e4⟩
      simp only [b__law_led_on_1, x_seq (s := sSet _ _), x_seq (s := sIf _ _ _), x_set, x_fCall, x_gCons, x_gNil, x_f2, x_fC, x_fL, x_fLst, x_fBi, fVar, fVarB, List.getElem?_cons_succ, List.getElem?_cons_zero, List.set_cons_succ, List.set_cons_zero, R.bind_ok, x_add, x_len, List.length_map, p9, c4, List.length_cons, List.length_nil, if_true, d1', ix0, ix1, ix2, ix3, hpx, p18, c1, ad, mx, x_sub, f1, x_if, x_fB, x_gt, u, decide_true, x_toB, m2, q1, x_eq, w, decide_false, Bool.false_eq_true, if_false, x_nx, e1]
  · refine ⟨rows, size, count, st, some (L [r0, r1, r2, r3], false), some (.int p, false), some (.int room, false), e, f, ?_, h, rfl, Nat.le_succ _⟩
    simp only [b__law_led_on_1, x_seq (s := sSet _ _), x_set, x_fCall, x_gCons, x_gNil, x_f2, x_fC, x_fL, x_fLst, x_fBi, fVar, fVarB, List.getElem?_cons_succ, List.getElem?_cons_zero, List.set_cons_succ, List.set_cons_zero, R.bind_ok, x_add, x_len, List.length_map, p9, c4, List.length_cons, List.length_nil, if_true, d1', ix0, hpx, p18, c1, ad, mx, x_sub, f1, x_if, x_fB, x_gt, u, decide_false, Bool.false_eq_true, if_false, x_toB, x_nx]
theorem led_on_ok {n0 : Int} {ν : Int → Int} {cells ps : List Int} {n t r : Int} (h : Led n0 ν ps n t []) (h0 : 0 ≤ r) (h1 : r < 10) : ∃ rows size count st, g__law_led_on [L cells, L ps, .int n, .int t, .int r] = .ok (.lst [L rows, .int size, .int count, .lst (st.map stD)]) ∧ Led n0 ν rows size count st := by
  obtain ⟨ρ', e1, rows, size, count, st, a, b, c, d, e, f, hρ, q1, q2⟩ := for_name (i := 9) (body := b__law_led_on_1) (ds := rangeL 0 r) (ρ := lE cells ps n t r ps n t [] true none none none none none none)
    (fun j ρ => ∃ rows size count st a b c d e f, ρ = lE cells ps n t r rows size count st true a b c d e f ∧ Led n0 ν rows size count st ∧ st.length ≤ j) ⟨ps, n, t, [], _, _, _, _, _, _, rfl, h, Nat.le_refl _⟩ fun j dd ρ hj hρ => by
      obtain ⟨rows, size, count, st, a, b, c, d, e, f, hρ, q1, q2⟩ := hρ
      subst hρ
      obtain ⟨rfl, hj'⟩ := rangeL_get hj
      obtain ⟨rows', size', count', st', b', c', d', e', f', k1, k2, k3, k4⟩ := led_step (cells := cells) (ps := ps) (n := n) (t := t) (r := r) q1 (by omega) j (by omega) b c d e f
      exact ⟨_, by rw [show (0 : Int) + (j : Int) = j by omega]; exact k1, rows', size', count', st', _, _, _, _, _, _, rfl, k2, by omega⟩
  subst hρ
  refine ⟨rows, size, count, st, ?_, q1⟩
  have r1 : rng1 [.int r] = .ok (rangeL 0 r) := x_rng1 (by omega)
  have hfr : frz1 (lE cells ps n t r rows size count st true a b c d e f) 5 = lE2 cells ps n t r rows size count st false a b c d e f := frz1_own rfl
  have hfr2 : frz1 (lE2 cells ps n t r rows size count st false a b c d e f) 8 = lE cells ps n t r rows size count st false a b c d e f := frz1_own rfl
  have c2 : cap lim [L rows, .int size, .int count, .lst (st.map stD)] = .ok [L rows, .int size, .int count, .lst (st.map stD)] := x_cap (by simp [lim])
  have c0 : cap lim ([] : List D) = .ok [] := x_cap (by simp)
  have e1' : forGo (tName 9) b__law_led_on_1 (rangeL 0 r) [some (L cells, false), some (L ps, false), some (.int n, false), some (.int t, false), some (.int r, false), some (L ps, true), some (.int n, false), some (.int t, false), some (.lst [], true), none, none, none, none, none, none] = _ := e1
  simp only [r__law_led_on, b__law_led_on, x_seq, x_own, x_fBi, x_gCons, x_gNil, fVar, List.getElem?_cons_succ, List.getElem?_cons_zero, R.bind_ok, x_listL, List.set_cons_succ, List.set_cons_zero, x_set, x_fLst, c0, x_for, x_gR1, r1, e1', x_frz, x_frz1, x_frz0, hfr, hfr2, x_ret, x_fL, c2, x_end_rt]
end K37
set_option maxHeartbeats 4000000
namespace K37
open PySem L2 Pc Th
/-! ### two periods -/
theorem gcd_facts {p q : Int} (hp : 0 < p) (hq : 0 < q) : 0 < (Int.gcd p q : Int) ∧ (Int.gcd p q : Int) ∣ p ∧ (Int.gcd p q : Int) ∣ q ∧ (Int.gcd p q : Int) ≤ p ∧ (Int.gcd p q : Int) ≤ q := by
  have g0 : 0 < (Int.gcd p q : Int) := by
    have := Int.gcd_pos_of_ne_zero_left q (show p ≠ 0 by omega)
    omega
  exact ⟨g0, Int.gcd_dvd_left _ _, Int.gcd_dvd_right _ _, Int.le_of_dvd hp (Int.gcd_dvd_left _ _), Int.le_of_dvd hq (Int.gcd_dvd_right _ _)⟩
theorem rg_one {n p : Int} {S : Int → Prop} (hp : 0 < p) (hn : p ≤ n) (h1 : S p) (h : ∀ q, S q → q = p ∨ n ≤ q) : RG n p (fun i => i % p) (Cn n S) := by
  have a : RG n p (fun i => i % p) (Cn n (· = p)) := RG.rem hp hn (fun q hq => by rw [show q = p from hq]; exact Int.dvd_refl _) (fo_self rfl)
  refine a.congr fun i j _ _ _ _ => ⟨fun c => c.mono fun x y ⟨k1, k2, k3⟩ => .edge ⟨k1, k2, by rw [show y - x = p from k3]; exact h1⟩, fun c => c.mono fun x y ⟨k1, k2, k3⟩ => .edge ⟨k1, k2, ?_⟩⟩
  rcases h _ k3 with k | k
  · exact k
  · omega
theorem two_cnt : ∀ (k : Nat) (p q n : Int), p + q ≤ k → 0 < p → 0 < q → p ≤ n → q ≤ n → ∃ ν, RG n (max (Int.gcd p q : Int) (p + q - n)) ν (Cn n fun x => x = p ∨ x = q)
  | 0, p, q, n, h, hp, hq, _, _ => by omega
  | k + 1, p, q, n, h, hp, hq, pn, qn => by
    have less : ∀ p q n : Int, p + q ≤ (k + 1 : Nat) → 0 < p → p < q → q ≤ n → ∃ ν, RG n (max (Int.gcd p q : Int) (p + q - n)) ν (Cn n fun x => x = p ∨ x = q) := fun p q n h hp pq qn => by
      obtain ⟨g0, g1, g2, g3, g4⟩ := gcd_facts hp (show 0 < q by omega)
      have cs : ∀ x, cut p (fun x => x = p ∨ x = q) x ↔ (x = p ∨ x = q - p) := fun x => by
        unfold cut
        constructor
        · rintro (k | ⟨k | k, k2⟩)
          · exact .inl k
          · omega
          · exact .inr (by omega)
        · rintro (k | k)
          · exact .inl k
          · exact .inr ⟨.inr (by omega), by omega⟩
      have mn : ∀ x, (x = p ∨ x = q) → p ≤ x := fun x hx => by rcases hx with rfl | rfl <;> omega
      by_cases c : n - p < p
      · have gd : (Int.gcd p q : Int) ≤ q - p := Int.le_of_dvd (by omega) (Int.dvd_sub g2 g1)
        have a : RG (n - p) (q - p) (fun i => i % (q - p)) (Cn (n - p) fun x => x = p ∨ x = q - p) := rg_one (by omega) (by omega) (.inr rfl) fun x hx => by
          rcases hx with rfl | rfl
          · exact .inr (by omega)
          · exact .inl rfl
        have st := RG.step (n := n) (S := fun x => x = p ∨ x = q) hp (.inl rfl) mn (by omega) (by omega) (a.set fun x => (cs x).symm)
        rw [show max (Int.gcd p q : Int) (p + q - n) = q - p + max 0 (p - (n - p)) by omega]
        exact ⟨_, st⟩
      · obtain ⟨ν, a⟩ := two_cnt k p (q - p) (n - p) (by omega) hp (by omega) (by omega) (by omega)
        have st := RG.step (n := n) (S := fun x => x = p ∨ x = q) hp (.inl rfl) mn (by omega) (by omega) (a.set fun x => (cs x).symm)
        rw [gcd_sub_self] at st
        rw [show max (Int.gcd p q : Int) (p + q - n) = max (Int.gcd p q : Int) (p + (q - p) - (n - p)) + max 0 (p - (n - p)) by omega]
        exact ⟨_, st⟩
    rcases Int.lt_trichotomy p q with c | c | c
    · exact less p q n h hp c qn
    · subst c
      have e : (Int.gcd p p : Int) = p := by simp; omega
      rw [e, show max p (p + p - n) = p by omega]
      exact ⟨_, rg_one hp pn (.inl rfl) fun x hx => .inl (by rcases hx with k | k <;> exact k)⟩
    · obtain ⟨ν, a⟩ := less q p n (by omega) hq c pn
      rw [Int.gcd_comm, show q + p - n = p + q - n by omega] at a
      exact ⟨ν, a.set fun x => Or.comm⟩
def due2 (low high n : Int) : Int := if n ≤ high ∨ (Int.gcd low high : Int) = low then min n low else if n < low + high - Int.gcd low high then low + high - n else Int.gcd low high
theorem two_rg {low high n : Int} (hl : 1 ≤ low) (hh : low ≤ high) (n0 : 0 ≤ n) : (∃ ν, RG n (due2 low high n) ν (Cn n fun x => x = low ∨ x = high)) ∧
    ((due2 low high n = Int.gcd low high ∨ n ≤ high) → 0 < n → 0 < due2 low high n ∧ RG n (due2 low high n) (fun i => i % due2 low high n) (Cn n fun x => x = low ∨ x = high)) := by
  obtain ⟨g0, g1, g2, g3, g4⟩ := gcd_facts (show 0 < low by omega) (show 0 < high by omega)
  by_cases c : n ≤ high ∨ (Int.gcd low high : Int) = low
  · have e : due2 low high n = min n low := if_pos c
    have key : 0 < n → RG n (min n low) (fun i => i % min n low) (Cn n fun x => x = low ∨ x = high) := fun np => by
      by_cases c2 : n ≤ low
      · rw [show min n low = n by omega]
        refine (RG.base n0 fun q hq => by rcases hq with rfl | rfl <;> omega).fn fun i i0 i1 => (Int.emod_eq_of_lt i0 i1).symm
      · rw [show min n low = low by omega]
        rcases c with c | c
        · exact rg_one (by omega) (by omega) (.inl rfl) fun x hx => by rcases hx with rfl | rfl; exact .inl rfl; exact .inr c
        · exact RG.rem (by omega) (by omega) (fun q hq => by
            rcases hq with rfl | rfl
            · exact Int.dvd_refl _
            · rw [c] at g2; exact g2) (fo_self (.inl rfl))
    rw [e]
    refine ⟨?_, fun _ np => ⟨by omega, key np⟩⟩
    by_cases np : 0 < n
    · exact ⟨_, key np⟩
    · have : n = 0 := by omega
      subst this
      rw [show min 0 low = 0 by omega]
      exact ⟨_, RG.base (by omega) fun q hq => by rcases hq with rfl | rfl <;> omega⟩
  · have e : due2 low high n = if n < low + high - Int.gcd low high then low + high - n else Int.gcd low high := if_neg c
    have c1 : high < n := by omega
    have c2 : (Int.gcd low high : Int) ≠ low := fun k => c (.inr k)
    obtain ⟨ν, a⟩ := two_cnt (low + high).toNat low high n (by omega) (by omega) (by omega) (by omega) (by omega)
    by_cases c3 : n < low + high - Int.gcd low high
    · rw [e, if_pos c3]
      rw [show max (Int.gcd low high : Int) (low + high - n) = low + high - n by omega] at a
      exact ⟨⟨ν, a⟩, fun k _ => by omega⟩
    · rw [e, if_neg c3]
      have tp := TH.pair g0 (low + high).toNat low high (by omega) (by omega) (by omega) rfl
      rw [if_neg (by omega)] at tp
      have fo := (tp.forced ⟨g0, fun q hq => by rcases hq with rfl | rfl <;> omega, fun q hq => by rcases hq with rfl | rfl; exact g1; exact g2⟩ n (by omega)).mpr (by omega)
      have r := RG.rem (S := fun x => x = low ∨ x = high) g0 (by omega) (fun q hq => by rcases hq with rfl | rfl; exact g1; exact g2) fo
      exact ⟨⟨_, r⟩, fun _ _ => ⟨g0, r⟩⟩
/-! ### _law_two_asked -/
abbrev tE (low high dr unit most : Int) (ls : D) (a b c : Option (D × Bool)) : En := [some (.int low, false), some (.int high, false), some (.int dr, false), some (.int unit, false), some (.int most, false), some (ls, false), a, b, c]
theorem gp2 {a b : Int} (ha : 1 ≤ a ∧ a ≤ 10 ^ 18) (hb : 1 ≤ b ∧ b ≤ 10 ^ 18) : Gp [a, b] := ⟨by simp, by simp, fun p hp => by
  simp only [List.mem_cons, List.not_mem_nil, or_false] at hp
  rcases hp with rfl | rfl
  · exact ha
  · exact hb⟩
theorem two_body {low high dr n : Int} {ls : D} (hl : 1 ≤ low) (hh : low ≤ high) (h18 : high ≤ 10 ^ 18) (b c : Option (D × Bool)) :
    ∃ b' c', b__law_two_asked_2 (tE low high dr (Int.gcd low high) (low + high - Int.gcd low high) ls (some (.int n, false)) b c) = .ok (.nx (tE low high dr (Int.gcd low high) (low + high - Int.gcd low high) ls (some (.int n, false)) b' c')) := by
  obtain ⟨g0, g1, g2, g3, g4⟩ := gcd_facts (show 0 < low by omega) (show 0 < high by omega)
  generalize hg : (Int.gcd low high : Int) = g at *
  -- what is due
  obtain ⟨due, hdue⟩ : ∃ due, due = due2 low high n := ⟨_, rfl⟩
  have d1 : ∀ (tail : En → R O) , (sSeq (sSet 7 (fVar 3)) (
  sSeq (sIf (fB (f2 ltD (fVar 6) (fVar 4))) (
  sSet 7 (f2 subD (f2 addD (fVar 0) (fVar 1)) (fVar 6))) (
  sNx)) (
  sSeq (sIf (gOr (fB (f2 leD (fVar 6) (fVar 1))) (fB (f2 eqD (fVar 3) (fVar 0)))) (
  sSet 7 (fBi minD (gCons (fVar 6) (gCons (fVar 0) (gNil))))) (
  sNx)) tail))) (tE low high dr g (low + high - g) ls (some (.int n, false)) b c) = tail (tE low high dr g (low + high - g) ls (some (.int n, false)) (some (.int due, false)) c) := fun tail => by
    have mi : (if low < n then low else n) = min n low := by omega
    rw [hdue]
    unfold due2
    rw [hg]
    by_cases c1 : n < low + high - g <;> by_cases c2 : n ≤ high <;> by_cases c3 : g = low
    all_goals first | have c3' := decide_eq_true c3 | have c3' := decide_eq_false c3
    all_goals simp only [x_seq, x_set, x_if, x_fB, x_f2, x_fBi, x_gCons, x_gNil, x_gOr, fVar, List.getElem?_cons_succ, List.getElem?_cons_zero, List.set_cons_succ, List.set_cons_zero, R.bind_ok, x_lt, x_le, x_eq, x_toB, c1, c2, c3', decide_true, decide_false, if_true, Bool.false_eq_true, if_false, x_nx, x_add, x_sub, x_min2, mi, true_or, false_or, or_true, or_false]
    all_goals simp [c3]
  have t := two_rg (n := n) hl hh
  by_cases n0 : 0 ≤ n
  · obtain ⟨⟨ν, r⟩, tb⟩ := t n0
    rw [hg, ← hdue] at tb
    rw [← hdue] at r
    by_cases n1 : n ≤ 1000000000000000000
    · have e1 : g_class_count [.lst [.int high, .int low], .int n] = .ok (.int due) := count_ok (ps := [high, low]) .lst (gp2 ⟨by omega, h18⟩ ⟨hl, by omega⟩) n0 (by omega) (r.set fun x => by simp [or_comm])
      have nn : g__law_number [.int due, .int due] = .ok (.bl true) := by rw [number_ok, decide_eq_true rfl]
      have c2 : cap lim [D.int high, .int low] = .ok [.int high, .int low] := x_cap (by simp [lim])
      have c2' : cap lim [D.int low, .int high] = .ok [.int low, .int high] := x_cap (by simp [lim])
      by_cases np : 0 < n
      · by_cases q : due = g ∨ n ≤ high
        · obtain ⟨dp, r2⟩ := tb q np
          have m1 : modD (.int dr) (.int n) = .ok (.int (dr % n)) := x_mod np
          have m2 : modD (.int dr) (.int (if low + 7 < n then low + 7 else n)) = .ok (.int (dr % (if low + 7 < n then low + 7 else n))) := x_mod (by split <;> omega)
          have v1 := Int.emod_nonneg dr (show n ≠ 0 by omega)
          have v2 := Int.emod_lt_of_pos dr np
          have v3 := Int.emod_nonneg dr (show (if low + 7 < n then low + 7 else n) ≠ 0 by split <;> omega)
          have v4 := Int.emod_lt_of_pos dr (show 0 < (if low + 7 < n then low + 7 else n) by split <;> omega)
          obtain ⟨ρ', e2, x, hρ⟩ := for_name (i := 8) (body := b__law_two_asked_1) (ds := [0, n - 1, dr % n, dr % (if low + 7 < n then low + 7 else n)].map D.int) (ρ := tE low high dr g (low + high - g) ls (some (.int n, false)) (some (.int due, false)) c)
            (fun j ρ => ∃ x, ρ = tE low high dr g (low + high - g) ls (some (.int n, false)) (some (.int due, false)) x) ⟨c, rfl⟩ fun j dd ρ hj hρ => by
              obtain ⟨x, hρ⟩ := hρ
              obtain ⟨pl, hpl, rfl⟩ := map_get hj
              subst hρ
              have hb : 0 ≤ pl ∧ pl < n := by
                have := List.mem_of_getElem? hpl
                simp only [List.mem_cons, List.not_mem_nil, or_false] at this
                rcases this with k | k | k | k
                · omega
                · omega
                · omega
                · rw [k]; exact ⟨v3, by split at v4 <;> split <;> omega⟩
              have k2 : g_class_of [.lst [.int low, .int high], .int n, .int pl] = .ok (.int (pl % due)) := of_ok (ps := [low, high]) .lst (gp2 ⟨hl, by omega⟩ ⟨by omega, h18⟩) hb.1 hb.2 (by omega) (r2.set fun x => by simp)
              have m3 : modD (.int pl) (.int due) = .ok (.int (pl % due)) := x_mod dp
              have nn2 : g__law_number [.int (pl % due), .int (pl % due)] = .ok (.bl true) := by rw [number_ok, decide_eq_true rfl]
              exact ⟨tE low high dr g (low + high - g) ls (some (.int n, false)) (some (.int due, false)) (some (.int pl, false)), by
                simp only [b__law_two_asked_1, x_if, x_gNot, x_fTru, x_fCall, x_gCons, x_gNil, x_fL, x_fLst, x_f2, x_fBi, fVar, List.set_cons_succ, List.set_cons_zero, List.getElem?_cons_succ, List.getElem?_cons_zero, R.bind_ok, c2', List.length_cons, List.length_nil, if_true, k2, x_int, m3, nn2, x_truB, Bool.not_true, Bool.false_eq_true, if_false, x_nx], _, rfl⟩
          subst hρ
          refine ⟨some (.int due, false), x, ?_⟩
          simp only [List.map_cons, List.map_nil] at e2
          have c4 : cap lim [D.int 0, .int (n - 1), .int (dr % n), .int (dr % (if low + 7 < n then low + 7 else n))] = .ok [D.int 0, .int (n - 1), .int (dr % n), .int (dr % (if low + 7 < n then low + 7 else n))] := x_cap (by simp [lim])
          have hq : (gOr (fB (f2 eqD (fVar 7) (fVar 3))) (fB (f2 leD (fVar 6) (fVar 1)))) (tE low high dr g (low + high - g) ls (some (.int n, false)) (some (.int due, false)) c) = .ok true := by
            simp only [x_gOr, x_fB, x_f2, fVar, List.getElem?_cons_succ, List.getElem?_cons_zero, R.bind_ok, x_eq, x_le, x_toB]
            rcases q with q | q
            · rw [decide_eq_true q]; rfl
            · rw [decide_eq_true q]; split <;> rfl
          rw [b__law_two_asked_2, d1]
          simp only [x_seq, x_if, x_gAnd, x_fB, x_f2, x_fC, fVar, List.getElem?_cons_succ, List.getElem?_cons_zero, R.bind_ok, x_le, n0, decide_true, x_toB, if_true, p18, n1, x_gNot, x_fTru, x_fCall, x_gCons, x_gNil, x_fL, x_fLst, c2, List.length_cons, List.length_nil, e1, nn, x_truB, Bool.not_true, Bool.false_eq_true, if_false, x_nx, x_lt, np, hq, x_for, x_gIt, x_sub, x_add, x_fBi, x_int, m1, x_min2, m2, c4, x_itD, e2]
        · refine ⟨some (.int due, false), c, ?_⟩
          have hq : (gOr (fB (f2 eqD (fVar 7) (fVar 3))) (fB (f2 leD (fVar 6) (fVar 1)))) (tE low high dr g (low + high - g) ls (some (.int n, false)) (some (.int due, false)) c) = .ok false := by
            simp only [x_gOr, x_fB, x_f2, fVar, List.getElem?_cons_succ, List.getElem?_cons_zero, R.bind_ok, x_eq, x_le, x_toB]
            rw [decide_eq_false (fun k => q (.inl k)), decide_eq_false (fun k => q (.inr k))]
            rfl
          rw [b__law_two_asked_2, d1]
          simp only [x_seq, x_if, x_gAnd, x_fB, x_f2, x_fC, fVar, List.getElem?_cons_succ, List.getElem?_cons_zero, R.bind_ok, x_le, n0, decide_true, x_toB, if_true, p18, n1, x_gNot, x_fTru, x_fCall, x_gCons, x_gNil, x_fL, x_fLst, c2, List.length_cons, List.length_nil, e1, nn, x_truB, Bool.not_true, Bool.false_eq_true, if_false, x_nx, x_lt, np, hq]
      · refine ⟨some (.int due, false), c, ?_⟩
        rw [b__law_two_asked_2, d1]
        simp only [x_seq, x_if, x_gAnd, x_fB, x_f2, x_fC, fVar, List.getElem?_cons_succ, List.getElem?_cons_zero, R.bind_ok, x_le, n0, decide_true, x_toB, if_true, p18, n1, x_gNot, x_fTru, x_fCall, x_gCons, x_gNil, x_fL, x_fLst, c2, List.length_cons, List.length_nil, e1, nn, x_truB, Bool.not_true, Bool.false_eq_true, if_false, x_nx, x_lt, np, decide_false]
    · refine ⟨some (.int due, false), c, ?_⟩
      rw [b__law_two_asked_2, d1]
      have np : 0 < n := by omega
      simp only [x_seq, x_if, x_gAnd, x_fB, x_f2, x_fC, fVar, List.getElem?_cons_succ, List.getElem?_cons_zero, R.bind_ok, x_le, n0, decide_true, x_toB, if_true, p18, n1, decide_false, Bool.false_eq_true, if_false, x_nx, x_lt, np]
  · refine ⟨some (.int due, false), c, ?_⟩
    rw [b__law_two_asked_2, d1]
    have np : ¬ 0 < n := by omega
    simp only [x_seq, x_if, x_gAnd, x_fB, x_f2, x_fC, fVar, List.getElem?_cons_succ, List.getElem?_cons_zero, R.bind_ok, x_le, n0, decide_false, x_toB, Bool.false_eq_true, if_false, x_nx, x_lt, np]
theorem two_asked_ok {low high dr : Int} (hl : 1 ≤ low) (hh : low ≤ high) (h18 : high ≤ 10 ^ 18) : g__law_two_asked [.int low, .int high, .int dr] = .ok (.bl true) := by
  have e0 := law_gcd_ok (a := low) (b := high) (by omega) (by omega) h18
  obtain ⟨g, hg⟩ : ∃ g : Int, g = Int.gcd low high := ⟨_, rfl⟩
  obtain ⟨ls, hls⟩ : ∃ ls : D, ls = .lst [.int (low - 1), .int low, .int (low + 1), .int high, .int (high + 1)] := ⟨_, rfl⟩
  obtain ⟨ρ', e1, _⟩ := for_name (i := 6) (body := b__law_two_asked_2) (ds := [low - 1, low, low + 1, high, high + 1, low + high - g - 1, low + high - g, 1000000000000000000, dr].map D.int) (ρ := tE low high dr g (low + high - g) ls none none none)
    (fun j ρ => ∃ a b c, ρ = tE low high dr g (low + high - g) ls a b c) ⟨none, none, none, rfl⟩ fun j dd ρ hj hρ => by
      obtain ⟨a, b, c, hρ⟩ := hρ
      obtain ⟨n, hn, rfl⟩ := map_get hj
      subst hρ
      obtain ⟨b', c', k⟩ := two_body (n := n) (dr := dr) (ls := ls) hl hh h18 b c
      rw [← hg] at k
      exact ⟨_, k, _, _, _, rfl⟩
  rw [← hg] at e0
  rw [hls] at e1
  simp only [List.map_cons, List.map_nil] at e1
  have c5 : cap lim [D.int (low - 1), .int low, .int (low + 1), .int high, .int (high + 1)] = .ok [D.int (low - 1), .int low, .int (low + 1), .int high, .int (high + 1)] := x_cap (by simp [lim])
  have c4 : cap lim [D.int (low + high - g - 1), .int (low + high - g), .int 1000000000000000000, .int dr] = .ok [D.int (low + high - g - 1), .int (low + high - g), .int 1000000000000000000, .int dr] := x_cap (by simp [lim])
  have ad : addD (.lst [D.int (low - 1), .int low, .int (low + 1), .int high, .int (high + 1)]) (.lst [D.int (low + high - g - 1), .int (low + high - g), .int 1000000000000000000, .int dr]) = .ok (.lst [D.int (low - 1), .int low, .int (low + 1), .int high, .int (high + 1), .int (low + high - g - 1), .int (low + high - g), .int 1000000000000000000, .int dr]) := by
    rw [x_addL, if_pos (by simp [lim])]; rfl
  simp only [r__law_two_asked, b__law_two_asked, x_seq, x_set, x_fCall, x_gCons, x_gNil, x_f2, x_fC, x_fL, x_fLst, fVar, List.getElem?_cons_succ, List.getElem?_cons_zero, List.set_cons_succ, List.set_cons_zero, R.bind_ok, List.length_cons, List.length_nil, if_true, e0, x_add, x_sub, c5, p18, c4, x_for, x_gIt, ad, x_itD, e1, x_ret, x_end_rt]
end K37
set_option maxHeartbeats 4000000
namespace K37
open PySem L2 Pc Th
/-! ### refusals -/
abbrev OB (v : Int) : Exn := ⟨"OutOfBounds", ["value"], [.int v]⟩
abbrev TM : Exn := ⟨"TooMany", ["most"], [.int 6]⟩
abbrev NP : Exn := ⟨"NoPeriod", [], []⟩
theorem range_bad {v lo hi : Int} (h : v < lo ∨ hi < v) : g_check_range [.int v, .int lo, .int hi] = .ex (OB v) := by
  by_cases c : v < lo
  · simp [r_check_range, b_check_range, fVar, c, sRaise1]; rfl
  · have c2 : hi < v := by omega
    simp [r_check_range, b_check_range, fVar, c, c2, sRaise1]; rfl
theorem many_bad {ds : List D} (h : 6 < ds.length) : g_check_many [.lst ds, .int 6] = .ex TM := by
  have c : (6 : Int) < (ds.length : Int) := by omega
  simp [r_check_many, b_check_many, fVar, c, sRaise1]; rfl
theorem for_ex {i : Nat} {body : En → R O} {y : Exn} {d : D} {post : List D} : ∀ {pre : List D} {ρ : En} (P : En → Prop), P ρ → (∀ d ∈ pre, ∀ ρ, P ρ → ∃ ρ2, body (ρ.set i (some (d, false))) = .ok (.nx ρ2) ∧ P ρ2) → (∀ ρ, P ρ → body (ρ.set i (some (d, false))) = .ex y) →
    forGo (tName i) body (pre ++ d :: post) ρ = .ex y
  | [], ρ, P, h, _, hb => by
    show forGo (tName i) body (d :: post) ρ = _
    unfold forGo
    dsimp only [tName]
    rw [hb ρ h]
    rfl
  | x :: pre, ρ, P, h, hp, hb => by
    show forGo (tName i) body (x :: (pre ++ d :: post)) ρ = _
    obtain ⟨ρ2, e, h2⟩ := hp x List.mem_cons_self ρ h
    unfold forGo
    dsimp only [tName]
    rw [e]
    exact for_ex P h2 (fun d hd => hp d (List.mem_cons_of_mem _ hd)) hb
theorem periods_bad {pre post : List Int} {bad : Int} (hl : (pre ++ bad :: post).length ≤ 6) (hp : ∀ p ∈ pre, 1 ≤ p ∧ p ≤ 10 ^ 18) (hb : bad < 1 ∨ 10 ^ 18 < bad) : g_check_periods [L (pre ++ bad :: post)] = .ex (OB bad) := by
  have hm : g_check_many [L (pre ++ bad :: post), .int 6] = .ok .non := check_many_ok (by rw [List.length_map]; omega)
  have e := for_ex (i := 1) (body := b_check_periods_1) (y := OB bad) (d := .int bad) (post := post.map D.int) (pre := pre.map D.int) (ρ := [some (L (pre ++ bad :: post), false), none]) (fun ρ => ∃ x, ρ = [some (L (pre ++ bad :: post), false), x]) ⟨none, rfl⟩
    (fun d hd ρ ⟨x, hρ⟩ => by
      obtain ⟨p, hpm, rfl⟩ := List.mem_map.mp hd
      subst hρ
      have := @check_range_ok p 1 1000000000000000000 (hp p hpm).1 (hp p hpm).2
      exact ⟨[some (L (pre ++ bad :: post), false), some (.int p, false)], by simp [b_check_periods_1, fVar, this], some (.int p, false), rfl⟩)
    (fun ρ ⟨x, hρ⟩ => by
      subst hρ
      have := @range_bad bad 1 1000000000000000000 hb
      simp [b_check_periods_1, fVar, this])
  have em : (pre ++ bad :: post).map D.int = pre.map D.int ++ .int bad :: post.map D.int := by simp
  rw [← em] at e
  simp only [r_check_periods, b_check_periods, x_seq, x_exp, x_fCall, x_gCons, x_gNil, x_fC, fVar, List.getElem?_cons_succ, List.getElem?_cons_zero, R.bind_ok, List.length_cons, List.length_nil, if_true, hm, x_for, x_gIt, x_itD, e]
  rfl
theorem periods_many {ps : List Int} (hl : 6 < ps.length) : g_check_periods [L ps] = .ex TM := by
  have hm : g_check_many [L ps, .int 6] = .ex TM := many_bad (by rw [List.length_map]; exact hl)
  simp only [r_check_periods, b_check_periods, x_seq, x_exp, x_fCall, x_gCons, x_gNil, x_fC, fVar, List.getElem?_cons_succ, List.getElem?_cons_zero, R.bind_ok, List.length_cons, List.length_nil, if_true, hm, R.bind_ex]
  rfl
theorem no_period : g_require_period [L []] = .ex NP := by
  simp [r_require_period, b_require_period, fVar, sRaise0]; rfl
/-- both calls, refused alike -/
def Ref (d : D) (len pl : Int) (y : Exn) : Prop := g_class_count [d, .int len] = .ex y ∧ g_class_of [d, .int len, .int pl] = .ex y
theorem ref_periods {d : D} {len pl : Int} {y : Exn} (h : g_check_periods [d] = .ex y) : Ref d len pl y := by
  constructor
  · simp only [r_class_count, b_class_count, x_seq, x_exp, x_fCall, x_gCons, x_gNil, fVar, List.getElem?_cons_succ, List.getElem?_cons_zero, R.bind_ok, List.length_cons, List.length_nil, if_true, h, R.bind_ex]
    rfl
  · simp only [r_class_of, b_class_of, x_seq, x_exp, x_fCall, x_gCons, x_gNil, fVar, List.getElem?_cons_succ, List.getElem?_cons_zero, R.bind_ok, List.length_cons, List.length_nil, if_true, h, R.bind_ex]
    rfl
theorem ref_length {d : D} {len pl : Int} (h : g_check_periods [d] = .ok .non) (hl : len < 0 ∨ 10 ^ 18 < len) : Ref d len pl (OB len) := by
  have e := @range_bad len 0 1000000000000000000 hl
  constructor
  · simp only [r_class_count, b_class_count, x_seq, x_exp, x_fCall, x_gCons, x_gNil, x_fC, fVar, List.getElem?_cons_succ, List.getElem?_cons_zero, R.bind_ok, List.length_cons, List.length_nil, if_true, h, e, R.bind_ex]
    rfl
  · simp only [r_class_of, b_class_of, x_seq, x_exp, x_fCall, x_gCons, x_gNil, x_fC, fVar, List.getElem?_cons_succ, List.getElem?_cons_zero, R.bind_ok, List.length_cons, List.length_nil, if_true, h, e, R.bind_ex]
    rfl
theorem of_place {d : D} {len pl : Int} (h : g_check_periods [d] = .ok .non) (l0 : 0 ≤ len) (l1 : len ≤ 10 ^ 18) (hp : pl < 0 ∨ len - 1 < pl) : g_class_of [d, .int len, .int pl] = .ex (OB pl) := by
  have e := @check_range_ok len 0 1000000000000000000 l0 l1
  have e2 := @range_bad pl 0 (len - 1) hp
  simp only [r_class_of, b_class_of, x_seq, x_exp, x_fCall, x_gCons, x_gNil, x_fC, x_f2, x_sub, fVar, List.getElem?_cons_succ, List.getElem?_cons_zero, R.bind_ok, List.length_cons, List.length_nil, if_true, h, e, e2, R.bind_ex]
  rfl
theorem empty_ok : g_check_periods [L []] = .ok .non := check_periods_ok (by simp) (by simp)
theorem count_none {len : Int} (l0 : 0 ≤ len) (l1 : len ≤ 10 ^ 18) : g_class_count [L [], .int len] = .ex NP := by
  have e := @check_range_ok len 0 1000000000000000000 l0 l1
  have h := empty_ok
  have e3 := no_period
  simp only [r_class_count, b_class_count, x_seq, x_exp, x_fCall, x_gCons, x_gNil, x_fC, fVar, List.getElem?_cons_succ, List.getElem?_cons_zero, R.bind_ok, List.length_cons, List.length_nil, if_true, h, e, e3, R.bind_ex]
  rfl
theorem of_none {len pl : Int} (l0 : 0 ≤ pl) (l1 : pl ≤ len - 1) (l2 : len ≤ 10 ^ 18) : g_class_of [L [], .int len, .int pl] = .ex NP := by
  have e := @check_range_ok len 0 1000000000000000000 (by omega) l2
  have e2 := @check_range_ok pl 0 (len - 1) l0 l1
  have h := empty_ok
  have e3 := no_period
  simp only [r_class_of, b_class_of, x_seq, x_exp, x_fCall, x_gCons, x_gNil, x_fC, x_f2, x_sub, fVar, List.getElem?_cons_succ, List.getElem?_cons_zero, R.bind_ok, List.length_cons, List.length_nil, if_true, h, e, e2, e3, R.bind_ex]
  rfl
/-! what is told -/
inductive Tl : Exn → Str → Int → Prop where
  | ob (v : Int) : Tl (OB v) "beyond" v
  | tm : Tl TM "many" 6
  | np : Tl NP "none" 0
theorem suite_ok {y : Exn} {k : Str} {v : Int} (t : Tl y k v) (w d : D) (len pl : Int) : b__law_told_2 [some (w, false), some (d, false), some (.int len, false), some (.int pl, false), some (.exc y.cls y.ns y.ds, false), none, none, none] = .ok (.rt (.tup [.str k, .int v])) := by
  cases t with
  | ob => rfl
  | tm => rfl
  | np => rfl
theorem told_of {y : Exn} {k : Str} {v : Int} (t : Tl y k v) {w : Int} {d : D} {len pl : Int} (h0 : w = 0 → g_class_count [d, .int len] = .ex y) (h1 : w ≠ 0 → g_class_of [d, .int len, .int pl] = .ex y) : g__law_told [.int w, d, .int len, .int pl] = .ok (.tup [.str k, .int v]) := by
  have e1 : b__law_told_1 [some (.int w, false), some (d, false), some (.int len, false), some (.int pl, false), none, none, none, none] = .ex y := by
    by_cases c : w = 0
    · have := h0 c
      have hc := decide_eq_true c
      simp only [b__law_told_1, qIf, x_fB, x_f2, x_fC, fVar, List.getElem?_cons_succ, List.getElem?_cons_zero, R.bind_ok, x_eq, x_toB, hc, if_true, qRet, x_fTup, x_gCons, x_gNil, x_fCall, List.length_cons, List.length_nil, this, R.bind_ex]
    · have := h1 c
      have hc := decide_eq_false c
      simp only [b__law_told_1, qIf, x_fB, x_f2, x_fC, fVar, List.getElem?_cons_succ, List.getElem?_cons_zero, R.bind_ok, x_eq, x_toB, hc, Bool.false_eq_true, if_false, qNil, qRet, x_fTup, x_gCons, x_gNil, x_fCall, List.length_cons, List.length_nil, if_true, this, R.bind_ex]
  have e2 : exm_WordError y.cls = some true := by cases t <;> rfl
  have e3 := suite_ok t (.int w) d len pl
  rw [r__law_told]
  unfold b__law_told sTry
  rw [e1]
  dsimp only
  rw [e2]
  dsimp only
  rw [show ([some (D.int w, false), some (d, false), some (D.int len, false), some (D.int pl, false), none, none, none, none].set 4 (some (D.exc y.cls y.ns y.ds, false)) : En) = [some (D.int w, false), some (d, false), some (D.int len, false), some (D.int pl, false), some (D.exc y.cls y.ns y.ds, false), none, none, none] from rfl, e3]
  rfl
theorem refused_ok (k : Str) (v : Int) : g__law_refused [.tup [.str k, .int v], .str k, .int v] = .ok (.bl true) := by
  have i0 : ixD (.tup [.str k, .int v]) (.int 0) = .ok (.str k) := x_ixt (atI_nat (j := 0) rfl)
  have i1 : ixD (.tup [.str k, .int v]) (.int 1) = .ok (.int v) := x_ixt (atI_nat (j := 1) rfl)
  have q : eqD (.str k) (.str k) = .ok (.bl true) := by
    show R.ok (D.bl (decide (k = k))) = _
    rw [decide_eq_true rfl]
  have nn : g__law_number [.int v, .int v] = .ok (.bl true) := by rw [number_ok, decide_eq_true rfl]
  simp only [r__law_refused, b__law_refused, x_ret, x_fAnd, x_f2, x_fC, fVar, List.getElem?_cons_succ, List.getElem?_cons_zero, R.bind_ok, i0, i1, q, x_toB, if_true, x_fCall, x_gCons, x_gNil, List.length_cons, List.length_nil, nn, x_end_rt]
end K37
set_option maxHeartbeats 4000000
namespace K37
open PySem L2 Pc Th
theorem refusals_ok {ps : List Int} {at' bad len n : Int} (g : Gp ps) (a0 : 0 ≤ at') (a1 : at' < ps.length) (hb : bad < 1 ∨ 10 ^ 18 < bad) (hlen : len < 0 ∨ 10 ^ 18 < len) (n0 : 0 ≤ n) (n1 : n ≤ 1000) :
    g__law_refusals [L ps, .int at', .int bad, .int len, .int n] = .ok (.bl true) := by
  have few := g.few
  obtain ⟨sp, hsp⟩ : ∃ sp : List Int, sp = ps.take at'.toNat ++ bad :: ps.drop (at'.toNat + 1) := ⟨_, rfl⟩
  have spl : sp.length = ps.length := by rw [hsp, List.length_append, List.length_cons, List.length_take, List.length_drop]; omega
  have pbad : g_check_periods [L sp] = .ex (OB bad) := by
    rw [hsp] at spl ⊢
    exact periods_bad (by omega) (fun p hp => g.bd p (List.mem_of_mem_take hp)) hb
  obtain ⟨mn, hmn⟩ : ∃ mn : List Int, mn = ((List.replicate 7 sp).flatten).take 7 := ⟨_, rfl⟩
  have mnl : mn.length = 7 := by
    rw [hmn, List.length_take, List.length_flatten]
    simp [spl]; omega
  have pmany := periods_many (ps := mn) (by omega)
  have pok : g_check_periods [L ps] = .ok .non := check_periods_ok few g.bd
  have c1 : ∀ p : Int, cap lim [D.int p] = .ok [.int p] := fun p => x_cap (by simp [lim])
  have c0 : cap lim ([] : List D) = .ok [] := x_cap (by simp)
  have k1 : cutL (ps.map D.int) none (some at') = (ps.take at'.toNat).map D.int := by rw [cut_to a0 (by rw [List.length_map]; omega), List.map_take]
  have k2 : cutL (ps.map D.int) (some (at' + 1)) none = (ps.drop (at'.toNat + 1)).map D.int := by
    rw [cut_from (by omega) (by rw [List.length_map]; omega), List.map_drop, show (at' + 1).toNat = at'.toNat + 1 by omega]
  have s1 : addD (L (ps.take at'.toNat)) (.lst [.int bad]) = .ok (L (ps.take at'.toNat ++ [bad])) := by
    rw [x_addL, if_pos (by rw [List.length_map, List.length_take]; simp only [lim, List.length_cons, List.length_nil]; omega)]; simp
  have s2 : addD (L (ps.take at'.toNat ++ [bad])) (L (ps.drop (at'.toNat + 1))) = .ok (L sp) := by
    rw [x_addL, if_pos (by rw [List.length_map, List.length_map, List.length_append, List.length_take, List.length_drop]; simp only [lim, List.length_cons, List.length_nil]; omega), hsp]; simp
  have m7 : mulD (L sp) (.int 7) = .ok (.lst (List.replicate 7 (sp.map D.int)).flatten) := by
    show (if (sp.map D.int).length ≤ 1000 ∧ (-1000 : Int) ≤ 7 ∧ (7 : Int) ≤ 1000 then R.ok (D.lst (List.replicate (7 : Int).toNat (sp.map D.int)).flatten) else .bad) = _
    rw [if_pos ⟨by rw [List.length_map]; omega, by omega, by omega⟩]; rfl
  have k3 : cutL (List.replicate 7 (sp.map D.int)).flatten none (some 7) = mn.map D.int := by
    have e : (List.replicate 7 (sp.map D.int)).flatten = ((List.replicate 7 sp).flatten).map D.int := by simp [List.map_flatten]
    rw [e, cut_to (by omega) (by rw [List.length_map, List.length_flatten]; simp [spl]; omega), hmn, List.map_take]; rfl
  obtain ⟨ρ1, e1, x, hρ1⟩ := for_name (i := 6) (body := b__law_refusals_1) (ds := rangeL 0 2) (ρ := [some (L ps, false), some (.int at', false), some (.int bad, false), some (.int len, false), some (.int n, false), some (L sp, false), none, none])
    (fun j ρ => ∃ x, ρ = [some (L ps, false), some (.int at', false), some (.int bad, false), some (.int len, false), some (.int n, false), some (L sp, false), x, none]) ⟨none, rfl⟩ fun j d ρ hj hρ => by
      obtain ⟨x, hρ⟩ := hρ
      obtain ⟨rfl, hj'⟩ := rangeL_get hj
      subst hρ
      generalize (0 : Int) + (j : Int) = w
      have t1 := told_of (.ob bad) (w := w) (d := L sp) (len := len) (pl := n) (fun _ => (ref_periods pbad (len := len) (pl := n)).1) (fun _ => (ref_periods pbad (len := len) (pl := n)).2)
      have t2 := told_of .tm (w := w) (d := L mn) (len := len) (pl := n) (fun _ => (ref_periods pmany (len := len) (pl := n)).1) (fun _ => (ref_periods pmany (len := len) (pl := n)).2)
      have t3 := told_of (.ob len) (w := w) (d := L ps) (len := len) (pl := n) (fun _ => (ref_length pok hlen (pl := n)).1) (fun _ => (ref_length pok hlen (pl := n)).2)
      have t4 := told_of (.ob len) (w := w) (d := L []) (len := len) (pl := 0) (fun _ => (ref_length empty_ok hlen (pl := 0)).1) (fun _ => (ref_length empty_ok hlen (pl := 0)).2)
      have t5 := told_of .np (w := w) (d := L []) (len := 7) (pl := 6) (fun _ => count_none (by decide) (by decide)) (fun _ => of_none (by decide) (by decide) (by decide))
      have t4' : g__law_told [.int w, .lst [], .int len, .int 0] = .ok (.tup [.str "beyond", .int len]) := t4
      have t5' : g__law_told [.int w, .lst [], .int 7, .int 6] = .ok (.tup [.str "none", .int 0]) := t5
      exact ⟨[some (L ps, false), some (.int at', false), some (.int bad, false), some (.int len, false), some (.int n, false), some (L sp, false), some (.int w, false), none], by
        simp only [b__law_refusals_1, x_seq, x_if, x_gNot, x_fTru, x_fCall, x_gCons, x_gNil, x_fL, x_fBi, x_fC, x_fSl, x_gNo, x_gSo, x_f2, x_fLst, fVar, List.set_cons_succ, List.set_cons_zero, List.getElem?_cons_succ, List.getElem?_cons_zero, R.bind_ok, x_listL, List.length_cons, List.length_nil, if_true, t1, t2, t3, t4', t5', c0, refused_ok, x_truB, Bool.not_true, Bool.false_eq_true, if_false, x_nx, m7, x_slL, k3], some (.int w, false), rfl⟩
  subst hρ1
  obtain ⟨ρ2, e2, y, hρ2⟩ := for_name (i := 7) (body := b__law_refusals_2) (ds := [n, -1, 1000000000000000000 + 1].map D.int) (ρ := [some (L ps, false), some (.int at', false), some (.int bad, false), some (.int len, false), some (.int n, false), some (L sp, false), x, none])
    (fun j ρ => ∃ y, ρ = [some (L ps, false), some (.int at', false), some (.int bad, false), some (.int len, false), some (.int n, false), some (L sp, false), x, y]) ⟨none, rfl⟩ fun j d ρ hj hρ => by
      obtain ⟨y, hρ⟩ := hρ
      obtain ⟨pl, hpl, rfl⟩ := map_get hj
      subst hρ
      have hb : pl < 0 ∨ n - 1 < pl := by
        have := List.mem_of_getElem? hpl
        simp only [List.mem_cons, List.not_mem_nil, or_false] at this
        omega
      have t1 := told_of (.ob pl) (w := 1) (d := L ps) (len := n) (pl := pl) (fun h => by omega) (fun _ => of_place pok n0 (by omega) hb)
      have t2 : g__law_told [.int 1, .lst [], .int n, .int pl] = .ok (.tup [.str "beyond", .int pl]) := told_of (.ob pl) (w := 1) (d := L []) (len := n) (pl := pl) (fun h => by omega) (fun _ => of_place empty_ok n0 (by omega) hb)
      exact ⟨[some (L ps, false), some (.int at', false), some (.int bad, false), some (.int len, false), some (.int n, false), some (L sp, false), x, some (.int pl, false)], by
        simp only [b__law_refusals_2, x_seq, x_if, x_gNot, x_fTru, x_fCall, x_gCons, x_gNil, x_fL, x_fBi, x_fC, x_fLst, fVar, List.set_cons_succ, List.set_cons_zero, List.getElem?_cons_succ, List.getElem?_cons_zero, R.bind_ok, x_listL, List.length_cons, List.length_nil, if_true, t1, t2, c0, refused_ok, x_truB, Bool.not_true, Bool.false_eq_true, if_false, x_nx], some (.int pl, false), rfl⟩
  subst hρ2
  have t9 : g__law_told [.int 0, .lst [], .int 0, .int 0] = .ok (.tup [.str "none", .int 0]) := told_of .np (w := 0) (d := L []) (len := 0) (pl := 0) (fun _ => count_none (by decide) (by decide)) (fun h => absurd rfl h)
  have r1 : rng1 [.int 2] = .ok (rangeL 0 2) := x_rng1 (by decide)
  have c3 : cap lim [D.int n, .int (-1), .int (1000000000000000000 + 1)] = .ok [D.int n, .int (-1), .int (1000000000000000000 + 1)] := x_cap (by simp [lim])
  simp only [List.map_cons, List.map_nil] at e2
  simp only [r__law_refusals, b__law_refusals, x_seq, x_set, x_f2, x_f1, x_fL, x_fSl, x_gNo, x_gSo, x_fLst, x_gCons, x_gNil, x_fC, fVar, List.getElem?_cons_succ, List.getElem?_cons_zero, List.set_cons_succ, List.set_cons_zero, R.bind_ok, x_slL, k1, c1, s1, x_add, k2, s2, x_for, x_gR1, r1, e1, x_gIt, x_neg, p18, c3, x_itD, e2, x_ret, x_fCall, c0, List.length_cons, List.length_nil, if_true, t9, refused_ok, x_end_rt]
/-! ### _law_two -/
theorem two_ok {row : List Int} (h : Dg row [4, 1000000000, 1000000000, 1000000000, 1000000000, 9, 1000000000, 1000000000]) : ∃ a b r0 r1 r2 r3 r4 r5 r6 r7, row = [r0, r1, r2, r3, r4, r5, r6, r7] ∧ (0 ≤ r6 ∧ r6 < 1000000000) ∧ (0 ≤ r7 ∧ r7 < 1000000000) ∧ g__law_two [L row] = .ok (L [a, b]) ∧ 1 ≤ a ∧ a ≤ b ∧ b ≤ 10 ^ 18 := by
  obtain ⟨r0, r1, r2, r3, r4, r5, r6, r7, rfl, a0, b0, a1, b1, a2, b2, a3, b3, a4, b4, a5, b5, a6, b6, a7, b7⟩ : ∃ r0 r1 r2 r3 r4 r5 r6 r7 : Int, row = [r0, r1, r2, r3, r4, r5, r6, r7] ∧ 0 ≤ r0 ∧ r0 < 4 ∧ 0 ≤ r1 ∧ r1 < 1000000000 ∧ 0 ≤ r2 ∧ r2 < 1000000000 ∧ 0 ≤ r3 ∧ r3 < 1000000000 ∧ 0 ≤ r4 ∧ r4 < 1000000000 ∧ 0 ≤ r5 ∧ r5 < 9 ∧ 0 ≤ r6 ∧ r6 < 1000000000 ∧ 0 ≤ r7 ∧ r7 < 1000000000 := by
    cases h with | cons a0 b0 h => cases h with | cons a1 b1 h => cases h with | cons a2 b2 h => cases h with | cons a3 b3 h => cases h with | cons a4 b4 h => cases h with | cons a5 b5 h => cases h with | cons a6 b6 h => cases h with | cons a7 b7 h => cases h with | nil =>
    exact ⟨_, _, _, _, _, _, _, _, rfl, a0, b0, a1, b1, a2, b2, a3, b3, a4, b4, a5, b5, a6, b6, a7, b7⟩
  have m1 : mulD (.int r1) (.int 1000000000) = .ok (.int (r1 * 1000000000)) := mul64 (by omega) (by omega)
  have m3 : mulD (.int r3) (.int 1000000000) = .ok (.int (r3 * 1000000000)) := mul64 (by omega) (by omega)
  have m4 : mulD (.int (1 + r1 * 1000000000 + r2)) (.int (2 + r5)) = .ok (.int ((1 + r1 * 1000000000 + r2) * (2 + r5))) := mul64 (by omega) (by omega)
  have m5 : mulD (.int (1 + r1)) (.int (1 + r2)) = .ok (.int ((1 + r1) * (1 + r2))) := mul64 (by omega) (by omega)
  have m6 : mulD (.int (1 + r3)) (.int (1 + r2)) = .ok (.int ((1 + r3) * (1 + r2))) := mul64 (by omega) (by omega)
  have bnd : ∀ x y : Int, 0 ≤ x → x < 1000000000 → 0 ≤ y → y < 1000000000 → 1 ≤ (1 + x) * (1 + y) ∧ (1 + x) * (1 + y) ≤ 10 ^ 18 := fun x y h1 h2 h3 h4 => by
    have k1 := Int.mul_le_mul (show 1 + x ≤ 1000000000 by omega) (show 1 + y ≤ 1000000000 by omega) (by omega) (by omega)
    have k2 := Int.mul_le_mul (show 1 ≤ 1 + x by omega) (show 1 ≤ 1 + y by omega) (by omega) (by omega)
    omega
  have n1 := bnd r1 r2 a1 b1 a2 b2
  have n2 := bnd r3 r2 a3 b3 a2 b2
  have c2 : ∀ p q : Int, cap lim [D.int p, .int q] = .ok [.int p, .int q] := fun p q => x_cap (by simp [lim])
  have fin : ∀ x y : Int, 1 ≤ x → x ≤ 10 ^ 18 → 1 ≤ y → ∃ a b, (endD ((sSeq (sIf (fB (f2 gtD (fVar 2) (f2 powD (fC (.int 10)) (fC (.int 18))))) (
  sSet 2 (fVar 1)) (
  sNx)) (
  sRet (fL (fLst (gCons (fBi minD (gCons (fVar 1) (gCons (fVar 2) (gNil)))) (gCons (fBi maxD (gCons (fVar 1) (gCons (fVar 2) (gNil)))) (gNil))))))) [some (L [r0, r1, r2, r3, r4, r5, r6, r7], false), some (.int x, false), some (.int y, false)])) = .ok (L [a, b]) ∧ 1 ≤ a ∧ a ≤ b ∧ b ≤ 10 ^ 18 := fun x y h1 h2 h3 => by
    by_cases u2 : 1000000000000000000 < y
    · refine ⟨x, x, ?_, h1, Int.le_refl _, h2⟩
      simp [fVar, p18, u2, c2]
    · refine ⟨if y < x then y else x, if y > x then y else x, ?_, by split <;> omega, by split <;> split <;> omega, by split <;> omega⟩
      simp [fVar, p18, u2, c2]
  suffices k : ∃ a b, g__law_two [L [r0, r1, r2, r3, r4, r5, r6, r7]] = .ok (L [a, b]) ∧ 1 ≤ a ∧ a ≤ b ∧ b ≤ 10 ^ 18 by
    obtain ⟨a, b, k⟩ := k
    exact ⟨a, b, r0, r1, r2, r3, r4, r5, r6, r7, rfl, ⟨a6, b6⟩, ⟨a7, b7⟩, k⟩
  rw [r__law_two]
  rcases (by omega : r0 = 0 ∨ r0 = 1 ∨ r0 = 2 ∨ r0 = 3) with e | e | e | e
  all_goals subst e
  · have := fin (1 + r1 * 1000000000 + r2) (1 + r3 * 1000000000 + r4) (by omega) (by omega) (by omega)
    simpa only [b__law_two, x_seq (s := sSet _ _), x_seq (s := sIf (fB (f2 eqD _ _)) _ _), x_set, x_f2, x_fC, fVar, List.getElem?_cons_succ, List.getElem?_cons_zero, List.set_cons_succ, List.set_cons_zero, R.bind_ok, ix0, ix1, ix2, ix3, ix4, ix5, p9, m1, m3, x_add, x_if (c := fB (f2 eqD _ _)), x_fB, x_eq, x_toB, (by decide : decide ((0 : Int) = 1) = false), (by decide : decide ((0 : Int) = 2) = false), (by decide : decide ((0 : Int) = 3) = false), Bool.false_eq_true, if_false, x_nx] using this
  · have := fin (1 + r1 * 1000000000 + r2) (1 + r1 * 1000000000 + r2 + 1 + r5) (by omega) (by omega) (by omega)
    simpa only [b__law_two, x_seq (s := sSet _ _), x_seq (s := sIf (fB (f2 eqD _ _)) _ _), x_set, x_f2, x_fC, fVar, List.getElem?_cons_succ, List.getElem?_cons_zero, List.set_cons_succ, List.set_cons_zero, R.bind_ok, ix0, ix1, ix2, ix3, ix4, ix5, p9, m1, m3, x_add, x_if (c := fB (f2 eqD _ _)), x_fB, x_eq, x_toB, decide_true, (by decide : decide ((1 : Int) = 2) = false), (by decide : decide ((1 : Int) = 3) = false), Bool.false_eq_true, if_true, if_false, x_nx] using this
  · have := fin (1 + r1 * 1000000000 + r2) ((1 + r1 * 1000000000 + r2) * (2 + r5)) (by omega) (by omega) (by
      have := Int.mul_le_mul (show 1 ≤ 1 + r1 * 1000000000 + r2 by omega) (show 1 ≤ 2 + r5 by omega) (by omega) (by omega)
      omega)
    simpa only [b__law_two, x_seq (s := sSet _ _), x_seq (s := sIf (fB (f2 eqD _ _)) _ _), x_set, x_f2, x_fC, fVar, List.getElem?_cons_succ, List.getElem?_cons_zero, List.set_cons_succ, List.set_cons_zero, R.bind_ok, ix0, ix1, ix2, ix3, ix4, ix5, p9, m1, m3, m4, x_add, x_if (c := fB (f2 eqD _ _)), x_fB, x_eq, x_toB, (by decide : decide ((2 : Int) = 1) = false), decide_true, (by decide : decide ((2 : Int) = 3) = false), Bool.false_eq_true, if_true, if_false, x_nx] using this
  · have := fin ((1 + r1) * (1 + r2)) ((1 + r3) * (1 + r2)) n1.1 n1.2 n2.1
    simpa only [b__law_two, x_seq (s := sSet _ _), x_seq (s := sIf (fB (f2 eqD _ _)) _ _), x_set, x_f2, x_fC, fVar, List.getElem?_cons_succ, List.getElem?_cons_zero, List.set_cons_succ, List.set_cons_zero, R.bind_ok, ix0, ix1, ix2, ix3, ix4, ix5, p9, m1, m3, m5, m6, x_add, x_if (c := fB (f2 eqD _ _)), x_fB, x_eq, x_toB, (by decide : decide ((3 : Int) = 1) = false), (by decide : decide ((3 : Int) = 2) = false), decide_true, Bool.false_eq_true, if_true, if_false, x_nx] using this
end K37
set_option maxHeartbeats 4000000
namespace K37
open PySem L2 Pc Th
theorem x_neL {ns ms : List Int} : neD (.lst (ns.map D.int)) (.lst (ms.map D.int)) = .ok (.bl (!decide (ns = ms))) := by
  have h := @x_eqL ns ms
  unfold eqD at h
  unfold neD
  cases e : (eqB (.lst (ns.map D.int)) (.lst (ms.map D.int))).2 with
  | none => rw [e] at h; cases h
  | some b => rw [e] at h; cases h; rfl
theorem x_lend {is : List Nat} {f : En → R D} {ρ : En} {b : Bool} (h : f (frz ρ is) = .ok (.bl b)) : lendE is f ρ = .ok (.bl b) := by
  unfold lendE; rw [h]; rfl
/-- handed[k] = great[k] -/
theorem fill_ok {ps qs : List Int} (hl : qs.length = ps.length) (pre : En) (h8 : pre.length = 8) (mid : En) (hm : mid.length = 6) (aft : En) :
    ∃ x, forGo (tName 16) b_law_1 (rangeL 0 ps.length) (pre ++ some (L ps, true) :: mid ++ some (L qs, false) :: none :: aft) = .ok (.nx (pre ++ some (L qs, true) :: mid ++ some (L qs, false) :: x :: aft)) := by
  have at8 : ∀ (a : Option (D × Bool)) (x : Option (D × Bool)), (pre ++ a :: mid ++ some (L qs, false) :: x :: aft)[8]? = some a := fun a x => by
    rw [List.append_assoc, List.getElem?_append_right (by omega), h8]; rfl
  have at15 : ∀ (a : Option (D × Bool)) (x : Option (D × Bool)), (pre ++ a :: mid ++ some (L qs, false) :: x :: aft)[15]? = some (some (L qs, false)) := fun a x => by
    rw [List.getElem?_append_right (by simp [h8, hm])]; simp [h8, hm]
  have at16 : ∀ (a : Option (D × Bool)) (x : Option (D × Bool)), (pre ++ a :: mid ++ some (L qs, false) :: x :: aft)[16]? = some x := fun a x => by
    rw [List.getElem?_append_right (by simp [h8, hm])]; simp [h8, hm]
  have s16 : ∀ (a x y : Option (D × Bool)), (pre ++ a :: mid ++ some (L qs, false) :: x :: aft).set 16 y = pre ++ a :: mid ++ some (L qs, false) :: y :: aft := fun a x y => by
    rw [List.set_append_right _ _ (by simp [h8, hm])]; simp [h8, hm]
  have s8 : ∀ (a x y : Option (D × Bool)), (pre ++ a :: mid ++ some (L qs, false) :: x :: aft).set 8 y = pre ++ y :: mid ++ some (L qs, false) :: x :: aft := fun a x y => by
    rw [List.append_assoc, List.set_append_right _ _ (by omega), h8]; simp
  obtain ⟨ρ', e, x, hρ⟩ := for_name (i := 16) (body := b_law_1) (ds := rangeL 0 ps.length) (ρ := pre ++ some (L ps, true) :: mid ++ some (L qs, false) :: none :: aft)
    (fun j ρ => ∃ x, ρ = pre ++ some (L (qs.take j ++ ps.drop j), true) :: mid ++ some (L qs, false) :: x :: aft) ⟨none, by simp⟩ fun j d ρ hj hρ => by
      obtain ⟨x, hρ⟩ := hρ
      obtain ⟨rfl, hj'⟩ := rangeL_get hj
      subst hρ
      rw [show (0 : Int) + (j : Int) = j by omega, s16]
      have hjp : j < ps.length := by omega
      have hjq : j < qs.length := by omega
      have ix : ixD (L qs) (.int (j : Int)) = .ok (.int qs[j]) := by
        have h1 : j < (qs.map D.int).length := by simpa using hjq
        have h2 := atI_get? h1
        rw [List.getElem_map] at h2
        exact x_ix h2
      have hs : setAt ((qs.take j ++ ps.drop j).map D.int) (.int qs[j]) (.int (j : Int)) = .ok ((qs.take (j + 1) ++ ps.drop (j + 1)).map D.int) := by
        rw [x_setAt (by rw [List.length_map, List.length_append, List.length_take, List.length_drop]; omega), ← List.map_set]
        congr 2
        rw [List.set_append_right _ _ (by rw [List.length_take]; omega), List.length_take, show j - min j qs.length = 0 by omega, List.drop_eq_getElem_cons hjp, List.set_cons_zero, take_snoc (List.getElem?_eq_getElem hjq), List.append_assoc]
        rfl
      refine ⟨pre ++ some (L (qs.take (j + 1) ++ ps.drop (j + 1)), true) :: mid ++ some (L qs, false) :: some (.int j, false) :: aft, ?_, some (.int j, false), rfl⟩
      have own : fOwn 8 (pre ++ some (L (qs.take j ++ ps.drop j), true) :: mid ++ some (L qs, false) :: some (.int j, false) :: aft) = .ok ((qs.take j ++ ps.drop j).map D.int) := by
        unfold fOwn; rw [at8]
      simp only [b_law_1, x_put, x_f2, fVar_at (at15 _ _), fVar_at (at16 _ _), R.bind_ok, ix, own, hs, s8]
  subst hρ
  rw [rangeL_len, show ((ps.length : Int) - 0).toNat = ps.length by omega, List.drop_length, List.take_of_length_le (by omega), List.append_nil] at e
  exact ⟨x, e⟩
end K37
set_option maxHeartbeats 4000000
namespace K37
open PySem L2 Pc Th
theorem main : ∀ ns : List Int, ns.length ≤ 63 → g_law [.scr ns] = .ok (.bl true) := by
  intro ns _
  obtain ⟨cells, hcells⟩ : ∃ cells, cells = cutL ns none (some 63) := ⟨_, rfl⟩
  have hsl : slL (.scr ns) none (some 63) = .ok (cells.map D.int) := by rw [hcells]; rfl
  -- the plan
  obtain ⟨row, dp, hrow⟩ := dig_ok (cells := cells) (place := 0) (sizes := [8, 6, 41, 61, 4, 4, 6, 6]) (by decide) (by decide) (by simp) (by simp)
  obtain ⟨p0, p1, p2, p3, p4, p5, p6, p7, rfl, a0, b0, a1, b1, a2, b2, a3, b3, a4, b4, a5, b5, a6, b6, a7, b7⟩ : ∃ r0 r1 r2 r3 r4 r5 r6 r7 : Int, row = [r0, r1, r2, r3, r4, r5, r6, r7] ∧ 0 ≤ r0 ∧ r0 < 8 ∧ 0 ≤ r1 ∧ r1 < 6 ∧ 0 ≤ r2 ∧ r2 < 41 ∧ 0 ≤ r3 ∧ r3 < 61 ∧ 0 ≤ r4 ∧ r4 < 4 ∧ 0 ≤ r5 ∧ r5 < 4 ∧ 0 ≤ r6 ∧ r6 < 6 ∧ 0 ≤ r7 ∧ r7 < 6 := by
    cases hrow with | cons a0 b0 h => cases h with | cons a1 b1 h => cases h with | cons a2 b2 h => cases h with | cons a3 b3 h => cases h with | cons a4 b4 h => cases h with | cons a5 b5 h => cases h with | cons a6 b6 h => cases h with | cons a7 b7 h => cases h with | nil =>
    exact ⟨_, _, _, _, _, _, _, _, rfl, a0, b0, a1, b1, a2, b2, a3, b3, a4, b4, a5, b5, a6, b6, a7, b7⟩
  have ix6 : ixD (L [p0, p1, p2, p3, p4, p5, p6, p7]) (.int 6) = .ok (.int p6) := x_ix (atI_nat (j := 6) rfl)
  have ix7 : ixD (L [p0, p1, p2, p3, p4, p5, p6, p7]) (.int 7) = .ok (.int p7) := x_ix (atI_nat (j := 7) rfl)
  have c8 : cap lim [D.int 8, .int 6, .int 41, .int 61, .int 4, .int 4, .int 6, .int 6] = .ok [D.int 8, .int 6, .int 41, .int 61, .int 4, .int 4, .int 6, .int 6] := x_cap (by simp [lim])
  have dp' : g__law_dig [L cells, .int 0, .lst [D.int 8, .int 6, .int 41, .int 61, .int 4, .int 4, .int 6, .int 6]] = .ok (L [p0, p1, p2, p3, p4, p5, p6, p7]) := dp
  -- the length and the bound of the periods
  obtain ⟨lim0, N, hl0, hN, hlim⟩ : ∃ (l : Int) (N : Nat), (l = 12 ∨ l = 20) ∧ N ≤ 60 ∧ ((p0 = 5 ∧ l = 20 ∧ (N : Int) = p3) ∨ (p0 ≠ 5 ∧ l = 12 ∧ (N : Int) = p2)) := by
    by_cases c : p0 = 5
    · exact ⟨20, p3.toNat, .inr rfl, by omega, .inl ⟨c, rfl, by omega⟩⟩
    · exact ⟨12, p2.toNat, .inl rfl, by omega, .inr ⟨c, rfl, by omega⟩⟩
  have hL : (sIf (fB (f2 eqD (f2 ixD (fVar 2) (fC (.int 0))) (fC (.int 5)))) (sSeq (sSet 3 (fC (.int 20))) (sSet 4 (f2 ixD (fVar 2) (fC (.int 3))))) sNx) [some (.scr ns, false), some (L cells, false), some (L [p0, p1, p2, p3, p4, p5, p6, p7], false), some (.int 12, false), some (.int p2, false), none, none, none, none, none, none, none, none, none, none, none, none, none, none, none, none, none, none, none, none]
      = .ok (.nx [some (.scr ns, false), some (L cells, false), some (L [p0, p1, p2, p3, p4, p5, p6, p7], false), some (.int lim0, false), some (.int N, false), none, none, none, none, none, none, none, none, none, none, none, none, none, none, none, none, none, none, none, none]) := by
    rcases hlim with ⟨c, e1, e2⟩ | ⟨c, e1, e2⟩
    · have hc : decide (p0 = 5) = true := decide_eq_true c
      rw [e1, e2]
      simp only [x_if, x_fB, x_f2, x_fC, fVar, List.getElem?_cons_succ, List.getElem?_cons_zero, R.bind_ok, ix0, ix3, x_eq, x_toB, hc, if_true, x_seq, x_set, List.set_cons_succ, List.set_cons_zero]
    · rw [e1, e2]
      simp only [x_if, x_fB, x_f2, x_fC, fVar, List.getElem?_cons_succ, List.getElem?_cons_zero, R.bind_ok, ix0, x_eq, x_toB, c, decide_false, Bool.false_eq_true, if_false, x_nx]
  -- the periods
  have : ∀ k : Int, ∃ r : Int, 0 ≤ k → k < 10 → g__law_dig [L cells, .int (1 + k), .lst [.int lim0]] = .ok (L [r]) ∧ 0 ≤ r ∧ r < lim0 := fun k => by
    by_cases c : 0 ≤ k ∧ k < 10
    · obtain ⟨row, d1, hrow⟩ := dig_ok (cells := cells) (place := 1 + k) (sizes := [lim0]) (by omega) (by omega) (by simp; omega) (by simp)
      cases hrow with | cons a b h => cases h with | nil => exact ⟨_, fun _ _ => ⟨d1, a, b⟩⟩
    · exact ⟨0, fun h1 h2 => absurd ⟨h1, h2⟩ c⟩
  obtain ⟨f, hf⟩ := Classical.axiomOfChoice this
  obtain ⟨ps, hps⟩ : ∃ ps : List Int, ps = ((List.range (1 + p1 - 0).toNat).map fun (i : Nat) => (0 : Int) + (i : Int)).map fun k => 1 + f k := ⟨_, rfl⟩
  have hnl : ps.length = (1 + p1).toNat := by rw [hps]; simp
  have hpb : ∀ p ∈ ps, 1 ≤ p ∧ p ≤ 20 := fun p hp => by
    rw [hps] at hp
    obtain ⟨k, hk, rfl⟩ := List.mem_map.mp hp
    obtain ⟨i, hi, rfl⟩ := List.mem_map.mp hk
    have := List.mem_range.mp hi
    have := hf (0 + (i : Int)) (by omega) (by omega)
    omega
  have hnn : ps ≠ [] := fun e => by rw [e] at hnl; simp at hnl; omega
  have hcn : fLc [16] (gR1 (gCons (f2 addD (fC (.int 1)) (f2 ixD (fVar 2) (fC (.int 1)))) (gNil))) (tName 16) (gYes) (f2 addD (fC (.int 1)) (f2 ixD (fCall 3 g__law_dig (gCons (fVar 1) (gCons (f2 addD (fC (.int 1)) (fVar 16)) (gCons (fL (fLst (gCons (fVar 3) (gNil)))) (gNil))))) (fC (.int 0)))) [some (.scr ns, false), some (L cells, false), some (L [p0, p1, p2, p3, p4, p5, p6, p7], false), some (.int lim0, false), some (.int N, false), none, none, none, none, none, none, none, none, none, none, none, none, none, none, none, none, none, none, none, none] = .ok (ps.map D.int) := by
    rw [hps, List.map_map]
    have r1 : rng1 [.int (1 + p1)] = .ok (rangeL 0 (1 + p1)) := x_rng1 (by omega)
    refine lc_all (inj := D.int) (D.int ∘ fun k => 1 + f k) (by simp only [x_gR1, x_gCons, x_gNil, x_f2, x_fC, fVar, List.getElem?_cons_succ, List.getElem?_cons_zero, R.bind_ok, ix1, x_add, r1, rangeL_eq]) (by rw [List.length_map, List.length_range]; simp only [lim]; omega) fun k hk => ⟨_, rfl, ?_⟩
    obtain ⟨i, hi, rfl⟩ := List.mem_map.mp hk
    have := List.mem_range.mp hi
    have e1 := (hf (0 + (i : Int)) (by omega) (by omega)).1
    have c1 : cap lim [D.int lim0] = .ok [.int lim0] := x_cap (by simp [lim])
    simp only [x_f2, x_fC, x_fCall, x_gCons, x_gNil, x_fL, x_fLst, fVar, wipeE, List.set_cons_succ, List.set_cons_zero, List.getElem?_cons_succ, List.getElem?_cons_zero, R.bind_ok, x_add, c1, List.length_cons, List.length_nil, if_true, e1, ix0, Function.comp]
  have G : Gp ps := ⟨hnn, by omega, fun p hp => by have := hpb p hp; omega⟩
  -- the spots
  obtain ⟨row, dsp, hrow⟩ := dig_ok (cells := cells) (place := 7) (sizes := [1000000000, 1000000000, 1000000000]) (by decide) (by decide) (by simp) (by simp)
  obtain ⟨s0, s1, s2, rfl, sa0, sb0, sa1, sb1, sa2, sb2⟩ : ∃ r0 r1 r2 : Int, row = [r0, r1, r2] ∧ 0 ≤ r0 ∧ r0 < 1000000000 ∧ 0 ≤ r1 ∧ r1 < 1000000000 ∧ 0 ≤ r2 ∧ r2 < 1000000000 := by
    cases hrow with | cons a0 b0 h => cases h with | cons a1 b1 h => cases h with | cons a2 b2 h => cases h with | nil =>
    exact ⟨_, _, _, rfl, a0, b0, a1, b1, a2, b2⟩
  have c3 : cap lim [D.int 1000000000, .int 1000000000, .int 1000000000] = .ok [D.int 1000000000, .int 1000000000, .int 1000000000] := x_cap (by simp [lim])
  have dsp' : g__law_dig [L cells, .int 7, .lst [D.int 1000000000, .int 1000000000, .int 1000000000]] = .ok (L [s0, s1, s2]) := dsp
  -- near
  have hp1000 : ∀ p ∈ ps, 0 < p ∧ p ≤ 1000 := fun p hp => by have := hpb p hp; omega
  obtain ⟨lo, hi, tb1, mk1, mk2⟩ := table_ok hp1000 (N := N) (by omega) 1 0
  have T1 := total_ok (N := N) (lo := lo) (hi := hi) (m := 1) (more := 0) (by omega) (by decide) (by decide) (by decide) (by decide)
  have rg1 := (far_rg (m := 1) (more := 0) (by decide) (by decide) (by decide) mk1 mk2).set (S' := (· ∈ ps)) fun x => ⟨fun ⟨y, hy, e⟩ => by rw [e, Int.one_mul]; exact hy, fun h => ⟨x, h, (Int.one_mul x).symm⟩⟩
  rw [show (1 : Int) * N + 0 = N by omega] at rg1
  have A1 : g__law_asked [L ps, .int N, .int (tot 1 0 N lo hi), Tab 1 0 N lo hi, .lst [], L [s0, s1, s2]] = .ok (.bl true) :=
    asked_ok (N := N) (lo := lo) (hi := hi) (m := 1) (more := 0) (st := []) (by omega) (by decide) (by decide) (by decide) (by decide) mk1 mk2 .lst G (by omega) (by omega) (by simp) (show (N : Int) = 1 * N + 0 by omega) rg1
  -- big
  obtain ⟨row, dbg, hrow⟩ := dig_ok (cells := cells) (place := 8) (sizes := [9, 100000000, 100000000, 3, 100000000, 100000000]) (by decide) (by decide) (by simp) (by simp)
  obtain ⟨q0, q1, q2, q3, q4, q5, rfl, ca0, cb0, ca1, cb1, ca2, cb2, ca3, cb3, ca4, cb4, ca5, cb5⟩ : ∃ r0 r1 r2 r3 r4 r5 : Int, row = [r0, r1, r2, r3, r4, r5] ∧ 0 ≤ r0 ∧ r0 < 9 ∧ 0 ≤ r1 ∧ r1 < 100000000 ∧ 0 ≤ r2 ∧ r2 < 100000000 ∧ 0 ≤ r3 ∧ r3 < 3 ∧ 0 ≤ r4 ∧ r4 < 100000000 ∧ 0 ≤ r5 ∧ r5 < 100000000 := by
    cases hrow with | cons a0 b0 h => cases h with | cons a1 b1 h => cases h with | cons a2 b2 h => cases h with | cons a3 b3 h => cases h with | cons a4 b4 h => cases h with | cons a5 b5 h => cases h with | nil =>
    exact ⟨_, _, _, _, _, _, rfl, a0, b0, a1, b1, a2, b2, a3, b3, a4, b4, a5, b5⟩
  have c6 : cap lim [D.int 9, .int 100000000, .int 100000000, .int 3, .int 100000000, .int 100000000] = .ok [D.int 9, .int 100000000, .int 100000000, .int 3, .int 100000000, .int 100000000] := x_cap (by simp [lim])
  have dbg' : g__law_dig [L cells, .int 8, .lst [D.int 9, .int 100000000, .int 100000000, .int 3, .int 100000000, .int 100000000]] = .ok (L [q0, q1, q2, q3, q4, q5]) := dbg
  have mq : mulD (.int q1) (.int 100000000) = .ok (.int (q1 * 100000000)) := mul64 (by omega) (by omega)
  have mq4 : mulD (.int q4) (.int 100000000) = .ok (.int (q4 * 100000000)) := mul64 (by omega) (by omega)
  have c4' : cap lim [D.int (2 + q0), .int (1 + q1), .int (1 + q1), .int (1 + q1 * 100000000 + q2)] = .ok [D.int (2 + q0), .int (1 + q1), .int (1 + q1), .int (1 + q1 * 100000000 + q2)] := x_cap (by simp [lim])
  obtain ⟨m, hm, m1, m2⟩ : ∃ m : Int, ixD (.lst [D.int (2 + q0), .int (1 + q1), .int (1 + q1), .int (1 + q1 * 100000000 + q2)]) (.int p4) = .ok (.int m) ∧ 1 ≤ m ∧ m ≤ 10000000000000000 := by
    rcases (by omega : p4 = 0 ∨ p4 = 1 ∨ p4 = 2 ∨ p4 = 3) with e | e | e | e
    all_goals rw [e]
    · exact ⟨_, lx0, by omega, by omega⟩
    · exact ⟨_, lx1, by omega, by omega⟩
    · exact ⟨_, lx2, by omega, by omega⟩
    · exact ⟨_, lx3, by omega, by omega⟩
  have md1 : modD (.int q4) (.int m) = .ok (.int (q4 % m)) := x_mod (by omega)
  have md2 : modD (.int (q4 * 100000000 + q5)) (.int m) = .ok (.int ((q4 * 100000000 + q5) % m)) := x_mod (by omega)
  have w1 := Int.emod_nonneg q4 (show m ≠ 0 by omega)
  have w2 := Int.emod_lt_of_pos q4 (show 0 < m by omega)
  have w3 := Int.emod_nonneg (q4 * 100000000 + q5) (show m ≠ 0 by omega)
  have w4 := Int.emod_lt_of_pos (q4 * 100000000 + q5) (show 0 < m by omega)
  have c3' : cap lim [D.int 0, .int (q4 % m), .int ((q4 * 100000000 + q5) % m)] = .ok [D.int 0, .int (q4 % m), .int ((q4 * 100000000 + q5) % m)] := x_cap (by simp [lim])
  obtain ⟨more, hmo, o1, o2⟩ : ∃ more : Int, ixD (.lst [D.int 0, .int (q4 % m), .int ((q4 * 100000000 + q5) % m)]) (.int q3) = .ok (.int more) ∧ 0 ≤ more ∧ more ≤ m := by
    rcases (by omega : q3 = 0 ∨ q3 = 1 ∨ q3 = 2) with e | e | e
    all_goals rw [e]
    · exact ⟨_, lx0, by omega, by omega⟩
    · exact ⟨_, lx1, by omega, by omega⟩
    · exact ⟨_, lx2, by omega, by omega⟩
  obtain ⟨lo2, hi2, tb2, mk3, mk4⟩ := table_ok hp1000 (N := N) (by omega) m more
  have T2 := total_ok (N := N) (lo := lo2) (hi := hi2) (m := m) (more := more) (by omega) (by omega) (by omega) o1 o2
  -- great
  obtain ⟨gr, hgr⟩ : ∃ gr : List Int, gr = ps.map (m * ·) := ⟨_, rfl⟩
  have mp20 : ∀ p : Int, 1 ≤ p → p ≤ 20 → 1 ≤ m * p ∧ m * p ≤ 200000000000000000 := fun p h1 h2 => by
    have k1 := Int.mul_le_mul m2 h2 (by omega) (by omega)
    have k2 := Int.mul_le_mul m1 h1 (by omega) (by omega)
    omega
  have G2 : Gp gr := by
    rw [hgr]
    refine ⟨fun e => hnn (List.map_eq_nil_iff.mp e), by rw [List.length_map]; omega, fun p hp => ?_⟩
    obtain ⟨y, hy, rfl⟩ := List.mem_map.mp hp
    have := hpb y hy
    have := mp20 y this.1 this.2
    omega
  have mN : 0 ≤ m * (N : Int) ∧ m * (N : Int) ≤ 600000000000000000 := by
    have k1 := Int.mul_le_mul m2 (show (N : Int) ≤ 60 by omega) (by omega) (by omega)
    exact ⟨Int.mul_nonneg (by omega) (by omega), by omega⟩
  have mlN : mulD (.int m) (.int N) = .ok (.int (m * N)) := mul64 (by omega) (by omega)
  have rg2 := (far_rg (m := m) (more := more) (by omega) o1 o2 mk3 mk4).set (S' := (· ∈ gr)) fun x => by
    rw [hgr, List.mem_map]
    exact ⟨fun ⟨y, hy, e⟩ => ⟨y, hy, e.symm⟩, fun ⟨y, hy, e⟩ => ⟨y, hy, e.symm⟩⟩
  have g9 : ∀ s : Int, 0 ≤ s → s < 1000000000 → mulD (.int s) (.int 1000000000) = .ok (.int (s * 1000000000)) := fun s h1 h2 => mul64 (by omega) (by omega)
  obtain ⟨far, hfar⟩ : ∃ far : List Int, far = [s0, s1, s2].map fun d => d * 1000000000 + s0 := ⟨_, rfl⟩
  have farl : far.length = 3 := by rw [hfar]; rfl
  have A2 : g__law_asked [L gr, .int (m * N + more), .int (tot m more N lo2 hi2), Tab m more N lo2 hi2, .lst [], L far] = .ok (.bl true) :=
    asked_ok (N := N) (lo := lo2) (hi := hi2) (m := m) (more := more) (st := []) (by omega) (by omega) (by omega) o1 o2 mk3 mk4 .lst G2 (by omega) (by omega) (by omega) (show m * (N : Int) + more = m * N + more from rfl) rg2
  have LD : Led (m * N + more) (num m more lo2 hi2) gr (m * N + more) (tot m more N lo2 hi2) [] := ⟨G2, by omega, by omega, rfl, rg2⟩
  obtain ⟨rows, size, count, st, hled, LD2⟩ := led_on_ok (cells := cells) (r := p5) LD (by omega) (by omega)
  have A3 : g__law_asked [.tup (rows.map .int), .int size, .int count, Tab m more N lo2 hi2, .lst (st.map stD), L far] = .ok (.bl true) :=
    asked_ok (N := N) (lo := lo2) (hi := hi2) (m := m) (more := more) (st := st) (by omega) (by omega) (by omega) o1 o2 mk3 mk4 .tup LD2.g LD2.s0 LD2.s1 (by omega) LD2.ch LD2.rg
  -- the tests of the list handed in
  have c0 : cap lim ([] : List D) = .ok [] := x_cap (by simp)
  have hA1 : lendE [8] (fCall 6 g__law_asked (gCons (fVar 8) (gCons (fVar 4) (gCons (fCall 1 g__law_total (gCons (fVar 7) (gNil))) (gCons (fVar 7) (gCons (fL (fLst (gNil))) (gCons (fVar 6) (gNil)))))))) [some (.scr ns, false), some (L cells, false), some (L [p0, p1, p2, p3, p4, p5, p6, p7], false), some (.int lim0, false), some (.int N, false), some (L ps, false), some (L [s0, s1, s2], false), some (Tab 1 0 N lo hi, false), some (L ps, true), none, none, none, none, none, none, none, none, none, none, none, none, none, none, none, none] = .ok (.bl true) := x_lend (by
    show (fCall 6 g__law_asked _) [some (.scr ns, false), some (L cells, false), some (L [p0, p1, p2, p3, p4, p5, p6, p7], false), some (.int lim0, false), some (.int N, false), some (L ps, false), some (L [s0, s1, s2], false), some (Tab 1 0 N lo hi, false), some (L ps, false), none, none, none, none, none, none, none, none, none, none, none, none, none, none, none, none] = _
    simp -implicitDefEqProofs only [x_fCall, x_gCons, x_gNil, x_fL, x_fLst, fVar, List.getElem?_cons_succ, List.getElem?_cons_zero, R.bind_ok, List.length_cons, List.length_nil, if_true, T1, c0, A1])
  have hcp : fLc [23] (gIt (fVar 5)) (tName 23) (gYes) (f2 mulD (fVar 11) (fVar 23)) [some (.scr ns, false), some (L cells, false), some (L [p0, p1, p2, p3, p4, p5, p6, p7], false), some (.int lim0, false), some (.int N, false), some (L ps, false), some (L [s0, s1, s2], false), some (Tab 1 0 N lo hi, false), some (L ps, true), some (L [q0, q1, q2, q3, q4, q5], false), some (.int (1 + q1 * 100000000 + q2), false), some (.int m, false), some (.int more, false), some (Tab m more N lo2 hi2, false), some (.int (tot m more N lo2 hi2), false), none, none, none, none, none, none, none, none, none, none] = .ok (gr.map D.int) := by
    rw [hgr, List.map_map]
    refine lc_all (inj := D.int) (D.int ∘ (m * ·)) (by simp [fVar]) (by simp only [lim]; omega) fun p hp => ⟨_, rfl, ?_⟩
    have := hpb p hp
    have hmul : mulD (.int m) (.int p) = .ok (.int (m * p)) := mul64 (by omega) (by omega)
    simp only [x_f2, fVar, wipeE, List.set_cons_succ, List.set_cons_zero, List.getElem?_cons_succ, List.getElem?_cons_zero, R.bind_ok, hmul, Function.comp]
  obtain ⟨x16, hfill⟩ := fill_ok (ps := ps) (qs := gr) (by rw [hgr, List.length_map]) [some (.scr ns, false), some (L cells, false), some (L [p0, p1, p2, p3, p4, p5, p6, p7], false), some (.int lim0, false), some (.int N, false), some (L ps, false), some (L [s0, s1, s2], false), some (Tab 1 0 N lo hi, false)] rfl
    [some (L [q0, q1, q2, q3, q4, q5], false), some (.int (1 + q1 * 100000000 + q2), false), some (.int m, false), some (.int more, false), some (Tab m more N lo2 hi2, false), some (.int (tot m more N lo2 hi2), false)] rfl [none, none, none, none, none, none, none, none]
  simp only [List.cons_append, List.nil_append] at hfill
  have rl : rng1 [.int (ps.length : Int)] = .ok (rangeL 0 ps.length) := x_rng1 (by omega)
  have hcf : fLc [24] (gIt (fVar 6)) (tName 24) (gYes) (f2 addD (f2 mulD (fVar 24) (f2 powD (fC (.int 10)) (fC (.int 9)))) (f2 ixD (fVar 6) (fC (.int 0)))) [some (.scr ns, false), some (L cells, false), some (L [p0, p1, p2, p3, p4, p5, p6, p7], false), some (.int lim0, false), some (.int N, false), some (L ps, false), some (L [s0, s1, s2], false), some (Tab 1 0 N lo hi, false), some (L gr, true), some (L [q0, q1, q2, q3, q4, q5], false), some (.int (1 + q1 * 100000000 + q2), false), some (.int m, false), some (.int more, false), some (Tab m more N lo2 hi2, false), some (.int (tot m more N lo2 hi2), false), some (L gr, false), x16, none, none, none, none, none, none, none, none] = .ok (far.map D.int) := by
    rw [hfar, List.map_map]
    refine lc_all (inj := D.int) (D.int ∘ fun d => d * 1000000000 + s0) (by simp only [x_gIt, fVar, List.getElem?_cons_succ, List.getElem?_cons_zero, R.bind_ok, x_itD]) (by simp [lim]) fun d hd => ⟨_, rfl, ?_⟩
    have hd2 : 0 ≤ d ∧ d < 1000000000 := by
      simp only [List.mem_cons, List.not_mem_nil, or_false] at hd
      omega
    have := g9 d hd2.1 hd2.2
    simp only [x_f2, x_fC, fVar, wipeE, List.set_cons_succ, List.set_cons_zero, List.getElem?_cons_succ, List.getElem?_cons_zero, R.bind_ok, p9, this, ix0, x_add, Function.comp]
  have hA2 : lendE [8] (fCall 6 g__law_asked (gCons (fVar 8) (gCons (f2 addD (f2 mulD (fVar 11) (fVar 4)) (fVar 12)) (gCons (fVar 14) (gCons (fVar 13) (gCons (fL (fLst (gNil))) (gCons (fVar 17) (gNil)))))))) [some (.scr ns, false), some (L cells, false), some (L [p0, p1, p2, p3, p4, p5, p6, p7], false), some (.int lim0, false), some (.int N, false), some (L ps, false), some (L [s0, s1, s2], false), some (Tab 1 0 N lo hi, false), some (L gr, true), some (L [q0, q1, q2, q3, q4, q5], false), some (.int (1 + q1 * 100000000 + q2), false), some (.int m, false), some (.int more, false), some (Tab m more N lo2 hi2, false), some (.int (tot m more N lo2 hi2), false), some (L gr, false), x16, some (L far, false), none, none, none, none, none, none, none] = .ok (.bl true) := x_lend (by
    show (fCall 6 g__law_asked _) [some (.scr ns, false), some (L cells, false), some (L [p0, p1, p2, p3, p4, p5, p6, p7], false), some (.int lim0, false), some (.int N, false), some (L ps, false), some (L [s0, s1, s2], false), some (Tab 1 0 N lo hi, false), some (L gr, false), some (L [q0, q1, q2, q3, q4, q5], false), some (.int (1 + q1 * 100000000 + q2), false), some (.int m, false), some (.int more, false), some (Tab m more N lo2 hi2, false), some (.int (tot m more N lo2 hi2), false), some (L gr, false), x16, some (L far, false), none, none, none, none, none, none, none] = _
    simp -implicitDefEqProofs only [x_fCall, x_gCons, x_gNil, x_fL, x_fLst, x_f2, fVar, List.getElem?_cons_succ, List.getElem?_cons_zero, R.bind_ok, List.length_cons, List.length_nil, if_true, mlN, x_add, c0, A2])
  -- two periods
  obtain ⟨row, dtw, hrow⟩ := dig_ok (cells := cells) (place := 9) (sizes := [4, 1000000000, 1000000000, 1000000000, 1000000000, 9, 1000000000, 1000000000]) (by decide) (by decide) (by simp) (by simp)
  obtain ⟨a, b, t0, t1, t2, t3, t4, t5, t6, t7, rfl, ht6, ht7, htw, ta, tab, tb⟩ := two_ok hrow
  have cx8 : cap lim [D.int 4, .int 1000000000, .int 1000000000, .int 1000000000, .int 1000000000, .int 9, .int 1000000000, .int 1000000000] = .ok [D.int 4, .int 1000000000, .int 1000000000, .int 1000000000, .int 1000000000, .int 9, .int 1000000000, .int 1000000000] := x_cap (by simp [lim])
  have dtw' : g__law_dig [L cells, .int 9, .lst [D.int 4, .int 1000000000, .int 1000000000, .int 1000000000, .int 1000000000, .int 9, .int 1000000000, .int 1000000000]] = .ok (L [t0, t1, t2, t3, t4, t5, t6, t7]) := dtw
  have jx6 : ixD (L [t0, t1, t2, t3, t4, t5, t6, t7]) (.int 6) = .ok (.int t6) := x_ix (atI_nat (j := 6) rfl)
  have jx7 : ixD (L [t0, t1, t2, t3, t4, t5, t6, t7]) (.int 7) = .ok (.int t7) := x_ix (atI_nat (j := 7) rfl)
  have mt6 := g9 t6 ht6.1 ht6.2
  have TW := two_asked_ok (low := a) (high := b) (dr := t6 * 1000000000 + t7) ta tab tb
  -- refusals
  have p39 : powD (.int 10) (.int 39) = .ok (.int 1000000000000000000000000000000000000000) := x_pow (by decide)
  have lx4 : ∀ {a b c d e : D} {xs : List D}, ixD (.lst (a :: b :: c :: d :: e :: xs)) (.int 4) = .ok e := x_ix (atI_nat (j := 4) rfl)
  have lx5 : ∀ {a b c d e f : D} {xs : List D}, ixD (.lst (a :: b :: c :: d :: e :: f :: xs)) (.int 5) = .ok f := x_ix (atI_nat (j := 5) rfl)
  have cb : cap lim [D.int 0, .int (-1), .int (1000000000000000000 + 1), .int (-1 - s1), .int (1000000000000000000 + 1 + s1), .int (-1000000000000000000000000000000000000000)] = .ok [D.int 0, .int (-1), .int (1000000000000000000 + 1), .int (-1 - s1), .int (1000000000000000000 + 1 + s1), .int (-1000000000000000000000000000000000000000)] := x_cap (by simp [lim])
  have cl6 : cap lim [D.int (-1), .int (1000000000000000000 + 1), .int (-1), .int (1000000000000000000 + 1), .int (-1), .int (1000000000000000000 + 1)] = .ok [D.int (-1), .int (1000000000000000000 + 1), .int (-1), .int (1000000000000000000 + 1), .int (-1), .int (1000000000000000000 + 1)] := x_cap (by simp [lim])
  obtain ⟨bad, len, hbad, hlen, kb, kl⟩ : ∃ bad len : Int, ixD (.lst [D.int 0, .int (-1), .int (1000000000000000000 + 1), .int (-1 - s1), .int (1000000000000000000 + 1 + s1), .int (-1000000000000000000000000000000000000000)]) (.int p6) = .ok (.int bad) ∧ ixD (.lst [D.int (-1), .int (1000000000000000000 + 1), .int (-1), .int (1000000000000000000 + 1), .int (-1), .int (1000000000000000000 + 1)]) (.int p6) = .ok (.int len) ∧ (bad < 1 ∨ 10 ^ 18 < bad) ∧ (len < 0 ∨ 10 ^ 18 < len) := by
    rcases (by omega : p6 = 0 ∨ p6 = 1 ∨ p6 = 2 ∨ p6 = 3 ∨ p6 = 4 ∨ p6 = 5) with e | e | e | e | e | e
    all_goals rw [e]
    · exact ⟨_, _, lx0, lx0, by omega, by omega⟩
    · exact ⟨_, _, lx1, lx1, by omega, by omega⟩
    · exact ⟨_, _, lx2, lx2, by omega, by omega⟩
    · exact ⟨_, _, lx3, lx3, by omega, by omega⟩
    · exact ⟨_, _, lx4, lx4, by omega, by omega⟩
    · exact ⟨_, _, lx5, lx5, by omega, by omega⟩
  have hlen0 : 0 < (ps.length : Int) := by omega
  have mat : modD (.int p7) (.int (ps.length : Int)) = .ok (.int (p7 % (ps.length : Int))) := x_mod hlen0
  have RF := refusals_ok (n := N) G (Int.emod_nonneg p7 (show (ps.length : Int) ≠ 0 by omega)) (Int.emod_lt_of_pos p7 hlen0) kb kl (by omega) (by omega)
  have tp : tupleD [L rows] = .ok (.tup (rows.map .int)) := rfl
  simp -implicitDefEqProofs only [r_law, b_law, x_seq, x_set, x_setL, x_own, x_fL, x_fSl, x_gNo, x_gSo, x_fCall, x_f2, x_f1, x_fLst, x_gCons, x_gNil, x_fC, fVar, fVarB, List.getElem?_cons_succ, List.getElem?_cons_zero, List.set_cons_succ, List.set_cons_zero, R.bind_ok, hsl, c8, List.length_cons, List.length_nil, if_true, dp', hL, hcn, ix0, ix1, ix2, ix3, ix4, ix5, ix6, ix7, p9, p8, c3, dsp', tb1, x_fBi, x_listL, x_if (c := gNot _), x_if (c := fB (f2 neD _ _)), x_gNot, x_fTru, hA1, x_truB, Bool.not_true, Bool.false_eq_true, if_false, x_nx, x_fB, x_neL, decide_true, x_toB, c6, dbg', mq, x_add, c4', hm, x_int, md1, mq4, md2, c3', hmo, tb2, T2, hcp, x_for, x_gR1, x_len, List.length_map, rl, hfill, hcf, hA2, mlN, hled, lx0, lx1, lx2, lx3, tp, A3, cx8, dtw', htw, jx6, jx7, mt6, TW, p18, p39, x_neg, x_sub, cb, hbad, cl6, hlen, mat, RF, T1, c0, A1, x_ret, x_end_rt]
end K37
set_option maxHeartbeats 8000000
namespace K37
open PySem L2 Pc
theorem sc__law_dig : FnScope n__law_dig ["cells", "place", "sizes"] (defScope s__law_dig) := ⟨rfl, rfl, rfl, by decide +kernel, rfl, by decide +kernel, by decide +kernel⟩
section
variable {P : Program} {w : World} {K : PySem.W.Frag} {mg : Str → Option Value} {base : Heap}
theorem o__law_dig {f : Addr} {fd : FuncData} (T : Txt mg) (F : Fun K "_law_dig" "_law_dig" s__law_dig f fd) :
    FnOk P w K mg base (L2.CX P w) 1 f fd ["cells", "place", "sizes"] (spOf K w mg 3 g__law_dig) := fn_ok F sc__law_dig fun cdv A outer s H E b =>
    (rss_cons (rs_set (i := 3) sc__law_dig.nd rfl (by first | exact Or.inl rfl | exact Or.inr rfl) re_int)
    (rss_cons (rs_if (rt_cmp or_lt od_lt (RE.b (re_var 1)) (RE.b (re_bi c_len d_len (by rfl) T.b_len PySem.boot_len (rab_cons (RE.b (re_var 0)) rab_nil))) (nomark _)) (rss_one (rs_set (i := 3) sc__law_dig.nd rfl (by first | exact Or.inl rfl | exact Or.inr rfl) (re_ix (RE.b (re_var 0)) (RE.b (re_var 1)) (fun _ _ => rfl)))) rss_nil)
    (rss_cons (rs_set (i := 4) sc__law_dig.nd rfl (by first | exact Or.inl rfl | exact Or.inr rfl) (re_bi call_abs d_abs (by rfl) T.b_abs PyProof.Rows.boot_abs (rab_cons (RE.b (re_var 3)) rab_nil)))
    (rss_cons (rs_own (i := 5) sc__law_dig.nd rfl (by first | exact Or.inl rfl | exact Or.inr rfl) (rf_lst ra_nil))
    (rss_cons (rs_for (fb := b__law_dig_1) b.hp b.q.hc (ri_range1 (by rfl) T.b_range (ra_cons (re_bi c_len d_len (by rfl) T.b_len PySem.boot_len (rab_cons (RE.b (re_var 2)) rab_nil)) ra_nil)) (rg_name sc__law_dig.nd rfl (by first | exact Or.inl rfl | exact Or.inr rfl)) (rss_cons (rs_if (rt_cmp or_lt od_lt (RE.b (re_bi call_abs d_abs (by rfl) T.b_abs PyProof.Rows.boot_abs (rab_cons (RE.b (re_var 3)) rab_nil))) (RE.b (re_op op_pow od_pow (RE.b re_int) (RE.b re_int))) (nomark _)) (rss_cons (rs_set (i := 7) sc__law_dig.nd rfl (by first | exact Or.inl rfl | exact Or.inr rfl) (re_op op_mod od_mod (RE.b (re_ty call_int1 d_int (by rfl) T.b_int PyProof.Rows.boot_int (rab_cons (RE.b (re_op or_add od_add (RE.b (re_op or_add od_add (RE.b (re_op or_add od_add (RE.b (re_op or_mul od_mul (RE.b (re_var 3)) (RE.b re_int))) (RE.b (re_op or_mul od_mul (RE.b (re_var 1)) (RE.b re_int))))) (RE.b (re_op or_mul od_mul (RE.b (re_var 6)) (RE.b re_int))))) (RE.b re_int))) rab_nil))) (RE.b re_int)))
    (rss_one (rs_set (i := 4) sc__law_dig.nd rfl (by first | exact Or.inl rfl | exact Or.inr rfl) (re_op op_fdivW od_fdiv (RE.b (re_op op_mod od_mod (RE.b (re_ty call_int1 d_int (by rfl) T.b_int PyProof.Rows.boot_int (rab_cons (RE.b (re_op or_add od_add (RE.b (re_op or_add od_add (RE.b (re_op or_mul od_mul (RE.b (re_var 7)) (RE.b (re_var 7)))) (RE.b (re_op or_mul od_mul (RE.b (re_var 6)) (RE.b re_int))))) (RE.b (re_var 1)))) rab_nil))) (RE.b re_int))) (RE.b re_int))))) rss_nil)
    (rss_cons (rs_app (i := 5) rfl (by first | exact Or.inl rfl | exact Or.inr (Or.inl rfl)) (re_op op_mod od_mod (RE.b (re_ty call_int1 d_int (by rfl) T.b_int PyProof.Rows.boot_int (rab_cons (RE.b (re_var 4)) rab_nil))) (RE.b (re_ix (RE.b (re_var 2)) (RE.b (re_var 6)) (fun _ _ => rfl)))))
    (rss_one (rs_set (i := 4) sc__law_dig.nd rfl (by first | exact Or.inl rfl | exact Or.inr rfl) (re_op op_fdivW od_fdiv (RE.b (re_var 4)) (RE.b (re_ix (RE.b (re_var 2)) (RE.b (re_var 6)) (fun _ _ => rfl)))))))))
    (rss_one (rs_frz [5] (rs_ret (re_var 5)))))))))
end
theorem sc__law_closing : FnScope n__law_closing ["periods", "n"] (defScope s__law_closing) := ⟨rfl, rfl, rfl, by decide +kernel, rfl, by decide +kernel, by decide +kernel⟩
section
variable {P : Program} {w : World} {K : PySem.W.Frag} {mg : Str → Option Value} {base : Heap}
theorem o__law_closing {f : Addr} {fd : FuncData} (T : Txt mg) (F : Fun K "_law_closing" "_law_closing" s__law_closing f fd) :
    FnOk P w K mg base (L2.CX P w) 1 f fd ["periods", "n"] (spOf K w mg 2 g__law_closing) := fn_ok F sc__law_closing fun cdv A outer s H E b =>
    (rss_cons (rs_set (i := 2) sc__law_closing.nd rfl (by first | exact Or.inl rfl | exact Or.inr rfl) (rfe (rf_listRange1 b.q.hc (by rfl) T.b_list (by rfl) T.b_range (re_var 1))))
    (rss_cons (rs_for (fb := b__law_closing_2) b.hp b.q.hc (ri_e (re_var 0)) (rg_name sc__law_closing.nd rfl (by first | exact Or.inl rfl | exact Or.inr rfl)) (rss_one (rs_for (fb := b__law_closing_1) b.hp b.q.hc (ri_range1 (by rfl) T.b_range (ra_cons (re_op op_sub od_sub (RE.b (re_var 1)) (RE.b (re_var 3))) ra_nil)) (rg_name sc__law_closing.nd rfl (by first | exact Or.inl rfl | exact Or.inr rfl)) (rss_one (rs_if (rt_cmp (or_ne b.q.hu) od_ne (RE.b (re_ix (RE.b (re_var 2)) (RE.b (re_var 4)) (fun _ _ => rfl))) (RE.b (re_ix (RE.b (re_var 2)) (RE.b (re_op or_add od_add (RE.b (re_var 4)) (RE.b (re_var 3)))) (fun _ _ => rfl))) (nomark _)) (rss_cons (rs_set (i := 5) sc__law_closing.nd rfl (by first | exact Or.inl rfl | exact Or.inr rfl) (re_bi (c_min b.q.hc) d_min (by rfl) T.b_min PyProof.Rows.boot_min (rab_cons (RE.b (re_ix (RE.b (re_var 2)) (RE.b (re_var 4)) (fun _ _ => rfl))) (rab_cons (RE.b (re_ix (RE.b (re_var 2)) (RE.b (re_op or_add od_add (RE.b (re_var 4)) (RE.b (re_var 3)))) (fun _ _ => rfl))) rab_nil))))
    (rss_cons (rs_set (i := 6) sc__law_closing.nd rfl (by first | exact Or.inl rfl | exact Or.inr rfl) (re_bi (c_max b.q.hc) d_max (by rfl) T.b_max PyProof.Rows.boot_max (rab_cons (RE.b (re_ix (RE.b (re_var 2)) (RE.b (re_var 4)) (fun _ _ => rfl))) (rab_cons (RE.b (re_ix (RE.b (re_var 2)) (RE.b (re_op or_add od_add (RE.b (re_var 4)) (RE.b (re_var 3)))) (fun _ _ => rfl))) rab_nil))))
    (rss_one (rs_lc (i := 2) b.q.hc sc__law_closing.nd rfl rfl (sw_true rfl rfl rfl (by decide +kernel)) (ri_e (re_var 2)) (own := [("mark", 7)]) (blkOk_by (N := n__law_closing) (sc := defScope s__law_closing) (by decide +kernel)) (fun s H C cl fp => (rg_name sc__law_closing.nd rfl (by first | exact Or.inl rfl | exact Or.inr rfl))) (fun s H C cl fp => rp_nil) (fun s H C cl fp => (re_ifExp (rt_cmp (or_eq (b.q.blk s H _ _ fp).hu) od_eq (RE.b (re_var 7)) (RE.b (re_var 6)) (nomark _)) (re_var 5) (re_var 7))) (by decide))))) rss_nil)))))
    (rss_one (rs_ret (re_var 2)))))
end
theorem sc__law_table : FnScope n__law_table ["periods", "n", "m", "more"] (defScope s__law_table) := ⟨rfl, rfl, rfl, by decide +kernel, rfl, by decide +kernel, by decide +kernel⟩
section
variable {P : Program} {w : World} {K : PySem.W.Frag} {mg : Str → Option Value} {base : Heap}
theorem o__law_table {f : Addr} {fd : FuncData} (T : Txt mg) (D__law_closing : Def P w K mg base "_law_closing" 1 2 g__law_closing) (F : Fun K "_law_table" "_law_table" s__law_table f fd) :
    FnOk P w K mg base (L2.CX P w) 2 f fd ["periods", "n", "m", "more"] (spOf K w mg 4 g__law_table) := fn_ok F sc__law_table fun cdv A outer s H E b =>
    (rss_one (rs_ret (rfe (rf_lst (ra_cons (re_var 2) (ra_cons (re_var 3) (ra_cons (re_call D__law_closing b.q (by decide) (by rfl) (ra_cons (re_var 0) (ra_cons (re_var 1) ra_nil))) (ra_cons (re_call D__law_closing b.q (by decide) (by rfl) (ra_cons (re_var 0) (ra_cons (re_op or_add od_add (RE.b (re_var 1)) (RE.b re_int)) ra_nil))) ra_nil))))))))
end
theorem sc__law_firsts : FnScope n__law_firsts ["marks"] (defScope s__law_firsts) := ⟨rfl, rfl, rfl, by decide +kernel, rfl, by decide +kernel, by decide +kernel⟩
section
variable {P : Program} {w : World} {K : PySem.W.Frag} {mg : Str → Option Value} {base : Heap}
theorem o__law_firsts {f : Addr} {fd : FuncData} (T : Txt mg) (F : Fun K "_law_firsts" "_law_firsts" s__law_firsts f fd) :
    FnOk P w K mg base (L2.CX P w) 1 f fd ["marks"] (spOf K w mg 1 g__law_firsts) := fn_ok F sc__law_firsts fun cdv A outer s H E b =>
    (rss_one (rs_ret (rfe (rf_lc b.q.hc sc__law_firsts.nd (ri_range1 (by rfl) T.b_range (ra_cons (re_bi c_len d_len (by rfl) T.b_len PySem.boot_len (rab_cons (RE.b (re_var 0)) rab_nil)) ra_nil)) (own := [("t", 1)]) (blkOk_by (N := n__law_firsts) (sc := defScope s__law_firsts) (by decide +kernel)) (fun s H C cl fp => (rg_name sc__law_firsts.nd rfl (by first | exact Or.inl rfl | exact Or.inr rfl))) (fun s H C cl fp => (rp_one (rt_cmp (or_eq (b.q.blk s H _ _ fp).hu) od_eq (RE.b (re_ix (RE.b (re_var 0)) (RE.b (re_var 1)) (fun _ _ => rfl))) (RE.b (re_var 1)) (nomark _)))) (fun s H C cl fp => (re_var 1)) (by decide)))))
end
theorem sc__law_total : FnScope n__law_total ["tab"] (defScope s__law_total) := ⟨rfl, rfl, rfl, by decide +kernel, rfl, by decide +kernel, by decide +kernel⟩
section
variable {P : Program} {w : World} {K : PySem.W.Frag} {mg : Str → Option Value} {base : Heap}
theorem o__law_total {f : Addr} {fd : FuncData} (T : Txt mg) (D__law_firsts : Def P w K mg base "_law_firsts" 1 1 g__law_firsts) (F : Fun K "_law_total" "_law_total" s__law_total f fd) :
    FnOk P w K mg base (L2.CX P w) 2 f fd ["tab"] (spOf K w mg 1 g__law_total) := fn_ok F sc__law_total fun cdv A outer s H E b =>
    (rss_cons (rs_set (i := 1) sc__law_total.nd rfl (by first | exact Or.inl rfl | exact Or.inr rfl) (re_bi c_len d_len (by rfl) T.b_len PySem.boot_len (rab_cons (RE.b (re_call D__law_firsts b.q (by decide) (by rfl) (ra_cons (re_ix (RE.b (re_var 0)) (RE.b re_int) (fun _ _ => rfl)) ra_nil))) rab_nil)))
    (rss_one (rs_ret (re_op or_add od_add (RE.b (re_op or_mul od_mul (RE.b (re_ix (RE.b (re_var 0)) (RE.b re_int) (fun _ _ => rfl))) (RE.b (re_var 1)))) (RE.b (re_op or_mul od_mul (RE.b (re_ix (RE.b (re_var 0)) (RE.b re_int) (fun _ _ => rfl))) (RE.b (re_op op_sub od_sub (RE.b (re_bi c_len d_len (by rfl) T.b_len PySem.boot_len (rab_cons (RE.b (re_call D__law_firsts b.q (by decide) (by rfl) (ra_cons (re_ix (RE.b (re_var 0)) (RE.b re_int) (fun _ _ => rfl)) ra_nil))) rab_nil))) (RE.b (re_var 1))))))))))
end
theorem sc__law_led_on : FnScope n__law_led_on ["cells", "periods", "n", "total", "rounds"] (defScope s__law_led_on) := ⟨rfl, rfl, rfl, by decide +kernel, rfl, by decide +kernel, by decide +kernel⟩
section
variable {P : Program} {w : World} {K : PySem.W.Frag} {mg : Str → Option Value} {base : Heap}
theorem o__law_led_on {f : Addr} {fd : FuncData} (T : Txt mg) (D__law_dig : Def P w K mg base "_law_dig" 1 3 g__law_dig) (F : Fun K "_law_led_on" "_law_led_on" s__law_led_on f fd) :
    FnOk P w K mg base (L2.CX P w) 2 f fd ["cells", "periods", "n", "total", "rounds"] (spOf K w mg 5 g__law_led_on) := fn_ok F sc__law_led_on fun cdv A outer s H E b =>
    (rss_cons (rs_own (i := 5) sc__law_led_on.nd rfl (by first | exact Or.inl rfl | exact Or.inr rfl) (rf_ty call_list_of d_list (by rfl) T.b_list PyProof.Rows.boot_list (rab_cons (RE.b (re_var 1)) rab_nil)))
    (rss_cons (rs_set (i := 6) sc__law_led_on.nd rfl (by first | exact Or.inl rfl | exact Or.inr rfl) (re_var 2))
    (rss_cons (rs_set (i := 7) sc__law_led_on.nd rfl (by first | exact Or.inl rfl | exact Or.inr rfl) (re_var 3))
    (rss_cons (rs_own (i := 8) sc__law_led_on.nd rfl (by first | exact Or.inl rfl | exact Or.inr rfl) (rf_lst ra_nil))
    (rss_cons (rs_for (fb := b__law_led_on_1) b.hp b.q.hc (ri_range1 (by rfl) T.b_range (ra_cons (re_var 4) ra_nil)) (rg_name sc__law_led_on.nd rfl (by first | exact Or.inl rfl | exact Or.inr rfl)) (rss_cons (rs_set (i := 10) sc__law_led_on.nd rfl (by first | exact Or.inl rfl | exact Or.inr rfl) (re_call D__law_dig b.q (by decide) (by rfl) (ra_cons (re_var 0) (ra_cons (re_op or_add od_add (RE.b re_int) (RE.b (re_var 9))) (ra_cons (rfe (rf_lst (ra_cons (re_bi c_len d_len (by rfl) T.b_len PySem.boot_len (rab_cons (rb_var 5) rab_nil)) (ra_cons re_int (ra_cons (re_op op_pow od_pow (RE.b re_int) (RE.b re_int)) (ra_cons (re_op op_pow od_pow (RE.b re_int) (RE.b re_int)) ra_nil)))))) ra_nil)))))
    (rss_cons (rs_set (i := 11) sc__law_led_on.nd rfl (by first | exact Or.inl rfl | exact Or.inr rfl) (re_ix (rb_var 5) (RE.b (re_ix (RE.b (re_var 10)) (RE.b re_int) (fun _ _ => rfl))) (fun _ _ => rfl)))
    (rss_cons (rs_set (i := 12) sc__law_led_on.nd rfl (by first | exact Or.inl rfl | exact Or.inr rfl) (re_op op_fdivW od_fdiv (RE.b (re_op op_sub od_sub (RE.b (re_op op_pow od_pow (RE.b re_int) (RE.b re_int))) (RE.b (re_bi (c_max b.q.hc) d_max (by rfl) T.b_max PyProof.Rows.boot_max (rab_cons (RE.b (re_op or_add od_add (rb_var 5) (RE.b (rfe (rf_lst (ra_cons (re_var 6) ra_nil)))))) rab_nil))))) (RE.b (re_var 11))))
    (rss_one (rs_if (rt_cmp op_gt od_gt (RE.b (re_var 12)) (RE.b re_int) (nomark _)) (rss_cons (rs_set (i := 13) sc__law_led_on.nd rfl (by first | exact Or.inl rfl | exact Or.inr rfl) (re_op or_add od_add (RE.b re_int) (RE.b (re_op op_mod od_mod (RE.b (re_op or_add od_add (RE.b (re_op or_mul od_mul (RE.b (re_ix (RE.b (re_var 10)) (RE.b re_int) (fun _ _ => rfl))) (RE.b (re_op op_pow od_pow (RE.b re_int) (RE.b re_int))))) (RE.b (re_ix (RE.b (re_var 10)) (RE.b re_int) (fun _ _ => rfl))))) (RE.b (re_var 12))))))
    (rss_cons (rs_if (rt_cmp (or_eq b.q.hu) od_eq (RE.b (re_ix (RE.b (re_var 10)) (RE.b re_int) (fun _ _ => rfl))) (RE.b re_int) (nomark _)) (rss_one (rs_set (i := 13) sc__law_led_on.nd rfl (by first | exact Or.inl rfl | exact Or.inr rfl) (re_op or_add od_add (RE.b re_int) (RE.b (re_op op_mod od_mod (RE.b (re_ix (RE.b (re_var 10)) (RE.b re_int) (fun _ _ => rfl))) (RE.b (re_bi (c_min b.q.hc) d_min (by rfl) T.b_min PyProof.Rows.boot_min (rab_cons (RE.b (re_var 12)) (rab_cons (RE.b re_int) rab_nil))))))))) rss_nil)
    (rss_cons (rs_app (i := 8) rfl (by first | exact Or.inl rfl | exact Or.inr (Or.inl rfl)) (rfe (rf_lst (ra_cons (re_var 11) (ra_cons (re_var 6) (ra_cons (re_var 7) ra_nil))))))
    (rss_cons (rs_set (i := 7) sc__law_led_on.nd rfl (by first | exact Or.inl rfl | exact Or.inr rfl) (re_op or_add od_add (RE.b (re_var 7)) (RE.b (re_bi (c_max b.q.hc) d_max (by rfl) T.b_max PyProof.Rows.boot_max (rab_cons (RE.b re_int) (rab_cons (RE.b (re_op op_sub od_sub (RE.b (re_var 11)) (RE.b (re_var 6)))) rab_nil))))))
    (rss_cons (rs_set (i := 6) sc__law_led_on.nd rfl (by first | exact Or.inl rfl | exact Or.inr rfl) (re_op or_add od_add (RE.b (re_var 6)) (RE.b (re_op or_mul od_mul (RE.b (re_var 13)) (RE.b (re_var 11))))))
    (rss_cons (rs_frz [5] (rs_lcOwn (i := 5) b.q.hc sc__law_led_on.nd rfl rfl (sw_true rfl rfl rfl (by decide +kernel)) (ri_e (re_var 5)) (own := [("q", 14)]) (blkOk_by (N := n__law_led_on) (sc := defScope s__law_led_on) (by decide +kernel)) (fun s H C cl fp => (rg_name sc__law_led_on.nd rfl (by first | exact Or.inl rfl | exact Or.inr rfl))) (fun s H C cl fp => rp_nil) (fun s H C cl fp => (re_op or_add od_add (RE.b (re_var 14)) (RE.b (re_op or_mul od_mul (RE.b (re_var 13)) (RE.b (re_var 11)))))) (by decide)))
    (rss_one (rs_put (j := 5) rfl (by first | exact Or.inl rfl | exact Or.inr (Or.inl rfl)) (re_var 11) (RE.b (re_ix (RE.b (re_var 10)) (RE.b re_int) (fun _ _ => rfl))))))))))) rss_nil))))))
    (rss_one (rs_frz [5, 8] (rs_ret (rfe (rf_lst (ra_cons (re_var 5) (ra_cons (re_var 6) (ra_cons (re_var 7) (ra_cons (re_var 8) ra_nil))))))))))))))
end
theorem sc__law_two : FnScope n__law_two ["row"] (defScope s__law_two) := ⟨rfl, rfl, rfl, by decide +kernel, rfl, by decide +kernel, by decide +kernel⟩
section
variable {P : Program} {w : World} {K : PySem.W.Frag} {mg : Str → Option Value} {base : Heap}
theorem o__law_two {f : Addr} {fd : FuncData} (T : Txt mg) (F : Fun K "_law_two" "_law_two" s__law_two f fd) :
    FnOk P w K mg base (L2.CX P w) 1 f fd ["row"] (spOf K w mg 1 g__law_two) := fn_ok F sc__law_two fun cdv A outer s H E b =>
    (rss_cons (rs_set (i := 1) sc__law_two.nd rfl (by first | exact Or.inl rfl | exact Or.inr rfl) (re_op or_add od_add (RE.b (re_op or_add od_add (RE.b re_int) (RE.b (re_op or_mul od_mul (RE.b (re_ix (RE.b (re_var 0)) (RE.b re_int) (fun _ _ => rfl))) (RE.b (re_op op_pow od_pow (RE.b re_int) (RE.b re_int))))))) (RE.b (re_ix (RE.b (re_var 0)) (RE.b re_int) (fun _ _ => rfl)))))
    (rss_cons (rs_set (i := 2) sc__law_two.nd rfl (by first | exact Or.inl rfl | exact Or.inr rfl) (re_op or_add od_add (RE.b (re_op or_add od_add (RE.b re_int) (RE.b (re_op or_mul od_mul (RE.b (re_ix (RE.b (re_var 0)) (RE.b re_int) (fun _ _ => rfl))) (RE.b (re_op op_pow od_pow (RE.b re_int) (RE.b re_int))))))) (RE.b (re_ix (RE.b (re_var 0)) (RE.b re_int) (fun _ _ => rfl)))))
    (rss_cons (rs_if (rt_cmp (or_eq b.q.hu) od_eq (RE.b (re_ix (RE.b (re_var 0)) (RE.b re_int) (fun _ _ => rfl))) (RE.b re_int) (nomark _)) (rss_one (rs_set (i := 2) sc__law_two.nd rfl (by first | exact Or.inl rfl | exact Or.inr rfl) (re_op or_add od_add (RE.b (re_op or_add od_add (RE.b (re_var 1)) (RE.b re_int))) (RE.b (re_ix (RE.b (re_var 0)) (RE.b re_int) (fun _ _ => rfl)))))) rss_nil)
    (rss_cons (rs_if (rt_cmp (or_eq b.q.hu) od_eq (RE.b (re_ix (RE.b (re_var 0)) (RE.b re_int) (fun _ _ => rfl))) (RE.b re_int) (nomark _)) (rss_one (rs_set (i := 2) sc__law_two.nd rfl (by first | exact Or.inl rfl | exact Or.inr rfl) (re_op or_mul od_mul (RE.b (re_var 1)) (RE.b (re_op or_add od_add (RE.b re_int) (RE.b (re_ix (RE.b (re_var 0)) (RE.b re_int) (fun _ _ => rfl)))))))) rss_nil)
    (rss_cons (rs_if (rt_cmp (or_eq b.q.hu) od_eq (RE.b (re_ix (RE.b (re_var 0)) (RE.b re_int) (fun _ _ => rfl))) (RE.b re_int) (nomark _)) (rss_cons (rs_set (i := 1) sc__law_two.nd rfl (by first | exact Or.inl rfl | exact Or.inr rfl) (re_op or_mul od_mul (RE.b (re_op or_add od_add (RE.b re_int) (RE.b (re_ix (RE.b (re_var 0)) (RE.b re_int) (fun _ _ => rfl))))) (RE.b (re_op or_add od_add (RE.b re_int) (RE.b (re_ix (RE.b (re_var 0)) (RE.b re_int) (fun _ _ => rfl)))))))
    (rss_one (rs_set (i := 2) sc__law_two.nd rfl (by first | exact Or.inl rfl | exact Or.inr rfl) (re_op or_mul od_mul (RE.b (re_op or_add od_add (RE.b re_int) (RE.b (re_ix (RE.b (re_var 0)) (RE.b re_int) (fun _ _ => rfl))))) (RE.b (re_op or_add od_add (RE.b re_int) (RE.b (re_ix (RE.b (re_var 0)) (RE.b re_int) (fun _ _ => rfl))))))))) rss_nil)
    (rss_cons (rs_if (rt_cmp op_gt od_gt (RE.b (re_var 2)) (RE.b (re_op op_pow od_pow (RE.b re_int) (RE.b re_int))) (nomark _)) (rss_one (rs_set (i := 2) sc__law_two.nd rfl (by first | exact Or.inl rfl | exact Or.inr rfl) (re_var 1))) rss_nil)
    (rss_one (rs_ret (rfe (rf_lst (ra_cons (re_bi (c_min b.q.hc) d_min (by rfl) T.b_min PyProof.Rows.boot_min (rab_cons (RE.b (re_var 1)) (rab_cons (RE.b (re_var 2)) rab_nil))) (ra_cons (re_bi (c_max b.q.hc) d_max (by rfl) T.b_max PyProof.Rows.boot_max (rab_cons (RE.b (re_var 1)) (rab_cons (RE.b (re_var 2)) rab_nil))) ra_nil))))))))))))
end
theorem sc__law_places : FnScope n__law_places ["n", "row"] (defScope s__law_places) := ⟨rfl, rfl, rfl, by decide +kernel, rfl, by decide +kernel, by decide +kernel⟩
section
variable {P : Program} {w : World} {K : PySem.W.Frag} {mg : Str → Option Value} {base : Heap}
theorem o__law_places {f : Addr} {fd : FuncData} (T : Txt mg) (F : Fun K "_law_places" "_law_places" s__law_places f fd) :
    FnOk P w K mg base (L2.CX P w) 1 f fd ["n", "row"] (spOf K w mg 2 g__law_places) := fn_ok F sc__law_places fun cdv A outer s H E b =>
    (rss_cons (rs_if (rt_cmp op_le od_le (RE.b (re_var 0)) (RE.b re_int) (nomark _)) (rss_one (rs_ret (rfe (rf_listRange1 b.q.hc (by rfl) T.b_list (by rfl) T.b_range (re_var 0))))) rss_nil)
    (rss_cons (rs_own (i := 2) sc__law_places.nd rfl (by first | exact Or.inl rfl | exact Or.inr rfl) (rf_lst (ra_cons re_int (ra_cons re_int (ra_cons (re_op op_sub od_sub (RE.b (re_var 0)) (RE.b re_int)) (ra_cons (re_op op_fdivW od_fdiv (RE.b (re_var 0)) (RE.b re_int)) ra_nil))))))
    (rss_cons (rs_for (fb := b__law_places_1) b.hp b.q.hc (ri_e (re_var 1)) (rg_name sc__law_places.nd rfl (by first | exact Or.inl rfl | exact Or.inr rfl)) (rss_cons (rs_app (i := 2) rfl (by first | exact Or.inl rfl | exact Or.inr (Or.inl rfl)) (re_op op_mod od_mod (RE.b (re_ty call_int1 d_int (by rfl) T.b_int PyProof.Rows.boot_int (rab_cons (RE.b (re_var 3)) rab_nil))) (RE.b (re_var 0))))
    (rss_one (rs_app (i := 2) rfl (by first | exact Or.inl rfl | exact Or.inr (Or.inl rfl)) (re_op op_mod od_mod (RE.b (re_ty call_int1 d_int (by rfl) T.b_int PyProof.Rows.boot_int (rab_cons (RE.b (re_var 3)) rab_nil))) (RE.b re_int))))))
    (rss_one (rs_frz [2] (rs_ret (re_var 2)))))))
end
theorem sc__law_number : FnScope n__law_number ["told", "due"] (defScope s__law_number) := ⟨rfl, rfl, rfl, by decide +kernel, rfl, by decide +kernel, by decide +kernel⟩
section
variable {P : Program} {w : World} {K : PySem.W.Frag} {mg : Str → Option Value} {base : Heap}
theorem o__law_number {f : Addr} {fd : FuncData} (T : Txt mg) (F : Fun K "_law_number" "_law_number" s__law_number f fd) :
    FnOk P w K mg base (L2.CX P w) 1 f fd ["told", "due"] (spOf K w mg 2 g__law_number) := fn_ok F sc__law_number fun cdv A outer s H E b =>
    (rss_one (rs_ret (re_and (re_isi .int (by rfl) T.b_isinstance (by rfl) T.b_int PyProof.Rows.boot_int (RE.b (re_var 0))) (re_and (re_not (re_isi .bool (by rfl) T.b_isinstance (by rfl) T.b_bool PyProof.Rows.boot_bool (RE.b (re_var 0)))) (re_one (re_cmp (or_eq b.q.hu) od_eq (RE.b (re_var 0)) (RE.b (re_var 1)) (nomark _)))))))
end
theorem sc__law_below : FnScope n__law_below ["firsts", "first"] (defScope s__law_below) := ⟨rfl, rfl, rfl, by decide +kernel, rfl, by decide +kernel, by decide +kernel⟩
section
variable {P : Program} {w : World} {K : PySem.W.Frag} {mg : Str → Option Value} {base : Heap}
theorem o__law_below {f : Addr} {fd : FuncData} (T : Txt mg) (F : Fun K "_law_below" "_law_below" s__law_below f fd) :
    FnOk P w K mg base (L2.CX P w) 1 f fd ["firsts", "first"] (spOf K w mg 2 g__law_below) := fn_ok F sc__law_below fun cdv A outer s H E b =>
    (rss_one (rs_ret (re_bi c_len d_len (by rfl) T.b_len PySem.boot_len (rab_cons (RE.b (rfe (rf_lc b.q.hc sc__law_below.nd (ri_e (re_var 0)) (own := [("t", 2)]) (blkOk_by (N := n__law_below) (sc := defScope s__law_below) (by decide +kernel)) (fun s H C cl fp => (rg_name sc__law_below.nd rfl (by first | exact Or.inl rfl | exact Or.inr rfl))) (fun s H C cl fp => (rp_one (rt_cmp or_lt od_lt (RE.b (re_var 2)) (RE.b (re_var 1)) (nomark _)))) (fun s H C cl fp => (re_var 2)) (by decide)))) rab_nil))))
end
theorem sc__law_code : FnScope n__law_code ["tab", "place"] (defScope s__law_code) := ⟨rfl, rfl, rfl, by decide +kernel, rfl, by decide +kernel, by decide +kernel⟩
section
variable {P : Program} {w : World} {K : PySem.W.Frag} {mg : Str → Option Value} {base : Heap}
theorem o__law_code {f : Addr} {fd : FuncData} (T : Txt mg) (D__law_firsts : Def P w K mg base "_law_firsts" 1 1 g__law_firsts) (D__law_below : Def P w K mg base "_law_below" 1 2 g__law_below) (F : Fun K "_law_code" "_law_code" s__law_code f fd) :
    FnOk P w K mg base (L2.CX P w) 2 f fd ["tab", "place"] (spOf K w mg 2 g__law_code) := fn_ok F sc__law_code fun cdv A outer s H E b =>
    (rss_cons (rs_set (i := 2) sc__law_code.nd rfl (by first | exact Or.inl rfl | exact Or.inr rfl) (re_ix (RE.b (re_var 0)) (RE.b re_int) (fun _ _ => rfl)))
    (rss_cons (rs_set (i := 3) sc__law_code.nd rfl (by first | exact Or.inl rfl | exact Or.inr rfl) (re_ix (RE.b (re_var 0)) (RE.b re_int) (fun _ _ => rfl)))
    (rss_cons (rs_set (i := 4) sc__law_code.nd rfl (by first | exact Or.inl rfl | exact Or.inr rfl) (re_op op_mod od_mod (RE.b (re_ty call_int1 d_int (by rfl) T.b_int PyProof.Rows.boot_int (rab_cons (RE.b (re_var 1)) rab_nil))) (RE.b (re_var 2))))
    (rss_cons (rs_set (i := 5) sc__law_code.nd rfl (by first | exact Or.inl rfl | exact Or.inr rfl) (re_ix (RE.b (re_var 0)) (RE.b re_int) (fun _ _ => rfl)))
    (rss_cons (rs_if (rt_cmp or_lt od_lt (RE.b (re_var 4)) (RE.b (re_var 3)) (nomark _)) (rss_one (rs_set (i := 5) sc__law_code.nd rfl (by first | exact Or.inl rfl | exact Or.inr rfl) (re_ix (RE.b (re_var 0)) (RE.b re_int) (fun _ _ => rfl)))) rss_nil)
    (rss_cons (rs_set (i := 6) sc__law_code.nd rfl (by first | exact Or.inl rfl | exact Or.inr rfl) (re_ix (RE.b (re_var 5)) (RE.b (re_op op_fdivW od_fdiv (RE.b (re_var 1)) (RE.b (re_var 2)))) (fun _ _ => rfl)))
    (rss_cons (rs_set (i := 7) sc__law_code.nd rfl (by first | exact Or.inl rfl | exact Or.inr rfl) (re_call D__law_firsts b.q (by decide) (by rfl) (ra_cons (re_ix (RE.b (re_var 0)) (RE.b re_int) (fun _ _ => rfl)) ra_nil)))
    (rss_cons (rs_set (i := 8) sc__law_code.nd rfl (by first | exact Or.inl rfl | exact Or.inr rfl) (re_call D__law_firsts b.q (by decide) (by rfl) (ra_cons (re_ix (RE.b (re_var 0)) (RE.b re_int) (fun _ _ => rfl)) ra_nil)))
    (rss_cons (rs_set (i := 9) sc__law_code.nd rfl (by first | exact Or.inl rfl | exact Or.inr rfl) (re_op or_mul od_mul (RE.b (re_op op_sub od_sub (RE.b (re_var 2)) (RE.b (re_var 3)))) (RE.b (re_call D__law_below b.q (by decide) (by rfl) (ra_cons (re_var 7) (ra_cons (re_var 6) ra_nil))))))
    (rss_cons (rs_set (i := 9) sc__law_code.nd rfl (by first | exact Or.inl rfl | exact Or.inr rfl) (re_op or_add od_add (RE.b (re_var 9)) (RE.b (re_op or_mul od_mul (RE.b (re_var 3)) (RE.b (re_call D__law_below b.q (by decide) (by rfl) (ra_cons (re_var 8) (ra_cons (re_var 6) ra_nil))))))))
    (rss_cons (rs_if (rt_cmp or_in od_in (RE.b (re_var 6)) (RE.b (re_var 8)) (by with_unfolding_all rfl)) (rss_one (rs_set (i := 9) sc__law_code.nd rfl (by first | exact Or.inl rfl | exact Or.inr rfl) (re_op or_add od_add (RE.b (re_var 9)) (RE.b (re_bi (c_min b.q.hc) d_min (by rfl) T.b_min PyProof.Rows.boot_min (rab_cons (RE.b (re_var 4)) (rab_cons (RE.b (re_var 3)) rab_nil))))))) rss_nil)
    (rss_cons (rs_if (rt_cmp or_in od_in (RE.b (re_var 6)) (RE.b (re_var 7)) (by with_unfolding_all rfl)) (rss_one (rs_set (i := 9) sc__law_code.nd rfl (by first | exact Or.inl rfl | exact Or.inr rfl) (re_op or_add od_add (RE.b (re_var 9)) (RE.b (re_bi (c_max b.q.hc) d_max (by rfl) T.b_max PyProof.Rows.boot_max (rab_cons (RE.b re_int) (rab_cons (RE.b (re_op op_sub od_sub (RE.b (re_var 4)) (RE.b (re_var 3)))) rab_nil))))))) rss_nil)
    (rss_one (rs_ret (re_var 9)))))))))))))))
end
theorem sc__law_class : FnScope n__law_class ["tab", "steps", "place"] (defScope s__law_class) := ⟨rfl, rfl, rfl, by decide +kernel, rfl, by decide +kernel, by decide +kernel⟩
section
variable {P : Program} {w : World} {K : PySem.W.Frag} {mg : Str → Option Value} {base : Heap}
theorem o__law_class {f : Addr} {fd : FuncData} (T : Txt mg) (D__law_code : Def P w K mg base "_law_code" 2 2 g__law_code) (F : Fun K "_law_class" "_law_class" s__law_class f fd) :
    FnOk P w K mg base (L2.CX P w) 3 f fd ["tab", "steps", "place"] (spOf K w mg 3 g__law_class) := fn_ok F sc__law_class fun cdv A outer s H E b =>
    (rss_cons (rs_set (i := 3) sc__law_class.nd rfl (by first | exact Or.inl rfl | exact Or.inr rfl) (re_var 2))
    (rss_cons (rs_for (fb := b__law_class_1) b.hp b.q.hc (ri_e (rfe (rf_rev (RE.b (re_var 1))))) (rg_name sc__law_class.nd rfl (by first | exact Or.inl rfl | exact Or.inr rfl)) (rss_cons (rs_set (i := 3) sc__law_class.nd rfl (by first | exact Or.inl rfl | exact Or.inr rfl) (re_op op_mod od_mod (RE.b (re_ty call_int1 d_int (by rfl) T.b_int PyProof.Rows.boot_int (rab_cons (RE.b (re_var 3)) rab_nil))) (RE.b (re_ix (RE.b (re_var 4)) (RE.b re_int) (fun _ _ => rfl)))))
    (rss_one (rs_if (rt_cmp op_ge od_ge (RE.b (re_var 3)) (RE.b (re_ix (RE.b (re_var 4)) (RE.b re_int) (fun _ _ => rfl))) (nomark _)) (rss_one (rs_ret (re_op op_sub od_sub (RE.b (re_op or_add od_add (RE.b (re_ix (RE.b (re_var 4)) (RE.b re_int) (fun _ _ => rfl))) (RE.b (re_var 3)))) (RE.b (re_ix (RE.b (re_var 4)) (RE.b re_int) (fun _ _ => rfl)))))) rss_nil))))
    (rss_one (rs_ret (re_call D__law_code b.q (by decide) (by rfl) (ra_cons (re_var 0) (ra_cons (re_var 3) ra_nil)))))))
end
theorem sc_check_many : FnScope n_check_many ["things", "most"] (defScope s_check_many) := ⟨rfl, rfl, rfl, by decide +kernel, rfl, by decide +kernel, by decide +kernel⟩
section
variable {P : Program} {w : World} {K : PySem.W.Frag} {mg : Str → Option Value} {base : Heap}
theorem o_check_many {f : Addr} {fd : FuncData} (T : Txt mg) (EE : Errs P w K mg base) (F : Fun K "check_many" "check_many" s_check_many f fd) :
    FnOk P w K mg base (L2.CX P w) 3 f fd ["things", "most"] (spOf K w mg 2 g_check_many) := fn_ok F sc_check_many fun cdv A outer s H E b =>
    (rss_one (rs_if (rt_cmp op_gt od_gt (RE.b (re_bi c_len d_len (by rfl) T.b_len PySem.boot_len (rab_cons (RE.b (re_var 0)) rab_nil))) (RE.b (re_var 1)) (nomark _)) (rss_one (rs_raise1 b.q.hc b.q.tk EE.e_TooMany b.q.hr (by decide) (by rfl) (re_var 1))) rss_nil))
end
theorem sc_check_range : FnScope n_check_range ["value", "low", "high"] (defScope s_check_range) := ⟨rfl, rfl, rfl, by decide +kernel, rfl, by decide +kernel, by decide +kernel⟩
section
variable {P : Program} {w : World} {K : PySem.W.Frag} {mg : Str → Option Value} {base : Heap}
theorem o_check_range {f : Addr} {fd : FuncData} (T : Txt mg) (EE : Errs P w K mg base) (F : Fun K "check_range" "check_range" s_check_range f fd) :
    FnOk P w K mg base (L2.CX P w) 3 f fd ["value", "low", "high"] (spOf K w mg 3 g_check_range) := fn_ok F sc_check_range fun cdv A outer s H E b =>
    (rss_one (rs_if (RW.t (rw_or (rt_cmp or_lt od_lt (RE.b (re_var 0)) (RE.b (re_var 1)) (nomark _)) (rw_or1 (rt_cmp op_gt od_gt (RE.b (re_var 0)) (RE.b (re_var 2)) (nomark _))))) (rss_one (rs_raise1 b.q.hc b.q.tk EE.e_OutOfBounds b.q.hr (by decide) (by rfl) (re_var 0))) rss_nil))
end
theorem sc_check_periods : FnScope n_check_periods ["periods"] (defScope s_check_periods) := ⟨rfl, rfl, rfl, by decide +kernel, rfl, by decide +kernel, by decide +kernel⟩
section
variable {P : Program} {w : World} {K : PySem.W.Frag} {mg : Str → Option Value} {base : Heap}
theorem o_check_periods {f : Addr} {fd : FuncData} (T : Txt mg) (D_check_many : Def P w K mg base "check_many" 3 2 g_check_many) (D_check_range : Def P w K mg base "check_range" 3 3 g_check_range) (F : Fun K "check_periods" "check_periods" s_check_periods f fd) :
    FnOk P w K mg base (L2.CX P w) 4 f fd ["periods"] (spOf K w mg 1 g_check_periods) := fn_ok F sc_check_periods fun cdv A outer s H E b =>
    (rss_cons (rs_expr (re_call D_check_many b.q (by decide) (by rfl) (ra_cons (re_var 0) (ra_cons (re_gint (by rfl) T.c_MOST_PERIODS) ra_nil))))
    (rss_one (rs_for (fb := b_check_periods_1) b.hp b.q.hc (ri_e (re_var 0)) (rg_name sc_check_periods.nd rfl (by first | exact Or.inl rfl | exact Or.inr rfl)) (rss_one (rs_expr (re_call D_check_range b.q (by decide) (by rfl) (ra_cons (re_var 1) (ra_cons re_int (ra_cons (re_gint (by rfl) T.c_LONGEST) ra_nil)))))))))
end
theorem sc_require_period : FnScope n_require_period ["periods"] (defScope s_require_period) := ⟨rfl, rfl, rfl, by decide +kernel, rfl, by decide +kernel, by decide +kernel⟩
section
variable {P : Program} {w : World} {K : PySem.W.Frag} {mg : Str → Option Value} {base : Heap}
theorem o_require_period {f : Addr} {fd : FuncData} (T : Txt mg) (EE : Errs P w K mg base) (F : Fun K "require_period" "require_period" s_require_period f fd) :
    FnOk P w K mg base (L2.CX P w) 1 f fd ["periods"] (spOf K w mg 1 g_require_period) := fn_ok F sc_require_period fun cdv A outer s H E b =>
    (rss_one (rs_if (rt_cmp (or_eq b.q.hu) od_eq (RE.b (re_bi c_len d_len (by rfl) T.b_len PySem.boot_len (rab_cons (RE.b (re_var 0)) rab_nil))) (RE.b re_int) (nomark _)) (rss_one (rs_raise0 b.q.hc b.q.tk EE.e_NoPeriod (by rfl))) rss_nil))
end
theorem sc__rounds : FnScope n__rounds ["rows"] (defScope s__rounds) := ⟨rfl, rfl, rfl, by decide +kernel, rfl, by decide +kernel, by decide +kernel⟩
section
variable {P : Program} {w : World} {K : PySem.W.Frag} {mg : Str → Option Value} {base : Heap}
theorem o__rounds {f : Addr} {fd : FuncData} (T : Txt mg) (F : Fun K "_rounds" "_rounds" s__rounds f fd) :
    FnOk P w K mg base (L2.CX P w) 1 f fd ["rows"] (spOf K w mg 1 g__rounds) := fn_ok F sc__rounds fun cdv A outer s H E b =>
    (rss_cons (rs_set (i := 1) sc__rounds.nd rfl (by first | exact Or.inl rfl | exact Or.inr rfl) (re_ix (RE.b (re_var 0)) (RE.b re_int) (fun _ _ => rfl)))
    (rss_cons (rs_lc (i := 2) b.q.hc sc__rounds.nd rfl rfl (sw_true rfl rfl rfl (by decide +kernel)) (ri_e (re_var 0)) (own := [("period", 3)]) (blkOk_by (N := n__rounds) (sc := defScope s__rounds) (by decide +kernel)) (fun s H C cl fp => (rg_name sc__rounds.nd rfl (by first | exact Or.inl rfl | exact Or.inr rfl))) (fun s H C cl fp => (rp_one (rt_cmp (or_ne (b.q.blk s H _ _ fp).hu) od_ne (RE.b (re_op op_mod od_mod (RE.b (re_var 3)) (RE.b (re_var 1)))) (RE.b re_int) (nomark _)))) (fun s H C cl fp => (re_op op_fdivW od_fdiv (RE.b (re_var 3)) (RE.b (re_var 1)))) (by decide))
    (rss_one (rs_ret (re_minDf b.q (by rfl) T.b_min (RE.b (re_var 2)) re_int)))))
end
theorem sc__lessened : FnScope n__lessened ["rows", "rounds"] (defScope s__lessened) := ⟨rfl, rfl, rfl, by decide +kernel, rfl, by decide +kernel, by decide +kernel⟩
section
variable {P : Program} {w : World} {K : PySem.W.Frag} {mg : Str → Option Value} {base : Heap}
theorem o__lessened {f : Addr} {fd : FuncData} (T : Txt mg) (F : Fun K "_lessened" "_lessened" s__lessened f fd) :
    FnOk P w K mg base (L2.CX P w) 1 f fd ["rows", "rounds"] (spOf K w mg 2 g__lessened) := fn_ok F sc__lessened fun cdv A outer s H E b =>
    (rss_cons (rs_set (i := 2) sc__lessened.nd rfl (by first | exact Or.inl rfl | exact Or.inr rfl) (re_ix (RE.b (re_var 0)) (RE.b re_int) (fun _ _ => rfl)))
    (rss_cons (rs_set (i := 3) sc__lessened.nd rfl (by first | exact Or.inl rfl | exact Or.inr rfl) (re_op or_mul od_mul (RE.b (re_var 1)) (RE.b (re_var 2))))
    (rss_cons (rs_lc (i := 4) b.q.hc sc__lessened.nd rfl rfl (sw_true rfl rfl rfl (by decide +kernel)) (ri_e (re_var 0)) (own := [("period", 5)]) (blkOk_by (N := n__lessened) (sc := defScope s__lessened) (by decide +kernel)) (fun s H C cl fp => (rg_name sc__lessened.nd rfl (by first | exact Or.inl rfl | exact Or.inr rfl))) (fun s H C cl fp => (rp_one (rt_cmp op_gt od_gt (RE.b (re_var 5)) (RE.b (re_var 3)) (nomark _)))) (fun s H C cl fp => (re_op op_sub od_sub (RE.b (re_var 5)) (RE.b (re_var 3)))) (by decide))
    (rss_one (rs_ret (rfe (rf_bi (c_sorted b.q.hc) d_sorted (by rfl) T.b_sorted PyProof.Rows.boot_sorted (rab_cons (RE.b (re_ty (c_set b.q.hc) d_set (by rfl) T.b_set PyProof.Rows.boot_set (rab_cons (RE.b (re_op or_add od_add (RE.b (rfe (rf_lst (ra_cons (re_var 2) ra_nil)))) (RE.b (re_var 4)))) rab_nil))) rab_nil))))))))
end
theorem sc__classes : FnScope n__classes ["rows", "length"] (defScope s__classes) := ⟨rfl, rfl, rfl, by decide +kernel, rfl, by decide +kernel, by decide +kernel⟩
section
variable {P : Program} {w : World} {K : PySem.W.Frag} {mg : Str → Option Value} {base : Heap}
theorem o__classes {f : Addr} {fd : FuncData} (T : Txt mg) (D__rounds : Def P w K mg base "_rounds" 1 1 g__rounds) (D__lessened : Def P w K mg base "_lessened" 1 2 g__lessened) (F : Fun K "_classes" "_classes" s__classes f fd) :
    FnOk P w K mg base (L2.CX P w) 2 f fd ["rows", "length"] (spOf K w mg 2 g__classes) := fn_ok F sc__classes fun cdv A outer s H E b =>
    (rss_cons (rs_set (i := 2) sc__classes.nd rfl (by first | exact Or.inl rfl | exact Or.inr rfl) re_int)
    (rss_cons (rs_while (fb := b__classes_1) fuel b.hp (rt_cmp op_gt od_gt (RE.b (re_var 1)) (RE.b (re_ix (RE.b (re_var 0)) (RE.b re_int) (fun _ _ => rfl))) (nomark _)) (rss_cons (rs_set (i := 3) sc__classes.nd rfl (by first | exact Or.inl rfl | exact Or.inr rfl) (re_ix (RE.b (re_var 0)) (RE.b re_int) (fun _ _ => rfl)))
    (rss_cons (rs_set (i := 4) sc__classes.nd rfl (by first | exact Or.inl rfl | exact Or.inr rfl) (re_call D__rounds b.q (by decide) (by rfl) (ra_cons (re_var 0) ra_nil)))
    (rss_cons (rs_if (rt_cmp (or_eq b.q.hu) od_eq (RE.b (re_var 4)) (RE.b re_int) (nomark _)) (rss_one (rs_ret (re_op or_add od_add (RE.b (re_var 2)) (RE.b (re_var 3))))) rss_nil)
    (rss_cons (rs_if (rt_cmp or_lt od_lt (RE.b (re_var 1)) (RE.b (re_op or_mul od_mul (RE.b re_int) (RE.b (re_var 3)))) (nomark _)) (rss_cons (rs_aug (i := 2) sc__classes.nd rfl (by first | exact Or.inl rfl | exact Or.inr rfl) (re_op op_sub od_sub (RE.b (re_op or_mul od_mul (RE.b re_int) (RE.b (re_var 3)))) (RE.b (re_var 1))) ip_add)
    (rss_one (rs_set (i := 4) sc__classes.nd rfl (by first | exact Or.inl rfl | exact Or.inr rfl) re_int))) (rss_one (rs_set (i := 4) sc__classes.nd rfl (by first | exact Or.inl rfl | exact Or.inr rfl) (re_bi (c_min b.q.hc) d_min (by rfl) T.b_min PyProof.Rows.boot_min (rab_cons (RE.b (re_var 4)) (rab_cons (RE.b (re_op op_sub od_sub (RE.b (re_op op_fdivW od_fdiv (RE.b (re_var 1)) (RE.b (re_var 3)))) (RE.b re_int))) rab_nil))))))
    (rss_cons (rs_set (i := 0) sc__classes.nd rfl (by first | exact Or.inl rfl | exact Or.inr rfl) (re_call D__lessened b.q (by decide) (by rfl) (ra_cons (re_var 0) (ra_cons (re_var 4) ra_nil))))
    (rss_one (rs_aug (i := 1) sc__classes.nd rfl (by first | exact Or.inl rfl | exact Or.inr rfl) (re_op or_mul od_mul (RE.b (re_var 4)) (RE.b (re_var 3))) ip_sub))))))))
    (rss_one (rs_ret (re_op or_add od_add (RE.b (re_var 2)) (RE.b (re_var 1)))))))
end
theorem sc_class_count : FnScope n_class_count ["periods", "length"] (defScope s_class_count) := ⟨rfl, rfl, rfl, by decide +kernel, rfl, by decide +kernel, by decide +kernel⟩
section
variable {P : Program} {w : World} {K : PySem.W.Frag} {mg : Str → Option Value} {base : Heap}
theorem o_class_count {f : Addr} {fd : FuncData} (T : Txt mg) (D_check_periods : Def P w K mg base "check_periods" 4 1 g_check_periods) (D_check_range : Def P w K mg base "check_range" 3 3 g_check_range) (D_require_period : Def P w K mg base "require_period" 1 1 g_require_period) (D__classes : Def P w K mg base "_classes" 2 2 g__classes) (F : Fun K "class_count" "class_count" s_class_count f fd) :
    FnOk P w K mg base (L2.CX P w) 5 f fd ["periods", "length"] (spOf K w mg 2 g_class_count) := fn_ok F sc_class_count fun cdv A outer s H E b =>
    (rss_cons (rs_expr (re_call D_check_periods b.q (by decide) (by rfl) (ra_cons (re_var 0) ra_nil)))
    (rss_cons (rs_expr (re_call D_check_range b.q (by decide) (by rfl) (ra_cons (re_var 1) (ra_cons re_int (ra_cons (re_gint (by rfl) T.c_LONGEST) ra_nil)))))
    (rss_cons (rs_expr (re_call D_require_period b.q (by decide) (by rfl) (ra_cons (re_var 0) ra_nil)))
    (rss_one (rs_ret (re_call D__classes b.q (by decide) (by rfl) (ra_cons (rfe (rf_bi (c_sorted b.q.hc) d_sorted (by rfl) T.b_sorted PyProof.Rows.boot_sorted (rab_cons (RE.b (re_ty (c_set b.q.hc) d_set (by rfl) T.b_set PyProof.Rows.boot_set (rab_cons (RE.b (re_var 0)) rab_nil))) rab_nil))) (ra_cons (re_var 1) ra_nil))))))))
end
theorem sc__class_at : FnScope n__class_at ["rows", "length", "place"] (defScope s__class_at) := ⟨rfl, rfl, rfl, by decide +kernel, rfl, by decide +kernel, by decide +kernel⟩
section
variable {P : Program} {w : World} {K : PySem.W.Frag} {mg : Str → Option Value} {base : Heap}
theorem o__class_at {f : Addr} {fd : FuncData} (T : Txt mg) (D__rounds : Def P w K mg base "_rounds" 1 1 g__rounds) (D__classes : Def P w K mg base "_classes" 2 2 g__classes) (D__lessened : Def P w K mg base "_lessened" 1 2 g__lessened) (F : Fun K "_class_at" "_class_at" s__class_at f fd) :
    FnOk P w K mg base (L2.CX P w) 3 f fd ["rows", "length", "place"] (spOf K w mg 3 g__class_at) := fn_ok F sc__class_at fun cdv A outer s H E b =>
    (rss_cons (rs_while (fb := b__class_at_1) fuel b.hp (rt_cmp op_gt od_gt (RE.b (re_var 1)) (RE.b (re_ix (RE.b (re_var 0)) (RE.b re_int) (fun _ _ => rfl))) (nomark _)) (rss_cons (rs_set (i := 3) sc__class_at.nd rfl (by first | exact Or.inl rfl | exact Or.inr rfl) (re_ix (RE.b (re_var 0)) (RE.b re_int) (fun _ _ => rfl)))
    (rss_cons (rs_set (i := 2) sc__class_at.nd rfl (by first | exact Or.inl rfl | exact Or.inr rfl) (re_op op_mod od_mod (RE.b (re_var 2)) (RE.b (re_var 3))))
    (rss_cons (rs_set (i := 4) sc__class_at.nd rfl (by first | exact Or.inl rfl | exact Or.inr rfl) (re_call D__rounds b.q (by decide) (by rfl) (ra_cons (re_var 0) ra_nil)))
    (rss_cons (rs_if (rt_cmp (or_eq b.q.hu) od_eq (RE.b (re_var 4)) (RE.b re_int) (nomark _)) (rss_one (rs_ret (re_var 2))) rss_nil)
    (rss_cons (rs_if (rt_cmp or_lt od_lt (RE.b (re_var 1)) (RE.b (re_op or_mul od_mul (RE.b re_int) (RE.b (re_var 3)))) (nomark _)) (rss_cons (rs_set (i := 5) sc__class_at.nd rfl (by first | exact Or.inl rfl | exact Or.inr rfl) (re_op op_sub od_sub (RE.b (re_var 1)) (RE.b (re_var 3))))
    (rss_cons (rs_set (i := 4) sc__class_at.nd rfl (by first | exact Or.inl rfl | exact Or.inr rfl) re_int)
    (rss_one (rs_if (rt_cmp op_ge od_ge (RE.b (re_var 2)) (RE.b (re_var 5)) (nomark _)) (rss_one (rs_ret (re_op op_sub od_sub (RE.b (re_op or_add od_add (RE.b (re_call D__classes b.q (by decide) (by rfl) (ra_cons (re_call D__lessened b.q (by decide) (by rfl) (ra_cons (re_var 0) (ra_cons (re_var 4) ra_nil))) (ra_cons (re_var 5) ra_nil)))) (RE.b (re_var 2)))) (RE.b (re_var 5))))) rss_nil)))) (rss_one (rs_set (i := 4) sc__class_at.nd rfl (by first | exact Or.inl rfl | exact Or.inr rfl) (re_bi (c_min b.q.hc) d_min (by rfl) T.b_min PyProof.Rows.boot_min (rab_cons (RE.b (re_var 4)) (rab_cons (RE.b (re_op op_sub od_sub (RE.b (re_op op_fdivW od_fdiv (RE.b (re_var 1)) (RE.b (re_var 3)))) (RE.b re_int))) rab_nil))))))
    (rss_cons (rs_set (i := 0) sc__class_at.nd rfl (by first | exact Or.inl rfl | exact Or.inr rfl) (re_call D__lessened b.q (by decide) (by rfl) (ra_cons (re_var 0) (ra_cons (re_var 4) ra_nil))))
    (rss_one (rs_aug (i := 1) sc__class_at.nd rfl (by first | exact Or.inl rfl | exact Or.inr rfl) (re_op or_mul od_mul (RE.b (re_var 4)) (RE.b (re_var 3))) ip_sub)))))))))
    (rss_one (rs_ret (re_var 2))))
end
theorem sc_class_of : FnScope n_class_of ["periods", "length", "place"] (defScope s_class_of) := ⟨rfl, rfl, rfl, by decide +kernel, rfl, by decide +kernel, by decide +kernel⟩
section
variable {P : Program} {w : World} {K : PySem.W.Frag} {mg : Str → Option Value} {base : Heap}
theorem o_class_of {f : Addr} {fd : FuncData} (T : Txt mg) (D_check_periods : Def P w K mg base "check_periods" 4 1 g_check_periods) (D_check_range : Def P w K mg base "check_range" 3 3 g_check_range) (D_require_period : Def P w K mg base "require_period" 1 1 g_require_period) (D__class_at : Def P w K mg base "_class_at" 3 3 g__class_at) (F : Fun K "class_of" "class_of" s_class_of f fd) :
    FnOk P w K mg base (L2.CX P w) 5 f fd ["periods", "length", "place"] (spOf K w mg 3 g_class_of) := fn_ok F sc_class_of fun cdv A outer s H E b =>
    (rss_cons (rs_expr (re_call D_check_periods b.q (by decide) (by rfl) (ra_cons (re_var 0) ra_nil)))
    (rss_cons (rs_expr (re_call D_check_range b.q (by decide) (by rfl) (ra_cons (re_var 1) (ra_cons re_int (ra_cons (re_gint (by rfl) T.c_LONGEST) ra_nil)))))
    (rss_cons (rs_expr (re_call D_check_range b.q (by decide) (by rfl) (ra_cons (re_var 2) (ra_cons re_int (ra_cons (re_op op_sub od_sub (RE.b (re_var 1)) (RE.b re_int)) ra_nil)))))
    (rss_cons (rs_expr (re_call D_require_period b.q (by decide) (by rfl) (ra_cons (re_var 0) ra_nil)))
    (rss_one (rs_ret (re_call D__class_at b.q (by decide) (by rfl) (ra_cons (rfe (rf_bi (c_sorted b.q.hc) d_sorted (by rfl) T.b_sorted PyProof.Rows.boot_sorted (rab_cons (RE.b (re_ty (c_set b.q.hc) d_set (by rfl) T.b_set PyProof.Rows.boot_set (rab_cons (RE.b (re_var 0)) rab_nil))) rab_nil))) (ra_cons (re_var 1) (ra_cons (re_var 2) ra_nil))))))))))
end
theorem sc__law_asked : FnScope n__law_asked ["handed", "n", "total", "tab", "steps", "row"] (defScope s__law_asked) := ⟨rfl, rfl, rfl, by decide +kernel, rfl, by decide +kernel, by decide +kernel⟩
section
variable {P : Program} {w : World} {K : PySem.W.Frag} {mg : Str → Option Value} {base : Heap}
theorem o__law_asked {f : Addr} {fd : FuncData} (T : Txt mg) (D__law_number : Def P w K mg base "_law_number" 1 2 g__law_number) (D_class_count : Def P w K mg base "class_count" 5 2 g_class_count) (D__law_places : Def P w K mg base "_law_places" 1 2 g__law_places) (D__law_class : Def P w K mg base "_law_class" 3 3 g__law_class) (D_class_of : Def P w K mg base "class_of" 5 3 g_class_of) (DK0 : DefK P w K mg base "class_count" 5 2 g_class_count 0 ["length", "periods"] [1, 0]) (F : Fun K "_law_asked" "_law_asked" s__law_asked f fd) :
    FnOk P w K mg base (L2.CX P w) 6 f fd ["handed", "n", "total", "tab", "steps", "row"] (spOf K w mg 6 g__law_asked) := fn_ok F sc__law_asked fun cdv A outer s H E b =>
    (rss_cons (rs_if (rt_not (rt_tru (RE.b (re_call D__law_number b.q (by decide) (by rfl) (ra_cons (re_call D_class_count b.q (by decide) (by rfl) (ra_cons (re_var 0) (ra_cons (re_var 1) ra_nil))) (ra_cons (re_var 2) ra_nil)))))) (rss_one (rs_ret re_bl)) rss_nil)
    (rss_cons (rs_for (fb := b__law_asked_1) b.hp b.q.hc (ri_e (re_call D__law_places b.q (by decide) (by rfl) (ra_cons (re_var 1) (ra_cons (re_var 5) ra_nil)))) (rg_name sc__law_asked.nd rfl (by first | exact Or.inl rfl | exact Or.inr rfl)) (rss_cons (rs_set (i := 7) sc__law_asked.nd rfl (by first | exact Or.inl rfl | exact Or.inr rfl) (re_call D__law_class b.q (by decide) (by rfl) (ra_cons (re_var 3) (ra_cons (re_var 4) (ra_cons (re_var 6) ra_nil)))))
    (rss_one (rs_if (rt_not (rt_tru (RE.b (re_call D__law_number b.q (by decide) (by rfl) (ra_cons (re_call D_class_of b.q (by decide) (by rfl) (ra_cons (re_var 0) (ra_cons (re_var 1) (ra_cons (re_var 6) ra_nil)))) (ra_cons (re_var 7) ra_nil)))))) (rss_one (rs_ret re_bl)) rss_nil))))
    (rss_one (rs_ret (re_call D__law_number b.q (by decide) (by rfl) (ra_cons (re_callK0 DK0 b.q (by decide) (by rfl) (rk_cons (nm := none) (re_var 1) (rk_cons (nm := none) (re_var 0) rk_nil))) (ra_cons (re_var 2) ra_nil)))))))
end
theorem sc__law_gcd : FnScope n__law_gcd ["first", "second"] (defScope s__law_gcd) := ⟨rfl, rfl, rfl, by decide +kernel, rfl, by decide +kernel, by decide +kernel⟩
section
variable {P : Program} {w : World} {K : PySem.W.Frag} {mg : Str → Option Value} {base : Heap}
theorem o__law_gcd {f : Addr} {fd : FuncData} (T : Txt mg) (F : Fun K "_law_gcd" "_law_gcd" s__law_gcd f fd) :
    FnOk P w K mg base (L2.CX P w) 1 f fd ["first", "second"] (spOf K w mg 2 g__law_gcd) := fn_ok F sc__law_gcd fun cdv A outer s H E b =>
    (rss_cons (rs_set (i := 2) sc__law_gcd.nd rfl (by first | exact Or.inl rfl | exact Or.inr rfl) (re_var 0))
    (rss_cons (rs_set (i := 3) sc__law_gcd.nd rfl (by first | exact Or.inl rfl | exact Or.inr rfl) (re_var 1))
    (rss_cons (rs_for (fb := b__law_gcd_1) b.hp b.q.hc (ri_range1 (by rfl) T.b_range (ra_cons re_int ra_nil)) (rg_name sc__law_gcd.nd rfl (by first | exact Or.inl rfl | exact Or.inr rfl)) (rss_one (rs_if (rt_cmp (or_ne b.q.hu) od_ne (RE.b (re_var 3)) (RE.b re_int) (nomark _)) (rss_cons (rs_set (i := 5) sc__law_gcd.nd rfl (by first | exact Or.inl rfl | exact Or.inr rfl) (re_op op_mod od_mod (RE.b (re_ty call_int1 d_int (by rfl) T.b_int PyProof.Rows.boot_int (rab_cons (RE.b (re_var 2)) rab_nil))) (RE.b (re_var 3))))
    (rss_cons (rs_set (i := 2) sc__law_gcd.nd rfl (by first | exact Or.inl rfl | exact Or.inr rfl) (re_var 3))
    (rss_one (rs_set (i := 3) sc__law_gcd.nd rfl (by first | exact Or.inl rfl | exact Or.inr rfl) (re_var 5))))) rss_nil)))
    (rss_one (rs_ret (re_var 2))))))
end
theorem sc__law_two_asked : FnScope n__law_two_asked ["low", "high", "draw"] (defScope s__law_two_asked) := ⟨rfl, rfl, rfl, by decide +kernel, rfl, by decide +kernel, by decide +kernel⟩
section
variable {P : Program} {w : World} {K : PySem.W.Frag} {mg : Str → Option Value} {base : Heap}
theorem o__law_two_asked {f : Addr} {fd : FuncData} (T : Txt mg) (D__law_gcd : Def P w K mg base "_law_gcd" 1 2 g__law_gcd) (D__law_number : Def P w K mg base "_law_number" 1 2 g__law_number) (D_class_count : Def P w K mg base "class_count" 5 2 g_class_count) (D_class_of : Def P w K mg base "class_of" 5 3 g_class_of) (F : Fun K "_law_two_asked" "_law_two_asked" s__law_two_asked f fd) :
    FnOk P w K mg base (L2.CX P w) 6 f fd ["low", "high", "draw"] (spOf K w mg 3 g__law_two_asked) := fn_ok F sc__law_two_asked fun cdv A outer s H E b =>
    (rss_cons (rs_set (i := 3) sc__law_two_asked.nd rfl (by first | exact Or.inl rfl | exact Or.inr rfl) (re_call D__law_gcd b.q (by decide) (by rfl) (ra_cons (re_var 0) (ra_cons (re_var 1) ra_nil))))
    (rss_cons (rs_set (i := 4) sc__law_two_asked.nd rfl (by first | exact Or.inl rfl | exact Or.inr rfl) (re_op op_sub od_sub (RE.b (re_op or_add od_add (RE.b (re_var 0)) (RE.b (re_var 1)))) (RE.b (re_var 3))))
    (rss_cons (rs_set (i := 5) sc__law_two_asked.nd rfl (by first | exact Or.inl rfl | exact Or.inr rfl) (rfe (rf_lst (ra_cons (re_op op_sub od_sub (RE.b (re_var 0)) (RE.b re_int)) (ra_cons (re_var 0) (ra_cons (re_op or_add od_add (RE.b (re_var 0)) (RE.b re_int)) (ra_cons (re_var 1) (ra_cons (re_op or_add od_add (RE.b (re_var 1)) (RE.b re_int)) ra_nil))))))))
    (rss_cons (rs_for (fb := b__law_two_asked_2) b.hp b.q.hc (ri_e (re_op or_add od_add (RE.b (re_var 5)) (RE.b (rfe (rf_lst (ra_cons (re_op op_sub od_sub (RE.b (re_var 4)) (RE.b re_int)) (ra_cons (re_var 4) (ra_cons (re_op op_pow od_pow (RE.b re_int) (RE.b re_int)) (ra_cons (re_var 2) ra_nil))))))))) (rg_name sc__law_two_asked.nd rfl (by first | exact Or.inl rfl | exact Or.inr rfl)) (rss_cons (rs_set (i := 7) sc__law_two_asked.nd rfl (by first | exact Or.inl rfl | exact Or.inr rfl) (re_var 3))
    (rss_cons (rs_if (rt_cmp or_lt od_lt (RE.b (re_var 6)) (RE.b (re_var 4)) (nomark _)) (rss_one (rs_set (i := 7) sc__law_two_asked.nd rfl (by first | exact Or.inl rfl | exact Or.inr rfl) (re_op op_sub od_sub (RE.b (re_op or_add od_add (RE.b (re_var 0)) (RE.b (re_var 1)))) (RE.b (re_var 6))))) rss_nil)
    (rss_cons (rs_if (RW.t (rw_or (rt_cmp op_le od_le (RE.b (re_var 6)) (RE.b (re_var 1)) (nomark _)) (rw_or1 (rt_cmp (or_eq b.q.hu) od_eq (RE.b (re_var 3)) (RE.b (re_var 0)) (nomark _))))) (rss_one (rs_set (i := 7) sc__law_two_asked.nd rfl (by first | exact Or.inl rfl | exact Or.inr rfl) (re_bi (c_min b.q.hc) d_min (by rfl) T.b_min PyProof.Rows.boot_min (rab_cons (RE.b (re_var 6)) (rab_cons (RE.b (re_var 0)) rab_nil))))) rss_nil)
    (rss_cons (rs_if (RW.t (rw_and (rt_cmp op_le od_le (RE.b re_int) (RE.b (re_var 6)) (nomark _)) (rw_and1 (rt_cmp op_le od_le (RE.b (re_var 6)) (RE.b (re_op op_pow od_pow (RE.b re_int) (RE.b re_int))) (nomark _))))) (rss_one (rs_if (rt_not (rt_tru (RE.b (re_call D__law_number b.q (by decide) (by rfl) (ra_cons (re_call D_class_count b.q (by decide) (by rfl) (ra_cons (rfe (rf_lst (ra_cons (re_var 1) (ra_cons (re_var 0) ra_nil)))) (ra_cons (re_var 6) ra_nil))) (ra_cons (re_var 7) ra_nil)))))) (rss_one (rs_ret re_bl)) rss_nil)) rss_nil)
    (rss_one (rs_if (RW.t (rw_and (rt_cmp or_lt od_lt (RE.b re_int) (RE.b (re_var 6)) (nomark _)) (rw_and (rt_cmp op_le od_le (RE.b (re_var 6)) (RE.b (re_op op_pow od_pow (RE.b re_int) (RE.b re_int))) (nomark _)) (rw_and1 (RW.t (rw_or (rt_cmp (or_eq b.q.hu) od_eq (RE.b (re_var 7)) (RE.b (re_var 3)) (nomark _)) (rw_or1 (rt_cmp op_le od_le (RE.b (re_var 6)) (RE.b (re_var 1)) (nomark _))))))))) (rss_one (rs_for (fb := b__law_two_asked_1) b.hp b.q.hc (ri_e (rfe (rf_lst (ra_cons re_int (ra_cons (re_op op_sub od_sub (RE.b (re_var 6)) (RE.b re_int)) (ra_cons (re_op op_mod od_mod (RE.b (re_ty call_int1 d_int (by rfl) T.b_int PyProof.Rows.boot_int (rab_cons (RE.b (re_var 2)) rab_nil))) (RE.b (re_var 6))) (ra_cons (re_op op_mod od_mod (RE.b (re_ty call_int1 d_int (by rfl) T.b_int PyProof.Rows.boot_int (rab_cons (RE.b (re_var 2)) rab_nil))) (RE.b (re_bi (c_min b.q.hc) d_min (by rfl) T.b_min PyProof.Rows.boot_min (rab_cons (RE.b (re_var 6)) (rab_cons (RE.b (re_op or_add od_add (RE.b (re_var 0)) (RE.b re_int))) rab_nil))))) ra_nil))))))) (rg_name sc__law_two_asked.nd rfl (by first | exact Or.inl rfl | exact Or.inr rfl)) (rss_one (rs_if (rt_not (rt_tru (RE.b (re_call D__law_number b.q (by decide) (by rfl) (ra_cons (re_call D_class_of b.q (by decide) (by rfl) (ra_cons (rfe (rf_lst (ra_cons (re_var 0) (ra_cons (re_var 1) ra_nil)))) (ra_cons (re_var 6) (ra_cons (re_var 8) ra_nil)))) (ra_cons (re_op op_mod od_mod (RE.b (re_ty call_int1 d_int (by rfl) T.b_int PyProof.Rows.boot_int (rab_cons (RE.b (re_var 8)) rab_nil))) (RE.b (re_var 7))) ra_nil)))))) (rss_one (rs_ret re_bl)) rss_nil)))) rss_nil)))))))
    (rss_one (rs_ret re_bl))))))
end
theorem sc__law_refused : FnScope n__law_refused ["told", "kind", "due"] (defScope s__law_refused) := ⟨rfl, rfl, rfl, by decide +kernel, rfl, by decide +kernel, by decide +kernel⟩
section
variable {P : Program} {w : World} {K : PySem.W.Frag} {mg : Str → Option Value} {base : Heap}
theorem o__law_refused {f : Addr} {fd : FuncData} (T : Txt mg) (D__law_number : Def P w K mg base "_law_number" 1 2 g__law_number) (F : Fun K "_law_refused" "_law_refused" s__law_refused f fd) :
    FnOk P w K mg base (L2.CX P w) 2 f fd ["told", "kind", "due"] (spOf K w mg 3 g__law_refused) := fn_ok F sc__law_refused fun cdv A outer s H E b =>
    (rss_one (rs_ret (re_and (re_cmp (or_eq b.q.hu) od_eq (RE.b (re_ix (RE.b (re_var 0)) (RE.b re_int) (fun _ _ => rfl))) (RE.b (re_var 1)) (nomark _)) (re_one (re_call D__law_number b.q (by decide) (by rfl) (ra_cons (re_ix (RE.b (re_var 0)) (RE.b re_int) (fun _ _ => rfl)) (ra_cons (re_var 2) ra_nil)))))))
end
theorem sc__law_told : FnScope n__law_told ["which", "periods", "length", "place"] (defScope s__law_told) := ⟨rfl, rfl, rfl, by decide +kernel, rfl, by decide +kernel, by decide +kernel⟩
section
variable {P : Program} {w : World} {K : PySem.W.Frag} {mg : Str → Option Value} {base : Heap}
theorem o__law_told {f : Addr} {fd : FuncData} (T : Txt mg) (EE : Errs P w K mg base) (D_class_of : Def P w K mg base "class_of" 5 3 g_class_of) (D_class_count : Def P w K mg base "class_count" 5 2 g_class_count) (F : Fun K "_law_told" "_law_told" s__law_told f fd) :
    FnOk P w K mg base (L2.CX P w) 6 f fd ["which", "periods", "length", "place"] (spOf K w mg 4 g__law_told) := fn_ok F sc__law_told fun cdv A outer s H E b =>
    (rss_one (rs_tryC (i := 4) (fb := b__law_told_1) (fs := b__law_told_2) b.q EE.m_WordError sc__law_told.nd rfl (fun W' pn xe tk => (rq_if (rt_cmp (or_eq (b.q.tr tk).hu) od_eq (RE.b (re_var 0)) (RE.b re_int) (nomark _)) (rq_ret (re_tup (ra_cons re_str (ra_cons (re_call D_class_count (b.q.tr tk) (by decide) (by rfl) (ra_cons (re_var 1) (ra_cons (re_var 2) ra_nil))) ra_nil)))) rq_nil (rq_ret (re_tup (ra_cons re_str (ra_cons (re_call D_class_of (b.q.tr tk) (by decide) (by rfl) (ra_cons (re_var 1) (ra_cons (re_var 2) (ra_cons (re_var 3) ra_nil)))) ra_nil)))))) (fun a oe pn hd => (rss_cons (rs_set (i := 5) sc__law_told.nd rfl (by first | exact Or.inl rfl | exact Or.inr rfl) (re_isxC 4 hd EE.tab T.b_isinstance EE.y_TooMany (by rfl) rfl (by first | exact Or.inl rfl | exact Or.inr (Or.inl rfl) | exact Or.inr (Or.inr rfl)) (by rfl)))
    (rss_cons (rs_set (i := 6) sc__law_told.nd rfl (by first | exact Or.inl rfl | exact Or.inr rfl) (re_isxC 4 hd EE.tab T.b_isinstance EE.y_OutOfBounds (by rfl) rfl (by first | exact Or.inl rfl | exact Or.inr (Or.inl rfl) | exact Or.inr (Or.inr rfl)) (by rfl)))
    (rss_cons (rs_set (i := 7) sc__law_told.nd rfl (by first | exact Or.inl rfl | exact Or.inr rfl) (re_isxC 4 hd EE.tab T.b_isinstance EE.y_NoPeriod (by rfl) rfl (by first | exact Or.inl rfl | exact Or.inr (Or.inl rfl) | exact Or.inr (Or.inr rfl)) (by rfl)))
    (rss_cons (rs_if (rt_not (rt_tru (RE.b (re_isxB (i := 4) hd EE.tab (by rfl) T.b_isinstance rfl (by first | exact Or.inl rfl | exact Or.inr (Or.inl rfl) | exact Or.inr (Or.inr rfl)) (by rfl) T.b_ValueError (by rfl))))) (rss_one (rs_ret (re_tup (ra_cons re_str (ra_cons re_int ra_nil))))) rss_nil)
    (rss_cons (rs_if (RW.t (rw_and (rt_tru (RE.b (re_var 5))) (rw_and (rt_not (rt_tru (RE.b (re_var 6)))) (rw_and1 (rt_not (rt_tru (RE.b (re_var 7)))))))) (rss_one (rs_ret (re_tup (ra_cons re_str (ra_cons (re_xf (i := 4) hd EE.tab rfl (by first | exact Or.inl rfl | exact Or.inr (Or.inl rfl) | exact Or.inr (Or.inr rfl))) ra_nil))))) rss_nil)
    (rss_cons (rs_if (RW.t (rw_and (rt_tru (RE.b (re_var 6))) (rw_and (rt_not (rt_tru (RE.b (re_var 5)))) (rw_and1 (rt_not (rt_tru (RE.b (re_var 7)))))))) (rss_one (rs_ret (re_tup (ra_cons re_str (ra_cons (re_xf (i := 4) hd EE.tab rfl (by first | exact Or.inl rfl | exact Or.inr (Or.inl rfl) | exact Or.inr (Or.inr rfl))) ra_nil))))) rss_nil)
    (rss_cons (rs_if (RW.t (rw_and (rt_tru (RE.b (re_var 7))) (rw_and (rt_not (rt_tru (RE.b (re_var 5)))) (rw_and1 (rt_not (rt_tru (RE.b (re_var 6)))))))) (rss_one (rs_ret (re_tup (ra_cons re_str (ra_cons re_int ra_nil))))) rss_nil)
    (rss_one (rs_ret (re_tup (ra_cons re_str (ra_cons re_int ra_nil))))))))))))) (by rfl) (by rfl) rfl rfl))
end
theorem sc__law_refusals : FnScope n__law_refusals ["periods", "at", "bad", "length", "n"] (defScope s__law_refusals) := ⟨rfl, rfl, rfl, by decide +kernel, rfl, by decide +kernel, by decide +kernel⟩
section
variable {P : Program} {w : World} {K : PySem.W.Frag} {mg : Str → Option Value} {base : Heap}
theorem o__law_refusals {f : Addr} {fd : FuncData} (T : Txt mg) (D__law_refused : Def P w K mg base "_law_refused" 2 3 g__law_refused) (D__law_told : Def P w K mg base "_law_told" 6 4 g__law_told) (F : Fun K "_law_refusals" "_law_refusals" s__law_refusals f fd) :
    FnOk P w K mg base (L2.CX P w) 7 f fd ["periods", "at", "bad", "length", "n"] (spOf K w mg 5 g__law_refusals) := fn_ok F sc__law_refusals fun cdv A outer s H E b =>
    (rss_cons (rs_set (i := 5) sc__law_refusals.nd rfl (by first | exact Or.inl rfl | exact Or.inr rfl) (re_op or_add od_add (RE.b (re_op or_add od_add (RE.b (rfe (rf_sl (RE.b (re_var 0)) ro_none (ro_some (RE.b (re_var 1)))))) (RE.b (rfe (rf_lst (ra_cons (re_var 2) ra_nil)))))) (RE.b (rfe (rf_sl (RE.b (re_var 0)) (ro_some (RE.b (re_op or_add od_add (RE.b (re_var 1)) (RE.b re_int)))) ro_none)))))
    (rss_cons (rs_for (fb := b__law_refusals_1) b.hp b.q.hc (ri_range1 (by rfl) T.b_range (ra_cons re_int ra_nil)) (rg_name sc__law_refusals.nd rfl (by first | exact Or.inl rfl | exact Or.inr rfl)) (rss_cons (rs_if (rt_not (rt_tru (RE.b (re_call D__law_refused b.q (by decide) (by rfl) (ra_cons (re_call D__law_told b.q (by decide) (by rfl) (ra_cons (re_var 6) (ra_cons (rfe (rf_ty call_list_of d_list (by rfl) T.b_list PyProof.Rows.boot_list (rab_cons (RE.b (re_var 5)) rab_nil))) (ra_cons (re_var 3) (ra_cons (re_var 4) ra_nil))))) (ra_cons re_str (ra_cons (re_var 2) ra_nil))))))) (rss_one (rs_ret re_bl)) rss_nil)
    (rss_cons (rs_if (rt_not (rt_tru (RE.b (re_call D__law_refused b.q (by decide) (by rfl) (ra_cons (re_call D__law_told b.q (by decide) (by rfl) (ra_cons (re_var 6) (ra_cons (rfe (rf_sl (RE.b (re_op or_mul od_mul (RE.b (re_var 5)) (RE.b re_int))) ro_none (ro_some (RE.b re_int)))) (ra_cons (re_var 3) (ra_cons (re_var 4) ra_nil))))) (ra_cons re_str (ra_cons re_int ra_nil))))))) (rss_one (rs_ret re_bl)) rss_nil)
    (rss_cons (rs_if (rt_not (rt_tru (RE.b (re_call D__law_refused b.q (by decide) (by rfl) (ra_cons (re_call D__law_told b.q (by decide) (by rfl) (ra_cons (re_var 6) (ra_cons (rfe (rf_ty call_list_of d_list (by rfl) T.b_list PyProof.Rows.boot_list (rab_cons (RE.b (re_var 0)) rab_nil))) (ra_cons (re_var 3) (ra_cons (re_var 4) ra_nil))))) (ra_cons re_str (ra_cons (re_var 3) ra_nil))))))) (rss_one (rs_ret re_bl)) rss_nil)
    (rss_cons (rs_if (rt_not (rt_tru (RE.b (re_call D__law_refused b.q (by decide) (by rfl) (ra_cons (re_call D__law_told b.q (by decide) (by rfl) (ra_cons (re_var 6) (ra_cons (rfe (rf_lst ra_nil)) (ra_cons (re_var 3) (ra_cons re_int ra_nil))))) (ra_cons re_str (ra_cons (re_var 3) ra_nil))))))) (rss_one (rs_ret re_bl)) rss_nil)
    (rss_one (rs_if (rt_not (rt_tru (RE.b (re_call D__law_refused b.q (by decide) (by rfl) (ra_cons (re_call D__law_told b.q (by decide) (by rfl) (ra_cons (re_var 6) (ra_cons (rfe (rf_lst ra_nil)) (ra_cons re_int (ra_cons re_int ra_nil))))) (ra_cons re_str (ra_cons re_int ra_nil))))))) (rss_one (rs_ret re_bl)) rss_nil)))))))
    (rss_cons (rs_for (fb := b__law_refusals_2) b.hp b.q.hc (ri_e (rfe (rf_lst (ra_cons (re_var 4) (ra_cons (re_neg (RE.b re_int)) (ra_cons (re_op or_add od_add (RE.b (re_op op_pow od_pow (RE.b re_int) (RE.b re_int))) (RE.b re_int)) ra_nil)))))) (rg_name sc__law_refusals.nd rfl (by first | exact Or.inl rfl | exact Or.inr rfl)) (rss_cons (rs_if (rt_not (rt_tru (RE.b (re_call D__law_refused b.q (by decide) (by rfl) (ra_cons (re_call D__law_told b.q (by decide) (by rfl) (ra_cons re_int (ra_cons (rfe (rf_ty call_list_of d_list (by rfl) T.b_list PyProof.Rows.boot_list (rab_cons (RE.b (re_var 0)) rab_nil))) (ra_cons (re_var 4) (ra_cons (re_var 7) ra_nil))))) (ra_cons re_str (ra_cons (re_var 7) ra_nil))))))) (rss_one (rs_ret re_bl)) rss_nil)
    (rss_one (rs_if (rt_not (rt_tru (RE.b (re_call D__law_refused b.q (by decide) (by rfl) (ra_cons (re_call D__law_told b.q (by decide) (by rfl) (ra_cons re_int (ra_cons (rfe (rf_lst ra_nil)) (ra_cons (re_var 4) (ra_cons (re_var 7) ra_nil))))) (ra_cons re_str (ra_cons (re_var 7) ra_nil))))))) (rss_one (rs_ret re_bl)) rss_nil))))
    (rss_one (rs_ret (re_call D__law_refused b.q (by decide) (by rfl) (ra_cons (re_call D__law_told b.q (by decide) (by rfl) (ra_cons re_int (ra_cons (rfe (rf_lst ra_nil)) (ra_cons re_int (ra_cons re_int ra_nil))))) (ra_cons re_str (ra_cons re_int ra_nil)))))))))
end
theorem sc_law : FnScope n_law ["script"] (defScope s_law) := ⟨rfl, rfl, rfl, by decide +kernel, rfl, by decide +kernel, by decide +kernel⟩
section
variable {P : Program} {w : World} {K : PySem.W.Frag} {mg : Str → Option Value} {base : Heap}
theorem o_law {f : Addr} {fd : FuncData} (T : Txt mg) (D__law_dig : Def P w K mg base "_law_dig" 1 3 g__law_dig) (D__law_table : Def P w K mg base "_law_table" 2 4 g__law_table) (D__law_asked : Def P w K mg base "_law_asked" 6 6 g__law_asked) (D__law_total : Def P w K mg base "_law_total" 2 1 g__law_total) (D__law_led_on : Def P w K mg base "_law_led_on" 2 5 g__law_led_on) (D__law_two : Def P w K mg base "_law_two" 1 1 g__law_two) (D__law_two_asked : Def P w K mg base "_law_two_asked" 6 3 g__law_two_asked) (D__law_refusals : Def P w K mg base "_law_refusals" 7 5 g__law_refusals) (F : Fun K "law" "law" s_law f fd) :
    FnOk P w K mg base (L2.CX P w) 8 f fd ["script"] (spOf K w mg 1 g_law) := fn_ok F sc_law fun cdv A outer s H E b =>
    (rss_cons (rs_set (i := 1) sc_law.nd rfl (by first | exact Or.inl rfl | exact Or.inr rfl) (rfe (rf_sl (RE.b (re_var 0)) ro_none (ro_some (RE.b re_int)))))
    (rss_cons (rs_set (i := 2) sc_law.nd rfl (by first | exact Or.inl rfl | exact Or.inr rfl) (re_call D__law_dig b.q (by decide) (by rfl) (ra_cons (re_var 1) (ra_cons re_int (ra_cons (rfe (rf_lst (ra_cons re_int (ra_cons re_int (ra_cons re_int (ra_cons re_int (ra_cons re_int (ra_cons re_int (ra_cons re_int (ra_cons re_int ra_nil)))))))))) ra_nil)))))
    (rss_cons (rs_set (i := 3) sc_law.nd rfl (by first | exact Or.inl rfl | exact Or.inr rfl) re_int)
    (rss_cons (rs_set (i := 4) sc_law.nd rfl (by first | exact Or.inl rfl | exact Or.inr rfl) (re_ix (RE.b (re_var 2)) (RE.b re_int) (fun _ _ => rfl)))
    (rss_cons (rs_if (rt_cmp (or_eq b.q.hu) od_eq (RE.b (re_ix (RE.b (re_var 2)) (RE.b re_int) (fun _ _ => rfl))) (RE.b re_int) (nomark _)) (rss_cons (rs_set (i := 3) sc_law.nd rfl (by first | exact Or.inl rfl | exact Or.inr rfl) re_int)
    (rss_one (rs_set (i := 4) sc_law.nd rfl (by first | exact Or.inl rfl | exact Or.inr rfl) (re_ix (RE.b (re_var 2)) (RE.b re_int) (fun _ _ => rfl))))) rss_nil)
    (rss_cons (rs_lc (i := 5) b.q.hc sc_law.nd rfl rfl (sw_true rfl rfl rfl (by decide +kernel)) (ri_range1 (by rfl) T.b_range (ra_cons (re_op or_add od_add (RE.b re_int) (RE.b (re_ix (RE.b (re_var 2)) (RE.b re_int) (fun _ _ => rfl)))) ra_nil)) (own := [("k", 16)]) (blkOk_by (N := n_law) (sc := defScope s_law) (by decide +kernel)) (fun s H C cl fp => (rg_name sc_law.nd rfl (by first | exact Or.inl rfl | exact Or.inr rfl))) (fun s H C cl fp => rp_nil) (fun s H C cl fp => (re_op or_add od_add (RE.b re_int) (RE.b (re_ix (RE.b (re_call D__law_dig (b.q.blk s H _ _ fp) (by decide) (by rfl) (ra_cons (re_var 1) (ra_cons (re_op or_add od_add (RE.b re_int) (RE.b (re_var 16))) (ra_cons (rfe (rf_lst (ra_cons (re_var 3) ra_nil))) ra_nil))))) (RE.b re_int) (fun _ _ => rfl))))) (by decide))
    (rss_cons (rs_set (i := 6) sc_law.nd rfl (by first | exact Or.inl rfl | exact Or.inr rfl) (re_call D__law_dig b.q (by decide) (by rfl) (ra_cons (re_var 1) (ra_cons re_int (ra_cons (rfe (rf_lst (ra_cons (re_op op_pow od_pow (RE.b re_int) (RE.b re_int)) (ra_cons (re_op op_pow od_pow (RE.b re_int) (RE.b re_int)) (ra_cons (re_op op_pow od_pow (RE.b re_int) (RE.b re_int)) ra_nil))))) ra_nil)))))
    (rss_cons (rs_set (i := 7) sc_law.nd rfl (by first | exact Or.inl rfl | exact Or.inr rfl) (re_call D__law_table b.q (by decide) (by rfl) (ra_cons (re_var 5) (ra_cons (re_var 4) (ra_cons re_int (ra_cons re_int ra_nil))))))
    (rss_cons (rs_own (i := 8) sc_law.nd rfl (by first | exact Or.inl rfl | exact Or.inr rfl) (rf_ty call_list_of d_list (by rfl) T.b_list PyProof.Rows.boot_list (rab_cons (RE.b (re_var 5)) rab_nil)))
    (rss_cons (rs_if (rt_not (rt_tru (RE.b (re_lend [8] (re_call D__law_asked b.q (by decide) (by rfl) (ra_cons (re_var 8) (ra_cons (re_var 4) (ra_cons (re_call D__law_total b.q (by decide) (by rfl) (ra_cons (re_var 7) ra_nil)) (ra_cons (re_var 7) (ra_cons (rfe (rf_lst ra_nil)) (ra_cons (re_var 6) ra_nil))))))))))) (rss_one (rs_ret re_bl)) rss_nil)
    (rss_cons (rs_if (rt_cmp (or_ne b.q.hu) od_ne (rb_var 8) (RE.b (re_var 5)) (nomark _)) (rss_one (rs_ret re_bl)) rss_nil)
    (rss_cons (rs_set (i := 9) sc_law.nd rfl (by first | exact Or.inl rfl | exact Or.inr rfl) (re_call D__law_dig b.q (by decide) (by rfl) (ra_cons (re_var 1) (ra_cons re_int (ra_cons (rfe (rf_lst (ra_cons re_int (ra_cons (re_op op_pow od_pow (RE.b re_int) (RE.b re_int)) (ra_cons (re_op op_pow od_pow (RE.b re_int) (RE.b re_int)) (ra_cons re_int (ra_cons (re_op op_pow od_pow (RE.b re_int) (RE.b re_int)) (ra_cons (re_op op_pow od_pow (RE.b re_int) (RE.b re_int)) ra_nil)))))))) ra_nil)))))
    (rss_cons (rs_set (i := 10) sc_law.nd rfl (by first | exact Or.inl rfl | exact Or.inr rfl) (re_op or_add od_add (RE.b (re_op or_add od_add (RE.b re_int) (RE.b (re_op or_mul od_mul (RE.b (re_ix (RE.b (re_var 9)) (RE.b re_int) (fun _ _ => rfl))) (RE.b (re_op op_pow od_pow (RE.b re_int) (RE.b re_int))))))) (RE.b (re_ix (RE.b (re_var 9)) (RE.b re_int) (fun _ _ => rfl)))))
    (rss_cons (rs_set (i := 11) sc_law.nd rfl (by first | exact Or.inl rfl | exact Or.inr rfl) (re_ix (RE.b (rfe (rf_lst (ra_cons (re_op or_add od_add (RE.b re_int) (RE.b (re_ix (RE.b (re_var 9)) (RE.b re_int) (fun _ _ => rfl)))) (ra_cons (re_op or_add od_add (RE.b re_int) (RE.b (re_ix (RE.b (re_var 9)) (RE.b re_int) (fun _ _ => rfl)))) (ra_cons (re_op or_add od_add (RE.b re_int) (RE.b (re_ix (RE.b (re_var 9)) (RE.b re_int) (fun _ _ => rfl)))) (ra_cons (re_var 10) ra_nil))))))) (RE.b (re_ix (RE.b (re_var 2)) (RE.b re_int) (fun _ _ => rfl))) (fun _ _ => rfl)))
    (rss_cons (rs_set (i := 12) sc_law.nd rfl (by first | exact Or.inl rfl | exact Or.inr rfl) (re_ix (RE.b (rfe (rf_lst (ra_cons re_int (ra_cons (re_op op_mod od_mod (RE.b (re_ty call_int1 d_int (by rfl) T.b_int PyProof.Rows.boot_int (rab_cons (RE.b (re_ix (RE.b (re_var 9)) (RE.b re_int) (fun _ _ => rfl))) rab_nil))) (RE.b (re_var 11))) (ra_cons (re_op op_mod od_mod (RE.b (re_op or_add od_add (RE.b (re_op or_mul od_mul (RE.b (re_ix (RE.b (re_var 9)) (RE.b re_int) (fun _ _ => rfl))) (RE.b (re_op op_pow od_pow (RE.b re_int) (RE.b re_int))))) (RE.b (re_ix (RE.b (re_var 9)) (RE.b re_int) (fun _ _ => rfl))))) (RE.b (re_var 11))) ra_nil)))))) (RE.b (re_ix (RE.b (re_var 9)) (RE.b re_int) (fun _ _ => rfl))) (fun _ _ => rfl)))
    (rss_cons (rs_set (i := 13) sc_law.nd rfl (by first | exact Or.inl rfl | exact Or.inr rfl) (re_call D__law_table b.q (by decide) (by rfl) (ra_cons (re_var 5) (ra_cons (re_var 4) (ra_cons (re_var 11) (ra_cons (re_var 12) ra_nil))))))
    (rss_cons (rs_set (i := 14) sc_law.nd rfl (by first | exact Or.inl rfl | exact Or.inr rfl) (re_call D__law_total b.q (by decide) (by rfl) (ra_cons (re_var 13) ra_nil)))
    (rss_cons (rs_lc (i := 15) b.q.hc sc_law.nd rfl rfl (sw_true rfl rfl rfl (by decide +kernel)) (ri_e (re_var 5)) (own := [("p", 23)]) (blkOk_by (N := n_law) (sc := defScope s_law) (by decide +kernel)) (fun s H C cl fp => (rg_name sc_law.nd rfl (by first | exact Or.inl rfl | exact Or.inr rfl))) (fun s H C cl fp => rp_nil) (fun s H C cl fp => (re_op or_mul od_mul (RE.b (re_var 11)) (RE.b (re_var 23)))) (by decide))
    (rss_cons (rs_for (fb := b_law_1) b.hp b.q.hc (ri_range1 (by rfl) T.b_range (ra_cons (re_bi c_len d_len (by rfl) T.b_len PySem.boot_len (rab_cons (RE.b (re_var 5)) rab_nil)) ra_nil)) (rg_name sc_law.nd rfl (by first | exact Or.inl rfl | exact Or.inr rfl)) (rss_one (rs_put (j := 8) rfl (by first | exact Or.inl rfl | exact Or.inr (Or.inl rfl)) (re_ix (RE.b (re_var 15)) (RE.b (re_var 16)) (fun _ _ => rfl)) (RE.b (re_var 16)))))
    (rss_cons (rs_lc (i := 17) b.q.hc sc_law.nd rfl rfl (sw_true rfl rfl rfl (by decide +kernel)) (ri_e (re_var 6)) (own := [("draw", 24)]) (blkOk_by (N := n_law) (sc := defScope s_law) (by decide +kernel)) (fun s H C cl fp => (rg_name sc_law.nd rfl (by first | exact Or.inl rfl | exact Or.inr rfl))) (fun s H C cl fp => rp_nil) (fun s H C cl fp => (re_op or_add od_add (RE.b (re_op or_mul od_mul (RE.b (re_var 24)) (RE.b (re_op op_pow od_pow (RE.b re_int) (RE.b re_int))))) (RE.b (re_ix (RE.b (re_var 6)) (RE.b re_int) (fun _ _ => rfl))))) (by decide))
    (rss_cons (rs_if (rt_not (rt_tru (RE.b (re_lend [8] (re_call D__law_asked b.q (by decide) (by rfl) (ra_cons (re_var 8) (ra_cons (re_op or_add od_add (RE.b (re_op or_mul od_mul (RE.b (re_var 11)) (RE.b (re_var 4)))) (RE.b (re_var 12))) (ra_cons (re_var 14) (ra_cons (re_var 13) (ra_cons (rfe (rf_lst ra_nil)) (ra_cons (re_var 17) ra_nil))))))))))) (rss_one (rs_ret re_bl)) rss_nil)
    (rss_cons (rs_if (rt_cmp (or_ne b.q.hu) od_ne (rb_var 8) (RE.b (re_var 15)) (nomark _)) (rss_one (rs_ret re_bl)) rss_nil)
    (rss_cons (rs_set (i := 18) sc_law.nd rfl (by first | exact Or.inl rfl | exact Or.inr rfl) (re_call D__law_led_on b.q (by decide) (by rfl) (ra_cons (re_var 1) (ra_cons (re_var 15) (ra_cons (re_op or_add od_add (RE.b (re_op or_mul od_mul (RE.b (re_var 11)) (RE.b (re_var 4)))) (RE.b (re_var 12))) (ra_cons (re_var 14) (ra_cons (re_ix (RE.b (re_var 2)) (RE.b re_int) (fun _ _ => rfl)) ra_nil)))))))
    (rss_cons (rs_if (rt_not (rt_tru (RE.b (re_call D__law_asked b.q (by decide) (by rfl) (ra_cons (re_ty call_tuple_of d_tuple (by rfl) T.b_tuple PyProof.Rows.boot_tuple (rab_cons (RE.b (re_ix (RE.b (re_var 18)) (RE.b re_int) (fun _ _ => rfl))) rab_nil)) (ra_cons (re_ix (RE.b (re_var 18)) (RE.b re_int) (fun _ _ => rfl)) (ra_cons (re_ix (RE.b (re_var 18)) (RE.b re_int) (fun _ _ => rfl)) (ra_cons (re_var 13) (ra_cons (re_ix (RE.b (re_var 18)) (RE.b re_int) (fun _ _ => rfl)) (ra_cons (re_var 17) ra_nil)))))))))) (rss_one (rs_ret re_bl)) rss_nil)
    (rss_cons (rs_set (i := 19) sc_law.nd rfl (by first | exact Or.inl rfl | exact Or.inr rfl) (re_call D__law_dig b.q (by decide) (by rfl) (ra_cons (re_var 1) (ra_cons re_int (ra_cons (rfe (rf_lst (ra_cons re_int (ra_cons (re_op op_pow od_pow (RE.b re_int) (RE.b re_int)) (ra_cons (re_op op_pow od_pow (RE.b re_int) (RE.b re_int)) (ra_cons (re_op op_pow od_pow (RE.b re_int) (RE.b re_int)) (ra_cons (re_op op_pow od_pow (RE.b re_int) (RE.b re_int)) (ra_cons re_int (ra_cons (re_op op_pow od_pow (RE.b re_int) (RE.b re_int)) (ra_cons (re_op op_pow od_pow (RE.b re_int) (RE.b re_int)) ra_nil)))))))))) ra_nil)))))
    (rss_cons (rs_set (i := 20) sc_law.nd rfl (by first | exact Or.inl rfl | exact Or.inr rfl) (re_call D__law_two b.q (by decide) (by rfl) (ra_cons (re_var 19) ra_nil)))
    (rss_cons (rs_if (rt_not (rt_tru (RE.b (re_call D__law_two_asked b.q (by decide) (by rfl) (ra_cons (re_ix (RE.b (re_var 20)) (RE.b re_int) (fun _ _ => rfl)) (ra_cons (re_ix (RE.b (re_var 20)) (RE.b re_int) (fun _ _ => rfl)) (ra_cons (re_op or_add od_add (RE.b (re_op or_mul od_mul (RE.b (re_ix (RE.b (re_var 19)) (RE.b re_int) (fun _ _ => rfl))) (RE.b (re_op op_pow od_pow (RE.b re_int) (RE.b re_int))))) (RE.b (re_ix (RE.b (re_var 19)) (RE.b re_int) (fun _ _ => rfl)))) ra_nil))))))) (rss_one (rs_ret re_bl)) rss_nil)
    (rss_cons (rs_set (i := 21) sc_law.nd rfl (by first | exact Or.inl rfl | exact Or.inr rfl) (re_ix (RE.b (rfe (rf_lst (ra_cons re_int (ra_cons (re_neg (RE.b re_int)) (ra_cons (re_op or_add od_add (RE.b (re_op op_pow od_pow (RE.b re_int) (RE.b re_int))) (RE.b re_int)) (ra_cons (re_op op_sub od_sub (RE.b (re_neg (RE.b re_int))) (RE.b (re_ix (RE.b (re_var 6)) (RE.b re_int) (fun _ _ => rfl)))) (ra_cons (re_op or_add od_add (RE.b (re_op or_add od_add (RE.b (re_op op_pow od_pow (RE.b re_int) (RE.b re_int))) (RE.b re_int))) (RE.b (re_ix (RE.b (re_var 6)) (RE.b re_int) (fun _ _ => rfl)))) (ra_cons (re_neg (RE.b (re_op op_pow od_pow (RE.b re_int) (RE.b re_int)))) ra_nil))))))))) (RE.b (re_ix (RE.b (re_var 2)) (RE.b re_int) (fun _ _ => rfl))) (fun _ _ => rfl)))
    (rss_cons (rs_set (i := 22) sc_law.nd rfl (by first | exact Or.inl rfl | exact Or.inr rfl) (re_ix (RE.b (rfe (rf_lst (ra_cons (re_neg (RE.b re_int)) (ra_cons (re_op or_add od_add (RE.b (re_op op_pow od_pow (RE.b re_int) (RE.b re_int))) (RE.b re_int)) (ra_cons (re_neg (RE.b re_int)) (ra_cons (re_op or_add od_add (RE.b (re_op op_pow od_pow (RE.b re_int) (RE.b re_int))) (RE.b re_int)) (ra_cons (re_neg (RE.b re_int)) (ra_cons (re_op or_add od_add (RE.b (re_op op_pow od_pow (RE.b re_int) (RE.b re_int))) (RE.b re_int)) ra_nil))))))))) (RE.b (re_ix (RE.b (re_var 2)) (RE.b re_int) (fun _ _ => rfl))) (fun _ _ => rfl)))
    (rss_cons (rs_if (rt_not (rt_tru (RE.b (re_call D__law_refusals b.q (by decide) (by rfl) (ra_cons (re_var 5) (ra_cons (re_op op_mod od_mod (RE.b (re_ty call_int1 d_int (by rfl) T.b_int PyProof.Rows.boot_int (rab_cons (RE.b (re_ix (RE.b (re_var 2)) (RE.b re_int) (fun _ _ => rfl))) rab_nil))) (RE.b (re_bi c_len d_len (by rfl) T.b_len PySem.boot_len (rab_cons (RE.b (re_var 5)) rab_nil)))) (ra_cons (re_var 21) (ra_cons (re_var 22) (ra_cons (re_var 4) ra_nil))))))))) (rss_one (rs_ret re_bl)) rss_nil)
    (rss_one (rs_ret (re_call D__law_asked b.q (by decide) (by rfl) (ra_cons (rfe (rf_ty call_list_of d_list (by rfl) T.b_list PyProof.Rows.boot_list (rab_cons (RE.b (re_var 5)) rab_nil))) (ra_cons (re_var 4) (ra_cons (re_call D__law_total b.q (by decide) (by rfl) (ra_cons (re_var 7) ra_nil)) (ra_cons (re_var 7) (ra_cons (rfe (rf_lst ra_nil)) (ra_cons (re_var 6) ra_nil)))))))))))))))))))))))))))))))))))))))
end
end K37
set_option maxHeartbeats 8000000
namespace K37
open PySem L2 Pc
section
theorem all_mk {l : PySem.W.OpenLaw} {w : World} {K : PySem.W.Frag} {h : Heap} {mg : Str → Option Value} {fa f0 f1 f2 f3 f4 f5 f6 f7 f8 f9 f10 f11 f12 f13 f14 f15 f16 f17 f18 f19 f20 f21 f22 f23 f24 f25 f26 f27 f28 : Addr} (X : K.In h) (G : h.Ns mainGlobals mg) (hfa : mg "law" = some (.ref fa))
    {od0 an0 od1 an1 od2 an2 od3 an3 od4 an4 od5 an5 od6 an6 od7 an7 od8 an8 od9 an9 od10 an10 od11 an11 od12 an12 od13 an13 od14 an14 od15 an15 od16 an16 od17 an17 od18 an18 od19 an19 od20 an20 od21 an21 od22 an22 od23 an23 od24 an24 od25 an25 od26 an26 od27 an27 od28 an28 : Option Addr} {sl0 sl1 sl2 sl3 sl4 sl5 sl6 sl7 sl8 sl9 sl10 sl11 sl12 sl13 sl14 sl15 sl16 sl17 sl18 sl19 sl20 sl21 sl22 sl23 sl24 sl25 sl26 sl27 sl28 : Array (Option Value)} {oc0 kV0 dc0 pm0 cd0 ct0 oc1 kV1 dc1 pm1 cd1 ct1 oc2 kV2 dc2 pm2 cd2 ct2 oc3 kV3 dc3 pm3 cd3 ct3 oc4 kV4 dc4 pm4 cd4 ct4 oc5 kV5 dc5 pm5 cd5 ct5 oc6 kV6 dc6 pm6 cd6 ct6 oc7 kV7 dc7 pm7 cd7 ct7 oc8 kV8 dc8 pm8 cd8 ct8 oc9 kV9 dc9 pm9 cd9 ct9 oc10 kV10 dc10 pm10 cd10 ct10 oc11 kV11 dc11 pm11 cd11 ct11 oc12 kV12 dc12 pm12 cd12 ct12 oc13 kV13 dc13 pm13 cd13 ct13 oc14 kV14 dc14 pm14 cd14 ct14 oc15 kV15 dc15 pm15 cd15 ct15 oc16 kV16 dc16 pm16 cd16 ct16 oc17 kV17 dc17 pm17 cd17 ct17 oc18 kV18 dc18 pm18 cd18 ct18 oc19 kV19 dc19 pm19 cd19 ct19 oc20 kV20 dc20 pm20 cd20 ct20 oc21 kV21 dc21 pm21 cd21 ct21 oc22 kV22 dc22 pm22 cd22 ct22 oc23 kV23 dc23 pm23 cd23 ct23 oc24 kV24 dc24 pm24 cd24 ct24 oc25 kV25 dc25 pm25 cd25 ct25 oc26 kV26 dc26 pm26 cd26 ct26 oc27 kV27 dc27 pm27 cd27 ct27 oc28 kV28 dc28 pm28 cd28 ct28 : Value}
    (a0 : PySem.W.nsIn K mainGlobals "_law_dig" = some (some (.ref f0))) (l0 : K.lookup f0 = some ⟨oc0, od0, .func (PySem.W.fnOf "_law_dig" "_law_dig" (defArgs s__law_dig) (defBody s__law_dig) (defScope s__law_dig) .none kV0 dc0 pm0 an0 cd0 ct0), sl0⟩) (c0 : PySem.W.codeIn K cd0 "_law_dig" = true) (k0 : PySem.W.keepIn K (.ref f0) = true)
    (a1 : PySem.W.nsIn K mainGlobals "_law_closing" = some (some (.ref f1))) (l1 : K.lookup f1 = some ⟨oc1, od1, .func (PySem.W.fnOf "_law_closing" "_law_closing" (defArgs s__law_closing) (defBody s__law_closing) (defScope s__law_closing) .none kV1 dc1 pm1 an1 cd1 ct1), sl1⟩) (c1 : PySem.W.codeIn K cd1 "_law_closing" = true) (k1 : PySem.W.keepIn K (.ref f1) = true)
    (a2 : PySem.W.nsIn K mainGlobals "_law_table" = some (some (.ref f2))) (l2 : K.lookup f2 = some ⟨oc2, od2, .func (PySem.W.fnOf "_law_table" "_law_table" (defArgs s__law_table) (defBody s__law_table) (defScope s__law_table) .none kV2 dc2 pm2 an2 cd2 ct2), sl2⟩) (c2 : PySem.W.codeIn K cd2 "_law_table" = true) (k2 : PySem.W.keepIn K (.ref f2) = true)
    (a3 : PySem.W.nsIn K mainGlobals "_law_firsts" = some (some (.ref f3))) (l3 : K.lookup f3 = some ⟨oc3, od3, .func (PySem.W.fnOf "_law_firsts" "_law_firsts" (defArgs s__law_firsts) (defBody s__law_firsts) (defScope s__law_firsts) .none kV3 dc3 pm3 an3 cd3 ct3), sl3⟩) (c3 : PySem.W.codeIn K cd3 "_law_firsts" = true) (k3 : PySem.W.keepIn K (.ref f3) = true)
    (a4 : PySem.W.nsIn K mainGlobals "_law_total" = some (some (.ref f4))) (l4 : K.lookup f4 = some ⟨oc4, od4, .func (PySem.W.fnOf "_law_total" "_law_total" (defArgs s__law_total) (defBody s__law_total) (defScope s__law_total) .none kV4 dc4 pm4 an4 cd4 ct4), sl4⟩) (c4 : PySem.W.codeIn K cd4 "_law_total" = true) (k4 : PySem.W.keepIn K (.ref f4) = true)
    (a5 : PySem.W.nsIn K mainGlobals "_law_led_on" = some (some (.ref f5))) (l5 : K.lookup f5 = some ⟨oc5, od5, .func (PySem.W.fnOf "_law_led_on" "_law_led_on" (defArgs s__law_led_on) (defBody s__law_led_on) (defScope s__law_led_on) .none kV5 dc5 pm5 an5 cd5 ct5), sl5⟩) (c5 : PySem.W.codeIn K cd5 "_law_led_on" = true) (k5 : PySem.W.keepIn K (.ref f5) = true)
    (a6 : PySem.W.nsIn K mainGlobals "_law_two" = some (some (.ref f6))) (l6 : K.lookup f6 = some ⟨oc6, od6, .func (PySem.W.fnOf "_law_two" "_law_two" (defArgs s__law_two) (defBody s__law_two) (defScope s__law_two) .none kV6 dc6 pm6 an6 cd6 ct6), sl6⟩) (c6 : PySem.W.codeIn K cd6 "_law_two" = true) (k6 : PySem.W.keepIn K (.ref f6) = true)
    (a7 : PySem.W.nsIn K mainGlobals "_law_places" = some (some (.ref f7))) (l7 : K.lookup f7 = some ⟨oc7, od7, .func (PySem.W.fnOf "_law_places" "_law_places" (defArgs s__law_places) (defBody s__law_places) (defScope s__law_places) .none kV7 dc7 pm7 an7 cd7 ct7), sl7⟩) (c7 : PySem.W.codeIn K cd7 "_law_places" = true) (k7 : PySem.W.keepIn K (.ref f7) = true)
    (a8 : PySem.W.nsIn K mainGlobals "_law_number" = some (some (.ref f8))) (l8 : K.lookup f8 = some ⟨oc8, od8, .func (PySem.W.fnOf "_law_number" "_law_number" (defArgs s__law_number) (defBody s__law_number) (defScope s__law_number) .none kV8 dc8 pm8 an8 cd8 ct8), sl8⟩) (c8 : PySem.W.codeIn K cd8 "_law_number" = true) (k8 : PySem.W.keepIn K (.ref f8) = true)
    (a9 : PySem.W.nsIn K mainGlobals "_law_below" = some (some (.ref f9))) (l9 : K.lookup f9 = some ⟨oc9, od9, .func (PySem.W.fnOf "_law_below" "_law_below" (defArgs s__law_below) (defBody s__law_below) (defScope s__law_below) .none kV9 dc9 pm9 an9 cd9 ct9), sl9⟩) (c9 : PySem.W.codeIn K cd9 "_law_below" = true) (k9 : PySem.W.keepIn K (.ref f9) = true)
    (a10 : PySem.W.nsIn K mainGlobals "_law_code" = some (some (.ref f10))) (l10 : K.lookup f10 = some ⟨oc10, od10, .func (PySem.W.fnOf "_law_code" "_law_code" (defArgs s__law_code) (defBody s__law_code) (defScope s__law_code) .none kV10 dc10 pm10 an10 cd10 ct10), sl10⟩) (c10 : PySem.W.codeIn K cd10 "_law_code" = true) (k10 : PySem.W.keepIn K (.ref f10) = true)
    (a11 : PySem.W.nsIn K mainGlobals "_law_class" = some (some (.ref f11))) (l11 : K.lookup f11 = some ⟨oc11, od11, .func (PySem.W.fnOf "_law_class" "_law_class" (defArgs s__law_class) (defBody s__law_class) (defScope s__law_class) .none kV11 dc11 pm11 an11 cd11 ct11), sl11⟩) (c11 : PySem.W.codeIn K cd11 "_law_class" = true) (k11 : PySem.W.keepIn K (.ref f11) = true)
    (a12 : PySem.W.nsIn K mainGlobals "check_many" = some (some (.ref f12))) (l12 : K.lookup f12 = some ⟨oc12, od12, .func (PySem.W.fnOf "check_many" "check_many" (defArgs s_check_many) (defBody s_check_many) (defScope s_check_many) .none kV12 dc12 pm12 an12 cd12 ct12), sl12⟩) (c12 : PySem.W.codeIn K cd12 "check_many" = true) (k12 : PySem.W.keepIn K (.ref f12) = true)
    (a13 : PySem.W.nsIn K mainGlobals "check_range" = some (some (.ref f13))) (l13 : K.lookup f13 = some ⟨oc13, od13, .func (PySem.W.fnOf "check_range" "check_range" (defArgs s_check_range) (defBody s_check_range) (defScope s_check_range) .none kV13 dc13 pm13 an13 cd13 ct13), sl13⟩) (c13 : PySem.W.codeIn K cd13 "check_range" = true) (k13 : PySem.W.keepIn K (.ref f13) = true)
    (a14 : PySem.W.nsIn K mainGlobals "check_periods" = some (some (.ref f14))) (l14 : K.lookup f14 = some ⟨oc14, od14, .func (PySem.W.fnOf "check_periods" "check_periods" (defArgs s_check_periods) (defBody s_check_periods) (defScope s_check_periods) .none kV14 dc14 pm14 an14 cd14 ct14), sl14⟩) (c14 : PySem.W.codeIn K cd14 "check_periods" = true) (k14 : PySem.W.keepIn K (.ref f14) = true)
    (a15 : PySem.W.nsIn K mainGlobals "require_period" = some (some (.ref f15))) (l15 : K.lookup f15 = some ⟨oc15, od15, .func (PySem.W.fnOf "require_period" "require_period" (defArgs s_require_period) (defBody s_require_period) (defScope s_require_period) .none kV15 dc15 pm15 an15 cd15 ct15), sl15⟩) (c15 : PySem.W.codeIn K cd15 "require_period" = true) (k15 : PySem.W.keepIn K (.ref f15) = true)
    (a16 : PySem.W.nsIn K mainGlobals "_rounds" = some (some (.ref f16))) (l16 : K.lookup f16 = some ⟨oc16, od16, .func (PySem.W.fnOf "_rounds" "_rounds" (defArgs s__rounds) (defBody s__rounds) (defScope s__rounds) .none kV16 dc16 pm16 an16 cd16 ct16), sl16⟩) (c16 : PySem.W.codeIn K cd16 "_rounds" = true) (k16 : PySem.W.keepIn K (.ref f16) = true)
    (a17 : PySem.W.nsIn K mainGlobals "_lessened" = some (some (.ref f17))) (l17 : K.lookup f17 = some ⟨oc17, od17, .func (PySem.W.fnOf "_lessened" "_lessened" (defArgs s__lessened) (defBody s__lessened) (defScope s__lessened) .none kV17 dc17 pm17 an17 cd17 ct17), sl17⟩) (c17 : PySem.W.codeIn K cd17 "_lessened" = true) (k17 : PySem.W.keepIn K (.ref f17) = true)
    (a18 : PySem.W.nsIn K mainGlobals "_classes" = some (some (.ref f18))) (l18 : K.lookup f18 = some ⟨oc18, od18, .func (PySem.W.fnOf "_classes" "_classes" (defArgs s__classes) (defBody s__classes) (defScope s__classes) .none kV18 dc18 pm18 an18 cd18 ct18), sl18⟩) (c18 : PySem.W.codeIn K cd18 "_classes" = true) (k18 : PySem.W.keepIn K (.ref f18) = true)
    (a19 : PySem.W.nsIn K mainGlobals "class_count" = some (some (.ref f19))) (l19 : K.lookup f19 = some ⟨oc19, od19, .func (PySem.W.fnOf "class_count" "class_count" (defArgs s_class_count) (defBody s_class_count) (defScope s_class_count) .none kV19 dc19 pm19 an19 cd19 ct19), sl19⟩) (c19 : PySem.W.codeIn K cd19 "class_count" = true) (k19 : PySem.W.keepIn K (.ref f19) = true)
    (a20 : PySem.W.nsIn K mainGlobals "_class_at" = some (some (.ref f20))) (l20 : K.lookup f20 = some ⟨oc20, od20, .func (PySem.W.fnOf "_class_at" "_class_at" (defArgs s__class_at) (defBody s__class_at) (defScope s__class_at) .none kV20 dc20 pm20 an20 cd20 ct20), sl20⟩) (c20 : PySem.W.codeIn K cd20 "_class_at" = true) (k20 : PySem.W.keepIn K (.ref f20) = true)
    (a21 : PySem.W.nsIn K mainGlobals "class_of" = some (some (.ref f21))) (l21 : K.lookup f21 = some ⟨oc21, od21, .func (PySem.W.fnOf "class_of" "class_of" (defArgs s_class_of) (defBody s_class_of) (defScope s_class_of) .none kV21 dc21 pm21 an21 cd21 ct21), sl21⟩) (c21 : PySem.W.codeIn K cd21 "class_of" = true) (k21 : PySem.W.keepIn K (.ref f21) = true)
    (a22 : PySem.W.nsIn K mainGlobals "_law_asked" = some (some (.ref f22))) (l22 : K.lookup f22 = some ⟨oc22, od22, .func (PySem.W.fnOf "_law_asked" "_law_asked" (defArgs s__law_asked) (defBody s__law_asked) (defScope s__law_asked) .none kV22 dc22 pm22 an22 cd22 ct22), sl22⟩) (c22 : PySem.W.codeIn K cd22 "_law_asked" = true) (k22 : PySem.W.keepIn K (.ref f22) = true)
    (a23 : PySem.W.nsIn K mainGlobals "_law_gcd" = some (some (.ref f23))) (l23 : K.lookup f23 = some ⟨oc23, od23, .func (PySem.W.fnOf "_law_gcd" "_law_gcd" (defArgs s__law_gcd) (defBody s__law_gcd) (defScope s__law_gcd) .none kV23 dc23 pm23 an23 cd23 ct23), sl23⟩) (c23 : PySem.W.codeIn K cd23 "_law_gcd" = true) (k23 : PySem.W.keepIn K (.ref f23) = true)
    (a24 : PySem.W.nsIn K mainGlobals "_law_two_asked" = some (some (.ref f24))) (l24 : K.lookup f24 = some ⟨oc24, od24, .func (PySem.W.fnOf "_law_two_asked" "_law_two_asked" (defArgs s__law_two_asked) (defBody s__law_two_asked) (defScope s__law_two_asked) .none kV24 dc24 pm24 an24 cd24 ct24), sl24⟩) (c24 : PySem.W.codeIn K cd24 "_law_two_asked" = true) (k24 : PySem.W.keepIn K (.ref f24) = true)
    (a25 : PySem.W.nsIn K mainGlobals "_law_refused" = some (some (.ref f25))) (l25 : K.lookup f25 = some ⟨oc25, od25, .func (PySem.W.fnOf "_law_refused" "_law_refused" (defArgs s__law_refused) (defBody s__law_refused) (defScope s__law_refused) .none kV25 dc25 pm25 an25 cd25 ct25), sl25⟩) (c25 : PySem.W.codeIn K cd25 "_law_refused" = true) (k25 : PySem.W.keepIn K (.ref f25) = true)
    (a26 : PySem.W.nsIn K mainGlobals "_law_told" = some (some (.ref f26))) (l26 : K.lookup f26 = some ⟨oc26, od26, .func (PySem.W.fnOf "_law_told" "_law_told" (defArgs s__law_told) (defBody s__law_told) (defScope s__law_told) .none kV26 dc26 pm26 an26 cd26 ct26), sl26⟩) (c26 : PySem.W.codeIn K cd26 "_law_told" = true) (k26 : PySem.W.keepIn K (.ref f26) = true)
    (a27 : PySem.W.nsIn K mainGlobals "_law_refusals" = some (some (.ref f27))) (l27 : K.lookup f27 = some ⟨oc27, od27, .func (PySem.W.fnOf "_law_refusals" "_law_refusals" (defArgs s__law_refusals) (defBody s__law_refusals) (defScope s__law_refusals) .none kV27 dc27 pm27 an27 cd27 ct27), sl27⟩) (c27 : PySem.W.codeIn K cd27 "_law_refusals" = true) (k27 : PySem.W.keepIn K (.ref f27) = true)
    (a28 : PySem.W.nsIn K mainGlobals "law" = some (some (.ref f28))) (l28 : K.lookup f28 = some ⟨oc28, od28, .func (PySem.W.fnOf "law" "law" (defArgs s_law) (defBody s_law) (defScope s_law) .none kV28 dc28 pm28 an28 cd28 ct28), sl28⟩) (c28 : PySem.W.codeIn K cd28 "law" = true) (k28 : PySem.W.keepIn K (.ref f28) = true)
    (z_ValueError : PySem.W.nsIn K mainGlobals "ValueError" = some none)
    (z_abs : PySem.W.nsIn K mainGlobals "abs" = some none)
    (z_bool : PySem.W.nsIn K mainGlobals "bool" = some none)
    (z_int : PySem.W.nsIn K mainGlobals "int" = some none)
    (z_isinstance : PySem.W.nsIn K mainGlobals "isinstance" = some none)
    (z_len : PySem.W.nsIn K mainGlobals "len" = some none)
    (z_list : PySem.W.nsIn K mainGlobals "list" = some none)
    (z_max : PySem.W.nsIn K mainGlobals "max" = some none)
    (z_min : PySem.W.nsIn K mainGlobals "min" = some none)
    (z_range : PySem.W.nsIn K mainGlobals "range" = some none)
    (z_set : PySem.W.nsIn K mainGlobals "set" = some none)
    (z_sorted : PySem.W.nsIn K mainGlobals "sorted" = some none)
    (z_tuple : PySem.W.nsIn K mainGlobals "tuple" = some none)
    {t_LONGEST : Tok} (z_LONGEST : PySem.W.nsIn K mainGlobals "LONGEST" = some (some (.int 1000000000000000000 t_LONGEST)))
    {t_MOST_PERIODS : Tok} (z_MOST_PERIODS : PySem.W.nsIn K mainGlobals "MOST_PERIODS" = some (some (.int 6 t_MOST_PERIODS)))
    {C_TooMany C_WordError C_OutOfBounds C_NoPeriod : Addr}
    (nC_TooMany : PySem.W.nsIn K mainGlobals "TooMany" = some (some (.ref C_TooMany)))
    (nC_WordError : PySem.W.nsIn K mainGlobals "WordError" = some (some (.ref C_WordError)))
    (nC_OutOfBounds : PySem.W.nsIn K mainGlobals "OutOfBounds" = some (some (.ref C_OutOfBounds)))
    (nC_NoPeriod : PySem.W.nsIn K mainGlobals "NoPeriod" = some (some (.ref C_NoPeriod)))
    (zS : PySem.W.specialIn K (.builtin "object.__class__") "__get__" = some (some (.builtin "getset_descriptor.__get__")))
    (zT : PySem.W.takesIn K (.builtin "object.__class__") = some true)
    (kp_TooMany : PySem.W.keepIn K (.ref C_TooMany) = true)
    (su_TooMany : PySem.W.subIn K (.ref C_TooMany) (.type "BaseException") = some true)
    (ty_TooMany : PySem.W.typeIn K (.ref C_TooMany) = some (.type "type"))
    (is_TooMany : PySem.W.isClsIn K C_TooMany = true)
    (hd_TooMany : PySem.W.hasDictIn K C_TooMany = true)
    (ga_TooMany : PySem.W.findIn K (.ref C_TooMany) "__getattribute__" = some (some (.builtin "BaseException.__getattribute__")))
    (gg_TooMany : PySem.W.findIn K (.ref C_TooMany) "__getattr__" = some none)
    (ca_TooMany : PySem.W.findIn K (.ref C_TooMany) "__class__" = some (some (.builtin "object.__class__")))
    (mr_TooMany : PySem.W.mroIn K C_TooMany (.type "object") = some true)
    {nm_TooMany q_TooMany : Str} {N_TooMany : Addr} {bs_TooMany : List Value} {sn_TooMany : List Str} {sub_TooMany : List Value} {ab_TooMany : Bool} {col_TooMany : Option Bool} {dd_TooMany : Option Addr} {m0_TooMany m1_TooMany m2_TooMany m3_TooMany m5_TooMany : Option Value}
    (lk_TooMany : K.lookup C_TooMany = some (excClassObj nm_TooMany q_TooMany C_TooMany N_TooMany bs_TooMany [.ref C_WordError, .type "ValueError", .type "Exception", .type "BaseException", .type "object"] true sn_TooMany sub_TooMany ab_TooMany col_TooMany dd_TooMany m0_TooMany m1_TooMany m2_TooMany m3_TooMany m5_TooMany "ValueError.__new__"))
    (sa_TooMany : PySem.W.findIn K (.ref C_TooMany) "__setattr__" = some (some (.builtin "object.__setattr__")))
    (no_TooMany : PySem.W.findIn K (.ref C_TooMany) "most" = some none)
    {I_TooMany : Addr}
    (in_TooMany : PySem.W.findIn K (.ref C_TooMany) "__init__" = some (some (.ref I_TooMany)))
    {iod_TooMany ian_TooMany : Option Addr} {isl_TooMany : Array (Option Value)} {ioc_TooMany ikV_TooMany idc_TooMany ipm_TooMany icd_TooMany ict_TooMany : Value}
    (il_TooMany : K.lookup I_TooMany = some ⟨ioc_TooMany, iod_TooMany, .func (PySem.W.fnOf "__init__" "TooMany.__init__" (defArgs (inClass (top 3) 0)) (defBody (inClass (top 3) 0)) (defScope (inClass (top 3) 0)) .none ikV_TooMany idc_TooMany ipm_TooMany ian_TooMany icd_TooMany ict_TooMany), isl_TooMany⟩)
    (ic_TooMany : PySem.W.codeIn K icd_TooMany "TooMany.__init__" = true)
    (ik_TooMany : PySem.W.keepIn K (.ref I_TooMany) = true)
    (it_TooMany : PySem.W.typeIn K (.ref I_TooMany) = some (.type "function"))
    (kp_WordError : PySem.W.keepIn K (.ref C_WordError) = true)
    (su_WordError : PySem.W.subIn K (.ref C_WordError) (.type "BaseException") = some true)
    (ty_WordError : PySem.W.typeIn K (.ref C_WordError) = some (.type "type"))
    (is_WordError : PySem.W.isClsIn K C_WordError = true)
    (hd_WordError : PySem.W.hasDictIn K C_WordError = true)
    (ga_WordError : PySem.W.findIn K (.ref C_WordError) "__getattribute__" = some (some (.builtin "BaseException.__getattribute__")))
    (gg_WordError : PySem.W.findIn K (.ref C_WordError) "__getattr__" = some none)
    (ca_WordError : PySem.W.findIn K (.ref C_WordError) "__class__" = some (some (.builtin "object.__class__")))
    (mr_WordError : PySem.W.mroIn K C_WordError (.type "object") = some true)
    (kp_OutOfBounds : PySem.W.keepIn K (.ref C_OutOfBounds) = true)
    (su_OutOfBounds : PySem.W.subIn K (.ref C_OutOfBounds) (.type "BaseException") = some true)
    (ty_OutOfBounds : PySem.W.typeIn K (.ref C_OutOfBounds) = some (.type "type"))
    (is_OutOfBounds : PySem.W.isClsIn K C_OutOfBounds = true)
    (hd_OutOfBounds : PySem.W.hasDictIn K C_OutOfBounds = true)
    (ga_OutOfBounds : PySem.W.findIn K (.ref C_OutOfBounds) "__getattribute__" = some (some (.builtin "BaseException.__getattribute__")))
    (gg_OutOfBounds : PySem.W.findIn K (.ref C_OutOfBounds) "__getattr__" = some none)
    (ca_OutOfBounds : PySem.W.findIn K (.ref C_OutOfBounds) "__class__" = some (some (.builtin "object.__class__")))
    (mr_OutOfBounds : PySem.W.mroIn K C_OutOfBounds (.type "object") = some true)
    {nm_OutOfBounds q_OutOfBounds : Str} {N_OutOfBounds : Addr} {bs_OutOfBounds : List Value} {sn_OutOfBounds : List Str} {sub_OutOfBounds : List Value} {ab_OutOfBounds : Bool} {col_OutOfBounds : Option Bool} {dd_OutOfBounds : Option Addr} {m0_OutOfBounds m1_OutOfBounds m2_OutOfBounds m3_OutOfBounds m5_OutOfBounds : Option Value}
    (lk_OutOfBounds : K.lookup C_OutOfBounds = some (excClassObj nm_OutOfBounds q_OutOfBounds C_OutOfBounds N_OutOfBounds bs_OutOfBounds [.ref C_WordError, .type "ValueError", .type "Exception", .type "BaseException", .type "object"] true sn_OutOfBounds sub_OutOfBounds ab_OutOfBounds col_OutOfBounds dd_OutOfBounds m0_OutOfBounds m1_OutOfBounds m2_OutOfBounds m3_OutOfBounds m5_OutOfBounds "ValueError.__new__"))
    (sa_OutOfBounds : PySem.W.findIn K (.ref C_OutOfBounds) "__setattr__" = some (some (.builtin "object.__setattr__")))
    (no_OutOfBounds : PySem.W.findIn K (.ref C_OutOfBounds) "value" = some none)
    {I_OutOfBounds : Addr}
    (in_OutOfBounds : PySem.W.findIn K (.ref C_OutOfBounds) "__init__" = some (some (.ref I_OutOfBounds)))
    {iod_OutOfBounds ian_OutOfBounds : Option Addr} {isl_OutOfBounds : Array (Option Value)} {ioc_OutOfBounds ikV_OutOfBounds idc_OutOfBounds ipm_OutOfBounds icd_OutOfBounds ict_OutOfBounds : Value}
    (il_OutOfBounds : K.lookup I_OutOfBounds = some ⟨ioc_OutOfBounds, iod_OutOfBounds, .func (PySem.W.fnOf "__init__" "OutOfBounds.__init__" (defArgs (inClass (top 2) 0)) (defBody (inClass (top 2) 0)) (defScope (inClass (top 2) 0)) .none ikV_OutOfBounds idc_OutOfBounds ipm_OutOfBounds ian_OutOfBounds icd_OutOfBounds ict_OutOfBounds), isl_OutOfBounds⟩)
    (ic_OutOfBounds : PySem.W.codeIn K icd_OutOfBounds "OutOfBounds.__init__" = true)
    (ik_OutOfBounds : PySem.W.keepIn K (.ref I_OutOfBounds) = true)
    (it_OutOfBounds : PySem.W.typeIn K (.ref I_OutOfBounds) = some (.type "function"))
    (kp_NoPeriod : PySem.W.keepIn K (.ref C_NoPeriod) = true)
    (su_NoPeriod : PySem.W.subIn K (.ref C_NoPeriod) (.type "BaseException") = some true)
    (ty_NoPeriod : PySem.W.typeIn K (.ref C_NoPeriod) = some (.type "type"))
    (is_NoPeriod : PySem.W.isClsIn K C_NoPeriod = true)
    (hd_NoPeriod : PySem.W.hasDictIn K C_NoPeriod = true)
    (ga_NoPeriod : PySem.W.findIn K (.ref C_NoPeriod) "__getattribute__" = some (some (.builtin "BaseException.__getattribute__")))
    (gg_NoPeriod : PySem.W.findIn K (.ref C_NoPeriod) "__getattr__" = some none)
    (ca_NoPeriod : PySem.W.findIn K (.ref C_NoPeriod) "__class__" = some (some (.builtin "object.__class__")))
    (mr_NoPeriod : PySem.W.mroIn K C_NoPeriod (.type "object") = some true)
    (xc_NoPeriod : PySem.W.excIn K C_NoPeriod [.type "ValueError", .type "Exception", .type "BaseException", .type "object"] "ValueError.__new__" = true)
    (sub_TooMany_WordError : PySem.W.subIn K (.ref C_TooMany) (.ref C_WordError) = some true)
    (sub_TooMany_TooMany : PySem.W.subIn K (.ref C_TooMany) (.ref C_TooMany) = some true)
    (sub_TooMany_OutOfBounds : PySem.W.subIn K (.ref C_TooMany) (.ref C_OutOfBounds) = some false)
    (sub_TooMany_NoPeriod : PySem.W.subIn K (.ref C_TooMany) (.ref C_NoPeriod) = some false)
    (sub_TooMany_ValueError : PySem.W.subIn K (.ref C_TooMany) (.type "ValueError") = some true)
    (sub_OutOfBounds_WordError : PySem.W.subIn K (.ref C_OutOfBounds) (.ref C_WordError) = some true)
    (sub_OutOfBounds_TooMany : PySem.W.subIn K (.ref C_OutOfBounds) (.ref C_TooMany) = some false)
    (sub_OutOfBounds_OutOfBounds : PySem.W.subIn K (.ref C_OutOfBounds) (.ref C_OutOfBounds) = some true)
    (sub_OutOfBounds_NoPeriod : PySem.W.subIn K (.ref C_OutOfBounds) (.ref C_NoPeriod) = some false)
    (sub_OutOfBounds_ValueError : PySem.W.subIn K (.ref C_OutOfBounds) (.type "ValueError") = some true)
    (sub_NoPeriod_WordError : PySem.W.subIn K (.ref C_NoPeriod) (.ref C_WordError) = some true)
    (sub_NoPeriod_TooMany : PySem.W.subIn K (.ref C_NoPeriod) (.ref C_TooMany) = some false)
    (sub_NoPeriod_OutOfBounds : PySem.W.subIn K (.ref C_NoPeriod) (.ref C_OutOfBounds) = some false)
    (sub_NoPeriod_NoPeriod : PySem.W.subIn K (.ref C_NoPeriod) (.ref C_NoPeriod) = some true)
    (sub_NoPeriod_ValueError : PySem.W.subIn K (.ref C_NoPeriod) (.type "ValueError") = some true)
    : ∃ fd : FuncData, (∀ (s : Shared) (v : Value), BindsTo s fd ⟨[v], []⟩ [("script", v)]) ∧ ∀ base : Heap, K.In base → base.Ns mainGlobals mg → FnOk l.prog w K mg base (L2.CX l.prog w) 8 fa fd ["script"] (spLaw K) := by
  have e := hfa.symm.trans (PySem.W.mg_of X G a28)
  cases e
  have T : Txt mg := ⟨PySem.W.mg_none_of X G z_ValueError, PySem.W.mg_none_of X G z_abs, PySem.W.mg_none_of X G z_bool, PySem.W.mg_none_of X G z_int, PySem.W.mg_none_of X G z_isinstance, PySem.W.mg_none_of X G z_len, PySem.W.mg_none_of X G z_list, PySem.W.mg_none_of X G z_max, PySem.W.mg_none_of X G z_min, PySem.W.mg_none_of X G z_range, PySem.W.mg_none_of X G z_set, PySem.W.mg_none_of X G z_sorted, PySem.W.mg_none_of X G z_tuple, ⟨_, PySem.W.mg_of X G z_LONGEST⟩, ⟨_, PySem.W.mg_of X G z_MOST_PERIODS⟩⟩
  have F0 := fun_mk (st := s__law_dig) l0 c0 k0
  have b0 := F0.binds (ps := ["cells", "place", "sizes"]) fun _ _ _ _ _ _ us hl => match us, hl with | [_, _, _], _ => rfl
  have F1 := fun_mk (st := s__law_closing) l1 c1 k1
  have b1 := F1.binds (ps := ["periods", "n"]) fun _ _ _ _ _ _ us hl => match us, hl with | [_, _], _ => rfl
  have F2 := fun_mk (st := s__law_table) l2 c2 k2
  have b2 := F2.binds (ps := ["periods", "n", "m", "more"]) fun _ _ _ _ _ _ us hl => match us, hl with | [_, _, _, _], _ => rfl
  have F3 := fun_mk (st := s__law_firsts) l3 c3 k3
  have b3 := F3.binds (ps := ["marks"]) fun _ _ _ _ _ _ us hl => match us, hl with | [_], _ => rfl
  have F4 := fun_mk (st := s__law_total) l4 c4 k4
  have b4 := F4.binds (ps := ["tab"]) fun _ _ _ _ _ _ us hl => match us, hl with | [_], _ => rfl
  have F5 := fun_mk (st := s__law_led_on) l5 c5 k5
  have b5 := F5.binds (ps := ["cells", "periods", "n", "total", "rounds"]) fun _ _ _ _ _ _ us hl => match us, hl with | [_, _, _, _, _], _ => rfl
  have F6 := fun_mk (st := s__law_two) l6 c6 k6
  have b6 := F6.binds (ps := ["row"]) fun _ _ _ _ _ _ us hl => match us, hl with | [_], _ => rfl
  have F7 := fun_mk (st := s__law_places) l7 c7 k7
  have b7 := F7.binds (ps := ["n", "row"]) fun _ _ _ _ _ _ us hl => match us, hl with | [_, _], _ => rfl
  have F8 := fun_mk (st := s__law_number) l8 c8 k8
  have b8 := F8.binds (ps := ["told", "due"]) fun _ _ _ _ _ _ us hl => match us, hl with | [_, _], _ => rfl
  have F9 := fun_mk (st := s__law_below) l9 c9 k9
  have b9 := F9.binds (ps := ["firsts", "first"]) fun _ _ _ _ _ _ us hl => match us, hl with | [_, _], _ => rfl
  have F10 := fun_mk (st := s__law_code) l10 c10 k10
  have b10 := F10.binds (ps := ["tab", "place"]) fun _ _ _ _ _ _ us hl => match us, hl with | [_, _], _ => rfl
  have F11 := fun_mk (st := s__law_class) l11 c11 k11
  have b11 := F11.binds (ps := ["tab", "steps", "place"]) fun _ _ _ _ _ _ us hl => match us, hl with | [_, _, _], _ => rfl
  have F12 := fun_mk (st := s_check_many) l12 c12 k12
  have b12 := F12.binds (ps := ["things", "most"]) fun _ _ _ _ _ _ us hl => match us, hl with | [_, _], _ => rfl
  have F13 := fun_mk (st := s_check_range) l13 c13 k13
  have b13 := F13.binds (ps := ["value", "low", "high"]) fun _ _ _ _ _ _ us hl => match us, hl with | [_, _, _], _ => rfl
  have F14 := fun_mk (st := s_check_periods) l14 c14 k14
  have b14 := F14.binds (ps := ["periods"]) fun _ _ _ _ _ _ us hl => match us, hl with | [_], _ => rfl
  have F15 := fun_mk (st := s_require_period) l15 c15 k15
  have b15 := F15.binds (ps := ["periods"]) fun _ _ _ _ _ _ us hl => match us, hl with | [_], _ => rfl
  have F16 := fun_mk (st := s__rounds) l16 c16 k16
  have b16 := F16.binds (ps := ["rows"]) fun _ _ _ _ _ _ us hl => match us, hl with | [_], _ => rfl
  have F17 := fun_mk (st := s__lessened) l17 c17 k17
  have b17 := F17.binds (ps := ["rows", "rounds"]) fun _ _ _ _ _ _ us hl => match us, hl with | [_, _], _ => rfl
  have F18 := fun_mk (st := s__classes) l18 c18 k18
  have b18 := F18.binds (ps := ["rows", "length"]) fun _ _ _ _ _ _ us hl => match us, hl with | [_, _], _ => rfl
  have F19 := fun_mk (st := s_class_count) l19 c19 k19
  have b19 := F19.binds (ps := ["periods", "length"]) fun _ _ _ _ _ _ us hl => match us, hl with | [_, _], _ => rfl
  have F20 := fun_mk (st := s__class_at) l20 c20 k20
  have b20 := F20.binds (ps := ["rows", "length", "place"]) fun _ _ _ _ _ _ us hl => match us, hl with | [_, _, _], _ => rfl
  have F21 := fun_mk (st := s_class_of) l21 c21 k21
  have b21 := F21.binds (ps := ["periods", "length", "place"]) fun _ _ _ _ _ _ us hl => match us, hl with | [_, _, _], _ => rfl
  have F22 := fun_mk (st := s__law_asked) l22 c22 k22
  have b22 := F22.binds (ps := ["handed", "n", "total", "tab", "steps", "row"]) fun _ _ _ _ _ _ us hl => match us, hl with | [_, _, _, _, _, _], _ => rfl
  have F23 := fun_mk (st := s__law_gcd) l23 c23 k23
  have b23 := F23.binds (ps := ["first", "second"]) fun _ _ _ _ _ _ us hl => match us, hl with | [_, _], _ => rfl
  have F24 := fun_mk (st := s__law_two_asked) l24 c24 k24
  have b24 := F24.binds (ps := ["low", "high", "draw"]) fun _ _ _ _ _ _ us hl => match us, hl with | [_, _, _], _ => rfl
  have F25 := fun_mk (st := s__law_refused) l25 c25 k25
  have b25 := F25.binds (ps := ["told", "kind", "due"]) fun _ _ _ _ _ _ us hl => match us, hl with | [_, _, _], _ => rfl
  have F26 := fun_mk (st := s__law_told) l26 c26 k26
  have b26 := F26.binds (ps := ["which", "periods", "length", "place"]) fun _ _ _ _ _ _ us hl => match us, hl with | [_, _, _, _], _ => rfl
  have F27 := fun_mk (st := s__law_refusals) l27 c27 k27
  have b27 := F27.binds (ps := ["periods", "at", "bad", "length", "n"]) fun _ _ _ _ _ _ us hl => match us, hl with | [_, _, _, _, _], _ => rfl
  have F28 := fun_mk (st := s_law) l28 c28 k28
  have b28 := F28.binds (ps := ["script"]) fun _ _ _ _ _ _ us hl => match us, hl with | [_], _ => rfl
  refine ⟨PySem.W.fnOf "law" "law" (defArgs s_law) (defBody s_law) (defScope s_law) .none kV28 dc28 pm28 an28 cd28 ct28, fun s v => .of_eq rfl, fun base _ _ => ?_⟩
  have xc_TooMany' : XC K C_TooMany := xc_of is_TooMany ga_TooMany gg_TooMany su_TooMany ca_TooMany zS zT mr_TooMany hd_TooMany
  have xc_WordError' : XC K C_WordError := xc_of is_WordError ga_WordError gg_WordError su_WordError ca_WordError zS zT mr_WordError hd_WordError
  have xc_OutOfBounds' : XC K C_OutOfBounds := xc_of is_OutOfBounds ga_OutOfBounds gg_OutOfBounds su_OutOfBounds ca_OutOfBounds zS zT mr_OutOfBounds hd_OutOfBounds
  have xc_NoPeriod' : XC K C_NoPeriod := xc_of is_NoPeriod ga_NoPeriod gg_NoPeriod su_NoPeriod ca_NoPeriod zS zT mr_NoPeriod hd_NoPeriod
  have iF_TooMany := fun_mk (st := (inClass (top 3) 0)) il_TooMany ic_TooMany ik_TooMany
  have ib_TooMany := iF_TooMany.binds (ps := ["self", "most"]) fun _ _ _ _ _ _ us hl => match us, hl with | [_, _], _ => rfl
  have ox_TooMany : OexC K C_TooMany := ⟨⟨_, _, _, _, _, _, _, _, _, _, _, _, _, _, _, lk_TooMany, by rfl⟩, sa_TooMany, su_TooMany, ty_TooMany, kp_TooMany⟩
  have io_TooMany := init_ok (P := l.prog) (w := w) (mg := mg) (base := base) iF_TooMany (⟨rfl, rfl, rfl, by decide +kernel, rfl, by decide +kernel, by decide +kernel⟩ : FnScope ["self", "most"] ["self", "most"] (defScope (inClass (top 3) 0))) rfl ox_TooMany no_TooMany (Or.inl rfl) (Or.inl rfl) (by decide) (by decide)
  have iF_OutOfBounds := fun_mk (st := (inClass (top 2) 0)) il_OutOfBounds ic_OutOfBounds ik_OutOfBounds
  have ib_OutOfBounds := iF_OutOfBounds.binds (ps := ["self", "value"]) fun _ _ _ _ _ _ us hl => match us, hl with | [_, _], _ => rfl
  have ox_OutOfBounds : OexC K C_OutOfBounds := ⟨⟨_, _, _, _, _, _, _, _, _, _, _, _, _, _, _, lk_OutOfBounds, by rfl⟩, sa_OutOfBounds, su_OutOfBounds, ty_OutOfBounds, kp_OutOfBounds⟩
  have io_OutOfBounds := init_ok (P := l.prog) (w := w) (mg := mg) (base := base) iF_OutOfBounds (⟨rfl, rfl, rfl, by decide +kernel, rfl, by decide +kernel, by decide +kernel⟩ : FnScope ["self", "value"] ["self", "value"] (defScope (inClass (top 2) 0))) rfl ox_OutOfBounds no_OutOfBounds (Or.inl rfl) (Or.inl rfl) (by decide) (by decide)
  have EE : Errs l.prog w K mg base := ⟨⟨⟨_, _, _, _, (PySem.W.mg_of X G nC_TooMany), ox_TooMany, in_TooMany, it_TooMany, io_TooMany, ib_TooMany⟩⟩,
    ⟨⟨_, _, _, _, (PySem.W.mg_of X G nC_OutOfBounds), ox_OutOfBounds, in_OutOfBounds, it_OutOfBounds, io_OutOfBounds, ib_OutOfBounds⟩⟩,
    ⟨⟨_, (PySem.W.mg_of X G nC_NoPeriod), xc_NoPeriod, kp_NoPeriod, su_NoPeriod, ty_NoPeriod⟩⟩,
    ⟨⟨_, (PySem.W.mg_of X G nC_WordError), exM_of (.cons (PySem.W.mg_of X G nC_TooMany) (exm_own su_WordError is_WordError ty_WordError sub_TooMany_WordError) (.cons (PySem.W.mg_of X G nC_OutOfBounds) (exm_own su_WordError is_WordError ty_WordError sub_OutOfBounds_WordError) (.cons (PySem.W.mg_of X G nC_NoPeriod) (exm_own su_WordError is_WordError ty_WordError sub_NoPeriod_WordError) (.nil))))⟩⟩,
    ⟨⟨_, (PySem.W.mg_of X G nC_TooMany)⟩⟩,
    ⟨⟨_, (PySem.W.mg_of X G nC_OutOfBounds)⟩⟩,
    ⟨⟨_, (PySem.W.mg_of X G nC_NoPeriod)⟩⟩,
    tab_of (.own (PySem.W.mg_of X G nC_TooMany) (PySem.W.mg_of X G nC_TooMany) xc_TooMany' (kit_own is_TooMany ty_TooMany sub_TooMany_TooMany sub_TooMany_TooMany) (.own (PySem.W.mg_of X G nC_TooMany) (PySem.W.mg_of X G nC_OutOfBounds) xc_TooMany' (kit_own is_OutOfBounds ty_OutOfBounds sub_TooMany_OutOfBounds sub_TooMany_TooMany) (.own (PySem.W.mg_of X G nC_TooMany) (PySem.W.mg_of X G nC_NoPeriod) xc_TooMany' (kit_own is_NoPeriod ty_NoPeriod sub_TooMany_NoPeriod sub_TooMany_TooMany) (.blt (T := "ValueError") (PySem.W.mg_of X G nC_TooMany) (T.b_ValueError) rfl xc_TooMany' (kit_blt (by decide +kernel) sub_TooMany_ValueError) (.own (PySem.W.mg_of X G nC_OutOfBounds) (PySem.W.mg_of X G nC_TooMany) xc_OutOfBounds' (kit_own is_TooMany ty_TooMany sub_OutOfBounds_TooMany sub_OutOfBounds_OutOfBounds) (.own (PySem.W.mg_of X G nC_OutOfBounds) (PySem.W.mg_of X G nC_OutOfBounds) xc_OutOfBounds' (kit_own is_OutOfBounds ty_OutOfBounds sub_OutOfBounds_OutOfBounds sub_OutOfBounds_OutOfBounds) (.own (PySem.W.mg_of X G nC_OutOfBounds) (PySem.W.mg_of X G nC_NoPeriod) xc_OutOfBounds' (kit_own is_NoPeriod ty_NoPeriod sub_OutOfBounds_NoPeriod sub_OutOfBounds_OutOfBounds) (.blt (T := "ValueError") (PySem.W.mg_of X G nC_OutOfBounds) (T.b_ValueError) rfl xc_OutOfBounds' (kit_blt (by decide +kernel) sub_OutOfBounds_ValueError) (.own (PySem.W.mg_of X G nC_NoPeriod) (PySem.W.mg_of X G nC_TooMany) xc_NoPeriod' (kit_own is_TooMany ty_TooMany sub_NoPeriod_TooMany sub_NoPeriod_NoPeriod) (.own (PySem.W.mg_of X G nC_NoPeriod) (PySem.W.mg_of X G nC_OutOfBounds) xc_NoPeriod' (kit_own is_OutOfBounds ty_OutOfBounds sub_NoPeriod_OutOfBounds sub_NoPeriod_NoPeriod) (.own (PySem.W.mg_of X G nC_NoPeriod) (PySem.W.mg_of X G nC_NoPeriod) xc_NoPeriod' (kit_own is_NoPeriod ty_NoPeriod sub_NoPeriod_NoPeriod sub_NoPeriod_NoPeriod) (.blt (T := "ValueError") (PySem.W.mg_of X G nC_NoPeriod) (T.b_ValueError) rfl xc_NoPeriod' (kit_blt (by decide +kernel) sub_NoPeriod_ValueError) (.nil))))))))))))) (.cons (PySem.W.mg_of X G nC_TooMany) xc_TooMany' no_TooMany (.cons (PySem.W.mg_of X G nC_OutOfBounds) xc_OutOfBounds' no_OutOfBounds (.nil)))⟩
  have O0 := o__law_dig (P := l.prog) (w := w) (base := base) T F0
  have D0 : Def l.prog w K mg base "_law_dig" 1 3 g__law_dig := ⟨f0, _, _, O0, PySem.W.mg_of X G a0, k0, b0⟩
  have O1 := o__law_closing (P := l.prog) (w := w) (base := base) T F1
  have D1 : Def l.prog w K mg base "_law_closing" 1 2 g__law_closing := ⟨f1, _, _, O1, PySem.W.mg_of X G a1, k1, b1⟩
  have O2 := o__law_table (P := l.prog) (w := w) (base := base) T D1 F2
  have D2 : Def l.prog w K mg base "_law_table" 2 4 g__law_table := ⟨f2, _, _, O2, PySem.W.mg_of X G a2, k2, b2⟩
  have O3 := o__law_firsts (P := l.prog) (w := w) (base := base) T F3
  have D3 : Def l.prog w K mg base "_law_firsts" 1 1 g__law_firsts := ⟨f3, _, _, O3, PySem.W.mg_of X G a3, k3, b3⟩
  have O4 := o__law_total (P := l.prog) (w := w) (base := base) T D3 F4
  have D4 : Def l.prog w K mg base "_law_total" 2 1 g__law_total := ⟨f4, _, _, O4, PySem.W.mg_of X G a4, k4, b4⟩
  have O5 := o__law_led_on (P := l.prog) (w := w) (base := base) T D0 F5
  have D5 : Def l.prog w K mg base "_law_led_on" 2 5 g__law_led_on := ⟨f5, _, _, O5, PySem.W.mg_of X G a5, k5, b5⟩
  have O6 := o__law_two (P := l.prog) (w := w) (base := base) T F6
  have D6 : Def l.prog w K mg base "_law_two" 1 1 g__law_two := ⟨f6, _, _, O6, PySem.W.mg_of X G a6, k6, b6⟩
  have O7 := o__law_places (P := l.prog) (w := w) (base := base) T F7
  have D7 : Def l.prog w K mg base "_law_places" 1 2 g__law_places := ⟨f7, _, _, O7, PySem.W.mg_of X G a7, k7, b7⟩
  have O8 := o__law_number (P := l.prog) (w := w) (base := base) T F8
  have D8 : Def l.prog w K mg base "_law_number" 1 2 g__law_number := ⟨f8, _, _, O8, PySem.W.mg_of X G a8, k8, b8⟩
  have O9 := o__law_below (P := l.prog) (w := w) (base := base) T F9
  have D9 : Def l.prog w K mg base "_law_below" 1 2 g__law_below := ⟨f9, _, _, O9, PySem.W.mg_of X G a9, k9, b9⟩
  have O10 := o__law_code (P := l.prog) (w := w) (base := base) T D3 D9 F10
  have D10 : Def l.prog w K mg base "_law_code" 2 2 g__law_code := ⟨f10, _, _, O10, PySem.W.mg_of X G a10, k10, b10⟩
  have O11 := o__law_class (P := l.prog) (w := w) (base := base) T D10 F11
  have D11 : Def l.prog w K mg base "_law_class" 3 3 g__law_class := ⟨f11, _, _, O11, PySem.W.mg_of X G a11, k11, b11⟩
  have O12 := o_check_many (P := l.prog) (w := w) (base := base) T EE F12
  have D12 : Def l.prog w K mg base "check_many" 3 2 g_check_many := ⟨f12, _, _, O12, PySem.W.mg_of X G a12, k12, b12⟩
  have O13 := o_check_range (P := l.prog) (w := w) (base := base) T EE F13
  have D13 : Def l.prog w K mg base "check_range" 3 3 g_check_range := ⟨f13, _, _, O13, PySem.W.mg_of X G a13, k13, b13⟩
  have O14 := o_check_periods (P := l.prog) (w := w) (base := base) T D12 D13 F14
  have D14 : Def l.prog w K mg base "check_periods" 4 1 g_check_periods := ⟨f14, _, _, O14, PySem.W.mg_of X G a14, k14, b14⟩
  have O15 := o_require_period (P := l.prog) (w := w) (base := base) T EE F15
  have D15 : Def l.prog w K mg base "require_period" 1 1 g_require_period := ⟨f15, _, _, O15, PySem.W.mg_of X G a15, k15, b15⟩
  have O16 := o__rounds (P := l.prog) (w := w) (base := base) T F16
  have D16 : Def l.prog w K mg base "_rounds" 1 1 g__rounds := ⟨f16, _, _, O16, PySem.W.mg_of X G a16, k16, b16⟩
  have O17 := o__lessened (P := l.prog) (w := w) (base := base) T F17
  have D17 : Def l.prog w K mg base "_lessened" 1 2 g__lessened := ⟨f17, _, _, O17, PySem.W.mg_of X G a17, k17, b17⟩
  have O18 := o__classes (P := l.prog) (w := w) (base := base) T D16 D17 F18
  have D18 : Def l.prog w K mg base "_classes" 2 2 g__classes := ⟨f18, _, _, O18, PySem.W.mg_of X G a18, k18, b18⟩
  have O19 := o_class_count (P := l.prog) (w := w) (base := base) T D14 D13 D15 D18 F19
  have D19 : Def l.prog w K mg base "class_count" 5 2 g_class_count := ⟨f19, _, _, O19, PySem.W.mg_of X G a19, k19, b19⟩
  have DK0 : DefK l.prog w K mg base "class_count" 5 2 g_class_count 0 ["length", "periods"] [1, 0] := ⟨f19, _, _, O19, PySem.W.mg_of X G a19, k19, fun s us ws _ hu hw => match us, ws, hu, hw with | [], [_, _], _, _ => .of_eq (by first | rfl | with_unfolding_all rfl)⟩
  have O20 := o__class_at (P := l.prog) (w := w) (base := base) T D16 D18 D17 F20
  have D20 : Def l.prog w K mg base "_class_at" 3 3 g__class_at := ⟨f20, _, _, O20, PySem.W.mg_of X G a20, k20, b20⟩
  have O21 := o_class_of (P := l.prog) (w := w) (base := base) T D14 D13 D15 D20 F21
  have D21 : Def l.prog w K mg base "class_of" 5 3 g_class_of := ⟨f21, _, _, O21, PySem.W.mg_of X G a21, k21, b21⟩
  have O22 := o__law_asked (P := l.prog) (w := w) (base := base) T D8 D19 D7 D11 D21 DK0 F22
  have D22 : Def l.prog w K mg base "_law_asked" 6 6 g__law_asked := ⟨f22, _, _, O22, PySem.W.mg_of X G a22, k22, b22⟩
  have O23 := o__law_gcd (P := l.prog) (w := w) (base := base) T F23
  have D23 : Def l.prog w K mg base "_law_gcd" 1 2 g__law_gcd := ⟨f23, _, _, O23, PySem.W.mg_of X G a23, k23, b23⟩
  have O24 := o__law_two_asked (P := l.prog) (w := w) (base := base) T D23 D8 D19 D21 F24
  have D24 : Def l.prog w K mg base "_law_two_asked" 6 3 g__law_two_asked := ⟨f24, _, _, O24, PySem.W.mg_of X G a24, k24, b24⟩
  have O25 := o__law_refused (P := l.prog) (w := w) (base := base) T D8 F25
  have D25 : Def l.prog w K mg base "_law_refused" 2 3 g__law_refused := ⟨f25, _, _, O25, PySem.W.mg_of X G a25, k25, b25⟩
  have O26 := o__law_told (P := l.prog) (w := w) (base := base) T EE D21 D19 F26
  have D26 : Def l.prog w K mg base "_law_told" 6 4 g__law_told := ⟨f26, _, _, O26, PySem.W.mg_of X G a26, k26, b26⟩
  have O27 := o__law_refusals (P := l.prog) (w := w) (base := base) T D25 D26 F27
  have D27 : Def l.prog w K mg base "_law_refusals" 7 5 g__law_refusals := ⟨f27, _, _, O27, PySem.W.mg_of X G a27, k27, b27⟩
  exact law_fn main (o_law (P := l.prog) (w := w) (base := base) T D0 D2 D22 D4 D5 D6 D24 D27 F28)
end
end K37
open PySem PySem.W PyProof.Rows
set_option maxHeartbeats 0 in
theorem PySem.Challenge.cw_wordruns_k37_far_classes_holds : PySem.Challenge.rw_wordruns_k37_far_classes.Holds := by
  w_on; o_law; k_head; (case hw => w_witness2)
  k_fill
  refine Pc.law_walk (l := PySem.Challenge.rw_wordruns_k37_far_classes) (k := 8) rfl rfl ⟨rfl, by decide, by decide⟩ (fun w h Y => PySem.W.kIn_of Y) ?F
  case F =>
    intro w mg fa h KX G hmg
    refine' K37.all_mk KX G hmg ?a0 ?l0 ?c0 ?k0 ?a1 ?l1 ?c1 ?k1 ?a2 ?l2 ?c2 ?k2 ?a3 ?l3 ?c3 ?k3 ?a4 ?l4 ?c4 ?k4 ?a5 ?l5 ?c5 ?k5 ?a6 ?l6 ?c6 ?k6 ?a7 ?l7 ?c7 ?k7 ?a8 ?l8 ?c8 ?k8 ?a9 ?l9 ?c9 ?k9 ?a10 ?l10 ?c10 ?k10 ?a11 ?l11 ?c11 ?k11 ?a12 ?l12 ?c12 ?k12 ?a13 ?l13 ?c13 ?k13 ?a14 ?l14 ?c14 ?k14 ?a15 ?l15 ?c15 ?k15 ?a16 ?l16 ?c16 ?k16 ?a17 ?l17 ?c17 ?k17 ?a18 ?l18 ?c18 ?k18 ?a19 ?l19 ?c19 ?k19 ?a20 ?l20 ?c20 ?k20 ?a21 ?l21 ?c21 ?k21 ?a22 ?l22 ?c22 ?k22 ?a23 ?l23 ?c23 ?k23 ?a24 ?l24 ?c24 ?k24 ?a25 ?l25 ?c25 ?k25 ?a26 ?l26 ?c26 ?k26 ?a27 ?l27 ?c27 ?k27 ?a28 ?l28 ?c28 ?k28 ?z_ValueError ?z_abs ?z_bool ?z_int ?z_isinstance ?z_len ?z_list ?z_max ?z_min ?z_range ?z_set ?z_sorted ?z_tuple ?z_LONGEST ?z_MOST_PERIODS ?nC_TooMany ?nC_WordError ?nC_OutOfBounds ?nC_NoPeriod ?zS ?zT ?kp_TooMany ?su_TooMany ?ty_TooMany ?is_TooMany ?hd_TooMany ?ga_TooMany ?gg_TooMany ?ca_TooMany ?mr_TooMany ?lk_TooMany ?sa_TooMany ?no_TooMany ?in_TooMany ?il_TooMany ?ic_TooMany ?ik_TooMany ?it_TooMany ?kp_WordError ?su_WordError ?ty_WordError ?is_WordError ?hd_WordError ?ga_WordError ?gg_WordError ?ca_WordError ?mr_WordError ?kp_OutOfBounds ?su_OutOfBounds ?ty_OutOfBounds ?is_OutOfBounds ?hd_OutOfBounds ?ga_OutOfBounds ?gg_OutOfBounds ?ca_OutOfBounds ?mr_OutOfBounds ?lk_OutOfBounds ?sa_OutOfBounds ?no_OutOfBounds ?in_OutOfBounds ?il_OutOfBounds ?ic_OutOfBounds ?ik_OutOfBounds ?it_OutOfBounds ?kp_NoPeriod ?su_NoPeriod ?ty_NoPeriod ?is_NoPeriod ?hd_NoPeriod ?ga_NoPeriod ?gg_NoPeriod ?ca_NoPeriod ?mr_NoPeriod ?xc_NoPeriod ?sub_TooMany_WordError ?sub_TooMany_TooMany ?sub_TooMany_OutOfBounds ?sub_TooMany_NoPeriod ?sub_TooMany_ValueError ?sub_OutOfBounds_WordError ?sub_OutOfBounds_TooMany ?sub_OutOfBounds_OutOfBounds ?sub_OutOfBounds_NoPeriod ?sub_OutOfBounds_ValueError ?sub_NoPeriod_WordError ?sub_NoPeriod_TooMany ?sub_NoPeriod_OutOfBounds ?sub_NoPeriod_NoPeriod ?sub_NoPeriod_ValueError
    (case a0 => k_is)
    (case l0 => k_is)
    (case c0 => k_is)
    (case k0 => k_is)
    (case a1 => k_is)
    (case l1 => k_is)
    (case c1 => k_is)
    (case k1 => k_is)
    (case a2 => k_is)
    (case l2 => k_is)
    (case c2 => k_is)
    (case k2 => k_is)
    (case a3 => k_is)
    (case l3 => k_is)
    (case c3 => k_is)
    (case k3 => k_is)
    (case a4 => k_is)
    (case l4 => k_is)
    (case c4 => k_is)
    (case k4 => k_is)
    (case a5 => k_is)
    (case l5 => k_is)
    (case c5 => k_is)
    (case k5 => k_is)
    (case a6 => k_is)
    (case l6 => k_is)
    (case c6 => k_is)
    (case k6 => k_is)
    (case a7 => k_is)
    (case l7 => k_is)
    (case c7 => k_is)
    (case k7 => k_is)
    (case a8 => k_is)
    (case l8 => k_is)
    (case c8 => k_is)
    (case k8 => k_is)
    (case a9 => k_is)
    (case l9 => k_is)
    (case c9 => k_is)
    (case k9 => k_is)
    (case a10 => k_is)
    (case l10 => k_is)
    (case c10 => k_is)
    (case k10 => k_is)
    (case a11 => k_is)
    (case l11 => k_is)
    (case c11 => k_is)
    (case k11 => k_is)
    (case a12 => k_is)
    (case l12 => k_is)
    (case c12 => k_is)
    (case k12 => k_is)
    (case a13 => k_is)
    (case l13 => k_is)
    (case c13 => k_is)
    (case k13 => k_is)
    (case a14 => k_is)
    (case l14 => k_is)
    (case c14 => k_is)
    (case k14 => k_is)
    (case a15 => k_is)
    (case l15 => k_is)
    (case c15 => k_is)
    (case k15 => k_is)
    (case a16 => k_is)
    (case l16 => k_is)
    (case c16 => k_is)
    (case k16 => k_is)
    (case a17 => k_is)
    (case l17 => k_is)
    (case c17 => k_is)
    (case k17 => k_is)
    (case a18 => k_is)
    (case l18 => k_is)
    (case c18 => k_is)
    (case k18 => k_is)
    (case a19 => k_is)
    (case l19 => k_is)
    (case c19 => k_is)
    (case k19 => k_is)
    (case a20 => k_is)
    (case l20 => k_is)
    (case c20 => k_is)
    (case k20 => k_is)
    (case a21 => k_is)
    (case l21 => k_is)
    (case c21 => k_is)
    (case k21 => k_is)
    (case a22 => k_is)
    (case l22 => k_is)
    (case c22 => k_is)
    (case k22 => k_is)
    (case a23 => k_is)
    (case l23 => k_is)
    (case c23 => k_is)
    (case k23 => k_is)
    (case a24 => k_is)
    (case l24 => k_is)
    (case c24 => k_is)
    (case k24 => k_is)
    (case a25 => k_is)
    (case l25 => k_is)
    (case c25 => k_is)
    (case k25 => k_is)
    (case a26 => k_is)
    (case l26 => k_is)
    (case c26 => k_is)
    (case k26 => k_is)
    (case a27 => k_is)
    (case l27 => k_is)
    (case c27 => k_is)
    (case k27 => k_is)
    (case a28 => k_is)
    (case l28 => k_is)
    (case c28 => k_is)
    (case k28 => k_is)
    (case z_ValueError => k_is)
    (case z_abs => k_is)
    (case z_bool => k_is)
    (case z_int => k_is)
    (case z_isinstance => k_is)
    (case z_len => k_is)
    (case z_list => k_is)
    (case z_max => k_is)
    (case z_min => k_is)
    (case z_range => k_is)
    (case z_set => k_is)
    (case z_sorted => k_is)
    (case z_tuple => k_is)
    (case z_LONGEST => k_is)
    (case z_MOST_PERIODS => k_is)
    (case nC_TooMany => k_is)
    (case nC_WordError => k_is)
    (case nC_OutOfBounds => k_is)
    (case nC_NoPeriod => k_is)
    (case zS => k_is)
    (case zT => k_is)
    (case kp_TooMany => k_is)
    (case su_TooMany => k_is)
    (case ty_TooMany => k_is)
    (case is_TooMany => k_is)
    (case hd_TooMany => k_is)
    (case ga_TooMany => k_is)
    (case gg_TooMany => k_is)
    (case ca_TooMany => k_is)
    (case mr_TooMany => k_is)
    (case lk_TooMany => k_is)
    (case sa_TooMany => k_is)
    (case no_TooMany => k_is)
    (case in_TooMany => k_is)
    (case il_TooMany => k_is)
    (case ic_TooMany => k_is)
    (case ik_TooMany => k_is)
    (case it_TooMany => k_is)
    (case kp_WordError => k_is)
    (case su_WordError => k_is)
    (case ty_WordError => k_is)
    (case is_WordError => k_is)
    (case hd_WordError => k_is)
    (case ga_WordError => k_is)
    (case gg_WordError => k_is)
    (case ca_WordError => k_is)
    (case mr_WordError => k_is)
    (case kp_OutOfBounds => k_is)
    (case su_OutOfBounds => k_is)
    (case ty_OutOfBounds => k_is)
    (case is_OutOfBounds => k_is)
    (case hd_OutOfBounds => k_is)
    (case ga_OutOfBounds => k_is)
    (case gg_OutOfBounds => k_is)
    (case ca_OutOfBounds => k_is)
    (case mr_OutOfBounds => k_is)
    (case lk_OutOfBounds => k_is)
    (case sa_OutOfBounds => k_is)
    (case no_OutOfBounds => k_is)
    (case in_OutOfBounds => k_is)
    (case il_OutOfBounds => k_is)
    (case ic_OutOfBounds => k_is)
    (case ik_OutOfBounds => k_is)
    (case it_OutOfBounds => k_is)
    (case kp_NoPeriod => k_is)
    (case su_NoPeriod => k_is)
    (case ty_NoPeriod => k_is)
    (case is_NoPeriod => k_is)
    (case hd_NoPeriod => k_is)
    (case ga_NoPeriod => k_is)
    (case gg_NoPeriod => k_is)
    (case ca_NoPeriod => k_is)
    (case mr_NoPeriod => k_is)
    (case xc_NoPeriod => k_exc)
    (case sub_TooMany_WordError => k_is)
    (case sub_TooMany_TooMany => k_is)
    (case sub_TooMany_OutOfBounds => k_is)
    (case sub_TooMany_NoPeriod => k_is)
    (case sub_TooMany_ValueError => k_is)
    (case sub_OutOfBounds_WordError => k_is)
    (case sub_OutOfBounds_TooMany => k_is)
    (case sub_OutOfBounds_OutOfBounds => k_is)
    (case sub_OutOfBounds_NoPeriod => k_is)
    (case sub_OutOfBounds_ValueError => k_is)
    (case sub_NoPeriod_WordError => k_is)
    (case sub_NoPeriod_TooMany => k_is)
    (case sub_NoPeriod_OutOfBounds => k_is)
    (case sub_NoPeriod_NoPeriod => k_is)
    (case sub_NoPeriod_ValueError => k_is)
