import PyProof.Rows.All
import Wide.All
import OpenK.AllK
import Wide.FinOn
import HandS.ForMost
import HandS.ForExc
import HandS.Style
import HandS.Wide
import HandS.Gcd
import HandS.Rev
import HandS.IsInst
import HandS.SortInts
import HandS.Conv
import HandS.Strs
import HandS.SetFor
import HandS.ExcInit
import KE.DatumOrd
import HandS.SortKw
import PySem.Challenge.RW_wordruns_k36_far_thresholds
set_option Elab.async false
set_option linter.all false
set_option maxRecDepth 100000
set_option maxHeartbeats 4000000
/-! A functional reading of Python bodies: data without a heap (D), environments, and what a judgement of the hand layer says of them. -/
namespace Pc
open PySem L2

/-- data, without addresses -/
inductive D where
  | non | bl (b : Bool) | int (i : Int) | str (x : Str) | lst (xs : List D) | tup (xs : List D) | st (xs : List Int) | scr (xs : List Int)
  deriving Inhabited

mutual
/-- v stands for the data d in the (frozen) heap F -/
inductive Rep (K : PySem.W.Frag) (w : World) (F : Hp) : D → V → Prop where
  | non : Rep K w F .non .non
  | bl (b : Bool) : Rep K w F (.bl b) (.bl b)
  | int (i : Int) : Rep K w F (.int i) (.int i)
  | str (x : Str) : Rep K w F (.str x) (.str x)
  | lst {a : Addr} {xs : List V} {ds : List D} : F a = some (.lst xs) → Reps K w F ds xs → Rep K w F (.lst ds) (.ref a)
  | tup {a : Addr} {xs : List V} {ds : List D} : SqT K F a xs → Reps K w F ds xs → Rep K w F (.tup ds) (.ref a)
  | st {a : Addr} {S : Int → Bool} {n : Nat} {is : List Int} : F a = some (SetO w a S n) → (∀ i, S i = decide (i ∈ is)) → n ≤ is.length → Rep K w F (.st is) (.ref a)
  | scr {a : Addr} {ns : List Int} : SqL K F a (ns.map V.int) → Rep K w F (.scr ns) (.ref a)
inductive Reps (K : PySem.W.Frag) (w : World) (F : Hp) : List D → List V → Prop where
  | nil : Reps K w F [] []
  | cons {d : D} {ds : List D} {v : V} {vs : List V} : Rep K w F d v → Reps K w F ds vs → Reps K w F (d :: ds) (v :: vs)
end

theorem Same.tup {K : PySem.W.Frag} {H H' : Hp} {a : Addr} {xs : List V} (e : Same H H') (h : SqT K H a xs) : SqT K H' a xs := by
  rcases h with (h | ⟨o, h⟩) | h
  · exact .inl (.inl (e _ _ h))
  · exact .inl (.inr ⟨o, e _ _ h⟩)
  · exact .inr h

section
variable {K : PySem.W.Frag} {w : World} {F F' : Hp}
mutual
theorem Rep.mono (e : Same F F') : ∀ (d : D) (v : V), Rep K w F d v → Rep K w F' d v
  | .non, _, h => by cases h; exact .non
  | .bl b, _, h => by cases h; exact .bl b
  | .int i, _, h => by cases h; exact .int i
  | .str x, _, h => by cases h; exact .str x
  | .lst ds, _, h => by cases h with | lst h1 h2 => exact .lst (e _ _ h1) (Reps.mono e ds _ h2)
  | .tup ds, _, h => by cases h with | tup h1 h2 => exact .tup (Same.tup e h1) (Reps.mono e ds _ h2)
  | .st is, _, h => by cases h with | st h1 h2 h3 => exact .st (e _ _ h1) h2 h3
  | .scr is, _, h => by cases h with | scr h1 => exact .scr (e.seq h1)
theorem Reps.mono (e : Same F F') : ∀ (ds : List D) (vs : List V), Reps K w F ds vs → Reps K w F' ds vs
  | [], _, h => by cases h; exact .nil
  | d :: ds, _, h => by cases h with | cons h1 h2 => exact .cons (Rep.mono e d _ h1) (Reps.mono e ds _ h2)
end
theorem Reps.length : ∀ {ds : List D} {vs : List V}, Reps K w F ds vs → ds.length = vs.length
  | [], _, h => by cases h; rfl
  | d :: ds, _, h => by cases h with | cons h1 h2 => simp [Reps.length h2]
theorem Reps.append : ∀ {ds es : List D} {vs us : List V}, Reps K w F ds vs → Reps K w F es us → Reps K w F (ds ++ es) (vs ++ us)
  | [], _, _, _, h, g => by cases h; exact g
  | d :: ds, _, _, _, h, g => by cases h with | cons h1 h2 => exact .cons h1 (Reps.append h2 g)
theorem Reps.get : ∀ {ds : List D} {vs : List V} {i : Nat} {d : D}, Reps K w F ds vs → ds[i]? = some d → ∃ v, vs[i]? = some v ∧ Rep K w F d v
  | [], _, _, _, h, e => by simp at e
  | d :: ds, _, 0, _, h, e => by cases h with | cons h1 h2 => simp at e; subst e; exact ⟨_, rfl, h1⟩
  | d :: ds, _, i + 1, _, h, e => by
    cases h with | cons h1 h2 =>
    obtain ⟨v, e1, e2⟩ := Reps.get (i := i) h2 (by simpa using e)
    exact ⟨v, by simpa using e1, e2⟩
theorem Reps.getV : ∀ {ds : List D} {vs : List V} {i : Nat} {v : V}, Reps K w F ds vs → vs[i]? = some v → ∃ d, ds[i]? = some d ∧ Rep K w F d v
  | [], _, _, _, h, e => by cases h; simp at e
  | d :: ds, _, 0, _, h, e => by cases h with | cons h1 h2 => simp at e; subst e; exact ⟨_, rfl, h1⟩
  | d :: ds, _, i + 1, _, h, e => by
    cases h with | cons h1 h2 =>
    obtain ⟨v, e1, e2⟩ := Reps.getV (i := i) h2 (by simpa using e)
    exact ⟨v, by simpa using e1, e2⟩
theorem Reps.set {d : D} {v : V} (r : Rep K w F d v) : ∀ {ds : List D} {vs : List V} (i : Nat), Reps K w F ds vs → Reps K w F (ds.set i d) (vs.set i v)
  | [], _, _, h => by cases h; exact .nil
  | _ :: ds, _, 0, h => by cases h with | cons h1 h2 => exact .cons r h2
  | _ :: ds, _, i + 1, h => by cases h with | cons h1 h2 => exact .cons h1 (Reps.set r i h2)
theorem Reps.take : ∀ {ds : List D} {vs : List V} (n : Nat), Reps K w F ds vs → Reps K w F (ds.take n) (vs.take n)
  | _, _, 0, _ => .nil
  | [], _, n + 1, h => by cases h; exact .nil
  | d :: ds, _, n + 1, h => by cases h with | cons h1 h2 => exact .cons h1 (Reps.take n h2)
theorem Reps.drop : ∀ {ds : List D} {vs : List V} (n : Nat), Reps K w F ds vs → Reps K w F (ds.drop n) (vs.drop n)
  | _, _, 0, h => h
  | [], _, n + 1, h => by cases h; exact .nil
  | d :: ds, _, n + 1, h => by cases h with | cons h1 h2 => exact Reps.drop n h2
theorem Reps.reverse : ∀ {ds : List D} {vs : List V}, Reps K w F ds vs → Reps K w F ds.reverse vs.reverse
  | [], _, h => by cases h; exact .nil
  | d :: ds, _, h => by
    cases h with | cons h1 h2 =>
    rw [List.reverse_cons, List.reverse_cons]
    exact Reps.append (Reps.reverse h2) (.cons h1 .nil)
theorem Reps.dropLast : ∀ {ds : List D} {vs : List V}, Reps K w F ds vs → Reps K w F ds.dropLast vs.dropLast := fun {ds vs} h => by
  rw [List.dropLast_eq_take, List.dropLast_eq_take, h.length]
  exact h.take _
theorem Reps.ints : ∀ (ns : List Int), Reps K w F (ns.map D.int) (ns.map V.int)
  | [] => .nil
  | n :: ns => .cons (.int n) (Reps.ints ns)
theorem Reps.intsV : ∀ {ns : List Int} {vs : List V}, Reps K w F (ns.map D.int) vs → vs = ns.map V.int
  | [], _, h => by cases h; rfl
  | n :: ns, _, h => by cases h with | cons h1 h2 => cases h1; rw [Reps.intsV h2]; rfl
theorem Reps.bools : ∀ (ns : List Bool), Reps K w F (ns.map D.bl) (ns.map V.bl)
  | [] => .nil
  | n :: ns => .cons (.bl n) (Reps.bools ns)
theorem Reps.boolsV : ∀ {ns : List Bool} {vs : List V}, Reps K w F (ns.map D.bl) vs → vs = ns.map V.bl
  | [], _, h => by cases h; rfl
  | n :: ns, _, h => by cases h with | cons h1 h2 => cases h1; rw [Reps.boolsV h2]; rfl
end

/-- the frozen part F grew to F', the heap H to H'; what F gained is new -/
structure Grow (F H F' H' : Hp) : Prop where
  ff : Same F F'
  fh : Same F' H'
  hh : Same H H'
  nw : ∀ a o, F' a = some o → H a ≠ none → F a = some o
theorem Grow.refl {F H : Hp} (h : Same F H) : Grow F H F H := ⟨Same.refl F, h, Same.refl H, fun _ _ e _ => e⟩
theorem Grow.trans {F H F1 H1 F2 H2 : Hp} (a : Grow F H F1 H1) (b : Grow F1 H1 F2 H2) : Grow F H F2 H2 :=
  ⟨a.ff.trans b.ff, b.fh, a.hh.trans b.hh, fun x o e n => a.nw x o (b.nw x o e (by
    cases h : H x with
    | none => exact absurd h n
    | some u => rw [a.hh _ _ h]; simp)) n⟩
/-- an object is laid and frozen -/
theorem Grow.new {F H F1 H1 : Hp} {p : Addr} {o : HO} (a : Grow F H F1 H1) (hp : H1 p = none) : Grow F H (upd F1 p o) (upd H1 p o) := by
  have hf : F1 p = none := by
    cases h : F1 p with
    | none => rfl
    | some u => rw [a.fh _ _ h] at hp; cases hp
  have hh : H p = none := a.hh.free hp
  refine ⟨fun x u e => ?_, fun x u e => ?_, fun x u e => ?_, fun x u e n => ?_⟩
  · rw [upd_ne (ne_of_none (a.ff _ _ e) hf)]; exact a.ff _ _ e
  · by_cases hx : x = p
    · subst hx; rw [upd_same] at e ⊢; exact e
    · rw [upd_ne hx] at e ⊢; exact a.fh _ _ e
  · rw [upd_ne (ne_of_none (a.hh _ _ e) hp)]; exact a.hh _ _ e
  · by_cases hx : x = p
    · subst hx; exact absurd hh n
    · rw [upd_ne hx] at e; exact a.nw _ _ e n
/-- an object is laid, not frozen -/
theorem Grow.lay {F H F1 H1 : Hp} {p : Addr} {o : HO} (a : Grow F H F1 H1) (hp : H1 p = none) : Grow F H F1 (upd H1 p o) := by
  refine ⟨a.ff, fun x u e => ?_, fun x u e => ?_, a.nw⟩
  · rw [upd_ne (ne_of_none (a.fh _ _ e) hp)]; exact a.fh _ _ e
  · rw [upd_ne (ne_of_none (a.hh _ _ e) hp)]; exact a.hh _ _ e
theorem Grow.freeF {F H F1 H1 : Hp} {p : Addr} (a : Grow F H F1 H1) (hp : H1 p = none) : F1 p = none := a.fh.free hp

/-! ### results -/
structure Exn where
  cls : Str
  fs : List (Str × D)
inductive R (α : Type) where
  | ok (a : α) | ex (x : Exn) | bad
def R.bind {α β : Type} : R α → (α → R β) → R β
  | .ok a, f => f a
  | .ex x, _ => .ex x
  | .bad, _ => .bad
instance : Monad R where
  pure := .ok
  bind := R.bind
/-- an exception x stands in the heap: its class C, its own dict dd -/
def ExAt (K : PySem.W.Frag) (w : World) (mg : Str → Option Value) (x : Exn) (F H : Hp) (C : Value) (dd : Option Addr) : Prop :=
  ∃ c, mg x.cls = some (.ref c) ∧ C = .ref c ∧ ∃ vs, Reps K w F (x.fs.map (·.2)) vs ∧ (x.fs ≠ [] → ∃ d, dd = some d ∧ H d = some (.xd ((x.fs.map (·.1)).zip vs)))
def Want (K : PySem.W.Frag) (w : World) (mg : Str → Option Value) {α : Type} (r : R α) (F H : Hp) (k : α → Hp → Hp → Prop) (e : Value → Option Addr → Hp → Prop) : Prop :=
  match r with
  | .ok a => ∀ F' H', Grow F H F' H' → k a F' H'
  | .ex x => ∀ C dd F' H', Grow F H F' H' → ExAt K w mg x F' H' C dd → e C dd H'
  | .bad => False
section
variable {K : PySem.W.Frag} {w : World} {mg : Str → Option Value} {F H F1 H1 : Hp} {e : Value → Option Addr → Hp → Prop} {α β : Type} {k : α → Hp → Hp → Prop}
theorem Want.grow {r : R α} (h : Want K w mg r F H k e) (g : Grow F H F1 H1) : Want K w mg r F1 H1 k e := by
  cases r with
  | ok a => exact fun F' H' g' => h F' H' (g.trans g')
  | ex x => exact fun C dd F' H' g' => h C dd F' H' (g.trans g')
  | bad => exact h
theorem Want.bind {r : R α} {f : α → R β} {k : β → Hp → Hp → Prop} (h : Want K w mg (r.bind f) F H k e) : Want K w mg r F H (fun a F1 H1 => Want K w mg (f a) F1 H1 k e) e := by
  cases r with
  | ok a => exact fun F' H' g => Want.grow (show Want K w mg (f a) F H k e from h) g
  | ex x => exact h
  | bad => exact h
theorem Want.imp {r : R α} {k' : α → Hp → Hp → Prop} (h : Want K w mg r F H k e) (i : ∀ a F' H', Grow F H F' H' → k a F' H' → k' a F' H') : Want K w mg r F H k' e := by
  cases r with
  | ok a => exact fun F' H' g => i a F' H' g (h F' H' g)
  | ex x => exact h
  | bad => exact h
end

/-! ### environments -/
abbrev En := List (Option (D × Bool))
/-- what a slot holds: data that is frozen, or a list that only this slot holds -/
def SlOk (K : PySem.W.Frag) (w : World) (B F H : Hp) (d : D) : Bool → V → Prop
  | false, v => Rep K w F d v
  | true, v => ∃ a xs ds, v = .ref a ∧ d = .lst ds ∧ H a = some (.lst xs) ∧ Reps K w F ds xs ∧ F a = none ∧ B a = none
structure EOk (K : PySem.W.Frag) (w : World) (B F0 F H : Hp) (σ : St) (ρ : En) : Prop where
  g : Grow F0 B F H
  ln : σ.length = ρ.length
  sl : ∀ (i : Nat) (d : D) (o : Bool), ρ[i]? = some (some (d, o)) → ∃ v, σ[i]? = some (some v) ∧ SlOk K w B F H d o v
  ds : ∀ (i j : Nat) (d e : D) (v : V), i ≠ j → ρ[i]? = some (some (d, true)) → ρ[j]? = some (some (e, true)) → σ[i]? = some (some v) → σ[j]? = some (some v) → False
section
variable {K : PySem.W.Frag} {w : World} {B F0 F H F1 H1 : Hp} {σ : St} {ρ : En} {d : D} {o : Bool} {v : V} {i : Nat}
theorem SlOk.grow (h : SlOk K w B F H d o v) (g : Grow F H F1 H1) : SlOk K w B F1 H1 d o v := by
  cases o with
  | false => exact Rep.mono g.ff _ _ h
  | true =>
    obtain ⟨a, xs, ds, e1, e2, e3, e4, e5, e6⟩ := h
    refine ⟨a, xs, ds, e1, e2, g.hh _ _ e3, Reps.mono g.ff _ _ e4, ?_, e6⟩
    cases h : F1 a with
    | none => rfl
    | some u => rw [g.nw a u h (by rw [e3]; simp)] at e5; cases e5
theorem EOk.fh (x : EOk K w B F0 F H σ ρ) : Same F H := x.g.fh
theorem EOk.growB {F0 B : Hp} (g0 : Grow F0 B F H) (g : Grow F H F1 H1) : Grow F0 B F1 H1 := g0.trans g
theorem EOk.grow (x : EOk K w B F0 F H σ ρ) (g : Grow F H F1 H1) : EOk K w B F0 F1 H1 σ ρ :=
  ⟨x.g.trans g, x.ln, fun i d o e => by
    obtain ⟨v, e1, e2⟩ := x.sl i d o e
    exact ⟨v, e1, e2.grow g⟩, x.ds⟩
theorem getElem?_set_cases {α : Type} {l : List α} {i j : Nat} {a b : α} (h : (l.set i a)[j]? = some b) : (i = j ∧ a = b ∧ i < l.length) ∨ (i ≠ j ∧ l[j]? = some b) := by
  by_cases e : i = j
  · subst e
    have hl : i < l.length := by
      have := (List.getElem?_eq_some_iff.mp h).1
      simpa using this
    rw [List.getElem?_set_self hl] at h
    exact .inl ⟨rfl, Option.some.inj h, hl⟩
  · rw [List.getElem?_set_ne e] at h
    exact .inr ⟨e, h⟩
/-- a slot gets frozen data -/
theorem EOk.set (x : EOk K w B F0 F H σ ρ) (r : Rep K w F d v) : EOk K w B F0 F H (σ.set i (some v)) (ρ.set i (some (d, false))) := by
  refine ⟨x.g, by rw [List.length_set, List.length_set]; exact x.ln, fun j e o h => ?_, fun j k e e' u n h1 h2 h3 h4 => ?_⟩
  · rcases getElem?_set_cases h with ⟨e1, e2, e3⟩ | ⟨e1, e2⟩
    · subst e1; cases e2
      exact ⟨v, List.getElem?_set_self (by rw [x.ln]; exact e3), r⟩
    · obtain ⟨u, e3, e4⟩ := x.sl j e o e2
      exact ⟨u, by rw [List.getElem?_set_ne e1]; exact e3, e4⟩
  · rcases getElem?_set_cases h1 with ⟨_, e2, _⟩ | ⟨e1, e2⟩
    · cases e2
    rcases getElem?_set_cases h2 with ⟨_, e2', _⟩ | ⟨e1', e2'⟩
    · cases e2'
    rw [List.getElem?_set_ne e1] at h3
    rw [List.getElem?_set_ne e1'] at h4
    exact x.ds j k e e' u n e2 e2' h3 h4
/-- a slot gets a list of its own -/
theorem EOk.setOwn {a : Addr} {xs : List V} {ds : List D} (x : EOk K w B F0 F H σ ρ) (e1 : H a = some (.lst xs)) (e2 : Reps K w F ds xs) (e3 : F a = none) (e4 : B a = none)
    (n : ∀ (j : Nat) (d : D), j ≠ i → ρ[j]? = some (some (d, true)) → σ[j]? ≠ some (some (.ref a))) : EOk K w B F0 F H (σ.set i (some (.ref a))) (ρ.set i (some (.lst ds, true))) := by
  refine ⟨x.g, by rw [List.length_set, List.length_set]; exact x.ln, fun j e o h => ?_, fun j k e e' u nn h1 h2 h3 h4 => ?_⟩
  · rcases getElem?_set_cases h with ⟨e1', e2', e3'⟩ | ⟨e1', e2'⟩
    · subst e1'; cases e2'
      exact ⟨_, List.getElem?_set_self (by rw [x.ln]; exact e3'), a, xs, ds, rfl, rfl, e1, e2, e3, e4⟩
    · obtain ⟨u, e3, e4⟩ := x.sl j e o e2'
      exact ⟨u, by rw [List.getElem?_set_ne e1']; exact e3, e4⟩
  · rcases getElem?_set_cases h1 with ⟨p1, p2, p3⟩ | ⟨p1, p2⟩
    · subst p1
      rcases getElem?_set_cases h2 with ⟨q1, q2, q3⟩ | ⟨q1, q2⟩
      · exact nn q1
      · rw [List.getElem?_set_self (by rw [x.ln]; exact p3)] at h3
        cases h3
        rw [List.getElem?_set_ne q1] at h4
        exact n k _ (Ne.symm q1) q2 h4
    · rw [List.getElem?_set_ne p1] at h3
      rcases getElem?_set_cases h2 with ⟨q1, q2, q3⟩ | ⟨q1, q2⟩
      · subst q1
        rw [List.getElem?_set_self (by rw [x.ln]; exact q3)] at h4
        cases h4
        exact n j _ (Ne.symm p1) p2 h3
      · rw [List.getElem?_set_ne q1] at h4
        exact x.ds j k e e' u nn p2 q2 h3 h4
/-- an owned list is rewritten -/
theorem EOk.write {a : Addr} {ys : List V} {ds es : List D} (x : EOk K w B F0 F H σ ρ) (hi : ρ[i]? = some (some (.lst ds, true))) (hs : σ[i]? = some (some (.ref a))) (r : Reps K w F es ys) :
    EOk K w B F0 F (upd H a (.lst ys)) σ (ρ.set i (some (.lst es, true))) := by
  obtain ⟨v, e1, a', xs', ds', e2, e3, e4, e5, e6, e7⟩ := x.sl i _ _ hi
  rw [hs] at e1
  cases e1; cases e2; cases e3
  have hil : i < ρ.length := (List.getElem?_eq_some_iff.mp hi).1
  refine ⟨⟨x.g.ff, fun b u e => ?_, fun b u e => ?_, x.g.nw⟩, by rw [List.length_set]; exact x.ln, fun j e o h => ?_, fun j k e e' u nn h1 h2 h3 h4 => ?_⟩
  · rw [upd_ne (ne_of_none e e6)]; exact x.g.fh _ _ e
  · rw [upd_ne (ne_of_none e e7)]; exact x.g.hh _ _ e
  · rcases getElem?_set_cases h with ⟨p1, p2, p3⟩ | ⟨p1, p2⟩
    · subst p1; cases p2
      exact ⟨_, hs, a, ys, es, rfl, rfl, upd_same, r, e6, e7⟩
    · obtain ⟨u, q1, q2⟩ := x.sl j e o p2
      refine ⟨u, q1, ?_⟩
      cases o with
      | false => exact q2
      | true =>
        obtain ⟨b, zs, fs, f1, f2, f3, f4, f5, f6⟩ := q2
        have hb : b ≠ a := fun z => by
          subst z; subst f1
          exact x.ds i j _ _ _ p1 hi p2 hs q1
        exact ⟨b, zs, fs, f1, f2, by rw [upd_ne hb]; exact f3, f4, f5, f6⟩
  · rcases getElem?_set_cases h1 with ⟨p1, p2, p3⟩ | ⟨p1, p2⟩
    · subst p1
      rcases getElem?_set_cases h2 with ⟨q1, q2, q3⟩ | ⟨q1, q2⟩
      · exact nn q1
      · exact x.ds i k _ _ _ nn hi q2 h3 h4
    · rcases getElem?_set_cases h2 with ⟨q1, q2, q3⟩ | ⟨q1, q2⟩
      · subst q1
        exact x.ds j i _ _ _ nn p2 hi h3 h4
      · exact x.ds j k e e' u nn p2 q2 h3 h4
/-- a slot's list is its own no more -/
def frz1 (ρ : En) (i : Nat) : En := match ρ[i]? with
  | some (some (d, true)) => ρ.set i (some (d, false))
  | _ => ρ
def frz (ρ : En) : List Nat → En
  | [] => ρ
  | i :: is => frz (frz1 ρ i) is
theorem EOk.frz1 (x : EOk K w B F0 F H σ ρ) (i : Nat) : ∃ F', EOk K w B F0 F' H σ (frz1 ρ i) := by
  unfold Pc.frz1
  split
  · rename_i d hi
    obtain ⟨v, e1, a, xs, ds, e2, e3, e4, e5, e6, e7⟩ := x.sl i _ _ hi
    subst e2 e3
    have gF : Same F (upd F a (.lst xs)) := fun b u e => by
      rw [upd_ne (ne_of_none e e6)]; exact e
    refine ⟨upd F a (.lst xs), ⟨x.g.ff.trans gF, fun b u e => ?_, x.g.hh, fun b u e n => ?_⟩, by rw [List.length_set]; exact x.ln, fun j e o h => ?_, fun j k e e' u nn h1 h2 h3 h4 => ?_⟩
    · by_cases hb : b = a
      · subst hb; rw [upd_same] at e; rw [e4]; exact e
      · rw [upd_ne hb] at e; exact x.g.fh _ _ e
    · by_cases hb : b = a
      · subst hb; exact absurd e7 n
      · rw [upd_ne hb] at e; exact x.g.nw _ _ e n
    · rcases getElem?_set_cases h with ⟨p1, p2, p3⟩ | ⟨p1, p2⟩
      · subst p1; cases p2
        exact ⟨_, e1, .lst upd_same (Reps.mono gF _ _ e5)⟩
      · obtain ⟨u, q1, q2⟩ := x.sl j e o p2
        refine ⟨u, q1, ?_⟩
        cases o with
        | false => exact Rep.mono gF _ _ q2
        | true =>
          obtain ⟨b, zs, fs, f1, f2, f3, f4, f5, f6⟩ := q2
          have hb : b ≠ a := fun z => by
            subst z; subst f1
            exact x.ds i j _ _ _ p1 hi p2 e1 q1
          exact ⟨b, zs, fs, f1, f2, f3, Reps.mono gF _ _ f4, by rw [upd_ne hb]; exact f5, f6⟩
    · rcases getElem?_set_cases h1 with ⟨_, p2, _⟩ | ⟨p1, p2⟩
      · cases p2
      rcases getElem?_set_cases h2 with ⟨_, q2, _⟩ | ⟨q1, q2⟩
      · cases q2
      exact x.ds j k e e' u nn p2 q2 h3 h4
  · exact ⟨F, x⟩
theorem EOk.frz : ∀ (is : List Nat) {F : Hp} {ρ : En}, EOk K w B F0 F H σ ρ → ∃ F', EOk K w B F0 F' H σ (frz ρ is)
  | [], F, _, x => ⟨F, x⟩
  | i :: is, _, _, x => by
    obtain ⟨F1, x1⟩ := x.frz1 i
    exact EOk.frz is x1
end

/-! ### judgements as the weakest readings -/
def WE (X : Cx) (e : Expr) : TE := fun σ H Q => ∃ t, PE X e t ∧ t σ H Q
def WT (X : Cx) (e : Expr) : TT := fun σ H Q => ∃ t, PT X e t ∧ t σ H Q
def WA (X : Cx) (es : List Expr) : TA := fun σ H Q => ∃ t, PA X es t ∧ t σ H Q
def WS (X : Cx) (st : Stmt) : TS := fun D σ H => ∃ t, PS X st t ∧ t D σ H
def WSs (X : Cx) (sts : List Stmt) : TS := fun D σ H => ∃ t, PSs X sts t ∧ t D σ H
def WI (X : Cx) (tg e : Expr) : TI := fun σ H R => ∃ t, PI X tg e t ∧ t σ H R
def WG (X : Cx) (tg : Expr) : TG := fun v σ H Q => ∃ t, PG X tg t ∧ t v σ H Q
def WPs (X : Cx) (es : List Expr) : TT := fun σ H Q => ∃ t, PTs X es t ∧ t σ H Q
section
variable {X : Cx}
theorem pe_W (e : Expr) : PE X e (WE X e) := ⟨fun pins s σ H Q I ⟨t, h, q⟩ => h.run pins s σ H Q I q⟩
theorem pt_W (e : Expr) : PT X e (WT X e) := ⟨fun pins s σ H Q I ⟨t, h, q⟩ => h.run pins s σ H Q I q⟩
theorem pa_W (e : List Expr) : PA X e (WA X e) := ⟨fun pos pins s σ H Q I ⟨t, h, q⟩ => h.run pos pins s σ H Q I q⟩
theorem ps_W (e : Stmt) : PS X e (WS X e) := ⟨fun pins s σ H D I ⟨t, h, q⟩ => h.run pins s σ H D I q⟩
theorem pss_W (e : List Stmt) : PSs X e (WSs X e) := ⟨fun pins s σ H D I ⟨t, h, q⟩ => h.run pins s σ H D I q⟩
theorem pi_W (tg e : Expr) : PI X tg e (WI X tg e) := ⟨fun pins s σ H R I ⟨t, h, q⟩ => h.run pins s σ H R I q⟩
theorem pg_W (tg : Expr) : PG X tg (WG X tg) := ⟨fun pins s σ H v u Q I r ⟨t, h, q⟩ => h.run pins s σ H v u Q I r q⟩
theorem pts_W (es : List Expr) : PTs X es (WPs X es) := ⟨fun pins s σ H Q I ⟨t, h, q⟩ => h.run pins s σ H Q I q⟩
end

/-! ### what a judgement says of a function of environments -/
/-- a value that may be a list of a slot's own -/
def BRep (K : PySem.W.Frag) (w : World) (F H : Hp) (d : D) (v : V) : Prop := Rep K w F d v ∨ ∃ a xs ds, v = .ref a ∧ d = .lst ds ∧ H a = some (.lst xs) ∧ Reps K w F ds xs
/-- an expression gives frozen data -/
def RE (X : Cx) (W : WX) (e : Expr) (f : En → R D) : Prop := ∀ B F0 F H σ ρ (Q : VK), EOk X.K X.w B F0 F H σ ρ →
  Want X.K X.w X.mg (f ρ) F H (fun d F' H' => ∀ v, Rep X.K X.w F' d v → Q v H') (fun C dd H' => W C dd σ H') → WE X e σ H Q
/-- .. is read only -/
def RB (X : Cx) (W : WX) (e : Expr) (f : En → R D) : Prop := ∀ B F0 F H σ ρ (Q : VK), EOk X.K X.w B F0 F H σ ρ →
  Want X.K X.w X.mg (f ρ) F H (fun d F' H' => ∀ v, BRep X.K X.w F' H' d v → Q v H') (fun C dd H' => W C dd σ H') → WE X e σ H Q
/-- .. gives a new list -/
def RF (X : Cx) (W : WX) (e : Expr) (f : En → R (List D)) : Prop := ∀ B F0 F H σ ρ (Q : VK), EOk X.K X.w B F0 F H σ ρ →
  Want X.K X.w X.mg (f ρ) F H (fun ds F' H' => ∀ p xs, H p = none → F' p = none → H' p = some (.lst xs) → Reps X.K X.w F' ds xs → Q (.ref p) H') (fun C dd H' => W C dd σ H') → WE X e σ H Q
/-- a test -/
def RT (X : Cx) (W : WX) (e : Expr) (f : En → R Bool) : Prop := ∀ B F0 F H σ ρ (Q : Bool → Hp → Prop), EOk X.K X.w B F0 F H σ ρ →
  Want X.K X.w X.mg (f ρ) F H (fun b _ H' => Q b H') (fun C dd H' => W C dd σ H') → WT X e σ H Q
/-- arguments -/
def RA (X : Cx) (W : WX) (es : List Expr) (f : En → R (List D)) : Prop := ∀ B F0 F H σ ρ (Q : List V → Hp → Prop), EOk X.K X.w B F0 F H σ ρ →
  Want X.K X.w X.mg (f ρ) F H (fun ds F' H' => ∀ vs, Reps X.K X.w F' ds vs → Q vs H') (fun C dd H' => W C dd σ H') → WA X es σ H Q
/-- .. read only -/
inductive BReps (K : PySem.W.Frag) (w : World) (F H : Hp) : List D → List V → Prop where
  | nil : BReps K w F H [] []
  | cons {d : D} {ds : List D} {v : V} {vs : List V} : BRep K w F H d v → BReps K w F H ds vs → BReps K w F H (d :: ds) (v :: vs)
def RAB (X : Cx) (W : WX) (es : List Expr) (f : En → R (List D)) : Prop := ∀ B F0 F H σ ρ (Q : List V → Hp → Prop), EOk X.K X.w B F0 F H σ ρ →
  Want X.K X.w X.mg (f ρ) F H (fun ds F' H' => ∀ vs, BReps X.K X.w F' H' ds vs → Q vs H') (fun C dd H' => W C dd σ H') → WA X es σ H Q

inductive O where
  | nx (ρ : En) | rt (d : D) | bk (ρ : En) | ct (ρ : En)
def WantS (X : Cx) (W : WX) (B F0 : Hp) (r : R O) (Z : Ends) : Prop := match r with
  | .ok (.nx ρ) => ∀ σ F H, EOk X.K X.w B F0 F H σ ρ → Z.nx σ H
  | .ok (.bk ρ) => ∀ σ F H, EOk X.K X.w B F0 F H σ ρ → Z.bk σ H
  | .ok (.ct ρ) => ∀ σ F H, EOk X.K X.w B F0 F H σ ρ → Z.ct σ H
  | .ok (.rt d) => ∀ v F H, Grow F0 B F H → Rep X.K X.w F d v → Z.rt v H
  | .ex x => ∀ C dd σ F H, Grow F0 B F H → ExAt X.K X.w X.mg x F H C dd → W C dd σ H
  | .bad => False
def RS (X : Cx) (W : WX) (st : Stmt) (f : En → R O) : Prop := ∀ B F0 F H σ ρ (Z : Ends), EOk X.K X.w B F0 F H σ ρ → WantS X W B F0 (f ρ) Z → WS X st Z σ H
def RSs (X : Cx) (W : WX) (st : List Stmt) (f : En → R O) : Prop := ∀ B F0 F H σ ρ (Z : Ends), EOk X.K X.w B F0 F H σ ρ → WantS X W B F0 (f ρ) Z → WSs X st Z σ H
section
variable {X : Cx} {W : WX} {e : Expr} {f : En → R D}
theorem BRep.grow {K : PySem.W.Frag} {w : World} {F H F1 H1 : Hp} {d : D} {v : V} (h : BRep K w F H d v) (g : Grow F H F1 H1) : BRep K w F1 H1 d v := by
  rcases h with h | ⟨a, xs, ds, e1, e2, e3, e4⟩
  · exact .inl (Rep.mono g.ff _ _ h)
  · exact .inr ⟨a, xs, ds, e1, e2, g.hh _ _ e3, Reps.mono g.ff _ _ e4⟩
theorem RE.b (h : RE X W e f) : RB X W e f := fun B F0 F H σ ρ Q x hw => h B F0 F H σ ρ Q x (hw.imp fun d F' H' _ k v r => k v (.inl r))
theorem RF.re {f : En → R (List D)} (h : RF X W e f) : RE X W e fun ρ => (f ρ).bind fun ds => .ok (.lst ds) := fun B F0 F H σ ρ Q x hw => by
  refine h B F0 F H σ ρ Q x ?_
  replace hw : Want X.K X.w X.mg ((f ρ).bind fun ds => R.ok (D.lst ds)) F H (fun d F' H' => ∀ v, Rep X.K X.w F' d v → Q v H') (fun C dd H' => W C dd σ H') := hw
  cases hf : f ρ with
  | ok ds =>
    rw [hf] at hw
    intro F' H' g p xs h1 h2 h3 h4
    have s : Same F' (upd F' p (.lst xs)) := fun a o e => by rw [upd_ne (ne_of_none e h2)]; exact e
    refine hw (upd F' p (.lst xs)) H' ⟨g.ff.trans s, fun a o e => ?_, g.hh, fun a o e n => ?_⟩ (.ref p) (.lst upd_same (Reps.mono s _ _ h4))
    · by_cases ha : a = p
      · subst ha; rw [upd_same] at e; rw [h3]; exact e
      · rw [upd_ne ha] at e; exact g.fh _ _ e
    · by_cases ha : a = p
      · subst ha; exact absurd h1 n
      · rw [upd_ne ha] at e; exact g.nw _ _ e n
  | ex y => rw [hf] at hw; exact hw
  | bad => rw [hf] at hw; exact hw
theorem RF.b {f : En → R (List D)} (h : RF X W e f) : RB X W e fun ρ => (f ρ).bind fun ds => .ok (.lst ds) := (RF.re h).b
end
end Pc
set_option maxHeartbeats 4000000
namespace Pc
open PySem L2

/-! ### names and constants -/
def fVar (i : Nat) : En → R D := fun ρ => match ρ[i]? with
  | some (some (d, false)) => .ok d
  | _ => .bad
def fVarB (i : Nat) : En → R D := fun ρ => match ρ[i]? with
  | some (some (d, _)) => .ok d
  | _ => .bad
def fC (d : D) : En → R D := fun _ => .ok d
section
variable {X : Cx} {W : WX}
/-- a reading that hands on at once -/
theorem RE.at {e : Expr} {t : TE} (h : PE X e t) {σ : St} {H : Hp} {Q : VK} (q : t σ H Q) : WE X e σ H Q := ⟨t, h, q⟩
theorem re_var (i : Nat) {x : Str} {pos : Pos} (hN : X.N[i]? = some x := by rfl) (hv : Vis X.env.scope x := by first | exact Or.inl rfl | exact Or.inr (Or.inl rfl) | exact Or.inr (Or.inr rfl))
    (hd : (x == ("__debug__" : Str)) = false := by decide) (hcd : (x == ("__classdict__" : Str)) = false := by decide) : RE X W (.Name x pos) (fVar i) := fun B F0 F H σ ρ Q x hw => by
  refine ⟨_, pe_var hN hv hd hcd, ?_⟩
  unfold fVar at hw
  split at hw
  · rename_i d hi
    obtain ⟨v, e1, e2⟩ := x.sl i _ _ hi
    exact ⟨v, e1, hw F H (Grow.refl x.fh) v e2⟩
  · exact hw.elim
theorem rb_var (i : Nat) {x : Str} {pos : Pos} (hN : X.N[i]? = some x := by rfl) (hv : Vis X.env.scope x := by first | exact Or.inl rfl | exact Or.inr (Or.inl rfl) | exact Or.inr (Or.inr rfl))
    (hd : (x == ("__debug__" : Str)) = false := by decide) (hcd : (x == ("__classdict__" : Str)) = false := by decide) : RB X W (.Name x pos) (fVarB i) := fun B F0 F H σ ρ Q x hw => by
  refine ⟨_, pe_var hN hv hd hcd, ?_⟩
  unfold fVarB at hw
  split at hw
  · rename_i d o hi
    obtain ⟨v, e1, e2⟩ := x.sl i _ _ hi
    refine ⟨v, e1, hw F H (Grow.refl x.fh) v ?_⟩
    cases o with
    | false => exact .inl e2
    | true =>
      obtain ⟨a, xs, ds, f1, f2, f3, f4, _⟩ := e2
      exact .inr ⟨a, xs, ds, f1, f2, f3, f4⟩
  · exact hw.elim
theorem re_c {e : Expr} {d : D} {v : V} (h : PE X e (tC v)) (r : ∀ F, Rep X.K X.w F d v) : RE X W e (fC d) := fun B F0 F H σ ρ Q x hw => ⟨_, h, hw F H (Grow.refl x.fh) v (r F)⟩
theorem re_int {i : Int} {j pos} : RE X W (.Constant (.int i) j pos) (fC (.int i)) := re_c pe_int fun _ => .int i
theorem re_bl {b : Bool} {j pos} : RE X W (.Constant (.bool b) j pos) (fC (.bl b)) := re_c pe_bl fun _ => .bl b
theorem re_non {j pos} : RE X W (.Constant .none j pos) (fC .non) := re_c pe_non fun _ => .non
theorem re_str {s : Str} {j pos} : RE X W (.Constant (.str s) j pos) (fC (.str s)) := re_c pe_str fun _ => .str s
theorem re_gint {i : Int} {x : Str} {pos : Pos} (hg : Gl X x) (hm : ∃ t, X.mg x = some (.int i t)) (hd : (x == ("__debug__" : Str)) = false := by decide) : RE X W (.Name x pos) (fC (.int i)) :=
  let ⟨t, hm⟩ := hm; re_c (v := .int i) (pe_glob hg hm ⟨t, rfl⟩ hd) fun _ => .int i
theorem re_gstr {i : Str} {x : Str} {pos : Pos} (hg : Gl X x) (hm : ∃ t, X.mg x = some (.str i t)) (hd : (x == ("__debug__" : Str)) = false := by decide) : RE X W (.Name x pos) (fC (.str i)) :=
  let ⟨t, hm⟩ := hm; re_c (v := .str i) (pe_glob hg hm ⟨t, rfl⟩ hd) fun _ => .str i

/-! ### two operands -/
def f2 (g : D → D → R D) (a b : En → R D) : En → R D := fun ρ => (a ρ).bind fun x => (b ρ).bind fun y => g x y
def f1 (g : D → R D) (a : En → R D) : En → R D := fun ρ => (a ρ).bind g
/-- what an operation by values gives of data -/
def OpD (X : Cx) (r : R2) (g : D → D → R D) : Prop := ∀ F H dx dy x y (Q : VK) (e : Value → Option Addr → Hp → Prop), Same F H → BRep X.K X.w F H dx x → BRep X.K X.w F H dy y →
  Want X.K X.w X.mg (g dx dy) F H (fun d F' H' => ∀ v, Rep X.K X.w F' d v → Q v H') e → r x y H Q
theorem re_op {op : Operator} {a b : Expr} {fa fb : En → R D} {r : R2} {g : D → D → R D} {pos : Pos} (ho : OpR X (binaryOp op) r) (hd : OpD X r g) (ha : RB X W a fa) (hb : RB X W b fb) : RE X W (.BinOp a op b pos) (f2 g fa fb) := fun B F0 F H σ ρ Q x hw => by
  refine ⟨_, pe_op ho (pe_W a) (pe_W b), ?_⟩
  refine ha B F0 F H σ ρ _ x ((Want.bind hw).imp fun dx F1 H1 g1 k v rv => ?_)
  refine hb B F0 F1 H1 σ ρ _ (x.grow g1) ((Want.bind k).imp fun dy F2 H2 g2 k2 u ru => ?_)
  exact hd F2 H2 dx dy v u Q _ g2.fh (rv.grow g2) ru k2
theorem re_cmp {op : CmpOp} {a b : Expr} {fa fb : En → R D} {r : R2} {g : D → D → R D} {pos : Pos} (ho : OpR X (compareOp op) r) (hd : OpD X r g) (ha : RB X W a fa) (hb : RB X W b fb) (hm : behindInMarks op b = false) : RE X W (.Compare a [op] [b] pos) (f2 g fa fb) := fun B F0 F H σ ρ Q x hw => by
  refine ⟨_, pe_cmpR ho (pe_W a) (pe_W b) hm, ?_⟩
  refine ha B F0 F H σ ρ _ x ((Want.bind hw).imp fun dx F1 H1 g1 k v rv => ?_)
  refine hb B F0 F1 H1 σ ρ _ (x.grow g1) ((Want.bind k).imp fun dy F2 H2 g2 k2 u ru => ?_)
  exact hd F2 H2 dx dy v u Q _ g2.fh (rv.grow g2) ru k2
/-- of a value its truth (bools) -/
def toB : D → R Bool
  | .bl b => .ok b
  | _ => .bad
def fB (f : En → R D) : En → R Bool := fun ρ => (f ρ).bind toB
theorem rt_cmp {op : CmpOp} {a b : Expr} {fa fb : En → R D} {r : R2} {g : D → D → R D} {pos : Pos} (ho : OpR X (compareOp op) r) (hd : OpD X r g) (ha : RB X W a fa) (hb : RB X W b fb) (hm : behindInMarks op b = false) : RT X W (.Compare a [op] [b] pos) (fB (f2 g fa fb)) := fun B F0 F H σ ρ Q x hw => by
  refine ⟨_, pt_cmpR ho (pe_W a) (pe_W b) hm, ?_⟩
  refine ha B F0 F H σ ρ _ x ((Want.bind (Want.bind hw)).imp fun dx F1 H1 g1 k v rv => ?_)
  refine hb B F0 F1 H1 σ ρ _ (x.grow g1) ((Want.bind k).imp fun dy F2 H2 g2 k2 u ru => ?_)
  refine hd F2 H2 dx dy v u _ _ g2.fh (rv.grow g2) ru (k2.imp fun d F3 H3 g3 k3 z rz => ?_)
  unfold toB at k3
  split at k3
  · cases rz; exact ⟨_, rfl, k3 F3 H3 (Grow.refl g3.fh)⟩
  · exact k3.elim

/-! ### values of data -/
end
section
variable {K : PySem.W.Frag} {w : World} {F H : Hp} {v : V}
theorem BRep.int {i : Int} (h : BRep K w F H (.int i) v) : v = .int i := by
  rcases h with h | ⟨_, _, _, _, h, _⟩
  · cases h; rfl
  · cases h
theorem BRep.bl {i : Bool} (h : BRep K w F H (.bl i) v) : v = .bl i := by
  rcases h with h | ⟨_, _, _, _, h, _⟩
  · cases h; rfl
  · cases h
theorem BRep.non (h : BRep K w F H .non v) : v = .non := by
  rcases h with h | ⟨_, _, _, _, h, _⟩
  · cases h; rfl
  · cases h
theorem BRep.str {i : Str} (h : BRep K w F H (.str i) v) : v = .str i := by
  rcases h with h | ⟨_, _, _, _, h, _⟩
  · cases h; rfl
  · cases h
theorem BRep.lst {ds : List D} (h : BRep K w F H (.lst ds) v) (s : Same F H) : ∃ a xs, v = .ref a ∧ H a = some (.lst xs) ∧ Reps K w F ds xs := by
  rcases h with h | ⟨a, xs, es, e1, e2, e3, e4⟩
  · cases h with | lst h1 h2 => exact ⟨_, _, rfl, s _ _ h1, h2⟩
  · cases e2; exact ⟨a, xs, e1, e3, e4⟩
theorem BRep.tup {ds : List D} (h : BRep K w F H (.tup ds) v) (s : Same F H) : ∃ a xs, v = .ref a ∧ SqT K H a xs ∧ Reps K w F ds xs := by
  rcases h with h | ⟨_, _, _, _, h, _⟩
  · cases h with | tup h1 h2 => exact ⟨_, _, rfl, Same.tup s h1, h2⟩
  · cases h
theorem BRep.st {is : List Int} (h : BRep K w F H (.st is) v) (s : Same F H) : ∃ a S n, v = .ref a ∧ H a = some (SetO w a S n) ∧ (∀ i, S i = decide (i ∈ is)) ∧ n ≤ is.length := by
  rcases h with h | ⟨_, _, _, _, h, _⟩
  · cases h with | st h1 h2 h3 => exact ⟨_, _, _, rfl, s _ _ h1, h2, h3⟩
  · cases h
theorem BRep.scr {ns : List Int} (h : BRep K w F H (.scr ns) v) (s : Same F H) : ∃ a, v = .ref a ∧ SqL K H a (ns.map V.int) := by
  rcases h with h | ⟨_, _, _, _, h, _⟩
  · cases h with | scr h1 => exact ⟨_, rfl, s.seq h1⟩
  · cases h
end
section
variable {X : Cx} {W : WX}
theorem OpR.or {f : Value → Value → Sem Value} {r r' : R2} (h : OpR X f r) (h' : OpR X f r') : OpR X f (fun x y H Q => r x y H Q ∨ r' x y H Q) := by
  intro pins s σ H x y v u Q I rx ry q
  rcases q with q | q
  · exact h pins s σ H x y v u Q I rx ry q
  · exact h' pins s σ H x y v u Q I rx ry q

/-! ### arithmetic -/
def lim : Nat := 100000
theorem lim_le {n : Nat} (h : n ≤ lim) : n ≤ sizeLine := Nat.le_trans h (by decide)
theorem lim_lt {n : Nat} (h : n ≤ lim) : n < sizeLine := Nat.lt_of_le_of_lt h (by decide)
def addD : D → D → R D
  | .int i, .int j => .ok (.int (i + j))
  | .str a, .str b => if a.length + b.length ≤ lim then .ok (.str (a ++ b)) else .bad
  | .lst a, .lst b => if a.length + b.length ≤ lim then .ok (.lst (a ++ b)) else .bad
  | _, _ => .bad
def subD : D → D → R D
  | .int i, .int j => .ok (.int (i - j))
  | _, _ => .bad
def mulD : D → D → R D
  | .int i, .int j => if i.natAbs.log2 + j.natAbs.log2 < 1000000 then .ok (.int (i * j)) else .bad
  | _, _ => .bad
def fdivD : D → D → R D
  | .int i, .int j => if 0 < j ∧ j.natAbs.log2 < 9000 then .ok (.int (i / j)) else .bad
  | _, _ => .bad
def modD : D → D → R D
  | .int i, .int j => if 0 < j then .ok (.int (i % j)) else .bad
  | _, _ => .bad
def powD : D → D → R D
  | .int i, .int j => if 0 ≤ j ∧ j ≤ 1000000 ∧ i.natAbs < 2 ^ 64 then .ok (.int (i ^ j.toNat)) else .bad
  | _, _ => .bad
theorem ifW {K : PySem.W.Frag} {w : World} {mg : Str → Option Value} {α : Type} {c : Prop} [Decidable c] {a : R α} {F H : Hp} {k : α → Hp → Hp → Prop} {e : Value → Option Addr → Hp → Prop} (h : Want K w mg (if c then a else .bad) F H k e) : c ∧ Want K w mg a F H k e := by
  by_cases hc : c
  · rw [if_pos hc] at h; exact ⟨hc, h⟩
  · rw [if_neg hc] at h; exact h.elim
abbrev rAddX : R2 := fun x y H Q => (∃ i j, x = .int i ∧ y = .int j ∧ Q (.int (i + j)) H) ∨ (∃ i j, x = .str i ∧ y = .str j ∧ i.length + j.length ≤ sizeLine ∧ Q (.str (i ++ j)) H) ∨ rCat x y H Q
theorem or_add : OpR X (binaryOp .Add) rAddX := op_add.or (op_add_str.or op_cat)
theorem od_add : OpD X rAddX addD := by
  intro F H dx dy x y Q e s rx ry hw
  unfold addD at hw
  split at hw
  · cases rx.int; cases ry.int
    exact .inl ⟨_, _, rfl, rfl, hw F H (Grow.refl s) _ (.int _)⟩
  · cases rx.str; cases ry.str
    obtain ⟨hc, hw⟩ := ifW hw
    exact .inr (.inl ⟨_, _, rfl, rfl, lim_le hc, hw F H (Grow.refl s) _ (.str _)⟩)
  · obtain ⟨a, xs, rfl, ha, ra⟩ := rx.lst s
    obtain ⟨b, ys, rfl, hb, rb⟩ := ry.lst s
    obtain ⟨hc, hw⟩ := ifW hw
    refine .inr (.inr ⟨a, b, xs, ys, rfl, rfl, ha, hb, by rw [← ra.length, ← rb.length]; exact lim_le hc, fun p hp => ?_⟩)
    have g := (Grow.refl s).new (o := .lst (xs ++ ys)) hp
    exact hw _ _ g _ (.lst upd_same ((Reps.mono g.ff _ _ ra).append (Reps.mono g.ff _ _ rb)))
  · exact hw.elim
theorem or_int {f : Int → Int → Int} {C : Int → Int → Prop} {g : D → D → R D} (h : ∀ dx dy F H k e, Want X.K X.w X.mg (g dx dy) F H k e → ∃ i j, dx = .int i ∧ dy = .int j ∧ C i j ∧ Want X.K X.w X.mg (.ok (.int (f i j))) F H k e) : OpD X (rI C fun i j => .int (f i j)) g := by
  intro F H dx dy x y Q e s rx ry hw
  obtain ⟨i, j, rfl, rfl, hc, hw⟩ := h dx dy _ _ _ _ hw
  cases rx.int; cases ry.int
  exact ⟨i, j, rfl, rfl, hc, hw F H (Grow.refl s) _ (.int _)⟩
theorem od_sub : OpD X (rI0 fun i j => .int (i - j)) subD := by
  intro F H dx dy x y Q e s rx ry hw
  unfold subD at hw
  split at hw
  · cases rx.int; cases ry.int
    exact ⟨_, _, rfl, rfl, hw F H (Grow.refl s) _ (.int _)⟩
  · exact hw.elim
theorem od_mul : OpD X (rI CMulW fun i j => .int (i * j)) mulD := or_int fun dx dy F H k e hw => by
  unfold mulD at hw
  split at hw
  · obtain ⟨hc, hw⟩ := ifW hw
    exact ⟨_, _, rfl, rfl, hc, hw⟩
  · exact hw.elim
theorem od_fdiv : OpD X (rI CDivW fun i j => .int (i / j)) fdivD := or_int fun dx dy F H k e hw => by
  unfold fdivD at hw
  split at hw
  · obtain ⟨hc, hw⟩ := ifW hw
    exact ⟨_, _, rfl, rfl, hc, hw⟩
  · exact hw.elim
theorem od_mod : OpD X (rI (fun _ j => 0 < j) fun i j => .int (i % j)) modD := or_int fun dx dy F H k e hw => by
  unfold modD at hw
  split at hw
  · obtain ⟨hc, hw⟩ := ifW hw
    exact ⟨_, _, rfl, rfl, hc, hw⟩
  · exact hw.elim
theorem od_pow : OpD X (rI CPow fun i j => .int (i ^ j.toNat)) powD := or_int fun dx dy F H k e hw => by
  unfold powD at hw
  split at hw
  · obtain ⟨hc, hw⟩ := ifW hw
    exact ⟨_, _, rfl, rfl, hc, hw⟩
  · exact hw.elim
def negD : D → R D
  | .int i => .ok (.int (-i))
  | _ => .bad
theorem re_neg {a : Expr} {fa : En → R D} {pos : Pos} (ha : RB X W a fa) : RE X W (.UnaryOp .USub a pos) (f1 negD fa) := fun B F0 F H σ ρ Q x hw => by
  refine ⟨_, pe_un un_neg (pe_W a), ?_⟩
  refine ha B F0 F H σ ρ _ x ((Want.bind hw).imp fun dx F1 H1 g1 k v rv => ?_)
  unfold negD at k
  split at k
  · cases rv.int
    exact ⟨_, rfl, k F1 H1 (Grow.refl g1.fh) _ (.int _)⟩
  · exact k.elim

/-! ### comparisons -/
def ltD : D → D → R D
  | .int i, .int j => .ok (.bl (decide (i < j)))
  | .str i, .str j => .ok (.bl (decide (i.cps.toList < j.cps.toList)))
  | _, _ => .bad
def leD : D → D → R D
  | .int i, .int j => .ok (.bl (decide (i ≤ j)))
  | _, _ => .bad
def gtD : D → D → R D
  | .int i, .int j => .ok (.bl (decide (j < i)))
  | _, _ => .bad
def geD : D → D → R D
  | .int i, .int j => .ok (.bl (decide (j ≤ i)))
  | _, _ => .bad
abbrev rLtX : R2 := fun x y H Q => rI0 (fun i j => .bl (decide (i < j))) x y H Q ∨ (∃ i j, x = .str i ∧ y = .str j ∧ Q (.bl (decide (i.cps.toList < j.cps.toList))) H)
theorem or_lt : OpR X (compareOp .Lt) rLtX := op_lt.or op_lt_str
theorem od_lt : OpD X rLtX ltD := by
  intro F H dx dy x y Q e s rx ry hw
  unfold ltD at hw
  split at hw
  · cases rx.int; cases ry.int
    exact .inl ⟨_, _, rfl, rfl, hw F H (Grow.refl s) _ (.bl _)⟩
  · cases rx.str; cases ry.str
    exact .inr ⟨_, _, rfl, rfl, hw F H (Grow.refl s) _ (.bl _)⟩
  · exact hw.elim
theorem od_le : OpD X (rI0 fun i j => .bl (decide (i ≤ j))) leD := by
  intro F H dx dy x y Q e s rx ry hw
  unfold leD at hw
  split at hw
  · cases rx.int; cases ry.int
    exact ⟨_, _, rfl, rfl, hw F H (Grow.refl s) _ (.bl _)⟩
  · exact hw.elim
theorem od_gt : OpD X (rI0 fun i j => .bl (decide (j < i))) gtD := by
  intro F H dx dy x y Q e s rx ry hw
  unfold gtD at hw
  split at hw
  · cases rx.int; cases ry.int
    exact ⟨_, _, rfl, rfl, hw F H (Grow.refl s) _ (.bl _)⟩
  · exact hw.elim
theorem od_ge : OpD X (rI0 fun i j => .bl (decide (j ≤ i))) geD := by
  intro F H dx dy x y Q e s rx ry hw
  unfold geD at hw
  split at hw
  · cases rx.int; cases ry.int
    exact ⟨_, _, rfl, rfl, hw F H (Grow.refl s) _ (.bl _)⟩
  · exact hw.elim
/-- is, of bools and of None -/
def isD : D → D → R D
  | .bl a, .bl b => .ok (.bl (decide (a = b)))
  | d, .non => .ok (.bl (match d with | .non => true | _ => false))
  | _, _ => .bad
abbrev rIsX : R2 := fun x y H Q => rIsB x y H Q ∨ (y = .non ∧ Q (.bl (decide (x = .non))) H)
theorem or_is : OpR X (compareOp .Is) rIsX := op_isBl.or op_isN
theorem od_is : OpD X rIsX isD := by
  intro F H dx dy x y Q e s rx ry hw
  unfold isD at hw
  split at hw
  · cases rx.bl; cases ry.bl
    exact .inl ⟨_, _, rfl, rfl, hw F H (Grow.refl s) _ (.bl _)⟩
  · cases ry.non
    refine .inr ⟨rfl, ?_⟩
    have k := hw F H (Grow.refl s) _ (.bl _)
    cases dx with
    | non => cases rx.non; exact k
    | bl b => cases rx.bl; exact k
    | int b => cases rx.int; exact k
    | str b => cases rx.str; exact k
    | lst b => obtain ⟨_, _, rfl, _⟩ := rx.lst s; exact k
    | tup b => obtain ⟨_, _, rfl, _⟩ := rx.tup s; exact k
    | st b => obtain ⟨_, _, _, rfl, _⟩ := rx.st s; exact k
    | scr b => obtain ⟨_, rfl, _⟩ := rx.scr s; exact k
  · exact hw.elim
mutual
/-- data as the library's data -/
def D.py : D → Option PyData
  | .non => some .none
  | .bl b => some (.bool b)
  | .int i => some (.int i)
  | .str x => some (.str x)
  | .lst ds => (D.pys ds).map .list
  | .tup ds => (D.pys ds).map .tuple
  | .st _ => none
  | .scr _ => none
def D.pys : List D → Option (List PyData)
  | [] => some []
  | d :: ds => (D.py d).bind fun p => (D.pys ds).map (p :: ·)
end
mutual
theorem Rep.dp {K : PySem.W.Frag} {w : World} {F : Hp} : ∀ (d : D) (v : V) (p : PyData), Rep K w F d v → d.py = some p → Dp K F v p
  | .non, _, _, h, e => by cases h; cases e; exact .non
  | .bl b, _, _, h, e => by cases h; cases e; exact .bl b
  | .int b, _, _, h, e => by cases h; cases e; exact .int b
  | .str b, _, _, h, e => by cases h; cases e; exact .str b
  | .lst ds, _, _, h, e => by
    cases h with | lst h1 h2 =>
    simp only [D.py, Option.map_eq_some_iff] at e
    obtain ⟨ps, e1, rfl⟩ := e
    exact .lst (SqL.of h1) (Reps.dp ds _ ps h2 e1)
  | .tup ds, _, _, h, e => by
    cases h with | tup h1 h2 =>
    simp only [D.py, Option.map_eq_some_iff] at e
    obtain ⟨ps, e1, rfl⟩ := e
    exact .tup h1 (Reps.dp ds _ ps h2 e1)
  | .st _, _, _, _, e => by cases e
  | .scr _, _, _, _, e => by cases e
theorem Reps.dp {K : PySem.W.Frag} {w : World} {F : Hp} : ∀ (ds : List D) (vs : List V) (ps : List PyData), Reps K w F ds vs → D.pys ds = some ps → DpAll K F vs ps
  | [], _, _, h, e => by cases h; cases e; exact .nil
  | d :: ds, _, _, h, e => by
    cases h with | cons h1 h2 =>
    simp only [D.pys, Option.bind_eq_some_iff, Option.map_eq_some_iff] at e
    obtain ⟨p, e1, ps, e2, rfl⟩ := e
    exact .cons (Rep.dp d _ p h1 e1) (Reps.dp ds _ ps h2 e2)
end
theorem DpAll.mono' {K : PySem.W.Frag} {F H : Hp} (s : Same F H) : True := trivial
theorem BRep.dp {K : PySem.W.Frag} {w : World} {F H : Hp} {d : D} {v : V} {p : PyData} (h : BRep K w F H d v) (s : Same F H) (e : d.py = some p) : Dp K H v p := by
  rcases h with h | ⟨a, xs, ds, rfl, rfl, e3, e4⟩
  · exact Rep.dp _ _ _ (Rep.mono s _ _ h) e
  · simp only [D.py, Option.map_eq_some_iff] at e
    obtain ⟨ps, e1, rfl⟩ := e
    exact .lst (SqL.of e3) (Reps.dp _ _ _ (Reps.mono s _ _ e4) e1)
def deepB (d e : D) : Option Bool := match d.py, e.py with
    | some p, some q => if SeqAt.shaped p = true ∧ SeqAt.shaped q = true then some (PyData.eqv p q) else none
    | _, _ => none
/-- == : the answer for flat data at once, else by the library's data -/
def eqB (d e : D) : Bool × Option Bool := match d, e with
  | .int i, .int j => (true, some (decide (i = j)))
  | .bl i, .bl j => (true, some (decide (i = j)))
  | .str i, .str j => (true, some (decide (i = j)))
  | d, e => (false, deepB d e)
def eqD (d e : D) : R D := match (eqB d e).2 with
  | some b => .ok (.bl b)
  | none => .bad
def neD (d e : D) : R D := match (eqB d e).2 with
  | some b => .ok (.bl (!b))
  | none => .bad
theorem deepB_ok {d e : D} {b : Bool} (h : deepB d e = some b) : ∃ p q, d.py = some p ∧ e.py = some q ∧ SeqAt.shaped p = true ∧ SeqAt.shaped q = true ∧ PyData.eqv p q = b := by
  unfold deepB at h
  split at h
  · rename_i p q e1 e2
    split at h
    · rename_i hc; cases h; exact ⟨p, q, e1, e2, hc.1, hc.2, rfl⟩
    · cases h
  · cases h
theorem eqB_ok {K : PySem.W.Frag} {w : World} {F H : Hp} {x y : V} {d e : D} {b : Bool} (s : Same F H) (rx : BRep K w F H d x) (ry : BRep K w F H e y) (h : (eqB d e).2 = some b) :
    (scal x y = true ∧ decide (x = y) = b) ∨ ∃ p q, Dp K H x p ∧ Dp K H y q ∧ SeqAt.shaped p = true ∧ SeqAt.shaped q = true ∧ PyData.eqv p q = b := by
  unfold eqB at h
  split at h
  · cases h; cases rx.int; cases ry.int; exact .inl ⟨rfl, by simp⟩
  · cases h; cases rx.bl; cases ry.bl; exact .inl ⟨rfl, by simp⟩
  · cases h; cases rx.str; cases ry.str; exact .inl ⟨rfl, by simp⟩
  · obtain ⟨p, q, e1, e2, s1, s2, e3⟩ := deepB_ok h
    exact .inr ⟨p, q, rx.dp s e1, ry.dp s e2, s1, s2, e3⟩
abbrev rEqX (K : PySem.W.Frag) : R2 := fun x y H Q => rEq x y H Q ∨ rEqD K x y H Q
abbrev rNeX (K : PySem.W.Frag) : R2 := fun x y H Q => rNe x y H Q ∨ rNeD K x y H Q
theorem or_eq (hu : X.A.units + 64 < cLine) : OpR X (compareOp .Eq) (rEqX X.K) := op_eq.or (op_eqD hu)
theorem or_ne (hu : X.A.units + 64 < cLine) : OpR X (compareOp .NotEq) (rNeX X.K) := op_ne.or (op_neD hu)
theorem od_eq : OpD X (rEqX X.K) eqD := by
  intro F H dx dy x y Q e s rx ry hw
  unfold eqD at hw
  split at hw
  · rename_i b hb
    have k := hw F H (Grow.refl s) _ (.bl _)
    rcases eqB_ok s rx ry hb with ⟨h1, h2⟩ | ⟨p, q, e1, e2, s1, s2, e3⟩
    · exact .inl ⟨h1, by rw [h2]; exact k⟩
    · exact .inr ⟨p, q, e1, e2, s1, s2, by rw [e3]; exact k⟩
  · exact hw.elim
theorem od_ne : OpD X (rNeX X.K) neD := by
  intro F H dx dy x y Q e s rx ry hw
  unfold neD at hw
  split at hw
  · rename_i b hb
    have k := hw F H (Grow.refl s) _ (.bl _)
    rcases eqB_ok s rx ry hb with ⟨h1, h2⟩ | ⟨p, q, e1, e2, s1, s2, e3⟩
    · exact .inl ⟨h1, by rw [h2]; exact k⟩
    · exact .inr ⟨p, q, e1, e2, s1, s2, by rw [e3]; exact k⟩
  · exact hw.elim
end
end Pc
set_option maxHeartbeats 4000000
namespace Pc
open PySem L2
section
variable {X : Cx} {W : WX}

/-! ### x in a list, a tuple, a set, a text -/
def flatD : D → Bool
  | .non => true
  | .bl _ => true
  | .int _ => true
  | .str _ => true
  | _ => false
def toV : D → V
  | .bl b => .bl b
  | .int i => .int i
  | .str x => .str x
  | _ => .non
theorem Rep.flat {K : PySem.W.Frag} {w : World} {F : Hp} {d : D} {v : V} (h : Rep K w F d v) (f : flatD d = true) : v = toV d ∧ flatV v = true := by
  cases h <;> first | exact ⟨rfl, rfl⟩ | cases f
theorem BRep.flat {K : PySem.W.Frag} {w : World} {F H : Hp} {d : D} {v : V} (h : BRep K w F H d v) (f : flatD d = true) : v = toV d ∧ flatV v = true := by
  rcases h with h | ⟨_, _, _, _, rfl, _⟩
  · exact h.flat f
  · cases f
theorem Reps.flat {K : PySem.W.Frag} {w : World} {F : Hp} : ∀ {ds : List D} {vs : List V}, Reps K w F ds vs → ds.all flatD = true → vs = ds.map toV ∧ vs.all flatV = true
  | [], _, h, _ => by cases h; exact ⟨rfl, rfl⟩
  | d :: ds, _, h, f => by
    cases h with | cons h1 h2 =>
    rw [List.all_cons, Bool.and_eq_true] at f
    obtain ⟨e1, e2⟩ := h1.flat f.1
    obtain ⟨e3, e4⟩ := Reps.flat h2 f.2
    exact ⟨by rw [e1, e3, List.map_cons], by rw [List.all_cons, e2, e4]; rfl⟩
def inB (d : D) : D → Option Bool
  | .lst ds => if flatD d = true ∧ ds.all flatD = true then some (inV (toV d) (ds.map toV)) else none
  | .tup ds => if flatD d = true ∧ ds.all flatD = true then some (inV (toV d) (ds.map toV)) else none
  | .st is => match d with
    | .int k => some (decide (k ∈ is))
    | _ => none
  | .str z => match d with
    | .str y => some (!(Builtin.Str.occurrences z y 0 z.length 1).isEmpty)
    | _ => none
  | _ => none
def inD (d e : D) : R D := match inB d e with
  | some b => .ok (.bl b)
  | none => .bad
def ninD (d e : D) : R D := match inB d e with
  | some b => .ok (.bl (!b))
  | none => .bad
abbrev rInX (K : PySem.W.Frag) (w : World) : R2 := fun x y H Q => rIn K false x y H Q ∨ rSIn w x y H Q ∨ (∃ i j, x = .str i ∧ y = .str j ∧ Q (.bl (!(Builtin.Str.occurrences j i 0 j.length 1).isEmpty)) H)
abbrev rNinX (K : PySem.W.Frag) (w : World) : R2 := fun x y H Q => rIn K true x y H Q ∨ rSNotIn w x y H Q ∨ (∃ i j, x = .str i ∧ y = .str j ∧ Q (.bl (!(!(Builtin.Str.occurrences j i 0 j.length 1).isEmpty))) H)
theorem or_in : OpR X (compareOp .In) (rInX X.K X.w) := op_in_seq.or (or_sin.or op_in_str)
theorem or_nin : OpR X (compareOp .NotIn) (rNinX X.K X.w) := op_notIn_seq.or (or_snotin.or op_notin_str)
theorem inB_ok {K : PySem.W.Frag} {w : World} {F H : Hp} {dx dy : D} {x y : V} {b : Bool} (s : Same F H) (rx : BRep K w F H dx x) (ry : BRep K w F H dy y) (h : inB dx dy = some b) :
    (∃ p xs, y = .ref p ∧ (SqL K H p xs ∨ SqT K H p xs) ∧ flatV x = true ∧ xs.all flatV = true ∧ inV x xs = b) ∨ (∃ k a S n, x = V.int k ∧ y = V.ref a ∧ H a = some (SetO w a S n) ∧ S k = b) ∨
    (∃ i j, x = .str i ∧ y = .str j ∧ (!(Builtin.Str.occurrences j i 0 j.length 1).isEmpty) = b) := by
  unfold inB at h
  split at h
  · split at h
    · rename_i hc
      cases h
      obtain ⟨e1, e2⟩ := rx.flat hc.1
      obtain ⟨a, xs, rfl, ha, ra⟩ := ry.lst s
      obtain ⟨e3, e4⟩ := ra.flat hc.2
      exact .inl ⟨a, xs, rfl, .inl (SqL.of ha), e2, e4, by rw [e1, e3]⟩
    · cases h
  · split at h
    · rename_i hc
      cases h
      obtain ⟨e1, e2⟩ := rx.flat hc.1
      obtain ⟨a, xs, rfl, ha, ra⟩ := ry.tup s
      obtain ⟨e3, e4⟩ := ra.flat hc.2
      exact .inl ⟨a, xs, rfl, .inr ha, e2, e4, by rw [e1, e3]⟩
    · cases h
  · split at h
    · cases h
      cases rx.int
      obtain ⟨a, S, n, rfl, ha, hS, _⟩ := ry.st s
      exact .inr (.inl ⟨_, a, S, n, rfl, rfl, ha, hS _⟩)
    · cases h
  · split at h
    · cases h
      cases rx.str; cases ry.str
      exact .inr (.inr ⟨_, _, rfl, rfl, rfl⟩)
    · cases h
  · cases h
theorem od_in : OpD X (rInX X.K X.w) inD := by
  intro F H dx dy x y Q e s rx ry hw
  unfold inD at hw
  split at hw
  · rename_i b hb
    have k := hw F H (Grow.refl s) _ (.bl _)
    rcases inB_ok s rx ry hb with ⟨p, xs, e1, e2, e3, e4, e5⟩ | ⟨k', a, S, n, e1, e2, e3, e4⟩ | ⟨i, j, e1, e2, e3⟩
    · exact .inl ⟨p, xs, e1, e2, e3, e4, by subst e5; exact k⟩
    · exact .inr (.inl ⟨k', a, S, n, e1, e2, e3, by rw [e4]; exact k⟩)
    · exact .inr (.inr ⟨i, j, e1, e2, by rw [e3]; exact k⟩)
  · exact hw.elim
theorem od_nin : OpD X (rNinX X.K X.w) ninD := by
  intro F H dx dy x y Q e s rx ry hw
  unfold ninD at hw
  split at hw
  · rename_i b hb
    have k := hw F H (Grow.refl s) _ (.bl _)
    rcases inB_ok s rx ry hb with ⟨p, xs, e1, e2, e3, e4, e5⟩ | ⟨k', a, S, n, e1, e2, e3, e4⟩ | ⟨i, j, e1, e2, e3⟩
    · exact .inl ⟨p, xs, e1, e2, e3, e4, by subst e5; exact k⟩
    · exact .inr (.inl ⟨k', a, S, n, e1, e2, e3, by rw [e4]; exact k⟩)
    · exact .inr (.inr ⟨i, j, e1, e2, by rw [e3]; exact k⟩)
  · exact hw.elim

/-! ### and, or, not, a if t else b: tests and bools -/
def gAnd (f g : En → R Bool) : En → R Bool := fun ρ => (f ρ).bind fun b => if b = true then g ρ else .ok false
def gOr (f g : En → R Bool) : En → R Bool := fun ρ => (f ρ).bind fun b => if b = true then .ok true else g ρ
def gNot (f : En → R Bool) : En → R Bool := fun ρ => (f ρ).bind fun b => .ok (!b)
def fBl (f : En → R Bool) : En → R D := fun ρ => (f ρ).bind fun b => .ok (.bl b)
def fIf (c : En → R Bool) (f g : En → R D) : En → R D := fun ρ => (c ρ).bind fun b => if b = true then f ρ else g ρ
/-- a test of any shape in and, or -/
def RW (X : Cx) (W : WX) (e : Expr) (f : En → R Bool) : Prop := ∀ B F0 F H σ ρ (Q : Bool → Hp → Prop), EOk X.K X.w B F0 F H σ ρ →
  Want X.K X.w X.mg (f ρ) F H (fun b _ H' => Q b H') (fun C dd H' => W C dd σ H') → ∃ t, PW X e t ∧ t σ H Q
theorem RW.t {e : Expr} {f : En → R Bool} (h : RW X W e f) : RT X W e f := fun B F0 F H σ ρ Q x hw => by
  obtain ⟨t, h1, h2⟩ := h B F0 F H σ ρ Q x hw
  exact ⟨t, h1.pt, h2⟩
def tW (X : Cx) (e : Expr) : TT := fun σ H Q => ∃ t, PW X e t ∧ t σ H Q
theorem pw_W (e : Expr) : PW X e (tW X e) := ⟨fun wh pins s σ H Q I ⟨t, h, q⟩ => h.run wh pins s σ H Q I q⟩
variable {a b : Expr} {rest : List Expr} {pos : Pos} {fa fb : En → R Bool}
theorem rw_and1 (ha : RT X W a fa) : RW X W (.BoolOp .And [a] pos) fa := fun B F0 F H σ ρ Q x hw => ⟨_, pw_and1 (pt_W a), ha B F0 F H σ ρ Q x hw⟩
theorem rw_or1 (ha : RT X W a fa) : RW X W (.BoolOp .Or [a] pos) fa := fun B F0 F H σ ρ Q x hw => ⟨_, pw_or1 (pt_W a), ha B F0 F H σ ρ Q x hw⟩
theorem rw_and (ha : RT X W a fa) (hb : RW X W (.BoolOp .And (b :: rest) pos) fb) : RW X W (.BoolOp .And (a :: b :: rest) pos) (gAnd fa fb) := fun B F0 F H σ ρ Q x hw => by
  refine ⟨_, pw_and (pt_W a) (pw_W _), ?_⟩
  refine ha B F0 F H σ ρ _ x ((Want.bind hw).imp fun c F1 H1 g1 k => ?_)
  cases c with
  | true => exact hb B F0 F1 H1 σ ρ Q (x.grow g1) k
  | false => exact k F1 H1 (Grow.refl g1.fh)
theorem rw_or (ha : RT X W a fa) (hb : RW X W (.BoolOp .Or (b :: rest) pos) fb) : RW X W (.BoolOp .Or (a :: b :: rest) pos) (gOr fa fb) := fun B F0 F H σ ρ Q x hw => by
  refine ⟨_, pw_or (pt_W a) (pw_W _), ?_⟩
  refine ha B F0 F H σ ρ _ x ((Want.bind hw).imp fun c F1 H1 g1 k => ?_)
  cases c with
  | false => exact hb B F0 F1 H1 σ ρ Q (x.grow g1) k
  | true => exact k F1 H1 (Grow.refl g1.fh)
theorem rt_not (ha : RT X W a fa) : RT X W (.UnaryOp .Not a pos) (gNot fa) := fun B F0 F H σ ρ Q x hw => by
  refine ⟨_, pt_not (pt_W a), ?_⟩
  exact ha B F0 F H σ ρ _ x ((Want.bind hw).imp fun c F1 H1 g1 k => k F1 H1 (Grow.refl g1.fh))
/-- the same as values -/
def fAnd (f g : En → R D) : En → R D := fun ρ => (f ρ).bind fun d => (toB d).bind fun b => if b = true then g ρ else .ok (.bl false)
def fOr (f g : En → R D) : En → R D := fun ρ => (f ρ).bind fun d => (toB d).bind fun b => if b = true then .ok (.bl true) else g ρ
def notD : D → R D
  | .bl b => .ok (.bl (!b))
  | _ => .bad
variable {ga gb : En → R D}
theorem re_one {op : BoolOp} (ha : RE X W a ga) : RE X W (.BoolOp op [a] pos) ga := fun B F0 F H σ ρ Q x hw => ⟨_, pe_one (pe_W a), ha B F0 F H σ ρ Q x hw⟩
theorem toB_ok {K : PySem.W.Frag} {w : World} {mg : Str → Option Value} {α : Type} {d : D} {f : Bool → R α} {F H : Hp} {k : α → Hp → Hp → Prop} {e : Value → Option Addr → Hp → Prop} (h : Want K w mg ((toB d).bind f) F H k e) : ∃ b, d = .bl b ∧ Want K w mg (f b) F H k e := by
  cases d with
  | bl b => exact ⟨b, rfl, h⟩
  | _ => exact h.elim
theorem re_and (ha : RE X W a ga) (hb : RE X W (.BoolOp .And (b :: rest) pos) gb) : RE X W (.BoolOp .And (a :: b :: rest) pos) (fAnd ga gb) := fun B F0 F H σ ρ Q x hw => by
  refine ⟨_, pe_and (pe_W a) (pe_W _), ?_⟩
  refine ha B F0 F H σ ρ _ x ((Want.bind hw).imp fun d F1 H1 g1 k v rv => ?_)
  obtain ⟨c, rfl, k⟩ := toB_ok k
  cases rv
  refine ⟨c, rfl, ?_⟩
  cases c with
  | true => exact hb B F0 F1 H1 σ ρ Q (x.grow g1) k
  | false => exact k F1 H1 (Grow.refl g1.fh) _ (.bl _)
theorem re_or (ha : RE X W a ga) (hb : RE X W (.BoolOp .Or (b :: rest) pos) gb) : RE X W (.BoolOp .Or (a :: b :: rest) pos) (fOr ga gb) := fun B F0 F H σ ρ Q x hw => by
  refine ⟨_, pe_or (pe_W a) (pe_W _), ?_⟩
  refine ha B F0 F H σ ρ _ x ((Want.bind hw).imp fun d F1 H1 g1 k v rv => ?_)
  obtain ⟨c, rfl, k⟩ := toB_ok k
  cases rv
  refine ⟨c, rfl, ?_⟩
  cases c with
  | false => exact hb B F0 F1 H1 σ ρ Q (x.grow g1) k
  | true => exact k F1 H1 (Grow.refl g1.fh) _ (.bl _)
theorem re_not (ha : RE X W a ga) : RE X W (.UnaryOp .Not a pos) (f1 notD ga) := fun B F0 F H σ ρ Q x hw => by
  refine ⟨_, pe_not (pe_W a), ?_⟩
  refine ha B F0 F H σ ρ _ x ((Want.bind hw).imp fun d F1 H1 g1 k v rv => ?_)
  cases d with
  | bl c => cases rv; exact ⟨c, rfl, k F1 H1 (Grow.refl g1.fh) _ (.bl _)⟩
  | _ => exact k.elim
theorem re_ifExp {c : Expr} {fc : En → R Bool} (hc : RT X W c fc) (ha : RE X W a ga) (hb : RE X W b gb) : RE X W (.IfExp c a b pos) (fIf fc ga gb) := fun B F0 F H σ ρ Q x hw => by
  refine ⟨_, pe_ifExp (pt_W c) (pe_W a) (pe_W b), ?_⟩
  refine hc B F0 F H σ ρ _ x ((Want.bind hw).imp fun d F1 H1 g1 k => ?_)
  cases d with
  | true => exact ha B F0 F1 H1 σ ρ Q (x.grow g1) k
  | false => exact hb B F0 F1 H1 σ ρ Q (x.grow g1) k
/-- truth of a value -/
def truD : D → R Bool
  | .non => .ok false
  | .bl b => .ok b
  | .int i => .ok (i != 0)
  | .str x => if x.length ≤ lim then .ok ((x.length : Int) != 0) else .bad
  | .lst ds => .ok (!ds.isEmpty)
  | .tup ds => .ok (!ds.isEmpty)
  | _ => .bad
def fTru (f : En → R D) : En → R Bool := fun ρ => (f ρ).bind truD
theorem Reps.empty {K : PySem.W.Frag} {w : World} {F : Hp} {ds : List D} {vs : List V} (h : Reps K w F ds vs) : (!ds.isEmpty) = !vs.isEmpty := by
  cases h <;> rfl
theorem rt_tru {e : Expr} {f : En → R D} (h : RB X W e f) (he : ∀ whole, isTrue e X.env whole = (do let v ← whole; standAt e.pos; holding [v] (truthy v)) := by intro _; rfl) : RT X W e (fTru f) := fun B F0 F H σ ρ Q x hw => by
  refine ⟨_, pt_truth (pe_W e) he, ?_⟩
  refine h B F0 F H σ ρ _ x ((Want.bind hw).imp fun d F1 H1 g1 k v rv => ?_)
  cases d with
  | non => cases rv.non; exact ⟨_, rfl, k F1 H1 (Grow.refl g1.fh)⟩
  | bl b => cases rv.bl; exact ⟨_, rfl, k F1 H1 (Grow.refl g1.fh)⟩
  | int b => cases rv.int; exact ⟨_, rfl, k F1 H1 (Grow.refl g1.fh)⟩
  | str b =>
    cases rv.str
    obtain ⟨hc, k⟩ := ifW k
    exact ⟨_, ⟨lim_le hc, rfl⟩, k F1 H1 (Grow.refl g1.fh)⟩
  | lst ds =>
    obtain ⟨a, xs, rfl, ha, ra⟩ := rv.lst g1.fh
    exact ⟨_, .inl ⟨xs, SqL.of ha, ra.empty⟩, k F1 H1 (Grow.refl g1.fh)⟩
  | tup ds =>
    obtain ⟨a, xs, rfl, ha, ra⟩ := rv.tup g1.fh
    exact ⟨_, .inr (.inl ⟨xs, ha, ra.empty⟩), k F1 H1 (Grow.refl g1.fh)⟩
  | st _ => exact k.elim
  | scr _ => exact k.elim

/-! ### argument lists and displays -/
def gNil : En → R (List D) := fun _ => .ok []
def gCons (f : En → R D) (g : En → R (List D)) : En → R (List D) := fun ρ => (f ρ).bind fun d => (g ρ).bind fun ds => .ok (d :: ds)
variable {e : Expr} {es : List Expr} {f : En → R D} {fs : En → R (List D)}
theorem ra_nil : RA X W [] gNil := fun B F0 F H σ ρ Q x hw => ⟨_, pa_nil, hw F H (Grow.refl x.fh) _ .nil⟩
theorem ra_cons (h : RE X W e f) (hs : RA X W es fs) (hst : starEach (e :: es) X.env = (false, eval e X.env) :: starEach es X.env := by rfl) : RA X W (e :: es) (gCons f fs) := fun B F0 F H σ ρ Q x hw => by
  refine ⟨_, pa_cons (pe_W e) (pa_W es) hst, ?_⟩
  refine h B F0 F H σ ρ _ x ((Want.bind hw).imp fun d F1 H1 g1 k v rv => ?_)
  refine hs B F0 F1 H1 σ ρ _ (x.grow g1) ((Want.bind k).imp fun ds F2 H2 g2 k2 vs rvs => ?_)
  exact k2 F2 H2 (Grow.refl g2.fh) _ (.cons (Rep.mono g2.ff _ _ rv) rvs)
theorem rab_nil : RAB X W [] gNil := fun B F0 F H σ ρ Q x hw => ⟨_, pa_nil, hw F H (Grow.refl x.fh) _ .nil⟩
theorem BReps.grow {K : PySem.W.Frag} {w : World} {F H F1 H1 : Hp} : ∀ {ds : List D} {vs : List V}, BReps K w F H ds vs → Grow F H F1 H1 → BReps K w F1 H1 ds vs
  | _, _, .nil, _ => .nil
  | _, _, .cons h t, g => .cons (h.grow g) (BReps.grow t g)
theorem rab_cons (h : RB X W e f) (hs : RAB X W es fs) (hst : starEach (e :: es) X.env = (false, eval e X.env) :: starEach es X.env := by rfl) : RAB X W (e :: es) (gCons f fs) := fun B F0 F H σ ρ Q x hw => by
  refine ⟨_, pa_cons (pe_W e) (pa_W es) hst, ?_⟩
  refine h B F0 F H σ ρ _ x ((Want.bind hw).imp fun d F1 H1 g1 k v rv => ?_)
  refine hs B F0 F1 H1 σ ρ _ (x.grow g1) ((Want.bind k).imp fun ds F2 H2 g2 k2 vs rvs => ?_)
  exact k2 F2 H2 (Grow.refl g2.fh) _ (.cons (rv.grow g2) rvs)
def cap (n : Nat) (ds : List D) : R (List D) := if ds.length ≤ n then .ok ds else .bad
def fLst (fs : En → R (List D)) : En → R (List D) := fun ρ => (fs ρ).bind fun ds => cap lim ds
def fTup (fs : En → R (List D)) : En → R D := fun ρ => (fs ρ).bind fun ds => if ds.length ≤ lim then .ok (.tup ds) else .bad
theorem rf_lst (hs : RA X W es fs) : RF X W (.List es pos) (fLst fs) := fun B F0 F H σ ρ Q x hw => by
  refine ⟨_, pe_lst (pa_W es), ?_⟩
  refine hs B F0 F H σ ρ _ x ?_
  replace hw : Want X.K X.w X.mg ((fs ρ).bind fun ds => cap lim ds) F H _ _ := hw
  cases hf : fs ρ with
  | ex y => rw [hf] at hw; exact hw
  | bad => rw [hf] at hw; exact hw
  | ok ds =>
    rw [hf] at hw
    intro F1 H1 g1 vs rvs
    obtain ⟨hc, hw⟩ := ifW hw
    exact ⟨by rw [← rvs.length]; exact lim_le hc, fun p hp => hw F1 _ (g1.lay hp) p vs (g1.hh.free hp) (g1.freeF hp) upd_same rvs⟩
theorem re_tup {x1} (hs : RA X W es fs) : RE X W (.Tuple es x1 pos) (fTup fs) := fun B F0 F H σ ρ Q x hw => by
  refine ⟨_, pe_tup (pa_W es), ?_⟩
  refine hs B F0 F H σ ρ _ x ((Want.bind hw).imp fun ds F1 H1 g1 k vs rvs => ?_)
  obtain ⟨hc, k⟩ := ifW k
  refine ⟨by rw [← rvs.length]; exact lim_le hc, fun p hp => ?_⟩
  have g := (Grow.refl g1.fh).new (o := .tup vs) hp
  exact k _ _ g _ (.tup (.inl (.inl upd_same)) (Reps.mono g.ff _ _ rvs))
end
end Pc
set_option maxHeartbeats 8000000
/-! set(l) of a list of ints, with the layer's own description of a set (the library has it of a tuple; its loop lemma serves both). -/
namespace Pc
open PySem PySem.Spec PyProof.Rows L2
section
variable {P : Program} {w : World} {A : Around} {E : Value → Shared → Prop} {s : Shared}
abbrev e0 (w : World) : Obj := { cls := .type "set", dict := none, data := .set #[] 0 (.fresh 0 0 (!w.params.followText "set-order")) }
theorem set_of_list {l : Addr} {items : Array Value} (ns : List Int) {Q : Value → Shared → Prop} (hh : A.handled = none) (hl : s.heap.IsList l items) (hit : IntsAre items.toList ns) (hb : ns.length + 1 < scanBound)
    (h : ∀ (h' : Heap) (tk c : Nat), SetR w h' s.heap.objs.size (fun j => decide (j ∈ ns)) c → c ≤ ns.length → (∀ b o, s.heap.get? b = some o → h'.get? b = some o) → Q (.ref s.heap.objs.size) { s with heap := h', toks := tk }) :
    wpAny (model P w) A (call (.type "set") [.ref l]) Q E s := by
  have hn : items.size = ns.length := by
    have q := IntsAre.length hit
    rwa [Array.length_toList] at q
  obtain ⟨c, tl, hm⟩ := F.called_set.mro
  have g1 := F.called_set.made
  have g2 := F.called_set.sub
  refine wpAny_call (codeAny_of_tree ?_)
  show wpAny _ _ (callAny (.type "set") _) _ _ _
  refine wpAny_pure ⟨Code.quiet_builtin _ (by decide +kernel), codeAny_builtin F.entry_type_call ?_⟩
  rw [Around.under_plain (weight_type_call_type "set" [.ref l] []) rfl]
  have g3 := F.called_set.notType
  have g4 := F.called_set.canCreate
  have g5 := F.typeCall_set_1 (.ref l)
  repeat (any_goals (first | assumption | wp_step))
  refine codeAny_mono (code_set_led1 (.ref l) (E := E) (Q₁ := fun x t => x = .ref s.heap.objs.size ∧ t = { s with heap := s.heap.push (e0 w) }) ⟨rfl, rfl⟩) fun r t hr => ?_
  cases r with
  | error e => exact hr
  | ok fl =>
    cases fl with
    | next => exact hr.elim
    | brk => exact hr.elim
    | cont => exact hr.elim
    | ret x =>
      obtain ⟨rfl, rfl⟩ := hr
      have o1 : (s.heap.push (e0 w)).get? s.heap.objs.size = some (e0 w) := Heap.get?_push_size _ rfl
      have o2 : Shared.TypeIs { s with heap := s.heap.push (e0 w) } (.ref s.heap.objs.size) "set" := ⟨_, o1, rfl⟩
      have o3 := F.called_set.init.lookup
      have o4 := F.called_set.init.bind (.ref s.heap.objs.size)
      repeat (any_goals (first | assumption | wp_step))
      refine codeAny_mono (codeAny_call_builtin (R := wants (fun r t => r = .none ∧ ∃ h' tk c, t = { s with heap := h', toks := tk } ∧ SetR w h' s.heap.objs.size (fun j => decide (j ∈ ns)) c ∧ c ≤ ns.length ∧
          (∀ b o, s.heap.get? b = some o → h'.get? b = some o)) E) F.called_set.init.plain F.entry_set_init (check_set_init_1 o2 ?_)) fun r t hr => ?_
      · obtain ⟨⟨lc, ld, lx, ls⟩, hol, hcl, nl, hdl⟩ := hl
        dsimp only at hcl hdl
        subst hcl; subst hdl
        have hol' : (s.heap.push (e0 w)).get? l = some { cls := .type "list", dict := ld, data := .seq items nl, slots := ls } := Heap.get?_push_of_some _ hol
        have k1 := F.sub_list_set
        have k2 := F.sub_list_frozenset
        have k3 : (Value.type "list" == Value.type "dict") = false := by decide
        have hL : (s.heap.push (e0 w)).IsList l items := ⟨_, hol', rfl, nl, rfl⟩
        unfold Builtin.«set.__init__» noKeywords Builtin.Frozenset.updateFrom
        generalize hPI : pyIter = PI
        wp_walk
        subst hPI
        refine wpAny_pyIter_list hL ?_
        refine wpAny_bind (wpAny_runValue ?_)
        have lS : l < s.heap.objs.size := Heap.lt_size hol
        have h3 : A.in1.in1.in1.handled = none := by simp [hh]
        have z1 : (s.heap.push (e0 w)).objs.size = s.heap.objs.size + 1 := Heap.size_push ..
        have nI : l ≠ (s.heap.push (e0 w)).objs.size := Nat.ne_of_lt (by rw [z1]; exact Nat.lt_succ_of_lt lS)
        have nS : s.heap.objs.size ∉ [(s.heap.push (e0 w)).objs.size, l] := by
          rw [z1]
          simp only [List.mem_cons, List.not_mem_nil, or_false, not_or]
          exact ⟨Nat.ne_of_lt (Nat.lt_succ_self _), Nat.ne_of_gt lS⟩
        have hv : ∀ (i : Nat) (v : Value), items[i]? = some v → ∃ k t, ns[i]? = some k ∧ v = .int k t := fun i v hv => by
          have hi : i < ns.length := by rw [← hn]; exact (Array.getElem?_eq_some_iff.mp hv).1
          obtain ⟨t, e⟩ := PyProof.Rows.IntsAre.int_at hit i v (by rw [Array.getElem?_toList]; exact hv)
          exact ⟨ns[i], t, List.getElem?_eq_getElem hi, by rw [e, List.getD_eq_getElem?_getD, List.getElem?_eq_getElem hi]; rfl⟩
        refine set_update_ints ((Walks.list h3 _ l nI items).toS) s.heap.objs.size nS ns hn hb hv (items.size - 0) 0 _ rfl (Nat.zero_le _) ⟨⟨_, Heap.get?_push_size _ rfl, rfl, rfl⟩, (hL.push _)⟩ ⟨0, Nat.le_refl 0, setR_new_at (Heap.get?_push_of_some _ o1)⟩ ?_
        intro t c mv hc hS
        obtain ⟨h', g', d', tk', os'⟩ := t
        obtain rfl : g' = s.gens := mv.gens
        obtain rfl : d' = s.drawn := mv.drawn
        obtain rfl : os' = s.os := mv.os
        show wpAny _ _ _ _ _ _
        refine wpAny_pure ?_
        show wpAny _ _ (ret Value.none) _ _ _
        rw [hn] at hc
        refine wpAny_pure ⟨rfl, h', tk', c, rfl, hS, hc, fun b o e => ?_⟩
        have hb0 : b < s.heap.objs.size := Heap.lt_size e
        refine mv.heap b o ?_ (Heap.get?_push_of_some _ (Heap.get?_push_of_some _ e))
        simp only [List.mem_cons, List.not_mem_nil, or_false, not_or]
        rw [z1]
        exact ⟨Nat.ne_of_lt hb0, Nat.ne_of_lt (Nat.lt_succ_of_lt hb0)⟩
      · cases r with
        | error e => exact hr
        | ok fl =>
          cases fl with
          | next => exact hr.elim
          | brk => exact hr.elim
          | cont => exact hr.elim
          | ret r =>
            obtain ⟨rfl, h', tk, c', rfl, hS, hc, hk⟩ := hr
            repeat (any_goals (first | assumption | wp_step))
            exact h _ _ _ hS hc hk
end
end Pc
set_option maxHeartbeats 4000000
namespace Pc
open PySem L2
section
variable {X : Cx} {W : WX}

/-! ### a[b], a[lo:hi], a[::-1] -/
def ixD : D → D → R D
  | .lst ds, .int i => match atI ds i with | some d => .ok d | none => .bad
  | .tup ds, .int i => match atI ds i with | some d => .ok d | none => .bad
  | .scr ns, .int i => match atI ns i with | some d => .ok (.int d) | none => .bad
  | .str z, .int i => if z.length ≤ lim then (match atI z.cps.toList i with | some c => .ok (.str ⟨#[c]⟩) | none => .bad) else .bad
  | _, _ => .bad
theorem Reps.atI {K : PySem.W.Frag} {w : World} {F : Hp} {ds : List D} {vs : List V} {i : Int} {d : D} (r : Reps K w F ds vs) (h : atI ds i = some d) : ∃ v, L2.atI vs i = some v ∧ Rep K w F d v := by
  unfold L2.atI at h ⊢
  rw [← r.length]
  cases e : ixN ds.length i with
  | none => rw [e] at h; cases h
  | some j =>
    rw [e] at h
    exact r.get (i := j) h
theorem atI_map {α β : Type} (f : α → β) (xs : List α) (i : Int) : atI (xs.map f) i = (atI xs i).map f := by
  unfold atI
  rw [List.length_map]
  cases ixN xs.length i with
  | none => rfl
  | some j => simp
variable {a b e : Expr} {pos : Pos} {fa fb f : En → R D}
theorem re_ix (ha : RB X W a fa) (hb : RB X W b fb) (hs : PlainIx b) : RE X W (.Subscript a b pos) (f2 ixD fa fb) := fun B F0 F H σ ρ Q x hw => by
  refine ⟨_, pe_ix ix_seq (pe_W a) (pe_W b) hs, ?_⟩
  refine ha B F0 F H σ ρ _ x ((Want.bind hw).imp fun dx F1 H1 g1 k v rv => ?_)
  refine hb B F0 F1 H1 σ ρ _ (x.grow g1) ((Want.bind k).imp fun dy F2 H2 g2 k2 u ru => ?_)
  have rx := rv.grow g2
  have s := g2.fh
  unfold ixD at k2
  split at k2
  · cases ru.int
    split at k2
    · rename_i d hd
      obtain ⟨p, xs, rfl, hp, r⟩ := rx.lst s
      obtain ⟨u, e1, e2⟩ := r.atI hd
      exact .inl ⟨p, xs, _, u, rfl, rfl, SqL.of hp, e1, k2 F2 H2 (Grow.refl s) _ e2⟩
    · exact k2.elim
  · cases ru.int
    split at k2
    · rename_i d hd
      rcases rx with h | ⟨q, ys, es, e1, e2, e3, e4⟩
      · cases h with | tup h1 h2 =>
        obtain ⟨u, e1, e2⟩ := h2.atI hd
        exact .inr (.inl ⟨_, _, _, u, rfl, rfl, Same.tup s h1, e1, k2 F2 H2 (Grow.refl s) _ e2⟩)
      · cases e2
    · exact k2.elim
  · cases ru.int
    split at k2
    · rename_i d hd
      obtain ⟨p, rfl, hp⟩ := rx.scr s
      exact .inl ⟨p, _, _, _, rfl, rfl, hp, by rw [atI_map, hd]; rfl, k2 F2 H2 (Grow.refl s) _ (.int _)⟩
    · exact k2.elim
  · cases ru.int; cases rx.str
    obtain ⟨hc, k2⟩ := ifW k2
    split at k2
    · rename_i c hd
      exact .inr (.inr ⟨_, _, _, rfl, rfl, lim_le hc, hd, k2 F2 H2 (Grow.refl s) _ (.str _)⟩)
    · exact k2.elim
  · exact k2.elim

/-- a slice's bound -/
def RO (X : Cx) (W : WX) (e : Option Expr) (f : En → R (Option Int)) : Prop := ∀ B F0 F H σ ρ (Q : Option Int → Hp → Prop), EOk X.K X.w B F0 F H σ ρ →
  Want X.K X.w X.mg (f ρ) F H (fun o _ H' => Q o H') (fun C dd H' => W C dd σ H') → ∃ t, PO X e t ∧ t σ H Q
def gNo : En → R (Option Int) := fun _ => .ok none
def gSo (f : En → R D) : En → R (Option Int) := fun ρ => (f ρ).bind fun d => match d with | .int i => .ok (some i) | _ => .bad
theorem ro_none : RO X W none gNo := fun B F0 F H σ ρ Q x hw => ⟨_, po_none, hw F H (Grow.refl x.fh)⟩
theorem ro_some (h : RB X W e f) : RO X W (some e) (gSo f) := fun B F0 F H σ ρ Q x hw => by
  refine ⟨_, po_some (pe_W e), ?_⟩
  refine h B F0 F H σ ρ _ x ((Want.bind hw).imp fun d F1 H1 g1 k v rv => ?_)
  cases d with
  | int i => cases rv.int; exact ⟨i, rfl, k F1 H1 (Grow.refl g1.fh)⟩
  | _ => exact k.elim
def tO (X : Cx) (e : Option Expr) : TO := fun σ H Q => ∃ t, PO X e t ∧ t σ H Q
theorem po_W (e : Option Expr) : PO X e (tO X e) := ⟨fun pins s σ H Q I ⟨t, h, q⟩ => h.run pins s σ H Q I q⟩
/-- the items of a slice -/
def cutL {α : Type} (xs : List α) (lo hi : Option Int) : List α := (xs.drop (HT.sIx xs.length 0 lo)).take (HT.sIx xs.length xs.length hi - HT.sIx xs.length 0 lo)
theorem cutL_map {α β : Type} (f : α → β) (xs : List α) (lo hi : Option Int) : cutL (xs.map f) lo hi = (cutL xs lo hi).map f := by
  unfold cutL
  rw [List.length_map, List.map_take, List.map_drop]
def slL (d : D) (lo hi : Option Int) : R (List D) := match d with
  | .lst ds => .ok (cutL ds lo hi)
  | .scr ns => .ok ((cutL ns lo hi).map .int)
  | _ => .bad
def fSl (f : En → R D) (l h : En → R (Option Int)) : En → R (List D) := fun ρ => (f ρ).bind fun d => (l ρ).bind fun lo => (h ρ).bind fun hi => slL d lo hi
variable {lo hi : Option Expr} {p2 : Pos} {fl fh : En → R (Option Int)}
theorem rf_sl (ha : RB X W a fa) (hl : RO X W lo fl) (hh : RO X W hi fh) : RF X W (.Subscript a (.Slice lo hi none p2) pos) (fSl fa fl fh) := fun B F0 F H σ ρ Q x hw => by
  refine ⟨_, pe_slice sl_list (pe_W a) (po_W lo) (po_W hi), ?_⟩
  refine ha B F0 F H σ ρ _ x ?_
  replace hw : Want X.K X.w X.mg ((fa ρ).bind fun d => (fl ρ).bind fun lo => (fh ρ).bind fun hi => slL d lo hi) F H _ _ := hw
  refine Want.imp (Want.bind hw) fun d F1 H1 g1 k v rv => ?_
  refine hl B F0 F1 H1 σ ρ _ (x.grow g1) ((Want.bind k).imp fun l F2 H2 g2 k2 => ?_)
  refine hh B F0 F2 H2 σ ρ _ ((x.grow g1).grow g2) ((Want.bind k2).imp fun h F3 H3 g3 k3 => ?_)
  have rx := (rv.grow g2).grow g3
  have s := g3.fh
  unfold slL at k3
  have g := (g1.trans g2).trans g3
  split at k3
  · rename_i ds
    obtain ⟨q, ys, rfl, e3, e4⟩ := rx.lst s
    refine ⟨_, _, rfl, SqL.of e3, fun p hp => ?_⟩
    refine k3 F3 _ ((Grow.refl s).lay hp) p _ (g.hh.free hp) (s.free hp) upd_same ?_
    unfold cutL cutV
    rw [← e4.length]
    exact (e4.drop _).take _
  · rename_i ns
    obtain ⟨q, rfl, hq⟩ := rx.scr s
    refine ⟨_, _, rfl, hq, fun p hp => ?_⟩
    refine k3 F3 _ ((Grow.refl s).lay hp) p _ (g.hh.free hp) (s.free hp) upd_same ?_
    show Reps _ _ _ _ (cutL (ns.map V.int) l h)
    rw [cutL_map]
    exact Reps.ints _
  · exact k3.elim
def revL (d : D) : R (List D) := match d with
  | .lst ds => .ok ds.reverse
  | _ => .bad
def fRev (f : En → R D) : En → R (List D) := fun ρ => (f ρ).bind revL
theorem rf_rev {k : Nat} {p1 p2 p3 : Pos} (ha : RB X W a fa) : RF X W (.Subscript a (.Slice none none (some (.UnaryOp .USub (.Constant (.int 1) k p1) p2)) p3) pos) (fRev fa) := fun B F0 F H σ ρ Q x hw => by
  refine ⟨_, pe_revL (pe_W a), ?_⟩
  refine ha B F0 F H σ ρ _ x ((Want.bind (r := fa ρ) (f := revL) hw).imp fun d F1 H1 g1 k v rv => ?_)
  have s := g1.fh
  unfold revL at k
  split at k
  · rename_i ds
    obtain ⟨q, ys, rfl, e3, e4⟩ := rv.lst s
    exact ⟨_, _, rfl, SqL.of e3, fun p hp => k F1 _ ((Grow.refl s).lay hp) p _ (g1.hh.free hp) (s.free hp) upd_same e4.reverse⟩
  · exact k.elim
end
end Pc
set_option maxHeartbeats 4000000
namespace Pc
open PySem L2

/-! ### what is walked -/
/-- J yields the data ds, one after another, in every heap that has grown from F, H so that F stands -/
def ItD (K : PySem.W.Frag) (w : World) (J : It) (F0 : Hp) (ds : List D) : Prop := ∀ (i : Nat) (F H : Hp), Same F0 F → Same F H →
  (∀ d, ds[i]? = some d → J.go i H ∧ ∀ x H', J.yld i H x H' → ∃ F', Grow F H F' H' ∧ Rep K w F' d x) ∧ (i = ds.length → J.stop i H)
def RI (X : Cx) (W : WX) (tg e : Expr) (f : En → R (List D)) : Prop := ∀ B F0 F H σ ρ (Q : It → Hp → Prop), EOk X.K X.w B F0 F H σ ρ →
  Want X.K X.w X.mg (f ρ) F H (fun ds F' H' => ∀ J, ItD X.K X.w J F' ds → Q J H') (fun C dd H' => W C dd σ H') → WI X tg e σ H Q
section
variable {X : Cx} {W : WX} {tg e a b : Expr} {pos p : Pos} {f fa fb : En → R D} {fs : En → R (List D)}
theorem itd_list {K : PySem.W.Frag} {w : World} {F : Hp} {l : Addr} {xs : List V} {ds : List D} (h : F l = some (.lst xs)) (r : Reps K w F ds xs) : ItD K w (Itl K l) F ds := fun i F' H s1 s2 => by
  have hl : SqL K H l xs := SqL.of (s2 _ _ (s1 _ _ h))
  refine ⟨fun d hd => ?_, fun hi => ⟨xs, hl, by rw [← r.length, hi]; exact Nat.le_refl _⟩⟩
  obtain ⟨v, e1, e2⟩ := r.get hd
  refine ⟨⟨xs, v, hl, e1⟩, fun x H' y => ?_⟩
  obtain ⟨rfl, y⟩ := y
  have := y xs hl
  rw [e1] at this
  cases this
  exact ⟨F', Grow.refl s2, Rep.mono s1 _ _ e2⟩
theorem itd_scr {K : PySem.W.Frag} {w : World} {F : Hp} {l : Addr} {ns : List Int} (h : SqL K F l (ns.map V.int)) : ItD K w (Itl K l) F (ns.map .int) := fun i F' H s1 s2 => by
  have hl : SqL K H l (ns.map V.int) := (s1.trans s2).seq h
  refine ⟨fun d hd => ?_, fun hi => ⟨_, hl, by rw [hi]; simp⟩⟩
  rw [List.getElem?_map, Option.map_eq_some_iff] at hd
  obtain ⟨n, e1, rfl⟩ := hd
  have e2 : (ns.map V.int)[i]? = some (.int n) := by rw [List.getElem?_map, e1]; rfl
  refine ⟨⟨_, _, hl, e2⟩, fun x H' y => ?_⟩
  obtain ⟨rfl, y⟩ := y
  have := y _ hl
  rw [e2] at this
  cases this
  exact ⟨F', Grow.refl s2, .int _⟩
theorem itd_tup {K : PySem.W.Frag} {w : World} {F : Hp} {l : Addr} {xs : List V} {ds : List D} (h : SqT K F l xs) (r : Reps K w F ds xs) : ItD K w (Itt K l) F ds := fun i F' H s1 s2 => by
  have hl : SqT K H l xs := Same.tup (s1.trans s2) h
  refine ⟨fun d hd => ?_, fun hi => ⟨xs, hl, by rw [← r.length, hi]; exact Nat.le_refl _⟩⟩
  obtain ⟨v, e1, e2⟩ := r.get hd
  refine ⟨⟨xs, v, hl, e1⟩, fun x H' y => ?_⟩
  obtain ⟨rfl, y⟩ := y
  have := y xs hl
  rw [e1] at this
  cases this
  exact ⟨F', Grow.refl s2, Rep.mono s1 _ _ e2⟩
def signs (z : Str) : List D := z.cps.toList.map fun c => .str ⟨#[c]⟩
theorem itd_str {K : PySem.W.Frag} {w : World} {F : Hp} (z : Str) : ItD K w (Its z) F (signs z) := fun i F' H s1 s2 => by
  unfold signs
  refine ⟨fun d hd => ?_, fun hi => by rw [hi]; show z.cps.size ≤ _; simp⟩
  rw [List.getElem?_map, Option.map_eq_some_iff] at hd
  obtain ⟨c, e1, rfl⟩ := hd
  rw [Array.getElem?_toList] at e1
  refine ⟨(Array.getElem?_eq_some_iff.mp e1).1, fun x H' y => ?_⟩
  obtain ⟨rfl, c', y, rfl⟩ := y
  rw [e1] at y
  cases y
  exact ⟨F', Grow.refl s2, .str _⟩
def itD : D → R (List D)
  | .lst ds => .ok ds
  | .tup ds => .ok ds
  | .scr ns => .ok (ns.map .int)
  | .str z => .ok (signs z)
  | _ => .bad
def gIt (f : En → R D) : En → R (List D) := fun ρ => (f ρ).bind itD
/-- any expression, walked -/
theorem ri_e (h : RE X W e f) : RI X W tg e (gIt f) := fun B F0 F H σ ρ Q x hw => by
  replace hw : Want X.K X.w X.mg ((f ρ).bind itD) F H _ _ := hw
  cases hf : f ρ with
  | bad => rw [hf] at hw; exact hw.elim
  | ex y => rw [hf] at hw; exact ⟨_, pi_list (pe_W e), h B F0 F H σ ρ _ x (by rw [hf]; exact hw)⟩
  | ok d =>
    rw [hf] at hw
    have hw : Want X.K X.w X.mg (itD d) F H _ _ := hw
    cases d with
    | lst ds => exact ⟨_, pi_list (pe_W e), h B F0 F H σ ρ _ x (by
        rw [hf]; intro F' H' g v r
        cases r with | lst h1 h2 => exact ⟨_, rfl, ⟨_, SqL.of (g.fh _ _ h1)⟩, hw F' H' g _ (itd_list h1 h2)⟩)⟩
    | scr ns => exact ⟨_, pi_list (pe_W e), h B F0 F H σ ρ _ x (by
        rw [hf]; intro F' H' g v r
        cases r with | scr h1 => exact ⟨_, rfl, ⟨_, g.fh.seq h1⟩, hw F' H' g _ (itd_scr h1)⟩)⟩
    | tup ds => exact ⟨_, pi_tup (pe_W e), h B F0 F H σ ρ _ x (by
        rw [hf]; intro F' H' g v r
        cases r with | tup h1 h2 => exact ⟨_, rfl, ⟨_, Same.tup g.fh h1⟩, hw F' H' g _ (itd_tup h1 h2)⟩)⟩
    | str z => exact ⟨_, pi_str (pe_W e), h B F0 F H σ ρ _ x (by
        rw [hf]; intro F' H' g v r
        cases r; exact ⟨z, rfl, hw F' H' g _ (itd_str z)⟩)⟩
    | _ => exact hw.elim
theorem itd_range {K : PySem.W.Frag} {w : World} {F : Hp} (lo : Int) (n : Nat) : ItD K w (Itr lo n) F ((List.range n).map fun (i : Nat) => D.int (lo + (i : Int))) := fun i F' H s1 s2 => by
  refine ⟨fun d hd => ?_, fun hi => by rw [hi]; show n ≤ _; simp⟩
  rw [List.getElem?_map, Option.map_eq_some_iff] at hd
  obtain ⟨c, e1, rfl⟩ := hd
  obtain ⟨h1, e1⟩ := List.getElem?_eq_some_iff.mp e1
  rw [List.getElem_range] at e1
  subst e1
  refine ⟨by rw [List.length_range] at h1; exact h1, fun x H' y => ?_⟩
  obtain ⟨rfl, rfl⟩ := y
  exact ⟨F', Grow.refl s2, .int _⟩
def rangeL (lo hi : Int) : List D := (List.range (hi - lo).toNat).map fun (i : Nat) => D.int (lo + (i : Int))
def rng1 : List D → R (List D)
  | [.int j] => if -(2 ^ 62) ≤ j ∧ j < 2 ^ 62 then .ok (rangeL 0 j) else .bad
  | _ => .bad
def rng2 : List D → R (List D)
  | [.int i, .int j] => if -(2 ^ 62) ≤ i ∧ i < 2 ^ 62 ∧ -(2 ^ 62) ≤ j ∧ j < 2 ^ 62 then .ok (rangeL i j) else .bad
  | _ => .bad
def gR1 (fs : En → R (List D)) : En → R (List D) := fun ρ => (fs ρ).bind rng1
def gR2 (fs : En → R (List D)) : En → R (List D) := fun ρ => (fs ρ).bind rng2
theorem ri_range1 (hg : Gl X "range") (hm : X.mg "range" = none) (ha : RA X W [a] fs) (hs : starEach [a] X.env = [(false, eval a X.env)] := by rfl) : RI X W tg (.Call (.Name "range" p) [a] [] pos) (gR1 fs) := fun B F0 F H σ ρ Q x hw => by
  refine ⟨_, pi_range1 hg hm (pa_W _) hs, ?_⟩
  refine ha B F0 F H σ ρ _ x ((Want.bind (r := fs ρ) (f := rng1) hw).imp fun ds F1 H1 g1 k vs r => ?_)
  unfold rng1 at k
  split at k
  · obtain ⟨hc, k⟩ := ifW k
    cases r with | cons r1 r2 =>
    cases r1; cases r2
    refine ⟨_, rfl, hc.1, hc.2, k F1 H1 (Grow.refl g1.fh) _ ?_⟩
    unfold rangeL
    rw [Int.sub_zero]
    exact itd_range _ _
  · exact k.elim
theorem ri_range2 (hg : Gl X "range") (hm : X.mg "range" = none) (ha : RA X W [a, b] fs) (hs : starEach [a, b] X.env = [(false, eval a X.env), (false, eval b X.env)] := by rfl) (hs2 : starEach [b] X.env = [(false, eval b X.env)] := by rfl) :
    RI X W tg (.Call (.Name "range" p) [a, b] [] pos) (gR2 fs) := fun B F0 F H σ ρ Q x hw => by
  refine ⟨_, pi_range2 hg hm (pa_W _) hs hs2, ?_⟩
  refine ha B F0 F H σ ρ _ x ((Want.bind (r := fs ρ) (f := rng2) hw).imp fun ds F1 H1 g1 k vs r => ?_)
  unfold rng2 at k
  split at k
  · obtain ⟨hc, k⟩ := ifW k
    cases r with | cons r1 r2 =>
    cases r2 with | cons r2 r3 =>
    cases r1; cases r2; cases r3
    exact ⟨_, _, rfl, hc, k F1 H1 (Grow.refl g1.fh) _ (itd_range _ _)⟩
  · exact k.elim
def revI : List D → R (List D)
  | [.lst ds] => .ok ds.reverse
  | _ => .bad
def gRv (fs : En → R (List D)) : En → R (List D) := fun ρ => (fs ρ).bind revI
theorem itd_rev {K : PySem.W.Frag} {w : World} {F : Hp} {l : Addr} {xs : List V} {ds : List D} (h : F l = some (.lst xs)) (r : Reps K w F ds xs) : ItD K w (Itv K l xs.length) F ds.reverse := fun i F' H s1 s2 => by
  have hl : SqL K H l xs := SqL.of (s2 _ _ (s1 _ _ h))
  refine ⟨fun d hd => ?_, fun hi => by rw [hi]; show xs.length ≤ _; rw [List.length_reverse, r.length]; exact Nat.le_refl _⟩
  have hi : i < ds.length := by
    have := (List.getElem?_eq_some_iff.mp hd).1
    simpa using this
  rw [List.getElem?_reverse hi] at hd
  obtain ⟨v, e1, e2⟩ := r.get hd
  rw [r.length] at e1 hi
  refine ⟨⟨hi, xs, v, hl, e1⟩, fun x H' y => ?_⟩
  obtain ⟨rfl, y⟩ := y
  have := y xs hl
  rw [e1] at this
  cases this
  exact ⟨F', Grow.refl s2, Rep.mono s1 _ _ e2⟩
theorem ri_reversed (hg : Gl X "reversed") (hm : X.mg "reversed" = none) (ha : RA X W [a] fs) (hs : starEach [a] X.env = [(false, eval a X.env)] := by rfl) : RI X W tg (.Call (.Name "reversed" p) [a] [] pos) (gRv fs) := fun B F0 F H σ ρ Q x hw => by
  refine ⟨_, pi_reversed hg hm (pa_W _) hs, ?_⟩
  refine ha B F0 F H σ ρ _ x ((Want.bind (r := fs ρ) (f := revI) hw).imp fun ds F1 H1 g1 k vs r => ?_)
  unfold revI at k
  split at k
  · cases r with | cons r1 r2 =>
    cases r2
    cases r1 with | lst h1 h2 =>
    exact ⟨_, _, rfl, SqL.of (g1.fh _ _ h1), k F1 H1 (Grow.refl g1.fh) _ (itd_rev h1 h2)⟩
  · exact k.elim
/-- pairs -/
def pairs (as bs : List D) : List D := (as.zip bs).map fun p => .tup [p.1, p.2]
def zipI : List D → R (List D)
  | [.lst as, .lst bs] => .ok (pairs as bs)
  | _ => .bad
def gZip (fs : En → R (List D)) : En → R (List D) := fun ρ => (fs ρ).bind zipI
theorem itd_zip {K : PySem.W.Frag} {w : World} {F : Hp} {l m : Addr} {xs ys : List V} {as bs : List D} (h : F l = some (.lst xs)) (r : Reps K w F as xs) (h' : F m = some (.lst ys)) (r' : Reps K w F bs ys) : ItD K w (Itz K l m) F (pairs as bs) := fun i F' H s1 s2 => by
  have hl : SqL K H l xs := SqL.of (s2 _ _ (s1 _ _ h))
  have hm : SqL K H m ys := SqL.of (s2 _ _ (s1 _ _ h'))
  unfold pairs
  refine ⟨fun d hd => ?_, fun hi => ⟨xs, ys, hl, hm, ?_⟩⟩
  · rw [List.getElem?_map, Option.map_eq_some_iff] at hd
    obtain ⟨⟨a, b⟩, e1, rfl⟩ := hd
    rw [List.getElem?_zip_eq_some] at e1
    obtain ⟨v, e3, e4⟩ := r.get e1.1
    obtain ⟨u, e5, e6⟩ := r'.get e1.2
    refine ⟨⟨xs, ys, v, u, hl, hm, e3, e5⟩, fun x H' y => ?_⟩
    obtain ⟨T, x1, y1, rfl, hT, rfl, q1, q2⟩ := y
    have z1 := q1 xs hl
    rw [e3] at z1
    cases z1
    have z2 := q2 ys hm
    rw [e5] at z2
    cases z2
    have g := (Grow.refl s2).new (o := .tup [v, u]) hT
    exact ⟨_, g, .tup (.inl (.inl upd_same)) (.cons (Rep.mono (s1.trans g.ff) _ _ e4) (.cons (Rep.mono (s1.trans g.ff) _ _ e6) .nil))⟩
  · rw [hi, List.length_map, List.length_zip, ← r.length, ← r'.length]
    omega
variable {elts : List Expr} {kk : Nat} {tpos : Pos}
theorem ri_zip (hg : Gl X "zip") (hm : X.mg "zip" = none) (ha : RA X W [a, b] fs) (hs : starEach [a, b] X.env = (false, eval a X.env) :: starEach [b] X.env := by rfl) (hpl : (backTo pos (starEach [b] X.env)).any (·.1) = false := by rfl) :
    RI X W (.Tuple elts kk tpos) (.Call (.Name "zip" p) [a, b] [] pos) (gZip fs) := fun B F0 F H σ ρ Q x hw => by
  refine ⟨_, pi_zip hg hm (pa_W _) hs hpl, ?_⟩
  refine ha B F0 F H σ ρ _ x ((Want.bind (r := fs ρ) (f := zipI) hw).imp fun ds F1 H1 g1 k vs r => ?_)
  unfold zipI at k
  split at k
  · cases r with | cons r1 r2 =>
    cases r2 with | cons r2 r3 =>
    cases r3
    cases r1 with | lst h1 h2 =>
    cases r2 with | lst h3 h4 =>
    exact ⟨_, _, _, _, rfl, SqL.of (g1.fh _ _ h1), SqL.of (g1.fh _ _ h3), k F1 H1 (Grow.refl g1.fh) _ (itd_zip h1 h2 h3 h4)⟩
  · exact k.elim
def enumL (as : List D) : List D := (List.range as.length).zip as |>.map fun p => .tup [.int (p.1 : Nat), p.2]
def enumI : List D → R (List D)
  | [.lst as] => .ok (enumL as)
  | _ => .bad
def gEnum (fs : En → R (List D)) : En → R (List D) := fun ρ => (fs ρ).bind enumI
theorem itd_enum {K : PySem.W.Frag} {w : World} {F : Hp} {l : Addr} {xs : List V} {as : List D} (h : F l = some (.lst xs)) (r : Reps K w F as xs) : ItD K w (Ite K l) F (enumL as) := fun i F' H s1 s2 => by
  have hl : SqL K H l xs := SqL.of (s2 _ _ (s1 _ _ h))
  unfold enumL
  refine ⟨fun d hd => ?_, fun hi => ⟨xs, hl, ?_⟩⟩
  · rw [List.getElem?_map, Option.map_eq_some_iff] at hd
    obtain ⟨⟨a, b⟩, e1, rfl⟩ := hd
    rw [List.getElem?_zip_eq_some] at e1
    obtain ⟨v, e3, e4⟩ := r.get e1.2
    obtain ⟨q1, q2⟩ := List.getElem?_eq_some_iff.mp e1.1
    rw [List.getElem_range] at q2
    subst q2
    refine ⟨⟨xs, v, hl, e3⟩, fun x H' y => ?_⟩
    obtain ⟨T, x1, rfl, hT, rfl, q1⟩ := y
    have z1 := q1 xs hl
    rw [e3] at z1
    cases z1
    have g := (Grow.refl s2).new (o := .tup [.int (i : Nat), v]) hT
    exact ⟨_, g, .tup (.inl (.inl upd_same)) (.cons (.int _) (.cons (Rep.mono (s1.trans g.ff) _ _ e4) .nil))⟩
  · rw [hi, List.length_map, List.length_zip, List.length_range, ← r.length]
    omega
theorem ri_enum (hg : Gl X "enumerate") (hm : X.mg "enumerate" = none) (ha : RA X W [a] fs) (hs : starEach [a] X.env = [(false, eval a X.env)] := by rfl) : RI X W (.Tuple elts kk tpos) (.Call (.Name "enumerate" p) [a] [] pos) (gEnum fs) := fun B F0 F H σ ρ Q x hw => by
  refine ⟨_, pi_enum hg hm (pa_W _) hs, ?_⟩
  refine ha B F0 F H σ ρ _ x ((Want.bind (r := fs ρ) (f := enumI) hw).imp fun ds F1 H1 g1 k vs r => ?_)
  unfold enumI at k
  split at k
  · cases r with | cons r1 r2 =>
    cases r2
    cases r1 with | lst h1 h2 =>
    exact ⟨_, _, rfl, SqL.of (g1.fh _ _ h1), k F1 H1 (Grow.refl g1.fh) _ (itd_enum h1 h2)⟩
  · exact k.elim
end

/-! ### targets -/
def RG (X : Cx) (tg : Expr) (ts : List Nat) (g : D → En → R En) : Prop := ∀ B F0 F H σ ρ d v (Q : St → Hp → Prop), EOk X.K X.w B F0 F H σ ρ → Rep X.K X.w F d v →
  (match g d ρ with
    | .ok ρ' => ∀ σ', EOk X.K X.w B F0 F H σ' ρ' → (∀ vs : List Nat, (∀ i ∈ ts, i ∈ vs) → wipe σ' vs = wipe σ vs) → Q σ' H
    | _ => False) → WG X tg v σ H Q
def tName (i : Nat) : D → En → R En := fun d ρ => .ok (ρ.set i (some (d, false)))
theorem wipe_get {σ : St} : ∀ {vs : List Nat} {j : Nat}, (wipe σ vs)[j]? = if j ∈ vs then (if j < σ.length then some none else none) else σ[j]?
  | [], j => by simp [wipe]
  | v :: vs, j => by
    unfold wipe
    rw [List.getElem?_set, wipe_get (vs := vs), wipe_length]
    by_cases h : v = j
    · subst h; simp
    · have h2 : j ≠ v := fun e => h e.symm
      simp [h, h2]
theorem wipe_set {σ : St} {i : Nat} {x : Option V} {vs : List Nat} (h : i ∈ vs) : wipe (σ.set i x) vs = wipe σ vs := by
  apply List.ext_getElem?
  intro j
  rw [wipe_get, wipe_get, List.length_set]
  by_cases hj : j ∈ vs
  · rw [if_pos hj, if_pos hj]
  · rw [if_neg hj, if_neg hj, List.getElem?_set_ne (fun e => hj (by rw [← e]; exact h))]
section
variable {X : Cx} {pos : Pos}
theorem rg_name {i : Nat} {x : Str} (hN : X.N.Nodup) (hi : X.N[i]? = some x) (hx : Loc X.env.scope x) (hf : X.fn x = true ∨ X.env.scope.names.lookup x = some .local := by first | exact .inl rfl | exact .inr rfl | assumption) : RG X (.Name x pos) [i] (tName i) :=
  fun B F0 F H σ ρ d v Q x r h => ⟨_, pg_name hN hi hx hf, h _ (x.set r) fun vs hv => wipe_set (hv i (List.mem_singleton.mpr rfl))⟩
/-- several targets -/
def RGs (X : Cx) (tgs : List Expr) (ts : List Nat) (g : List D → En → R En) : Prop := ∀ B F0 F H σ ρ ds vs (Q : St → Hp → Prop), EOk X.K X.w B F0 F H σ ρ → Reps X.K X.w F ds vs →
  (match g ds ρ with
    | .ok ρ' => ∀ σ', EOk X.K X.w B F0 F H σ' ρ' → (∀ vs : List Nat, (∀ i ∈ ts, i ∈ vs) → wipe σ' vs = wipe σ vs) → Q σ' H
    | _ => False) → ∃ t, PGs X tgs t ∧ t vs σ H Q
def tsNil : List D → En → R En
  | [], ρ => .ok ρ
  | _, _ => .bad
def tsCons (g : D → En → R En) (gs : List D → En → R En) : List D → En → R En
  | d :: ds, ρ => (g d ρ).bind (gs ds)
  | _, _ => .bad
theorem rgs_nil : RGs X [] [] tsNil := fun B F0 F H σ ρ ds vs Q x r h => by
  refine ⟨_, pgs_nil, ?_⟩
  cases r with
  | nil => exact ⟨rfl, h σ x fun _ _ => rfl⟩
  | cons _ _ => exact h.elim
def wGs (X : Cx) (tgs : List Expr) : TGs := fun vs σ H Q => ∃ t, PGs X tgs t ∧ t vs σ H Q
theorem pgs_W (tgs : List Expr) : PGs X tgs (wGs X tgs) := ⟨fun pins s σ H vs us Q I r ⟨t, h, q⟩ => h.run pins s σ H vs us Q I r q⟩
theorem rgs_cons {e : Expr} {es : List Expr} {t ts : List Nat} {g : D → En → R En} {gs : List D → En → R En} (h1 : RG X e t g) (h2 : RGs X es ts gs)
    (hs : (assignEach (e :: es) X.env).map (·.2) = assign e X.env :: (assignEach es X.env).map (·.2) := by rfl) : RGs X (e :: es) (t ++ ts) (tsCons g gs) := fun B F0 F H σ ρ ds vs Q x r h => by
  refine ⟨_, pgs_cons (pg_W e) (pgs_W es) hs, ?_⟩
  cases r with
  | nil => exact h.elim
  | @cons d ds v vs r1 r2 =>
    refine ⟨v, vs, rfl, ?_⟩
    refine h1 B F0 F H σ ρ d v _ x r1 ?_
    replace h : (match (g d ρ).bind (gs ds) with
      | .ok ρ' => ∀ σ', EOk X.K X.w B F0 F H σ' ρ' → (∀ vs : List Nat, (∀ i ∈ t ++ ts, i ∈ vs) → wipe σ' vs = wipe σ vs) → Q σ' H
      | _ => False) := h
    cases hg : g d ρ with
    | ok ρ1 =>
      rw [hg] at h
      intro σ1 x1 w1
      refine h2 B F0 F H σ1 ρ1 ds vs Q x1 r2 ?_
      replace h : (match gs ds ρ1 with
        | .ok ρ' => ∀ σ', EOk X.K X.w B F0 F H σ' ρ' → (∀ vs : List Nat, (∀ i ∈ t ++ ts, i ∈ vs) → wipe σ' vs = wipe σ vs) → Q σ' H
        | _ => False) := h
      cases hg2 : gs ds ρ1 with
      | ok ρ2 =>
        rw [hg2] at h
        intro σ2 x2 w2
        exact h σ2 x2 fun vs hv => (w2 vs fun i hi => hv i (List.mem_append_right _ hi)).trans (w1 vs fun i hi => hv i (List.mem_append_left _ hi))
      | ex y => rw [hg2] at h; exact h
      | bad => rw [hg2] at h; exact h
    | ex y => rw [hg] at h; exact h
    | bad => rw [hg] at h; exact h
def tTup (n : Nat) (gs : List D → En → R En) : D → En → R En
  | .tup ds, ρ => if ds.length = n then gs ds ρ else .bad
  | _, _ => .bad
theorem rg_tup {es : List Expr} {k : Nat} {n : Nat} {ts : List Nat} {gs : List D → En → R En} (hc : X.calm = true) (h : RGs X es ts gs)
    (hn : (assignEach es X.env).length = n := by rfl) (hst : (assignEach es X.env).findIdx? (·.1) = none := by rfl) : RG X (.Tuple es k pos) ts (tTup n gs) := fun B F0 F H σ ρ d v Q x r hw => by
  refine ⟨_, pg_tup hc (pgs_W es) hn hst, ?_⟩
  cases d with
  | tup ds =>
    cases r with | tup h1 h2 =>
    by_cases hl : ds.length = n
    · refine ⟨_, _, rfl, Same.tup x.fh h1, by rw [← h2.length]; exact hl, h B F0 F H σ ρ ds _ Q x h2 ?_⟩
      have e : tTup n gs (.tup ds) ρ = gs ds ρ := if_pos hl
      rw [← e]
      exact hw
    · have e : tTup n gs (.tup ds) ρ = .bad := if_neg hl
      rw [e] at hw
      exact hw.elim
  | _ => exact hw.elim
end
end Pc
set_option maxHeartbeats 4000000
namespace Pc
open PySem L2

/-! ### list comprehensions -/
def wipeE (ρ : En) : List Nat → En
  | [] => ρ
  | v :: vs => (wipeE ρ vs).set v none
theorem wipeE_length (ρ : En) : ∀ vs : List Nat, (wipeE ρ vs).length = ρ.length
  | [] => rfl
  | v :: vs => by unfold wipeE; rw [List.length_set, wipeE_length ρ vs]
theorem wipeE_some {ρ : En} {i : Nat} {x : D × Bool} : ∀ {vs : List Nat}, (wipeE ρ vs)[i]? = some (some x) → ρ[i]? = some (some x) ∧ i ∉ vs
  | [], h => ⟨h, by simp⟩
  | v :: vs, h => by
    unfold wipeE at h
    rcases getElem?_set_cases h with ⟨_, e, _⟩ | ⟨e1, e2⟩
    · cases e
    obtain ⟨h1, h2⟩ := wipeE_some e2
    exact ⟨h1, by simp only [List.mem_cons, not_or]; exact ⟨fun e => e1 e.symm, h2⟩⟩
theorem EOk.wipe {K : PySem.W.Frag} {w : World} {B F0 F H : Hp} {σ : St} {ρ : En} (x : EOk K w B F0 F H σ ρ) (vs : List Nat) : EOk K w B F0 F H (wipe σ vs) (wipeE ρ vs) := by
  have key : ∀ (i : Nat), i ∉ vs → (L2.wipe σ vs)[i]? = σ[i]? := fun i hi => by rw [wipe_get, if_neg hi]
  refine ⟨x.g, by rw [wipe_length, wipeE_length]; exact x.ln, fun i d o e => ?_, fun i j d e v n h1 h2 h3 h4 => ?_⟩
  · obtain ⟨e1, e2⟩ := wipeE_some e
    obtain ⟨v, e3, e4⟩ := x.sl i d o e1
    exact ⟨v, by rw [key i e2]; exact e3, e4⟩
  · obtain ⟨e1, e2⟩ := wipeE_some h1
    obtain ⟨e1', e2'⟩ := wipeE_some h2
    rw [key i e2] at h3
    rw [key j e2'] at h4
    exact x.ds i j d e v n e1 e1' h3 h4
def lcGo (tgt : D → En → R En) (tt : En → R Bool) (el : En → R D) (ρ : En) : List D → List D → R (List D)
  | [], acc => .ok acc
  | d :: ds, acc => match tgt d ρ with
    | .ok ρ1 => match tt ρ1 with
      | .ok true => match el ρ1 with
        | .ok y => if acc.length < lim then lcGo tgt tt el ρ ds (acc ++ [y]) else .bad
        | _ => .bad
      | .ok false => lcGo tgt tt el ρ ds acc
      | _ => .bad
    | _ => .bad
def fLc (own : List Nat) (it : En → R (List D)) (tgt : D → En → R En) (tt : En → R Bool) (el : En → R D) : En → R (List D) := fun ρ => (it ρ).bind fun ds => lcGo tgt tt el (wipeE ρ own) ds []
def gYes : En → R Bool := fun _ => .ok true
/-- the tests of a clause -/
def RP (X : Cx) (W : WX) (es : List Expr) (f : En → R Bool) : Prop := ∀ B F0 F H σ ρ (Q : Bool → Hp → Prop), EOk X.K X.w B F0 F H σ ρ →
  Want X.K X.w X.mg (f ρ) F H (fun b _ H' => Q b H') (fun C dd H' => W C dd σ H') → WPs X es σ H Q
section
variable {X : Cx} {W : WX}
theorem rp_nil : RP X W [] gYes := fun B F0 F H σ ρ Q x hw => ⟨_, pts_nil, hw F H (Grow.refl x.fh)⟩
theorem rp_one {c : Expr} {f : En → R Bool} (h : RT X W c f) : RP X W [c] f := fun B F0 F H σ ρ Q x hw => ⟨_, pts_one (pt_W c), h B F0 F H σ ρ Q x hw⟩
abbrev WF : WX := fun _ _ _ _ => False
variable {elt tg iter : Expr} {ifs : List Expr} {scope : Scope} {own : List (Str × Nat)} {pos : Pos} {it : En → R (List D)} {tgt : D → En → R En} {tt : En → R Bool} {el : En → R D} {ts : List Nat}
/-- the loop of a comprehension -/
theorem lc_run {B F0 F H : Hp} {σ : St} {ρ : En} {W : WX} {vs : List Nat} {Q : VK} (hts : ∀ i ∈ ts, i ∈ vs) (x : EOk X.K X.w B F0 F H σ ρ)
    (hi : RI X W tg iter it) {g : TG} {t : TT} {e : TE}
    (hg : ∀ B F0 F H σ ρ d v (Q : St → Hp → Prop), EOk X.K X.w B F0 F H σ ρ → Rep X.K X.w F d v → (match tgt d ρ with
      | .ok ρ' => ∀ σ', EOk X.K X.w B F0 F H σ' ρ' → (∀ vs : List Nat, (∀ i ∈ ts, i ∈ vs) → wipe σ' vs = wipe σ vs) → Q σ' H
      | _ => False) → g v σ H Q)
    (ht : ∀ B F0 F H σ ρ (Q : Bool → Hp → Prop), EOk X.K X.w B F0 F H σ ρ → Want X.K X.w X.mg (tt ρ) F H (fun b _ H' => Q b H') (fun _ _ _ => False) → t σ H Q)
    (he : ∀ B F0 F H σ ρ (Q : VK), EOk X.K X.w B F0 F H σ ρ → Want X.K X.w X.mg (el ρ) F H (fun d F' H' => ∀ v, Rep X.K X.w F' d v → Q v H') (fun _ _ _ => False) → e σ H Q)
    (hw : Want X.K X.w X.mg (fLc vs it tgt tt el ρ) F H (fun ds F' H' => ∀ p xs, H p = none → F' p = none → H' p = some (.lst xs) → Reps X.K X.w F' ds xs → Q (.ref p) H') (fun C dd H' => W C dd σ H')) :
    tLc (WI X tg iter) g t e vs σ H Q := by
  refine hi B F0 F H σ ρ _ x ?_
  replace hw : Want X.K X.w X.mg ((it ρ).bind fun ds => lcGo tgt tt el (wipeE ρ vs) ds []) F H (fun ds F' H' => ∀ p xs, H p = none → F' p = none → H' p = some (.lst xs) → Reps X.K X.w F' ds xs → Q (.ref p) H') (fun C dd H' => W C dd σ H') := hw
  refine (Want.bind hw).imp fun ds F1 H1 g1 k J hJ L hL => ?_
  -- the list at L holds what is made so far
  refine ⟨fun i m H' => m = ds.length - i ∧ i ≤ ds.length ∧ ∃ F' acc xs, Grow F1 H1 F' H' ∧ H' L = some (.lst xs) ∧ F' L = none ∧ Reps X.K X.w F' acc xs ∧
    Want X.K X.w X.mg (lcGo tgt tt el (wipeE ρ vs) (ds.drop i) acc) F1 H1 (fun ds F' H' => ∀ p xs, H p = none → F' p = none → H' p = some (.lst xs) → Reps X.K X.w F' ds xs → Q (.ref p) H') (fun C dd H' => W C dd σ H'), ⟨ds.length, by simp, Nat.zero_le _, F1, [], [], (Grow.refl g1.fh).lay hL, upd_same, g1.freeF hL, .nil, by rw [List.drop_zero]; exact k⟩, ?_⟩
  rintro i m H' ⟨rfl, hle, F', acc, xs, gg, hl, hf, r, kk⟩
  obtain ⟨j1, j2⟩ := hJ i F' H' gg.ff gg.fh
  by_cases hi' : i = ds.length
  · left
    refine ⟨j2 hi', ?_⟩
    rw [hi', List.drop_length] at kk
    exact kk F' H' gg L xs (g1.hh.free hL) hf hl r
  · right
    have hlt : i < ds.length := by omega
    obtain ⟨go, yl⟩ := j1 ds[i] (List.getElem?_eq_getElem hlt)
    refine ⟨go, fun H'' => ∃ F' acc xs, Grow F1 H1 F' H'' ∧ H'' L = some (.lst xs) ∧ F' L = none ∧ Reps X.K X.w F' acc xs ∧
      Want X.K X.w X.mg (lcGo tgt tt el (wipeE ρ vs) (ds.drop (i + 1)) acc) F1 H1 (fun ds F' H' => ∀ p xs, H p = none → F' p = none → H' p = some (.lst xs) → Reps X.K X.w F' ds xs → Q (.ref p) H') (fun C dd H' => W C dd σ H'), fun H'' q => ⟨ds.length - (i + 1), by omega, rfl, hlt, q⟩, fun y H2 hy => ?_⟩
    obtain ⟨F2, g2, ry⟩ := yl y H2 hy
    rw [List.drop_eq_getElem_cons hlt] at kk
    unfold lcGo at kk
    have X0 := ((x.grow g1).wipe vs).grow (gg.trans g2)
    have notL : ∀ {F3 H3 : Hp}, Grow F' H' F3 H3 → F3 L = none := fun {F3 H3} g3 => by
      cases q : F3 L with
      | none => rfl
      | some o => rw [g3.nw L o q (by rw [hl]; simp)] at hf; cases hf
    refine hg B F0 F2 H2 (wipe σ vs) (wipeE ρ vs) ds[i] y _ X0 ry ?_
    cases hq : tgt ds[i] (wipeE ρ vs) with
    | ex _ => rw [hq] at kk; exact kk.elim
    | bad => rw [hq] at kk; exact kk.elim
    | ok ρ1 =>
      rw [hq] at kk
      dsimp only at kk
      intro σ1 x1 w1
      refine ⟨by
        have := w1 vs hts
        rw [this]
        apply List.ext_getElem?
        intro j
        rw [wipe_get, wipe_get, wipe_length]
        by_cases h : j ∈ vs <;> simp [h], ?_⟩
      refine ht B F0 F2 H2 σ1 ρ1 _ x1 ?_
      cases hb : tt ρ1 with
      | ex _ => rw [hb] at kk; exact kk.elim
      | bad => rw [hb] at kk; exact kk.elim
      | ok b =>
        rw [hb] at kk
        intro F3 H3 g3
        cases b with
        | false => exact ⟨F3, acc, xs, (gg.trans g2).trans g3, g3.hh _ _ (g2.hh _ _ hl), notL (g2.trans g3), Reps.mono (g2.ff.trans g3.ff) _ _ r, kk⟩
        | true =>
          dsimp only at kk
          refine he B F0 F3 H3 σ1 ρ1 _ (x1.grow g3) ?_
          cases hy : el ρ1 with
          | ex _ => rw [hy] at kk; exact kk.elim
          | bad => rw [hy] at kk; exact kk.elim
          | ok z =>
            rw [hy] at kk
            obtain ⟨hc, kk⟩ := ifW kk
            intro F4 H4 g4 v rv
            have g5 := (g2.trans g3).trans g4
            have f4 : F4 L = none := notL g5
            refine ⟨xs, g5.hh _ _ hl, by rw [← r.length]; exact Nat.lt_of_lt_of_le hc (by decide), F4, acc ++ [z], xs ++ [v], ?_, upd_same, f4, (Reps.mono g5.ff _ _ r).append (.cons rv .nil), kk⟩
            have g6 := gg.trans g5
            refine ⟨g6.ff, fun a o e => ?_, fun a o e => ?_, g6.nw⟩
            · rw [upd_ne (ne_of_none e f4)]; exact g6.fh _ _ e
            · rw [upd_ne (ne_of_none e hL)]; exact g6.hh _ _ e
/-- a comprehension: a new list -/
theorem rf_lc (hc : X.calm = true) (hN : X.N.Nodup) (hi : RI X W tg iter it) (ok : BlkOk X.N X.env.scope scope own)
    (hg : ∀ (s : Shared) (H : Hp) (C : Addr) (cl : List (Str × Addr)) (fp : List Addr), RG (X.blk s H scope (compEnvC scope cl C X.env) fp) tg ts tgt)
    (ht : ∀ (s : Shared) (H : Hp) (C : Addr) (cl : List (Str × Addr)) (fp : List Addr), RP (X.blk s H scope (compEnvC scope cl C X.env) fp) WF ifs tt)
    (he : ∀ (s : Shared) (H : Hp) (C : Addr) (cl : List (Str × Addr)) (fp : List Addr), RE (X.blk s H scope (compEnvC scope cl C X.env) fp) WF elt el)
    (hts : ∀ i ∈ ts, i ∈ own.map (·.2)) (hs : ∀ x, foldedSetIterable iter X.env x = pure x := by intro _; rfl) :
    RF X W (.ListComp elt [⟨tg, iter, ifs, 0⟩] scope pos) (fLc (own.map (·.2)) it tgt tt el) := fun B F0 F H σ ρ Q x hw => by
  refine ⟨_, pe_lc (g := fun v σ H Q => ∀ (s : Shared) (H1 : Hp) (C : Addr) (cl : List (Str × Addr)) (fp : List Addr), WG (X.blk s H1 scope (compEnvC scope cl C X.env) fp) tg v σ H Q)
    (tt := fun σ H Q => ∀ (s : Shared) (H1 : Hp) (C : Addr) (cl : List (Str × Addr)) (fp : List Addr), WPs (X.blk s H1 scope (compEnvC scope cl C X.env) fp) ifs σ H Q)
    (te := fun σ H Q => ∀ (s : Shared) (H1 : Hp) (C : Addr) (cl : List (Str × Addr)) (fp : List Addr), WE (X.blk s H1 scope (compEnvC scope cl C X.env) fp) elt σ H Q)
    hc hN (pi_W tg iter) ok (fun s H C cl fp => ⟨fun pins s' σ H' v u Q I r q => (pg_W _).run pins s' σ H' v u Q I r (q s H C cl fp)⟩) (fun s H C cl fp => ⟨fun pins s' σ H' Q I q => (pts_W _).run pins s' σ H' Q I (q s H C cl fp)⟩)
    (fun s H C cl fp => ⟨fun pins s' σ H' Q I q => (pe_W _).run pins s' σ H' Q I (q s H C cl fp)⟩) hs, ?_⟩
  exact lc_run hts x hi (fun B F0 F H σ ρ d v Q x r k s H1 C cl fp => hg s H1 C cl fp B F0 F H σ ρ d v Q x r k) (fun B F0 F H σ ρ Q x k s H1 C cl fp => ht s H1 C cl fp B F0 F H σ ρ Q x k)
    (fun B F0 F H σ ρ Q x k s H1 C cl fp => he s H1 C cl fp B F0 F H σ ρ Q x k) hw
end
end Pc
set_option maxHeartbeats 4000000
namespace Pc
open PySem L2

/-! ### statements -/
section
variable {X : Cx} {W : WX} {B F0 F H : Hp} {Z : Ends}
theorem Grow.rebase {F0 B F H F1 H1 : Hp} (a : Grow F0 B F H) (b : Grow F B F1 H1) : Grow F0 B F1 H1 :=
  ⟨a.ff.trans b.ff, b.fh, b.hh, fun x o e n => a.nw x o (b.nw x o e n) n⟩
theorem EOk.rebase {K : PySem.W.Frag} {w : World} {σ : St} {ρ : En} {F1 H1 : Hp} (a : Grow F0 B F H) (x : EOk K w B F F1 H1 σ ρ) : EOk K w B F0 F1 H1 σ ρ := ⟨a.rebase x.g, x.ln, x.sl, x.ds⟩
theorem EOk.base {K : PySem.W.Frag} {w : World} {σ : St} {ρ : En} (x : EOk K w B F0 F H σ ρ) : EOk K w B F F H σ ρ := ⟨⟨Same.refl _, x.g.fh, x.g.hh, fun _ _ e _ => e⟩, x.ln, x.sl, x.ds⟩
theorem WantS.rebase {r : R O} (a : Grow F0 B F H) (h : WantS X W B F0 r Z) : WantS X W B F r Z := by
  cases r with
  | ok o =>
    cases o with
    | nx ρ => exact fun σ F1 H1 x => h σ F1 H1 (x.rebase a)
    | bk ρ => exact fun σ F1 H1 x => h σ F1 H1 (x.rebase a)
    | ct ρ => exact fun σ F1 H1 x => h σ F1 H1 (x.rebase a)
    | rt d => exact fun v F1 H1 g r => h v F1 H1 (a.rebase g) r
  | ex x => exact fun C dd σ F1 H1 g e => h C dd σ F1 H1 (a.rebase g) e
  | bad => exact h
/-- a result ahead of a statement's end -/
theorem WantS.want {α : Type} {r : R α} {f : α → R O} {σ : St} {ρ : En} (x : EOk X.K X.w B F0 F H σ ρ) (h : WantS X W B F0 (r.bind f) Z) : Want X.K X.w X.mg r F H (fun a F' H' => Grow F H F' H' ∧ WantS X W B F0 (f a) Z) (fun C dd H' => W C dd σ H') := by
  cases r with
  | ok a => exact fun F' H' g => ⟨g, h⟩
  | ex y => exact fun C dd F' H' g e => h C dd σ F' H' (x.g.trans g) e
  | bad => exact h
variable {st : Stmt} {rest sts : List Stmt} {f g : En → R O} {e : Expr} {fe : En → R D} {pos : Pos}
def sNx : En → R O := fun ρ => .ok (.nx ρ)
def sSeq (f g : En → R O) : En → R O := fun ρ => (f ρ).bind fun o => match o with
  | .nx ρ' => g ρ'
  | o => .ok o
theorem rss_nil : RSs X W [] sNx := fun B F0 F H σ ρ Z x hw => ⟨_, pss_nil, hw σ F H x⟩
theorem rss_cons (h1 : RS X W st f) (h2 : RSs X W rest g) : RSs X W (st :: rest) (sSeq f g) := fun B F0 F H σ ρ Z x hw => by
  refine ⟨_, pss_cons (ps_W st) (pss_W rest), ?_⟩
  refine h1 B F0 F H σ ρ _ x ?_
  replace hw : WantS X W B F0 ((f ρ).bind fun o => match o with | .nx ρ' => g ρ' | o => .ok o) Z := hw
  cases hf : f ρ with
  | ok o =>
    rw [hf] at hw
    cases o with
    | nx ρ' => exact fun σ' F' H' x' => h2 B F0 F' H' σ' ρ' Z x' hw
    | bk ρ' => exact hw
    | ct ρ' => exact hw
    | rt d => exact hw
  | ex y => rw [hf] at hw; exact hw
  | bad => rw [hf] at hw; exact hw
theorem rss_one (h1 : RS X W st f) : RSs X W [st] f := fun B F0 F H σ ρ Z x hw => ⟨_, pss_one (ps_W st), h1 B F0 F H σ ρ Z x hw⟩
/-- slots whose lists are their own no more -/
def sFrz (is : List Nat) (f : En → R O) : En → R O := fun ρ => f (frz ρ is)
theorem rs_frz (is : List Nat) (h : RS X W st f) : RS X W st (sFrz is f) := fun B F0 F H σ ρ Z x hw => by
  obtain ⟨F', x'⟩ := x.frz is
  exact h B F0 F' H σ _ Z x' hw
theorem rs_pass : RS X W (.Pass pos) sNx := fun B F0 F H σ ρ Z x hw => ⟨_, ps_pass, hw σ F H x⟩
def sBk : En → R O := fun ρ => .ok (.bk ρ)
def sCt : En → R O := fun ρ => .ok (.ct ρ)
theorem rs_break : RS X W (.Break pos) sBk := fun B F0 F H σ ρ Z x hw => ⟨_, ps_break, hw σ F H x⟩
theorem rs_continue : RS X W (.Continue pos) sCt := fun B F0 F H σ ρ Z x hw => ⟨_, ps_continue, hw σ F H x⟩
def sRet (f : En → R D) : En → R O := fun ρ => (f ρ).bind fun d => .ok (.rt d)
theorem rs_ret (h : RE X W e fe) : RS X W (.Return (some e) pos) (sRet fe) := fun B F0 F H σ ρ Z x hw => by
  refine ⟨_, ps_ret (pe_W e), ?_⟩
  exact h B F0 F H σ ρ _ x ((WantS.want (r := fe ρ) x hw).imp fun d F' H' _ ⟨g, k⟩ v r => k v F' H' (x.g.trans g) r)
def sRetN : En → R O := fun _ => .ok (.rt .non)
theorem rs_retN : RS X W (.Return none pos) sRetN := fun B F0 F H σ ρ Z x hw => ⟨_, ps_retN, hw _ F H x.g .non⟩
def sExp (f : En → R D) : En → R O := fun ρ => (f ρ).bind fun _ => .ok (.nx ρ)
theorem rs_expr (h : RE X W e fe) (hs : swapsWith e none pos.line X.env = pure false := by rfl) : RS X W (.Expr e pos) (sExp fe) := fun B F0 F H σ ρ Z x hw => by
  refine ⟨_, ps_expr (pe_W e) hs, ?_⟩
  exact h B F0 F H σ ρ _ x ((WantS.want (r := fe ρ) x hw).imp fun d F' H' _ ⟨g, k⟩ v r => k σ F' H' (x.grow g))
def sIf (c : En → R Bool) (f g : En → R O) : En → R O := fun ρ => (c ρ).bind fun b => if b = true then f ρ else g ρ
theorem rs_if {c : Expr} {a b : List Stmt} {fc : En → R Bool} (hc : RT X W c fc) (ha : RSs X W a f) (hb : RSs X W b g) : RS X W (.If c a b pos) (sIf fc f g) := fun B F0 F H σ ρ Z x hw => by
  refine ⟨_, ps_if (pt_W c) (pss_W a) (pss_W b), ?_⟩
  refine hc B F0 F H σ ρ _ x ((WantS.want (r := fc ρ) x hw).imp fun t F' H' _ ⟨g', k⟩ => ?_)
  cases t with
  | true => exact ha B F0 F' H' σ ρ Z (x.grow g') k
  | false => exact hb B F0 F' H' σ ρ Z (x.grow g') k
/-- target = value -/
def toN (g : R En) : R O := g.bind fun ρ => .ok (.nx ρ)
def sAsg (f : En → R D) (g : D → En → R En) : En → R O := fun ρ => (f ρ).bind fun d => toN (g d ρ)
theorem rg_next {tg : Expr} {ts : List Nat} {g : D → En → R En} {σ : St} {ρ : En} {d : D} {v : V} (hg : RG X tg ts g) (x : EOk X.K X.w B F0 F H σ ρ) (r : Rep X.K X.w F d v) (h : WantS X W B F0 (toN (g d ρ)) Z) (hx : ∀ y, g d ρ ≠ .ex y) : WG X tg v σ H Z.nx := by
  refine hg B F0 F H σ ρ d v _ x r ?_
  cases e : g d ρ with
  | ok ρ' => rw [e] at h; exact fun σ' x' _ => h σ' F H x'
  | ex y => exact absurd e (hx y)
  | bad => rw [e] at h; exact h.elim
/-- a target's function raises nothing -/
def NoEx (g : D → En → R En) : Prop := ∀ d ρ y, g d ρ ≠ .ex y
theorem nx_name (i : Nat) : NoEx (tName i) := fun _ _ _ h => by cases h
theorem rs_asg {tg : Expr} {ts : List Nat} {g : D → En → R En} (he : RE X W e fe) (hg : RG X tg ts g) (nx : NoEx g) (hs : swapsWithSole [tg] e pos.line X.env = pure false := by rfl) (hw : swappedStores [tg] e X.env = pure none := by rfl)
    (h1 : (assignEach [tg] X.env).map (·.2) = [assign tg X.env] := by rfl) : RS X W (.Assign [tg] e pos) (sAsg fe g) := fun B F0 F H σ ρ Z x hw' => by
  refine ⟨_, ps_asg (pe_W e) (pg_W tg) hs hw h1, ?_⟩
  exact he B F0 F H σ ρ _ x ((WantS.want (r := fe ρ) x hw').imp fun d F' H' _ ⟨g', k⟩ v r => rg_next hg (x.grow g') r k (nx d ρ))
/-- name = value -/
def sSet (i : Nat) (f : En → R D) : En → R O := fun ρ => (f ρ).bind fun d => .ok (.nx (ρ.set i (some (d, false))))
theorem rs_set {i : Nat} {x : Str} {p : Pos} (hN : X.N.Nodup) (hi : X.N[i]? = some x) (hx : Loc X.env.scope x) (he : RE X W e fe) (hs : swapsWith e (some (.Name x p)) pos.line X.env = pure false := by rfl) (hf : X.fn x = true ∨ X.env.scope.names.lookup x = some .local := by first | exact .inl rfl | exact .inr rfl | assumption) :
    RS X W (.Assign [.Name x p] e pos) (sSet i fe) := fun B F0 F H σ ρ Z x hw => by
  refine ⟨_, ps_set hN hi hx (pe_W e) hs hf, ?_⟩
  exact he B F0 F H σ ρ _ x ((WantS.want (r := fe ρ) x hw).imp fun d F' H' _ ⟨g', k⟩ v r => k _ F' H' ((x.grow g').set r))
/-- name = a new list, of its own -/
def sOwn (i : Nat) (f : En → R (List D)) : En → R O := fun ρ => (f ρ).bind fun ds => .ok (.nx (ρ.set i (some (.lst ds, true))))
theorem own_step {i : Nat} {σ : St} {ρ : En} {ds : List D} {F' H' : Hp} {p : Addr} {xs : List V} (x : EOk X.K X.w B F0 F H σ ρ) (g : Grow F H F' H') (h1 : H p = none) (h2 : F' p = none) (h3 : H' p = some (.lst xs)) (h4 : Reps X.K X.w F' ds xs) :
    EOk X.K X.w B F0 F' H' (σ.set i (some (.ref p))) (ρ.set i (some (.lst ds, true))) := by
  refine (x.grow g).setOwn h3 h4 h2 (x.g.hh.free h1) fun j d n e q => ?_
  obtain ⟨v, e1, a, ys, es, e2, e3, e4, _⟩ := x.sl j _ _ e
  rw [q] at e1
  cases e1
  cases e2
  rw [h1] at e4
  cases e4
theorem rs_own {i : Nat} {x : Str} {p : Pos} {fl : En → R (List D)} (hN : X.N.Nodup) (hi : X.N[i]? = some x) (hx : Loc X.env.scope x) (he : RF X W e fl) (hs : swapsWith e (some (.Name x p)) pos.line X.env = pure false := by rfl) (hf : X.fn x = true ∨ X.env.scope.names.lookup x = some .local := by first | exact .inl rfl | exact .inr rfl | assumption) :
    RS X W (.Assign [.Name x p] e pos) (sOwn i fl) := fun B F0 F H σ ρ Z x hw => by
  refine ⟨_, ps_set hN hi hx (pe_W e) hs hf, ?_⟩
  exact he B F0 F H σ ρ _ x ((WantS.want (r := fl ρ) x hw).imp fun ds F' H' _ ⟨g', k⟩ p xs h1 h2 h3 h4 => k _ F' H' (own_step x g' h1 h2 h3 h4))
/-- name = [.. for ..], the name a local -/
def sSetL (i : Nat) (f : En → R (List D)) : En → R O := fun ρ => (f ρ).bind fun ds => .ok (.nx (ρ.set i (some (.lst ds, false))))
section
variable {i : Nat} {y : Str} {py spos : Pos} {elt tg iter : Expr} {ifs : List Expr} {scope : Scope} {own : List (Str × Nat)} {it : En → R (List D)} {tgt : D → En → R En} {tt : En → R Bool} {el : En → R D} {ts : List Nat}
/-- its reading, whatever becomes of the list -/
theorem lc_stmt (hc : X.calm = true) (hN : X.N.Nodup) (hy : X.N[i]? = some y) (hyl : X.env.scope.names.lookup y = some .local) (hsw : swapsWith (.ListComp elt [⟨tg, iter, ifs, 0⟩] scope pos) (some (.Name y py)) spos.line X.env = pure true)
    (hi : RI X W tg iter it) (ok : BlkOk X.N X.env.scope scope own)
    (hg : ∀ (s : Shared) (H : Hp) (C : Addr) (cl : List (Str × Addr)) (fp : List Addr), RG (X.blk s H scope (compEnvC scope cl C X.env) fp) tg ts tgt)
    (ht : ∀ (s : Shared) (H : Hp) (C : Addr) (cl : List (Str × Addr)) (fp : List Addr), RP (X.blk s H scope (compEnvC scope cl C X.env) fp) WF ifs tt)
    (he : ∀ (s : Shared) (H : Hp) (C : Addr) (cl : List (Str × Addr)) (fp : List Addr), RE (X.blk s H scope (compEnvC scope cl C X.env) fp) WF elt el)
    (hts : ∀ i ∈ ts, i ∈ own.map (·.2)) (hs : ∀ x, foldedSetIterable iter X.env x = pure x)
    {σ : St} {ρ : En} (x : EOk X.K X.w B F0 F H σ ρ)
    (hw : Want X.K X.w X.mg (fLc (own.map (·.2)) it tgt tt el ρ) F H (fun ds F' H' => ∀ p xs, H p = none → F' p = none → H' p = some (.lst xs) → Reps X.K X.w F' ds xs → Z.nx (σ.set i (some (.ref p))) H') (fun C dd H' => W C dd σ H')) :
    WS X (.Assign [.Name y py] (.ListComp elt [⟨tg, iter, ifs, 0⟩] scope pos) spos) Z σ H := by
  refine ⟨_, ps_setLc (g := fun v σ H Q => ∀ (s : Shared) (H1 : Hp) (C : Addr) (cl : List (Str × Addr)) (fp : List Addr), WG (X.blk s H1 scope (compEnvC scope cl C X.env) fp) tg v σ H Q)
    (tt := fun σ H Q => ∀ (s : Shared) (H1 : Hp) (C : Addr) (cl : List (Str × Addr)) (fp : List Addr), WPs (X.blk s H1 scope (compEnvC scope cl C X.env) fp) ifs σ H Q)
    (te := fun σ H Q => ∀ (s : Shared) (H1 : Hp) (C : Addr) (cl : List (Str × Addr)) (fp : List Addr), WE (X.blk s H1 scope (compEnvC scope cl C X.env) fp) elt σ H Q)
    hc hN hy hyl hsw (pi_W tg iter) ok (fun s H C cl fp => ⟨fun pins s' σ H' v u Q I r q => (pg_W _).run pins s' σ H' v u Q I r (q s H C cl fp)⟩) (fun s H C cl fp => ⟨fun pins s' σ H' Q I q => (pts_W _).run pins s' σ H' Q I (q s H C cl fp)⟩)
    (fun s H C cl fp => ⟨fun pins s' σ H' Q I q => (pe_W _).run pins s' σ H' Q I (q s H C cl fp)⟩) hs, ?_⟩
  exact lc_run (Q := fun v H' => Z.nx (σ.set i (some v)) H') hts x hi (fun B F0 F H σ ρ d v Q x r k s H1 C cl fp => hg s H1 C cl fp B F0 F H σ ρ d v Q x r k) (fun B F0 F H σ ρ Q x k s H1 C cl fp => ht s H1 C cl fp B F0 F H σ ρ Q x k)
    (fun B F0 F H σ ρ Q x k s H1 C cl fp => he s H1 C cl fp B F0 F H σ ρ Q x k) hw
theorem rs_lc (hc : X.calm = true) (hN : X.N.Nodup) (hy : X.N[i]? = some y) (hyl : X.env.scope.names.lookup y = some .local) (hsw : swapsWith (.ListComp elt [⟨tg, iter, ifs, 0⟩] scope pos) (some (.Name y py)) spos.line X.env = pure true)
    (hi : RI X W tg iter it) (ok : BlkOk X.N X.env.scope scope own)
    (hg : ∀ (s : Shared) (H : Hp) (C : Addr) (cl : List (Str × Addr)) (fp : List Addr), RG (X.blk s H scope (compEnvC scope cl C X.env) fp) tg ts tgt)
    (ht : ∀ (s : Shared) (H : Hp) (C : Addr) (cl : List (Str × Addr)) (fp : List Addr), RP (X.blk s H scope (compEnvC scope cl C X.env) fp) WF ifs tt)
    (he : ∀ (s : Shared) (H : Hp) (C : Addr) (cl : List (Str × Addr)) (fp : List Addr), RE (X.blk s H scope (compEnvC scope cl C X.env) fp) WF elt el)
    (hts : ∀ i ∈ ts, i ∈ own.map (·.2)) (hs : ∀ x, foldedSetIterable iter X.env x = pure x := by intro _; rfl) :
    RS X W (.Assign [.Name y py] (.ListComp elt [⟨tg, iter, ifs, 0⟩] scope pos) spos) (sSetL i (fLc (own.map (·.2)) it tgt tt el)) := fun B F0 F H σ ρ Z x hw => by
  refine lc_stmt hc hN hy hyl hsw hi ok hg ht he hts hs x ?_
  replace hw : WantS X W B F0 ((fLc (own.map (·.2)) it tgt tt el ρ).bind fun ds => .ok (.nx (ρ.set i (some (.lst ds, false))))) Z := hw
  refine (WantS.want x hw).imp fun ds F' H' _ ⟨g', k⟩ p xs h1 h2 h3 h4 => ?_
  have z := own_step (i := i) x g' h1 h2 h3 h4
  obtain ⟨F2, z2⟩ := z.frz1 i
  by_cases hl : i < ρ.length
  · have e : frz1 (ρ.set i (some (.lst ds, true))) i = ρ.set i (some (.lst ds, false)) := by
      unfold frz1
      rw [List.getElem?_set_self hl]
      dsimp only
      rw [List.set_set]
    rw [e] at z2
    exact k _ F2 H' z2
  · have e1 : ∀ y, ρ.set i y = ρ := fun y => List.set_eq_of_length_le (by omega)
    rw [e1] at z k
    exact k _ F' H' z
theorem rs_lcOwn (hc : X.calm = true) (hN : X.N.Nodup) (hy : X.N[i]? = some y) (hyl : X.env.scope.names.lookup y = some .local) (hsw : swapsWith (.ListComp elt [⟨tg, iter, ifs, 0⟩] scope pos) (some (.Name y py)) spos.line X.env = pure true)
    (hi : RI X W tg iter it) (ok : BlkOk X.N X.env.scope scope own)
    (hg : ∀ (s : Shared) (H : Hp) (C : Addr) (cl : List (Str × Addr)) (fp : List Addr), RG (X.blk s H scope (compEnvC scope cl C X.env) fp) tg ts tgt)
    (ht : ∀ (s : Shared) (H : Hp) (C : Addr) (cl : List (Str × Addr)) (fp : List Addr), RP (X.blk s H scope (compEnvC scope cl C X.env) fp) WF ifs tt)
    (he : ∀ (s : Shared) (H : Hp) (C : Addr) (cl : List (Str × Addr)) (fp : List Addr), RE (X.blk s H scope (compEnvC scope cl C X.env) fp) WF elt el)
    (hts : ∀ i ∈ ts, i ∈ own.map (·.2)) (hs : ∀ x, foldedSetIterable iter X.env x = pure x := by intro _; rfl) :
    RS X W (.Assign [.Name y py] (.ListComp elt [⟨tg, iter, ifs, 0⟩] scope pos) spos) (sOwn i (fLc (own.map (·.2)) it tgt tt el)) := fun B F0 F H σ ρ Z x hw => by
  refine lc_stmt hc hN hy hyl hsw hi ok hg ht he hts hs x ?_
  replace hw : WantS X W B F0 ((fLc (own.map (·.2)) it tgt tt el ρ).bind fun ds => .ok (.nx (ρ.set i (some (.lst ds, true))))) Z := hw
  exact (WantS.want x hw).imp fun ds F' H' _ ⟨g', k⟩ p xs h1 h2 h3 h4 => k _ F' H' (own_step x g' h1 h2 h3 h4)
end
end
end Pc
set_option maxHeartbeats 4000000
namespace Pc
open PySem L2
section
variable {X : Cx} {W : WX} {B F0 F H : Hp} {Z : Ends} {st : Stmt} {rest sts : List Stmt} {f g : En → R O} {e o i : Expr} {fe fi : En → R D} {pos apos cpos tpos : Pos}

/-! ### statements that change a list of a slot's own -/
def fOwn (i : Nat) : En → R (List D) := fun ρ => match ρ[i]? with
  | some (some (.lst ds, true)) => .ok ds
  | _ => .bad
theorem fOwn_ok {i : Nat} {ρ : En} {ds : List D} (h : fOwn i ρ = .ok ds) : ρ[i]? = some (some (.lst ds, true)) := by
  unfold fOwn at h
  split at h
  · cases h; assumption
  · cases h
theorem fOwn_ex {i : Nat} {ρ : En} {y : Exn} : fOwn i ρ ≠ .ex y := fun h => by
  unfold fOwn at h
  split at h <;> cases h
theorem own_at {K : PySem.W.Frag} {w : World} {σ : St} {ρ : En} {i : Nat} {ds : List D} (x : EOk K w B F0 F H σ ρ) (h : ρ[i]? = some (some (.lst ds, true))) : ∃ a xs, σ[i]? = some (some (.ref a)) ∧ H a = some (.lst xs) ∧ Reps K w F ds xs := by
  obtain ⟨v, e1, a, xs, ds', e2, e3, e4, e5, _⟩ := x.sl _ _ _ h
  cases e2; cases e3
  exact ⟨a, xs, e1, e4, e5⟩
theorem own_want {i : Nat} {ρ : En} {k : List D → R O} (h : WantS X W B F0 ((fOwn i ρ).bind k) Z) : ∃ ds, ρ[i]? = some (some (.lst ds, true)) ∧ WantS X W B F0 (k ds) Z := by
  cases hf : fOwn i ρ with
  | ok ds => rw [hf] at h; exact ⟨ds, fOwn_ok hf, h⟩
  | ex y => exact absurd hf fOwn_ex
  | bad => rw [hf] at h; exact h.elim
theorem ifS {c : Prop} [Decidable c] {a : R O} (h : WantS X W B F0 (if c then a else .bad) Z) : c ∧ WantS X W B F0 a Z := by
  by_cases hc : c
  · rw [if_pos hc] at h; exact ⟨hc, h⟩
  · rw [if_neg hc] at h; exact h.elim
/-- x.append(e) -/
def sApp (i : Nat) (f : En → R D) : En → R O := fun ρ => (fOwn i ρ).bind fun ds => (f ρ).bind fun d => if ds.length < lim then .ok (.nx (ρ.set i (some (.lst (ds ++ [d]), true)))) else .bad
theorem rs_app {i : Nat} {x : Str} {p : Pos} (hN : X.N[i]? = some x) (hv : Vis X.env.scope x) (he : RE X W e fe) (hd : (x == ("__debug__" : Str)) = false := by decide) (hcd : (x == ("__classdict__" : Str)) = false := by decide)
    (hbase : attributeBase (.Name x p) "append" X.env (eval (.Name x p) X.env) = eval (.Name x p) X.env := by rfl)
    (hfew : ((backTo cpos (starEach [e] X.env)).all (fun x => !x.1) && (backToKw cpos (keywordEach [] X.env)).all (fun x => x.1.isSome)
      && decide ([e].length + ([] : List Keyword).length + (if ([] : List Keyword).isEmpty then 0 else 1) < 30)) = true := by rfl)
    (hline : (apos.endLine == cpos.line) = true := by rfl) (hs : starEach [e] X.env = (false, eval e X.env) :: starEach [] X.env := by rfl) (hplain : (backTo cpos (starEach [] X.env)).any (·.1) = false := by rfl)
    (hsw : swapsWith (.Call (.Attribute (.Name x p) "append" apos) [e] [] cpos) none pos.line X.env = pure false := by rfl) :
    RS X W (.Expr (.Call (.Attribute (.Name x p) "append" apos) [e] [] cpos) pos) (sApp i fe) := fun B F0 F H σ ρ Z x hw => by
  refine ⟨_, ps_expr (pe_bm PySem.F.plainAttrs_list PySem.F.slot_list_append PySem.F.type_list_append mt_append (pe_var hN hv hd hcd) (pa_cons (pe_W e) pa_nil hs) hbase hfew hline hs hplain) hsw, ?_⟩
  obtain ⟨ds, hi, hw⟩ := own_want (i := i) (ρ := ρ) (k := fun ds => (fe ρ).bind fun d => if ds.length < lim then .ok (.nx (ρ.set i (some (.lst (ds ++ [d]), true)))) else .bad) hw
  obtain ⟨a, xs, e1, e2, e3⟩ := own_at x hi
  refine ⟨_, e1, .inl ⟨rfl, xs, SqL.of e2⟩, ?_⟩
  refine he B F0 F H σ ρ _ x ((WantS.want x hw).imp fun d F' H' _ ⟨g', k⟩ v r => ?_)
  obtain ⟨hc, k⟩ := ifS k
  have x' := x.grow g'
  obtain ⟨a', xs', e1', e2', e3'⟩ := own_at x' hi
  rw [e1] at e1'
  cases e1'
  refine ⟨a, xs', v, rfl, rfl, e2', by rw [← e3'.length]; exact Nat.lt_of_lt_of_le hc (by decide), ?_⟩
  exact k σ F' _ (x'.write hi e1 (e3'.append (.cons r .nil)))
/-- x[i] = e -/
def setAt (ds : List D) (d : D) : D → R (List D)
  | .int k => match ixN ds.length k with
    | some j => .ok (ds.set j d)
    | none => .bad
  | _ => .bad
def sPut (i : Nat) (f fi : En → R D) : En → R O := fun ρ => (f ρ).bind fun d => (fOwn i ρ).bind fun ds => (fi ρ).bind fun k => (setAt ds d k).bind fun es => .ok (.nx (ρ.set i (some (.lst es, true))))
theorem rs_put {j : Nat} {x : Str} {p : Pos} (hN : X.N[j]? = some x) (hv : Vis X.env.scope x) (he : RE X W e fe) (hi : RB X W i fi) (hd : (x == ("__debug__" : Str)) = false := by decide) (hcd : (x == ("__classdict__" : Str)) = false := by decide)
    (ha : ∀ v, assign (.Subscript (.Name x p) i tpos) X.env v = (do
      let ov ← holding [v] (eval (.Name x p) X.env)
      let iv ← holding [v, ov] (eval i X.env)
      standAt tpos
      holding [v, ov, iv] (setItem ov iv v)
      release [v, ov, iv] []) := by intro _; rfl)
    (hs : swapsWithSole [.Subscript (.Name x p) i tpos] e pos.line X.env = pure false := by rfl) (hw' : swappedStores [.Subscript (.Name x p) i tpos] e X.env = pure none := by rfl)
    (h1 : (assignEach [.Subscript (.Name x p) i tpos] X.env).map (·.2) = [assign (.Subscript (.Name x p) i tpos) X.env] := by rfl) :
    RS X W (.Assign [.Subscript (.Name x p) i tpos] e pos) (sPut j fe fi) := fun B F0 F H σ ρ Z x hw => by
  refine ⟨_, ps_asg (pe_W e) (pg_sub (pe_var hN hv hd hcd) (pe_W i) set_list ha) hs hw' h1, ?_⟩
  refine he B F0 F H σ ρ _ x ((WantS.want (r := fe ρ) x hw).imp fun d F1 H1 _ ⟨g1, k1⟩ v r => ?_)
  have x1 := x.grow g1
  obtain ⟨ds, hj, k1⟩ := own_want k1
  obtain ⟨a, xs, e1, e2, e3⟩ := own_at x1 hj
  refine ⟨_, e1, ?_⟩
  refine hi B F0 F1 H1 σ ρ _ x1 ((WantS.want x1 k1).imp fun kd F2 H2 _ ⟨g2, k2⟩ u ru => ?_)
  have x2 := x1.grow g2
  obtain ⟨a', xs', e1', e2', e3'⟩ := own_at x2 hj
  rw [e1] at e1'
  cases e1'
  cases kd with
  | int z =>
    cases ru.int
    replace k2 : WantS X W B F0 ((match ixN ds.length z with
      | some j => (.ok (ds.set j d) : R (List D))
      | none => .bad).bind fun es => .ok (.nx (ρ.set j (some (.lst es, true))))) Z := k2
    cases hz : ixN ds.length z with
    | none => rw [hz] at k2; exact k2.elim
    | some m =>
      rw [hz] at k2
      refine ⟨a, xs', z, m, rfl, rfl, e2', by rw [← e3'.length]; exact hz, ?_⟩
      exact k2 σ F2 _ (x2.write hj e1 (e3'.set (Rep.mono g2.ff _ _ r) m))
  | _ => exact k2.elim
/-- x += e, x -= e: ints -/
def augR (i : Nat) (h : Int → Int → Int) (ρ : En) : D → D → R O
  | .int m, .int n => .ok (.nx (ρ.set i (some (.int (h m n), false))))
  | _, _ => .bad
def sAug (i : Nat) (h : Int → Int → Int) (f : En → R D) : En → R O := fun ρ => (fVar i ρ).bind fun a => (f ρ).bind fun b => augR i h ρ a b
theorem rs_aug {i : Nat} {x : Str} {p : Pos} {op : Operator} {h : Int → Int → Int} (hN : X.N.Nodup) (hi : X.N[i]? = some x) (hx : Loc X.env.scope x) (he : RE X W e fe) (ho : PIp X op (ipI h)) (hf : X.fn x = true ∨ X.env.scope.names.lookup x = some .local := by first | exact .inl rfl | exact .inr rfl | assumption) :
    RS X W (.AugAssign (.Name x p) op e pos) (sAug i h fe) := fun B F0 F H σ ρ Z x hw => by
  refine ⟨_, ps_aug hN hi hx (pe_W e) ho hf, ?_⟩
  replace hw : WantS X W B F0 ((fVar i ρ).bind fun a => (fe ρ).bind fun b => augR i h ρ a b) Z := hw
  cases hv : fVar i ρ with
  | bad => rw [hv] at hw; exact hw.elim
  | ex y => unfold fVar at hv; split at hv <;> cases hv
  | ok a =>
    rw [hv] at hw
    have hr : ρ[i]? = some (some (a, false)) := by
      unfold fVar at hv
      split at hv
      · cases hv; assumption
      · cases hv
    obtain ⟨v, e1, e2⟩ := x.sl _ _ _ hr
    refine ⟨v, e1, ?_⟩
    refine he B F0 F H σ ρ _ x ((WantS.want (r := fe ρ) (f := fun b => augR i h ρ a b) x hw).imp fun d F' H' _ ⟨g', k⟩ u r => ?_)
    cases a with
    | int m =>
      cases d with
      | int n =>
        cases e2; cases r
        exact ⟨m, n, rfl, rfl, k _ F' H' ((x.grow g').set (.int _))⟩
      | _ => exact k.elim
    | _ => exact k.elim
/-! ### loops -/
def forGo (tgt : D → En → R En) (body : En → R O) : List D → En → R O
  | [], ρ => .ok (.nx ρ)
  | d :: ds, ρ => match tgt d ρ with
    | .ok ρ1 => (body ρ1).bind fun o => match o with
      | .nx ρ2 => forGo tgt body ds ρ2
      | .ct ρ2 => forGo tgt body ds ρ2
      | .bk ρ2 => .ok (.nx ρ2)
      | .rt d => .ok (.rt d)
    | _ => .bad
def sFor (it : En → R (List D)) (tgt : D → En → R En) (body : En → R O) : En → R O := fun ρ => (it ρ).bind fun ds => forGo tgt body ds ρ
theorem rs_for {tg iter : Expr} {body : List Stmt} {it : En → R (List D)} {tgt : D → En → R En} {fb : En → R O} {ts : List Nat} (hp : PassesOwn (model X.prog X.w) X.A X.env X.xe) (hc : X.calm = true) (hi : RI X W tg iter it) (hg : RG X tg ts tgt) (hb : RSs X W body fb)
    (hs : ∀ x, foldedSetIterable iter X.env x = pure x := by intro _; rfl) : RS X W (.For tg iter body [] pos) (sFor it tgt fb) := fun B F0 F H σ ρ Z x hw => by
  refine ⟨_, ps_for hp hc (pi_W tg iter) (pg_W tg) (pss_W body) hs, ?_⟩
  refine hi B F0 F H σ ρ _ x ((WantS.want (r := it ρ) x hw).imp fun ds F1 H1 _ ⟨g1, k1⟩ J hJ => ?_)
  refine ⟨fun i m σ' H' => m = ds.length - i ∧ i ≤ ds.length ∧ ∃ F' ρ', EOk X.K X.w B F0 F' H' σ' ρ' ∧ Same F1 F' ∧ WantS X W B F0 (forGo tgt fb (ds.drop i) ρ') Z, ⟨ds.length, rfl, Nat.zero_le _, F1, ρ, x.grow g1, Same.refl _, k1⟩, ?_⟩
  rintro i m σ' H' ⟨rfl, hle, F', ρ', x', s', k⟩
  obtain ⟨j1, j2⟩ := hJ i F' H' s' x'.fh
  by_cases hi' : i = ds.length
  · left
    refine ⟨j2 hi', ?_⟩
    rw [hi', List.drop_length] at k
    exact k σ' F' H' x'
  · right
    have hlt : i < ds.length := by omega
    obtain ⟨go, yl⟩ := j1 ds[i] (List.getElem?_eq_getElem hlt)
    refine ⟨go, fun σ2 H2 => ∃ F2 ρ2, EOk X.K X.w B F0 F2 H2 σ2 ρ2 ∧ Same F1 F2 ∧ WantS X W B F0 (forGo tgt fb (ds.drop (i + 1)) ρ2) Z, fun σ2 H2 q => ⟨ds.length - (i + 1), by omega, rfl, hlt, q⟩, fun y H2 hy => ?_⟩
    obtain ⟨F2, g2, ry⟩ := yl y H2 hy
    have x2 := x'.grow g2
    rw [List.drop_eq_getElem_cons hlt] at k
    unfold forGo at k
    refine hg B F0 F2 H2 σ' ρ' ds[i] y _ x2 ry ?_
    cases hq : tgt ds[i] ρ' with
    | ex _ => rw [hq] at k; exact k.elim
    | bad => rw [hq] at k; exact k.elim
    | ok ρ1 =>
      rw [hq] at k
      dsimp only at k
      intro σ1 x1 _
      have k' := WantS.rebase x2.g k
      have sF : Same F1 F2 := s'.trans g2.ff
      refine hb B F2 F2 H2 σ1 ρ1 _ x1.base ?_
      cases hr : fb ρ1 with
      | bad => rw [hr] at k'; exact k'.elim
      | ex z => rw [hr] at k'; exact k'
      | ok o =>
        rw [hr] at k k'
        cases o with
        | nx ρ3 => exact fun σ3 F3 H3 x3 => ⟨F3, ρ3, x3.rebase x2.g, sF.trans x3.g.ff, k⟩
        | ct ρ3 => exact fun σ3 F3 H3 x3 => ⟨F3, ρ3, x3.rebase x2.g, sF.trans x3.g.ff, k⟩
        | bk ρ3 => exact fun σ3 F3 H3 x3 => k' σ3 F3 H3 x3
        | rt d => exact k'
def whGo (c : En → R Bool) (body : En → R O) : Nat → En → R O
  | 0, _ => .bad
  | n + 1, ρ => (c ρ).bind fun b => if b = true then (body ρ).bind fun o => match o with
      | .nx ρ2 => whGo c body n ρ2
      | .ct ρ2 => whGo c body n ρ2
      | .bk ρ2 => .ok (.nx ρ2)
      | .rt d => .ok (.rt d)
    else .ok (.nx ρ)
def sWh (n : Nat) (c : En → R Bool) (body : En → R O) : En → R O := whGo c body n
theorem rs_while (n : Nat) {c : Expr} {body : List Stmt} {fc : En → R Bool} {fb : En → R O} (hp : PassesOwn (model X.prog X.w) X.A X.env X.xe) (hc : RT X W c fc) (hb : RSs X W body fb) : RS X W (.While c body [] pos) (sWh n fc fb) := fun B F0 F H σ ρ Z x hw => by
  refine ⟨_, ps_while hp (pt_W c) (pss_W body), ?_⟩
  refine ⟨fun m σ' H' => ∃ F' ρ', EOk X.K X.w B F0 F' H' σ' ρ' ∧ WantS X W B F0 (whGo fc fb m ρ') Z, ⟨n, F, ρ, x, hw⟩, ?_⟩
  rintro m σ' H' ⟨F', ρ', x', k⟩
  cases m with
  | zero => exact k.elim
  | succ m =>
    unfold whGo at k
    refine hc B F0 F' H' σ' ρ' _ x' ((WantS.want x' k).imp fun b F1 H1 _ ⟨g1, k1⟩ => ?_)
    have x1 := x'.grow g1
    cases b with
    | false => exact k1 σ' F1 H1 x1
    | true =>
      refine ⟨fun σ2 H2 => ∃ F2 ρ2, EOk X.K X.w B F0 F2 H2 σ2 ρ2 ∧ WantS X W B F0 (whGo fc fb m ρ2) Z, fun σ2 H2 q => ⟨m, Nat.lt_succ_self _, q⟩, ?_⟩
      rw [if_pos rfl] at k1
      refine hb B F0 F1 H1 σ' ρ' _ x1 ?_
      cases hr : fb ρ' with
      | bad => rw [hr] at k1; exact k1.elim
      | ex z => rw [hr] at k1; exact k1
      | ok o =>
        rw [hr] at k1
        cases o with
        | nx ρ3 => exact fun σ3 F3 H3 x3 => ⟨F3, ρ3, x3, k1⟩
        | ct ρ3 => exact fun σ3 F3 H3 x3 => ⟨F3, ρ3, x3, k1⟩
        | bk ρ3 => exact fun σ3 F3 H3 x3 => k1 σ3 F3 H3 x3
        | rt d => exact k1
/-- a statement that is not come to -/
def sNo : En → R O := fun _ => .bad
theorem rs_no : RS X W st sNo := fun B F0 F H σ ρ Z x hw => hw.elim
end
end Pc
set_option maxHeartbeats 4000000
namespace Pc
open PySem L2
/-! ### defs -/
def spOf (K : PySem.W.Frag) (w : World) (mg : Str → Option Value) (n : Nat) (g : List D → R D) : Sp := fun vs H Q E => vs.length = n ∧ ∃ ds F, Same F H ∧ Reps K w F ds vs ∧
  Want K w mg (g ds) F H (fun d F' H' => ∀ v, Rep K w F' d v → Q v H') (fun C dd H' => E C dd H')
structure Def (P : Program) (w : World) (K : PySem.W.Frag) (mg : Str → Option Value) (base : Heap) (x : Str) (k n : Nat) (g : List D → R D) : Prop where
  ex : ∃ f fd ps, FnOk P w K mg base (L2.CX P w) k f fd ps (spOf K w mg n g) ∧ mg x = some (.ref f) ∧ PySem.W.keepIn K (.ref f) = true ∧ Binds K fd ps []
def ini (m : Nat) (ds : List D) : En := ds.map (fun d => some (d, false)) ++ List.replicate (m - ds.length) none
def endD : R O → R D
  | .ok (.rt d) => .ok d
  | .ok (.nx _) => .ok .non
  | .ok _ => .bad
  | .ex x => .ex x
  | .bad => .bad
def runDef (m : Nat) (body : En → R O) (ds : List D) : R D := endD (body (ini m ds))
section
variable {P : Program} {w : World} {K : PySem.W.Frag} {mg : Str → Option Value} {base : Heap}
theorem start_ok {F H : Hp} (s : Same F H) (m : Nat) : ∀ {ds : List D} {vs : List V}, Reps K w F ds vs → EOk K w H F F H (vs.map some ++ List.replicate (m - vs.length) none) (ini m ds) := fun {ds vs} r => by
  have hl := r.length
  refine ⟨Grow.refl s, by simp [ini, hl], fun i d o e => ?_, fun i j d e v n h1 h2 h3 h4 => ?_⟩
  · unfold ini at e
    by_cases hi : i < ds.length
    · rw [List.getElem?_append_left (by simpa using hi), List.getElem?_map, Option.map_eq_some_iff] at e
      obtain ⟨d', e1, e2⟩ := e
      cases e2
      obtain ⟨v, e3, e4⟩ := r.get e1
      exact ⟨v, by rw [List.getElem?_append_left (by simp; omega), List.getElem?_map, e3]; rfl, e4⟩
    · rw [List.getElem?_append_right (by simpa using hi), List.getElem?_replicate] at e
      split at e <;> cases e
  · unfold ini at h1
    by_cases hi : i < ds.length
    · rw [List.getElem?_append_left (by simpa using hi), List.getElem?_map, Option.map_eq_some_iff] at h1
      obtain ⟨d', _, e2⟩ := h1
      cases e2
    · rw [List.getElem?_append_right (by simpa using hi), List.getElem?_replicate] at h1
      split at h1 <;> cases h1
/-- what an expression may lean on: room, exceptions taken, nothing handled -/
structure Bq (X : Cx) (W : WX) (k : Nat) : Prop where
  hr : Room k X.A
  tk : Takes X W
  hW : ∀ c dd σ σ' H, W c dd σ H → W c dd σ' H
  hc : X.calm = true
  hu : X.A.units + 64 < cLine
/-- what a body may lean on -/
structure Bd (X : Cx) (W : WX) (k : Nat) : Prop where
  q : Bq X W k
  hp : PassesOwn (model X.prog X.w) X.A X.env X.xe
theorem fn_ok {x qual : Str} {st : Stmt} {f : Addr} {fd : FuncData} {N ps : List Str} {k : Nat} {fb : En → R O} (F : Fun K x qual st f fd) (S : FnScope N ps (defScope st))
    (h : ∀ (cdv : Value) (A : Around) (outer : List Env) (s : Shared) (H : Hp) (E : XK), Bd (cxOf (L2.CX P w) P w K mg base N qual (defScope st) f cdv A outer s H E) (fun c d _ H => E c d H) k →
      RSs (cxOf (L2.CX P w) P w K mg base N qual (defScope st) f cdv A outer s H E) (fun c d _ H => E c d H) (defBody st) fb) :
    FnOk P w K mg base (L2.CX P w) (k + 1) f fd ps (spOf K w mg ps.length (runDef N.length fb)) := by
  refine F.okX S (fun vs H Q E h => h.1) (fun cdv A outer s H vs Q E hr hsp => ?_)
  obtain ⟨hl, ds, F0, sF, r, hw⟩ := hsp
  refine ⟨_, pss_W _, ?_⟩
  refine h cdv A outer s H E ⟨⟨hr, takes_of rfl rfl rfl rfl, fun _ _ _ _ _ h => h, rfl, hr.units⟩, passes_of rfl⟩ H F0 F0 H _ _ _ (start_ok sF N.length r) ?_
  unfold runDef at hw
  show WantS _ _ H F0 (fb (ini N.length ds)) { nx := fun _ H' => Q .non H', rt := Q }
  cases e : fb (ini N.length ds) with
  | bad => rw [e] at hw; exact hw.elim
  | ex y => rw [e] at hw; exact fun C dd σ F' H' g e => hw C dd F' H' g e
  | ok o =>
    rw [e] at hw
    cases o with
    | nx ρ => exact fun σ F' H' x => hw F' H' x.g _ .non
    | rt d => exact fun v F' H' g r => hw F' H' g v r
    | bk ρ => exact hw.elim
    | ct ρ => exact hw.elim
theorem fn_def {x qual : Str} {st : Stmt} {f : Addr} {fd : FuncData} {N ps : List Str} {k : Nat} {fb : En → R O} (F : Fun K x qual st f fd) (S : FnScope N ps (defScope st)) (hm : mg x = some (.ref f)) (hb : Binds K fd ps [])
    (h : ∀ (cdv : Value) (A : Around) (outer : List Env) (s : Shared) (H : Hp) (E : XK), Bd (cxOf (L2.CX P w) P w K mg base N qual (defScope st) f cdv A outer s H E) (fun c d _ H => E c d H) k →
      RSs (cxOf (L2.CX P w) P w K mg base N qual (defScope st) f cdv A outer s H E) (fun c d _ H => E c d H) (defBody st) fb) :
    Def P w K mg base x (k + 1) ps.length (runDef N.length fb) := ⟨f, fd, ps, fn_ok F S h, hm, F.kp, hb⟩
/-- the law's promise: of a list of at most 63 ints True -/
def spLaw (K : PySem.W.Frag) : Sp := fun vs H Q _ => ∃ (a : Addr) (ns : List Int), vs = [.ref a] ∧ SqL K H a (ns.map V.int) ∧ ns.length ≤ 63 ∧ ∀ H', Q (.bl true) H'
theorem law_fn {k : Nat} {f : Addr} {fd : FuncData} {ps : List Str} {g : List D → R D} (main : ∀ ns : List Int, ns.length ≤ 63 → g [.scr ns] = .ok (.bl true)) (h : FnOk P w K mg base (L2.CX P w) k f fd ps (spOf K w mg 1 g)) :
    FnOk P w K mg base (L2.CX P w) k f fd ps (spLaw K) := h.imp fun vs H Q E q => by
  obtain ⟨a, ns, rfl, hs, hl, k⟩ := q
  refine ⟨rfl, [.scr ns], H, Same.refl H, .cons (.scr hs) .nil, ?_⟩
  rw [main ns hl]
  intro F' H' _ v r
  cases r
  exact k H'
theorem no_law {H : Hp} {s : Shared} {e : Value} {s' : Shared} (h : L2.CX P w [] H s (fun _ _ _ => False) e s') : False := by
  obtain ⟨_, _, _, _, _, _, _, _, _, _, _, _, z⟩ := h
  exact z
theorem law_walk {l : PySem.W.OpenLaw} {k : Nat} {q : Program} {loose : List Str} {XP : (Str → Option Value) → Heap → Prop} {YP : World → Heap → Prop} {d : DefRec} {K : Params → PySem.W.Frag} (hn : l.most = some 63) (hdf : d.params.defaults = []) (hr : Room k callerA)
    (hY : ∀ (w : World) (h : Heap), YP w h → (K w.params).In h)
    (F : ∀ (w : World) (mg : Str → Option Value) (fa : Addr) (h : Heap), (K w.params).In h → h.Ns mainGlobals mg → mg d.name = some (.ref fa) →
      ∃ fd : FuncData, (∀ (s : Shared) (u : Value), BindsTo s fd ⟨[u], []⟩ [("script", u)]) ∧ ∀ base : Heap, (K w.params).In base → base.Ns mainGlobals mg → FnOk l.prog w (K w.params) mg base (L2.CX l.prog w) k fa fd ["script"] (spLaw (K w.params))) :
    PySem.W.WalkO q loose XP YP l.row.toRowW d [] (fun f vs => PySem.call f vs) :=
  L2.walk_of (n := 63) (k := k) (x := "script") (CX := fun w => L2.CX l.prog w) (sp := fun w => spLaw (K w.params)) hn (by decide) hdf hr hY F (fun _ _ a ns hl _ hS => ⟨a, ns, rfl, hS, hl, fun _ => rfl⟩) fun _ _ _ _ _ z => no_law z
end
section
variable {X : Cx} {W : WX} {e : Expr} {es : List Expr} {x : Str} {p pos : Pos} {fa : En → R (List D)} {k n : Nat} {g : List D → R D}
def fCall (n : Nat) (g : List D → R D) (fa : En → R (List D)) : En → R D := fun ρ => (fa ρ).bind fun ds => if ds.length = n then g ds else .bad
theorem re_call {j : Nat} (d : Def X.prog X.w X.K X.mg X.base x k n g) (b : Bq X W j) (hj : k ≤ j) (hg : Gl X x) (ha : RA X W (e :: es) fa)
    (hdb : (x == ("__debug__" : Str)) = false := by decide) (he : starEach (e :: es) X.env = (false, eval e X.env) :: starEach es X.env := by rfl) (hpl : (backTo pos (starEach es X.env)).any (·.1) = false := by rfl) :
    RE X W (.Call (.Name x p) (e :: es) [] pos) (fCall n g fa) := fun B F0 F H σ ρ Q x0 hw => by
  obtain ⟨f, fd, ps, F1, hm, hk, hb⟩ := d.ex
  refine ⟨_, pe_call (E := fun c dd H => W c dd [] H) F1 (b.hr.mono hj) hg hm hk hb .nil (passes_call b.tk fun c dd σ H h => b.hW c dd [] σ H h) (pa_W _) hdb he hpl, ?_⟩
  refine ha B F0 F H σ ρ _ x0 ((Want.bind (r := fa ρ) hw).imp fun ds F1 H1 g1 k vs r => ?_)
  obtain ⟨hc, k⟩ := ifW k
  rw [List.append_nil]
  refine ⟨by rw [← r.length]; exact hc, ds, F1, g1.fh, r, ?_⟩
  cases hg : g ds with
  | ok d => rw [hg] at k; exact k
  | bad => rw [hg] at k; exact k
  | ex y => rw [hg] at k; exact fun C dd F' H' g' e' => b.hW _ _ _ _ _ (k C dd F' H' g' e')
/-- in a comprehension's block -/
theorem Bq.blk {j : Nat} (b : Bq X W j) (s : Shared) (H : Hp) (scope : Scope) (cenv : Env) (fp : List Addr) : Bq (X.blk s H scope cenv fp) WF j :=
  ⟨b.hr, takes0, fun _ _ _ _ _ h => h, b.hc, b.hu⟩
def fL (f : En → R (List D)) : En → R D := fun ρ => (f ρ).bind fun ds => .ok (.lst ds)
theorem rfe {f : En → R (List D)} (h : RF X W e f) : RE X W e (fL f) := RF.re h

/-! ### built-in functions -/
def CallD (X : Cx) (r : List V → Hp → VK → Prop) (g : List D → R D) : Prop := ∀ F H ds vs (Q : VK) (e : Value → Option Addr → Hp → Prop), Same F H → BReps X.K X.w F H ds vs →
  Want X.K X.w X.mg (g ds) F H (fun d F' H' => ∀ v, Rep X.K X.w F' d v → Q v H') e → r vs H Q
def CallF (X : Cx) (r : List V → Hp → VK → Prop) (g : List D → R (List D)) : Prop := ∀ F H ds vs (Q : VK) (e : Value → Option Addr → Hp → Prop), Same F H → BReps X.K X.w F H ds vs →
  Want X.K X.w X.mg (g ds) F H (fun es F' H' => ∀ p xs, H p = none → F' p = none → H' p = some (.lst xs) → Reps X.K X.w F' es xs → Q (.ref p) H') e → r vs H Q
def fBi {α : Type} (g : List D → R α) (fa : En → R (List D)) : En → R α := fun ρ => (fa ρ).bind g
variable {r : List V → Hp → VK → Prop} {id : String}
theorem re_bi {g : List D → R D} (hc : CallR X (.builtin id) r) (hd : CallD X r g) (hg : Gl X x) (hm : X.mg x = none) (hv : bootBuiltins x = some (.builtin id)) (ha : RAB X W (e :: es) fa) (hn : x ≠ "__name__" := by decide) (hdb : (x == ("__debug__" : Str)) = false := by decide)
    (he : starEach (e :: es) X.env = (false, eval e X.env) :: starEach es X.env := by rfl) (hpl : (backTo pos (starEach es X.env)).any (·.1) = false := by rfl) : RE X W (.Call (.Name x p) (e :: es) [] pos) (fBi g fa) := fun B F0 F H σ ρ Q x0 hw => by
  refine ⟨_, pe_callB hc hg hm hv (pa_W _) hn hdb he hpl, ?_⟩
  exact ha B F0 F H σ ρ _ x0 ((Want.bind (r := fa ρ) hw).imp fun ds F1 H1 g1 k vs r => hd F1 H1 ds vs Q _ g1.fh r k)
theorem re_bfun {g : List D → R D} (hc : CallR X (.builtin id) r) (hd : CallD X r g) (hg : Gl X x) (hm : X.mg x = some (.builtin id)) (ha : RAB X W (e :: es) fa) (hdb : (x == ("__debug__" : Str)) = false := by decide)
    (he : starEach (e :: es) X.env = (false, eval e X.env) :: starEach es X.env := by rfl) (hpl : (backTo pos (starEach es X.env)).any (·.1) = false := by rfl) : RE X W (.Call (.Name x p) (e :: es) [] pos) (fBi g fa) := fun B F0 F H σ ρ Q x0 hw => by
  refine ⟨_, pe_callBfun hc hg hm (pa_W _) hdb he hpl, ?_⟩
  exact ha B F0 F H σ ρ _ x0 ((Want.bind (r := fa ρ) hw).imp fun ds F1 H1 g1 k vs r => hd F1 H1 ds vs Q _ g1.fh r k)
theorem re_ty {g : List D → R D} (hc : CallR X (.type id) r) (hd : CallD X r g) (hg : Gl X x) (hm : X.mg x = none) (hv : bootBuiltins x = some (.type id)) (ha : RAB X W (e :: es) fa) (hn : x ≠ "__name__" := by decide) (hdb : (x == ("__debug__" : Str)) = false := by decide)
    (he : starEach (e :: es) X.env = (false, eval e X.env) :: starEach es X.env := by rfl) (hpl : (backTo pos (starEach es X.env)).any (·.1) = false := by rfl) : RE X W (.Call (.Name x p) (e :: es) [] pos) (fBi g fa) := fun B F0 F H σ ρ Q x0 hw => by
  refine ⟨_, pe_callTy hc hg hm hv (pa_W _) hn hdb he hpl, ?_⟩
  exact ha B F0 F H σ ρ _ x0 ((Want.bind (r := fa ρ) hw).imp fun ds F1 H1 g1 k vs r => hd F1 H1 ds vs Q _ g1.fh r k)
/-- a new list is told by its place at the call -/
theorem callF_step {fa : En → R (List D)} {g : List D → R (List D)} (hd : CallF X r g) (ha : RAB X W (e :: es) fa) {B F0 F H : Hp} {σ : St} {ρ : En} {Q : VK} (x0 : EOk X.K X.w B F0 F H σ ρ)
    (hw : Want X.K X.w X.mg ((fa ρ).bind g) F H (fun ds F' H' => ∀ p xs, H p = none → F' p = none → H' p = some (.lst xs) → Reps X.K X.w F' ds xs → Q (.ref p) H') (fun C dd H' => W C dd σ H')) : WA X (e :: es) σ H fun vs H1 => r vs H1 Q := by
  refine ha B F0 F H σ ρ _ x0 ((Want.bind hw).imp fun ds F1 H1 g1 k vs r => ?_)
  exact hd F1 H1 ds vs Q _ g1.fh r (k.imp fun es F2 H2 g2 k2 p xs h1 h2 h3 h4 => k2 p xs (g1.hh.free h1) h2 h3 h4)
theorem rf_bi {g : List D → R (List D)} (hc : CallR X (.builtin id) r) (hd : CallF X r g) (hg : Gl X x) (hm : X.mg x = none) (hv : bootBuiltins x = some (.builtin id)) (ha : RAB X W (e :: es) fa) (hn : x ≠ "__name__" := by decide) (hdb : (x == ("__debug__" : Str)) = false := by decide)
    (he : starEach (e :: es) X.env = (false, eval e X.env) :: starEach es X.env := by rfl) (hpl : (backTo pos (starEach es X.env)).any (·.1) = false := by rfl) : RF X W (.Call (.Name x p) (e :: es) [] pos) (fBi g fa) := fun B F0 F H σ ρ Q x0 hw =>
  ⟨_, pe_callB hc hg hm hv (pa_W _) hn hdb he hpl, callF_step hd ha x0 hw⟩
theorem rf_ty {g : List D → R (List D)} (hc : CallR X (.type id) r) (hd : CallF X r g) (hg : Gl X x) (hm : X.mg x = none) (hv : bootBuiltins x = some (.type id)) (ha : RAB X W (e :: es) fa) (hn : x ≠ "__name__" := by decide) (hdb : (x == ("__debug__" : Str)) = false := by decide)
    (he : starEach (e :: es) X.env = (false, eval e X.env) :: starEach es X.env := by rfl) (hpl : (backTo pos (starEach es X.env)).any (·.1) = false := by rfl) : RF X W (.Call (.Name x p) (e :: es) [] pos) (fBi g fa) := fun B F0 F H σ ρ Q x0 hw =>
  ⟨_, pe_callTy hc hg hm hv (pa_W _) hn hdb he hpl, callF_step hd ha x0 hw⟩
theorem BReps.one {K : PySem.W.Frag} {w : World} {F H : Hp} {d : D} {vs : List V} (h : BReps K w F H [d] vs) : ∃ v, vs = [v] ∧ BRep K w F H d v := by
  cases h with | cons h1 h2 => cases h2; exact ⟨_, rfl, h1⟩
theorem BReps.two {K : PySem.W.Frag} {w : World} {F H : Hp} {d e : D} {vs : List V} (h : BReps K w F H [d, e] vs) : ∃ v u, vs = [v, u] ∧ BRep K w F H d v ∧ BRep K w F H e u := by
  cases h with | cons h1 h2 => cases h2 with | cons h2 h3 => cases h3; exact ⟨_, _, rfl, h1, h2⟩
/-- len -/
def lenD : List D → R D
  | [.lst ds] => .ok (.int ds.length)
  | [.tup ds] => .ok (.int ds.length)
  | [.scr ds] => .ok (.int ds.length)
  | [.str z] => if z.length ≤ lim then .ok (.int z.length) else .bad
  | _ => .bad
abbrev rLen (K : PySem.W.Frag) : List V → Hp → VK → Prop := fun xs H Q => (∃ p ys, xs = [.ref p] ∧ (SqL K H p ys ∨ SqT K H p ys) ∧ Q (.int ys.length) H) ∨ ∃ z, xs = [.str z] ∧ z.length ≤ sizeLine ∧ Q (.int z.length) H
theorem c_len : CallR X (.builtin "len") (rLen X.K) := call_len_seq.or call_len_str
theorem d_len : CallD X (rLen X.K) lenD := by
  intro F H ds vs Q e s r hw
  unfold lenD at hw
  split at hw
  · obtain ⟨v, rfl, b⟩ := r.one
    obtain ⟨a, xs, rfl, h1, h2⟩ := b.lst s
    exact .inl ⟨a, xs, rfl, .inl (SqL.of h1), by rw [← h2.length]; exact hw F H (Grow.refl s) _ (.int _)⟩
  · obtain ⟨v, rfl, b⟩ := r.one
    obtain ⟨a, xs, rfl, h1, h2⟩ := b.tup s
    exact .inl ⟨a, xs, rfl, .inr h1, by rw [← h2.length]; exact hw F H (Grow.refl s) _ (.int _)⟩
  · obtain ⟨v, rfl, b⟩ := r.one
    obtain ⟨a, rfl, h1⟩ := b.scr s
    exact .inl ⟨a, _, rfl, .inl h1, by rw [List.length_map]; exact hw F H (Grow.refl s) _ (.int _)⟩
  · obtain ⟨v, rfl, b⟩ := r.one
    cases b.str
    obtain ⟨hc, hw⟩ := ifW hw
    exact .inr ⟨_, rfl, lim_le hc, hw F H (Grow.refl s) _ (.int _)⟩
  · exact hw.elim
/-- abs, int -/
def absD : List D → R D
  | [.int i] => .ok (.int (if i < 0 then -i else i))
  | _ => .bad
theorem d_abs : CallD X (fun xs H Q => ∃ i, xs = [.int i] ∧ Q (.int (if i < 0 then -i else i)) H) absD := by
  intro F H ds vs Q e s r hw
  unfold absD at hw
  split at hw
  · obtain ⟨v, rfl, b⟩ := r.one
    cases b.int
    exact ⟨_, rfl, hw F H (Grow.refl s) _ (.int _)⟩
  · exact hw.elim
def intD : List D → R D
  | [.int i] => .ok (.int i)
  | [.bl k] => .ok (.int (if k then 1 else 0))
  | _ => .bad
theorem d_int : CallD X (fun xs H Q => (∃ i, xs = [.int i] ∧ Q (.int i) H) ∨ ∃ k, xs = [.bl k] ∧ Q (.int (if k then 1 else 0)) H) intD := by
  intro F H ds vs Q e s r hw
  unfold intD at hw
  split at hw
  · obtain ⟨v, rfl, b⟩ := r.one
    cases b.int
    exact .inl ⟨_, rfl, hw F H (Grow.refl s) _ (.int _)⟩
  · obtain ⟨v, rfl, b⟩ := r.one
    cases b.bl
    exact .inr ⟨_, rfl, hw F H (Grow.refl s) _ (.int _)⟩
  · exact hw.elim
/-- the ints of a list -/
def D.ints : List D → Option (List Int)
  | [] => some []
  | .int i :: ds => (D.ints ds).map (i :: ·)
  | _ => none
theorem ints_ok : ∀ {ds : List D} {ns : List Int}, D.ints ds = some ns → ds = ns.map .int
  | [], _, h => by cases h; rfl
  | .int i :: ds, _, h => by
    simp only [D.ints, Option.map_eq_some_iff] at h
    obtain ⟨ns, e1, rfl⟩ := h
    rw [ints_ok e1]; rfl
theorem ints_map (ns : List Int) : D.ints (ns.map .int) = some ns := by
  induction ns with
  | nil => rfl
  | cons n ns ih => simp [D.ints, ih]
def minL : List Int → Int
  | [] => 0
  | x :: xs => xs.foldl (fun a y => if y < a then y else a) x
def maxL : List Int → Int
  | [] => 0
  | x :: xs => xs.foldl (fun a y => if a < y then y else a) x
theorem fmin_le : ∀ (xs : List Int) (x : Int), xs.foldl (fun a y => if y < a then y else a) x ≤ x ∧ (∀ y ∈ xs, xs.foldl (fun a y => if y < a then y else a) x ≤ y) ∧ (xs.foldl (fun a y => if y < a then y else a) x = x ∨ xs.foldl (fun a y => if y < a then y else a) x ∈ xs) := fun xs => by
  induction xs with
  | nil => exact fun x => ⟨Int.le_refl x, (fun _ h => by cases h), .inl rfl⟩
  | cons y xs ih =>
    intro x
    rw [List.foldl_cons]
    by_cases h : y < x
    · rw [if_pos h]
      obtain ⟨h1, h2, h3⟩ := ih y
      refine ⟨by omega, fun z hz => ?_, .inr ?_⟩
      · rcases List.mem_cons.mp hz with rfl | hz
        · exact h1
        · exact h2 z hz
      · rcases h3 with h3 | h3
        · rw [h3]; exact List.mem_cons_self
        · exact List.mem_cons_of_mem _ h3
    · rw [if_neg h]
      obtain ⟨h1, h2, h3⟩ := ih x
      refine ⟨h1, fun z hz => ?_, ?_⟩
      · rcases List.mem_cons.mp hz with rfl | hz
        · omega
        · exact h2 z hz
      · rcases h3 with h3 | h3
        · exact .inl h3
        · exact .inr (List.mem_cons_of_mem _ h3)
theorem fmax_le : ∀ (xs : List Int) (x : Int), x ≤ xs.foldl (fun a y => if a < y then y else a) x ∧ (∀ y ∈ xs, y ≤ xs.foldl (fun a y => if a < y then y else a) x) ∧ (xs.foldl (fun a y => if a < y then y else a) x = x ∨ xs.foldl (fun a y => if a < y then y else a) x ∈ xs) := fun xs => by
  induction xs with
  | nil => exact fun x => ⟨Int.le_refl x, (fun _ h => by cases h), .inl rfl⟩
  | cons y xs ih =>
    intro x
    rw [List.foldl_cons]
    by_cases h : x < y
    · rw [if_pos h]
      obtain ⟨h1, h2, h3⟩ := ih y
      refine ⟨by omega, fun z hz => ?_, .inr ?_⟩
      · rcases List.mem_cons.mp hz with rfl | hz
        · exact h1
        · exact h2 z hz
      · rcases h3 with h3 | h3
        · rw [h3]; exact List.mem_cons_self
        · exact List.mem_cons_of_mem _ h3
    · rw [if_neg h]
      obtain ⟨h1, h2, h3⟩ := ih x
      refine ⟨h1, fun z hz => ?_, ?_⟩
      · rcases List.mem_cons.mp hz with rfl | hz
        · omega
        · exact h2 z hz
      · rcases h3 with h3 | h3
        · exact .inl h3
        · exact .inr (List.mem_cons_of_mem _ h3)
theorem minL_le {ns : List Int} {y : Int} (h : y ∈ ns) : minL ns ≤ y := by
  cases ns with
  | nil => cases h
  | cons x xs =>
    rcases List.mem_cons.mp h with rfl | h
    · exact (fmin_le xs _).1
    · exact (fmin_le xs x).2.1 y h
theorem minL_mem {ns : List Int} (h : ns ≠ []) : minL ns ∈ ns := by
  cases ns with
  | nil => exact absurd rfl h
  | cons x xs =>
    rcases (fmin_le xs x).2.2 with e | e
    · show xs.foldl _ x ∈ _
      rw [e]; exact List.mem_cons_self
    · exact List.mem_cons_of_mem _ e
theorem le_maxL {ns : List Int} {y : Int} (h : y ∈ ns) : y ≤ maxL ns := by
  cases ns with
  | nil => cases h
  | cons x xs =>
    rcases List.mem_cons.mp h with rfl | h
    · exact (fmax_le xs _).1
    · exact (fmax_le xs x).2.1 y h
theorem maxL_mem {ns : List Int} (h : ns ≠ []) : maxL ns ∈ ns := by
  cases ns with
  | nil => exact absurd rfl h
  | cons x xs =>
    rcases (fmax_le xs x).2.2 with e | e
    · show xs.foldl _ x ∈ _
      rw [e]; exact List.mem_cons_self
    · exact List.mem_cons_of_mem _ e
def minD : List D → R D
  | [.int i, .int j] => .ok (.int (if j < i then j else i))
  | [.lst ds] => match D.ints ds with
    | some (n :: ns) => .ok (.int (minL (n :: ns)))
    | _ => .bad
  | _ => .bad
def maxD : List D → R D
  | [.int i, .int j] => .ok (.int (if j > i then j else i))
  | [.lst ds] => match D.ints ds with
    | some (n :: ns) => .ok (.int (maxL (n :: ns)))
    | _ => .bad
  | _ => .bad
abbrev rMinX (K : PySem.W.Frag) : List V → Hp → VK → Prop := fun xs H Q => (∃ i j, xs = [.int i, .int j] ∧ Q (.int (if j < i then j else i)) H) ∨ rMin K xs H Q
abbrev rMaxX (K : PySem.W.Frag) : List V → Hp → VK → Prop := fun xs H Q => (∃ i j, xs = [.int i, .int j] ∧ Q (.int (if j > i then j else i)) H) ∨ rMax K xs H Q
theorem c_min (hc : X.calm = true) : CallR X (.builtin "min") (rMinX X.K) := (call_min2 hc).or (cr_min hc)
theorem c_max (hc : X.calm = true) : CallR X (.builtin "max") (rMaxX X.K) := (call_max2 hc).or (cr_max hc)
theorem d_min : CallD X (rMinX X.K) minD := by
  intro F H ds vs Q e s r hw
  unfold minD at hw
  split at hw
  · obtain ⟨v, u, rfl, b, c⟩ := r.two
    cases b.int; cases c.int
    exact .inl ⟨_, _, rfl, hw F H (Grow.refl s) _ (.int _)⟩
  · obtain ⟨v, rfl, b⟩ := r.one
    obtain ⟨a, xs, rfl, h1, h2⟩ := b.lst s
    split at hw
    · rename_i n ns hn
      have e1 := ints_ok hn
      subst e1
      have e2 := h2.intsV
      subst e2
      refine .inr ⟨a, _, rfl, SqL.of h1, Nat.succ_pos _, fun m hm hle => ?_⟩
      have e3 : m = minL (n :: ns) := Int.le_antisymm (hle _ (minL_mem (by simp))) (minL_le hm)
      rw [e3]
      exact hw F H (Grow.refl s) _ (.int _)
    · exact hw.elim
  · exact hw.elim
theorem d_max : CallD X (rMaxX X.K) maxD := by
  intro F H ds vs Q e s r hw
  unfold maxD at hw
  split at hw
  · obtain ⟨v, u, rfl, b, c⟩ := r.two
    cases b.int; cases c.int
    exact .inl ⟨_, _, rfl, hw F H (Grow.refl s) _ (.int _)⟩
  · obtain ⟨v, rfl, b⟩ := r.one
    obtain ⟨a, xs, rfl, h1, h2⟩ := b.lst s
    split at hw
    · rename_i n ns hn
      have e1 := ints_ok hn
      subst e1
      have e2 := h2.intsV
      subst e2
      refine .inr ⟨a, _, rfl, SqL.of h1, Nat.succ_pos _, fun m hm hle => ?_⟩
      have e3 : m = maxL (n :: ns) := Int.le_antisymm (le_maxL hm) (hle _ (maxL_mem (by simp)))
      rw [e3]
      exact hw F H (Grow.refl s) _ (.int _)
    · exact hw.elim
  · exact hw.elim
end
end Pc
set_option maxHeartbeats 4000000
namespace Pc
open PySem L2
/-! ### sorting ints -/
def ins (n : Int) : List Int → List Int
  | [] => [n]
  | x :: xs => if n ≤ x then n :: x :: xs else x :: ins n xs
def isort : List Int → List Int
  | [] => []
  | x :: xs => ins x (isort xs)
theorem ins_perm (n : Int) : ∀ xs : List Int, (ins n xs).Perm (n :: xs)
  | [] => .refl _
  | x :: xs => by
    unfold ins
    split
    · exact .refl _
    · exact ((ins_perm n xs).cons x).trans (.swap n x xs)
theorem isort_perm : ∀ xs : List Int, (isort xs).Perm xs
  | [] => .refl _
  | x :: xs => (ins_perm x _).trans ((isort_perm xs).cons x)
theorem ins_sorted (n : Int) : ∀ {xs : List Int}, xs.Pairwise (· ≤ ·) → (ins n xs).Pairwise (· ≤ ·)
  | [], _ => List.pairwise_singleton _ _
  | x :: xs, h => by
    unfold ins
    split
    · rename_i hn
      refine List.pairwise_cons.mpr ⟨fun y hy => ?_, h⟩
      rcases List.mem_cons.mp hy with rfl | hy
      · exact hn
      · have := (List.pairwise_cons.mp h).1 y hy
        omega
    · rename_i hn
      refine List.pairwise_cons.mpr ⟨fun y hy => ?_, ins_sorted n (List.pairwise_cons.mp h).2⟩
      rcases List.mem_cons.mp ((ins_perm n xs).mem_iff.mp hy) with rfl | hy
      · omega
      · exact (List.pairwise_cons.mp h).1 y hy
theorem isort_sorted : ∀ xs : List Int, (isort xs).Pairwise (· ≤ ·)
  | [] => .nil
  | x :: xs => ins_sorted x (isort_sorted xs)
theorem sorted_same {a b : List Int} (hp : a.Perm b) (ha : a.Pairwise (· ≤ ·)) (hb : b.Pairwise (· ≤ ·)) : a = b := hp.eq_of_pairwise (fun _ _ _ _ h1 h2 => Int.le_antisymm h1 h2) ha hb
/-- the members, each once, ascending -/
def uins (n : Int) : List Int → List Int
  | [] => [n]
  | x :: xs => if n < x then n :: x :: xs else if n = x then x :: xs else x :: uins n xs
def usort : List Int → List Int
  | [] => []
  | x :: xs => uins x (usort xs)
theorem uins_mem (n k : Int) : ∀ {xs : List Int}, k ∈ uins n xs ↔ k = n ∨ k ∈ xs
  | [] => by simp [uins]
  | x :: xs => by
    unfold uins
    split
    · simp
    · split
      · rename_i h; subst h; simp
      · rw [List.mem_cons, uins_mem n k, List.mem_cons]
        exact ⟨fun h => by rcases h with h | h | h <;> simp [h], fun h => by rcases h with h | h | h <;> simp [h]⟩
theorem usort_mem (k : Int) : ∀ {xs : List Int}, k ∈ usort xs ↔ k ∈ xs
  | [] => by simp [usort]
  | x :: xs => by
    unfold usort
    rw [uins_mem, usort_mem k, List.mem_cons]
theorem uins_sorted (n : Int) : ∀ {xs : List Int}, xs.Pairwise (· < ·) → (uins n xs).Pairwise (· < ·)
  | [], _ => List.pairwise_singleton _ _
  | x :: xs, h => by
    unfold uins
    split
    · rename_i hn
      refine List.pairwise_cons.mpr ⟨fun y hy => ?_, h⟩
      rcases List.mem_cons.mp hy with rfl | hy
      · exact hn
      · have := (List.pairwise_cons.mp h).1 y hy
        omega
    · split
      · exact h
      · refine List.pairwise_cons.mpr ⟨fun y hy => ?_, uins_sorted n (List.pairwise_cons.mp h).2⟩
        rcases (uins_mem n y).mp hy with rfl | hy
        · omega
        · exact (List.pairwise_cons.mp h).1 y hy
theorem usort_sorted : ∀ xs : List Int, (usort xs).Pairwise (· < ·)
  | [] => .nil
  | x :: xs => uins_sorted x (usort_sorted xs)
theorem lt_same {a b : List Int} (ha : a.Pairwise (· < ·)) (hb : b.Pairwise (· < ·)) (h : ∀ k, k ∈ a ↔ k ∈ b) : a = b := by
  have na : a.Nodup := ha.imp fun h => by omega
  have nb : b.Nodup := hb.imp fun h => by omega
  exact sorted_same ((List.perm_ext_iff_of_nodup na nb).mpr h) (ha.imp fun h => by omega) (hb.imp fun h => by omega)
section
variable {X : Cx} {W : WX} {e : Expr} {es : List Expr} {x : Str} {p pos : Pos} {fa : En → R (List D)}
def sortedL : List D → R (List D)
  | [.lst ds] => match D.ints ds with
    | some ns => .ok ((isort ns).map .int)
    | none => .bad
  | [.st is] => if is.length < 64 then .ok ((usort is).map .int) else .bad
  | _ => .bad
abbrev rSrt (K : PySem.W.Frag) (w : World) : List V → Hp → VK → Prop := fun xs H Q => rSortedI K xs H Q ∨ rSortedSet w xs H Q
theorem c_sorted (hc : X.calm = true) : CallR X (.builtin "sorted") (rSrt X.K X.w) := cr_sortedI.or (cr_sortedSet hc)
theorem d_sorted : CallF X (rSrt X.K X.w) sortedL := by
  intro F H ds vs Q e s r hw
  unfold sortedL at hw
  split at hw
  · obtain ⟨v, rfl, b⟩ := r.one
    obtain ⟨a, xs, rfl, h1, h2⟩ := b.lst s
    split at hw
    · rename_i ns hn
      have e1 := ints_ok hn
      subst e1
      have e2 := h2.intsV
      subst e2
      refine .inl ⟨a, ns, rfl, SqL.of h1, fun ns' p hp hs hf => ?_⟩
      have e3 : ns' = isort ns := sorted_same (hp.trans (isort_perm ns).symm) hs (isort_sorted ns)
      subst e3
      exact hw F _ ((Grow.refl s).lay hf) p _ hf (s.free hf) upd_same (Reps.ints _)
    · exact hw.elim
  · rename_i is
    obtain ⟨v, rfl, b⟩ := r.one
    obtain ⟨a, S, n, rfl, h1, h2, h3⟩ := b.st s
    obtain ⟨hc, hw⟩ := ifW hw
    refine .inr ⟨a, S, n, rfl, h1, Nat.lt_of_le_of_lt h3 hc, fun ns p hs hm _ hf => ?_⟩
    have e3 : ns = usort is := lt_same hs (usort_sorted _) fun k => by rw [hm, h2, usort_mem]; simp
    subst e3
    exact hw F _ ((Grow.refl s).lay hf) p _ hf (s.free hf) upd_same (Reps.ints _)
  · exact hw.elim
/-- set(l) of a list of ints -/
def setD : List D → R D
  | [.lst ds] => match D.ints ds with
    | some ns => if ns.length ≤ 1000 then .ok (.st ns) else .bad
    | none => .bad
  | _ => .bad
def rSetL' (K : PySem.W.Frag) (w : World) : List V → Hp → VK → Prop := fun xs H Q => ∃ (a : Addr) (ns : List Int), xs = [.ref a] ∧ SqL K H a (ns.map V.int) ∧ ns.length ≤ 1000 ∧
  ∀ (p : Addr) (c : Nat), H p = none → c ≤ ns.length → Q (.ref p) (upd H p (SetO w p (fun j => decide (j ∈ ns)) c))
theorem c_set (hc : X.calm = true) : CallR X (.type "set") (rSetL' X.K X.w) := by
  intro pins s σ H xs us Q I r h
  obtain ⟨a, ns, rfl, hs, hn, q⟩ := h
  obtain ⟨its, rv, hl, _⟩ := I.list hs
  rw [Vals.ref1 r]
  refine set_of_list ns (I.ok.hd hc) hl.isList rv.ints (by have : (scanBound : Nat) > 2000 := by decide
                                                           omega) fun h' tk c hS hc' hk => ?_
  have hf : H s.heap.objs.size = none := I.hok.fresh (Nat.le_refl _)
  exact ⟨.ref _, _, I.laid (t' := tk) hk (Nat.le_refl _) (setO_new hS), rfl, q _ c hf hc'⟩
theorem d_set : CallD X (rSetL' X.K X.w) setD := by
  intro F H ds vs Q e s r hw
  unfold setD at hw
  split at hw
  · obtain ⟨v, rfl, b⟩ := r.one
    obtain ⟨a, xs, rfl, h1, h2⟩ := b.lst s
    split at hw
    · rename_i ns hn
      have e1 := ints_ok hn
      subst e1
      have e2 := h2.intsV
      subst e2
      obtain ⟨hc, hw⟩ := ifW hw
      refine ⟨a, ns, rfl, SqL.of h1, hc, fun p c hf hc' => ?_⟩
      have g := (Grow.refl s).new (o := SetO X.w p (fun j => decide (j ∈ ns)) c) hf
      exact hw _ _ g _ (.st upd_same (fun _ => rfl) hc')
    · exact hw.elim
  · exact hw.elim
/-- list(l), tuple(l) -/
def listL : List D → R (List D)
  | [.lst ds] => .ok ds
  | [.tup ds] => .ok ds
  | [.scr ns] => .ok (ns.map .int)
  | _ => .bad
theorem d_list : CallF X (fun xs H Q => ∃ p ys, xs = [.ref p] ∧ (SqL X.K H p ys ∨ SqT X.K H p ys) ∧ ∀ l, H l = none → Q (.ref l) (upd H l (.lst ys))) listL := by
  intro F H ds vs Q e s r hw
  unfold listL at hw
  split at hw
  · obtain ⟨v, rfl, b⟩ := r.one
    obtain ⟨a, xs, rfl, h1, h2⟩ := b.lst s
    exact ⟨a, xs, rfl, .inl (SqL.of h1), fun l hl => hw F _ ((Grow.refl s).lay hl) l _ hl (s.free hl) upd_same h2⟩
  · obtain ⟨v, rfl, b⟩ := r.one
    rcases b with b | ⟨_, _, _, _, h, _⟩
    · cases b with | tup h1 h2 =>
      exact ⟨_, _, rfl, .inr (Same.tup s h1), fun l hl => hw F _ ((Grow.refl s).lay hl) l _ hl (s.free hl) upd_same h2⟩
    · cases h
  · obtain ⟨v, rfl, b⟩ := r.one
    obtain ⟨a, rfl, h1⟩ := b.scr s
    exact ⟨a, _, rfl, .inl h1, fun l hl => hw F _ ((Grow.refl s).lay hl) l _ hl (s.free hl) upd_same (Reps.ints _)⟩
  · exact hw.elim
def tupleD : List D → R D
  | [.lst ds] => .ok (.tup ds)
  | [.tup ds] => .ok (.tup ds)
  | _ => .bad
theorem d_tuple : CallD X (fun xs H Q => ∃ p ys, xs = [.ref p] ∧ ((SqL X.K H p ys ∧ ∀ l, H l = none → Q (.ref l) (upd H l (.tup ys))) ∨ (SqT X.K H p ys ∧ Q (.ref p) H))) tupleD := by
  intro F H ds vs Q e s r hw
  unfold tupleD at hw
  split at hw
  · obtain ⟨v, rfl, b⟩ := r.one
    obtain ⟨a, xs, rfl, h1, h2⟩ := b.lst s
    refine ⟨a, xs, rfl, .inl ⟨SqL.of h1, fun l hl => ?_⟩⟩
    have g := (Grow.refl s).new (o := .tup xs) hl
    exact hw _ _ g _ (.tup (.inl (.inl upd_same)) (Reps.mono g.ff _ _ h2))
  · obtain ⟨v, rfl, b⟩ := r.one
    rcases b with b | ⟨_, _, _, _, h, _⟩
    · cases b with | tup h1 h2 =>
      exact ⟨_, _, rfl, .inr ⟨Same.tup s h1, hw F H (Grow.refl s) _ (.tup h1 h2)⟩⟩
    · cases h
  · exact hw.elim
/-- all, any -/
def D.bls : List D → Option (List Bool)
  | [] => some []
  | .bl i :: ds => (D.bls ds).map (i :: ·)
  | _ => none
theorem bls_ok : ∀ {ds : List D} {ns : List Bool}, D.bls ds = some ns → ds = ns.map .bl
  | [], _, h => by cases h; rfl
  | .bl i :: ds, _, h => by
    simp only [D.bls, Option.map_eq_some_iff] at h
    obtain ⟨ns, e1, rfl⟩ := h
    rw [bls_ok e1]; rfl
theorem bls_map (ns : List Bool) : D.bls (ns.map .bl) = some ns := by
  induction ns with
  | nil => rfl
  | cons n ns ih => simp [D.bls, ih]
def allD : List D → R D
  | [.lst ds] => match D.bls ds with
    | some bs => .ok (.bl (bs.all id))
    | none => .bad
  | _ => .bad
def anyD : List D → R D
  | [.lst ds] => match D.bls ds with
    | some bs => .ok (.bl (bs.any id))
    | none => .bad
  | _ => .bad
theorem d_all : CallD X (rAll X.K) allD := by
  intro F H ds vs Q e s r hw
  unfold allD at hw
  split at hw
  · obtain ⟨v, rfl, b⟩ := r.one
    obtain ⟨a, xs, rfl, h1, h2⟩ := b.lst s
    split at hw
    · rename_i ns hn
      have e1 := bls_ok hn
      subst e1
      have e2 := h2.boolsV
      subst e2
      exact ⟨a, ns, rfl, SqL.of h1, hw F H (Grow.refl s) _ (.bl _)⟩
    · exact hw.elim
  · exact hw.elim
theorem d_any : CallD X (rAny X.K) anyD := by
  intro F H ds vs Q e s r hw
  unfold anyD at hw
  split at hw
  · obtain ⟨v, rfl, b⟩ := r.one
    obtain ⟨a, xs, rfl, h1, h2⟩ := b.lst s
    split at hw
    · rename_i ns hn
      have e1 := bls_ok hn
      subst e1
      have e2 := h2.boolsV
      subst e2
      exact ⟨a, ns, rfl, SqL.of h1, hw F H (Grow.refl s) _ (.bl _)⟩
    · exact hw.elim
  · exact hw.elim
def sumD : List D → R D
  | [.lst ds] => match D.ints ds with
    | some ns => .ok (.int ns.sum)
    | none => .bad
  | _ => .bad
theorem d_sum : CallD X (rSum X.K) sumD := by
  intro F H ds vs Q e s r hw
  unfold sumD at hw
  split at hw
  · obtain ⟨v, rfl, b⟩ := r.one
    obtain ⟨a, xs, rfl, h1, h2⟩ := b.lst s
    split at hw
    · rename_i ns hn
      have e1 := ints_ok hn
      subst e1
      have e2 := h2.intsV
      subst e2
      exact ⟨a, ns, rfl, SqL.of h1, hw F H (Grow.refl s) _ (.int _)⟩
    · exact hw.elim
  · exact hw.elim
def gcdD : List D → R D
  | [.int a, .int b] => .ok (.int ((Nat.gcd a.natAbs b.natAbs : Nat) : Int))
  | _ => .bad
theorem d_gcd : CallD X rGcd gcdD := by
  intro F H ds vs Q e s r hw
  unfold gcdD at hw
  split at hw
  · obtain ⟨v, u, rfl, b, c⟩ := r.two
    cases b.int; cases c.int
    exact ⟨_, _, rfl, hw F H (Grow.refl s) _ (.int _)⟩
  · exact hw.elim
/-- isinstance(x, T), T a built-in class -/
inductive Tn where
  | int | bool | str | list | tuple
def Tn.name : Tn → String
  | .int => "int" | .bool => "bool" | .str => "str" | .list => "list" | .tuple => "tuple"
def isT : Tn → D → R Bool
  | .int, .int _ => .ok true
  | .int, .bl _ => .ok true
  | .bool, .bl _ => .ok true
  | .str, .str _ => .ok true
  | .list, .lst _ => .ok true
  | .tuple, .tup _ => .ok true
  | _, .st _ => .bad
  | _, .scr _ => .bad
  | _, _ => .ok false
def tyN : D → String
  | .non => "NoneType" | .bl _ => "bool" | .int _ => "int" | .str _ => "str" | .lst _ => "list" | .tup _ => "tuple" | _ => ""
theorem isT_kit {T : Tn} {d : D} {b : Bool} (h : isT T d = .ok b) : kitB (tyN d) T.name = some b := by
  cases T <;> cases d <;> simp only [isT] at h <;> first | cases h | skip
  all_goals (simp only [tyN, Tn.name]; decide +kernel)
theorem ty_of {K : PySem.W.Frag} {w : World} {F H : Hp} {d : D} {v : V} (s : Same F H) (b : BRep K w F H d v) {T : Tn} {c : Bool} (h : isT T d = .ok c) : TyX K H v (.type (tyN d)) := by
  cases d with
  | non => cases b.non; exact .base .non
  | bl i => cases b.bl; exact .base (.bl i)
  | int i => cases b.int; exact .base (.int i)
  | str i => cases b.str; exact .base (.str i)
  | lst ds => obtain ⟨a, xs, rfl, h1, _⟩ := b.lst s; exact .base (.lst h1)
  | tup ds =>
    obtain ⟨a, xs, rfl, h1, _⟩ := b.tup s
    rcases h1 with (h1 | ⟨o, h1⟩) | ⟨o, its, n, hk, hc, _⟩
    · exact .base (.tup h1)
    · exact .fTuple h1
    · exact .kTuple hk hc
  | st is => cases T <;> cases h
  | scr is => cases T <;> cases h
def isiD (T : Tn) (fa : En → R D) : En → R D := fun ρ => (fa ρ).bind fun d => (isT T d).bind fun b => .ok (.bl b)
theorem re_isi (T : Tn) {a : Expr} {y : Str} {py : Pos} {ga : En → R D} (hg : Gl X "isinstance") (hm : X.mg "isinstance" = none) (hgy : Gl X y) (hmy : X.mg y = none) (hvy : bootBuiltins y = some (.type T.name)) (ha : RB X W a ga)
    (hny : y ≠ "__name__" := by decide) (hdy : (y == ("__debug__" : Str)) = false := by decide)
    (he : starEach [a, .Name y py] X.env = (false, eval a X.env) :: starEach [.Name y py] X.env := by rfl) (he2 : starEach [.Name y py] X.env = (false, eval (.Name y py) X.env) :: starEach [] X.env := by rfl) (hpl : (backTo pos (starEach [.Name y py] X.env)).any (·.1) = false := by rfl) :
    RE X W (.Call (.Name "isinstance" p) [a, .Name y py] [] pos) (isiD T ga) := fun B F0 F H σ ρ Q x0 hw => by
  refine ⟨_, pe_callB call_isi hg hm PyProof.Rows.boot_isinstance (pa_cons (pe_W a) (pa_cons (pe_bltn (v := .ty T.name) hgy hmy hvy rfl hny hdy) pa_nil he2) he) (by decide) (by decide) he hpl, ?_⟩
  refine ha B F0 F H σ ρ _ x0 ((Want.bind (r := ga ρ) hw).imp fun d F1 H1 g1 k v r => ?_)
  cases hb : isT T d with
  | ok b =>
    rw [hb] at k
    exact ⟨v, .ty T.name, .type (tyN d), .type T.name, b, rfl, .ty _, ty_of g1.fh r hb, kit_ty (isT_kit hb), k F1 H1 (Grow.refl g1.fh) _ (.bl _)⟩
  | ex y => rw [hb] at k; cases T <;> cases d <;> cases hb
  | bad => rw [hb] at k; exact k.elim
/-- min(l, default=d) -/
def minDf : List D → D → R D
  | [.lst ds], d => match D.ints ds with
    | some [] => .ok d
    | some (n :: ns) => .ok (.int (minL (n :: ns)))
    | none => .bad
  | _, _ => .bad
def rMinDf (K : PySem.W.Frag) : List V → List V → Hp → VK → Prop := fun xs zs H Q => ∃ (a : Addr) (ns : List Int) (z : V), xs = [.ref a] ∧ zs = [z] ∧ SqL K H a (ns.map V.int) ∧ (ns = [] → Q z H) ∧ (ns ≠ [] → Q (.int (minL ns)) H)
theorem c_minDf (hc : X.calm = true) (hu : X.A.units + 64 < cLine) : CallRK X (.builtin "min") [Str.ofString "default"] (rMinDf X.K) := by
  intro pins s σ H xs zs us ws Q I r rz h
  obtain ⟨a, ns, z, rfl, rfl, hs, q0, q1⟩ := h
  obtain ⟨its, rv, hl, _⟩ := I.list hs
  rw [Vals.ref1 r]
  cases rz with
  | cons rz rz' =>
  cases rz'
  have hI := rv.ints
  have hd : DpAll X.K H (ns.map V.int) (ns.map PyData.int) := by
    have : ∀ ns : List Int, DpAll X.K H (ns.map V.int) (ns.map PyData.int) := fun ns => by
      induction ns with
      | nil => exact .nil
      | cons n ns ih => exact .cons (.int n) ih
    exact this ns
  obtain ⟨as, hr⟩ := Dp.readsAll I _ _ _ hd rv
  refine PySem.W.min_list_datum_default (α := Int) (xs := ns) (I.ok.hd hc) hl.isList ⟨as, hr⟩ (by show X.A.units + 1 + 0 < cLine; omega) (fun e h' tk hk => ⟨z, H, I.kept hk, rz, q0 e⟩) (fun y ys i v h' tk e hi hh hk => ?_)
  have hv : ∃ n t, v = .int n t := by
    obtain ⟨b, hr'⟩ := hh
    cases hr'
    exact ⟨_, _, rfl⟩
  obtain ⟨n, t, rfl⟩ := hv
  have hn : n = minL ns := by
    obtain ⟨b, hr'⟩ := hh
    subst e
    have : (PySem.W.Datum.toD (PySem.W.minOf y ys) : PyData) = .int (PySem.W.minOf y ys) := rfl
    rw [this] at hr'
    cases hr'
    unfold PySem.W.minOf minL
    have : ∀ (ys : List Int) (y : Int), List.foldl (fun a y => if PySem.W.DatumOrd.lt y a = true then y else a) y ys = List.foldl (fun a y => if y < a then y else a) y ys := fun ys => by
      induction ys with
      | nil => intro y; rfl
      | cons u us ih =>
        intro y
        rw [List.foldl_cons, List.foldl_cons, ih]
        congr 1
        show (if decide (u < y) = true then u else y) = _
        simp
    exact this ys y
  exact ⟨.int n, H, I.kept hk, ⟨t, rfl⟩, by rw [hn]; exact q1 (by rw [e]; simp)⟩
def fMinDf (fa fd : En → R D) : En → R D := fun ρ => (fa ρ).bind fun d => (fd ρ).bind fun z => minDf [d] z
theorem re_minDf {j : Nat} {a d : Expr} {kp : Pos} {ga gd : En → R D} (b : Bq X W j) (hg : Gl X "min") (hm : X.mg "min" = none) (ha : RB X W a ga) (hd : RE X W d gd)
    (he : backTo pos (starEach [a] X.env) = (false, eval a X.env) :: backTo pos (starEach [] X.env) := by rfl) (hst : starEach [a] X.env = (false, eval a X.env) :: starEach [] X.env := by rfl) (hpl : (backTo pos (starEach [a] X.env)).any (·.1) = false := by rfl)
    (hall : (backToKw pos (keywordEach [⟨some "default", d, kp⟩] X.env)).all (·.1.isSome) = true := by rfl) (hnone : (backToKw pos (keywordEach [⟨some "default", d, kp⟩] X.env)).any (·.1.isNone) = false := by rfl)
    (hks : (backToKw pos (keywordEach [⟨some "default", d, kp⟩] X.env)).filterMap (·.1) = [Str.ofString "default"] := by rfl) :
    RE X W (.Call (.Name "min" p) [a] [⟨some "default", d, kp⟩] pos) (fMinDf ga gd) := fun B F0 F H σ ρ Q x0 hw => by
  refine ⟨_, pe_callBK (c_minDf b.hc b.hu) hg hm PyProof.Rows.boot_min (pa_cons (pe_W a) pa_nil hst) (pk_cons (pe_W d) pk_nil) (by decide) (by decide) he hpl hall hnone hks, ?_⟩
  refine ha B F0 F H σ ρ _ x0 ((Want.bind (r := ga ρ) hw).imp fun da F1 H1 g1 k v r => ?_)
  refine hd B F0 F1 H1 σ ρ _ (x0.grow g1) ((Want.bind (r := gd ρ) k).imp fun dz F2 H2 g2 k2 z rz => ?_)
  have r2 := r.grow g2
  unfold minDf at k2
  split at k2
  · rename_i ds d' e
    cases e
    obtain ⟨l, xs, rfl, h1, h2⟩ := r2.lst g2.fh
    split at k2
    · rename_i hn
      have e1 := ints_ok hn
      subst e1
      cases h2
      exact ⟨l, [], z, rfl, rfl, SqL.of h1, fun _ => k2 F2 H2 (Grow.refl g2.fh) _ rz, fun h => absurd rfl h⟩
    · rename_i n ns hn
      have e1 := ints_ok hn
      subst e1
      have e2 := h2.intsV
      subst e2
      exact ⟨l, n :: ns, z, rfl, rfl, SqL.of h1, fun h => (by cases h), fun _ => k2 F2 H2 (Grow.refl g2.fh) _ (.int _)⟩
    · exact k2.elim
  · exact k2.elim
end
end Pc
set_option maxHeartbeats 4000000
namespace Pc
open PySem L2
@[simp] theorem R.bind_ok {α β : Type} (a : α) (f : α → R β) : R.bind (.ok a) f = f a := rfl
@[simp] theorem R.bind_bad {α β : Type} (f : α → R β) : R.bind (.bad : R α) f = .bad := rfl
@[simp] theorem R.bind_ex {α β : Type} (x : Exn) (f : α → R β) : R.bind (.ex x : R α) f = .ex x := rfl
/-! ### the combinators at an environment -/
section
variable {ρ : En} {f g : En → R D} {s s' : En → R O} {c c' : En → R Bool} {fs : En → R (List D)}
@[simp] theorem x_seq : sSeq s s' ρ = (s ρ).bind fun o => match o with | .nx ρ' => s' ρ' | o => .ok o := rfl
@[simp] theorem x_nx : sNx ρ = .ok (.nx ρ) := rfl
@[simp] theorem x_no : sNo ρ = .bad := rfl
@[simp] theorem x_bk : sBk ρ = .ok (.bk ρ) := rfl
@[simp] theorem x_ct : sCt ρ = .ok (.ct ρ) := rfl
@[simp] theorem x_ret : sRet f ρ = (f ρ).bind fun d => .ok (.rt d) := rfl
@[simp] theorem x_retN : sRetN ρ = .ok (.rt .non) := rfl
@[simp] theorem x_exp : sExp f ρ = (f ρ).bind fun _ => .ok (.nx ρ) := rfl
@[simp] theorem x_if : sIf c s s' ρ = (c ρ).bind fun b => if b = true then s ρ else s' ρ := rfl
@[simp] theorem x_set {i : Nat} : sSet i f ρ = (f ρ).bind fun d => .ok (.nx (ρ.set i (some (d, false)))) := rfl
@[simp] theorem x_own {i : Nat} : sOwn i fs ρ = (fs ρ).bind fun d => .ok (.nx (ρ.set i (some (.lst d, true)))) := rfl
@[simp] theorem x_setL {i : Nat} : sSetL i fs ρ = (fs ρ).bind fun d => .ok (.nx (ρ.set i (some (.lst d, false)))) := rfl
@[simp] theorem x_app {i : Nat} : sApp i f ρ = (fOwn i ρ).bind fun ds => (f ρ).bind fun d => if ds.length < lim then .ok (.nx (ρ.set i (some (.lst (ds ++ [d]), true)))) else .bad := rfl
@[simp] theorem x_put {i : Nat} : sPut i f g ρ = (f ρ).bind fun d => (fOwn i ρ).bind fun ds => (g ρ).bind fun k => (setAt ds d k).bind fun es => .ok (.nx (ρ.set i (some (.lst es, true)))) := rfl
@[simp] theorem x_aug {i : Nat} {h : Int → Int → Int} : sAug i h f ρ = (fVar i ρ).bind fun a => (f ρ).bind fun b => augR i h ρ a b := rfl
@[simp] theorem x_augR {i : Nat} {h : Int → Int → Int} {a b : Int} : augR i h ρ (.int a) (.int b) = .ok (.nx (ρ.set i (some (.int (h a b), false)))) := rfl
@[simp] theorem x_frz {is : List Nat} : sFrz is s ρ = s (frz ρ is) := rfl
@[simp] theorem x_frz0 : frz ρ [] = ρ := rfl
@[simp] theorem x_frz1 {i : Nat} {is : List Nat} : frz ρ (i :: is) = frz (frz1 ρ i) is := rfl
theorem frz1_own {i : Nat} {d : D} (h : ρ[i]? = some (some (d, true))) : frz1 ρ i = ρ.set i (some (d, false)) := by unfold frz1; rw [h]
theorem frz1_no {i : Nat} (h : ∀ d, ρ[i]? ≠ some (some (d, true))) : frz1 ρ i = ρ := by
  unfold frz1
  split
  · rename_i d e; exact absurd e (h d)
  · rfl
@[simp] theorem x_for {it : En → R (List D)} {tgt : D → En → R En} : sFor it tgt s ρ = (it ρ).bind fun ds => forGo tgt s ds ρ := rfl
@[simp] theorem x_asg {tgt : D → En → R En} : sAsg f tgt ρ = (f ρ).bind fun d => toN (tgt d ρ) := rfl
@[simp] theorem x_toN {ρ' : En} : toN (.ok ρ') = .ok (.nx ρ') := rfl
@[simp] theorem x_tName {i : Nat} {d : D} : tName i d ρ = .ok (ρ.set i (some (d, false))) := rfl
@[simp] theorem x_fC {d : D} : fC d ρ = .ok d := rfl
@[simp] theorem x_fL : fL fs ρ = (fs ρ).bind fun ds => .ok (.lst ds) := rfl
@[simp] theorem x_f2 {h : D → D → R D} : f2 h f g ρ = (f ρ).bind fun x => (g ρ).bind fun y => h x y := rfl
@[simp] theorem x_f1 {h : D → R D} : f1 h f ρ = (f ρ).bind h := rfl
@[simp] theorem x_fB : fB f ρ = (f ρ).bind toB := rfl
@[simp] theorem x_fTru : fTru f ρ = (f ρ).bind truD := rfl
@[simp] theorem x_fBl : fBl c ρ = (c ρ).bind fun b => .ok (.bl b) := rfl
@[simp] theorem x_gAnd : gAnd c c' ρ = (c ρ).bind fun b => if b = true then c' ρ else .ok false := rfl
@[simp] theorem x_gOr : gOr c c' ρ = (c ρ).bind fun b => if b = true then .ok true else c' ρ := rfl
@[simp] theorem x_gNot : gNot c ρ = (c ρ).bind fun b => .ok (!b) := rfl
@[simp] theorem x_gYes : gYes ρ = .ok true := rfl
@[simp] theorem x_fAnd : fAnd f g ρ = (f ρ).bind fun d => (toB d).bind fun b => if b = true then g ρ else .ok (.bl false) := rfl
@[simp] theorem x_fOr : fOr f g ρ = (f ρ).bind fun d => (toB d).bind fun b => if b = true then .ok (.bl true) else g ρ := rfl
@[simp] theorem x_fIf : fIf c f g ρ = (c ρ).bind fun b => if b = true then f ρ else g ρ := rfl
@[simp] theorem x_gNil : gNil ρ = .ok [] := rfl
@[simp] theorem x_gCons : gCons f fs ρ = (f ρ).bind fun d => (fs ρ).bind fun ds => .ok (d :: ds) := rfl
@[simp] theorem x_fLst : fLst fs ρ = (fs ρ).bind fun ds => cap lim ds := rfl
@[simp] theorem x_fTup : fTup fs ρ = (fs ρ).bind fun ds => if ds.length ≤ lim then .ok (.tup ds) else .bad := rfl
@[simp] theorem x_fBi {α : Type} {h : List D → R α} : fBi h fs ρ = (fs ρ).bind h := rfl
@[simp] theorem x_fCall {n : Nat} {h : List D → R D} : fCall n h fs ρ = (fs ρ).bind fun ds => if ds.length = n then h ds else .bad := rfl
@[simp] theorem x_fRev : fRev f ρ = (f ρ).bind revL := rfl
@[simp] theorem x_fSl {l h : En → R (Option Int)} : fSl f l h ρ = (f ρ).bind fun d => (l ρ).bind fun lo => (h ρ).bind fun hi => slL d lo hi := rfl
@[simp] theorem x_gNo : gNo ρ = .ok none := rfl
@[simp] theorem x_gSo : gSo f ρ = (f ρ).bind fun d => match d with | .int i => .ok (some i) | _ => .bad := rfl
@[simp] theorem x_gIt : gIt f ρ = (f ρ).bind itD := rfl
@[simp] theorem x_gR1 : gR1 fs ρ = (fs ρ).bind rng1 := rfl
@[simp] theorem x_gR2 : gR2 fs ρ = (fs ρ).bind rng2 := rfl
@[simp] theorem x_gRv : gRv fs ρ = (fs ρ).bind revI := rfl
@[simp] theorem x_gZip : gZip fs ρ = (fs ρ).bind zipI := rfl
@[simp] theorem x_isi {T : Tn} : isiD T f ρ = (f ρ).bind fun d => (isT T d).bind fun b => .ok (.bl b) := rfl
@[simp] theorem x_minDf : fMinDf f g ρ = (f ρ).bind fun d => (g ρ).bind fun z => minDf [d] z := rfl
theorem fVar_at {i : Nat} {d : D} (h : ρ[i]? = some (some (d, false))) : fVar i ρ = .ok d := by unfold fVar; rw [h]
theorem fVarB_at {i : Nat} {d : D} {o : Bool} (h : ρ[i]? = some (some (d, o))) : fVarB i ρ = .ok d := by unfold fVarB; rw [h]
end
section
variable {i j : Int} {b b' : Bool} {ds es : List D} {d : D}
@[simp] theorem x_end_rt : endD (.ok (.rt d)) = .ok d := rfl
@[simp] theorem x_end_nx {ρ : En} : endD (.ok (.nx ρ)) = .ok .non := rfl
@[simp] theorem x_add : addD (.int i) (.int j) = .ok (.int (i + j)) := rfl
@[simp] theorem x_sub : subD (.int i) (.int j) = .ok (.int (i - j)) := rfl
@[simp] theorem x_neg : negD (.int i) = .ok (.int (-i)) := rfl
@[simp] theorem x_addL : addD (.lst ds) (.lst es) = if ds.length + es.length ≤ lim then .ok (.lst (ds ++ es)) else .bad := rfl
@[simp] theorem x_lt : ltD (.int i) (.int j) = .ok (.bl (decide (i < j))) := rfl
@[simp] theorem x_le : leD (.int i) (.int j) = .ok (.bl (decide (i ≤ j))) := rfl
@[simp] theorem x_gt : gtD (.int i) (.int j) = .ok (.bl (decide (j < i))) := rfl
@[simp] theorem x_ge : geD (.int i) (.int j) = .ok (.bl (decide (j ≤ i))) := rfl
@[simp] theorem x_eq : eqD (.int i) (.int j) = .ok (.bl (decide (i = j))) := rfl
@[simp] theorem x_ne : neD (.int i) (.int j) = .ok (.bl (!decide (i = j))) := rfl
@[simp] theorem x_eqb : eqD (.bl b) (.bl b') = .ok (.bl (decide (b = b'))) := rfl
@[simp] theorem x_is : isD (.bl b) (.bl b') = .ok (.bl (decide (b = b'))) := rfl
@[simp] theorem x_toB : toB (.bl b) = .ok b := rfl
@[simp] theorem x_not : notD (.bl b) = .ok (.bl (!b)) := rfl
@[simp] theorem x_truB : truD (.bl b) = .ok b := rfl
@[simp] theorem x_abs : absD [.int i] = .ok (.int (if i < 0 then -i else i)) := rfl
@[simp] theorem x_int : intD [.int i] = .ok (.int i) := rfl
@[simp] theorem x_intb : intD [.bl b] = .ok (.int (if b then 1 else 0)) := rfl
@[simp] theorem x_len : lenD [.lst ds] = .ok (.int ds.length) := rfl
@[simp] theorem x_lent : lenD [.tup ds] = .ok (.int ds.length) := rfl
@[simp] theorem x_lens {ns : List Int} : lenD [.scr ns] = .ok (.int ns.length) := rfl
@[simp] theorem x_min2 : minD [.int i, .int j] = .ok (.int (if j < i then j else i)) := rfl
@[simp] theorem x_max2 : maxD [.int i, .int j] = .ok (.int (if j > i then j else i)) := rfl
@[simp] theorem x_listL : listL [.lst ds] = .ok ds := rfl
@[simp] theorem x_listT : listL [.tup ds] = .ok ds := rfl
@[simp] theorem x_tupleL : tupleD [.lst ds] = .ok (.tup ds) := rfl
@[simp] theorem x_tupleT : tupleD [.tup ds] = .ok (.tup ds) := rfl
@[simp] theorem x_revL : revL (.lst ds) = .ok ds.reverse := rfl
@[simp] theorem x_revI : revI [.lst ds] = .ok ds.reverse := rfl
@[simp] theorem x_itD : itD (.lst ds) = .ok ds := rfl
@[simp] theorem x_itT : itD (.tup ds) = .ok ds := rfl
@[simp] theorem x_gcd : gcdD [.int i, .int j] = .ok (.int ((Nat.gcd i.natAbs j.natAbs : Nat) : Int)) := rfl
@[simp] theorem x_isInt : isT .int (.int i) = .ok true := rfl
@[simp] theorem x_isBool : isT .bool (.int i) = .ok false := rfl
@[simp] theorem x_isBool2 : isT .bool (.bl b) = .ok true := rfl
@[simp] theorem x_isInt2 : isT .int (.bl b) = .ok true := rfl
@[simp] theorem x_isList : isT .list (.lst ds) = .ok true := rfl
theorem x_mul (h : i.natAbs.log2 + j.natAbs.log2 < 1000000) : mulD (.int i) (.int j) = .ok (.int (i * j)) := if_pos h
theorem x_fdiv (h : 0 < j) (h' : j.natAbs.log2 < 9000) : fdivD (.int i) (.int j) = .ok (.int (i / j)) := if_pos ⟨h, h'⟩
theorem x_mod (h : 0 < j) : modD (.int i) (.int j) = .ok (.int (i % j)) := if_pos h
theorem x_pow (h : 0 ≤ j ∧ j ≤ 1000000 ∧ i.natAbs < 2 ^ 64) : powD (.int i) (.int j) = .ok (.int (i ^ j.toNat)) := if_pos h
theorem x_ix (h : atI ds i = some d) : ixD (.lst ds) (.int i) = .ok d := by show (match atI ds i with | some d => R.ok d | none => .bad) = _; rw [h]
theorem x_ixt (h : atI ds i = some d) : ixD (.tup ds) (.int i) = .ok d := by show (match atI ds i with | some d => R.ok d | none => .bad) = _; rw [h]
theorem x_cap (h : ds.length ≤ lim) : cap lim ds = .ok ds := if_pos h
theorem x_min {ns : List Int} (h : ns ≠ []) : minD [.lst (ns.map D.int)] = .ok (.int (minL ns)) := by
  cases ns with
  | nil => exact absurd rfl h
  | cons n ns => show (match D.ints ((n :: ns).map D.int) with | some (n :: ns) => R.ok (D.int (minL (n :: ns))) | _ => .bad) = _; rw [ints_map]
theorem x_max {ns : List Int} (h : ns ≠ []) : maxD [.lst (ns.map D.int)] = .ok (.int (maxL ns)) := by
  cases ns with
  | nil => exact absurd rfl h
  | cons n ns => show (match D.ints ((n :: ns).map D.int) with | some (n :: ns) => R.ok (D.int (maxL (n :: ns))) | _ => .bad) = _; rw [ints_map]
theorem x_minDf0 : minDf [.lst (([] : List Int).map D.int)] d = .ok d := rfl
theorem x_minDf1 {ns : List Int} (h : ns ≠ []) : minDf [.lst (ns.map D.int)] d = .ok (.int (minL ns)) := by
  cases ns with
  | nil => exact absurd rfl h
  | cons n ns => show (match D.ints ((n :: ns).map D.int) with | some [] => R.ok d | some (n :: ns) => R.ok (D.int (minL (n :: ns))) | none => .bad) = _; rw [ints_map]
theorem x_sorted {ns : List Int} : sortedL [.lst (ns.map D.int)] = .ok ((isort ns).map D.int) := by
  show (match D.ints (ns.map D.int) with | some ns => R.ok ((isort ns).map D.int) | none => .bad) = _; rw [ints_map]
theorem x_sortedS {ns : List Int} (h : ns.length < 64) : sortedL [.st ns] = .ok ((usort ns).map D.int) := if_pos h
theorem x_setI {ns : List Int} (h : ns.length ≤ 1000) : setD [.lst (ns.map D.int)] = .ok (.st ns) := by
  show (match D.ints (ns.map D.int) with | some ns => if ns.length ≤ 1000 then R.ok (D.st ns) else .bad | none => .bad) = _; rw [ints_map]; exact if_pos h
theorem x_all {bs : List Bool} : allD [.lst (bs.map D.bl)] = .ok (.bl (bs.all id)) := by
  show (match D.bls (bs.map D.bl) with | some bs => R.ok (D.bl (bs.all id)) | none => .bad) = _; rw [bls_map]
theorem x_rng1 (h : -(2 ^ 62) ≤ i ∧ i < 2 ^ 62) : rng1 [.int i] = .ok (rangeL 0 i) := if_pos h
theorem x_rng2 (h : -(2 ^ 62) ≤ i ∧ i < 2 ^ 62 ∧ -(2 ^ 62) ≤ j ∧ j < 2 ^ 62) : rng2 [.int i, .int j] = .ok (rangeL i j) := if_pos h
@[simp] theorem x_slL {lo hi : Option Int} : slL (.lst ds) lo hi = .ok (cutL ds lo hi) := rfl
@[simp] theorem x_slS {ns : List Int} {lo hi : Option Int} : slL (.scr ns) lo hi = .ok ((cutL ns lo hi).map D.int) := rfl
theorem x_setAt {j : Nat} (h : j < ds.length) : setAt ds d (.int (j : Int)) = .ok (ds.set j d) := by
  have e : ixN ds.length (j : Int) = some j := by
    unfold ixN
    rw [if_pos (by omega), if_pos (by omega)]; simp
  show (match ixN ds.length (j : Int) with | some j => R.ok (ds.set j d) | none => .bad) = _; rw [e]
end
/-! ### loops by what they keep -/
theorem forGo_all {tgt : D → En → R En} {body : En → R O} (P : Nat → En → Prop) : ∀ (ds : List D) (k : Nat) (ρ : En), P k ρ →
    (∀ j d ρ, ds[j]? = some d → P (k + j) ρ → ∃ ρ1 ρ2, tgt d ρ = .ok ρ1 ∧ (body ρ1 = .ok (.nx ρ2) ∨ body ρ1 = .ok (.ct ρ2)) ∧ P (k + j + 1) ρ2) → ∃ ρ', forGo tgt body ds ρ = .ok (.nx ρ') ∧ P (k + ds.length) ρ'
  | [], k, ρ, h, _ => ⟨ρ, rfl, h⟩
  | d :: ds, k, ρ, h, hs => by
    obtain ⟨ρ1, ρ2, e1, e2, h2⟩ := hs 0 d ρ rfl h
    obtain ⟨ρ', e3, h3⟩ := forGo_all P ds (k + 1) ρ2 h2 fun j d ρ hj hp => by
      have := hs (j + 1) d ρ (by simpa using hj) (by rw [Nat.add_assoc, Nat.add_comm 1 j] at hp; exact hp)
      rw [show k + (j + 1) + 1 = k + 1 + j + 1 by omega] at this
      exact this
    refine ⟨ρ', ?_, by rw [List.length_cons, show k + (ds.length + 1) = k + 1 + ds.length by omega]; exact h3⟩
    unfold forGo
    rw [e1]
    rcases e2 with e2 | e2 <;> (dsimp only; rw [e2]; exact e3)
/-- a loop over all of a list -/
theorem for_inv {tgt : D → En → R En} {body : En → R O} {ds : List D} {ρ : En} (P : Nat → En → Prop) (h0 : P 0 ρ)
    (hs : ∀ j d ρ, ds[j]? = some d → P j ρ → ∃ ρ1 ρ2, tgt d ρ = .ok ρ1 ∧ (body ρ1 = .ok (.nx ρ2) ∨ body ρ1 = .ok (.ct ρ2)) ∧ P (j + 1) ρ2) : ∃ ρ', forGo tgt body ds ρ = .ok (.nx ρ') ∧ P ds.length ρ' := by
  obtain ⟨ρ', e, h⟩ := forGo_all P ds 0 ρ h0 fun j d ρ hj hp => by
    rw [Nat.zero_add] at hp ⊢
    exact hs j d ρ hj hp
  exact ⟨ρ', e, by rwa [Nat.zero_add] at h⟩
theorem for_name {i : Nat} {body : En → R O} {ds : List D} {ρ : En} (P : Nat → En → Prop) (h0 : P 0 ρ)
    (hs : ∀ j d ρ, ds[j]? = some d → P j ρ → ∃ ρ2, body (ρ.set i (some (d, false))) = .ok (.nx ρ2) ∧ P (j + 1) ρ2) : ∃ ρ', forGo (tName i) body ds ρ = .ok (.nx ρ') ∧ P ds.length ρ' :=
  for_inv P h0 fun j d ρ hj hp => by
    obtain ⟨ρ2, e, h⟩ := hs j d ρ hj hp
    exact ⟨_, ρ2, rfl, .inl e, h⟩
theorem map_get {α : Type} {inj : α → D} {xs : List α} {j : Nat} {d : D} (h : (xs.map inj)[j]? = some d) : ∃ x, xs[j]? = some x ∧ d = inj x := by
  rw [List.getElem?_map, Option.map_eq_some_iff] at h
  obtain ⟨x, e, rfl⟩ := h
  exact ⟨x, e, rfl⟩
/-- a comprehension over a list of like things -/
theorem lc_map {α : Type} {tgt : D → En → R En} {tt : En → R Bool} {el : En → R D} {ρ : En} {inj : α → D} (p : α → Bool) (v : α → D) : ∀ (xs : List α) (acc : List D), acc.length + xs.length ≤ lim →
    (∀ x ∈ xs, ∃ ρ1, tgt (inj x) ρ = .ok ρ1 ∧ tt ρ1 = .ok (p x) ∧ (p x = true → el ρ1 = .ok (v x))) → lcGo tgt tt el ρ (xs.map inj) acc = .ok (acc ++ (xs.filter p).map v)
  | [], acc, _, _ => by simp [lcGo]
  | x :: xs, acc, hl, h => by
    obtain ⟨ρ1, e1, e2, e3⟩ := h x List.mem_cons_self
    rw [List.length_cons] at hl
    rw [List.map_cons]
    unfold lcGo
    rw [e1]
    dsimp only
    rw [e2]
    cases hp : p x with
    | false =>
      dsimp only
      rw [lc_map p v xs acc (by omega) fun y hy => h y (List.mem_cons_of_mem _ hy), List.filter_cons, if_neg (by rw [hp]; simp)]
    | true =>
      dsimp only
      rw [e3 hp]
      dsimp only
      rw [if_pos (by omega), lc_map p v xs _ (by simp; omega) fun y hy => h y (List.mem_cons_of_mem _ hy), List.filter_cons, if_pos hp]
      simp
theorem lc_ok {α : Type} {own : List Nat} {it : En → R (List D)} {tgt : D → En → R En} {tt : En → R Bool} {el : En → R D} {ρ : En} {inj : α → D} {xs : List α} (p : α → Bool) (v : α → D) (hi : it ρ = .ok (xs.map inj)) (hl : xs.length ≤ lim)
    (h : ∀ x ∈ xs, ∃ ρ1, tgt (inj x) (wipeE ρ own) = .ok ρ1 ∧ tt ρ1 = .ok (p x) ∧ (p x = true → el ρ1 = .ok (v x))) : fLc own it tgt tt el ρ = .ok ((xs.filter p).map v) := by
  unfold fLc
  rw [hi, R.bind_ok, lc_map p v xs [] (by simpa using hl) h]
  rfl
theorem lc_all {α : Type} {own : List Nat} {it : En → R (List D)} {tgt : D → En → R En} {el : En → R D} {ρ : En} {inj : α → D} {xs : List α} (v : α → D) (hi : it ρ = .ok (xs.map inj)) (hl : xs.length ≤ lim)
    (h : ∀ x ∈ xs, ∃ ρ1, tgt (inj x) (wipeE ρ own) = .ok ρ1 ∧ el ρ1 = .ok (v x)) : fLc own it tgt gYes el ρ = .ok (xs.map v) := by
  rw [lc_ok (fun _ => true) v hi hl fun x hx => by
    obtain ⟨ρ1, e1, e2⟩ := h x hx
    exact ⟨ρ1, e1, rfl, fun _ => e2⟩, List.filter_eq_self.mpr (by simp)]
theorem rangeL_get {lo hi : Int} {j : Nat} {d : D} (h : (rangeL lo hi)[j]? = some d) : d = .int (lo + j) ∧ lo + j < hi := by
  unfold rangeL at h
  rw [List.getElem?_map, Option.map_eq_some_iff] at h
  obtain ⟨k, e1, rfl⟩ := h
  obtain ⟨h1, h2⟩ := List.getElem?_eq_some_iff.mp e1
  rw [List.length_range] at h1
  rw [List.getElem_range] at h2
  subst h2
  exact ⟨rfl, by omega⟩
theorem rangeL_len (lo hi : Int) : (rangeL lo hi).length = (hi - lo).toNat := by unfold rangeL; simp
theorem rangeL_eq (lo hi : Int) : rangeL lo hi = ((List.range (hi - lo).toNat).map fun (i : Nat) => lo + (i : Int)).map D.int := by unfold rangeL; simp
theorem atI_get? {α : Type} {xs : List α} {j : Nat} (h : j < xs.length) : atI xs (j : Int) = some xs[j] := atI_nat (by simp [h])
theorem log2_small {i : Int} {n : Nat} (h : i.natAbs < 2 ^ n) (hn : 0 < n) : i.natAbs.log2 < n := PySem.Flt.log2_lt_of hn h
end Pc
set_option maxHeartbeats 4000000
namespace Pc
open PySem L2
theorem pys_ints : ∀ ns : List Int, D.pys (ns.map D.int) = some (ns.map PyData.int)
  | [] => by simp [D.pys]
  | n :: ns => by rw [List.map_cons, D.pys, pys_ints ns]; simp [D.py]
theorem shaped_ints : ∀ ns : List Int, SeqAt.shaped (.list (ns.map PyData.int)) = true := by
  intro ns
  have e1 : ∀ ns : List Int, PyData.canLayAll0 (ns.map PyData.int) = true := fun ns => by
    induction ns with
    | nil => simp [PyData.canLayAll0]
    | cons n ns ih => simp [PyData.canLayAll0, PyData.canLay0, ih]
  have e2 : ∀ ns : List Int, PyData.depthAll (ns.map PyData.int) ≤ 1 := fun ns => by
    induction ns with
    | nil => simp [PyData.depthAll]
    | cons n ns ih => simp [PyData.depthAll, PyData.depth]; omega
  have := e2 ns
  unfold SeqAt.shaped
  simp [PyData.canLay0, PyData.depth, e1]
  omega
theorem eqv_ints : ∀ ns ms : List Int, PyData.eqvAll (ns.map PyData.int) (ms.map PyData.int) = decide (ns = ms)
  | [], [] => by simp [PyData.eqvAll]
  | [], _ :: _ => by simp [PyData.eqvAll]
  | _ :: _, [] => by simp [PyData.eqvAll]
  | n :: ns, m :: ms => by
    rw [List.map_cons, List.map_cons, PyData.eqvAll, eqv_ints ns ms]
    by_cases h : n = m <;> by_cases h' : ns = ms <;> simp [PyData.eqv, h, h']
theorem x_eqL {ns ms : List Int} : eqD (.lst (ns.map D.int)) (.lst (ms.map D.int)) = .ok (.bl (decide (ns = ms))) := by
  unfold eqD eqB deepB
  simp only [D.py, pys_ints, Option.map_some, shaped_ints, and_self, if_true]
  rw [PyData.eqv, eqv_ints]
theorem p18 : powD (.int 10) (.int 18) = .ok (.int 1000000000000000000) := x_pow (by decide)
theorem p9 : powD (.int 10) (.int 9) = .ok (.int 1000000000) := x_pow (by decide)
theorem p8 : powD (.int 10) (.int 8) = .ok (.int 100000000) := x_pow (by decide)
end Pc
set_option maxHeartbeats 8000000
namespace K36
open PySem L2 Pc
def fuel : Nat := 1000
def top (i : Nat) : Stmt := PySem.Challenge.pw_wordruns_k36_far_thresholds.main.body.getD i (.Pass ⟨0, 0, 0, 0⟩)
/-- what the top has written -/
structure Txt (mg : Str → Option Value) : Prop where
  i_gcd : mg "gcd" = some (.builtin "math.gcd")
  b_abs : mg "abs" = none
  b_all : mg "all" = none
  b_bool : mg "bool" = none
  b_int : mg "int" = none
  b_isinstance : mg "isinstance" = none
  b_len : mg "len" = none
  b_list : mg "list" = none
  b_max : mg "max" = none
  b_min : mg "min" = none
  b_range : mg "range" = none
  b_reversed : mg "reversed" = none
  b_set : mg "set" = none
  b_sorted : mg "sorted" = none
  c_LONGEST : ∃ t, mg "LONGEST" = some (.int 1000000000000000000 t)
  c_MOST_PERIODS : ∃ t, mg "MOST_PERIODS" = some (.int 6 t)

/-! ### _law_dig -/
abbrev s__law_dig : Stmt := top 21
abbrev n__law_dig : List Str := ["cells", "place", "sizes", "cell", "left", "row", "k", "mixed"]
def b__law_dig_1 : En → R O := sSeq (sIf (fB (f2 ltD (fBi absD (gCons (fVar 3) (gNil))) (f2 powD (fC (.int 10)) (fC (.int 18))))) (
  sSeq (sSet 7 (f2 modD (fBi intD (gCons (f2 addD (f2 addD (f2 addD (f2 mulD (fVar 3) (fC (.int 48271))) (f2 mulD (fVar 1) (fC (.int 8191)))) (f2 mulD (fVar 6) (fC (.int 69621)))) (fC (.int 40692))) (gNil))) (fC (.int 2147483647)))) (
  sSet 4 (f2 fdivD (f2 modD (fBi intD (gCons (f2 addD (f2 addD (f2 mulD (fVar 7) (fVar 7)) (f2 mulD (fVar 6) (fC (.int 16807)))) (fVar 1)) (gNil))) (fC (.int 998244353))) (fC (.int 8))))) (
  sNx)) (
  sSeq (sApp 5 (f2 modD (fBi intD (gCons (fVar 4) (gNil))) (f2 ixD (fVar 2) (fVar 6)))) (
  sSet 4 (f2 fdivD (fVar 4) (f2 ixD (fVar 2) (fVar 6)))))
def b__law_dig : En → R O := sSeq (sSet 3 (fC (.int 0))) (
  sSeq (sIf (fB (f2 ltD (fVar 1) (fBi lenD (gCons (fVar 0) (gNil))))) (
  sSet 3 (f2 ixD (fVar 0) (fVar 1))) (
  sNx)) (
  sSeq (sSet 4 (fBi absD (gCons (fVar 3) (gNil)))) (
  sSeq (sOwn 5 (fLst (gNil))) (
  sSeq (sFor (gR1 (gCons (fBi lenD (gCons (fVar 2) (gNil))) (gNil))) (tName 6) b__law_dig_1) (
  sFrz [5] (sRet (fVar 5)))))))
def g__law_dig : List D → R D := runDef 8 b__law_dig
theorem r__law_dig (x0 x1 x2 : D) : g__law_dig [x0, x1, x2] = endD (b__law_dig [some (x0, false), some (x1, false), some (x2, false), none, none, none, none, none]) := rfl
/-! ### _law_led_on -/
abbrev s__law_led_on : Stmt := top 29
abbrev n__law_led_on : List Str := ["cells", "periods", "unit", "due", "rounds", "rows", "least", "k", "row", "p", "room", "times", "number"]
def b__law_led_on_1 : En → R O := sSeq (sSet 8 (fCall 3 g__law_dig (gCons (fVar 0) (gCons (f2 addD (fC (.int 8)) (fVar 7)) (gCons (fL (fLst (gCons (fBi lenD (gCons (fVarB 5) (gNil))) (gCons (fC (.int 2)) (gCons (f2 powD (fC (.int 10)) (fC (.int 9))) (gCons (f2 powD (fC (.int 10)) (fC (.int 9))) (gNil))))))) (gNil)))))) (
  sSeq (sSet 9 (f2 ixD (fVarB 5) (f2 ixD (fVar 8) (fC (.int 0))))) (
  sSeq (sSet 10 (f2 fdivD (f2 subD (f2 powD (fC (.int 10)) (fC (.int 18))) (fBi maxD (gCons (fVarB 5) (gNil)))) (fVar 9))) (
  sIf (fB (f2 gtD (fVar 10) (fC (.int 0)))) (
  sSeq (sSet 11 (f2 addD (fC (.int 1)) (f2 modD (f2 addD (f2 mulD (f2 ixD (fVar 8) (fC (.int 2))) (f2 powD (fC (.int 10)) (fC (.int 9)))) (f2 ixD (fVar 8) (fC (.int 3)))) (fVar 10)))) (
  sSeq (sIf (fB (f2 eqD (f2 ixD (fVar 8) (fC (.int 1))) (fC (.int 0)))) (
  sSet 11 (f2 addD (fC (.int 1)) (f2 modD (f2 ixD (fVar 8) (fC (.int 2))) (fBi minD (gCons (fVar 10) (gCons (fC (.int 3)) (gNil))))))) (
  sNx)) (
  sSeq (sFrz [5] (sOwn 5 (fLc [12] (gIt (fVar 5)) (tName 12) (gYes) (f2 addD (fVar 12) (f2 mulD (fVar 11) (fVar 9)))))) (
  sSeq (sPut 5 (fVar 9) (f2 ixD (fVar 8) (fC (.int 0)))) (
  sIf (fB (f2 eqD (fVar 9) (fVar 2))) (
  sSet 6 (fC (.int 0))) (
  sSet 6 (f2 addD (f2 mulD (fVar 11) (fVar 9)) (fBi maxD (gCons (fVar 9) (gCons (fVar 6) (gNil))))))))))) (
  sNx))))
def b__law_led_on : En → R O := sSeq (sOwn 5 (fBi listL (gCons (fVar 1) (gNil)))) (
  sSeq (sSet 6 (fVar 3)) (
  sSeq (sFor (gR1 (gCons (fVar 4) (gNil))) (tName 7) b__law_led_on_1) (
  sFrz [5] (sRet (fL (fLst (gCons (fVar 5) (gCons (fVar 6) (gNil)))))))))
def g__law_led_on : List D → R D := runDef 13 b__law_led_on
theorem r__law_led_on (x0 x1 x2 x3 x4 : D) : g__law_led_on [x0, x1, x2, x3, x4] = endD (b__law_led_on [some (x0, false), some (x1, false), some (x2, false), some (x3, false), some (x4, false), none, none, none, none, none, none, none, none]) := rfl
/-! ### _law_two -/
abbrev s__law_two : Stmt := top 30
abbrev n__law_two : List Str := ["row", "first", "second"]
def b__law_two : En → R O := sSeq (sSet 1 (f2 addD (f2 addD (fC (.int 1)) (f2 mulD (f2 ixD (fVar 0) (fC (.int 1))) (f2 powD (fC (.int 10)) (fC (.int 9))))) (f2 ixD (fVar 0) (fC (.int 2))))) (
  sSeq (sSet 2 (f2 addD (f2 addD (fC (.int 1)) (f2 mulD (f2 ixD (fVar 0) (fC (.int 3))) (f2 powD (fC (.int 10)) (fC (.int 9))))) (f2 ixD (fVar 0) (fC (.int 4))))) (
  sSeq (sIf (fB (f2 eqD (f2 ixD (fVar 0) (fC (.int 0))) (fC (.int 1)))) (
  sSet 2 (f2 subD (f2 subD (fVar 1) (fC (.int 1))) (f2 ixD (fVar 0) (fC (.int 5))))) (
  sNx)) (
  sSeq (sIf (fB (f2 eqD (f2 ixD (fVar 0) (fC (.int 0))) (fC (.int 2)))) (
  sSet 2 (f2 mulD (fVar 1) (f2 addD (fC (.int 2)) (f2 ixD (fVar 0) (fC (.int 5)))))) (
  sNx)) (
  sSeq (sIf (fB (f2 eqD (f2 ixD (fVar 0) (fC (.int 0))) (fC (.int 3)))) (
  sSeq (sSet 1 (f2 mulD (f2 addD (fC (.int 1)) (f2 ixD (fVar 0) (fC (.int 1)))) (f2 addD (fC (.int 1)) (f2 ixD (fVar 0) (fC (.int 2)))))) (
  sSet 2 (f2 mulD (f2 addD (fC (.int 1)) (f2 ixD (fVar 0) (fC (.int 3)))) (f2 addD (fC (.int 1)) (f2 ixD (fVar 0) (fC (.int 2))))))) (
  sNx)) (
  sSeq (sIf (fB (f2 eqD (f2 ixD (fVar 0) (fC (.int 0))) (fC (.int 4)))) (
  sSeq (sSet 1 (f2 subD (f2 powD (fC (.int 10)) (fC (.int 18))) (f2 ixD (fVar 0) (fC (.int 5))))) (
  sSet 2 (f2 subD (f2 subD (fVar 1) (fC (.int 1))) (f2 modD (fBi intD (gCons (f2 ixD (fVar 0) (fC (.int 1))) (gNil))) (fC (.int 9)))))) (
  sNx)) (
  sSeq (sIf (fB (f2 eqD (f2 ixD (fVar 0) (fC (.int 0))) (fC (.int 5)))) (
  sSet 1 (f2 addD (fC (.int 2)) (f2 ixD (fVar 0) (fC (.int 5))))) (
  sNx)) (
  sSeq (sIf (gOr (fB (f2 ltD (fVar 2) (fC (.int 1)))) (fB (f2 gtD (fVar 2) (f2 powD (fC (.int 10)) (fC (.int 18)))))) (
  sSet 2 (fVar 1)) (
  sNx)) (
  sRet (fL (fLst (gCons (fVar 1) (gCons (fVar 2) (gNil)))))))))))))
def g__law_two : List D → R D := runDef 3 b__law_two
theorem r__law_two (x0 : D) : g__law_two [x0] = endD (b__law_two [some (x0, false), none, none]) := rfl
/-! ### _law_gcd -/
abbrev s__law_gcd : Stmt := top 24
abbrev n__law_gcd : List Str := ["first", "second", "a", "b", "k", "rest"]
def b__law_gcd_1 : En → R O := sIf (fB (f2 neD (fVar 3) (fC (.int 0)))) (
  sSeq (sSet 5 (f2 modD (fBi intD (gCons (fVar 2) (gNil))) (fVar 3))) (
  sSeq (sSet 2 (fVar 3)) (
  sSet 3 (fVar 5)))) (
  sNx)
def b__law_gcd : En → R O := sSeq (sSet 2 (fVar 0)) (
  sSeq (sSet 3 (fVar 1)) (
  sSeq (sFor (gR1 (gCons (fC (.int 100)) (gNil))) (tName 4) b__law_gcd_1) (
  sRet (fVar 2))))
def g__law_gcd : List D → R D := runDef 6 b__law_gcd
theorem r__law_gcd (x0 x1 : D) : g__law_gcd [x0, x1] = endD (b__law_gcd [some (x0, false), some (x1, false), none, none, none, none]) := rfl
/-! ### _law_number -/
abbrev s__law_number : Stmt := top 22
abbrev n__law_number : List Str := ["told", "due"]
def b__law_number : En → R O := sRet (fAnd (isiD .int (fVar 0)) (fAnd (f1 notD (isiD .bool (fVar 0))) (f2 eqD (fVar 0) (fVar 1))))
def g__law_number : List D → R D := runDef 2 b__law_number
theorem r__law_number (x0 x1 : D) : g__law_number [x0, x1] = endD (b__law_number [some (x0, false), some (x1, false)]) := rfl
/-! ### check_many -/
abbrev s_check_many : Stmt := top 8
abbrev n_check_many : List Str := ["things", "most"]
def b_check_many : En → R O := sIf (fB (f2 gtD (fBi lenD (gCons (fVar 0) (gNil))) (fVar 1))) (
  sNo) (
  sNx)
def g_check_many : List D → R D := runDef 2 b_check_many
theorem r_check_many (x0 x1 : D) : g_check_many [x0, x1] = endD (b_check_many [some (x0, false), some (x1, false)]) := rfl
/-! ### check_range -/
abbrev s_check_range : Stmt := top 7
abbrev n_check_range : List Str := ["value", "low", "high"]
def b_check_range : En → R O := sIf (gOr (fB (f2 ltD (fVar 0) (fVar 1))) (fB (f2 gtD (fVar 0) (fVar 2)))) (
  sNo) (
  sNx)
def g_check_range : List D → R D := runDef 3 b_check_range
theorem r_check_range (x0 x1 x2 : D) : g_check_range [x0, x1, x2] = endD (b_check_range [some (x0, false), some (x1, false), some (x2, false)]) := rfl
/-! ### check_periods -/
abbrev s_check_periods : Stmt := top 12
abbrev n_check_periods : List Str := ["periods", "period"]
def b_check_periods_1 : En → R O := sExp (fCall 3 g_check_range (gCons (fVar 1) (gCons (fC (.int 1)) (gCons (fC (.int 1000000000000000000)) (gNil)))))
def b_check_periods : En → R O := sSeq (sExp (fCall 2 g_check_many (gCons (fVar 0) (gCons (fC (.int 6)) (gNil))))) (
  sFor (gIt (fVar 0)) (tName 1) b_check_periods_1)
def g_check_periods : List D → R D := runDef 2 b_check_periods
theorem r_check_periods (x0 : D) : g_check_periods [x0] = endD (b_check_periods [some (x0, false), none]) := rfl
/-! ### require_period -/
abbrev s_require_period : Stmt := top 13
abbrev n_require_period : List Str := ["periods"]
def b_require_period : En → R O := sIf (fB (f2 eqD (fBi lenD (gCons (fVar 0) (gNil))) (fC (.int 0)))) (
  sNo) (
  sNx)
def g_require_period : List D → R D := runDef 1 b_require_period
theorem r_require_period (x0 : D) : g_require_period [x0] = endD (b_require_period [some (x0, false)]) := rfl
/-! ### common_divisor -/
abbrev s_common_divisor : Stmt := top 14
abbrev n_common_divisor : List Str := ["numbers", "divisor", "number"]
def b_common_divisor_1 : En → R O := sSet 1 (fBi gcdD (gCons (fVar 1) (gCons (fVar 2) (gNil))))
def b_common_divisor : En → R O := sSeq (sSet 1 (fC (.int 0))) (
  sSeq (sFor (gIt (fVar 0)) (tName 2) b_common_divisor_1) (
  sRet (fVar 1)))
def g_common_divisor : List D → R D := runDef 3 b_common_divisor
theorem r_common_divisor (x0 : D) : g_common_divisor [x0] = endD (b_common_divisor [some (x0, false), none, none]) := rfl
/-! ### _rounds -/
abbrev s__rounds : Stmt := top 15
abbrev n__rounds : List Str := ["rows", "least", "counts", "period"]
def b__rounds : En → R O := sSeq (sSet 1 (f2 ixD (fVar 0) (fC (.int 0)))) (
  sSeq (sSetL 2 (fLc [3] (gIt (fVar 0)) (tName 3) (fB (f2 neD (f2 modD (fVar 3) (fVar 1)) (fC (.int 0)))) (f2 fdivD (fVar 3) (fVar 1)))) (
  sRet (fMinDf (fVar 2) (fC (.int 0)))))
def g__rounds : List D → R D := runDef 4 b__rounds
theorem r__rounds (x0 : D) : g__rounds [x0] = endD (b__rounds [some (x0, false), none, none, none]) := rfl
/-! ### _lessened -/
abbrev s__lessened : Stmt := top 16
abbrev n__lessened : List Str := ["rows", "rounds", "least", "taken", "rest", "period"]
def b__lessened : En → R O := sSeq (sSet 2 (f2 ixD (fVar 0) (fC (.int 0)))) (
  sSeq (sSet 3 (f2 mulD (fVar 1) (fVar 2))) (
  sSeq (sSetL 4 (fLc [5] (gIt (fVar 0)) (tName 5) (fB (f2 gtD (fVar 5) (fVar 3))) (f2 subD (fVar 5) (fVar 3)))) (
  sRet (fL (fBi sortedL (gCons (fBi setD (gCons (f2 addD (fL (fLst (gCons (fVar 2) (gNil)))) (fVar 4)) (gNil))) (gNil)))))))
def g__lessened : List D → R D := runDef 6 b__lessened
theorem r__lessened (x0 x1 : D) : g__lessened [x0, x1] = endD (b__lessened [some (x0, false), some (x1, false), none, none, none, none]) := rfl
/-! ### threshold_of -/
abbrev s_threshold_of : Stmt := top 17
abbrev n_threshold_of : List Str := ["periods", "divisor", "rows", "taken", "total", "rounds", "added", "least"]
def b_threshold_of_1 : En → R O := sSeq (sSet 5 (fCall 1 g__rounds (gCons (fVar 2) (gNil)))) (
  sSeq (sApp 3 (fTup (gCons (f2 mulD (fVar 5) (f2 ixD (fVar 2) (fC (.int 0)))) (gCons (f2 ixD (fVar 2) (fC (.int 0))) (gNil))))) (
  sSet 2 (fCall 2 g__lessened (gCons (fVar 2) (gCons (fVar 5) (gNil))))))
def b_threshold_of_2 : En → R O := sSet 4 (f2 addD (fVar 6) (fBi maxD (gCons (fVar 7) (gCons (fVar 4) (gNil)))))
def b_threshold_of : En → R O := sSeq (sSet 1 (fCall 1 g_common_divisor (gCons (fVar 0) (gNil)))) (
  sSeq (sSet 2 (fL (fBi sortedL (gCons (fBi setD (gCons (fVar 0) (gNil))) (gNil))))) (
  sSeq (sOwn 3 (fLst (gNil))) (
  sSeq (sWh fuel (fB (f2 neD (f2 ixD (fVar 2) (fC (.int 0))) (fVar 1))) b_threshold_of_1) (
  sSeq (sSet 4 (fC (.int 0))) (
  sSeq (sFrz [3] (sFor (gRv (gCons (fVar 3) (gNil))) (tTup 2 (tsCons (tName 6) (tsCons (tName 7) (tsNil)))) b_threshold_of_2)) (
  sRet (fVar 4)))))))
def g_threshold_of : List D → R D := runDef 8 b_threshold_of
theorem r_threshold_of (x0 : D) : g_threshold_of [x0] = endD (b_threshold_of [some (x0, false), none, none, none, none, none, none, none]) := rfl
/-! ### threshold -/
abbrev s_threshold : Stmt := top 18
abbrev n_threshold : List Str := ["periods"]
def b_threshold : En → R O := sSeq (sExp (fCall 1 g_check_periods (gCons (fVar 0) (gNil)))) (
  sSeq (sExp (fCall 1 g_require_period (gCons (fVar 0) (gNil)))) (
  sRet (fCall 1 g_threshold_of (gCons (fVar 0) (gNil)))))
def g_threshold : List D → R D := runDef 1 b_threshold
theorem r_threshold (x0 : D) : g_threshold [x0] = endD (b_threshold [some (x0, false)]) := rfl
/-! ### _law_truth -/
abbrev s__law_truth : Stmt := top 23
abbrev n__law_truth : List Str := ["told", "due"]
def b__law_truth : En → R O := sSeq (sIf (fTru (fVar 1)) (
  sRet (f2 isD (fVar 0) (fC (.bl true)))) (
  sNx)) (
  sRet (f2 isD (fVar 0) (fC (.bl false))))
def g__law_truth : List D → R D := runDef 2 b__law_truth
theorem r__law_truth (x0 x1 : D) : g__law_truth [x0, x1] = endD (b__law_truth [some (x0, false), some (x1, false)]) := rfl
/-! ### forced -/
abbrev s_forced : Stmt := top 19
abbrev n_forced : List Str := ["periods", "length"]
def b_forced : En → R O := sSeq (sExp (fCall 1 g_check_periods (gCons (fVar 0) (gNil)))) (
  sSeq (sExp (fCall 3 g_check_range (gCons (fVar 1) (gCons (fC (.int 0)) (gCons (fC (.int 1000000000000000000)) (gNil)))))) (
  sSeq (sExp (fCall 1 g_require_period (gCons (fVar 0) (gNil)))) (
  sSeq (sIf (fB (f2 leD (fVar 1) (fCall 1 g_common_divisor (gCons (fVar 0) (gNil))))) (
  sRet (fC (.bl true))) (
  sNx)) (
  sRet (f2 geD (fVar 1) (fCall 1 g_threshold_of (gCons (fVar 0) (gNil))))))))
def g_forced : List D → R D := runDef 2 b_forced
theorem r_forced (x0 x1 : D) : g_forced [x0, x1] = endD (b_forced [some (x0, false), some (x1, false)]) := rfl
/-! ### _law_asked -/
abbrev s__law_asked : Stmt := top 26
abbrev n__law_asked : List Str := ["periods", "unit", "due", "far", "handed", "n"]
def b__law_asked_1 : En → R O := sIf (gAnd (fB (f2 leD (fC (.int 0)) (fVar 5))) (fB (f2 leD (fVar 5) (f2 powD (fC (.int 10)) (fC (.int 18)))))) (
  sIf (gNot (fTru (fCall 2 g__law_truth (gCons (fCall 2 g_forced (gCons (fVar 4) (gCons (fVar 5) (gNil)))) (gCons (fOr (f2 leD (fVar 5) (fVar 1)) (f2 geD (fVar 5) (fVar 2))) (gNil)))))) (
  sRet (fC (.bl false))) (
  sNx)) (
  sNx)
def b__law_asked : En → R O := sSeq (sSet 4 (fL (fBi listL (gCons (fVar 0) (gNil))))) (
  sSeq (sIf (gNot (fTru (fCall 2 g__law_number (gCons (fCall 1 g_threshold (gCons (fVar 4) (gNil))) (gCons (fVar 2) (gNil)))))) (
  sRet (fC (.bl false))) (
  sNx)) (
  sSeq (sFor (gIt (fL (fLst (gCons (fVar 2) (gCons (f2 subD (fVar 2) (fC (.int 1))) (gCons (f2 addD (fVar 2) (fC (.int 1))) (gCons (fVar 1) (gCons (f2 addD (fVar 1) (fC (.int 1))) (gCons (fC (.int 0)) (gCons (f2 powD (fC (.int 10)) (fC (.int 18))) (gCons (fVar 3) (gNil)))))))))))) (tName 5) b__law_asked_1) (
  sRet (fAnd (fCall 2 g__law_number (gCons (fCall 1 g_threshold (gCons (fVar 4) (gNil))) (gCons (fVar 2) (gNil)))) (f2 eqD (fVar 4) (fVar 0))))))
def g__law_asked : List D → R D := runDef 6 b__law_asked
theorem r__law_asked (x0 x1 x2 x3 : D) : g__law_asked [x0, x1, x2, x3] = endD (b__law_asked [some (x0, false), some (x1, false), some (x2, false), some (x3, false), none, none]) := rfl
/-! ### _law_near -/
abbrev s__law_near : Stmt := top 25
abbrev n__law_near : List Str := ["periods", "step", "marks", "least", "n", "same", "p", "t", "old", "new", "mark"]
def b__law_near_1 : En → R O := sIf (gAnd (fB (f2 leD (fVar 6) (fVar 4))) (fB (f2 neD (f2 ixD (fVar 2) (fVar 4)) (f2 ixD (fVar 2) (f2 subD (fVar 4) (fVar 6)))))) (
  sSeq (sSet 8 (f2 ixD (fVar 2) (fVar 4))) (
  sSeq (sSet 9 (f2 ixD (fVar 2) (f2 subD (fVar 4) (fVar 6)))) (
  sSet 2 (fL (fLc [10] (gIt (fVar 2)) (tName 10) (gYes) (fIf (fB (f2 eqD (fVar 10) (fVar 8))) (fVar 9) (fVar 10))))))) (
  sNx)
def b__law_near_2 : En → R O := sSeq (sSetL 5 (fLc [7] (gR1 (gCons (f2 subD (fVar 4) (fVar 1)) (gNil))) (tName 7) (gYes) (f2 eqD (f2 ixD (fVar 2) (fVar 7)) (f2 ixD (fVar 2) (f2 addD (fVar 7) (fVar 1)))))) (
  sSeq (sIf (gAnd (fB (f2 gtD (fVar 4) (fVar 1))) (gNot (fTru (fBi allD (gCons (fVar 5) (gNil)))))) (
  sSet 3 (f2 addD (fVar 4) (fC (.int 1)))) (
  sNx)) (
  sSeq (sSet 2 (f2 addD (fVar 2) (fL (fLst (gCons (fVar 4) (gNil)))))) (
  sFor (gIt (fVar 0)) (tName 6) b__law_near_1)))
def b__law_near : En → R O := sSeq (sIf (fB (f2 eqD (fBi minD (gCons (fVar 0) (gNil))) (fVar 1))) (
  sRet (fC (.int 0))) (
  sNx)) (
  sSeq (sSet 2 (fL (fLst (gNil)))) (
  sSeq (sSet 3 (f2 addD (fVar 1) (fC (.int 1)))) (
  sSeq (sFor (gR1 (gCons (fC (.int 30)) (gNil))) (tName 4) b__law_near_2) (
  sRet (fVar 3)))))
def g__law_near : List D → R D := runDef 11 b__law_near
theorem r__law_near (x0 x1 : D) : g__law_near [x0, x1] = endD (b__law_near [some (x0, false), some (x1, false), none, none, none, none, none, none, none, none, none]) := rfl
/-! ### _law_multiple -/
abbrev s__law_multiple : Stmt := top 27
abbrev n__law_multiple : List Str := ["unit", "due", "draw", "times", "room"]
def b__law_multiple : En → R O := sSeq (sSet 3 (fBi maxD (gCons (fC (.int 1)) (gCons (f2 fdivD (f2 subD (f2 addD (fVar 1) (fVar 0)) (fC (.int 1))) (fVar 0)) (gNil))))) (
  sSeq (sSet 4 (f2 subD (f2 fdivD (f2 powD (fC (.int 10)) (fC (.int 18))) (fVar 0)) (fVar 3))) (
  sSeq (sIf (fB (f2 ltD (fVar 4) (fC (.int 0)))) (
  sRet (fC (.int 0))) (
  sNx)) (
  sRet (f2 mulD (fVar 0) (f2 addD (fVar 3) (f2 modD (f2 ixD (fL (fLst (gCons (fC (.int 0)) (gCons (fVar 2) (gNil))))) (f2 modD (fBi intD (gCons (fVar 2) (gNil))) (fC (.int 2)))) (f2 addD (fVar 4) (fC (.int 1)))))))))
def g__law_multiple : List D → R D := runDef 5 b__law_multiple
theorem r__law_multiple (x0 x1 x2 : D) : g__law_multiple [x0, x1, x2] = endD (b__law_multiple [some (x0, false), some (x1, false), some (x2, false), none, none]) := rfl
/-! ### _law_orders -/
abbrev s__law_orders : Stmt := top 28
abbrev n__law_orders : List Str := ["periods", "unit", "due", "cells", "place", "row", "far", "at", "twice", "more"]
def b__law_orders : En → R O := sSeq (sSet 5 (fCall 3 g__law_dig (gCons (fVar 3) (gCons (fVar 4) (gCons (fL (fLst (gCons (f2 powD (fC (.int 10)) (fC (.int 9))) (gCons (f2 powD (fC (.int 10)) (fC (.int 9))) (gCons (fC (.int 6)) (gCons (f2 powD (fC (.int 10)) (fC (.int 9))) (gNil))))))) (gNil)))))) (
  sSeq (sSet 6 (f2 addD (f2 mulD (f2 ixD (fVar 5) (fC (.int 0))) (f2 powD (fC (.int 10)) (fC (.int 9)))) (f2 ixD (fVar 5) (fC (.int 1))))) (
  sSeq (sIf (gNot (fTru (fCall 4 g__law_asked (gCons (fVar 0) (gCons (fVar 1) (gCons (fVar 2) (gCons (fVar 6) (gNil)))))))) (
  sRet (fC (.bl false))) (
  sNx)) (
  sSeq (sIf (gNot (fTru (fCall 4 g__law_asked (gCons (fL (fRev (fVar 0))) (gCons (fVar 1) (gCons (fVar 2) (gCons (fVar 6) (gNil)))))))) (
  sRet (fC (.bl false))) (
  sNx)) (
  sSeq (sSet 7 (f2 modD (fBi intD (gCons (f2 ixD (fVar 5) (fC (.int 2))) (gNil))) (fBi lenD (gCons (fVar 0) (gNil))))) (
  sSeq (sSet 8 (f2 addD (f2 addD (fL (fSl (fVar 0) (gSo (fVar 7)) (gNo))) (fL (fSl (fVar 0) (gNo) (gSo (fVar 7))))) (fL (fLst (gCons (f2 ixD (fVar 0) (fVar 7)) (gNil)))))) (
  sSeq (sIf (gNot (fTru (fCall 4 g__law_asked (gCons (fVar 8) (gCons (fVar 1) (gCons (fVar 2) (gCons (fVar 6) (gNil)))))))) (
  sRet (fC (.bl false))) (
  sNx)) (
  sSeq (sSet 9 (fCall 3 g__law_multiple (gCons (fVar 1) (gCons (fVar 2) (gCons (f2 addD (f2 mulD (f2 ixD (fVar 5) (fC (.int 3))) (f2 powD (fC (.int 10)) (fC (.int 9)))) (f2 ixD (fVar 5) (fC (.int 0)))) (gNil)))))) (
  sSeq (sIf (fB (f2 eqD (fVar 9) (fC (.int 0)))) (
  sRet (fC (.bl true))) (
  sNx)) (
  sRet (fCall 4 g__law_asked (gCons (f2 addD (f2 addD (fL (fSl (fVar 0) (gNo) (gSo (fVar 7)))) (fL (fLst (gCons (fVar 9) (gNil))))) (fL (fSl (fVar 0) (gSo (fVar 7)) (gNo)))) (gCons (fVar 1) (gCons (fVar 2) (gCons (fVar 6) (gNil)))))))))))))))
def g__law_orders : List D → R D := runDef 10 b__law_orders
theorem r__law_orders (x0 x1 x2 x3 x4 : D) : g__law_orders [x0, x1, x2, x3, x4] = endD (b__law_orders [some (x0, false), some (x1, false), some (x2, false), some (x3, false), some (x4, false), none, none, none, none, none]) := rfl
/-! ### law -/
abbrev s_law : Stmt := top 31
abbrev n_law : List Str := ["script", "cells", "plan", "limit", "near", "step", "d", "big", "times", "periods", "unit", "due", "led", "pair", "shared", "total", "k", "p"]
def b_law_1 : En → R O := sIf (fTru (fBi allD (gCons (fL (fLc [17] (gIt (fVar 4)) (tName 17) (gYes) (f2 eqD (f2 modD (fBi intD (gCons (fVar 17) (gNil))) (fVar 6)) (fC (.int 0))))) (gNil)))) (
  sSet 5 (fVar 6)) (
  sNx)
def b_law : En → R O := sSeq (sSet 1 (fL (fSl (fVar 0) (gNo) (gSo (fC (.int 63)))))) (
  sSeq (sSet 2 (fCall 3 g__law_dig (gCons (fVar 1) (gCons (fC (.int 0)) (gCons (fL (fLst (gCons (fC (.int 8)) (gCons (fC (.int 4)) (gCons (fC (.int 4)) (gCons (fC (.int 4)) (gNil))))))) (gNil)))))) (
  sSeq (sSet 3 (fC (.int 9))) (
  sSeq (sIf (fB (f2 eqD (f2 ixD (fVar 2) (fC (.int 0))) (fC (.int 5)))) (
  sSet 3 (fC (.int 14))) (
  sNx)) (
  sSeq (sSetL 4 (fLc [16] (gR1 (gCons (f2 addD (fC (.int 1)) (f2 ixD (fVar 2) (fC (.int 1)))) (gNil))) (tName 16) (gYes) (f2 addD (fC (.int 1)) (f2 ixD (fCall 3 g__law_dig (gCons (fVar 1) (gCons (f2 addD (fC (.int 1)) (fVar 16)) (gCons (fL (fLst (gCons (fVar 3) (gNil)))) (gNil))))) (fC (.int 0)))))) (
  sSeq (sSet 5 (fC (.int 1))) (
  sSeq (sFor (gR2 (gCons (fC (.int 2)) (gCons (f2 addD (fBi minD (gCons (fVar 4) (gNil))) (fC (.int 1))) (gNil)))) (tName 6) b_law_1) (
  sSeq (sSet 7 (fCall 3 g__law_dig (gCons (fVar 1) (gCons (fC (.int 5)) (gCons (fL (fLst (gCons (fC (.int 9)) (gCons (f2 powD (fC (.int 10)) (fC (.int 8))) (gCons (f2 powD (fC (.int 10)) (fC (.int 8))) (gNil)))))) (gNil)))))) (
  sSeq (sSet 8 (f2 ixD (fL (fLst (gCons (fC (.int 1)) (gCons (f2 addD (fC (.int 1)) (f2 ixD (fVar 7) (fC (.int 0)))) (gCons (f2 addD (fC (.int 1)) (f2 ixD (fVar 7) (fC (.int 1)))) (gCons (f2 addD (f2 addD (fC (.int 1)) (f2 mulD (f2 ixD (fVar 7) (fC (.int 1))) (f2 powD (fC (.int 10)) (fC (.int 8))))) (f2 ixD (fVar 7) (fC (.int 2)))) (gNil))))))) (f2 ixD (fVar 2) (fC (.int 2))))) (
  sSeq (sSetL 9 (fLc [17] (gIt (fVar 4)) (tName 17) (gYes) (f2 mulD (fVar 8) (fVar 17)))) (
  sSeq (sSet 10 (f2 mulD (fVar 8) (fVar 5))) (
  sSeq (sSet 11 (f2 mulD (fVar 8) (fCall 2 g__law_near (gCons (fVar 4) (gCons (fVar 5) (gNil)))))) (
  sSeq (sIf (gNot (fTru (fCall 5 g__law_orders (gCons (fVar 9) (gCons (fVar 10) (gCons (fVar 11) (gCons (fVar 1) (gCons (fC (.int 6)) (gNil))))))))) (
  sRet (fC (.bl false))) (
  sNx)) (
  sSeq (sSet 12 (fCall 5 g__law_led_on (gCons (fVar 1) (gCons (fVar 9) (gCons (fVar 10) (gCons (fVar 11) (gCons (f2 ixD (fVar 2) (fC (.int 3))) (gNil)))))))) (
  sSeq (sIf (gNot (fTru (fCall 5 g__law_orders (gCons (f2 ixD (fVar 12) (fC (.int 0))) (gCons (fVar 10) (gCons (f2 ixD (fVar 12) (fC (.int 1))) (gCons (fVar 1) (gCons (fC (.int 7)) (gNil))))))))) (
  sRet (fC (.bl false))) (
  sNx)) (
  sSeq (sSet 13 (fCall 1 g__law_two (gCons (fCall 3 g__law_dig (gCons (fVar 1) (gCons (fC (.int 11)) (gCons (fL (fLst (gCons (fC (.int 6)) (gCons (f2 powD (fC (.int 10)) (fC (.int 9))) (gCons (f2 powD (fC (.int 10)) (fC (.int 9))) (gCons (f2 powD (fC (.int 10)) (fC (.int 9))) (gCons (f2 powD (fC (.int 10)) (fC (.int 9))) (gCons (fC (.int 9)) (gNil))))))))) (gNil))))) (gNil)))) (
  sSeq (sSet 14 (fCall 2 g__law_gcd (gCons (f2 ixD (fVar 13) (fC (.int 0))) (gCons (f2 ixD (fVar 13) (fC (.int 1))) (gNil))))) (
  sSeq (sSet 15 (f2 subD (f2 addD (f2 ixD (fVar 13) (fC (.int 0))) (f2 ixD (fVar 13) (fC (.int 1)))) (fVar 14))) (
  sSeq (sIf (fB (f2 eqD (fVar 14) (fBi minD (gCons (fVar 13) (gNil))))) (
  sSet 15 (fC (.int 0))) (
  sNx)) (
  sSeq (sIf (gNot (fTru (fCall 5 g__law_orders (gCons (fVar 13) (gCons (fVar 14) (gCons (fVar 15) (gCons (fVar 1) (gCons (fC (.int 12)) (gNil))))))))) (
  sRet (fC (.bl false))) (
  sNx)) (
  sRet (fCall 4 g__law_asked (gCons (fVar 9) (gCons (fVar 10) (gCons (fVar 11) (gCons (fC (.int 7)) (gNil))))))))))))))))))))))))))
def g_law : List D → R D := runDef 18 b_law
theorem r_law (x0 : D) : g_law [x0] = endD (b_law [some (x0, false), none, none, none, none, none, none, none, none, none, none, none, none, none, none, none, none, none]) := rfl

end K36
set_option maxHeartbeats 4000000
/-! Thresholds of several periods: the plain mathematics. -/
namespace Th
/-- t is the threshold of the periods S, g their common divisor: while the least one p is not g, p is subtracted from all others -/
inductive TH (g : Int) : (Int → Prop) → Int → Prop where
  | base {S : Int → Prop} : S g → TH g S 0
  | step {S : Int → Prop} {p t : Int} : S p → (∀ q, S q → p ≤ q) → ¬ S g → TH g (fun x => x = p ∨ (S (x + p) ∧ 0 < x)) t → TH g S (p + max p t)
theorem TH.congr {g t : Int} {S S' : Int → Prop} (h : TH g S t) (e : ∀ x, S x ↔ S' x) : TH g S' t := by
  have : S = S' := funext fun x => propext (e x)
  rw [← this]; exact h
theorem TH.det {g t : Int} {S : Int → Prop} (h : TH g S t) : ∀ {t'}, TH g S t' → t = t' := by
  induction h with
  | base h =>
    intro t' h'
    cases h' with
    | base _ => rfl
    | step _ _ n _ => exact absurd h n
  | step h1 h2 h3 _ ih =>
    intro t' h'
    cases h' with
    | base h => exact absurd h h3
    | @step _ p' t'' h1' h2' h3' h4' =>
      have e : p' = _ := Int.le_antisymm (h2' _ h1) (h2 _ h1')
      subst e
      rw [ih h4']
theorem TH.nonneg {g t : Int} {S : Int → Prop} (h : TH g S t) (hp : ∀ q, S q → 0 < q) : 0 ≤ t := by
  cases h with
  | base _ => exact Int.le_refl 0
  | step h1 _ _ _ => have := hp _ h1; omega
/-- the members are positive multiples of g -/
structure Ok (g : Int) (S : Int → Prop) : Prop where
  g0 : 0 < g
  pos : ∀ q, S q → 0 < q
  dv : ∀ q, S q → g ∣ q
theorem Ok.next {g p : Int} {S : Int → Prop} (k : Ok g S) (h : S p) : Ok g (fun x => x = p ∨ (S (x + p) ∧ 0 < x)) :=
  ⟨k.g0, fun q hq => by
    rcases hq with rfl | hq
    · exact k.pos _ h
    · exact hq.2, fun q hq => by
    rcases hq with rfl | hq
    · exact k.dv _ h
    · have h1 := k.dv _ hq.1
      have h2 := k.dv _ h
      have := Int.dvd_sub h1 h2
      rwa [show q + p - p = q by omega] at this⟩
theorem Ok.le {g q : Int} {S : Int → Prop} (k : Ok g S) (h : S q) : g ≤ q := Int.le_of_dvd (k.pos _ h) (k.dv _ h)
theorem Ok.lt {g q : Int} {S : Int → Prop} (k : Ok g S) (h : S q) (n : ¬ S g) : 2 * g ≤ q := by
  have h1 := k.le h
  have h2 : q ≠ g := fun e => n (e ▸ h)
  obtain ⟨c, rfl⟩ := k.dv _ h
  have h3 : 1 < c := by
    have hg := k.g0
    have : ¬ c ≤ 1 := fun hc => by
      have := Int.mul_le_mul_of_nonneg_left hc (Int.le_of_lt hg)
      omega
    omega
  have := Int.mul_le_mul_of_nonneg_left (show (2 : Int) ≤ c by omega) (Int.le_of_lt k.g0)
  omega
/-- a threshold other than 0 is at least twice a member -/
theorem TH.two {g t : Int} {S : Int → Prop} (h : TH g S t) (n : ¬ S g) : ∃ p, S p ∧ 2 * p ≤ t ∧ ∀ q, S q → p ≤ q := by
  cases h with
  | base h => exact absurd h n
  | step h1 h2 _ _ => exact ⟨_, h1, by omega, h2⟩
/-- a multiple of g that is not below the threshold changes nothing -/
theorem TH.more {g t : Int} {S : Int → Prop} (h : TH g S t) : ∀ {m : Int}, Ok g S → g ∣ m → g ≤ m → t ≤ m → TH g (fun x => S x ∨ x = m) t := by
  induction h with
  | base h => exact fun _ _ _ _ => .base (.inl h)
  | @step S p t h1 h2 h3 h4 ih =>
    intro m k hd hg hm
    have hp := k.pos _ h1
    have hgp := k.lt h1 h3
    have hg0 := k.g0
    refine .step (.inl h1) (fun q hq => ?_) (fun hq => ?_) ?_
    · rcases hq with hq | rfl
      · exact h2 q hq
      · omega
    · rcases hq with hq | hq
      · exact h3 hq
      · omega
    · have hd' : g ∣ m - p := Int.dvd_sub hd (k.dv _ h1)
      refine (ih (m := m - p) (k.next h1) hd' (by omega) (by omega)).congr fun x => ?_
      constructor
      · rintro ((rfl | ⟨a, b⟩) | rfl)
        · exact .inl rfl
        · exact .inr ⟨.inl a, b⟩
        · exact .inr ⟨.inr (by omega), by omega⟩
      · rintro (rfl | ⟨a | a, b⟩)
        · exact .inl (.inl rfl)
        · exact .inl (.inr ⟨a, b⟩)
        · exact .inr (by omega)
/-- multiplied by c -/
theorem TH.scale {g t c : Int} {S : Int → Prop} (hc : 0 < c) (h : TH g S t) : TH (c * g) (fun x => ∃ y, S y ∧ x = c * y) (c * t) := by
  induction h with
  | base h => rw [Int.mul_zero]; exact .base ⟨_, h, rfl⟩
  | @step S p t h1 h2 h3 h4 ih =>
    have hm : c * (p + max p t) = c * p + max (c * p) (c * t) := by
      rw [Int.mul_add]
      congr 1
      rcases Int.le_total p t with h | h
      · rw [Int.max_eq_right h, Int.max_eq_right (Int.mul_le_mul_of_nonneg_left h (Int.le_of_lt hc))]
      · rw [Int.max_eq_left h, Int.max_eq_left (Int.mul_le_mul_of_nonneg_left h (Int.le_of_lt hc))]
    rw [hm]
    refine .step ⟨p, h1, rfl⟩ (fun q hq => ?_) (fun hq => ?_) (ih.congr fun x => ?_)
    · obtain ⟨y, hy, rfl⟩ := hq
      exact Int.mul_le_mul_of_nonneg_left (h2 y hy) (Int.le_of_lt hc)
    · obtain ⟨y, hy, e⟩ := hq
      have := Int.eq_of_mul_eq_mul_left (by omega) e
      exact h3 (this ▸ hy)
    · constructor
      · rintro ⟨y, (rfl | ⟨a, b⟩), rfl⟩
        · exact .inl rfl
        · exact .inr ⟨⟨y + p, a, by rw [Int.mul_add]⟩, Int.mul_pos hc b⟩
      · rintro (rfl | ⟨⟨y, hy, e⟩, b⟩)
        · exact ⟨p, .inl rfl, rfl⟩
        · have e2 : x = c * (y - p) := by rw [Int.mul_sub]; omega
          refine ⟨y - p, .inr ⟨by rw [show y - p + p = y by omega]; exact hy, ?_⟩, e2⟩
          rw [e2] at b
          refine Int.lt_of_not_ge fun h => ?_
          have := Int.mul_le_mul_of_nonneg_left h (Int.le_of_lt hc)
          omega
/-- p and the others, each n times p greater -/
def up (p : Int) (S : Int → Prop) (n : Nat) : Int → Prop := fun x => x = p ∨ ∃ y, S y ∧ x = y + n * p
/-- a first member p stays the least while it is subtracted: n rounds -/
theorem TH.ups {g p t : Int} {S : Int → Prop} (hp : 0 < p) (hg : ∀ y, S y → 0 < y) (hgp : g < p) (h : TH g (fun x => x = p ∨ S x) t) : ∀ n : Nat, TH g (up p S (n + 1)) ((n + 1) * p + max p t)
  | 0 => by
    have z : TH g (up p S (0 + 1)) (p + max p t) := by
      refine .step (.inl rfl) (fun q hq => ?_) (fun hq => ?_) (h.congr fun x => ?_)
      · rcases hq with rfl | ⟨y, hy, rfl⟩
        · exact Int.le_refl _
        · have := hg y hy; simp; omega
      · rcases hq with rfl | ⟨y, hy, e⟩
        · omega
        · have := hg y hy; simp at e; omega
      · constructor
        · rintro (rfl | a)
          · exact .inl rfl
          · exact .inr ⟨.inr ⟨x, a, by simp⟩, hg x a⟩
        · rintro (rfl | ⟨a | ⟨y, hy, e⟩, b⟩)
          · exact .inl rfl
          · omega
          · simp at e
            exact .inr (by rw [show x = y by omega]; exact hy)
    have e : (((0 : Nat) : Int) + 1) * p + max p t = p + max p t := by simp
    rw [e]; exact z
  | n + 1 => by
    have ih := TH.ups hp hg hgp h n
    have hn : (0 : Int) ≤ (n : Int) * p := Int.mul_nonneg (by omega) (by omega)
    have e1 : ((n + 1 : Nat) : Int) * p = n * p + p := by rw [Int.natCast_add, Int.add_mul]; simp
    have e2 : ((n + 1 + 1 : Nat) : Int) * p = n * p + p + p := by rw [Int.natCast_add, Int.add_mul, e1]; simp
    have e3 : ((n : Int) + 1) * p = n * p + p := by rw [Int.add_mul]; simp
    have e4 : (((n + 1 : Nat) : Int) + 1) * p = n * p + p + p := by rw [Int.add_mul, e1]; simp
    rw [e3] at ih
    rw [e4]
    have z : TH g (up p S (n + 1 + 1)) (p + max p (n * p + p + max p t)) := by
      refine .step (.inl rfl) (fun q hq => ?_) (fun hq => ?_) (ih.congr fun x => ?_)
      · rcases hq with rfl | ⟨y, hy, rfl⟩
        · exact Int.le_refl _
        · have := hg y hy; rw [e2]; omega
      · rcases hq with rfl | ⟨y, hy, e⟩
        · omega
        · have := hg y hy; rw [e2] at e; omega
      · constructor
        · rintro (rfl | ⟨y, hy, rfl⟩)
          · exact .inl rfl
          · have := hg y hy
            exact .inr ⟨.inr ⟨y, hy, by rw [e1, e2]; omega⟩, by rw [e1]; omega⟩
        · rintro (rfl | ⟨a | ⟨y, hy, e⟩, b⟩)
          · exact .inl rfl
          · omega
          · exact .inr ⟨y, hy, by rw [e2] at e; rw [e1]; omega⟩
    rw [show n * p + p + p + max p t = p + max p (n * p + p + max p t) by omega]
    exact z
end Th
set_option maxHeartbeats 4000000
namespace Th
/-- r rounds at once -/
theorem TH.batch {g p : Int} {S : Int → Prop} (k : Ok g S) (h1 : S p) (h2 : ∀ q, S q → p ≤ q) (h3 : ¬ S g) : ∀ (r : Nat) {t : Int}, (∀ q, S q → ¬ p ∣ q → ((r : Int) + 1) * p ≤ q) →
    TH g (fun x => x = p ∨ (S (x + (r + 1) * p) ∧ 0 < x)) t → TH g S ((r + 1) * p + max p t)
  | 0, t, _, h => by
    have e : (((0 : Nat) : Int) + 1) * p = p := by simp
    rw [e] at h ⊢
    exact .step h1 h2 h3 h
  | r + 1, t, hr, h => by
    have hp := k.pos _ h1
    have hgp := k.lt h1 h3
    have hg0 := k.g0
    have e1 : ((r + 1 : Nat) : Int) = (r : Int) + 1 := by omega
    rw [e1] at hr h ⊢
    have e2 : ((r : Int) + 1 + 1) * p = (r + 1) * p + p := by rw [Int.add_mul ((r : Int) + 1)]; simp
    rw [e2] at hr h ⊢
    have hn : (0 : Int) ≤ ((r : Int) + 1) * p := Int.mul_nonneg (by omega) (by omega)
    have least : ∀ q, (q = p ∨ (S (q + (r + 1) * p) ∧ 0 < q)) → p ≤ q := fun q hq => by
      rcases hq with rfl | ⟨a, b⟩
      · exact Int.le_refl _
      · by_cases hd : p ∣ q + (r + 1) * p
        · have h' : p ∣ (r + 1) * p := Int.dvd_mul_left _ _
          have := Int.dvd_sub hd h'
          rw [show q + (r + 1) * p - (r + 1) * p = q by omega] at this
          exact Int.le_of_dvd b this
        · have := hr _ a hd
          omega
    have z : TH g (fun x => x = p ∨ (S (x + (r + 1) * p) ∧ 0 < x)) (p + max p t) := by
      refine .step (.inl rfl) least (fun hq => ?_) (h.congr fun x => ?_)
      · have := least g hq
        omega
      · constructor
        · rintro (rfl | ⟨a, b⟩)
          · exact .inl rfl
          · exact .inr ⟨.inr ⟨by rw [show x + p + (r + 1) * p = x + ((r + 1) * p + p) by omega]; exact a, by omega⟩, b⟩
        · rintro (rfl | ⟨a | ⟨a, _⟩, b⟩)
          · exact .inl rfl
          · omega
          · exact .inr ⟨by rw [show x + ((r + 1) * p + p) = x + p + (r + 1) * p by omega]; exact a, b⟩
    have := TH.batch k h1 h2 h3 r (fun q hq hd => by have := hr q hq hd; omega) z
    rw [show (r + 1) * p + p + max p t = (r + 1) * p + max p (p + max p t) by omega]
    exact this
theorem gcd_sub_self (a b : Int) : Int.gcd a (b - a) = Int.gcd a b := by simp
/-- two periods -/
theorem TH.pair {g : Int} (hg : 0 < g) : ∀ (n : Nat) (a b : Int), a + b ≤ n → 0 < a → 0 < b → (Int.gcd a b : Int) = g → TH g (fun x => x = a ∨ x = b) (if g = a ∨ g = b then 0 else a + b - g)
  | 0, a, b, h, ha, hb, _ => by omega
  | n + 1, a, b, h, ha, hb, e => by
    have half : ∀ a b : Int, a + b ≤ (n + 1 : Nat) → 0 < a → 0 < b → (Int.gcd a b : Int) = g → a < b → ¬ (g = a ∨ g = b) → TH g (fun x => x = a ∨ x = b) (a + b - g) := fun a b h ha hb e hab hn => by
      have ih := TH.pair hg n a (b - a) (by omega) ha (by omega) (by rw [← e, gcd_sub_self])
      have d1 : g ∣ a := by rw [← e]; exact Int.gcd_dvd_left ..
      have d2 : g ∣ b := by rw [← e]; exact Int.gcd_dvd_right ..
      have d3 : g ≤ b - a := Int.le_of_dvd (by omega) (Int.dvd_sub d2 d1)
      have z : TH g (fun x => x = a ∨ x = b) (a + max a (if g = a ∨ g = b - a then 0 else a + (b - a) - g)) := by
        refine .step (.inl rfl) (fun q hq => by omega) (fun hq => hn hq) (ih.congr fun x => ?_)
        constructor
        · rintro (rfl | rfl)
          · exact .inl rfl
          · exact .inr ⟨.inr (by omega), by omega⟩
        · rintro (rfl | ⟨q | q, b'⟩)
          · exact .inl rfl
          · omega
          · exact .inr (by omega)
      have e2 : a + max a (if g = a ∨ g = b - a then 0 else a + (b - a) - g) = a + b - g := by
        by_cases hc : g = b - a
        · rw [if_pos (.inr hc)]; omega
        · rw [if_neg (fun q => q.elim (fun q => hn (.inl q)) hc)]; omega
      rw [← e2]; exact z
    by_cases hn : g = a ∨ g = b
    · rw [if_pos hn]; exact .base hn
    · rw [if_neg hn]
      rcases Int.lt_trichotomy a b with hab | hab | hab
      · exact half a b h ha hb e hab hn
      · subst hab
        rw [Int.gcd_self] at e
        omega
      · have := half b a (by omega) hb ha (by rw [Int.gcd_comm]; exact e) hab (fun q => hn q.symm)
        rw [show b + a - g = a + b - g by omega] at this
        exact this.congr fun x => Or.comm
/-! ### joined places -/
/-- the least joining in which each two of E are joined -/
inductive Cl (E : Int → Int → Prop) : Int → Int → Prop where
  | refl (i : Int) : Cl E i i
  | edge {i j : Int} : E i j → Cl E i j
  | symm {i j : Int} : Cl E i j → Cl E j i
  | trans {i j k : Int} : Cl E i j → Cl E j k → Cl E i k
theorem Cl.map {E E' : Int → Int → Prop} {f : Int → Int} (h : ∀ i j, E i j → Cl E' (f i) (f j)) : ∀ {i j}, Cl E i j → Cl E' (f i) (f j) := fun {i j} c => by
  induction c with
  | refl i => exact .refl _
  | edge e => exact h _ _ e
  | symm _ ih => exact .symm ih
  | trans _ _ ih1 ih2 => exact .trans ih1 ih2
theorem Cl.mono {E E' : Int → Int → Prop} (h : ∀ i j, E i j → Cl E' i j) {i j : Int} (c : Cl E i j) : Cl E' i j := Cl.map (f := fun x => x) h c
/-- places of a word of n letters, as far apart as a period -/
def Ed (n : Int) (S : Int → Prop) : Int → Int → Prop := fun i j => 0 ≤ i ∧ j < n ∧ S (j - i)
abbrev Cn (n : Int) (S : Int → Prop) : Int → Int → Prop := Cl (Ed n S)
/-- g is a period of the freest word -/
def Fo (n : Int) (S : Int → Prop) (g : Int) : Prop := ∀ i, 0 ≤ i → i + g < n → Cn n S i (i + g)
section
variable {n p g : Int} {S : Int → Prop}
def cut (p : Int) (S : Int → Prop) : Int → Prop := fun x => x = p ∨ (S (x + p) ∧ 0 < x)
def fold (p i : Int) : Int := if i < p then i else i - p
theorem cn_down (hp : 0 < p) (h2 : ∀ q, S q → p ≤ q) {i j : Int} (c : Cn n S i j) : Cn (n - p) (cut p S) (fold p i) (fold p j) := by
  refine Cl.map (fun i j ⟨h0, hj, hs⟩ => ?_) c
  have hq := h2 _ hs
  have ej : fold p j = j - p := if_neg (by omega)
  rw [ej]
  by_cases hi : i < p
  · rw [show fold p i = i from if_pos hi]
    by_cases e : j - i = p
    · rw [show j - p = i by omega]; exact .refl _
    · exact .edge ⟨h0, by omega, .inr ⟨by rw [show j - p - i + p = j - i by omega]; exact hs, by omega⟩⟩
  · rw [show fold p i = i - p from if_neg hi]
    have e1 : Cn (n - p) (cut p S) (i - p) i ∨ j - i = p := by
      by_cases e : j - i = p
      · exact .inr e
      · exact .inl (.edge ⟨by omega, by omega, .inl (by omega)⟩)
    rcases e1 with e1 | e
    · by_cases e : j - i = p
      · rw [show j - p = i by omega]; exact e1
      · exact e1.trans (.edge ⟨h0, by omega, .inr ⟨by rw [show j - p - i + p = j - i by omega]; exact hs, by omega⟩⟩)
    · rw [show j - p = i by omega]
      exact .edge ⟨by omega, by omega, .inl (by omega)⟩
theorem cn_up (hp : 0 < p) (h1 : S p) {i j : Int} (c : Cn (n - p) (cut p S) i j) : Cn n S (i + p) (j + p) := by
  refine Cl.map (f := fun x => x + p) (fun i j ⟨h0, hj, hs⟩ => ?_) c
  rcases hs with e | ⟨hs, h⟩
  · exact .edge ⟨by omega, by omega, by rw [show j + p - (i + p) = p by omega]; exact h1⟩
  · refine .trans (.symm (.edge (i := i) ⟨h0, by omega, by rw [show i + p - i = p by omega]; exact h1⟩)) (.edge ⟨h0, by omega, ?_⟩)
    rw [show j + p - i = j - i + p by omega]; exact hs
theorem fo_mult (hg : 0 < g) (h : Fo n S g) : ∀ (k : Nat) (i : Int), 0 ≤ i → i + k * g < n → Cn n S i (i + k * g)
  | 0, i, _, _ => by rw [show i + ((0 : Nat) : Int) * g = i by simp]; exact .refl _
  | k + 1, i, h0, hk => by
    have e : i + ((k + 1 : Nat) : Int) * g = i + k * g + g := by rw [show ((k + 1 : Nat) : Int) = (k : Int) + 1 by omega, Int.add_mul]; omega
    have hn : (0 : Int) ≤ k * g := Int.mul_nonneg (by omega) (by omega)
    rw [e] at hk ⊢
    exact (fo_mult hg h k i h0 (by omega)).trans (h _ (by omega) hk)
/-- a long word is forced exactly if the word without its first p letters is -/
theorem fo_long (k : Ok g S) (h1 : S p) (h2 : ∀ q, S q → p ≤ q) (hn : 2 * p ≤ n) : Fo n S g ↔ Fo (n - p) (cut p S) g := by
  have hp := k.pos _ h1
  have hg := k.g0
  have hgp := k.le h1
  constructor
  · intro h i h0 hi
    have := cn_down hp h2 (h (i + p) (by omega) (by omega))
    rw [show fold p (i + p) = i by unfold fold; rw [if_neg (by omega)]; omega, show fold p (i + p + g) = i + g by unfold fold; rw [if_neg (by omega)]; omega] at this
    exact this
  · intro h i h0 hi
    have to : ∀ x, 0 ≤ x → x < n → Cn n S x (fold p x + p) := fun x hx hxn => by
      unfold fold
      by_cases c : x < p
      · rw [if_pos c]; exact .edge ⟨hx, by omega, by rw [show x + p - x = p by omega]; exact h1⟩
      · rw [if_neg c, show x - p + p = x by omega]; exact .refl _
    refine (to i h0 (by omega)).trans (.trans (cn_up hp h1 ?_) (to (i + g) (by omega) hi).symm)
    unfold fold
    by_cases c1 : i + g < p
    · rw [if_pos (by omega), if_pos c1]; exact h i h0 (by omega)
    · rw [if_neg c1]
      by_cases c2 : i < p
      · rw [if_pos c2]
        obtain ⟨c, hc⟩ := k.dv _ h1
        have hc1 : 1 ≤ c := by
          have : ¬ c ≤ 0 := fun q => by
            have := Int.mul_le_mul_of_nonneg_left q (Int.le_of_lt hg)
            omega
          omega
        have e : (((c - 1).toNat : Nat) : Int) = c - 1 := by omega
        have e2 : i = i + g - p + ((c - 1).toNat : Nat) * g := by
          rw [e, Int.sub_mul, Int.mul_comm c g, ← hc]; omega
        have := fo_mult hg h (c - 1).toNat (i + g - p) (by omega) (by rw [← e2]; omega)
        rw [← e2] at this
        exact this.symm
      · rw [if_neg c2]
        have := h (i - p) (by omega) (by omega)
        rw [show i - p + g = i + g - p by omega] at this
        exact this
theorem cl_iso {E : Int → Int → Prop} {i : Int} (h : ∀ j, ¬ E i j ∧ ¬ E j i) : ∀ {a b : Int}, Cl E a b → (a = i ↔ b = i) := fun {a b} c => by
  induction c with
  | refl _ => exact Iff.rfl
  | edge e =>
    constructor
    · rintro rfl; exact ((h _).1 e).elim
    · rintro rfl; exact ((h _).2 e).elim
  | symm _ ih => exact ih.symm
  | trans _ _ ih1 ih2 => exact ih1.trans ih2
/-- a short word is not -/
theorem fo_short (k : Ok g S) (h1 : S p) (h2 : ∀ q, S q → p ≤ q) (h3 : ¬ S g) (hg : g < n) (hn : n < 2 * p) : ¬ Fo n S g := by
  intro h
  have hgp := k.lt h1 h3
  have hg0 := k.g0
  by_cases c : n ≤ p
  · have := (cl_iso (i := 0) (fun j => ⟨fun ⟨_, a, b⟩ => by have := h2 _ b; omega, fun ⟨a, _, b⟩ => by have := h2 _ b; omega⟩) (h 0 (Int.le_refl 0) (by omega))).mp rfl
    omega
  · have := (cl_iso (i := p - 1) (fun j => ⟨fun ⟨_, a, b⟩ => by have := h2 _ b; omega, fun ⟨a, _, b⟩ => by have := h2 _ b; omega⟩) (h (p - 1 - g) (by omega) (by omega))).mpr (by omega)
    omega
end
/-- what a threshold is -/
theorem TH.forced {g t : Int} {S : Int → Prop} (h : TH g S t) : Ok g S → ∀ n, g < n → (Fo n S g ↔ t ≤ n) := by
  induction h with
  | base h =>
    intro k n hn
    have := k.g0
    exact ⟨fun _ => by omega, fun _ i h0 hi => .edge ⟨h0, hi, by rw [show i + g - i = g by omega]; exact h⟩⟩
  | @step S p t h1 h2 h3 h4 ih =>
    intro k n hn
    have hgp := k.lt h1 h3
    have hg0 := k.g0
    by_cases c : n < 2 * p
    · exact ⟨fun h => (fo_short k h1 h2 h3 hn c h).elim, fun h => by omega⟩
    · rw [fo_long k h1 h2 (by omega), show Fo (n - p) (cut p S) g ↔ t ≤ n - p from ih (k.next h1) (n - p) (by omega)]
      omega
theorem TH.no_one {g t : Int} {S : Int → Prop} (h : TH g S t) : ∀ {p : Int}, 0 < p → (∀ q, S q ↔ q = p) → p = g := by
  induction h with
  | base h => exact fun _ e => ((e _).mp h).symm
  | @step S p t h1 h2 h3 h4 ih =>
    intro p' hp e
    have := (e _).mp h1
    subst this
    refine ih hp fun q => ⟨fun hq => ?_, fun hq => .inl hq⟩
    rcases hq with hq | ⟨a, b⟩
    · exact hq
    · have := (e _).mp a; omega
theorem TH.le {g t : Int} {S : Int → Prop} (h : TH g S t) : Ok g S → ∀ p M, S p → (∀ q, S q → p ≤ q) → S M → (∀ q, S q → q ≤ M) → t ≤ p + M - g := by
  induction h with
  | base h =>
    intro k p M hp _ hM _
    have := k.le hp; have := k.pos _ hM; omega
  | @step S p t h1 h2 h3 h4 ih =>
    intro k p' M hp' hl hM hu
    have : p' = p := Int.le_antisymm (hl _ h1) (h2 _ hp')
    subst this
    have hgp := k.lt h1 h3
    have hg0 := k.g0
    by_cases hpM : M = p'
    · subst hpM
      exact (h3 ((TH.no_one (.step h1 h2 h3 h4) (k.pos _ h1) fun q => ⟨fun hq => Int.le_antisymm (hu q hq) (h2 q hq), fun hq => hq ▸ h1⟩) ▸ h1)).elim
    · have hlt : p' < M := by have := h2 _ hM; omega
      have hgM : g ≤ M - p' := Int.le_of_dvd (by omega) (Int.dvd_sub (k.dv _ hM) (k.dv _ h1))
      have t' : t ≤ M - g := by
        cases h4 with
        | base _ => omega
        | @step _ p2 t2 a1 a2 a3 a4 =>
          have q1 := a2 _ (.inl rfl)
          have q2 := a2 (M - p') (.inr ⟨by rw [show M - p' + p' = M by omega]; exact hM, by omega⟩)
          have q3 := ih (k.next h1) p2 (max p' (M - p')) a1 a2 (by
            rcases Int.le_total p' (M - p') with q | q
            · rw [Int.max_eq_right q]; exact .inr ⟨by rw [show M - p' + p' = M by omega]; exact hM, by omega⟩
            · rw [Int.max_eq_left q]; exact .inl rfl) (fun q hq => by
            rcases hq with rfl | ⟨a, b⟩
            · omega
            · have := hu _ a; omega)
          omega
      omega
/-! ### labels -/
/-- two labels made one -/
theorem merge_lab {E : Int → Int → Prop} {m : Int} {lab : Int → Int} {a b : Int} (ha : 0 ≤ a ∧ a < m) (hb : 0 ≤ b ∧ b < m) (h : ∀ i j, 0 ≤ i → i < m → 0 ≤ j → j < m → (lab i = lab j ↔ Cl E i j)) (hE : ∀ i j, E i j → (0 ≤ i ∧ i < m) ∧ 0 ≤ j ∧ j < m) :
    ∀ i j, 0 ≤ i → i < m → 0 ≤ j → j < m → ((if lab i = lab b then lab a else lab i) = (if lab j = lab b then lab a else lab j) ↔ Cl (fun x y => E x y ∨ (x = a ∧ y = b)) i j) := by
  intro i j hi hi' hj hj'
  have up : ∀ {x y}, Cl E x y → Cl (fun x y => E x y ∨ (x = a ∧ y = b)) x y := fun c => c.mono fun _ _ e => .edge (.inl e)
  have ab : Cl (fun x y => E x y ∨ (x = a ∧ y = b)) a b := .edge (.inr ⟨rfl, rfl⟩)
  constructor
  · intro e
    by_cases c1 : lab i = lab b
    · have q1 := up ((h i b hi hi' hb.1 hb.2).mp c1)
      rw [if_pos c1] at e
      by_cases c2 : lab j = lab b
      · exact q1.trans (up ((h j b hj hj' hb.1 hb.2).mp c2)).symm
      · rw [if_neg c2] at e
        exact (q1.trans ab.symm).trans (up ((h a j ha.1 ha.2 hj hj').mp e))
    · rw [if_neg c1] at e
      by_cases c2 : lab j = lab b
      · rw [if_pos c2] at e
        exact (up ((h i a hi hi' ha.1 ha.2).mp e)).trans (ab.trans (up ((h j b hj hj' hb.1 hb.2).mp c2)).symm)
      · rw [if_neg c2] at e
        exact up ((h i j hi hi' hj hj').mp e)
  · intro c
    clear hi hi' hj hj'
    induction c with
    | refl _ => rfl
    | @edge x y e =>
      rcases e with e | ⟨rfl, rfl⟩
      · obtain ⟨q1, q2⟩ := hE _ _ e
        rw [(h _ _ q1.1 q1.2 q2.1 q2.2).mpr (.edge e)]
      · simp
    | symm _ ih => exact ih.symm
    | trans _ _ ih1 ih2 => exact ih1.trans ih2
end Th
set_option maxHeartbeats 4000000
namespace K36
open PySem L2 Pc Th
abbrev L (ns : List Int) : D := .lst (ns.map .int)
theorem check_range_ok {v lo hi : Int} (h1 : lo ≤ v) (h2 : v ≤ hi) : g_check_range [.int v, .int lo, .int hi] = .ok .non := by
  have e1 : ¬ v < lo := by omega
  have e2 : ¬ hi < v := by omega
  simp [r_check_range, b_check_range, fVar, e1, e2]
theorem check_many_ok {ds : List D} {m : Int} (h : (ds.length : Int) ≤ m) : g_check_many [.lst ds, .int m] = .ok .non := by
  have e1 : ¬ m < (ds.length : Int) := by omega
  simp [r_check_many, b_check_many, fVar, e1]
theorem number_ok {a b : Int} : g__law_number [.int a, .int b] = .ok (.bl (decide (a = b))) := by
  simp [r__law_number, b__law_number, fVar]
theorem truth_ok {a b : Bool} : g__law_truth [.bl a, .bl b] = .ok (.bl (decide (a = b))) := by
  cases b <;> simp [r__law_truth, b__law_truth, fVar]
theorem check_periods_ok {ps : List Int} (hl : ps.length ≤ 6) (h : ∀ p ∈ ps, 1 ≤ p ∧ p ≤ 10 ^ 18) : g_check_periods [L ps] = .ok .non := by
  have hm : g_check_many [L ps, .int 6] = .ok .non := check_many_ok (by simp; omega)
  obtain ⟨ρ', e, _⟩ := for_name (i := 1) (body := b_check_periods_1) (ds := ps.map D.int) (ρ := [some (L ps, false), none]) (fun _ ρ => ∃ x, ρ = [some (L ps, false), x]) ⟨_, rfl⟩ fun j d ρ hj ⟨x, hρ⟩ => by
    obtain ⟨p, hp, rfl⟩ := map_get hj
    subst hρ
    have := @check_range_ok p 1 1000000000000000000 (h p (List.mem_of_getElem? hp)).1 (h p (List.mem_of_getElem? hp)).2
    exact ⟨[some (L ps, false), some (.int p, false)], by simp [b_check_periods_1, fVar, this], _, rfl⟩
  simp [r_check_periods, b_check_periods, fVar, hm, e]

theorem take_snoc {α : Type} {xs : List α} {j : Nat} {x : α} (h : xs[j]? = some x) : xs.take (j + 1) = xs.take j ++ [x] := by rw [List.take_add_one, h]; rfl
theorem lg {i : Int} (h : i.natAbs < 2 ^ 64) : i.natAbs.log2 < 64 := log2_small h (by decide)
theorem lg18 {i : Int} (h0 : 0 ≤ i) (h : i ≤ 10 ^ 18) : i.natAbs.log2 < 64 := lg (by omega)
theorem mul18 {i j : Int} (h0 : 0 ≤ i) (h : i ≤ 10 ^ 18) (h0' : 0 ≤ j) (h' : j ≤ 10 ^ 18) : mulD (.int i) (.int j) = .ok (.int (i * j)) := x_mul (by have := lg18 h0 h; have := lg18 h0' h'; omega)
/-! ### the divisor -/
def gcdL (ps : List Int) : Int := ps.foldl (fun d n => ((Nat.gcd d.natAbs n.natAbs : Nat) : Int)) 0
theorem common_divisor_ok (ps : List Int) : g_common_divisor [L ps] = .ok (.int (gcdL ps)) := by
  obtain ⟨ρ', e, x, hρ⟩ := for_name (i := 2) (body := b_common_divisor_1) (ds := ps.map D.int) (ρ := [some (L ps, false), some (.int 0, false), none]) (fun j ρ => ∃ x, ρ = [some (L ps, false), some (.int (gcdL (ps.take j)), false), x]) ⟨_, rfl⟩ fun j d ρ hj ⟨x, hρ⟩ => by
    obtain ⟨p, hp, rfl⟩ := map_get hj
    subst hρ
    refine ⟨[some (L ps, false), some (.int (gcdL (ps.take (j + 1))), false), some (.int p, false)], ?_, _, rfl⟩
    rw [take_snoc hp]
    simp [b_common_divisor_1, fVar, gcdL]
  subst hρ
  rw [List.length_map, List.take_length] at e
  simp [r_common_divisor, b_common_divisor, fVar, e]
theorem gcdL_dvd (d : Int) : ∀ (ps : List Int) (a : Int), d ∣ ps.foldl (fun d n => ((Nat.gcd d.natAbs n.natAbs : Nat) : Int)) a ↔ d ∣ a ∧ ∀ q ∈ ps, d ∣ q
  | [], a => by simp
  | p :: ps, a => by
    rw [List.foldl_cons, gcdL_dvd d ps]
    have : d ∣ ((Nat.gcd a.natAbs p.natAbs : Nat) : Int) ↔ d ∣ a ∧ d ∣ p := Int.dvd_coe_gcd_iff (a := a) (b := p) (c := d)
    rw [this]
    constructor
    · rintro ⟨⟨h1, h2⟩, h3⟩
      exact ⟨h1, fun q hq => by rcases List.mem_cons.mp hq with rfl | hq; exact h2; exact h3 q hq⟩
    · rintro ⟨h1, h2⟩
      exact ⟨⟨h1, h2 p List.mem_cons_self⟩, fun q hq => h2 q (List.mem_cons_of_mem _ hq)⟩
/-- g is the greatest common divisor of the members -/
structure Gc (g : Int) (S : Int → Prop) : Prop where
  pos : 0 < g
  iff : ∀ d, (∀ q, S q → d ∣ q) ↔ d ∣ g
theorem Gc.dv {g q : Int} {S : Int → Prop} (h : Gc g S) (hq : S q) : g ∣ q := (h.iff g).mpr (Int.dvd_refl g) q hq
theorem Gc.ok {g : Int} {S : Int → Prop} (h : Gc g S) (p : ∀ q, S q → 0 < q) : Ok g S := ⟨h.pos, p, fun _ hq => h.dv hq⟩
theorem Gc.unique {g g' : Int} {S : Int → Prop} (h : Gc g S) (h' : Gc g' S) : g = g' :=
  Int.dvd_antisymm (Int.le_of_lt h.pos) (Int.le_of_lt h'.pos) ((h'.iff g).mp fun _ hq => h.dv hq) ((h.iff g').mp fun _ hq => h'.dv hq)
theorem Gc.congr {g : Int} {S S' : Int → Prop} (h : Gc g S) (e : ∀ x, S x ↔ S' x) : Gc g S' := ⟨h.pos, fun d => by rw [← h.iff d]; exact ⟨fun k q hq => k q ((e q).mp hq), fun k q hq => k q ((e q).mpr hq)⟩⟩
theorem gcdL_gc {ps : List Int} (hne : ps ≠ []) (hp : ∀ q ∈ ps, 0 < q) : Gc (gcdL ps) (· ∈ ps) := by
  have key : ∀ d, (∀ q ∈ ps, d ∣ q) ↔ d ∣ gcdL ps := fun d => by
    unfold gcdL
    rw [gcdL_dvd]
    exact ⟨fun h => ⟨Int.dvd_zero d, h⟩, fun h => h.2⟩
  refine ⟨?_, key⟩
  have h0 : 0 ≤ gcdL ps := by
    cases ps with
    | nil => exact absurd rfl hne
    | cons p ps =>
      have : ∀ (l : List Int) (a : Int), 0 ≤ a → 0 ≤ l.foldl (fun d n => ((Nat.gcd d.natAbs n.natAbs : Nat) : Int)) a := fun l => by
        induction l with
        | nil => exact fun a h => h
        | cons x l ih => exact fun a _ => ih _ (Int.natCast_nonneg _)
      exact this _ 0 (Int.le_refl 0)
  cases ps with
  | nil => exact absurd rfl hne
  | cons p ps =>
    have hd := (key _).mpr (Int.dvd_refl _) p List.mem_cons_self
    have hpp := hp p List.mem_cons_self
    rcases Int.lt_or_eq_of_le h0 with h | h
    · exact h
    · rw [← h] at hd
      have := Int.zero_dvd.mp hd
      omega
theorem require_ok {ps : List Int} (h : ps ≠ []) : g_require_period [L ps] = .ok .non := by
  have : ¬ (ps.length : Int) = 0 := by
    cases ps with
    | nil => exact absurd rfl h
    | cons _ _ => simp; omega
  simp [r_require_period, b_require_period, fVar, this]
  cases ps with
  | nil => exact absurd rfl h
  | cons _ _ => simp
/-! ### rounds -/
def rnd (p : Int) (rows : List Int) : Int := let c := (rows.filter fun q => !decide (q % p = 0)).map (· / p); if c = [] then 0 else minL c
theorem head_at (p : Int) (qs : List Int) : atI ((p :: qs).map D.int) 0 = some (.int p) := by
  have := @atI_nat D ((p :: qs).map D.int) 0 (.int p) rfl
  simpa using this
theorem rounds_ok {p : Int} {qs : List Int} (hp : 0 < p) (hp' : p ≤ 10 ^ 18) (hl : qs.length < 50) : g__rounds [L (p :: qs)] = .ok (.int (rnd p (p :: qs))) := by
  have hc : fLc [3] (gIt (fVar 0)) (tName 3) (fB (f2 neD (f2 modD (fVar 3) (fVar 1)) (fC (.int 0)))) (f2 fdivD (fVar 3) (fVar 1)) [some (L (p :: qs), false), some (.int p, false), none, none]
      = .ok (((p :: qs).filter fun q => !decide (q % p = 0)).map fun q => D.int (q / p)) := by
    refine lc_ok (inj := D.int) (xs := p :: qs) (fun q => !decide (q % p = 0)) (fun q => D.int (q / p)) (by simp [fVar]) (by simp [lim]; omega) fun x _ => ⟨[some (L (p :: qs), false), some (.int p, false), none, some (.int x, false)], by simp [wipeE], ?_, fun _ => ?_⟩
    · simp [fVar, x_mod hp]
    · have := lg18 (Int.le_of_lt hp) hp'
      simp [fVar, x_fdiv hp (by omega : p.natAbs.log2 < 9000)]
  have e1 : (((p :: qs).filter fun q => !decide (q % p = 0)).map fun q => D.int (q / p)) = (((p :: qs).filter fun q => !decide (q % p = 0)).map (· / p)).map D.int := by simp
  rw [e1] at hc
  have h0 : ixD (L (p :: qs)) (.int 0) = .ok (.int p) := x_ix (head_at p qs)
  have h1 : minDf [.lst ((((p :: qs).filter fun q => !decide (q % p = 0)).map (· / p)).map D.int)] (.int 0) = .ok (.int (rnd p (p :: qs))) := by
    unfold rnd
    by_cases h : ((p :: qs).filter fun q => !decide (q % p = 0)).map (· / p) = []
    · rw [h]; simp only [if_pos]; exact x_minDf0
    · simp only [h, if_false]; exact x_minDf1 h
  simp only [r__rounds, b__rounds, x_seq, x_set, x_setL, x_f2, x_fC, x_ret, x_minDf, fVar, List.getElem?_cons_zero, R.bind_ok, h0, List.set_cons_succ, List.set_cons_zero, hc, List.getElem?_cons_succ, h1, x_end_rt]
/-! ### one step of the rows -/
def les (p r : Int) (rows : List Int) : List Int := usort (p :: (rows.filter fun q => decide (r * p < q)).map (· - r * p))
theorem lessened_ok {p r : Int} {qs : List Int} (hp : 0 < p) (hp' : p ≤ 10 ^ 18) (hr : 0 ≤ r) (hr' : r ≤ 10 ^ 18) (hl : qs.length < 50) : g__lessened [L (p :: qs), .int r] = .ok (L (les p r (p :: qs))) := by
  have hc : fLc [5] (gIt (fVar 0)) (tName 5) (fB (f2 gtD (fVar 5) (fVar 3))) (f2 subD (fVar 5) (fVar 3)) [some (L (p :: qs), false), some (.int r, false), some (.int p, false), some (.int (r * p), false), none, none]
      = .ok (((p :: qs).filter fun q => decide (r * p < q)).map fun q => D.int (q - r * p)) := by
    refine lc_ok (inj := D.int) (xs := p :: qs) (fun q => decide (r * p < q)) (fun q => D.int (q - r * p)) (by simp [fVar]) (by simp [lim]; omega) fun x _ => ⟨[some (L (p :: qs), false), some (.int r, false), some (.int p, false), some (.int (r * p), false), none, some (.int x, false)], by simp [wipeE], ?_, fun _ => ?_⟩
    · simp [fVar]
    · simp [fVar]
  have e1 : (((p :: qs).filter fun q => decide (r * p < q)).map fun q => D.int (q - r * p)) = (((p :: qs).filter fun q => decide (r * p < q)).map (· - r * p)).map D.int := by simp
  rw [e1] at hc
  have hlen : (((p :: qs).filter fun q => decide (r * p < q)).map (· - r * p)).length ≤ 50 := by
    rw [List.length_map]
    refine Nat.le_trans (List.length_filter_le _ _) ?_
    simp; omega
  have h0 : ixD (L (p :: qs)) (.int 0) = .ok (.int p) := x_ix (head_at p qs)
  have h1 : addD (.lst [.int p]) (.lst ((((p :: qs).filter fun q => decide (r * p < q)).map (· - r * p)).map D.int)) = .ok (L (p :: ((p :: qs).filter fun q => decide (r * p < q)).map (· - r * p))) := by
    rw [x_addL, if_pos (by simp only [List.length_map, List.length_cons, List.length_nil, lim] at hlen ⊢; omega)]
    rfl
  have h2 : setD [L (p :: ((p :: qs).filter fun q => decide (r * p < q)).map (· - r * p))] = .ok (.st (p :: ((p :: qs).filter fun q => decide (r * p < q)).map (· - r * p))) := x_setI (by simp only [List.length_cons]; omega)
  have h3 : sortedL [.st (p :: ((p :: qs).filter fun q => decide (r * p < q)).map (· - r * p))] = .ok ((les p r (p :: qs)).map D.int) := x_sortedS (by simp only [List.length_cons]; omega)
  have h4 := mul18 hr hr' (Int.le_of_lt hp) hp'
  have h5 : cap lim [D.int p] = .ok [.int p] := x_cap (by simp [lim])
  simp only [r__lessened, b__lessened, x_seq, x_set, x_setL, x_f2, x_fC, x_ret, x_fL, x_fBi, x_gCons, x_gNil, x_fLst, fVar, List.getElem?_cons_zero, R.bind_ok, h0, h4, List.set_cons_succ, List.set_cons_zero, hc, List.getElem?_cons_succ, h5, h1, h2, h3, x_end_rt]
end K36
set_option maxHeartbeats 4000000
namespace K36
open PySem L2 Pc Th
/-! ### what a row of periods is worth in the loop -/
def wt (q : Int) : Nat := q.toNat.log2
def ws (rows : List Int) : Nat := (rows.map wt).sum
theorem log2_mono {a b : Nat} (h : a ≤ b) : a.log2 ≤ b.log2 := by
  by_cases ha : a = 0
  · subst ha; simp
  · rw [Nat.le_log2 (by omega)]
    exact Nat.le_trans (Nat.log2_self_le ha) h
theorem wt_mono {a b : Int} (h : a ≤ b) : wt a ≤ wt b := log2_mono (by omega)
theorem wt_half {a b : Int} (h0 : 0 < a) (h : 2 * a ≤ b) : wt a < wt b := by
  have e : wt (2 * a) = wt a + 1 := by
    unfold wt
    rw [show (2 * a).toNat = 2 * a.toNat by omega, Nat.log2_two_mul (by omega)]
  have := wt_mono h
  omega
theorem ws_uins (n : Int) : ∀ xs : List Int, ws (uins n xs) ≤ wt n + ws xs ∧ (uins n xs).length ≤ xs.length + 1
  | [] => by simp [uins, ws]
  | x :: xs => by
    have ih := ws_uins n xs
    unfold uins
    split
    · simp [ws]
    · split
      · simp [ws]
      · have e1 : ws (x :: uins n xs) = wt x + ws (uins n xs) := by simp [ws]
        have e2 : ws (x :: xs) = wt x + ws xs := by simp [ws]
        rw [e1, e2, List.length_cons, List.length_cons]
        omega
theorem ws_usort : ∀ xs : List Int, ws (usort xs) ≤ ws xs ∧ (usort xs).length ≤ xs.length
  | [] => by simp [usort, ws]
  | x :: xs => by
    have h1 := ws_uins x (usort xs)
    have h2 := ws_usort xs
    have e : ws (x :: xs) = wt x + ws xs := by simp [ws]
    unfold usort
    rw [e, List.length_cons]
    omega
theorem ws_sub {c : Int → Bool} {f : Int → Int} : ∀ {xs : List Int}, (∀ q ∈ xs, c q = true → f q ≤ q) → ws ((xs.filter c).map f) ≤ ws xs
  | [], _ => by simp
  | x :: xs, h => by
    have ih := ws_sub (c := c) (f := f) (xs := xs) fun q hq => h q (List.mem_cons_of_mem _ hq)
    have e : ws (x :: xs) = wt x + ws xs := by simp [ws]
    rw [List.filter_cons, e]
    by_cases hc : c x = true
    · rw [if_pos hc, List.map_cons]
      have e2 : ws (f x :: (xs.filter c).map f) = wt (f x) + ws ((xs.filter c).map f) := by simp [ws]
      have := wt_mono (h x List.mem_cons_self hc)
      omega
    · rw [if_neg hc]; omega
theorem ws_sub_lt {c : Int → Bool} {f : Int → Int} {q0 : Int} (c0 : c q0 = true) (h0 : 0 < f q0) (h1 : 2 * f q0 ≤ q0) : ∀ {xs : List Int}, q0 ∈ xs → (∀ q ∈ xs, c q = true → f q ≤ q) → ws ((xs.filter c).map f) < ws xs
  | x :: xs, hm, h => by
    have e : ws (x :: xs) = wt x + ws xs := by simp [ws]
    rw [List.filter_cons, e]
    have ih := ws_sub (c := c) (f := f) (xs := xs) fun q hq => h q (List.mem_cons_of_mem _ hq)
    rcases List.mem_cons.mp hm with rfl | hm
    · rw [if_pos c0, List.map_cons]
      have e2 : ws (f q0 :: (xs.filter c).map f) = wt (f q0) + ws ((xs.filter c).map f) := by simp [ws]
      have := wt_half h0 h1
      omega
    · have ih2 := ws_sub_lt c0 h0 h1 hm fun q hq => h q (List.mem_cons_of_mem _ hq)
      by_cases hc : c x = true
      · rw [if_pos hc, List.map_cons]
        have e2 : ws (f x :: (xs.filter c).map f) = wt (f x) + ws ((xs.filter c).map f) := by simp [ws]
        have := wt_mono (h x List.mem_cons_self hc)
        omega
      · rw [if_neg hc]; omega
/-- the rows in the loop: ascending, within their bounds, few -/
structure Rw (g : Int) (rows : List Int) : Prop where
  ne : rows ≠ []
  asc : rows.Pairwise (· < ·)
  bd : ∀ q ∈ rows, 0 < q ∧ q ≤ 10 ^ 18
  few : rows.length ≤ 40
  gc : Gc g (· ∈ rows)
theorem Rw.head {g p : Int} {qs : List Int} (h : Rw g (p :: qs)) : ∀ q ∈ p :: qs, p ≤ q := fun q hq => by
  rcases List.mem_cons.mp hq with rfl | hq
  · exact Int.le_refl _
  · exact Int.le_of_lt ((List.pairwise_cons.mp h.asc).1 q hq)
theorem Rw.ok {g : Int} {rows : List Int} (h : Rw g rows) : Ok g (· ∈ rows) := h.gc.ok fun q hq => (h.bd q hq).1
theorem dvd_mod {q p : Int} : p ∣ q ↔ q % p = 0 := Int.dvd_iff_emod_eq_zero
/-- the rounds: how often p can be taken from each member that it does not divide -/
theorem rnd_spec {g p : Int} {qs : List Int} (h : Rw g (p :: qs)) (hg : g ∉ p :: qs) : ∃ q0 ∈ p :: qs, ¬ p ∣ q0 ∧ rnd p (p :: qs) = q0 / p ∧ 1 ≤ rnd p (p :: qs) ∧ ∀ q ∈ p :: qs, ¬ p ∣ q → rnd p (p :: qs) ≤ q / p := by
  have hp := (h.bd p List.mem_cons_self).1
  have hne : ((p :: qs).filter fun q => !decide (q % p = 0)).map (· / p) ≠ [] := fun e => by
    have e' : ((p :: qs).filter fun q => !decide (q % p = 0)) = [] := List.map_eq_nil_iff.mp e
    have all : ∀ q ∈ p :: qs, p ∣ q := fun q hq => by
      rw [dvd_mod]
      have := List.filter_eq_nil_iff.mp e' q hq
      simpa using this
    have h1 : p ∣ g := (h.gc.iff p).mp all
    have h2 : g ∣ p := h.gc.dv List.mem_cons_self
    exact hg (Int.dvd_antisymm (Int.le_of_lt h.gc.pos) (Int.le_of_lt hp) h2 h1 ▸ List.mem_cons_self)
  have er : rnd p (p :: qs) = minL (((p :: qs).filter fun q => !decide (q % p = 0)).map (· / p)) := by unfold rnd; simp only [hne, if_false]
  have hm := minL_mem hne
  rw [← er] at hm
  obtain ⟨q0, hq0, e0⟩ := List.mem_map.mp hm
  obtain ⟨m0, d0⟩ := List.mem_filter.mp hq0
  have nd : ¬ p ∣ q0 := by rw [dvd_mod]; simpa using d0
  refine ⟨q0, m0, nd, e0.symm, ?_, fun q hq hd => ?_⟩
  · rw [← e0]
    have := h.head q0 m0
    exact (Int.le_ediv_iff_mul_le hp).mpr (by omega)
  · rw [er]
    exact minL_le (List.mem_map.mpr ⟨q, List.mem_filter.mpr ⟨hq, by rw [dvd_mod] at hd; simpa using hd⟩, rfl⟩)
theorem les_mem {p r x : Int} {rows : List Int} : x ∈ les p r rows ↔ x = p ∨ (x + r * p ∈ rows ∧ 0 < x) := by
  unfold les
  rw [usort_mem, List.mem_cons, List.mem_map]
  constructor
  · rintro (rfl | ⟨q, hq, rfl⟩)
    · exact .inl rfl
    · obtain ⟨h1, h2⟩ := List.mem_filter.mp hq
      have := of_decide_eq_true h2
      exact .inr ⟨by rw [show q - r * p + r * p = q by omega]; exact h1, by omega⟩
  · rintro (rfl | ⟨h1, h2⟩)
    · exact .inl rfl
    · exact .inr ⟨x + r * p, List.mem_filter.mpr ⟨h1, by simp; omega⟩, by omega⟩
/-- one turn of the loop -/
theorem turn {g p : Int} {qs : List Int} (h : Rw g (p :: qs)) (hg : g ∉ p :: qs) :
    let r := rnd p (p :: qs)
    (0 ≤ r ∧ r ≤ 10 ^ 18) ∧ Rw g (les p r (p :: qs)) ∧ ws (les p r (p :: qs)) < ws (p :: qs) ∧ (les p r (p :: qs)).length ≤ (p :: qs).length ∧ ∀ t, TH g (· ∈ les p r (p :: qs)) t → TH g (· ∈ p :: qs) (r * p + max p t) := by
  intro r
  obtain ⟨q0, m0, nd, e0, h1, hmin⟩ := rnd_spec h hg
  have hp := h.bd p List.mem_cons_self
  have hr18 : r ≤ 10 ^ 18 := by
    show rnd p (p :: qs) ≤ _
    rw [e0]
    have := h.bd q0 m0
    exact Int.le_trans (Int.ediv_le_self _ (by omega)) this.2
  have hr1 : 1 ≤ r := h1
  have hrp : p ≤ r * p := by
    have := Int.mul_le_mul_of_nonneg_right hr1 (Int.le_of_lt hp.1)
    omega
  have far : ∀ q ∈ p :: qs, ¬ p ∣ q → r * p < q := fun q hq hd => by
    have h2 : r ≤ q / p := hmin q hq hd
    have h3 : q / p * p ≤ q := Int.ediv_mul_le q (by omega)
    have h4 := Int.mul_le_mul_of_nonneg_right h2 (Int.le_of_lt hp.1)
    have : r * p ≠ q := fun e => hd ⟨r, by rw [Int.mul_comm]; exact e.symm⟩
    omega
  refine ⟨⟨by omega, hr18⟩, ⟨?_, usort_sorted _, fun q hq => ?_, ?_, h.gc.pos, fun d => ?_⟩, ?_, ?_, fun t ht => ?_⟩
  · intro e
    have : p ∈ les p r (p :: qs) := les_mem.mpr (.inl rfl)
    rw [e] at this
    cases this
  · rcases les_mem.mp hq with rfl | ⟨a, b⟩
    · exact hp
    · have := h.bd _ a; omega
  · have := (ws_usort (p :: ((p :: qs).filter fun q => decide (r * p < q)).map (· - r * p))).2
    have h2 : ((p :: qs).filter fun q => decide (r * p < q)).length ≤ qs.length := by
      rw [List.filter_cons, if_neg (by simp; omega)]
      exact List.length_filter_le _ _
    have := h.few
    unfold les
    simp only [List.length_cons, List.length_map] at *
    omega
  · rw [← h.gc.iff d]
    constructor
    · intro k q hq
      have kp := k p (les_mem.mpr (.inl rfl))
      by_cases hd : p ∣ q
      · exact Int.dvd_trans kp hd
      · have := k (q - r * p) (les_mem.mpr (.inr ⟨by rw [show q - r * p + r * p = q by omega]; exact hq, by have := far q hq hd; omega⟩))
        have := Int.dvd_add this (Int.dvd_trans kp (Int.dvd_mul_left r p))
        rwa [show q - r * p + r * p = q by omega] at this
    · intro k q hq
      rcases les_mem.mp hq with rfl | ⟨a, b⟩
      · exact k _ List.mem_cons_self
      · have := Int.dvd_sub (k _ a) (Int.dvd_trans (k p List.mem_cons_self) (Int.dvd_mul_left r p))
        rwa [show q + r * p - r * p = q by omega] at this
  · -- the member q0 is more than halved
    have hq0 : r * p < q0 := far q0 m0 nd
    have e1 : q0 - r * p = q0 % p := by
      show q0 - rnd p (p :: qs) * p = _
      rw [e0]
      have := Int.ediv_mul_add_emod q0 p
      omega
    have lt : q0 - r * p < p := by rw [e1]; exact Int.emod_lt_of_pos _ hp.1
    have hm : q0 ∈ qs := by
      rcases List.mem_cons.mp m0 with rfl | hm
      · exact absurd (Int.dvd_refl _) nd
      · exact hm
    have k1 := (ws_usort (p :: ((p :: qs).filter fun q => decide (r * p < q)).map (· - r * p))).1
    rw [List.filter_cons, if_neg (by simp; omega)] at k1
    have k2 := ws_sub_lt (c := fun q => decide (r * p < q)) (f := (· - r * p)) (q0 := q0) (by simpa using hq0) (by omega) (by omega) hm (fun q _ _ => by omega)
    have e2 : ∀ l : List Int, ws (p :: l) = wt p + ws l := fun l => by simp [ws]
    unfold les
    rw [List.filter_cons, if_neg (by simp; omega)]
    rw [e2] at k1 ⊢
    omega
  · have := (ws_usort (p :: ((p :: qs).filter fun q => decide (r * p < q)).map (· - r * p))).2
    have h2 : ((p :: qs).filter fun q => decide (r * p < q)).length ≤ qs.length := by
      rw [List.filter_cons, if_neg (by simp; omega)]
      exact List.length_filter_le _ _
    unfold les
    simp only [List.length_cons, List.length_map] at *
    omega
  · have e : ((r - 1).toNat : Int) + 1 = r := by omega
    have := TH.batch h.ok List.mem_cons_self h.head hg (r - 1).toNat (t := t) (fun q hq hd => by rw [e]; exact Int.le_of_lt (far q hq hd)) (by
      rw [e]
      exact ht.congr fun x => les_mem)
    rwa [e] at this
/-! ### threshold_of -/
def pr (x : Int × Int) : D := .tup [.int x.1, .int x.2]
def unw (tk : List (Int × Int)) (t : Int) : Int := tk.reverse.foldl (fun t x => x.1 + max x.2 t) t
theorem unw_snoc (tk : List (Int × Int)) (x : Int × Int) (t : Int) : unw (tk ++ [x]) t = unw tk (x.1 + max x.2 t) := by
  unfold unw
  rw [List.reverse_append]
  rfl
abbrev thE (ps : List Int) (g : Int) (rows : List Int) (tk : List (Int × Int)) (x : Option (D × Bool)) : En := [some (L ps, false), some (.int g, false), some (L rows, false), some (.lst (tk.map pr), true), none, x, none, none]
theorem th_loop {g : Int} {S : Int → Prop} (ps : List Int) : ∀ (n : Nat) (rows : List Int) (tk : List (Int × Int)) (x : Option (D × Bool)), Rw g rows → ws rows < n → tk.length + n ≤ 2000 → (∀ t, TH g (· ∈ rows) t → TH g S (unw tk t)) →
    ∃ rows' tk' x', whGo (fB (f2 neD (f2 ixD (fVar 2) (fC (.int 0))) (fVar 1))) b_threshold_of_1 n (thE ps g rows tk x) = .ok (.nx (thE ps g rows' tk' x')) ∧ TH g S (unw tk' 0) ∧ tk'.length ≤ 2000
  | 0, _, _, _, _, h, _, _ => by omega
  | n + 1, rows, tk, x, h, hw, hl, hk => by
    obtain ⟨p, qs, rfl⟩ : ∃ p qs, rows = p :: qs := by
      cases rows with
      | nil => exact absurd rfl h.ne
      | cons p qs => exact ⟨p, qs, rfl⟩
    have h0 : ixD (L (p :: qs)) (.int 0) = .ok (.int p) := x_ix (head_at p qs)
    have hp := h.bd p List.mem_cons_self
    have ht : (fB (f2 neD (f2 ixD (fVar 2) (fC (.int 0))) (fVar 1))) (thE ps g (p :: qs) tk x) = .ok (!decide (p = g)) := by
      simp only [x_fB, x_f2, fVar, x_fC, List.getElem?_cons_succ, List.getElem?_cons_zero, R.bind_ok, h0, x_ne, x_toB]
    unfold whGo
    rw [ht, R.bind_ok]
    by_cases hpg : p = g
    · subst hpg
      refine ⟨p :: qs, tk, x, by simp, hk 0 (.base List.mem_cons_self), by omega⟩
    · have hg : g ∉ p :: qs := fun hm => by
        have h1 := h.head g hm
        have h2 := h.ok.le (show p ∈ p :: qs from List.mem_cons_self)
        omega
      obtain ⟨⟨r0, r18⟩, hR, hws, hlen, hT⟩ := turn h hg
      have few := h.few
      simp only [List.length_cons] at few
      have q1 : g__rounds [L (p :: qs)] = .ok (.int (rnd p (p :: qs))) := rounds_ok hp.1 hp.2 (by omega)
      have q2 : g__lessened [L (p :: qs), .int (rnd p (p :: qs))] = .ok (L (les p (rnd p (p :: qs)) (p :: qs))) := lessened_ok hp.1 hp.2 r0 r18 (by omega)
      have q3 := mul18 r0 r18 (Int.le_of_lt hp.1) hp.2
      have hb : b_threshold_of_1 (thE ps g (p :: qs) tk x) = .ok (.nx (thE ps g (les p (rnd p (p :: qs)) (p :: qs)) (tk ++ [(rnd p (p :: qs) * p, p)]) (some (.int (rnd p (p :: qs)), false)))) := by
        have hlim : (tk.map pr).length < lim := by rw [List.length_map]; simp only [lim]; omega
        simp only [b_threshold_of_1, x_seq, x_set, x_fCall, x_gCons, x_gNil, fVar, List.getElem?_cons_succ, List.getElem?_cons_zero, R.bind_ok, List.length_cons, List.length_nil, if_true, q1, List.set_cons_succ, List.set_cons_zero, x_app, fOwn, x_fTup, x_f2, x_fC, h0, q3, q2]
        simp only [if_pos hlim, show (0 + 1 + 1 ≤ lim) by decide, if_true, R.bind_ok, List.set_cons_succ, List.set_cons_zero, List.getElem?_cons_succ, List.getElem?_cons_zero, List.length_cons, List.length_nil, q2]
        simp only [thE, List.map_append, List.map_cons, List.map_nil, pr]
      rw [show (!decide (p = g)) = true by simp [hpg], if_pos rfl, hb, R.bind_ok]
      dsimp only
      exact th_loop ps n _ _ _ hR (by omega) (by simp only [List.length_append, List.length_cons, List.length_nil]; omega) fun t ht => by
        rw [unw_snoc]
        exact hk _ (hT t ht)
theorem threshold_of_ok {ps : List Int} (hne : ps ≠ []) (hl : ps.length ≤ 6) (h : ∀ p ∈ ps, 1 ≤ p ∧ p ≤ 10 ^ 18) : ∃ t, g_threshold_of [L ps] = .ok (.int t) ∧ TH (gcdL ps) (· ∈ ps) t := by
  have gc : Gc (gcdL ps) (· ∈ ps) := gcdL_gc hne fun q hq => by have := h q hq; omega
  have eu : ∀ x, x ∈ usort ps ↔ x ∈ ps := fun x => usort_mem x
  have k := ws_usort ps
  have hw : ws ps ≤ 6 * 60 := by
    have : ∀ l : List Int, (∀ p ∈ l, 1 ≤ p ∧ p ≤ 10 ^ 18) → ws l ≤ l.length * 60 := fun l => by
      induction l with
      | nil => intro _; simp [ws]
      | cons x l ih =>
        intro hx
        have e2 : ws (x :: l) = wt x + ws l := by simp [ws]
        have h1 : wt x ≤ 60 := by
          have := hx x List.mem_cons_self
          have := @wt_mono x (10 ^ 18) this.2
          have e : wt (10 ^ 18) = 59 := by decide +kernel
          omega
        have := ih fun p hp => hx p (List.mem_cons_of_mem _ hp)
        rw [e2, List.length_cons, Nat.add_mul]
        omega
    have := this ps h
    have : ps.length * 60 ≤ 6 * 60 := Nat.mul_le_mul_right _ hl
    omega
  have R0 : Rw (gcdL ps) (usort ps) := ⟨(fun e => by
    obtain ⟨p, hp⟩ := List.exists_mem_of_ne_nil _ hne
    have := (eu p).mpr hp
    rw [e] at this
    cases this), usort_sorted ps, fun q hq => by have := h q ((eu q).mp hq); omega, by omega, gc.congr fun x => (eu x).symm⟩
  obtain ⟨rows', tk', x', e1, e2, e3⟩ := th_loop (g := gcdL ps) (S := (· ∈ ps)) ps fuel (usort ps) [] none R0 (by unfold fuel; omega) (by unfold fuel; simp) fun t ht => ht.congr eu
  refine ⟨unw tk' 0, ?_, e2⟩
  have d1 := common_divisor_ok ps
  have d2 : setD [L ps] = .ok (.st ps) := x_setI (by omega)
  have d3 : sortedL [.st ps] = .ok ((usort ps).map D.int) := x_sortedS (by omega)
  -- the sum at the end
  obtain ⟨ρ', f1, y, z, f2'⟩ := for_inv (tgt := tTup 2 (tsCons (tName 6) (tsCons (tName 7) tsNil))) (body := b_threshold_of_2) (ds := (tk'.map pr).reverse) (ρ := [some (L ps, false), some (.int (gcdL ps), false), some (L rows', false), some (.lst (tk'.map pr), false), some (.int 0, false), x', none, none])
    (fun j ρ => ∃ y z, ρ = [some (L ps, false), some (.int (gcdL ps), false), some (L rows', false), some (.lst (tk'.map pr), false), some (.int ((tk'.reverse.take j).foldl (fun t x => x.1 + max x.2 t) 0), false), x', y, z]) ⟨none, none, rfl⟩ (fun j d ρ hj hρ => by
      obtain ⟨y, z, hρ⟩ := hρ
      rw [← List.map_reverse] at hj
      obtain ⟨⟨a, b⟩, hx, rfl⟩ := map_get hj
      subst hρ
      refine ⟨[some (L ps, false), some (.int (gcdL ps), false), some (L rows', false), some (.lst (tk'.map pr), false), some (.int ((tk'.reverse.take j).foldl (fun t x => x.1 + max x.2 t) 0), false), x', some (.int a, false), some (.int b, false)],
        [some (L ps, false), some (.int (gcdL ps), false), some (L rows', false), some (.lst (tk'.map pr), false), some (.int (a + max b ((tk'.reverse.take j).foldl (fun t x => x.1 + max x.2 t) 0)), false), x', some (.int a, false), some (.int b, false)], ?_, .inl ?_, some (.int a, false), some (.int b, false), ?_⟩
      · simp [pr, Pc.tTup, tsCons, tsNil]
      · have em : ∀ u v : Int, (if u > v then u else v) = max v u := fun u v => by omega
        simp only [b_threshold_of_2, x_set, x_f2, x_fBi, x_gCons, x_gNil, fVar, List.getElem?_cons_succ, List.getElem?_cons_zero, R.bind_ok, x_max2, x_add, List.set_cons_succ, List.set_cons_zero, em]
      · rw [take_snoc hx, List.foldl_append]; rfl)
  subst f2'
  rw [List.length_reverse, List.length_map, List.take_of_length_le (by simp)] at f1
  have f3 : frz1 (thE ps (gcdL ps) rows' tk' x') 3 = [some (L ps, false), some (.int (gcdL ps), false), some (L rows', false), some (.lst (tk'.map pr), false), none, x', none, none] := frz1_own rfl
  have e1' : sWh fuel (fB (f2 neD (f2 ixD (fVar 2) (fC (.int 0))) (fVar 1))) b_threshold_of_1 [some (L ps, false), some (.int (gcdL ps), false), some (L (usort ps), false), some (.lst [], true), none, none, none, none] = .ok (.nx (thE ps (gcdL ps) rows' tk' x')) := e1
  have f4 : frz1 [some (L ps, false), some (.int (gcdL ps), false), some (L rows', false), some (.lst (tk'.map pr), true), some (.int 0, false), x', none, none] 3 = [some (L ps, false), some (.int (gcdL ps), false), some (L rows', false), some (.lst (tk'.map pr), false), some (.int 0, false), x', none, none] := frz1_own rfl
  have c0 : cap lim ([] : List D) = .ok [] := x_cap (by simp)
  simp only [r_threshold_of, b_threshold_of, x_seq, x_set, x_fCall, x_gCons, x_gNil, fVar, List.getElem?_cons_succ, List.getElem?_cons_zero, R.bind_ok, List.length_cons, List.length_nil, if_true, d1, List.set_cons_succ, List.set_cons_zero, x_fL, x_fBi, d2, d3, x_own, x_fLst, c0, e1', x_fC, x_frz, x_frz1, x_frz0, f4, x_for, x_gRv, x_revI, f1, x_ret, x_end_rt]
  rfl
end K36
set_option maxHeartbeats 4000000
namespace K36
open PySem L2 Pc Th
/-- a list of periods that the law may hand in, its divisor and its threshold -/
structure Pd (ps : List Int) (g t : Int) : Prop where
  ne : ps ≠ []
  few : ps.length ≤ 6
  bd : ∀ p ∈ ps, 1 ≤ p ∧ p ≤ 10 ^ 18
  gc : Gc g (· ∈ ps)
  th : TH g (· ∈ ps) t
theorem Pd.ok {ps : List Int} {g t : Int} (h : Pd ps g t) : Ok g (· ∈ ps) := h.gc.ok fun q hq => by have := h.bd q hq; omega
theorem Pd.gcd {ps : List Int} {g t : Int} (h : Pd ps g t) : gcdL ps = g := (gcdL_gc h.ne fun q hq => by have := h.bd q hq; omega).unique h.gc
theorem Pd.thr {ps : List Int} {g t : Int} (h : Pd ps g t) : g_threshold_of [L ps] = .ok (.int t) := by
  obtain ⟨t', e1, e2⟩ := threshold_of_ok h.ne h.few h.bd
  rw [h.gcd] at e2
  rw [e1, e2.det h.th]
theorem threshold_ok {ps : List Int} {g t : Int} (h : Pd ps g t) : g_threshold [L ps] = .ok (.int t) := by
  have e1 := check_periods_ok h.few h.bd
  have e2 := require_ok h.ne
  have e3 := h.thr
  simp [r_threshold, b_threshold, fVar, e1, e2, e3]
theorem forced_ok {ps : List Int} {g t n : Int} (h : Pd ps g t) (h0 : 0 ≤ n) (h1 : n ≤ 10 ^ 18) : g_forced [L ps, .int n] = .ok (.bl (decide (n ≤ g ∨ t ≤ n))) := by
  have e1 := check_periods_ok h.few h.bd
  have e2 := require_ok h.ne
  have e3 := h.thr
  have e4 := common_divisor_ok ps
  have e5 := @check_range_ok n 0 1000000000000000000 h0 h1
  rw [h.gcd] at e4
  by_cases c : n ≤ g <;> simp [r_forced, b_forced, fVar, e1, e2, e3, e4, e5, c]
/-! ### _law_asked -/
theorem asked_ok {ps : List Int} {g t far : Int} (h : Pd ps g t) : g__law_asked [L ps, .int g, .int t, .int far] = .ok (.bl true) := by
  have e1 := threshold_ok h
  obtain ⟨ρ', e2, x, hρ⟩ := for_name (i := 5) (body := b__law_asked_1) (ds := [t, t - 1, t + 1, g, g + 1, 0, 1000000000000000000, far].map D.int) (ρ := [some (L ps, false), some (.int g, false), some (.int t, false), some (.int far, false), some (L ps, false), none])
    (fun j ρ => ∃ x, ρ = [some (L ps, false), some (.int g, false), some (.int t, false), some (.int far, false), some (L ps, false), x]) ⟨_, rfl⟩ fun j d ρ hj hρ => by
      obtain ⟨x, hρ⟩ := hρ
      obtain ⟨n, hn, rfl⟩ := map_get hj
      subst hρ
      refine ⟨[some (L ps, false), some (.int g, false), some (.int t, false), some (.int far, false), some (L ps, false), some (.int n, false)], ?_, some (.int n, false), rfl⟩
      by_cases c1 : 0 ≤ n
      · by_cases c2 : n ≤ 1000000000000000000
        · have e3 := forced_ok h c1 (by omega)
          by_cases c3 : n ≤ g
          · have e4 := @truth_ok (decide (n ≤ g ∨ t ≤ n)) true
            simp only [c3, true_or, decide_true] at e3 e4
            simp [b__law_asked_1, fVar, p18, c1, c2, c3, e3, e4]
          · have e4 := @truth_ok (decide (n ≤ g ∨ t ≤ n)) (decide (t ≤ n))
            simp only [c3, false_or, decide_true] at e3 e4
            simp [b__law_asked_1, fVar, p18, c1, c2, c3, e3, e4]
        · simp [b__law_asked_1, fVar, p18, c1, c2]
      · simp [b__law_asked_1, fVar, p18, c1]
  subst hρ
  simp only [List.map_cons, List.map_nil] at e2
  have c8 : cap lim [D.int t, .int (t - 1), .int (t + 1), .int g, .int (g + 1), .int 0, .int 1000000000000000000, .int far] = .ok _ := x_cap (by simp [lim])
  have n1 := @number_ok t t
  rw [decide_eq_true rfl] at n1
  have q1 := @x_eqL ps ps
  rw [decide_eq_true rfl] at q1
  simp [r__law_asked, b__law_asked, fVar, e1, p18, c8, e2, n1, q1]
/-! ### _law_dig -/
inductive Dg : List Int → List Int → Prop where
  | nil : Dg [] []
  | cons {x s : Int} {xs ss : List Int} : 0 ≤ x → x < s → Dg xs ss → Dg (x :: xs) (s :: ss)
theorem Dg.snoc {x s : Int} (h0 : 0 ≤ x) (h1 : x < s) : ∀ {xs ss : List Int}, Dg xs ss → Dg (xs ++ [x]) (ss ++ [s])
  | _, _, .nil => .cons h0 h1 .nil
  | _, _, .cons a b h => .cons a b (h.snoc h0 h1)
theorem Dg.len : ∀ {xs ss : List Int}, Dg xs ss → xs.length = ss.length
  | _, _, .nil => rfl
  | _, _, .cons _ _ h => by simp [h.len]
theorem dig_ok {cells sizes : List Int} {place : Int} (hp : 0 ≤ place) (hp' : place ≤ 1000) (hs : ∀ s ∈ sizes, 0 < s ∧ s ≤ 10 ^ 18) (hl : sizes.length ≤ 20) :
    ∃ row, g__law_dig [L cells, .int place, L sizes] = .ok (L row) ∧ Dg row sizes := by
  -- the cell
  obtain ⟨cell, hcell⟩ : ∃ cell : Int, b__law_dig [some (L cells, false), some (.int place, false), some (L sizes, false), none, none, none, none, none] = (sSeq (sSet 4 (fBi absD (gCons (fVar 3) (gNil)))) (
  sSeq (sOwn 5 (fLst (gNil))) (
  sSeq (sFor (gR1 (gCons (fBi lenD (gCons (fVar 2) (gNil))) (gNil))) (tName 6) b__law_dig_1) (
  sFrz [5] (sRet (fVar 5)))))) [some (L cells, false), some (.int place, false), some (L sizes, false), some (.int cell, false), none, none, none, none] := by
    by_cases c : place < cells.length
    · have hx : atI (cells.map D.int) place = some (.int cells[place.toNat]!) := by
        have : place.toNat < (cells.map D.int).length := by simp; omega
        have := atI_get? this
        rw [show (place.toNat : Int) = place by omega] at this
        rw [this]
        simp
        rw [List.getElem?_eq_getElem (by omega)]; rfl
      refine ⟨cells[place.toNat]!, ?_⟩
      have := x_ix hx
      simp -implicitDefEqProofs [b__law_dig, fVar, c, this]
    · exact ⟨0, by simp -implicitDefEqProofs [b__law_dig, fVar, c]⟩
  -- the loop
  obtain ⟨ρ', e2, left, row, x, y, hρ, hrow⟩ := for_name (i := 6) (body := b__law_dig_1) (ds := rangeL 0 sizes.length) (ρ := [some (L cells, false), some (.int place, false), some (L sizes, false), some (.int cell, false), some (.int (if cell < 0 then -cell else cell), false), some (.lst [], true), none, none])
    (fun j ρ => ∃ (left : Int) (row : List Int) (x y : Option (D × Bool)), ρ = [some (L cells, false), some (.int place, false), some (L sizes, false), some (.int cell, false), some (.int left, false), some (L row, true), x, y] ∧ Dg row (sizes.take j)) ⟨_, [], none, none, rfl, .nil⟩ fun j d ρ hj hρ => by
      obtain ⟨left, row, x, y, hρ, hrow⟩ := hρ
      subst hρ
      obtain ⟨rfl, hj'⟩ := rangeL_get hj
      have hjn : j < sizes.length := by omega
      have hs0 := hs sizes[j] (List.getElem_mem hjn)
      have hx : ixD (L sizes) (.int (j : Int)) = .ok (.int sizes[j]) := by
        have h1 : j < (sizes.map D.int).length := by simpa using hjn
        have h2 := atI_get? h1
        rw [List.getElem_map] at h2
        exact x_ix h2
      have hlog := lg18 (Int.le_of_lt hs0.1) hs0.2
      -- the mixed part
      obtain ⟨left', y', hm⟩ : ∃ (left' : Int) (y' : Option (D × Bool)), b__law_dig_1 [some (L cells, false), some (.int place, false), some (L sizes, false), some (.int cell, false), some (.int left, false), some (L row, true), some (.int j, false), y]
          = (sSeq (sApp 5 (f2 modD (fBi intD (gCons (fVar 4) (gNil))) (f2 ixD (fVar 2) (fVar 6)))) (
  sSet 4 (f2 fdivD (fVar 4) (f2 ixD (fVar 2) (fVar 6))))) [some (L cells, false), some (.int place, false), some (L sizes, false), some (.int cell, false), some (.int left', false), some (L row, true), some (.int j, false), y'] := by
        by_cases c : (if cell < 0 then -cell else cell) < 1000000000000000000
        · have m1 : mulD (.int cell) (.int 48271) = .ok (.int (cell * 48271)) := x_mul (by
            have := @lg cell (by omega)
            have := @lg 48271 (by omega)
            omega)
          have m2 : mulD (.int place) (.int 8191) = .ok (.int (place * 8191)) := mul18 hp (by omega) (by omega) (by omega)
          have m3 : mulD (.int j) (.int 69621) = .ok (.int (j * 69621)) := mul18 (by omega) (by omega) (by omega) (by omega)
          obtain ⟨mx, hmx⟩ : ∃ mx : Int, mx = (cell * 48271 + place * 8191 + j * 69621 + 40692) % 2147483647 := ⟨_, rfl⟩
          have m4 : modD (.int (cell * 48271 + place * 8191 + j * 69621 + 40692)) (.int 2147483647) = .ok (.int mx) := by rw [hmx]; exact x_mod (by omega)
          have m5 : mulD (.int mx) (.int mx) = .ok (.int (mx * mx)) := mul18 (by omega) (by omega) (by omega) (by omega)
          have m6 : mulD (.int j) (.int 16807) = .ok (.int (j * 16807)) := mul18 (by omega) (by omega) (by omega) (by omega)
          have m7 : modD (.int (mx * mx + j * 16807 + place)) (.int 998244353) = .ok (.int _) := x_mod (by omega)
          have m8 : ∀ i : Int, fdivD (.int i) (.int 8) = .ok (.int (i / 8)) := fun i => x_fdiv (by omega) (by have := @lg 8 (by omega); omega)
          refine ⟨(mx * mx + j * 16807 + place) % 998244353 / 8, some (.int mx, false), ?_⟩
          simp only [b__law_dig_1, x_seq, x_if, x_fB, x_f2, x_fBi, x_gCons, x_gNil, x_set, x_fC, fVar, List.getElem?_cons_succ, List.getElem?_cons_zero, R.bind_ok, x_abs, p18, x_lt, x_toB, c, decide_true, if_true, m1, m2, m3, x_add, x_int, m4, List.set_cons_succ, List.set_cons_zero, m5, m6, m7, m8]
        · refine ⟨left, y, ?_⟩
          simp only [b__law_dig_1, x_seq, x_if, x_fB, x_f2, x_fBi, x_gCons, x_gNil, x_set, x_fC, fVar, List.getElem?_cons_succ, List.getElem?_cons_zero, R.bind_ok, x_abs, p18, x_lt, x_toB, c, decide_false, x_nx]
          simp only [Bool.false_eq_true, if_false, R.bind_ok]
      have d1 : modD (.int left') (.int sizes[j]) = .ok (.int (left' % sizes[j])) := x_mod hs0.1
      have d2 : fdivD (.int left') (.int sizes[j]) = .ok (.int (left' / sizes[j])) := x_fdiv hs0.1 (by omega)
      have hrl : (row.map D.int).length < lim := by
        have := hrow.len
        rw [List.length_take] at this
        simp only [List.length_map, lim]; omega
      refine ⟨[some (L cells, false), some (.int place, false), some (L sizes, false), some (.int cell, false), some (.int (left' / sizes[j]), false), some (L (row ++ [left' % sizes[j]]), true), some (.int j, false), y'], ?_, _, row ++ [left' % sizes[j]], _, _, rfl, ?_⟩
      · rw [show (0 : Int) + (j : Int) = j by omega, List.set_cons_succ, List.set_cons_succ, List.set_cons_succ, List.set_cons_succ, List.set_cons_succ, List.set_cons_succ, List.set_cons_zero, hm]
        simp only [x_seq, x_app, fOwn, x_f2, x_fBi, x_gCons, x_gNil, x_set, x_fC, fVar, List.getElem?_cons_succ, List.getElem?_cons_zero, R.bind_ok, x_int, hx, d1, if_pos hrl, List.set_cons_succ, List.set_cons_zero, d2, L, List.map_append, List.map_cons, List.map_nil]
      · rw [take_snoc (List.getElem?_eq_getElem hjn)]
        exact hrow.snoc (Int.emod_nonneg _ (by omega)) (Int.emod_lt_of_pos _ hs0.1)
  subst hρ
  rw [rangeL_len, List.take_of_length_le (by omega)] at hrow
  refine ⟨row, ?_, hrow⟩
  have r1 : rng1 [.int (sizes.length : Int)] = .ok (rangeL 0 sizes.length) := x_rng1 (by omega)
  have f4 : frz1 [some (L cells, false), some (.int place, false), some (L sizes, false), some (.int cell, false), some (.int left, false), some (L row, true), x, y] 5 = [some (L cells, false), some (.int place, false), some (L sizes, false), some (.int cell, false), some (.int left, false), some (L row, false), x, y] := frz1_own rfl
  have c0 : cap lim ([] : List D) = .ok [] := x_cap (by simp)
  rw [r__law_dig, hcell]
  simp -implicitDefEqProofs only [x_seq, x_set, x_fBi, x_gCons, x_gNil, fVar, List.getElem?_cons_succ, List.getElem?_cons_zero, R.bind_ok, x_abs, List.set_cons_succ, List.set_cons_zero, x_own, x_fLst, c0, x_for, x_gR1, x_len, List.length_map, r1, e2, x_frz, x_frz1, x_frz0, f4, x_ret, x_end_rt]
/-! ### _law_gcd -/
def fp : Nat → Nat × Nat
  | 0 => (0, 1)
  | n + 1 => ((fp n).2, (fp n).1 + (fp n).2)
def fib (n : Nat) : Nat := (fp n).1
theorem fib_two (n : Nat) : fib (n + 2) = fib n + fib (n + 1) := rfl
def Eu (k : Nat) (a b : Int) : Prop := 0 ≤ a ∧ 0 ≤ b ∧ (b = 0 ∨ b < fib (k + 1) ∨ (b ≤ a ∧ a < fib (k + 2)))
theorem Eu.step {k : Nat} {a b : Int} (h : Eu (k + 1) a b) (hb : b ≠ 0) : Eu k b (a % b) := by
  obtain ⟨h0, h1, h2⟩ := h
  have hb0 : 0 < b := by omega
  have p1 := Int.emod_nonneg a hb
  have p2 := Int.emod_lt_of_pos a hb0
  refine ⟨h1, p1, ?_⟩
  have f1 : fib (k + 1 + 2) = fib (k + 1) + fib (k + 2) := fib_two (k + 1)
  have f2 : fib (k + 1 + 1) = fib (k + 2) := rfl
  rw [f1, f2] at h2
  by_cases c : b < fib (k + 2)
  · exact .inr (.inr ⟨by omega, c⟩)
  · rcases h2 with h2 | h2 | ⟨h2, h3⟩
    · exact absurd h2 hb
    · exact absurd h2 c
    · have : a % b ≤ a - b := by
        have := Int.ediv_mul_add_emod a b
        have h4 : 1 ≤ a / b := (Int.le_ediv_iff_mul_le hb0).mpr (by omega)
        have := Int.mul_le_mul_of_nonneg_right h4 h1
        omega
      exact .inr (.inl (by omega))
theorem Eu.stay {k : Nat} {a : Int} (h : 0 ≤ a) : Eu k a 0 := ⟨h, Int.le_refl _, .inl rfl⟩
theorem law_gcd_ok {a b : Int} (ha : 0 ≤ a) (hb : 0 ≤ b) (hb' : b ≤ 10 ^ 18) : g__law_gcd [.int a, .int b] = .ok (.int (Int.gcd a b : Int)) := by
  obtain ⟨ρ', e, x, y, c, d, hρ, hg, hk⟩ := for_name (i := 4) (body := b__law_gcd_1) (ds := rangeL 0 100) (ρ := [some (.int a, false), some (.int b, false), some (.int a, false), some (.int b, false), none, none])
    (fun j ρ => ∃ (x y : Option (D × Bool)) (c d : Int), ρ = [some (.int a, false), some (.int b, false), some (.int c, false), some (.int d, false), x, y] ∧ Int.gcd c d = Int.gcd a b ∧ Eu (100 - j) c d)
    ⟨none, none, a, b, rfl, rfl, ha, hb, .inr (.inl (by
      have : (10 : Int) ^ 18 < (fib (100 - 0 + 1) : Int) := by decide +kernel
      exact Int.lt_of_le_of_lt hb' this))⟩ fun j dd ρ hj hρ => by
      obtain ⟨x, y, c, d, hρ, hg, hk⟩ := hρ
      subst hρ
      obtain ⟨rfl, hj'⟩ := rangeL_get hj
      by_cases hd : d = 0
      · subst hd
        exact ⟨[some (.int a, false), some (.int b, false), some (.int c, false), some (.int 0, false), some (.int (0 + j), false), y], by simp [b__law_gcd_1, fVar], _, _, c, 0, rfl, hg, .stay hk.1⟩
      · have hd0 : 0 < d := by have := hk.2.1; omega
        have m1 : modD (.int c) (.int d) = .ok (.int (c % d)) := x_mod hd0
        refine ⟨[some (.int a, false), some (.int b, false), some (.int d, false), some (.int (c % d), false), some (.int (0 + j), false), some (.int (c % d), false)], by simp [b__law_gcd_1, fVar, hd, m1], _, _, d, c % d, rfl, ?_, ?_⟩
        · rw [← hg]
          obtain ⟨c', rfl⟩ := Int.eq_ofNat_of_zero_le hk.1
          obtain ⟨d', rfl⟩ := Int.eq_ofNat_of_zero_le hk.2.1
          show Nat.gcd d' (c' % d') = Nat.gcd c' d'
          rw [Nat.gcd_comm c' d', Nat.gcd_rec d' c', Nat.gcd_comm]
        · rw [show 100 - j = 100 - (j + 1) + 1 by omega] at hk
          exact hk.step hd
  subst hρ
  have hl : (rangeL 0 100).length = 100 := by rw [rangeL_len]; rfl
  rw [hl] at hk
  have hd : d = 0 := by
    obtain ⟨h0, h1, h2⟩ := hk
    have f1 : fib (100 - 100 + 1) = 1 := rfl
    have f2 : fib (100 - 100 + 2) = 1 := rfl
    rw [f1, f2] at h2
    omega
  subst hd
  have hc : (Int.gcd a b : Int) = c := by
    rw [← hg]
    have := hk.1
    simp
    omega
  have r1 : rng1 [.int 100] = .ok (rangeL 0 100) := x_rng1 (by decide)
  rw [hc]
  simp [r__law_gcd, b__law_gcd, fVar, r1, e]
end K36
set_option maxHeartbeats 4000000
namespace K36
open PySem L2 Pc Th
def labs (n : Nat) (lab : Int → Int) : List Int := (List.range n).map fun (i : Nat) => lab (i : Int)
theorem labs_len (n : Nat) (lab : Int → Int) : (labs n lab).length = n := by simp [labs]
theorem labs_at {n : Nat} {lab : Int → Int} {i : Int} (h0 : 0 ≤ i) (h1 : i < n) : ixD (L (labs n lab)) (.int i) = .ok (.int (lab i)) := by
  have h : i.toNat < ((labs n lab).map D.int).length := by rw [List.length_map, labs_len]; omega
  have h2 := atI_get? h
  rw [show (i.toNat : Int) = i by omega] at h2
  refine x_ix (h2.trans ?_)
  simp [labs]
  rw [show max i 0 = i by omega]
theorem labs_snoc (n : Nat) (lab : Int → Int) : labs n lab ++ [(n : Int)] = labs (n + 1) fun i => if i = n then (n : Int) else lab i := by
  unfold labs
  rw [List.range_succ, List.map_append]
  congr 1
  · apply List.map_congr_left
    intro i hi
    have := List.mem_range.mp hi
    show _ = if (i : Int) = n then (n : Int) else lab i
    rw [if_neg (by omega)]
  · simp
theorem labs_map (n : Nat) (lab : Int → Int) (f : Int → Int) : (labs n lab).map f = labs n fun i => f (lab i) := by simp [labs]
abbrev nE (ps : List Int) (g : Int) (marks : List Int) (least : Int) (a b c d e f h : Option (D × Bool)) : En :=
  [some (L ps, false), some (.int g, false), some (L marks, false), some (.int least, false), a, b, c, d, e, f, h]
/-- the edges when the periods qs have been looked at, from the place n back -/
def Ej (n : Int) (S : Int → Prop) (qs : List Int) : Int → Int → Prop := fun x y => Ed n S x y ∨ (y = n ∧ 0 ≤ x ∧ (n - x) ∈ qs)
/-- one place's periods -/
theorem near_1 {ps : List Int} {g : Int} (hpos : ∀ p ∈ ps, 0 < p) (n : Nat) (hn : n < 1000) (least : Int) (b d h : Option (D × Bool)) (S : Int → Prop) (hS : ∀ x, S x ↔ x ∈ ps) (lab : Int → Int) (c e f : Option (D × Bool))
    (h1 : ∀ i, 0 ≤ i → i < (n : Int) + 1 → lab i < (n : Int) + 1) (h2 : ∀ i j, 0 ≤ i → i < (n : Int) + 1 → 0 ≤ j → j < (n : Int) + 1 → (lab i = lab j ↔ Cl (Ed n S) i j)) :
    ∃ lab' c' e' f', forGo (tName 6) b__law_near_1 (ps.map D.int) (nE ps g (labs (n + 1) lab) least (some (.int n, false)) b c d e f h) = .ok (.nx (nE ps g (labs (n + 1) lab') least (some (.int n, false)) b c' d e' f' h)) ∧
      (∀ i, 0 ≤ i → i < (n : Int) + 1 → lab' i < (n : Int) + 1) ∧ ∀ i j, 0 ≤ i → i < (n : Int) + 1 → 0 ≤ j → j < (n : Int) + 1 → (lab' i = lab' j ↔ Cn ((n : Int) + 1) S i j) := by
  obtain ⟨ρ', e1, lab', c', e', f', hρ, q1, q2⟩ := for_name (i := 6) (body := b__law_near_1) (ds := ps.map D.int) (ρ := nE ps g (labs (n + 1) lab) least (some (.int n, false)) b c d e f h)
    (fun j ρ => ∃ lab' c' e' f', ρ = nE ps g (labs (n + 1) lab') least (some (.int n, false)) b c' d e' f' h ∧ (∀ i, 0 ≤ i → i < (n : Int) + 1 → lab' i < (n : Int) + 1) ∧ ∀ i k, 0 ≤ i → i < (n : Int) + 1 → 0 ≤ k → k < (n : Int) + 1 → (lab' i = lab' k ↔ Cl (Ej n S (ps.take j)) i k))
    ⟨lab, c, e, f, rfl, h1, fun i k a1 a2 a3 a4 => by
      rw [h2 i k a1 a2 a3 a4]
      exact ⟨fun c => c.mono fun _ _ e => .edge (.inl e), fun c => c.mono fun _ _ e => .edge (by
        rcases e with e | ⟨_, _, e⟩
        · exact e
        · simp at e)⟩⟩ fun j dd ρ hj hρ => by
    obtain ⟨lab', c', e', f', hρ, q1, q2⟩ := hρ
    obtain ⟨p, hp, rfl⟩ := map_get hj
    subst hρ
    have hp0 := hpos p (List.mem_of_getElem? hp)
    have hn1 : ixD (L (labs (n + 1) lab')) (.int n) = .ok (.int (lab' n)) := labs_at (by omega) (by omega)
    have htk : ∀ x, x ∈ ps.take (j + 1) ↔ x ∈ ps.take j ∨ x = p := fun x => by rw [take_snoc hp, List.mem_append, List.mem_singleton]
    -- nothing changes
    have stay : Cl (Ej n S (ps.take j)) ((n : Int) - p) n ∨ (n : Int) < p → ∀ i k, 0 ≤ i → i < (n : Int) + 1 → 0 ≤ k → k < (n : Int) + 1 → (lab' i = lab' k ↔ Cl (Ej n S (ps.take (j + 1))) i k) := fun hc i k a1 a2 a3 a4 => by
      rw [q2 i k a1 a2 a3 a4]
      refine ⟨fun c => c.mono fun x y e => .edge ?_, fun c => c.mono fun x y e => ?_⟩
      · rcases e with e | ⟨e1, e2, e3⟩
        · exact .inl e
        · exact .inr ⟨e1, e2, (htk _).mpr (.inl e3)⟩
      · rcases e with e | ⟨e1, e2, e3⟩
        · exact .edge (.inl e)
        · rcases (htk _).mp e3 with e3 | e3
          · exact .edge (.inr ⟨e1, e2, e3⟩)
          · rcases hc with hc | hc
            · rw [show x = (n : Int) - p by omega, e1]; exact hc
            · omega
    by_cases c1 : p ≤ (n : Int)
    · have hn2 : ixD (L (labs (n + 1) lab')) (.int ((n : Int) - p)) = .ok (.int (lab' ((n : Int) - p))) := labs_at (by omega) (by omega)
      by_cases c2 : lab' n = lab' ((n : Int) - p)
      · refine ⟨nE ps g (labs (n + 1) lab') least (some (.int n, false)) b (some (.int p, false)) d e' f' h, ?_, lab', _, _, _, rfl, q1, stay (.inl ((q2 _ _ (by omega) (by omega) (by omega) (by omega)).mp c2.symm))⟩
        simp [b__law_near_1, fVar, c1, hn1, hn2, c2]
      · refine ⟨nE ps g (labs (n + 1) fun i => if lab' i = lab' n then lab' ((n : Int) - p) else lab' i) least (some (.int n, false)) b (some (.int p, false)) d (some (.int (lab' n), false)) (some (.int (lab' ((n : Int) - p)), false)) h, ?_, _, _, _, _, rfl, fun i a1 a2 => ?_, fun i k a1 a2 a3 a4 => ?_⟩
        · have hc : fLc [10] (gIt (fVar 2)) (tName 10) (gYes) (fIf (fB (f2 eqD (fVar 10) (fVar 8))) (fVar 9) (fVar 10)) (nE ps g (labs (n + 1) lab') least (some (.int n, false)) b (some (.int p, false)) d (some (.int (lab' n), false)) (some (.int (lab' ((n : Int) - p)), false)) h)
              = .ok ((labs (n + 1) lab').map fun m => D.int (if m = lab' n then lab' ((n : Int) - p) else m)) := by
            refine lc_all (inj := D.int) (fun m => D.int (if m = lab' n then lab' ((n : Int) - p) else m)) (by simp [fVar]) (by rw [labs_len]; simp only [lim]; omega) fun m _ => ⟨_, rfl, ?_⟩
            by_cases c3 : m = lab' n <;> simp [fVar, wipeE, c3]
          have e2 : ((labs (n + 1) lab').map fun m => D.int (if m = lab' n then lab' ((n : Int) - p) else m)) = (labs (n + 1) fun i => if lab' i = lab' n then lab' ((n : Int) - p) else lab' i).map D.int := by
            rw [← labs_map (n + 1) lab' (fun m => if m = lab' n then lab' ((n : Int) - p) else m), List.map_map]; rfl
          rw [e2] at hc
          simp only [b__law_near_1, x_if, gAnd, x_fB, x_f2, fVar, List.set_cons_succ, List.set_cons_zero, List.getElem?_cons_succ, List.getElem?_cons_zero, R.bind_ok, x_le, c1, decide_true, x_toB, if_true, hn1, x_sub, hn2, x_ne, c2, decide_false, Bool.not_false, x_seq, x_set, x_fL, hc]
        · show (if lab' i = lab' n then lab' ((n : Int) - p) else lab' i) < _
          have := q1 i a1 a2
          have := q1 ((n : Int) - p) (by omega) (by omega)
          split <;> omega
        · have := merge_lab (a := (n : Int) - p) (b := n) (m := (n : Int) + 1) (by omega) (by omega) q2 (fun x y e => by
            rcases e with ⟨e1, e2, e3⟩ | ⟨e1, e2, e3⟩
            · have := hpos _ ((hS _).mp e3); omega
            · have := hpos _ (List.mem_of_mem_take e3); omega) i k a1 a2 a3 a4
          refine this.trans ⟨fun c => c.mono fun x y e => .edge ?_, fun c => c.mono fun x y e => .edge ?_⟩
          · rcases e with (e | ⟨e1, e2, e3⟩) | ⟨rfl, rfl⟩
            · exact .inl e
            · exact .inr ⟨e1, e2, (htk _).mpr (.inl e3)⟩
            · exact .inr ⟨rfl, by omega, (htk _).mpr (.inr (by omega))⟩
          · rcases e with e | ⟨e1, e2, e3⟩
            · exact .inl (.inl e)
            · rcases (htk _).mp e3 with e3 | e3
              · exact .inl (.inr ⟨e1, e2, e3⟩)
              · exact .inr ⟨by omega, e1⟩
    · refine ⟨nE ps g (labs (n + 1) lab') least (some (.int n, false)) b (some (.int p, false)) d e' f' h, ?_, lab', _, _, _, rfl, q1, stay (.inr (by omega))⟩
      simp [b__law_near_1, fVar, c1]
  subst hρ
  rw [List.length_map, List.take_length] at q2
  refine ⟨lab', c', e', f', e1, q1, fun i j a1 a2 a3 a4 => ?_⟩
  rw [q2 i j a1 a2 a3 a4]
  refine ⟨fun c => c.mono fun x y e => .edge ?_, fun c => c.mono fun x y e => .edge ?_⟩
  · rcases e with ⟨e1, e2, e3⟩ | ⟨e1, e2, e3⟩
    · exact ⟨e1, by omega, e3⟩
    · exact ⟨e2, by omega, (hS _).mpr (by rw [e1]; exact e3)⟩
  · obtain ⟨e1, e2, e3⟩ := e
    by_cases hy : y = n
    · exact .inr ⟨hy, e1, by rw [← hy]; exact (hS _).mp e3⟩
    · exact .inl ⟨e1, by omega, e3⟩
theorem near_ok {ps : List Int} {g t : Int} (h : Pd ps g t) (h14 : ∀ p ∈ ps, p ≤ 14) : g__law_near [L ps, .int g] = .ok (.int t) := by
  have mn : minD [L ps] = .ok (.int (minL ps)) := x_min h.ne
  have hmem := minL_mem h.ne
  by_cases c0 : minL ps = g
  · have : t = 0 := h.th.det (.base (by rw [← c0]; exact hmem))
    subst this
    simp [r__law_near, b__law_near, fVar, mn, c0]
  have hng : g ∉ ps := fun hg => c0 (Int.le_antisymm (minL_le hg) (h.ok.le hmem))
  obtain ⟨p0, hp0, t2, _⟩ := h.th.two hng
  have hgp := h.ok.lt hp0 hng
  have hgpos := h.gc.pos
  have t30 : t ≤ 30 := by
    have := h.th.le h.ok (minL ps) (maxL ps) hmem (fun q hq => minL_le hq) (maxL_mem h.ne) (fun q hq => le_maxL hq)
    have := h14 _ hmem
    have := h14 _ (maxL_mem h.ne)
    omega
  obtain ⟨ρ', e1, lab, a, b, c, d, e, f, k, hρ, _, _⟩ := for_name (i := 4) (body := b__law_near_2) (ds := rangeL 0 30) (ρ := nE ps g [] (g + 1) none none none none none none none)
    (fun j ρ => ∃ lab a b c d e f k, ρ = nE ps g (labs j lab) (max (g + 1) (min t j)) a b c d e f k ∧ (∀ i, 0 ≤ i → i < (j : Int) → lab i < (j : Int)) ∧ ∀ i i', 0 ≤ i → i < (j : Int) → 0 ≤ i' → i' < (j : Int) → (lab i = lab i' ↔ Cn j (· ∈ ps) i i'))
    ⟨fun i => i, none, none, none, none, none, none, none, by
      have : max (g + 1) (min t ((0 : Nat) : Int)) = g + 1 := by omega
      rw [this]; rfl, fun i a1 a2 => by omega, fun i i' a1 a2 => by omega⟩ fun n dd ρ hj hρ => by
    obtain ⟨lab, a, b, c, d, e, f, k, hρ, q1, q2⟩ := hρ
    obtain ⟨rfl, hn⟩ := rangeL_get hj
    subst hρ
    rw [show (0 : Int) + (n : Int) = n by omega]
    -- the comparison
    have hc : fLc [7] (gR1 (gCons (f2 subD (fVar 4) (fVar 1)) (gNil))) (tName 7) (gYes) (f2 eqD (f2 ixD (fVar 2) (fVar 7)) (f2 ixD (fVar 2) (f2 addD (fVar 7) (fVar 1)))) (nE ps g (labs n lab) (max (g + 1) (min t n)) (some (.int n, false)) b c d e f k)
        = .ok (((List.range ((n : Int) - g - 0).toNat).map fun (i : Nat) => (0 : Int) + (i : Int)).map fun i => D.bl (decide (lab i = lab (i + g)))) := by
      have r1 : rng1 [.int ((n : Int) - g)] = .ok (rangeL 0 ((n : Int) - g)) := x_rng1 (by
        have := h14 _ hp0
        omega)
      refine lc_all (inj := D.int) (fun i => D.bl (decide (lab i = lab (i + g)))) (by simp [fVar, r1, rangeL_eq]) (by rw [List.length_map, List.length_range]; simp only [lim]; omega) fun i hi => ⟨_, rfl, ?_⟩
      obtain ⟨i0, hi0, rfl⟩ := List.mem_map.mp hi
      have := List.mem_range.mp hi0
      have l1 : ixD (L (labs n lab)) (.int (0 + (i0 : Int))) = .ok (.int (lab (0 + (i0 : Int)))) := labs_at (by omega) (by omega)
      have l2 : ixD (L (labs n lab)) (.int (0 + (i0 : Int) + g)) = .ok (.int (lab (0 + (i0 : Int) + g))) := labs_at (by omega) (by omega)
      simp only [x_f2, fVar, wipeE, List.foldl_cons, List.foldl_nil, List.set_cons_succ, List.set_cons_zero, List.getElem?_cons_succ, List.getElem?_cons_zero, R.bind_ok, l1, l2, x_add, x_eq]
    have hall : ((n : Int) > g) → ((((List.range ((n : Int) - g - 0).toNat).map fun (i : Nat) => (0 : Int) + (i : Int)).map fun i => decide (lab i = lab (i + g))).all id = true ↔ t ≤ n) := fun hgn => by
      rw [← h.th.forced h.ok n hgn, List.all_eq_true]
      constructor
      · intro k1 i i0 i1
        have := k1 (decide (lab i = lab (i + g))) (List.mem_map.mpr ⟨i, List.mem_map.mpr ⟨i.toNat, List.mem_range.mpr (by omega), by omega⟩, rfl⟩)
        exact (q2 i (i + g) (by omega) (by omega) (by omega) (by omega)).mp (of_decide_eq_true this)
      · intro k1 x hx
        obtain ⟨i, hi, rfl⟩ := List.mem_map.mp hx
        obtain ⟨i0, hi0, rfl⟩ := List.mem_map.mp hi
        have := List.mem_range.mp hi0
        exact decide_eq_true ((q2 _ _ (by omega) (by omega) (by omega) (by omega)).mpr (k1 _ (by omega) (by omega)))
    have hcb : (((List.range ((n : Int) - g - 0).toNat).map fun (i : Nat) => (0 : Int) + (i : Int)).map fun i => D.bl (decide (lab i = lab (i + g)))) = (((List.range ((n : Int) - g - 0).toNat).map fun (i : Nat) => (0 : Int) + (i : Int)).map fun i => decide (lab i = lab (i + g))).map D.bl := by simp only [List.map_map]; rfl
    rw [hcb] at hc
    generalize (((List.range ((n : Int) - g - 0).toNat).map fun (i : Nat) => (0 : Int) + (i : Int)).map fun i => decide (lab i = lab (i + g))) = bs at hc hall
    have ha : allD [.lst (bs.map D.bl)] = .ok (.bl (bs.all id)) := x_all
    -- the new mark
    have hl : addD (L (labs n lab)) (.lst [.int (n : Int)]) = .ok (L (labs (n + 1) fun i => if i = n then (n : Int) else lab i)) := by
      rw [x_addL, if_pos (by rw [List.length_map, labs_len]; simp [lim]; omega), ← labs_snoc]; simp
    have c1 : cap lim [D.int (n : Int)] = .ok [.int n] := x_cap (by simp [lim])
    obtain ⟨lab', c', e', f', g1, g2, g3⟩ := near_1 (ps := ps) (g := g) (fun p hp => by have := h.bd p hp; omega) n (by omega) (max (g + 1) (min t ((n : Int) + 1))) (some (.lst (bs.map D.bl), false)) d k (· ∈ ps) (fun _ => Iff.rfl) (fun i => if i = n then (n : Int) else lab i) c e f
      (fun i a1 a2 => by
        show (if i = (n : Int) then (n : Int) else lab i) < (n : Int) + 1
        split
        · omega
        · have := q1 i a1 (by omega); omega)
      (fun i i' a1 a2 a3 a4 => by
        have iso : ∀ x, ¬ Ed n (· ∈ ps) n x ∧ ¬ Ed n (· ∈ ps) x n := fun x => ⟨fun ⟨_, k2, k3⟩ => by have := (h.bd _ k3).1; omega, fun ⟨_, k2, _⟩ => by omega⟩
        show ((if i = (n : Int) then (n : Int) else lab i) = (if i' = (n : Int) then (n : Int) else lab i') ↔ _)
        by_cases u1 : i = (n : Int) <;> by_cases u2 : i' = (n : Int)
        · rw [u1, u2]; exact ⟨fun _ => .refl _, fun _ => rfl⟩
        · rw [if_pos u1, if_neg u2]
          have := q1 i' a3 (by omega)
          exact ⟨fun k => by omega, fun k => absurd ((cl_iso iso k).mp u1) u2⟩
        · rw [if_neg u1, if_pos u2]
          have := q1 i a1 (by omega)
          exact ⟨fun k => by omega, fun k => absurd ((cl_iso iso k).mpr u2) u1⟩
        · rw [if_neg u1, if_neg u2]
          exact q2 i i' a1 (by omega) a3 (by omega))
    refine ⟨nE ps g (labs (n + 1) lab') (max (g + 1) (min t ((n + 1 : Nat) : Int))) (some (.int n, false)) (some (.lst (bs.map D.bl), false)) c' d e' f' k, ?_, lab', some (.int n, false), some (.lst (bs.map D.bl), false), c', d, e', f', k, rfl, ?_, ?_⟩
    · have fin : ∀ le : Int, le = max (g + 1) (min t ((n : Int) + 1)) → (sSeq (sSet 2 (f2 addD (fVar 2) (fL (fLst (gCons (fVar 4) (gNil)))))) (
  sFor (gIt (fVar 0)) (tName 6) b__law_near_1)) (nE ps g (labs n lab) le (some (.int n, false)) (some (.lst (bs.map D.bl), false)) c d e f k) = .ok (.nx (nE ps g (labs (n + 1) lab') (max (g + 1) (min t ((n + 1 : Nat) : Int))) (some (.int n, false)) (some (.lst (bs.map D.bl), false)) c' d e' f' k)) := fun le hle => by
        subst hle
        simp only [x_seq, x_set, x_f2, x_fL, x_fLst, x_gCons, x_gNil, fVar, List.getElem?_cons_succ, List.getElem?_cons_zero, R.bind_ok, c1, hl, List.set_cons_succ, List.set_cons_zero, x_for, x_gIt, x_itD, g1]
        rfl
      by_cases u1 : (n : Int) > g
      · by_cases u2 : t ≤ n
        · have hb : bs.all id = true := (hall u1).mpr u2
          have := fin (max (g + 1) (min t n)) (by omega)
          simp only [b__law_near_2, x_seq (s := sSetL _ _), x_seq (s := sIf _ _ _), x_setL, hc, x_if, x_gAnd, x_fB, x_f2, x_gNot, x_fTru, x_fBi, x_gCons, x_gNil, fVar, List.getElem?_cons_succ, List.getElem?_cons_zero, List.set_cons_succ, List.set_cons_zero, R.bind_ok, x_gt, x_toB, u1, decide_true, if_true, ha, x_truB, hb, Bool.not_true, Bool.false_eq_true, if_false, x_nx, this]
        · have hb : bs.all id = false := by
            rw [← Bool.not_eq_true]; exact fun k => u2 ((hall u1).mp k)
          have := fin ((n : Int) + 1) (by omega)
          simp only [b__law_near_2, x_seq (s := sSetL _ _), x_seq (s := sIf _ _ _), x_setL, hc, x_if, x_gAnd, x_fB, x_f2, x_gNot, x_fTru, x_fBi, x_gCons, x_gNil, fVar, List.getElem?_cons_succ, List.getElem?_cons_zero, List.set_cons_succ, List.set_cons_zero, R.bind_ok, x_gt, x_toB, u1, decide_true, if_true, ha, x_truB, hb, Bool.not_false, x_set, x_fC, x_add, this]
      · have := fin (max (g + 1) (min t n)) (by omega)
        have u1' : ¬ g < (n : Int) := by omega
        simp only [b__law_near_2, x_seq (s := sSetL _ _), x_seq (s := sIf _ _ _), x_setL, hc, x_if, x_gAnd, x_fB, x_f2, x_gNot, x_fTru, x_fBi, x_gCons, x_gNil, fVar, List.getElem?_cons_succ, List.getElem?_cons_zero, List.set_cons_succ, List.set_cons_zero, R.bind_ok, x_gt, x_toB, u1', decide_false, Bool.false_eq_true, if_false, x_nx, this]
    · intro i a1 a2; exact g2 i a1 (by omega)
    · intro i i' a1 a2 a3 a4
      exact g3 i i' a1 (by omega) a3 (by omega)
  subst hρ
  have hl : (rangeL 0 30).length = 30 := by rw [rangeL_len]; rfl
  rw [hl, show max (g + 1) (min t ((30 : Nat) : Int)) = t by omega] at e1
  have r1 : rng1 [.int 30] = .ok (rangeL 0 30) := x_rng1 (by decide)
  have c2 : cap lim ([] : List D) = .ok [] := x_cap (by simp)
  simp only [r__law_near, b__law_near, x_seq, x_if, x_fB, x_f2, x_fBi, x_gCons, x_gNil, fVar, List.getElem?_cons_succ, List.getElem?_cons_zero, List.set_cons_succ, List.set_cons_zero, R.bind_ok, mn, x_eq, x_toB, c0, decide_false, Bool.false_eq_true, if_false, x_nx, x_set, x_fL, x_fLst, c2, x_fC, x_add, x_for, x_gR1, r1, x_ret]
  have e1' : forGo (tName 4) b__law_near_2 (rangeL 0 30) [some (L ps, false), some (.int g, false), some (.lst [], false), some (.int (g + 1), false), none, none, none, none, none, none, none] = _ := e1
  rw [e1']
  rfl
end K36
set_option maxHeartbeats 4000000
namespace K36
open PySem L2 Pc Th
theorem Pd.congr {ps qs : List Int} {g t : Int} (h : Pd ps g t) (e : ∀ x, x ∈ qs ↔ x ∈ ps) (hl : qs.length ≤ 6) : Pd qs g t :=
  ⟨(fun hq => by
    obtain ⟨p, hp⟩ := List.exists_mem_of_ne_nil _ h.ne
    have := (e p).mpr hp
    rw [hq] at this
    cases this), hl, fun p hp => h.bd p ((e p).mp hp), h.gc.congr fun x => (e x).symm, h.th.congr fun x => (e x).symm⟩
theorem Pd.more {ps qs : List Int} {g t m : Int} (h : Pd ps g t) (hm : g ∣ m) (h1 : g ≤ m) (h2 : t ≤ m) (h3 : m ≤ 10 ^ 18) (e : ∀ x, x ∈ qs ↔ x ∈ ps ∨ x = m) (hl : qs.length ≤ 6) : Pd qs g t :=
  ⟨(fun hq => by
    have := (e m).mpr (.inr rfl)
    rw [hq] at this
    cases this), hl, fun p hp => by
    rcases (e p).mp hp with hp | rfl
    · exact h.bd p hp
    · have := h.gc.pos; omega,
    ⟨h.gc.pos, fun d => by
      rw [← h.gc.iff d]
      exact ⟨fun k q hq => k q ((e q).mpr (.inl hq)), fun k q hq => by
        rcases (e q).mp hq with hq | rfl
        · exact k q hq
        · exact Int.dvd_trans ((h.gc.iff d).mp k) hm⟩⟩,
    (h.th.more h.ok hm h1 h2).congr fun x => (e x).symm⟩
theorem Pd.t0 {ps : List Int} {g t : Int} (h : Pd ps g t) : 0 ≤ t := h.th.nonneg fun q hq => by have := h.bd q hq; omega
theorem Pd.t18 {ps : List Int} {g t : Int} (h : Pd ps g t) : t ≤ 2 * 10 ^ 18 := by
  have a := minL_mem h.ne
  have b := maxL_mem h.ne
  have := h.th.le h.ok (minL ps) (maxL ps) a (fun q hq => minL_le hq) b (fun q hq => le_maxL hq)
  have := h.bd _ a; have := h.bd _ b; have := h.gc.pos
  omega
theorem Pd.g18 {ps : List Int} {g t : Int} (h : Pd ps g t) : g ≤ 10 ^ 18 := by
  have a := minL_mem h.ne
  have := h.ok.le a; have := h.bd _ a
  omega
theorem mul64 {i j : Int} (h : i.natAbs < 2 ^ 64) (h' : j.natAbs < 2 ^ 64) : mulD (.int i) (.int j) = .ok (.int (i * j)) := x_mul (by have := lg h; have := lg h'; omega)
/-! ### _law_multiple -/
theorem multiple_ok {g t dr : Int} (hg : 0 < g) (hg' : g ≤ 10 ^ 18) (ht : 0 ≤ t) (ht' : t ≤ 2 * 10 ^ 18) (hd : 0 ≤ dr) : ∃ m, g__law_multiple [.int g, .int t, .int dr] = .ok (.int m) ∧ (m = 0 ∨ (g ∣ m ∧ g ≤ m ∧ t ≤ m ∧ m ≤ 10 ^ 18)) := by
  have hlog := lg18 (Int.le_of_lt hg) hg'
  have d1 : fdivD (.int (t + g - 1)) (.int g) = .ok (.int ((t + g - 1) / g)) := x_fdiv hg (by omega)
  have d2 : fdivD (.int 1000000000000000000) (.int g) = .ok (.int (1000000000000000000 / g)) := x_fdiv hg (by omega)
  obtain ⟨tm, htm⟩ : ∃ tm : Int, tm = (if (t + g - 1) / g > 1 then (t + g - 1) / g else 1) := ⟨_, rfl⟩
  have htm1 : 1 ≤ tm := by rw [htm]; split <;> omega
  have hgt : t ≤ g * tm := by
    have h1 : (t + g - 1) / g ≤ tm := by rw [htm]; split <;> omega
    have h2 := Int.mul_le_mul_of_nonneg_left h1 (Int.le_of_lt hg)
    have h3 := Int.mul_ediv_add_emod (t + g - 1) g
    have h4 := Int.emod_lt_of_pos (t + g - 1) hg
    omega
  have hgg : g ≤ g * tm := by
    have := Int.mul_le_mul_of_nonneg_left htm1 (Int.le_of_lt hg)
    omega
  by_cases c : 1000000000000000000 / g - tm < 0
  · refine ⟨0, ?_, .inl rfl⟩
    simp [r__law_multiple, b__law_multiple, fVar, d1, p18, d2, ← htm, c]
  · -- the draw
    obtain ⟨x, hx⟩ : ∃ x : Int, ixD (.lst [.int 0, .int dr]) (.int (dr % 2)) = .ok (.int x) := by
      rcases (by omega : dr % 2 = 0 ∨ dr % 2 = 1) with e | e
      · exact ⟨0, by rw [e]; exact x_ix rfl⟩
      · exact ⟨dr, by rw [e]; exact x_ix rfl⟩
    have m1 : modD (.int dr) (.int 2) = .ok (.int (dr % 2)) := x_mod (by decide)
    have m2 : modD (.int x) (.int (1000000000000000000 / g - tm + 1)) = .ok (.int (x % (1000000000000000000 / g - tm + 1))) := x_mod (by omega)
    have b1 := Int.emod_nonneg x (show (1000000000000000000 / g - tm + 1) ≠ 0 by omega)
    have b2 := Int.emod_lt_of_pos x (show 0 < (1000000000000000000 / g - tm + 1) by omega)
    obtain ⟨z, hz⟩ : ∃ z : Int, z = x % (1000000000000000000 / g - tm + 1) := ⟨_, rfl⟩
    rw [← hz] at b1 b2 m2
    have h18 : g * (1000000000000000000 / g) ≤ 1000000000000000000 := Int.mul_ediv_self_le (by omega)
    have hz1 : tm + z ≤ 1000000000000000000 / g := by omega
    have h3 := Int.mul_le_mul_of_nonneg_left hz1 (Int.le_of_lt hg)
    have h4 : g * (tm + z) = g * tm + g * z := Int.mul_add _ _ _
    have h5 : 0 ≤ g * z := Int.mul_nonneg (Int.le_of_lt hg) b1
    have h6 : 1000000000000000000 / g ≤ 1000000000000000000 := Int.ediv_le_self _ (by decide)
    have m3 : mulD (.int g) (.int (tm + z)) = .ok (.int (g * (tm + z))) := mul64 (by omega) (by omega)
    have c1 : cap lim [D.int 0, .int dr] = .ok [.int 0, .int dr] := x_cap (by simp [lim])
    refine ⟨g * (tm + z), ?_, .inr ⟨Int.dvd_mul_right _ _, by omega, by omega, by omega⟩⟩
    simp [r__law_multiple, b__law_multiple, fVar, d1, p18, d2, ← htm, c, c1, m1, hx, m2, m3]
/-! ### _law_orders -/
theorem cut_from {α : Type} {xs : List α} {k : Int} (h0 : 0 ≤ k) (h : k ≤ xs.length) : cutL xs (some k) none = xs.drop k.toNat := by
  obtain ⟨k, rfl⟩ := Int.eq_ofNat_of_zero_le h0
  rw [Int.toNat_natCast]
  unfold cutL
  rw [HT.sIx_nat, HT.sIx_none, Nat.min_eq_left (by omega)]
  exact List.take_of_length_le (by simp)
theorem cut_to {α : Type} {xs : List α} {k : Int} (h0 : 0 ≤ k) (h : k ≤ xs.length) : cutL xs none (some k) = xs.take k.toNat := by
  obtain ⟨k, rfl⟩ := Int.eq_ofNat_of_zero_le h0
  rw [Int.toNat_natCast]
  unfold cutL
  rw [HT.sIx_nat, HT.sIx_none, Nat.min_eq_left (by omega)]
  simp
theorem at_int {xs : List Int} {k : Int} (h0 : 0 ≤ k) (h : k < xs.length) : ∃ x, x ∈ xs ∧ xs[k.toNat]? = some x ∧ ixD (L xs) (.int k) = .ok (.int x) := by
  have h1 : k.toNat < (xs.map D.int).length := by rw [List.length_map]; omega
  have h2 := atI_get? h1
  rw [show (k.toNat : Int) = k by omega, List.getElem_map] at h2
  exact ⟨xs[k.toNat], List.getElem_mem _, List.getElem?_eq_getElem _, x_ix h2⟩
theorem ix0 {a : Int} {xs : List Int} : ixD (L (a :: xs)) (.int 0) = .ok (.int a) := x_ix (head_at a xs)
theorem ix1 {a b : Int} {xs : List Int} : ixD (L (a :: b :: xs)) (.int 1) = .ok (.int b) := x_ix (atI_nat (j := 1) rfl)
theorem ix2 {a b c : Int} {xs : List Int} : ixD (L (a :: b :: c :: xs)) (.int 2) = .ok (.int c) := x_ix (atI_nat (j := 2) rfl)
theorem ix3 {a b c d : Int} {xs : List Int} : ixD (L (a :: b :: c :: d :: xs)) (.int 3) = .ok (.int d) := x_ix (atI_nat (j := 3) rfl)
theorem ix4 {a b c d e : Int} {xs : List Int} : ixD (L (a :: b :: c :: d :: e :: xs)) (.int 4) = .ok (.int e) := x_ix (atI_nat (j := 4) rfl)
theorem ix5 {a b c d e f : Int} {xs : List Int} : ixD (L (a :: b :: c :: d :: e :: f :: xs)) (.int 5) = .ok (.int f) := x_ix (atI_nat (j := 5) rfl)
theorem orders_ok {ps cells : List Int} {g t place : Int} (h : Pd ps g t) (hl : ps.length ≤ 5) (hp : 0 ≤ place) (hp' : place ≤ 1000) : g__law_orders [L ps, .int g, .int t, L cells, .int place] = .ok (.bl true) := by
  obtain ⟨row, d1, hrow⟩ := dig_ok (cells := cells) (sizes := [1000000000, 1000000000, 6, 1000000000]) hp hp' (by simp) (by simp)
  obtain ⟨r0, r1, r2, r3, rfl, a0, b0, a1, b1, a2, b2, a3, b3⟩ : ∃ r0 r1 r2 r3 : Int, row = [r0, r1, r2, r3] ∧ 0 ≤ r0 ∧ r0 < 1000000000 ∧ 0 ≤ r1 ∧ r1 < 1000000000 ∧ 0 ≤ r2 ∧ r2 < 6 ∧ 0 ≤ r3 ∧ r3 < 1000000000 := by
    cases hrow with | cons a0 b0 hrow => cases hrow with | cons a1 b1 hrow => cases hrow with | cons a2 b2 hrow => cases hrow with | cons a3 b3 hrow => cases hrow with | nil =>
    exact ⟨_, _, _, _, rfl, a0, b0, a1, b1, a2, b2, a3, b3⟩
  have c4 : cap lim [D.int 1000000000, .int 1000000000, .int 6, .int 1000000000] = .ok [D.int 1000000000, .int 1000000000, .int 6, .int 1000000000] := x_cap (by simp [lim])
  have d1' : g__law_dig [L cells, .int place, .lst [D.int 1000000000, .int 1000000000, .int 6, .int 1000000000]] = .ok (L [r0, r1, r2, r3]) := d1
  have m0 : mulD (.int r0) (.int 1000000000) = .ok (.int (r0 * 1000000000)) := mul64 (by omega) (by omega)
  have m3 : mulD (.int r3) (.int 1000000000) = .ok (.int (r3 * 1000000000)) := mul64 (by omega) (by omega)
  have q1 := asked_ok (far := r0 * 1000000000 + r1) h
  have q2 : g__law_asked [.lst (ps.map D.int).reverse, .int g, .int t, .int (r0 * 1000000000 + r1)] = .ok (.bl true) := by
    rw [← List.map_reverse]
    exact asked_ok (h.congr (fun x => List.mem_reverse) (by rw [List.length_reverse]; omega))
  have hlen0 : 0 < (ps.length : Int) := by
    have := List.length_pos_iff.mpr h.ne
    omega
  obtain ⟨a, ha⟩ : ∃ a : Int, a = r2 % (ps.length : Int) := ⟨_, rfl⟩
  have m2 : modD (.int r2) (.int (ps.length : Int)) = .ok (.int a) := by rw [ha]; exact x_mod hlen0
  have a0' : 0 ≤ a := by rw [ha]; exact Int.emod_nonneg _ (by omega)
  have a1' : a < ps.length := by rw [ha]; exact Int.emod_lt_of_pos _ hlen0
  obtain ⟨p, hpm, hpg, hpx⟩ := at_int a0' a1'
  have k1 : cutL (ps.map D.int) (some a) none = (ps.drop a.toNat).map D.int := by rw [cut_from a0' (by rw [List.length_map]; omega), List.map_drop]
  have k2 : cutL (ps.map D.int) none (some a) = (ps.take a.toNat).map D.int := by rw [cut_to a0' (by rw [List.length_map]; omega), List.map_take]
  have l1 : (ps.take a.toNat).length ≤ 5 := by rw [List.length_take]; omega
  have l2 : (ps.drop a.toNat).length ≤ 5 := by rw [List.length_drop]; omega
  have l3 : (ps.take a.toNat).length + (ps.drop a.toNat).length ≤ 5 := by rw [List.length_take, List.length_drop]; omega
  have mem : ∀ x, (x ∈ ps.take a.toNat ∨ x ∈ ps.drop a.toNat) ↔ x ∈ ps := fun x => by rw [← List.mem_append, List.take_append_drop]
  have s1 : addD (L (ps.drop a.toNat)) (L (ps.take a.toNat)) = .ok (L (ps.drop a.toNat ++ ps.take a.toNat)) := by
    rw [x_addL, if_pos (by rw [List.length_map, List.length_map]; simp only [lim]; omega)]; simp
  have s2 : addD (L (ps.drop a.toNat ++ ps.take a.toNat)) (.lst [.int p]) = .ok (L (ps.drop a.toNat ++ ps.take a.toNat ++ [p])) := by
    rw [x_addL, if_pos (by rw [List.length_map, List.length_append]; simp only [lim, List.length_cons, List.length_nil]; omega)]; simp
  have c1 : ∀ p : Int, cap lim [D.int p] = .ok [.int p] := fun p => x_cap (by simp [lim])
  have q3 := asked_ok (far := r0 * 1000000000 + r1) (h.congr (qs := ps.drop a.toNat ++ ps.take a.toNat ++ [p]) (fun x => by
    rw [List.mem_append, List.mem_append, List.mem_singleton, ← mem x]
    constructor
    · rintro ((k | k) | rfl)
      · exact .inr k
      · exact .inl k
      · exact (mem x).mpr hpm
    · rintro (k | k)
      · exact .inl (.inr k)
      · exact .inl (.inl k)) (by rw [List.length_append, List.length_append]; simp only [List.length_cons, List.length_nil]; omega))
  obtain ⟨m, e1, e2⟩ := multiple_ok (dr := r3 * 1000000000 + r0) h.gc.pos h.g18 h.t0 h.t18 (by omega)
  by_cases c : m = 0
  · subst c
    simp only [r__law_orders, b__law_orders, x_seq, x_set, x_fCall, x_f2, x_fL, x_fLst, x_gCons, x_gNil, x_fC, fVar, List.getElem?_cons_succ, List.getElem?_cons_zero, List.set_cons_succ, List.set_cons_zero, R.bind_ok, p9, c4, List.length_cons, List.length_nil, if_true, d1', ix0, ix1, ix2, ix3, m0, m3, x_add, x_if, x_gNot, x_fTru, q1, x_truB, Bool.not_true, Bool.false_eq_true, if_false, x_nx, x_fRev, x_revL, q2, x_fBi, x_int, x_len, List.length_map, m2, x_fSl, x_gSo, x_gNo, x_slL, k1, k2, s1, hpx, c1, s2, q3, e1, x_fB, x_eq, x_toB, decide_true, x_ret, x_end_rt]
  · have e2 := e2.resolve_left c
    have s3 : addD (L (ps.take a.toNat)) (.lst [.int m]) = .ok (L (ps.take a.toNat ++ [m])) := by
      rw [x_addL, if_pos (by rw [List.length_map]; simp only [lim, List.length_cons, List.length_nil]; omega)]; simp
    have s4 : addD (L (ps.take a.toNat ++ [m])) (L (ps.drop a.toNat)) = .ok (L (ps.take a.toNat ++ [m] ++ ps.drop a.toNat)) := by
      rw [x_addL, if_pos (by rw [List.length_map, List.length_map, List.length_append]; simp only [lim, List.length_cons, List.length_nil]; omega)]; simp
    have q4 := asked_ok (far := r0 * 1000000000 + r1) (h.more (qs := ps.take a.toNat ++ [m] ++ ps.drop a.toNat) e2.1 e2.2.1 e2.2.2.1 e2.2.2.2 (fun x => by
      rw [List.mem_append, List.mem_append, List.mem_singleton, ← mem x]
      constructor
      · rintro ((k | k) | k)
        · exact .inl (.inl k)
        · exact .inr k
        · exact .inl (.inr k)
      · rintro ((k | k) | k)
        · exact .inl (.inl k)
        · exact .inr k
        · exact .inl (.inr k)) (by rw [List.length_append, List.length_append]; simp only [List.length_cons, List.length_nil]; omega))
    simp only [r__law_orders, b__law_orders, x_seq, x_set, x_fCall, x_f2, x_fL, x_fLst, x_gCons, x_gNil, x_fC, fVar, List.getElem?_cons_succ, List.getElem?_cons_zero, List.set_cons_succ, List.set_cons_zero, R.bind_ok, p9, c4, List.length_cons, List.length_nil, if_true, d1', ix0, ix1, ix2, ix3, m0, m3, x_add, x_if, x_gNot, x_fTru, q1, x_truB, Bool.not_true, Bool.false_eq_true, if_false, x_nx, x_fRev, x_revL, q2, x_fBi, x_int, x_len, List.length_map, m2, x_fSl, x_gSo, x_gNo, x_slL, k1, k2, s1, hpx, c1, s2, q3, e1, x_fB, x_eq, x_toB, c, decide_false, x_ret, s3, s4, q4, x_end_rt]
/-! ### _law_two -/
theorem two_ok {row : List Int} (h : Dg row [6, 1000000000, 1000000000, 1000000000, 1000000000, 9]) : ∃ a b, g__law_two [L row] = .ok (L [a, b]) ∧ (1 ≤ a ∧ a ≤ 10 ^ 18) ∧ 1 ≤ b ∧ b ≤ 10 ^ 18 := by
  obtain ⟨r0, r1, r2, r3, r4, r5, rfl, a0, b0, a1, b1, a2, b2, a3, b3, a4, b4, a5, b5⟩ : ∃ r0 r1 r2 r3 r4 r5 : Int, row = [r0, r1, r2, r3, r4, r5] ∧ 0 ≤ r0 ∧ r0 < 6 ∧ 0 ≤ r1 ∧ r1 < 1000000000 ∧ 0 ≤ r2 ∧ r2 < 1000000000 ∧ 0 ≤ r3 ∧ r3 < 1000000000 ∧ 0 ≤ r4 ∧ r4 < 1000000000 ∧ 0 ≤ r5 ∧ r5 < 9 := by
    cases h with | cons a0 b0 h => cases h with | cons a1 b1 h => cases h with | cons a2 b2 h => cases h with | cons a3 b3 h => cases h with | cons a4 b4 h => cases h with | cons a5 b5 h => cases h with | nil =>
    exact ⟨_, _, _, _, _, _, rfl, a0, b0, a1, b1, a2, b2, a3, b3, a4, b4, a5, b5⟩
  have m1 : mulD (.int r1) (.int 1000000000) = .ok (.int (r1 * 1000000000)) := mul64 (by omega) (by omega)
  have m3 : mulD (.int r3) (.int 1000000000) = .ok (.int (r3 * 1000000000)) := mul64 (by omega) (by omega)
  have m4 : mulD (.int (1 + r1 * 1000000000 + r2)) (.int (2 + r5)) = .ok (.int ((1 + r1 * 1000000000 + r2) * (2 + r5))) := mul64 (by omega) (by omega)
  have m5 : mulD (.int (1 + r1)) (.int (1 + r2)) = .ok (.int ((1 + r1) * (1 + r2))) := mul64 (by omega) (by omega)
  have m6 : mulD (.int (1 + r3)) (.int (1 + r2)) = .ok (.int ((1 + r3) * (1 + r2))) := mul64 (by omega) (by omega)
  have m7 : modD (.int r1) (.int 9) = .ok (.int (r1 % 9)) := x_mod (by decide)
  have bnd : ∀ x y : Int, 0 ≤ x → x < 1000000000 → 0 ≤ y → y < 1000000000 → 1 ≤ (1 + x) * (1 + y) ∧ (1 + x) * (1 + y) ≤ 10 ^ 18 := fun x y h1 h2 h3 h4 => by
    have k1 := Int.mul_le_mul (show 1 + x ≤ 1000000000 by omega) (show 1 + y ≤ 1000000000 by omega) (by omega) (by omega)
    have k2 := Int.mul_le_mul (show 1 ≤ 1 + x by omega) (show 1 ≤ 1 + y by omega) (by omega) (by omega)
    omega
  have n1 := bnd r1 r2 a1 b1 a2 b2
  have n2 := bnd r3 r2 a3 b3 a2 b2
  have c2 : ∀ p q : Int, cap lim [D.int p, .int q] = .ok [.int p, .int q] := fun p q => x_cap (by simp [lim])
  -- the end
  have fin : ∀ x y : Int, 1 ≤ x → x ≤ 10 ^ 18 → ∃ a b, (endD ((sSeq (sIf (gOr (fB (f2 ltD (fVar 2) (fC (.int 1)))) (fB (f2 gtD (fVar 2) (f2 powD (fC (.int 10)) (fC (.int 18)))))) (
  sSet 2 (fVar 1)) (
  sNx)) (
  sRet (fL (fLst (gCons (fVar 1) (gCons (fVar 2) (gNil))))))) [some (L [r0, r1, r2, r3, r4, r5], false), some (.int x, false), some (.int y, false)])) = .ok (L [a, b]) ∧ (1 ≤ a ∧ a ≤ 10 ^ 18) ∧ 1 ≤ b ∧ b ≤ 10 ^ 18 := fun x y h1 h2 => by
    by_cases u1 : y < 1
    · exact ⟨x, x, by simp [fVar, p18, u1, c2], ⟨h1, h2⟩, h1, h2⟩
    · by_cases u2 : 1000000000000000000 < y
      · exact ⟨x, x, by simp [fVar, p18, u1, u2, c2], ⟨h1, h2⟩, h1, h2⟩
      · exact ⟨x, y, by simp [fVar, p18, u1, u2, c2], ⟨h1, h2⟩, by omega, by omega⟩
  rw [r__law_two]
  rcases (by omega : r0 = 0 ∨ r0 = 1 ∨ r0 = 2 ∨ r0 = 3 ∨ r0 = 4 ∨ r0 = 5) with e | e | e | e | e | e
  all_goals subst e
  · have := fin (1 + r1 * 1000000000 + r2) (1 + r3 * 1000000000 + r4) (by omega) (by omega)
    simpa only [b__law_two, x_seq (s := sSet _ _), x_seq (s := sIf (fB _) _ _), x_set, x_f2, x_fC, fVar, List.getElem?_cons_succ, List.getElem?_cons_zero, List.set_cons_succ, List.set_cons_zero, R.bind_ok, ix0, ix1, ix2, ix3, ix4, ix5, p9, m1, m3, x_add, x_if (c := fB _), x_fB, x_eq, x_toB, (by decide : decide ((0 : Int) = 1) = false), (by decide : decide ((0 : Int) = 2) = false), (by decide : decide ((0 : Int) = 3) = false), (by decide : decide ((0 : Int) = 4) = false), (by decide : decide ((0 : Int) = 5) = false), Bool.false_eq_true, if_false, x_nx] using this
  · have := fin (1 + r1 * 1000000000 + r2) (1 + r1 * 1000000000 + r2 - 1 - r5) (by omega) (by omega)
    simpa only [b__law_two, x_seq (s := sSet _ _), x_seq (s := sIf (fB _) _ _), x_set, x_f2, x_fC, fVar, List.getElem?_cons_succ, List.getElem?_cons_zero, List.set_cons_succ, List.set_cons_zero, R.bind_ok, ix0, ix1, ix2, ix3, ix4, ix5, p9, m1, m3, x_add, x_sub, x_if (c := fB _), x_fB, x_eq, x_toB, decide_true, (by decide : decide ((1 : Int) = 2) = false), (by decide : decide ((1 : Int) = 3) = false), (by decide : decide ((1 : Int) = 4) = false), (by decide : decide ((1 : Int) = 5) = false), Bool.false_eq_true, if_true, if_false, x_nx] using this
  · have := fin (1 + r1 * 1000000000 + r2) ((1 + r1 * 1000000000 + r2) * (2 + r5)) (by omega) (by omega)
    simpa only [b__law_two, x_seq (s := sSet _ _), x_seq (s := sIf (fB _) _ _), x_set, x_f2, x_fC, fVar, List.getElem?_cons_succ, List.getElem?_cons_zero, List.set_cons_succ, List.set_cons_zero, R.bind_ok, ix0, ix1, ix2, ix3, ix4, ix5, p9, m1, m3, m4, x_add, x_if (c := fB _), x_fB, x_eq, x_toB, (by decide : decide ((2 : Int) = 1) = false), decide_true, (by decide : decide ((2 : Int) = 3) = false), (by decide : decide ((2 : Int) = 4) = false), (by decide : decide ((2 : Int) = 5) = false), Bool.false_eq_true, if_true, if_false, x_nx] using this
  · have := fin ((1 + r1) * (1 + r2)) ((1 + r3) * (1 + r2)) n1.1 n1.2
    simpa only [b__law_two, x_seq (s := sSet _ _), x_seq (s := sIf (fB _) _ _), x_set, x_f2, x_fC, fVar, List.getElem?_cons_succ, List.getElem?_cons_zero, List.set_cons_succ, List.set_cons_zero, R.bind_ok, ix0, ix1, ix2, ix3, ix4, ix5, p9, m1, m3, m5, m6, x_add, x_if (c := fB _), x_fB, x_eq, x_toB, (by decide : decide ((3 : Int) = 1) = false), (by decide : decide ((3 : Int) = 2) = false), decide_true, (by decide : decide ((3 : Int) = 4) = false), (by decide : decide ((3 : Int) = 5) = false), Bool.false_eq_true, if_true, if_false, x_nx] using this
  · have := fin (1000000000000000000 - r5) (1000000000000000000 - r5 - 1 - r1 % 9) (by omega) (by omega)
    simpa only [b__law_two, x_seq (s := sSet _ _), x_seq (s := sIf (fB _) _ _), x_set, x_f2, x_fBi, x_gCons, x_gNil, x_fC, fVar, List.getElem?_cons_succ, List.getElem?_cons_zero, List.set_cons_succ, List.set_cons_zero, R.bind_ok, ix0, ix1, ix2, ix3, ix4, ix5, p9, p18, m1, m3, m7, x_int, x_add, x_sub, x_if (c := fB _), x_fB, x_eq, x_toB, (by decide : decide ((4 : Int) = 1) = false), (by decide : decide ((4 : Int) = 2) = false), (by decide : decide ((4 : Int) = 3) = false), decide_true, (by decide : decide ((4 : Int) = 5) = false), Bool.false_eq_true, if_true, if_false, x_nx] using this
  · have := fin (2 + r5) (1 + r3 * 1000000000 + r4) (by omega) (by omega)
    simpa only [b__law_two, x_seq (s := sSet _ _), x_seq (s := sIf (fB _) _ _), x_set, x_f2, x_fC, fVar, List.getElem?_cons_succ, List.getElem?_cons_zero, List.set_cons_succ, List.set_cons_zero, R.bind_ok, ix0, ix1, ix2, ix3, ix4, ix5, p9, m1, m3, x_add, x_if (c := fB _), x_fB, x_eq, x_toB, (by decide : decide ((5 : Int) = 1) = false), (by decide : decide ((5 : Int) = 2) = false), (by decide : decide ((5 : Int) = 3) = false), (by decide : decide ((5 : Int) = 4) = false), decide_true, Bool.false_eq_true, if_true, if_false, x_nx] using this
end K36
set_option maxHeartbeats 4000000
namespace K36
open PySem L2 Pc Th
/-! ### _law_led_on -/
/-- the rows moved on: the one at i stays, the others move by c -/
theorem led_mem {ps : List Int} {p c x : Int} {i : Nat} (hi : ps[i]? = some p) : x ∈ (ps.map (· + c)).set i p ↔ x = p ∨ ∃ y, (∃ k, k ≠ i ∧ ps[k]? = some y) ∧ x = y + c := by
  have hlt : i < ps.length := (List.getElem?_eq_some_iff.mp hi).1
  rw [List.mem_iff_getElem?]
  constructor
  · rintro ⟨k, hk⟩
    rw [List.getElem?_set] at hk
    by_cases c1 : i = k
    · rw [if_pos c1] at hk
      split at hk
      · exact .inl (Option.some.inj hk).symm
      · cases hk
    · rw [if_neg c1, List.getElem?_map, Option.map_eq_some_iff] at hk
      obtain ⟨y, hy, rfl⟩ := hk
      exact .inr ⟨y, ⟨k, fun e => c1 e.symm, hy⟩, rfl⟩
  · rintro (rfl | ⟨y, ⟨k, hk, hy⟩, rfl⟩)
    · exact ⟨i, by rw [List.getElem?_set, if_pos rfl, if_pos (by rw [List.length_map]; exact hlt)]⟩
    · exact ⟨k, by rw [List.getElem?_set, if_neg (fun e => hk e.symm), List.getElem?_map, hy]; rfl⟩
theorem mem_split {ps : List Int} {p x : Int} {i : Nat} (hi : ps[i]? = some p) : x ∈ ps ↔ x = p ∨ ∃ k, k ≠ i ∧ ps[k]? = some x := by
  rw [List.mem_iff_getElem?]
  constructor
  · rintro ⟨k, hk⟩
    by_cases c : k = i
    · subst c; rw [hi] at hk; exact .inl (Option.some.inj hk).symm
    · exact .inr ⟨k, c, hk⟩
  · rintro (rfl | ⟨k, _, hk⟩)
    · exact ⟨i, hi⟩
    · exact ⟨k, hk⟩
theorem Pd.led {ps : List Int} {g t p n : Int} {i : Nat} (h : Pd ps g t) (hi : ps[i]? = some p) (hn : 1 ≤ n) (hm : ∀ q ∈ ps, q + n * p ≤ 10 ^ 18) : Pd ((ps.map (· + n * p)).set i p) g (if p = g then 0 else n * p + max p t) := by
  have hpm : p ∈ ps := List.mem_of_getElem? hi
  have hp := h.bd p hpm
  have hnp : 0 ≤ n * p := Int.mul_nonneg (by omega) (by omega)
  refine ⟨fun e => ?_, by rw [List.length_set, List.length_map]; exact h.few, fun x hx => ?_, ⟨h.gc.pos, fun d => ?_⟩, ?_⟩
  · have : p ∈ (ps.map (· + n * p)).set i p := (led_mem hi).mpr (.inl rfl)
    rw [e] at this; cases this
  · rcases (led_mem hi).mp hx with rfl | ⟨y, ⟨k, _, hy⟩, rfl⟩
    · exact hp
    · have hym := List.mem_of_getElem? hy
      have := hm y hym; have := h.bd y hym
      omega
  · rw [← h.gc.iff d]
    constructor
    · intro k q hq
      have kp := k p ((led_mem hi).mpr (.inl rfl))
      rcases (mem_split hi).mp hq with rfl | ⟨j, hj, hq⟩
      · exact kp
      · have := Int.dvd_sub (k _ ((led_mem hi).mpr (.inr ⟨q, ⟨j, hj, hq⟩, rfl⟩))) (Int.dvd_trans kp (Int.dvd_mul_left n p))
        rwa [show q + n * p - n * p = q by omega] at this
    · intro k x hx
      rcases (led_mem hi).mp hx with rfl | ⟨y, ⟨j, _, hy⟩, rfl⟩
      · exact k _ hpm
      · exact Int.dvd_add (k y (List.mem_of_getElem? hy)) (Int.dvd_trans (k p hpm) (Int.dvd_mul_left n p))
  · by_cases c : p = g
    · rw [if_pos c]
      exact .base ((led_mem hi).mpr (.inl c.symm))
    · rw [if_neg c]
      have hgp : g < p := by have := h.ok.le hpm; omega
      have := TH.ups (g := g) (p := p) (t := t) (S := fun y => ∃ k, k ≠ i ∧ ps[k]? = some y) (by omega) (fun y ⟨k, _, hy⟩ => by have := h.bd y (List.mem_of_getElem? hy); omega) hgp (h.th.congr fun x => mem_split hi) (n.toNat - 1)
      rw [show (((n.toNat - 1 : Nat) : Int) + 1) = n by omega] at this
      refine this.congr fun x => ?_
      unfold up
      rw [led_mem hi, show ((n.toNat - 1 + 1 : Nat) : Int) = n by omega]
abbrev lE (cells ps : List Int) (g t r : Int) (rows : List Int) (least : Int) (o : Bool) (a b c d e f : Option (D × Bool)) : En :=
  [some (L cells, false), some (L ps, false), some (.int g, false), some (.int t, false), some (.int r, false), some (L rows, o), some (.int least, false), a, b, c, d, e, f]
theorem led_step {cells ps rows : List Int} {g t r least : Int} (h : Pd rows g least) (k : Nat) (hk : k < 10) (b c d e f : Option (D × Bool)) :
    ∃ rows' least' b' c' d' e' f', b__law_led_on_1 (lE cells ps g t r rows least true (some (.int k, false)) b c d e f) = .ok (.nx (lE cells ps g t r rows' least' true (some (.int k, false)) b' c' d' e' f')) ∧ Pd rows' g least' ∧ rows'.length = rows.length := by
  have hlen0 : 0 < (rows.length : Int) := by
    have := List.length_pos_iff.mpr h.ne
    omega
  have few := h.few
  obtain ⟨row, d1, hrow⟩ := dig_ok (cells := cells) (place := 8 + (k : Int)) (sizes := [(rows.length : Int), 2, 1000000000, 1000000000]) (by omega) (by omega) (by
    intro s hs
    simp only [List.mem_cons, List.not_mem_nil, or_false] at hs
    omega) (by simp)
  obtain ⟨r0, r1, r2, r3, rfl, a0, b0, a1, b1, a2, b2, a3, b3⟩ : ∃ r0 r1 r2 r3 : Int, row = [r0, r1, r2, r3] ∧ 0 ≤ r0 ∧ r0 < rows.length ∧ 0 ≤ r1 ∧ r1 < 2 ∧ 0 ≤ r2 ∧ r2 < 1000000000 ∧ 0 ≤ r3 ∧ r3 < 1000000000 := by
    cases hrow with | cons a0 b0 hrow => cases hrow with | cons a1 b1 hrow => cases hrow with | cons a2 b2 hrow => cases hrow with | cons a3 b3 hrow => cases hrow with | nil =>
    exact ⟨_, _, _, _, rfl, a0, b0, a1, b1, a2, b2, a3, b3⟩
  have d1' : g__law_dig [L cells, .int (8 + (k : Int)), .lst [D.int (rows.length : Int), .int 2, .int 1000000000, .int 1000000000]] = .ok (L [r0, r1, r2, r3]) := d1
  have c4 : cap lim [D.int (rows.length : Int), .int 2, .int 1000000000, .int 1000000000] = .ok [D.int (rows.length : Int), .int 2, .int 1000000000, .int 1000000000] := x_cap (by simp [lim])
  obtain ⟨p, hpm, hpg, hpx⟩ := at_int a0 b0
  have hp := h.bd p hpm
  have mx : maxD [L rows] = .ok (.int (maxL rows)) := x_max h.ne
  have hmx := h.bd _ (maxL_mem h.ne)
  have hlog := @lg p (by omega)
  have f1 : fdivD (.int (1000000000000000000 - maxL rows)) (.int p) = .ok (.int ((1000000000000000000 - maxL rows) / p)) := x_fdiv (by omega) (by omega)
  obtain ⟨room, hroom⟩ : ∃ room : Int, room = (1000000000000000000 - maxL rows) / p := ⟨_, rfl⟩
  rw [← hroom] at f1
  have hr1 : room * p ≤ 1000000000000000000 - maxL rows := by rw [hroom]; exact Int.ediv_mul_le _ (by omega)
  have hr2 : room ≤ 1000000000000000000 := by rw [hroom]; have := Int.ediv_le_self p (show 0 ≤ 1000000000000000000 - maxL rows by omega); omega
  by_cases u : 0 < room
  · -- how often
    have m2 : mulD (.int r2) (.int 1000000000) = .ok (.int (r2 * 1000000000)) := mul64 (by omega) (by omega)
    have q1 : modD (.int (r2 * 1000000000 + r3)) (.int room) = .ok (.int ((r2 * 1000000000 + r3) % room)) := x_mod u
    have v1 := Int.emod_nonneg (r2 * 1000000000 + r3) (show room ≠ 0 by omega)
    have v2 := Int.emod_lt_of_pos (r2 * 1000000000 + r3) u
    have q2 : modD (.int r2) (.int (if 3 < room then 3 else room)) = .ok (.int (r2 % (if 3 < room then 3 else room))) := x_mod (by split <;> omega)
    have v3 := Int.emod_nonneg r2 (show (if 3 < room then (3 : Int) else room) ≠ 0 by split <;> omega)
    have v4 := Int.emod_lt_of_pos r2 (show 0 < (if 3 < room then (3 : Int) else room) by split <;> omega)
    have rest : ∀ n : Int, 1 ≤ n → n ≤ room → ∃ rows' least' f', ((sSeq (sFrz [5] (sOwn 5 (fLc [12] (gIt (fVar 5)) (tName 12) (gYes) (f2 addD (fVar 12) (f2 mulD (fVar 11) (fVar 9)))))) (
  sSeq (sPut 5 (fVar 9) (f2 ixD (fVar 8) (fC (.int 0)))) (
  sIf (fB (f2 eqD (fVar 9) (fVar 2))) (
  sSet 6 (fC (.int 0))) (
  sSet 6 (f2 addD (f2 mulD (fVar 11) (fVar 9)) (fBi maxD (gCons (fVar 9) (gCons (fVar 6) (gNil)))))))))
        (lE cells ps g t r rows least true (some (.int k, false)) (some (L [r0, r1, r2, r3], false)) (some (.int p, false)) (some (.int room, false)) (some (.int n, false)) f)) = .ok (.nx (lE cells ps g t r rows' least' true (some (.int k, false)) (some (L [r0, r1, r2, r3], false)) (some (.int p, false)) (some (.int room, false)) (some (.int n, false)) f')) ∧ Pd rows' g least' ∧ rows'.length = rows.length := fun n n1 n2 => by
      have hnp := Int.mul_le_mul_of_nonneg_right n2 (show 0 ≤ p by omega)
      have hm : mulD (.int n) (.int p) = .ok (.int (n * p)) := mul64 (by omega) (by omega)
      have hc : fLc [12] (gIt (fVar 5)) (tName 12) (gYes) (f2 addD (fVar 12) (f2 mulD (fVar 11) (fVar 9))) (lE cells ps g t r rows least false (some (.int k, false)) (some (L [r0, r1, r2, r3], false)) (some (.int p, false)) (some (.int room, false)) (some (.int n, false)) f)
          = .ok (rows.map fun q => D.int (q + n * p)) := by
        refine lc_all (inj := D.int) (fun q => D.int (q + n * p)) (by simp [fVar]) (by simp only [lim]; omega) fun q _ => ⟨_, rfl, ?_⟩
        simp [fVar, wipeE, hm]
      have e2 : (rows.map fun q => D.int (q + n * p)) = (rows.map (· + n * p)).map D.int := by simp
      rw [e2] at hc
      have hfr : frz1 (lE cells ps g t r rows least true (some (.int k, false)) (some (L [r0, r1, r2, r3], false)) (some (.int p, false)) (some (.int room, false)) (some (.int n, false)) f) 5 = lE cells ps g t r rows least false (some (.int k, false)) (some (L [r0, r1, r2, r3], false)) (some (.int p, false)) (some (.int room, false)) (some (.int n, false)) f := frz1_own rfl
      have hst : setAt ((rows.map (· + n * p)).map D.int) (.int p) (.int r0) = .ok (((rows.map (· + n * p)).set r0.toNat p).map D.int) := by
        have := x_setAt (ds := (rows.map (· + n * p)).map D.int) (d := .int p) (j := r0.toNat) (by rw [List.length_map, List.length_map]; omega)
        rw [show (r0.toNat : Int) = r0 by omega] at this
        rw [this, List.map_set]
      have hpd := h.led (n := n) hpg n1 (fun q hq => by have := le_maxL hq; omega)
      refine ⟨(rows.map (· + n * p)).set r0.toNat p, if p = g then 0 else n * p + max p least, f, ?_, hpd, by rw [List.length_set, List.length_map]⟩
      have em : (if least > p then least else p) = max p least := by omega
      by_cases w : p = g
      · rw [if_pos w]
        have hw : decide (p = g) = true := decide_eq_true w
        simp only [x_seq, x_frz, x_frz1, x_frz0, hfr, x_own, hc, R.bind_ok, List.set_cons_succ, List.set_cons_zero, x_put, fOwn, x_f2, x_fC, x_fB, fVar, List.getElem?_cons_succ, List.getElem?_cons_zero, ix0, hst, x_if, x_eq, x_toB, hw, if_true, x_set]
      · rw [if_neg w]
        simp only [x_seq, x_frz, x_frz1, x_frz0, hfr, x_own, hc, R.bind_ok, List.set_cons_succ, List.set_cons_zero, x_put, fOwn, x_f2, x_fC, x_fB, fVar, List.getElem?_cons_succ, List.getElem?_cons_zero, ix0, hst, x_if, x_eq, x_toB, w, decide_false, Bool.false_eq_true, if_false, x_set, hm, x_fBi, x_gCons, x_gNil, x_max2, em, x_add]
    by_cases w : r1 = 0
    · have hw : decide (r1 = 0) = true := decide_eq_true w
      obtain ⟨rows', least', f', e1, e2, e3⟩ := rest (1 + r2 % (if 3 < room then 3 else room)) (by omega) (by split at v4 <;> split <;> omega)
      refine ⟨rows', least', some (L [r0, r1, r2, r3], false), some (.int p, false), some (.int room, false), some (.int (1 + r2 % (if 3 < room then 3 else room)), false), f', ?_, e2, e3⟩
      simp only [b__law_led_on_1, x_seq (s := sSet _ _), x_seq (s := sIf _ _ _), x_set, x_fCall, x_gCons, x_gNil, x_f2, x_fC, x_fL, x_fLst, x_fBi, fVar, fVarB, List.getElem?_cons_succ, List.getElem?_cons_zero, List.set_cons_succ, List.set_cons_zero, R.bind_ok, x_add, x_len, List.length_map, p9, c4, List.length_cons, List.length_nil, if_true, d1', ix0, ix1, ix2, ix3, hpx, p18, mx, x_sub, f1, x_if, x_fB, x_gt, u, decide_true, x_toB, m2, q1, x_eq, hw, x_min2, q2, e1]
    · obtain ⟨rows', least', f', e1, e2, e3⟩ := rest (1 + (r2 * 1000000000 + r3) % room) (by omega) (by omega)
      refine ⟨rows', least', some (L [r0, r1, r2, r3], false), some (.int p, false), some (.int room, false), some (.int (1 + (r2 * 1000000000 + r3) % room), false), f', ?_, e2, e3⟩
      simp only [b__law_led_on_1, x_seq (s := sSet _ _), x_seq (s := sIf _ _ _), x_set, x_fCall, x_gCons, x_gNil, x_f2, x_fC, x_fL, x_fLst, x_fBi, fVar, fVarB, List.getElem?_cons_succ, List.getElem?_cons_zero, List.set_cons_succ, List.set_cons_zero, R.bind_ok, x_add, x_len, List.length_map, p9, c4, List.length_cons, List.length_nil, if_true, d1', ix0, ix1, ix2, ix3, hpx, p18, mx, x_sub, f1, x_if, x_fB, x_gt, u, decide_true, x_toB, m2, q1, x_eq, w, decide_false, Bool.false_eq_true, if_false, x_nx, e1]
  · refine ⟨rows, least, some (L [r0, r1, r2, r3], false), some (.int p, false), some (.int room, false), e, f, ?_, h, rfl⟩
    simp only [b__law_led_on_1, x_seq (s := sSet _ _), x_set, x_fCall, x_gCons, x_gNil, x_f2, x_fC, x_fL, x_fLst, x_fBi, fVar, fVarB, List.getElem?_cons_succ, List.getElem?_cons_zero, List.set_cons_succ, List.set_cons_zero, R.bind_ok, x_add, x_len, List.length_map, p9, c4, List.length_cons, List.length_nil, if_true, d1', ix0, hpx, p18, mx, x_sub, f1, x_if, x_fB, x_gt, u, decide_false, Bool.false_eq_true, if_false, x_toB, x_nx]
theorem led_on_ok {cells ps : List Int} {g t r : Int} (h : Pd ps g t) (h0 : 0 ≤ r) (h1 : r < 10) : ∃ rows least, g__law_led_on [L cells, L ps, .int g, .int t, .int r] = .ok (.lst [L rows, .int least]) ∧ Pd rows g least ∧ rows.length = ps.length := by
  obtain ⟨ρ', e1, rows, least, a, b, c, d, e, f, hρ, q1, q2⟩ := for_name (i := 7) (body := b__law_led_on_1) (ds := rangeL 0 r) (ρ := lE cells ps g t r ps t true none none none none none none)
    (fun j ρ => ∃ rows least a b c d e f, ρ = lE cells ps g t r rows least true a b c d e f ∧ Pd rows g least ∧ rows.length = ps.length) ⟨ps, t, _, _, _, _, _, _, rfl, h, rfl⟩ fun j d ρ hj hρ => by
      obtain ⟨rows, least, a, b, c, d, e, f, hρ, q1, q2⟩ := hρ
      subst hρ
      obtain ⟨rfl, hj'⟩ := rangeL_get hj
      obtain ⟨rows', least', b', c', d', e', f', k1, k2, k3⟩ := led_step (cells := cells) (ps := ps) (t := t) (r := r) q1 j (by omega) b c d e f
      exact ⟨_, by rw [show (0 : Int) + (j : Int) = j by omega]; exact k1, rows', least', _, _, _, _, _, _, rfl, k2, by omega⟩
  subst hρ
  refine ⟨rows, least, ?_, q1, q2⟩
  have r1 : rng1 [.int r] = .ok (rangeL 0 r) := x_rng1 (by omega)
  have hfr : frz1 (lE cells ps g t r rows least true a b c d e f) 5 = lE cells ps g t r rows least false a b c d e f := frz1_own rfl
  have c2 : cap lim [L rows, .int least] = .ok [L rows, .int least] := x_cap (by simp [lim])
  have e1' : forGo (tName 7) b__law_led_on_1 (rangeL 0 r) [some (L cells, false), some (L ps, false), some (.int g, false), some (.int t, false), some (.int r, false), some (L ps, true), some (.int t, false), none, none, none, none, none, none] = _ := e1
  simp only [r__law_led_on, b__law_led_on, x_seq, x_own, x_fBi, x_gCons, x_gNil, fVar, List.getElem?_cons_succ, List.getElem?_cons_zero, R.bind_ok, x_listL, List.set_cons_succ, List.set_cons_zero, x_set, x_for, x_gR1, r1, e1', x_frz, x_frz1, x_frz0, hfr, x_ret, x_fL, x_fLst, c2, x_end_rt]
/-! ### law -/
theorem Pd.scale {ps : List Int} {g t c : Int} (h : Pd ps g t) (hc : 0 < c) (hb : ∀ p ∈ ps, c * p ≤ 10 ^ 18) : Pd (ps.map (c * ·)) (c * g) (c * t) := by
  have mm : ∀ x, x ∈ ps.map (c * ·) ↔ ∃ y, y ∈ ps ∧ x = c * y := fun x => by
    rw [List.mem_map]
    exact ⟨fun ⟨y, a, b⟩ => ⟨y, a, b.symm⟩, fun ⟨y, a, b⟩ => ⟨y, a, b.symm⟩⟩
  refine ⟨fun e => h.ne (List.map_eq_nil_iff.mp e), by rw [List.length_map]; exact h.few, fun p hp => ?_, ⟨Int.mul_pos hc h.gc.pos, fun d => ?_⟩, (TH.scale hc h.th).congr fun x => (mm x).symm⟩
  · obtain ⟨y, hy, rfl⟩ := (mm p).mp hp
    have := h.bd y hy
    have := Int.mul_pos hc (show 0 < y by omega)
    exact ⟨by omega, hb y hy⟩
  · constructor
    · intro k
      have e : gcdL (ps.map (c * ·)) = c * g := by
        have key : ∀ (l : List Int) (a : Int), (l.map (c * ·)).foldl (fun d n => ((Nat.gcd d.natAbs n.natAbs : Nat) : Int)) (c * a) = c * l.foldl (fun d n => ((Nat.gcd d.natAbs n.natAbs : Nat) : Int)) a := fun l => by
          induction l with
          | nil => intro a; rfl
          | cons x l ih =>
            intro a
            rw [List.map_cons, List.foldl_cons, List.foldl_cons]
            have : ((Nat.gcd (c * a).natAbs (c * x).natAbs : Nat) : Int) = c * ((Nat.gcd a.natAbs x.natAbs : Nat) : Int) := by
              rw [Int.natAbs_mul, Int.natAbs_mul, Nat.gcd_mul_left, Int.natCast_mul]
              congr 1
              omega
            rw [this, ih]
        have := key ps 0
        rw [Int.mul_zero] at this
        rw [← h.gcd]
        exact this
      rw [← e]
      exact (gcdL_dvd d _ 0).mpr ⟨Int.dvd_zero d, k⟩
    · intro k q hq
      obtain ⟨y, hy, rfl⟩ := (mm q).mp hq
      exact Int.dvd_trans k (Int.mul_dvd_mul_left c (h.gc.dv hy))
end K36
set_option maxHeartbeats 4000000
namespace K36
open PySem L2 Pc Th
theorem main_step {ns cells plan near : List Int} {lim0 : Int} (hne : near ≠ []) (hl : near.length ≤ 4) (hb : ∀ p ∈ near, 1 ≤ p ∧ p ≤ 14) : ∃ x y,
    forGo (tName 6) b_law_1 (rangeL 2 (minL near + 1)) [some (.scr ns, false), some (L cells, false), some (L plan, false), some (.int lim0, false), some (L near, false), some (.int 1, false), none, none, none, none, none, none, none, none, none, none, none, none]
      = .ok (.nx [some (.scr ns, false), some (L cells, false), some (L plan, false), some (.int lim0, false), some (L near, false), some (.int (gcdL near), false), x, none, none, none, none, none, none, none, none, none, none, y]) := by
  have gc := gcdL_gc hne (fun q hq => by have := hb q hq; omega)
  have mm := minL_mem hne
  have m1 := hb _ mm
  have gm : gcdL near ≤ minL near := Int.le_of_dvd (by omega) (gc.dv mm)
  obtain ⟨ρ', e1, x, y, s, hρ, s1, s2, s3⟩ := for_name (i := 6) (body := b_law_1) (ds := rangeL 2 (minL near + 1)) (ρ := [some (.scr ns, false), some (L cells, false), some (L plan, false), some (.int lim0, false), some (L near, false), some (.int 1, false), none, none, none, none, none, none, none, none, none, none, none, none])
    (fun j ρ => ∃ x y s, ρ = [some (.scr ns, false), some (L cells, false), some (L plan, false), some (.int lim0, false), some (L near, false), some (.int s, false), x, none, none, none, none, none, none, none, none, none, none, y] ∧ 1 ≤ s ∧ s ∣ gcdL near ∧ ∀ d : Int, 1 ≤ d → d ≤ (j : Int) + 1 → d ∣ gcdL near → d ≤ s)
    ⟨none, none, 1, rfl, by decide, Int.one_dvd _, fun d h1 h2 _ => by simp at h2; exact h2⟩ fun j dd ρ hj hρ => by
      obtain ⟨x, y, s, hρ, s1, s2, s3⟩ := hρ
      obtain ⟨rfl, hj'⟩ := rangeL_get hj
      subst hρ
      have md : ∀ p : Int, modD (.int p) (.int (2 + (j : Int))) = .ok (.int (p % (2 + (j : Int)))) := fun p => x_mod (by omega)
      have hc : fLc [17] (gIt (fVar 4)) (tName 17) (gYes) (f2 eqD (f2 modD (fBi intD (gCons (fVar 17) (gNil))) (fVar 6)) (fC (.int 0))) [some (.scr ns, false), some (L cells, false), some (L plan, false), some (.int lim0, false), some (L near, false), some (.int s, false), some (.int (2 + (j : Int)), false), none, none, none, none, none, none, none, none, none, none, y]
          = .ok ((near.map fun p => decide (p % (2 + (j : Int)) = 0)).map D.bl) := by
        rw [List.map_map]
        refine lc_all (inj := D.int) (D.bl ∘ fun p => decide (p % (2 + (j : Int)) = 0)) (by simp [fVar]) (by simp only [lim]; omega) fun p _ => ⟨_, rfl, ?_⟩
        simp [fVar, wipeE, md]
      have ha : allD [.lst ((near.map fun p => decide (p % (2 + (j : Int)) = 0)).map D.bl)] = .ok (.bl ((near.map fun p => decide (p % (2 + (j : Int)) = 0)).all id)) := x_all
      have hall : (near.map fun p => decide (p % (2 + (j : Int)) = 0)).all id = true ↔ 2 + (j : Int) ∣ gcdL near := by
        rw [← gc.iff, List.all_map, List.all_eq_true]
        exact ⟨fun k q hq => dvd_mod.mpr (of_decide_eq_true (k q hq)), fun k q hq => decide_eq_true (dvd_mod.mp (k q hq))⟩
      by_cases c : 2 + (j : Int) ∣ gcdL near
      · have hc1 := hall.mpr c
        exact ⟨[some (.scr ns, false), some (L cells, false), some (L plan, false), some (.int lim0, false), some (L near, false), some (.int (2 + (j : Int)), false), some (.int (2 + (j : Int)), false), none, none, none, none, none, none, none, none, none, none, y], by
          simp only [b_law_1, x_if, x_fTru, x_fBi, x_gCons, x_gNil, x_fL, List.set_cons_succ, List.set_cons_zero, hc, R.bind_ok, ha, x_truB, hc1, if_true, x_set, fVar, List.getElem?_cons_succ, List.getElem?_cons_zero], _, y, 2 + (j : Int), rfl, by omega, c, fun d h1 h2 _ => by omega⟩
      · have hc1 : (near.map fun p => decide (p % (2 + (j : Int)) = 0)).all id = false := by rw [← Bool.not_eq_true]; exact fun k => c (hall.mp k)
        refine ⟨[some (.scr ns, false), some (L cells, false), some (L plan, false), some (.int lim0, false), some (L near, false), some (.int s, false), some (.int (2 + (j : Int)), false), none, none, none, none, none, none, none, none, none, none, y], by
          simp only [b_law_1, x_if, x_fTru, x_fBi, x_gCons, x_gNil, x_fL, List.set_cons_succ, List.set_cons_zero, hc, R.bind_ok, ha, x_truB, hc1, Bool.false_eq_true, if_false, x_nx], _, y, s, rfl, s1, s2, fun d h1 h2 h3 => ?_⟩
        by_cases e : d = 2 + (j : Int)
        · subst e; exact absurd h3 c
        · exact s3 d h1 (by omega) h3
  subst hρ
  rw [rangeL_len] at s3
  have hs : s = gcdL near := by
    have a := s3 (gcdL near) (by have := gc.pos; omega) (by omega) (Int.dvd_refl _)
    have b := Int.le_of_dvd gc.pos s2
    omega
  subst hs
  exact ⟨x, y, e1⟩
theorem main : ∀ ns : List Int, ns.length ≤ 63 → g_law [.scr ns] = .ok (.bl true) := by
  intro ns _
  obtain ⟨cells, hcells⟩ : ∃ cells, cells = cutL ns none (some 63) := ⟨_, rfl⟩
  -- the plan
  obtain ⟨row, dp, hrow⟩ := dig_ok (cells := cells) (place := 0) (sizes := [8, 4, 4, 4]) (by decide) (by decide) (by simp) (by simp)
  obtain ⟨p0, p1, p2, p3, rfl, a0, b0, a1, b1, a2, b2, a3, b3⟩ : ∃ r0 r1 r2 r3 : Int, row = [r0, r1, r2, r3] ∧ 0 ≤ r0 ∧ r0 < 8 ∧ 0 ≤ r1 ∧ r1 < 4 ∧ 0 ≤ r2 ∧ r2 < 4 ∧ 0 ≤ r3 ∧ r3 < 4 := by
    cases hrow with | cons a0 b0 hrow => cases hrow with | cons a1 b1 hrow => cases hrow with | cons a2 b2 hrow => cases hrow with | cons a3 b3 hrow => cases hrow with | nil =>
    exact ⟨_, _, _, _, rfl, a0, b0, a1, b1, a2, b2, a3, b3⟩
  have c4 : cap lim [D.int 8, .int 4, .int 4, .int 4] = .ok [D.int 8, .int 4, .int 4, .int 4] := x_cap (by simp [lim])
  have dp' : g__law_dig [L cells, .int 0, .lst [D.int 8, .int 4, .int 4, .int 4]] = .ok (L [p0, p1, p2, p3]) := dp
  -- the numbers
  obtain ⟨lim0, hl0, hlim⟩ : ∃ l : Int, (l = 9 ∨ l = 14) ∧ l = if p0 = 5 then 14 else 9 := ⟨_, by split <;> simp, rfl⟩
  have : ∀ k : Int, ∃ r : Int, 0 ≤ k → k < 10 → g__law_dig [L cells, .int (1 + k), .lst [.int lim0]] = .ok (L [r]) ∧ 0 ≤ r ∧ r < lim0 := fun k => by
    by_cases c : 0 ≤ k ∧ k < 10
    · obtain ⟨row, d1, hrow⟩ := dig_ok (cells := cells) (place := 1 + k) (sizes := [lim0]) (by omega) (by omega) (by simp; omega) (by simp)
      cases hrow with | cons a b h => cases h with | nil => exact ⟨_, fun _ _ => ⟨d1, a, b⟩⟩
    · exact ⟨0, fun h1 h2 => absurd ⟨h1, h2⟩ c⟩
  obtain ⟨f, hf⟩ := Classical.axiomOfChoice this
  obtain ⟨near, hnear⟩ : ∃ near : List Int, near = ((List.range (1 + p1 - 0).toNat).map fun (i : Nat) => (0 : Int) + (i : Int)).map fun k => 1 + f k := ⟨_, rfl⟩
  have hnl : near.length = (1 + p1).toNat := by rw [hnear]; simp
  have hnb : ∀ p ∈ near, 1 ≤ p ∧ p ≤ 14 := fun p hp => by
    rw [hnear] at hp
    obtain ⟨k, hk, rfl⟩ := List.mem_map.mp hp
    obtain ⟨i, hi, rfl⟩ := List.mem_map.mp hk
    have := List.mem_range.mp hi
    have := hf (0 + (i : Int)) (by omega) (by omega)
    omega
  have hnn : near ≠ [] := fun e => by rw [e] at hnl; simp at hnl; omega
  have hcn : fLc [16] (gR1 (gCons (f2 addD (fC (.int 1)) (f2 ixD (fVar 2) (fC (.int 1)))) (gNil))) (tName 16) (gYes) (f2 addD (fC (.int 1)) (f2 ixD (fCall 3 g__law_dig (gCons (fVar 1) (gCons (f2 addD (fC (.int 1)) (fVar 16)) (gCons (fL (fLst (gCons (fVar 3) (gNil)))) (gNil))))) (fC (.int 0)))) [some (.scr ns, false), some (L cells, false), some (L [p0, p1, p2, p3], false), some (.int lim0, false), none, none, none, none, none, none, none, none, none, none, none, none, none, none] = .ok (near.map D.int) := by
    rw [hnear, List.map_map]
    have r1 : rng1 [.int (1 + p1)] = .ok (rangeL 0 (1 + p1)) := x_rng1 (by omega)
    refine lc_all (inj := D.int) (D.int ∘ fun k => 1 + f k) (by simp only [x_gR1, x_gCons, x_gNil, x_f2, x_fC, fVar, List.getElem?_cons_succ, List.getElem?_cons_zero, R.bind_ok, ix1, x_add, r1, rangeL_eq]) (by rw [List.length_map, List.length_range]; simp only [lim]; omega) fun k hk => ⟨_, rfl, ?_⟩
    obtain ⟨i, hi, rfl⟩ := List.mem_map.mp hk
    have := List.mem_range.mp hi
    have e1 := (hf (0 + (i : Int)) (by omega) (by omega)).1
    have c1 : cap lim [D.int lim0] = .ok [.int lim0] := x_cap (by simp [lim])
    simp only [x_f2, x_fC, x_fCall, x_gCons, x_gNil, x_fL, x_fLst, fVar, wipeE, List.set_cons_succ, List.set_cons_zero, List.getElem?_cons_succ, List.getElem?_cons_zero, R.bind_ok, x_add, c1, List.length_cons, List.length_nil, if_true, e1, ix0, Function.comp]
  -- the divisor and the threshold
  obtain ⟨t, _, th⟩ := threshold_of_ok hnn (by omega) fun p hp => by have := hnb p hp; omega
  have P : Pd near (gcdL near) t := ⟨hnn, by omega, fun p hp => by have := hnb p hp; omega, gcdL_gc hnn fun q hq => by have := hnb q hq; omega, th⟩
  obtain ⟨x5, x17, hstep⟩ := main_step (ns := ns) (cells := cells) (plan := [p0, p1, p2, p3]) (lim0 := lim0) hnn (by omega) hnb
  have mn : minD [L near] = .ok (.int (minL near)) := x_min hnn
  have mnb := hnb _ (minL_mem hnn)
  have r2 : rng2 [.int 2, .int (minL near + 1)] = .ok (rangeL 2 (minL near + 1)) := x_rng2 (by omega)
  have hN := near_ok P fun p hp => (hnb p hp).2
  -- the scale
  obtain ⟨row, db, hrow⟩ := dig_ok (cells := cells) (place := 5) (sizes := [9, 100000000, 100000000]) (by decide) (by decide) (by simp) (by simp)
  obtain ⟨q0, q1, q2, rfl, d0, e0, d1, e1, d2, e2⟩ : ∃ r0 r1 r2 : Int, row = [r0, r1, r2] ∧ 0 ≤ r0 ∧ r0 < 9 ∧ 0 ≤ r1 ∧ r1 < 100000000 ∧ 0 ≤ r2 ∧ r2 < 100000000 := by
    cases hrow with | cons a0 b0 hrow => cases hrow with | cons a1 b1 hrow => cases hrow with | cons a2 b2 hrow => cases hrow with | nil =>
    exact ⟨_, _, _, rfl, a0, b0, a1, b1, a2, b2⟩
  have c3 : cap lim [D.int 9, .int 100000000, .int 100000000] = .ok [D.int 9, .int 100000000, .int 100000000] := x_cap (by simp [lim])
  have db' : g__law_dig [L cells, .int 5, .lst [D.int 9, .int 100000000, .int 100000000]] = .ok (L [q0, q1, q2]) := db
  have mq : mulD (.int q1) (.int 100000000) = .ok (.int (q1 * 100000000)) := mul64 (by omega) (by omega)
  have c4' : cap lim [D.int 1, .int (1 + q0), .int (1 + q1), .int (1 + q1 * 100000000 + q2)] = .ok [D.int 1, .int (1 + q0), .int (1 + q1), .int (1 + q1 * 100000000 + q2)] := x_cap (by simp [lim])
  obtain ⟨m, hm, m1, m2⟩ : ∃ m : Int, ixD (.lst [D.int 1, .int (1 + q0), .int (1 + q1), .int (1 + q1 * 100000000 + q2)]) (.int p2) = .ok (.int m) ∧ 1 ≤ m ∧ m ≤ 10000000000000000 := by
    rcases (by omega : p2 = 0 ∨ p2 = 1 ∨ p2 = 2 ∨ p2 = 3) with e | e | e | e
    all_goals subst e
    · exact ⟨_, ix0 (xs := [1 + q0, 1 + q1, 1 + q1 * 100000000 + q2]), by omega, by omega⟩
    · exact ⟨_, ix1 (a := 1) (xs := [1 + q1, 1 + q1 * 100000000 + q2]), by omega, by omega⟩
    · exact ⟨_, ix2 (a := 1) (b := 1 + q0) (xs := [1 + q1 * 100000000 + q2]), by omega, by omega⟩
    · exact ⟨_, ix3 (a := 1) (b := 1 + q0) (c := 1 + q1) (xs := []), by omega, by omega⟩
  have PS := P.scale (c := m) (by omega) fun p hp => by
    have := hnb p hp
    have := Int.mul_le_mul (show m ≤ 10000000000000000 by omega) (show p ≤ 14 by omega) (by omega) (by omega)
    omega
  have mm : ∀ z : Int, 0 ≤ z → z ≤ 2 * 10 ^ 18 → mulD (.int m) (.int z) = .ok (.int (m * z)) := fun z h1 h2 => mul64 (by omega) (by omega)
  have hcp : fLc [17] (gIt (fVar 4)) (tName 17) (gYes) (f2 mulD (fVar 8) (fVar 17)) [some (.scr ns, false), some (L cells, false), some (L [p0, p1, p2, p3], false), some (.int lim0, false), some (L near, false), some (.int (gcdL near), false), x5, some (L [q0, q1, q2], false), some (.int m, false), none, none, none, none, none, none, none, none, x17] = .ok ((near.map (m * ·)).map D.int) := by
    rw [List.map_map]
    refine lc_all (inj := D.int) (D.int ∘ (m * ·)) (by simp [fVar]) (by simp only [lim]; omega) fun p hp => ⟨_, rfl, ?_⟩
    have := hnb p hp
    have := mm p (by omega) (by omega)
    simp [fVar, wipeE, this]
  have mg := mm (gcdL near) (by have := P.gc.pos; omega) (by have := P.g18; omega)
  have mt := mm t P.t0 P.t18
  have O1 := orders_ok (cells := cells) (place := 6) PS (by rw [List.length_map]; omega) (by decide) (by decide)
  obtain ⟨rows, least, hled, PL, hll⟩ := led_on_ok (cells := cells) (r := p3) PS (by omega) (by omega)
  have O2 := orders_ok (cells := cells) (place := 7) PL (by rw [hll, List.length_map]; omega) (by decide) (by decide)
  -- the pair
  obtain ⟨row, dr, hrow⟩ := dig_ok (cells := cells) (place := 11) (sizes := [6, 1000000000, 1000000000, 1000000000, 1000000000, 9]) (by decide) (by decide) (by simp) (by simp)
  obtain ⟨a, b, htw, ha, hb⟩ := two_ok hrow
  have c6 : cap lim [D.int 6, .int 1000000000, .int 1000000000, .int 1000000000, .int 1000000000, .int 9] = .ok [D.int 6, .int 1000000000, .int 1000000000, .int 1000000000, .int 1000000000, .int 9] := x_cap (by simp [lim])
  have dr' : g__law_dig [L cells, .int 11, .lst [D.int 6, .int 1000000000, .int 1000000000, .int 1000000000, .int 1000000000, .int 9]] = .ok (L row) := dr
  have hgcd := law_gcd_ok (a := a) (b := b) (by omega) (by omega) hb.2
  have hmin : minD [L [a, b]] = .ok (.int (minL [a, b])) := x_min (by simp)
  have PP : Pd [a, b] (Int.gcd a b) (if (Int.gcd a b : Int) = minL [a, b] then 0 else a + b - Int.gcd a b) := by
    have g0 : 0 < (Int.gcd a b : Int) := by
      have := Int.gcd_pos_of_ne_zero_left b (show a ≠ 0 by omega)
      omega
    have ga : (Int.gcd a b : Int) ≤ a := Int.le_of_dvd (by omega) (Int.gcd_dvd_left _ _)
    have gb : (Int.gcd a b : Int) ≤ b := Int.le_of_dvd (by omega) (Int.gcd_dvd_right _ _)
    have hmm : (Int.gcd a b : Int) = minL [a, b] ↔ (Int.gcd a b : Int) = a ∨ (Int.gcd a b : Int) = b := by
      have h1 := minL_mem (ns := [a, b]) (by simp)
      have h2 := minL_le (ns := [a, b]) (y := a) (by simp)
      have h3 := minL_le (ns := [a, b]) (y := b) (by simp)
      simp only [List.mem_cons, List.not_mem_nil, or_false] at h1
      omega
    have tp := TH.pair g0 (a + b).toNat a b (by omega) (by omega) (by omega) rfl
    have e : (if (Int.gcd a b : Int) = minL [a, b] then (0 : Int) else a + b - Int.gcd a b) = if (Int.gcd a b : Int) = a ∨ (Int.gcd a b : Int) = b then 0 else a + b - Int.gcd a b := by
      by_cases c : (Int.gcd a b : Int) = minL [a, b]
      · rw [if_pos c, if_pos (hmm.mp c)]
      · rw [if_neg c, if_neg fun k => c (hmm.mpr k)]
    rw [e]
    refine ⟨by simp, by simp, fun p hp => ?_, ⟨g0, fun d => ?_⟩, tp.congr fun x => by simp⟩
    · simp only [List.mem_cons, List.not_mem_nil, or_false] at hp
      rcases hp with rfl | rfl
      · exact ha
      · exact hb
    · rw [Int.dvd_coe_gcd_iff]
      simp
  have O3 := orders_ok (cells := cells) (place := 12) PP (by simp) (by decide) (by decide)
  have A := asked_ok (far := 7) PS
  have c9 : ∀ u v : D, ixD (.lst [u, v]) (.int 0) = .ok u := fun u v => x_ix (atI_nat (j := 0) rfl)
  have c8 : ∀ u v : D, ixD (.lst [u, v]) (.int 1) = .ok v := fun u v => x_ix (atI_nat (j := 1) rfl)
  have hsl : slL (.scr ns) none (some 63) = .ok (cells.map D.int) := by rw [hcells]; rfl
  -- the limit
  have hL : (sIf (fB (f2 eqD (f2 ixD (fVar 2) (fC (.int 0))) (fC (.int 5)))) (sSet 3 (fC (.int 14))) sNx) [some (.scr ns, false), some (L cells, false), some (L [p0, p1, p2, p3], false), some (.int 9, false), none, none, none, none, none, none, none, none, none, none, none, none, none, none]
      = .ok (.nx [some (.scr ns, false), some (L cells, false), some (L [p0, p1, p2, p3], false), some (.int lim0, false), none, none, none, none, none, none, none, none, none, none, none, none, none, none]) := by
    rw [hlim]
    by_cases c : p0 = 5
    · have hc : decide (p0 = 5) = true := decide_eq_true c
      rw [if_pos c]
      simp only [x_if, x_fB, x_f2, x_fC, fVar, List.getElem?_cons_succ, List.getElem?_cons_zero, R.bind_ok, ix0, x_eq, x_toB, hc, if_true, x_set, List.set_cons_succ, List.set_cons_zero]
    · rw [if_neg c]
      simp only [x_if, x_fB, x_f2, x_fC, fVar, List.getElem?_cons_succ, List.getElem?_cons_zero, R.bind_ok, ix0, x_eq, x_toB, c, decide_false, Bool.false_eq_true, if_false, x_nx]
  -- the total
  obtain ⟨tot, htot⟩ : ∃ tot : Int, tot = if (Int.gcd a b : Int) = minL [a, b] then 0 else a + b - Int.gcd a b := ⟨_, rfl⟩
  rw [← htot] at O3
  have hT : (sIf (fB (f2 eqD (fVar 14) (fBi minD (gCons (fVar 13) (gNil))))) (sSet 15 (fC (.int 0))) sNx) [some (.scr ns, false), some (L cells, false), some (L [p0, p1, p2, p3], false), some (.int lim0, false), some (L near, false), some (.int (gcdL near), false), x5, some (L [q0, q1, q2], false), some (.int m, false), some (L (near.map (m * ·)), false), some (.int (m * gcdL near), false), some (.int (m * t), false), some (.lst [L rows, .int least], false), some (L [a, b], false), some (.int (Int.gcd a b), false), some (.int (a + b - Int.gcd a b), false), none, x17]
      = .ok (.nx [some (.scr ns, false), some (L cells, false), some (L [p0, p1, p2, p3], false), some (.int lim0, false), some (L near, false), some (.int (gcdL near), false), x5, some (L [q0, q1, q2], false), some (.int m, false), some (L (near.map (m * ·)), false), some (.int (m * gcdL near), false), some (.int (m * t), false), some (.lst [L rows, .int least], false), some (L [a, b], false), some (.int (Int.gcd a b), false), some (.int tot, false), none, x17]) := by
    rw [htot]
    by_cases c : (Int.gcd a b : Int) = minL [a, b]
    · have hc : decide ((Int.gcd a b : Int) = minL [a, b]) = true := decide_eq_true c
      rw [if_pos c]
      simp only [x_if, x_fB, x_f2, x_fBi, x_gCons, x_gNil, x_fC, fVar, List.getElem?_cons_succ, List.getElem?_cons_zero, R.bind_ok, hmin, x_eq, x_toB, hc, if_true, x_set, List.set_cons_succ, List.set_cons_zero]
    · rw [if_neg c]
      simp only [x_if, x_fB, x_f2, x_fBi, x_gCons, x_gNil, x_fC, fVar, List.getElem?_cons_succ, List.getElem?_cons_zero, R.bind_ok, hmin, x_eq, x_toB, c, decide_false, Bool.false_eq_true, if_false, x_nx]
  simp -implicitDefEqProofs only [r_law, b_law, x_seq, x_set, x_setL, x_fL, x_fSl, x_gNo, x_gSo, x_fCall, x_f2, x_fLst, x_gCons, x_gNil, x_fC, fVar, List.getElem?_cons_succ, List.getElem?_cons_zero, List.set_cons_succ, List.set_cons_zero, R.bind_ok, hsl, c4, List.length_cons, List.length_nil, if_true, dp', hL, hcn, x_for, x_gR2, x_fBi, mn, x_add, r2, hstep, p8, p9, c3, db', ix0, ix1, ix2, ix3, mq, c4', hm, hcp, mg, hN, mt, x_if (c := gNot _), x_gNot, x_fTru, O1, x_truB, Bool.not_true, Bool.false_eq_true, if_false, x_nx, hled, c9, c8, O2, c6, dr', htw, hgcd, x_sub, hT, O3, A, x_ret, x_end_rt]
end K36
set_option maxHeartbeats 8000000
namespace K36
open PySem L2 Pc
theorem sc__law_dig : FnScope n__law_dig ["cells", "place", "sizes"] (defScope s__law_dig) := ⟨rfl, rfl, rfl, by decide +kernel, rfl, by decide +kernel, by decide +kernel⟩
section
variable {P : Program} {w : World} {K : PySem.W.Frag} {mg : Str → Option Value} {base : Heap}
theorem d__law_dig {f : Addr} {fd : FuncData} (T : Txt mg) (F : Fun K "_law_dig" "_law_dig" s__law_dig f fd) (hm : mg "_law_dig" = some (.ref f)) (hb : Binds K fd ["cells", "place", "sizes"] [])  :
    Def P w K mg base "_law_dig" 1 3 g__law_dig := fn_def F sc__law_dig hm hb fun cdv A outer s H E b =>
    (rss_cons (rs_set (i := 3) sc__law_dig.nd rfl (by first | exact Or.inl rfl | exact Or.inr rfl) re_int)
    (rss_cons (rs_if (rt_cmp or_lt od_lt (RE.b (re_var 1)) (RE.b (re_bi c_len d_len (by rfl) T.b_len PySem.boot_len (rab_cons (RE.b (re_var 0)) rab_nil))) (nomark _)) (rss_one (rs_set (i := 3) sc__law_dig.nd rfl (by first | exact Or.inl rfl | exact Or.inr rfl) (re_ix (RE.b (re_var 0)) (RE.b (re_var 1)) (fun _ _ => rfl)))) rss_nil)
    (rss_cons (rs_set (i := 4) sc__law_dig.nd rfl (by first | exact Or.inl rfl | exact Or.inr rfl) (re_bi call_abs d_abs (by rfl) T.b_abs PyProof.Rows.boot_abs (rab_cons (RE.b (re_var 3)) rab_nil)))
    (rss_cons (rs_own (i := 5) sc__law_dig.nd rfl (by first | exact Or.inl rfl | exact Or.inr rfl) (rf_lst ra_nil))
    (rss_cons (rs_for (fb := b__law_dig_1) b.hp b.q.hc (ri_range1 (by rfl) T.b_range (ra_cons (re_bi c_len d_len (by rfl) T.b_len PySem.boot_len (rab_cons (RE.b (re_var 2)) rab_nil)) ra_nil)) (rg_name sc__law_dig.nd rfl (by first | exact Or.inl rfl | exact Or.inr rfl)) (rss_cons (rs_if (rt_cmp or_lt od_lt (RE.b (re_bi call_abs d_abs (by rfl) T.b_abs PyProof.Rows.boot_abs (rab_cons (RE.b (re_var 3)) rab_nil))) (RE.b (re_op op_pow od_pow (RE.b re_int) (RE.b re_int))) (nomark _)) (rss_cons (rs_set (i := 7) sc__law_dig.nd rfl (by first | exact Or.inl rfl | exact Or.inr rfl) (re_op op_mod od_mod (RE.b (re_ty call_int1 d_int (by rfl) T.b_int PyProof.Rows.boot_int (rab_cons (RE.b (re_op or_add od_add (RE.b (re_op or_add od_add (RE.b (re_op or_add od_add (RE.b (re_op op_mulW od_mul (RE.b (re_var 3)) (RE.b re_int))) (RE.b (re_op op_mulW od_mul (RE.b (re_var 1)) (RE.b re_int))))) (RE.b (re_op op_mulW od_mul (RE.b (re_var 6)) (RE.b re_int))))) (RE.b re_int))) rab_nil))) (RE.b re_int)))
    (rss_one (rs_set (i := 4) sc__law_dig.nd rfl (by first | exact Or.inl rfl | exact Or.inr rfl) (re_op op_fdivW od_fdiv (RE.b (re_op op_mod od_mod (RE.b (re_ty call_int1 d_int (by rfl) T.b_int PyProof.Rows.boot_int (rab_cons (RE.b (re_op or_add od_add (RE.b (re_op or_add od_add (RE.b (re_op op_mulW od_mul (RE.b (re_var 7)) (RE.b (re_var 7)))) (RE.b (re_op op_mulW od_mul (RE.b (re_var 6)) (RE.b re_int))))) (RE.b (re_var 1)))) rab_nil))) (RE.b re_int))) (RE.b re_int))))) rss_nil)
    (rss_cons (rs_app (i := 5) rfl (by first | exact Or.inl rfl | exact Or.inr (Or.inl rfl)) (re_op op_mod od_mod (RE.b (re_ty call_int1 d_int (by rfl) T.b_int PyProof.Rows.boot_int (rab_cons (RE.b (re_var 4)) rab_nil))) (RE.b (re_ix (RE.b (re_var 2)) (RE.b (re_var 6)) (fun _ _ => rfl)))))
    (rss_one (rs_set (i := 4) sc__law_dig.nd rfl (by first | exact Or.inl rfl | exact Or.inr rfl) (re_op op_fdivW od_fdiv (RE.b (re_var 4)) (RE.b (re_ix (RE.b (re_var 2)) (RE.b (re_var 6)) (fun _ _ => rfl)))))))))
    (rss_one (rs_frz [5] (rs_ret (re_var 5)))))))))
end
theorem sc__law_led_on : FnScope n__law_led_on ["cells", "periods", "unit", "due", "rounds"] (defScope s__law_led_on) := ⟨rfl, rfl, rfl, by decide +kernel, rfl, by decide +kernel, by decide +kernel⟩
section
variable {P : Program} {w : World} {K : PySem.W.Frag} {mg : Str → Option Value} {base : Heap}
theorem d__law_led_on {f : Addr} {fd : FuncData} (T : Txt mg) (F : Fun K "_law_led_on" "_law_led_on" s__law_led_on f fd) (hm : mg "_law_led_on" = some (.ref f)) (hb : Binds K fd ["cells", "periods", "unit", "due", "rounds"] []) (D__law_dig : Def P w K mg base "_law_dig" 1 3 g__law_dig) :
    Def P w K mg base "_law_led_on" 2 5 g__law_led_on := fn_def F sc__law_led_on hm hb fun cdv A outer s H E b =>
    (rss_cons (rs_own (i := 5) sc__law_led_on.nd rfl (by first | exact Or.inl rfl | exact Or.inr rfl) (rf_ty call_list_of d_list (by rfl) T.b_list PyProof.Rows.boot_list (rab_cons (RE.b (re_var 1)) rab_nil)))
    (rss_cons (rs_set (i := 6) sc__law_led_on.nd rfl (by first | exact Or.inl rfl | exact Or.inr rfl) (re_var 3))
    (rss_cons (rs_for (fb := b__law_led_on_1) b.hp b.q.hc (ri_range1 (by rfl) T.b_range (ra_cons (re_var 4) ra_nil)) (rg_name sc__law_led_on.nd rfl (by first | exact Or.inl rfl | exact Or.inr rfl)) (rss_cons (rs_set (i := 8) sc__law_led_on.nd rfl (by first | exact Or.inl rfl | exact Or.inr rfl) (re_call D__law_dig b.q (by decide) (by rfl) (ra_cons (re_var 0) (ra_cons (re_op or_add od_add (RE.b re_int) (RE.b (re_var 7))) (ra_cons (rfe (rf_lst (ra_cons (re_bi c_len d_len (by rfl) T.b_len PySem.boot_len (rab_cons (rb_var 5) rab_nil)) (ra_cons re_int (ra_cons (re_op op_pow od_pow (RE.b re_int) (RE.b re_int)) (ra_cons (re_op op_pow od_pow (RE.b re_int) (RE.b re_int)) ra_nil)))))) ra_nil)))))
    (rss_cons (rs_set (i := 9) sc__law_led_on.nd rfl (by first | exact Or.inl rfl | exact Or.inr rfl) (re_ix (rb_var 5) (RE.b (re_ix (RE.b (re_var 8)) (RE.b re_int) (fun _ _ => rfl))) (fun _ _ => rfl)))
    (rss_cons (rs_set (i := 10) sc__law_led_on.nd rfl (by first | exact Or.inl rfl | exact Or.inr rfl) (re_op op_fdivW od_fdiv (RE.b (re_op op_sub od_sub (RE.b (re_op op_pow od_pow (RE.b re_int) (RE.b re_int))) (RE.b (re_bi (c_max b.q.hc) d_max (by rfl) T.b_max PyProof.Rows.boot_max (rab_cons (rb_var 5) rab_nil))))) (RE.b (re_var 9))))
    (rss_one (rs_if (rt_cmp op_gt od_gt (RE.b (re_var 10)) (RE.b re_int) (nomark _)) (rss_cons (rs_set (i := 11) sc__law_led_on.nd rfl (by first | exact Or.inl rfl | exact Or.inr rfl) (re_op or_add od_add (RE.b re_int) (RE.b (re_op op_mod od_mod (RE.b (re_op or_add od_add (RE.b (re_op op_mulW od_mul (RE.b (re_ix (RE.b (re_var 8)) (RE.b re_int) (fun _ _ => rfl))) (RE.b (re_op op_pow od_pow (RE.b re_int) (RE.b re_int))))) (RE.b (re_ix (RE.b (re_var 8)) (RE.b re_int) (fun _ _ => rfl))))) (RE.b (re_var 10))))))
    (rss_cons (rs_if (rt_cmp (or_eq b.q.hu) od_eq (RE.b (re_ix (RE.b (re_var 8)) (RE.b re_int) (fun _ _ => rfl))) (RE.b re_int) (nomark _)) (rss_one (rs_set (i := 11) sc__law_led_on.nd rfl (by first | exact Or.inl rfl | exact Or.inr rfl) (re_op or_add od_add (RE.b re_int) (RE.b (re_op op_mod od_mod (RE.b (re_ix (RE.b (re_var 8)) (RE.b re_int) (fun _ _ => rfl))) (RE.b (re_bi (c_min b.q.hc) d_min (by rfl) T.b_min PyProof.Rows.boot_min (rab_cons (RE.b (re_var 10)) (rab_cons (RE.b re_int) rab_nil))))))))) rss_nil)
    (rss_cons (rs_frz [5] (rs_lcOwn (i := 5) b.q.hc sc__law_led_on.nd rfl rfl (sw_true rfl rfl rfl (by decide +kernel)) (ri_e (re_var 5)) (own := [("number", 12)]) (blkOk_by (N := n__law_led_on) (sc := defScope s__law_led_on) (by decide +kernel)) (fun s H C cl fp => (rg_name sc__law_led_on.nd rfl (by first | exact Or.inl rfl | exact Or.inr rfl))) (fun s H C cl fp => rp_nil) (fun s H C cl fp => (re_op or_add od_add (RE.b (re_var 12)) (RE.b (re_op op_mulW od_mul (RE.b (re_var 11)) (RE.b (re_var 9)))))) (by decide)))
    (rss_cons (rs_put (j := 5) rfl (by first | exact Or.inl rfl | exact Or.inr (Or.inl rfl)) (re_var 9) (RE.b (re_ix (RE.b (re_var 8)) (RE.b re_int) (fun _ _ => rfl))))
    (rss_one (rs_if (rt_cmp (or_eq b.q.hu) od_eq (RE.b (re_var 9)) (RE.b (re_var 2)) (nomark _)) (rss_one (rs_set (i := 6) sc__law_led_on.nd rfl (by first | exact Or.inl rfl | exact Or.inr rfl) re_int)) (rss_one (rs_set (i := 6) sc__law_led_on.nd rfl (by first | exact Or.inl rfl | exact Or.inr rfl) (re_op or_add od_add (RE.b (re_op op_mulW od_mul (RE.b (re_var 11)) (RE.b (re_var 9)))) (RE.b (re_bi (c_max b.q.hc) d_max (by rfl) T.b_max PyProof.Rows.boot_max (rab_cons (RE.b (re_var 9)) (rab_cons (RE.b (re_var 6)) rab_nil))))))))))))) rss_nil))))))
    (rss_one (rs_frz [5] (rs_ret (rfe (rf_lst (ra_cons (re_var 5) (ra_cons (re_var 6) ra_nil))))))))))
end
theorem sc__law_two : FnScope n__law_two ["row"] (defScope s__law_two) := ⟨rfl, rfl, rfl, by decide +kernel, rfl, by decide +kernel, by decide +kernel⟩
section
variable {P : Program} {w : World} {K : PySem.W.Frag} {mg : Str → Option Value} {base : Heap}
theorem d__law_two {f : Addr} {fd : FuncData} (T : Txt mg) (F : Fun K "_law_two" "_law_two" s__law_two f fd) (hm : mg "_law_two" = some (.ref f)) (hb : Binds K fd ["row"] [])  :
    Def P w K mg base "_law_two" 1 1 g__law_two := fn_def F sc__law_two hm hb fun cdv A outer s H E b =>
    (rss_cons (rs_set (i := 1) sc__law_two.nd rfl (by first | exact Or.inl rfl | exact Or.inr rfl) (re_op or_add od_add (RE.b (re_op or_add od_add (RE.b re_int) (RE.b (re_op op_mulW od_mul (RE.b (re_ix (RE.b (re_var 0)) (RE.b re_int) (fun _ _ => rfl))) (RE.b (re_op op_pow od_pow (RE.b re_int) (RE.b re_int))))))) (RE.b (re_ix (RE.b (re_var 0)) (RE.b re_int) (fun _ _ => rfl)))))
    (rss_cons (rs_set (i := 2) sc__law_two.nd rfl (by first | exact Or.inl rfl | exact Or.inr rfl) (re_op or_add od_add (RE.b (re_op or_add od_add (RE.b re_int) (RE.b (re_op op_mulW od_mul (RE.b (re_ix (RE.b (re_var 0)) (RE.b re_int) (fun _ _ => rfl))) (RE.b (re_op op_pow od_pow (RE.b re_int) (RE.b re_int))))))) (RE.b (re_ix (RE.b (re_var 0)) (RE.b re_int) (fun _ _ => rfl)))))
    (rss_cons (rs_if (rt_cmp (or_eq b.q.hu) od_eq (RE.b (re_ix (RE.b (re_var 0)) (RE.b re_int) (fun _ _ => rfl))) (RE.b re_int) (nomark _)) (rss_one (rs_set (i := 2) sc__law_two.nd rfl (by first | exact Or.inl rfl | exact Or.inr rfl) (re_op op_sub od_sub (RE.b (re_op op_sub od_sub (RE.b (re_var 1)) (RE.b re_int))) (RE.b (re_ix (RE.b (re_var 0)) (RE.b re_int) (fun _ _ => rfl)))))) rss_nil)
    (rss_cons (rs_if (rt_cmp (or_eq b.q.hu) od_eq (RE.b (re_ix (RE.b (re_var 0)) (RE.b re_int) (fun _ _ => rfl))) (RE.b re_int) (nomark _)) (rss_one (rs_set (i := 2) sc__law_two.nd rfl (by first | exact Or.inl rfl | exact Or.inr rfl) (re_op op_mulW od_mul (RE.b (re_var 1)) (RE.b (re_op or_add od_add (RE.b re_int) (RE.b (re_ix (RE.b (re_var 0)) (RE.b re_int) (fun _ _ => rfl)))))))) rss_nil)
    (rss_cons (rs_if (rt_cmp (or_eq b.q.hu) od_eq (RE.b (re_ix (RE.b (re_var 0)) (RE.b re_int) (fun _ _ => rfl))) (RE.b re_int) (nomark _)) (rss_cons (rs_set (i := 1) sc__law_two.nd rfl (by first | exact Or.inl rfl | exact Or.inr rfl) (re_op op_mulW od_mul (RE.b (re_op or_add od_add (RE.b re_int) (RE.b (re_ix (RE.b (re_var 0)) (RE.b re_int) (fun _ _ => rfl))))) (RE.b (re_op or_add od_add (RE.b re_int) (RE.b (re_ix (RE.b (re_var 0)) (RE.b re_int) (fun _ _ => rfl)))))))
    (rss_one (rs_set (i := 2) sc__law_two.nd rfl (by first | exact Or.inl rfl | exact Or.inr rfl) (re_op op_mulW od_mul (RE.b (re_op or_add od_add (RE.b re_int) (RE.b (re_ix (RE.b (re_var 0)) (RE.b re_int) (fun _ _ => rfl))))) (RE.b (re_op or_add od_add (RE.b re_int) (RE.b (re_ix (RE.b (re_var 0)) (RE.b re_int) (fun _ _ => rfl))))))))) rss_nil)
    (rss_cons (rs_if (rt_cmp (or_eq b.q.hu) od_eq (RE.b (re_ix (RE.b (re_var 0)) (RE.b re_int) (fun _ _ => rfl))) (RE.b re_int) (nomark _)) (rss_cons (rs_set (i := 1) sc__law_two.nd rfl (by first | exact Or.inl rfl | exact Or.inr rfl) (re_op op_sub od_sub (RE.b (re_op op_pow od_pow (RE.b re_int) (RE.b re_int))) (RE.b (re_ix (RE.b (re_var 0)) (RE.b re_int) (fun _ _ => rfl)))))
    (rss_one (rs_set (i := 2) sc__law_two.nd rfl (by first | exact Or.inl rfl | exact Or.inr rfl) (re_op op_sub od_sub (RE.b (re_op op_sub od_sub (RE.b (re_var 1)) (RE.b re_int))) (RE.b (re_op op_mod od_mod (RE.b (re_ty call_int1 d_int (by rfl) T.b_int PyProof.Rows.boot_int (rab_cons (RE.b (re_ix (RE.b (re_var 0)) (RE.b re_int) (fun _ _ => rfl))) rab_nil))) (RE.b re_int))))))) rss_nil)
    (rss_cons (rs_if (rt_cmp (or_eq b.q.hu) od_eq (RE.b (re_ix (RE.b (re_var 0)) (RE.b re_int) (fun _ _ => rfl))) (RE.b re_int) (nomark _)) (rss_one (rs_set (i := 1) sc__law_two.nd rfl (by first | exact Or.inl rfl | exact Or.inr rfl) (re_op or_add od_add (RE.b re_int) (RE.b (re_ix (RE.b (re_var 0)) (RE.b re_int) (fun _ _ => rfl)))))) rss_nil)
    (rss_cons (rs_if (RW.t (rw_or (rt_cmp or_lt od_lt (RE.b (re_var 2)) (RE.b re_int) (nomark _)) (rw_or1 (rt_cmp op_gt od_gt (RE.b (re_var 2)) (RE.b (re_op op_pow od_pow (RE.b re_int) (RE.b re_int))) (nomark _))))) (rss_one (rs_set (i := 2) sc__law_two.nd rfl (by first | exact Or.inl rfl | exact Or.inr rfl) (re_var 1))) rss_nil)
    (rss_one (rs_ret (rfe (rf_lst (ra_cons (re_var 1) (ra_cons (re_var 2) ra_nil))))))))))))))
end
theorem sc__law_gcd : FnScope n__law_gcd ["first", "second"] (defScope s__law_gcd) := ⟨rfl, rfl, rfl, by decide +kernel, rfl, by decide +kernel, by decide +kernel⟩
section
variable {P : Program} {w : World} {K : PySem.W.Frag} {mg : Str → Option Value} {base : Heap}
theorem d__law_gcd {f : Addr} {fd : FuncData} (T : Txt mg) (F : Fun K "_law_gcd" "_law_gcd" s__law_gcd f fd) (hm : mg "_law_gcd" = some (.ref f)) (hb : Binds K fd ["first", "second"] [])  :
    Def P w K mg base "_law_gcd" 1 2 g__law_gcd := fn_def F sc__law_gcd hm hb fun cdv A outer s H E b =>
    (rss_cons (rs_set (i := 2) sc__law_gcd.nd rfl (by first | exact Or.inl rfl | exact Or.inr rfl) (re_var 0))
    (rss_cons (rs_set (i := 3) sc__law_gcd.nd rfl (by first | exact Or.inl rfl | exact Or.inr rfl) (re_var 1))
    (rss_cons (rs_for (fb := b__law_gcd_1) b.hp b.q.hc (ri_range1 (by rfl) T.b_range (ra_cons re_int ra_nil)) (rg_name sc__law_gcd.nd rfl (by first | exact Or.inl rfl | exact Or.inr rfl)) (rss_one (rs_if (rt_cmp (or_ne b.q.hu) od_ne (RE.b (re_var 3)) (RE.b re_int) (nomark _)) (rss_cons (rs_set (i := 5) sc__law_gcd.nd rfl (by first | exact Or.inl rfl | exact Or.inr rfl) (re_op op_mod od_mod (RE.b (re_ty call_int1 d_int (by rfl) T.b_int PyProof.Rows.boot_int (rab_cons (RE.b (re_var 2)) rab_nil))) (RE.b (re_var 3))))
    (rss_cons (rs_set (i := 2) sc__law_gcd.nd rfl (by first | exact Or.inl rfl | exact Or.inr rfl) (re_var 3))
    (rss_one (rs_set (i := 3) sc__law_gcd.nd rfl (by first | exact Or.inl rfl | exact Or.inr rfl) (re_var 5))))) rss_nil)))
    (rss_one (rs_ret (re_var 2))))))
end
theorem sc__law_number : FnScope n__law_number ["told", "due"] (defScope s__law_number) := ⟨rfl, rfl, rfl, by decide +kernel, rfl, by decide +kernel, by decide +kernel⟩
section
variable {P : Program} {w : World} {K : PySem.W.Frag} {mg : Str → Option Value} {base : Heap}
theorem d__law_number {f : Addr} {fd : FuncData} (T : Txt mg) (F : Fun K "_law_number" "_law_number" s__law_number f fd) (hm : mg "_law_number" = some (.ref f)) (hb : Binds K fd ["told", "due"] [])  :
    Def P w K mg base "_law_number" 1 2 g__law_number := fn_def F sc__law_number hm hb fun cdv A outer s H E b =>
    (rss_one (rs_ret (re_and (re_isi .int (by rfl) T.b_isinstance (by rfl) T.b_int PyProof.Rows.boot_int (RE.b (re_var 0))) (re_and (re_not (re_isi .bool (by rfl) T.b_isinstance (by rfl) T.b_bool PyProof.Rows.boot_bool (RE.b (re_var 0)))) (re_one (re_cmp (or_eq b.q.hu) od_eq (RE.b (re_var 0)) (RE.b (re_var 1)) (nomark _)))))))
end
theorem sc_check_many : FnScope n_check_many ["things", "most"] (defScope s_check_many) := ⟨rfl, rfl, rfl, by decide +kernel, rfl, by decide +kernel, by decide +kernel⟩
section
variable {P : Program} {w : World} {K : PySem.W.Frag} {mg : Str → Option Value} {base : Heap}
theorem d_check_many {f : Addr} {fd : FuncData} (T : Txt mg) (F : Fun K "check_many" "check_many" s_check_many f fd) (hm : mg "check_many" = some (.ref f)) (hb : Binds K fd ["things", "most"] [])  :
    Def P w K mg base "check_many" 1 2 g_check_many := fn_def F sc_check_many hm hb fun cdv A outer s H E b =>
    (rss_one (rs_if (rt_cmp op_gt od_gt (RE.b (re_bi c_len d_len (by rfl) T.b_len PySem.boot_len (rab_cons (RE.b (re_var 0)) rab_nil))) (RE.b (re_var 1)) (nomark _)) (rss_one rs_no) rss_nil))
end
theorem sc_check_range : FnScope n_check_range ["value", "low", "high"] (defScope s_check_range) := ⟨rfl, rfl, rfl, by decide +kernel, rfl, by decide +kernel, by decide +kernel⟩
section
variable {P : Program} {w : World} {K : PySem.W.Frag} {mg : Str → Option Value} {base : Heap}
theorem d_check_range {f : Addr} {fd : FuncData} (T : Txt mg) (F : Fun K "check_range" "check_range" s_check_range f fd) (hm : mg "check_range" = some (.ref f)) (hb : Binds K fd ["value", "low", "high"] [])  :
    Def P w K mg base "check_range" 1 3 g_check_range := fn_def F sc_check_range hm hb fun cdv A outer s H E b =>
    (rss_one (rs_if (RW.t (rw_or (rt_cmp or_lt od_lt (RE.b (re_var 0)) (RE.b (re_var 1)) (nomark _)) (rw_or1 (rt_cmp op_gt od_gt (RE.b (re_var 0)) (RE.b (re_var 2)) (nomark _))))) (rss_one rs_no) rss_nil))
end
theorem sc_check_periods : FnScope n_check_periods ["periods"] (defScope s_check_periods) := ⟨rfl, rfl, rfl, by decide +kernel, rfl, by decide +kernel, by decide +kernel⟩
section
variable {P : Program} {w : World} {K : PySem.W.Frag} {mg : Str → Option Value} {base : Heap}
theorem d_check_periods {f : Addr} {fd : FuncData} (T : Txt mg) (F : Fun K "check_periods" "check_periods" s_check_periods f fd) (hm : mg "check_periods" = some (.ref f)) (hb : Binds K fd ["periods"] []) (D_check_many : Def P w K mg base "check_many" 1 2 g_check_many) (D_check_range : Def P w K mg base "check_range" 1 3 g_check_range) :
    Def P w K mg base "check_periods" 2 1 g_check_periods := fn_def F sc_check_periods hm hb fun cdv A outer s H E b =>
    (rss_cons (rs_expr (re_call D_check_many b.q (by decide) (by rfl) (ra_cons (re_var 0) (ra_cons (re_gint (by rfl) T.c_MOST_PERIODS) ra_nil))))
    (rss_one (rs_for (fb := b_check_periods_1) b.hp b.q.hc (ri_e (re_var 0)) (rg_name sc_check_periods.nd rfl (by first | exact Or.inl rfl | exact Or.inr rfl)) (rss_one (rs_expr (re_call D_check_range b.q (by decide) (by rfl) (ra_cons (re_var 1) (ra_cons re_int (ra_cons (re_gint (by rfl) T.c_LONGEST) ra_nil)))))))))
end
theorem sc_require_period : FnScope n_require_period ["periods"] (defScope s_require_period) := ⟨rfl, rfl, rfl, by decide +kernel, rfl, by decide +kernel, by decide +kernel⟩
section
variable {P : Program} {w : World} {K : PySem.W.Frag} {mg : Str → Option Value} {base : Heap}
theorem d_require_period {f : Addr} {fd : FuncData} (T : Txt mg) (F : Fun K "require_period" "require_period" s_require_period f fd) (hm : mg "require_period" = some (.ref f)) (hb : Binds K fd ["periods"] [])  :
    Def P w K mg base "require_period" 1 1 g_require_period := fn_def F sc_require_period hm hb fun cdv A outer s H E b =>
    (rss_one (rs_if (rt_cmp (or_eq b.q.hu) od_eq (RE.b (re_bi c_len d_len (by rfl) T.b_len PySem.boot_len (rab_cons (RE.b (re_var 0)) rab_nil))) (RE.b re_int) (nomark _)) (rss_one rs_no) rss_nil))
end
theorem sc_common_divisor : FnScope n_common_divisor ["numbers"] (defScope s_common_divisor) := ⟨rfl, rfl, rfl, by decide +kernel, rfl, by decide +kernel, by decide +kernel⟩
section
variable {P : Program} {w : World} {K : PySem.W.Frag} {mg : Str → Option Value} {base : Heap}
theorem d_common_divisor {f : Addr} {fd : FuncData} (T : Txt mg) (F : Fun K "common_divisor" "common_divisor" s_common_divisor f fd) (hm : mg "common_divisor" = some (.ref f)) (hb : Binds K fd ["numbers"] [])  :
    Def P w K mg base "common_divisor" 1 1 g_common_divisor := fn_def F sc_common_divisor hm hb fun cdv A outer s H E b =>
    (rss_cons (rs_set (i := 1) sc_common_divisor.nd rfl (by first | exact Or.inl rfl | exact Or.inr rfl) re_int)
    (rss_cons (rs_for (fb := b_common_divisor_1) b.hp b.q.hc (ri_e (re_var 0)) (rg_name sc_common_divisor.nd rfl (by first | exact Or.inl rfl | exact Or.inr rfl)) (rss_one (rs_set (i := 1) sc_common_divisor.nd rfl (by first | exact Or.inl rfl | exact Or.inr rfl) (re_bfun cr_gcd d_gcd (by rfl) T.i_gcd (rab_cons (RE.b (re_var 1)) (rab_cons (RE.b (re_var 2)) rab_nil))))))
    (rss_one (rs_ret (re_var 1)))))
end
theorem sc__rounds : FnScope n__rounds ["rows"] (defScope s__rounds) := ⟨rfl, rfl, rfl, by decide +kernel, rfl, by decide +kernel, by decide +kernel⟩
section
variable {P : Program} {w : World} {K : PySem.W.Frag} {mg : Str → Option Value} {base : Heap}
theorem d__rounds {f : Addr} {fd : FuncData} (T : Txt mg) (F : Fun K "_rounds" "_rounds" s__rounds f fd) (hm : mg "_rounds" = some (.ref f)) (hb : Binds K fd ["rows"] [])  :
    Def P w K mg base "_rounds" 1 1 g__rounds := fn_def F sc__rounds hm hb fun cdv A outer s H E b =>
    (rss_cons (rs_set (i := 1) sc__rounds.nd rfl (by first | exact Or.inl rfl | exact Or.inr rfl) (re_ix (RE.b (re_var 0)) (RE.b re_int) (fun _ _ => rfl)))
    (rss_cons (rs_lc (i := 2) b.q.hc sc__rounds.nd rfl rfl (sw_true rfl rfl rfl (by decide +kernel)) (ri_e (re_var 0)) (own := [("period", 3)]) (blkOk_by (N := n__rounds) (sc := defScope s__rounds) (by decide +kernel)) (fun s H C cl fp => (rg_name sc__rounds.nd rfl (by first | exact Or.inl rfl | exact Or.inr rfl))) (fun s H C cl fp => (rp_one (rt_cmp (or_ne (b.q.blk s H _ _ fp).hu) od_ne (RE.b (re_op op_mod od_mod (RE.b (re_var 3)) (RE.b (re_var 1)))) (RE.b re_int) (nomark _)))) (fun s H C cl fp => (re_op op_fdivW od_fdiv (RE.b (re_var 3)) (RE.b (re_var 1)))) (by decide))
    (rss_one (rs_ret (re_minDf b.q (by rfl) T.b_min (RE.b (re_var 2)) re_int)))))
end
theorem sc__lessened : FnScope n__lessened ["rows", "rounds"] (defScope s__lessened) := ⟨rfl, rfl, rfl, by decide +kernel, rfl, by decide +kernel, by decide +kernel⟩
section
variable {P : Program} {w : World} {K : PySem.W.Frag} {mg : Str → Option Value} {base : Heap}
theorem d__lessened {f : Addr} {fd : FuncData} (T : Txt mg) (F : Fun K "_lessened" "_lessened" s__lessened f fd) (hm : mg "_lessened" = some (.ref f)) (hb : Binds K fd ["rows", "rounds"] [])  :
    Def P w K mg base "_lessened" 1 2 g__lessened := fn_def F sc__lessened hm hb fun cdv A outer s H E b =>
    (rss_cons (rs_set (i := 2) sc__lessened.nd rfl (by first | exact Or.inl rfl | exact Or.inr rfl) (re_ix (RE.b (re_var 0)) (RE.b re_int) (fun _ _ => rfl)))
    (rss_cons (rs_set (i := 3) sc__lessened.nd rfl (by first | exact Or.inl rfl | exact Or.inr rfl) (re_op op_mulW od_mul (RE.b (re_var 1)) (RE.b (re_var 2))))
    (rss_cons (rs_lc (i := 4) b.q.hc sc__lessened.nd rfl rfl (sw_true rfl rfl rfl (by decide +kernel)) (ri_e (re_var 0)) (own := [("period", 5)]) (blkOk_by (N := n__lessened) (sc := defScope s__lessened) (by decide +kernel)) (fun s H C cl fp => (rg_name sc__lessened.nd rfl (by first | exact Or.inl rfl | exact Or.inr rfl))) (fun s H C cl fp => (rp_one (rt_cmp op_gt od_gt (RE.b (re_var 5)) (RE.b (re_var 3)) (nomark _)))) (fun s H C cl fp => (re_op op_sub od_sub (RE.b (re_var 5)) (RE.b (re_var 3)))) (by decide))
    (rss_one (rs_ret (rfe (rf_bi (c_sorted b.q.hc) d_sorted (by rfl) T.b_sorted PyProof.Rows.boot_sorted (rab_cons (RE.b (re_ty (c_set b.q.hc) d_set (by rfl) T.b_set PyProof.Rows.boot_set (rab_cons (RE.b (re_op or_add od_add (RE.b (rfe (rf_lst (ra_cons (re_var 2) ra_nil)))) (RE.b (re_var 4)))) rab_nil))) rab_nil))))))))
end
theorem sc_threshold_of : FnScope n_threshold_of ["periods"] (defScope s_threshold_of) := ⟨rfl, rfl, rfl, by decide +kernel, rfl, by decide +kernel, by decide +kernel⟩
section
variable {P : Program} {w : World} {K : PySem.W.Frag} {mg : Str → Option Value} {base : Heap}
theorem d_threshold_of {f : Addr} {fd : FuncData} (T : Txt mg) (F : Fun K "threshold_of" "threshold_of" s_threshold_of f fd) (hm : mg "threshold_of" = some (.ref f)) (hb : Binds K fd ["periods"] []) (D_common_divisor : Def P w K mg base "common_divisor" 1 1 g_common_divisor) (D__rounds : Def P w K mg base "_rounds" 1 1 g__rounds) (D__lessened : Def P w K mg base "_lessened" 1 2 g__lessened) :
    Def P w K mg base "threshold_of" 2 1 g_threshold_of := fn_def F sc_threshold_of hm hb fun cdv A outer s H E b =>
    (rss_cons (rs_set (i := 1) sc_threshold_of.nd rfl (by first | exact Or.inl rfl | exact Or.inr rfl) (re_call D_common_divisor b.q (by decide) (by rfl) (ra_cons (re_var 0) ra_nil)))
    (rss_cons (rs_set (i := 2) sc_threshold_of.nd rfl (by first | exact Or.inl rfl | exact Or.inr rfl) (rfe (rf_bi (c_sorted b.q.hc) d_sorted (by rfl) T.b_sorted PyProof.Rows.boot_sorted (rab_cons (RE.b (re_ty (c_set b.q.hc) d_set (by rfl) T.b_set PyProof.Rows.boot_set (rab_cons (RE.b (re_var 0)) rab_nil))) rab_nil))))
    (rss_cons (rs_own (i := 3) sc_threshold_of.nd rfl (by first | exact Or.inl rfl | exact Or.inr rfl) (rf_lst ra_nil))
    (rss_cons (rs_while (fb := b_threshold_of_1) fuel b.hp (rt_cmp (or_ne b.q.hu) od_ne (RE.b (re_ix (RE.b (re_var 2)) (RE.b re_int) (fun _ _ => rfl))) (RE.b (re_var 1)) (nomark _)) (rss_cons (rs_set (i := 5) sc_threshold_of.nd rfl (by first | exact Or.inl rfl | exact Or.inr rfl) (re_call D__rounds b.q (by decide) (by rfl) (ra_cons (re_var 2) ra_nil)))
    (rss_cons (rs_app (i := 3) rfl (by first | exact Or.inl rfl | exact Or.inr (Or.inl rfl)) (re_tup (ra_cons (re_op op_mulW od_mul (RE.b (re_var 5)) (RE.b (re_ix (RE.b (re_var 2)) (RE.b re_int) (fun _ _ => rfl)))) (ra_cons (re_ix (RE.b (re_var 2)) (RE.b re_int) (fun _ _ => rfl)) ra_nil))))
    (rss_one (rs_set (i := 2) sc_threshold_of.nd rfl (by first | exact Or.inl rfl | exact Or.inr rfl) (re_call D__lessened b.q (by decide) (by rfl) (ra_cons (re_var 2) (ra_cons (re_var 5) ra_nil))))))))
    (rss_cons (rs_set (i := 4) sc_threshold_of.nd rfl (by first | exact Or.inl rfl | exact Or.inr rfl) re_int)
    (rss_cons (rs_frz [3] (rs_for (fb := b_threshold_of_2) b.hp b.q.hc (ri_reversed (by rfl) T.b_reversed (ra_cons (re_var 3) ra_nil)) (rg_tup b.q.hc (rgs_cons (rg_name sc_threshold_of.nd rfl (by first | exact Or.inl rfl | exact Or.inr rfl)) (rgs_cons (rg_name sc_threshold_of.nd rfl (by first | exact Or.inl rfl | exact Or.inr rfl)) rgs_nil))) (rss_one (rs_set (i := 4) sc_threshold_of.nd rfl (by first | exact Or.inl rfl | exact Or.inr rfl) (re_op or_add od_add (RE.b (re_var 6)) (RE.b (re_bi (c_max b.q.hc) d_max (by rfl) T.b_max PyProof.Rows.boot_max (rab_cons (RE.b (re_var 7)) (rab_cons (RE.b (re_var 4)) rab_nil)))))))))
    (rss_one (rs_ret (re_var 4)))))))))
end
theorem sc_threshold : FnScope n_threshold ["periods"] (defScope s_threshold) := ⟨rfl, rfl, rfl, by decide +kernel, rfl, by decide +kernel, by decide +kernel⟩
section
variable {P : Program} {w : World} {K : PySem.W.Frag} {mg : Str → Option Value} {base : Heap}
theorem d_threshold {f : Addr} {fd : FuncData} (T : Txt mg) (F : Fun K "threshold" "threshold" s_threshold f fd) (hm : mg "threshold" = some (.ref f)) (hb : Binds K fd ["periods"] []) (D_check_periods : Def P w K mg base "check_periods" 2 1 g_check_periods) (D_require_period : Def P w K mg base "require_period" 1 1 g_require_period) (D_threshold_of : Def P w K mg base "threshold_of" 2 1 g_threshold_of) :
    Def P w K mg base "threshold" 3 1 g_threshold := fn_def F sc_threshold hm hb fun cdv A outer s H E b =>
    (rss_cons (rs_expr (re_call D_check_periods b.q (by decide) (by rfl) (ra_cons (re_var 0) ra_nil)))
    (rss_cons (rs_expr (re_call D_require_period b.q (by decide) (by rfl) (ra_cons (re_var 0) ra_nil)))
    (rss_one (rs_ret (re_call D_threshold_of b.q (by decide) (by rfl) (ra_cons (re_var 0) ra_nil))))))
end
theorem sc__law_truth : FnScope n__law_truth ["told", "due"] (defScope s__law_truth) := ⟨rfl, rfl, rfl, by decide +kernel, rfl, by decide +kernel, by decide +kernel⟩
section
variable {P : Program} {w : World} {K : PySem.W.Frag} {mg : Str → Option Value} {base : Heap}
theorem d__law_truth {f : Addr} {fd : FuncData} (T : Txt mg) (F : Fun K "_law_truth" "_law_truth" s__law_truth f fd) (hm : mg "_law_truth" = some (.ref f)) (hb : Binds K fd ["told", "due"] [])  :
    Def P w K mg base "_law_truth" 1 2 g__law_truth := fn_def F sc__law_truth hm hb fun cdv A outer s H E b =>
    (rss_cons (rs_if (rt_tru (RE.b (re_var 1))) (rss_one (rs_ret (re_cmp or_is od_is (RE.b (re_var 0)) (RE.b re_bl) (nomark _)))) rss_nil)
    (rss_one (rs_ret (re_cmp or_is od_is (RE.b (re_var 0)) (RE.b re_bl) (nomark _)))))
end
theorem sc_forced : FnScope n_forced ["periods", "length"] (defScope s_forced) := ⟨rfl, rfl, rfl, by decide +kernel, rfl, by decide +kernel, by decide +kernel⟩
section
variable {P : Program} {w : World} {K : PySem.W.Frag} {mg : Str → Option Value} {base : Heap}
theorem d_forced {f : Addr} {fd : FuncData} (T : Txt mg) (F : Fun K "forced" "forced" s_forced f fd) (hm : mg "forced" = some (.ref f)) (hb : Binds K fd ["periods", "length"] []) (D_check_periods : Def P w K mg base "check_periods" 2 1 g_check_periods) (D_check_range : Def P w K mg base "check_range" 1 3 g_check_range) (D_require_period : Def P w K mg base "require_period" 1 1 g_require_period) (D_common_divisor : Def P w K mg base "common_divisor" 1 1 g_common_divisor) (D_threshold_of : Def P w K mg base "threshold_of" 2 1 g_threshold_of) :
    Def P w K mg base "forced" 3 2 g_forced := fn_def F sc_forced hm hb fun cdv A outer s H E b =>
    (rss_cons (rs_expr (re_call D_check_periods b.q (by decide) (by rfl) (ra_cons (re_var 0) ra_nil)))
    (rss_cons (rs_expr (re_call D_check_range b.q (by decide) (by rfl) (ra_cons (re_var 1) (ra_cons re_int (ra_cons (re_gint (by rfl) T.c_LONGEST) ra_nil)))))
    (rss_cons (rs_expr (re_call D_require_period b.q (by decide) (by rfl) (ra_cons (re_var 0) ra_nil)))
    (rss_cons (rs_if (rt_cmp op_le od_le (RE.b (re_var 1)) (RE.b (re_call D_common_divisor b.q (by decide) (by rfl) (ra_cons (re_var 0) ra_nil))) (nomark _)) (rss_one (rs_ret re_bl)) rss_nil)
    (rss_one (rs_ret (re_cmp op_ge od_ge (RE.b (re_var 1)) (RE.b (re_call D_threshold_of b.q (by decide) (by rfl) (ra_cons (re_var 0) ra_nil))) (nomark _))))))))
end
theorem sc__law_asked : FnScope n__law_asked ["periods", "unit", "due", "far"] (defScope s__law_asked) := ⟨rfl, rfl, rfl, by decide +kernel, rfl, by decide +kernel, by decide +kernel⟩
section
variable {P : Program} {w : World} {K : PySem.W.Frag} {mg : Str → Option Value} {base : Heap}
theorem d__law_asked {f : Addr} {fd : FuncData} (T : Txt mg) (F : Fun K "_law_asked" "_law_asked" s__law_asked f fd) (hm : mg "_law_asked" = some (.ref f)) (hb : Binds K fd ["periods", "unit", "due", "far"] []) (D__law_number : Def P w K mg base "_law_number" 1 2 g__law_number) (D_threshold : Def P w K mg base "threshold" 3 1 g_threshold) (D__law_truth : Def P w K mg base "_law_truth" 1 2 g__law_truth) (D_forced : Def P w K mg base "forced" 3 2 g_forced) :
    Def P w K mg base "_law_asked" 4 4 g__law_asked := fn_def F sc__law_asked hm hb fun cdv A outer s H E b =>
    (rss_cons (rs_set (i := 4) sc__law_asked.nd rfl (by first | exact Or.inl rfl | exact Or.inr rfl) (rfe (rf_ty call_list_of d_list (by rfl) T.b_list PyProof.Rows.boot_list (rab_cons (RE.b (re_var 0)) rab_nil))))
    (rss_cons (rs_if (rt_not (rt_tru (RE.b (re_call D__law_number b.q (by decide) (by rfl) (ra_cons (re_call D_threshold b.q (by decide) (by rfl) (ra_cons (re_var 4) ra_nil)) (ra_cons (re_var 2) ra_nil)))))) (rss_one (rs_ret re_bl)) rss_nil)
    (rss_cons (rs_for (fb := b__law_asked_1) b.hp b.q.hc (ri_e (rfe (rf_lst (ra_cons (re_var 2) (ra_cons (re_op op_sub od_sub (RE.b (re_var 2)) (RE.b re_int)) (ra_cons (re_op or_add od_add (RE.b (re_var 2)) (RE.b re_int)) (ra_cons (re_var 1) (ra_cons (re_op or_add od_add (RE.b (re_var 1)) (RE.b re_int)) (ra_cons re_int (ra_cons (re_op op_pow od_pow (RE.b re_int) (RE.b re_int)) (ra_cons (re_var 3) ra_nil))))))))))) (rg_name sc__law_asked.nd rfl (by first | exact Or.inl rfl | exact Or.inr rfl)) (rss_one (rs_if (RW.t (rw_and (rt_cmp op_le od_le (RE.b re_int) (RE.b (re_var 5)) (nomark _)) (rw_and1 (rt_cmp op_le od_le (RE.b (re_var 5)) (RE.b (re_op op_pow od_pow (RE.b re_int) (RE.b re_int))) (nomark _))))) (rss_one (rs_if (rt_not (rt_tru (RE.b (re_call D__law_truth b.q (by decide) (by rfl) (ra_cons (re_call D_forced b.q (by decide) (by rfl) (ra_cons (re_var 4) (ra_cons (re_var 5) ra_nil))) (ra_cons (re_or (re_cmp op_le od_le (RE.b (re_var 5)) (RE.b (re_var 1)) (nomark _)) (re_one (re_cmp op_ge od_ge (RE.b (re_var 5)) (RE.b (re_var 2)) (nomark _)))) ra_nil)))))) (rss_one (rs_ret re_bl)) rss_nil)) rss_nil)))
    (rss_one (rs_ret (re_and (re_call D__law_number b.q (by decide) (by rfl) (ra_cons (re_call D_threshold b.q (by decide) (by rfl) (ra_cons (re_var 4) ra_nil)) (ra_cons (re_var 2) ra_nil))) (re_one (re_cmp (or_eq b.q.hu) od_eq (RE.b (re_var 4)) (RE.b (re_var 0)) (nomark _)))))))))
end
theorem sc__law_near : FnScope n__law_near ["periods", "step"] (defScope s__law_near) := ⟨rfl, rfl, rfl, by decide +kernel, rfl, by decide +kernel, by decide +kernel⟩
section
variable {P : Program} {w : World} {K : PySem.W.Frag} {mg : Str → Option Value} {base : Heap}
theorem d__law_near {f : Addr} {fd : FuncData} (T : Txt mg) (F : Fun K "_law_near" "_law_near" s__law_near f fd) (hm : mg "_law_near" = some (.ref f)) (hb : Binds K fd ["periods", "step"] [])  :
    Def P w K mg base "_law_near" 1 2 g__law_near := fn_def F sc__law_near hm hb fun cdv A outer s H E b =>
    (rss_cons (rs_if (rt_cmp (or_eq b.q.hu) od_eq (RE.b (re_bi (c_min b.q.hc) d_min (by rfl) T.b_min PyProof.Rows.boot_min (rab_cons (RE.b (re_var 0)) rab_nil))) (RE.b (re_var 1)) (nomark _)) (rss_one (rs_ret re_int)) rss_nil)
    (rss_cons (rs_set (i := 2) sc__law_near.nd rfl (by first | exact Or.inl rfl | exact Or.inr rfl) (rfe (rf_lst ra_nil)))
    (rss_cons (rs_set (i := 3) sc__law_near.nd rfl (by first | exact Or.inl rfl | exact Or.inr rfl) (re_op or_add od_add (RE.b (re_var 1)) (RE.b re_int)))
    (rss_cons (rs_for (fb := b__law_near_2) b.hp b.q.hc (ri_range1 (by rfl) T.b_range (ra_cons re_int ra_nil)) (rg_name sc__law_near.nd rfl (by first | exact Or.inl rfl | exact Or.inr rfl)) (rss_cons (rs_lc (i := 5) b.q.hc sc__law_near.nd rfl rfl (sw_true rfl rfl rfl (by decide +kernel)) (ri_range1 (by rfl) T.b_range (ra_cons (re_op op_sub od_sub (RE.b (re_var 4)) (RE.b (re_var 1))) ra_nil)) (own := [("t", 7)]) (blkOk_by (N := n__law_near) (sc := defScope s__law_near) (by decide +kernel)) (fun s H C cl fp => (rg_name sc__law_near.nd rfl (by first | exact Or.inl rfl | exact Or.inr rfl))) (fun s H C cl fp => rp_nil) (fun s H C cl fp => (re_cmp (or_eq (b.q.blk s H _ _ fp).hu) od_eq (RE.b (re_ix (RE.b (re_var 2)) (RE.b (re_var 7)) (fun _ _ => rfl))) (RE.b (re_ix (RE.b (re_var 2)) (RE.b (re_op or_add od_add (RE.b (re_var 7)) (RE.b (re_var 1)))) (fun _ _ => rfl))) (nomark _))) (by decide))
    (rss_cons (rs_if (RW.t (rw_and (rt_cmp op_gt od_gt (RE.b (re_var 4)) (RE.b (re_var 1)) (nomark _)) (rw_and1 (rt_not (rt_tru (RE.b (re_bi (cr_all b.q.hc) d_all (by rfl) T.b_all PyProof.Rows.boot_all (rab_cons (RE.b (re_var 5)) rab_nil)))))))) (rss_one (rs_set (i := 3) sc__law_near.nd rfl (by first | exact Or.inl rfl | exact Or.inr rfl) (re_op or_add od_add (RE.b (re_var 4)) (RE.b re_int)))) rss_nil)
    (rss_cons (rs_set (i := 2) sc__law_near.nd rfl (by first | exact Or.inl rfl | exact Or.inr rfl) (re_op or_add od_add (RE.b (re_var 2)) (RE.b (rfe (rf_lst (ra_cons (re_var 4) ra_nil))))))
    (rss_one (rs_for (fb := b__law_near_1) b.hp b.q.hc (ri_e (re_var 0)) (rg_name sc__law_near.nd rfl (by first | exact Or.inl rfl | exact Or.inr rfl)) (rss_one (rs_if (RW.t (rw_and (rt_cmp op_le od_le (RE.b (re_var 6)) (RE.b (re_var 4)) (nomark _)) (rw_and1 (rt_cmp (or_ne b.q.hu) od_ne (RE.b (re_ix (RE.b (re_var 2)) (RE.b (re_var 4)) (fun _ _ => rfl))) (RE.b (re_ix (RE.b (re_var 2)) (RE.b (re_op op_sub od_sub (RE.b (re_var 4)) (RE.b (re_var 6)))) (fun _ _ => rfl))) (nomark _))))) (rss_cons (rs_set (i := 8) sc__law_near.nd rfl (by first | exact Or.inl rfl | exact Or.inr rfl) (re_ix (RE.b (re_var 2)) (RE.b (re_var 4)) (fun _ _ => rfl)))
    (rss_cons (rs_set (i := 9) sc__law_near.nd rfl (by first | exact Or.inl rfl | exact Or.inr rfl) (re_ix (RE.b (re_var 2)) (RE.b (re_op op_sub od_sub (RE.b (re_var 4)) (RE.b (re_var 6)))) (fun _ _ => rfl)))
    (rss_one (rs_set (i := 2) sc__law_near.nd rfl (by first | exact Or.inl rfl | exact Or.inr rfl) (rfe (rf_lc b.q.hc sc__law_near.nd (ri_e (re_var 2)) (own := [("mark", 10)]) (blkOk_by (N := n__law_near) (sc := defScope s__law_near) (by decide +kernel)) (fun s H C cl fp => (rg_name sc__law_near.nd rfl (by first | exact Or.inl rfl | exact Or.inr rfl))) (fun s H C cl fp => rp_nil) (fun s H C cl fp => (re_ifExp (rt_cmp (or_eq (b.q.blk s H _ _ fp).hu) od_eq (RE.b (re_var 10)) (RE.b (re_var 8)) (nomark _)) (re_var 9) (re_var 10))) (by decide))))))) rss_nil))))))))
    (rss_one (rs_ret (re_var 3)))))))
end
theorem sc__law_multiple : FnScope n__law_multiple ["unit", "due", "draw"] (defScope s__law_multiple) := ⟨rfl, rfl, rfl, by decide +kernel, rfl, by decide +kernel, by decide +kernel⟩
section
variable {P : Program} {w : World} {K : PySem.W.Frag} {mg : Str → Option Value} {base : Heap}
theorem d__law_multiple {f : Addr} {fd : FuncData} (T : Txt mg) (F : Fun K "_law_multiple" "_law_multiple" s__law_multiple f fd) (hm : mg "_law_multiple" = some (.ref f)) (hb : Binds K fd ["unit", "due", "draw"] [])  :
    Def P w K mg base "_law_multiple" 1 3 g__law_multiple := fn_def F sc__law_multiple hm hb fun cdv A outer s H E b =>
    (rss_cons (rs_set (i := 3) sc__law_multiple.nd rfl (by first | exact Or.inl rfl | exact Or.inr rfl) (re_bi (c_max b.q.hc) d_max (by rfl) T.b_max PyProof.Rows.boot_max (rab_cons (RE.b re_int) (rab_cons (RE.b (re_op op_fdivW od_fdiv (RE.b (re_op op_sub od_sub (RE.b (re_op or_add od_add (RE.b (re_var 1)) (RE.b (re_var 0)))) (RE.b re_int))) (RE.b (re_var 0)))) rab_nil))))
    (rss_cons (rs_set (i := 4) sc__law_multiple.nd rfl (by first | exact Or.inl rfl | exact Or.inr rfl) (re_op op_sub od_sub (RE.b (re_op op_fdivW od_fdiv (RE.b (re_op op_pow od_pow (RE.b re_int) (RE.b re_int))) (RE.b (re_var 0)))) (RE.b (re_var 3))))
    (rss_cons (rs_if (rt_cmp or_lt od_lt (RE.b (re_var 4)) (RE.b re_int) (nomark _)) (rss_one (rs_ret re_int)) rss_nil)
    (rss_one (rs_ret (re_op op_mulW od_mul (RE.b (re_var 0)) (RE.b (re_op or_add od_add (RE.b (re_var 3)) (RE.b (re_op op_mod od_mod (RE.b (re_ix (RE.b (rfe (rf_lst (ra_cons re_int (ra_cons (re_var 2) ra_nil))))) (RE.b (re_op op_mod od_mod (RE.b (re_ty call_int1 d_int (by rfl) T.b_int PyProof.Rows.boot_int (rab_cons (RE.b (re_var 2)) rab_nil))) (RE.b re_int))) (fun _ _ => rfl))) (RE.b (re_op or_add od_add (RE.b (re_var 4)) (RE.b re_int)))))))))))))
end
theorem sc__law_orders : FnScope n__law_orders ["periods", "unit", "due", "cells", "place"] (defScope s__law_orders) := ⟨rfl, rfl, rfl, by decide +kernel, rfl, by decide +kernel, by decide +kernel⟩
section
variable {P : Program} {w : World} {K : PySem.W.Frag} {mg : Str → Option Value} {base : Heap}
theorem d__law_orders {f : Addr} {fd : FuncData} (T : Txt mg) (F : Fun K "_law_orders" "_law_orders" s__law_orders f fd) (hm : mg "_law_orders" = some (.ref f)) (hb : Binds K fd ["periods", "unit", "due", "cells", "place"] []) (D__law_dig : Def P w K mg base "_law_dig" 1 3 g__law_dig) (D__law_asked : Def P w K mg base "_law_asked" 4 4 g__law_asked) (D__law_multiple : Def P w K mg base "_law_multiple" 1 3 g__law_multiple) :
    Def P w K mg base "_law_orders" 5 5 g__law_orders := fn_def F sc__law_orders hm hb fun cdv A outer s H E b =>
    (rss_cons (rs_set (i := 5) sc__law_orders.nd rfl (by first | exact Or.inl rfl | exact Or.inr rfl) (re_call D__law_dig b.q (by decide) (by rfl) (ra_cons (re_var 3) (ra_cons (re_var 4) (ra_cons (rfe (rf_lst (ra_cons (re_op op_pow od_pow (RE.b re_int) (RE.b re_int)) (ra_cons (re_op op_pow od_pow (RE.b re_int) (RE.b re_int)) (ra_cons re_int (ra_cons (re_op op_pow od_pow (RE.b re_int) (RE.b re_int)) ra_nil)))))) ra_nil)))))
    (rss_cons (rs_set (i := 6) sc__law_orders.nd rfl (by first | exact Or.inl rfl | exact Or.inr rfl) (re_op or_add od_add (RE.b (re_op op_mulW od_mul (RE.b (re_ix (RE.b (re_var 5)) (RE.b re_int) (fun _ _ => rfl))) (RE.b (re_op op_pow od_pow (RE.b re_int) (RE.b re_int))))) (RE.b (re_ix (RE.b (re_var 5)) (RE.b re_int) (fun _ _ => rfl)))))
    (rss_cons (rs_if (rt_not (rt_tru (RE.b (re_call D__law_asked b.q (by decide) (by rfl) (ra_cons (re_var 0) (ra_cons (re_var 1) (ra_cons (re_var 2) (ra_cons (re_var 6) ra_nil)))))))) (rss_one (rs_ret re_bl)) rss_nil)
    (rss_cons (rs_if (rt_not (rt_tru (RE.b (re_call D__law_asked b.q (by decide) (by rfl) (ra_cons (rfe (rf_rev (RE.b (re_var 0)))) (ra_cons (re_var 1) (ra_cons (re_var 2) (ra_cons (re_var 6) ra_nil)))))))) (rss_one (rs_ret re_bl)) rss_nil)
    (rss_cons (rs_set (i := 7) sc__law_orders.nd rfl (by first | exact Or.inl rfl | exact Or.inr rfl) (re_op op_mod od_mod (RE.b (re_ty call_int1 d_int (by rfl) T.b_int PyProof.Rows.boot_int (rab_cons (RE.b (re_ix (RE.b (re_var 5)) (RE.b re_int) (fun _ _ => rfl))) rab_nil))) (RE.b (re_bi c_len d_len (by rfl) T.b_len PySem.boot_len (rab_cons (RE.b (re_var 0)) rab_nil)))))
    (rss_cons (rs_set (i := 8) sc__law_orders.nd rfl (by first | exact Or.inl rfl | exact Or.inr rfl) (re_op or_add od_add (RE.b (re_op or_add od_add (RE.b (rfe (rf_sl (RE.b (re_var 0)) (ro_some (RE.b (re_var 7))) ro_none))) (RE.b (rfe (rf_sl (RE.b (re_var 0)) ro_none (ro_some (RE.b (re_var 7)))))))) (RE.b (rfe (rf_lst (ra_cons (re_ix (RE.b (re_var 0)) (RE.b (re_var 7)) (fun _ _ => rfl)) ra_nil))))))
    (rss_cons (rs_if (rt_not (rt_tru (RE.b (re_call D__law_asked b.q (by decide) (by rfl) (ra_cons (re_var 8) (ra_cons (re_var 1) (ra_cons (re_var 2) (ra_cons (re_var 6) ra_nil)))))))) (rss_one (rs_ret re_bl)) rss_nil)
    (rss_cons (rs_set (i := 9) sc__law_orders.nd rfl (by first | exact Or.inl rfl | exact Or.inr rfl) (re_call D__law_multiple b.q (by decide) (by rfl) (ra_cons (re_var 1) (ra_cons (re_var 2) (ra_cons (re_op or_add od_add (RE.b (re_op op_mulW od_mul (RE.b (re_ix (RE.b (re_var 5)) (RE.b re_int) (fun _ _ => rfl))) (RE.b (re_op op_pow od_pow (RE.b re_int) (RE.b re_int))))) (RE.b (re_ix (RE.b (re_var 5)) (RE.b re_int) (fun _ _ => rfl)))) ra_nil)))))
    (rss_cons (rs_if (rt_cmp (or_eq b.q.hu) od_eq (RE.b (re_var 9)) (RE.b re_int) (nomark _)) (rss_one (rs_ret re_bl)) rss_nil)
    (rss_one (rs_ret (re_call D__law_asked b.q (by decide) (by rfl) (ra_cons (re_op or_add od_add (RE.b (re_op or_add od_add (RE.b (rfe (rf_sl (RE.b (re_var 0)) ro_none (ro_some (RE.b (re_var 7)))))) (RE.b (rfe (rf_lst (ra_cons (re_var 9) ra_nil)))))) (RE.b (rfe (rf_sl (RE.b (re_var 0)) (ro_some (RE.b (re_var 7))) ro_none)))) (ra_cons (re_var 1) (ra_cons (re_var 2) (ra_cons (re_var 6) ra_nil))))))))))))))))
end
theorem sc_law : FnScope n_law ["script"] (defScope s_law) := ⟨rfl, rfl, rfl, by decide +kernel, rfl, by decide +kernel, by decide +kernel⟩
section
variable {P : Program} {w : World} {K : PySem.W.Frag} {mg : Str → Option Value} {base : Heap}
theorem ok_law {f : Addr} {fd : FuncData} (T : Txt mg) (F : Fun K "law" "law" s_law f fd) (D__law_dig : Def P w K mg base "_law_dig" 1 3 g__law_dig) (D__law_near : Def P w K mg base "_law_near" 1 2 g__law_near) (D__law_orders : Def P w K mg base "_law_orders" 5 5 g__law_orders) (D__law_led_on : Def P w K mg base "_law_led_on" 2 5 g__law_led_on) (D__law_two : Def P w K mg base "_law_two" 1 1 g__law_two) (D__law_gcd : Def P w K mg base "_law_gcd" 1 2 g__law_gcd) (D__law_asked : Def P w K mg base "_law_asked" 4 4 g__law_asked) :
    FnOk P w K mg base (L2.CX P w) 6 f fd ["script"] (spOf K w mg 1 g_law) := fn_ok F sc_law fun cdv A outer s H E b =>
    (rss_cons (rs_set (i := 1) sc_law.nd rfl (by first | exact Or.inl rfl | exact Or.inr rfl) (rfe (rf_sl (RE.b (re_var 0)) ro_none (ro_some (RE.b re_int)))))
    (rss_cons (rs_set (i := 2) sc_law.nd rfl (by first | exact Or.inl rfl | exact Or.inr rfl) (re_call D__law_dig b.q (by decide) (by rfl) (ra_cons (re_var 1) (ra_cons re_int (ra_cons (rfe (rf_lst (ra_cons re_int (ra_cons re_int (ra_cons re_int (ra_cons re_int ra_nil)))))) ra_nil)))))
    (rss_cons (rs_set (i := 3) sc_law.nd rfl (by first | exact Or.inl rfl | exact Or.inr rfl) re_int)
    (rss_cons (rs_if (rt_cmp (or_eq b.q.hu) od_eq (RE.b (re_ix (RE.b (re_var 2)) (RE.b re_int) (fun _ _ => rfl))) (RE.b re_int) (nomark _)) (rss_one (rs_set (i := 3) sc_law.nd rfl (by first | exact Or.inl rfl | exact Or.inr rfl) re_int)) rss_nil)
    (rss_cons (rs_lc (i := 4) b.q.hc sc_law.nd rfl rfl (sw_true rfl rfl rfl (by decide +kernel)) (ri_range1 (by rfl) T.b_range (ra_cons (re_op or_add od_add (RE.b re_int) (RE.b (re_ix (RE.b (re_var 2)) (RE.b re_int) (fun _ _ => rfl)))) ra_nil)) (own := [("k", 16)]) (blkOk_by (N := n_law) (sc := defScope s_law) (by decide +kernel)) (fun s H C cl fp => (rg_name sc_law.nd rfl (by first | exact Or.inl rfl | exact Or.inr rfl))) (fun s H C cl fp => rp_nil) (fun s H C cl fp => (re_op or_add od_add (RE.b re_int) (RE.b (re_ix (RE.b (re_call D__law_dig (b.q.blk s H _ _ fp) (by decide) (by rfl) (ra_cons (re_var 1) (ra_cons (re_op or_add od_add (RE.b re_int) (RE.b (re_var 16))) (ra_cons (rfe (rf_lst (ra_cons (re_var 3) ra_nil))) ra_nil))))) (RE.b re_int) (fun _ _ => rfl))))) (by decide))
    (rss_cons (rs_set (i := 5) sc_law.nd rfl (by first | exact Or.inl rfl | exact Or.inr rfl) re_int)
    (rss_cons (rs_for (fb := b_law_1) b.hp b.q.hc (ri_range2 (by rfl) T.b_range (ra_cons re_int (ra_cons (re_op or_add od_add (RE.b (re_bi (c_min b.q.hc) d_min (by rfl) T.b_min PyProof.Rows.boot_min (rab_cons (RE.b (re_var 4)) rab_nil))) (RE.b re_int)) ra_nil))) (rg_name sc_law.nd rfl (by first | exact Or.inl rfl | exact Or.inr rfl)) (rss_one (rs_if (rt_tru (RE.b (re_bi (cr_all b.q.hc) d_all (by rfl) T.b_all PyProof.Rows.boot_all (rab_cons (RE.b (rfe (rf_lc b.q.hc sc_law.nd (ri_e (re_var 4)) (own := [("p", 17)]) (blkOk_by (N := n_law) (sc := defScope s_law) (by decide +kernel)) (fun s H C cl fp => (rg_name sc_law.nd rfl (by first | exact Or.inl rfl | exact Or.inr rfl))) (fun s H C cl fp => rp_nil) (fun s H C cl fp => (re_cmp (or_eq (b.q.blk s H _ _ fp).hu) od_eq (RE.b (re_op op_mod od_mod (RE.b (re_ty call_int1 d_int (by rfl) T.b_int PyProof.Rows.boot_int (rab_cons (RE.b (re_var 17)) rab_nil))) (RE.b (re_var 6)))) (RE.b re_int) (nomark _))) (by decide)))) rab_nil)))) (rss_one (rs_set (i := 5) sc_law.nd rfl (by first | exact Or.inl rfl | exact Or.inr rfl) (re_var 6))) rss_nil)))
    (rss_cons (rs_set (i := 7) sc_law.nd rfl (by first | exact Or.inl rfl | exact Or.inr rfl) (re_call D__law_dig b.q (by decide) (by rfl) (ra_cons (re_var 1) (ra_cons re_int (ra_cons (rfe (rf_lst (ra_cons re_int (ra_cons (re_op op_pow od_pow (RE.b re_int) (RE.b re_int)) (ra_cons (re_op op_pow od_pow (RE.b re_int) (RE.b re_int)) ra_nil))))) ra_nil)))))
    (rss_cons (rs_set (i := 8) sc_law.nd rfl (by first | exact Or.inl rfl | exact Or.inr rfl) (re_ix (RE.b (rfe (rf_lst (ra_cons re_int (ra_cons (re_op or_add od_add (RE.b re_int) (RE.b (re_ix (RE.b (re_var 7)) (RE.b re_int) (fun _ _ => rfl)))) (ra_cons (re_op or_add od_add (RE.b re_int) (RE.b (re_ix (RE.b (re_var 7)) (RE.b re_int) (fun _ _ => rfl)))) (ra_cons (re_op or_add od_add (RE.b (re_op or_add od_add (RE.b re_int) (RE.b (re_op op_mulW od_mul (RE.b (re_ix (RE.b (re_var 7)) (RE.b re_int) (fun _ _ => rfl))) (RE.b (re_op op_pow od_pow (RE.b re_int) (RE.b re_int))))))) (RE.b (re_ix (RE.b (re_var 7)) (RE.b re_int) (fun _ _ => rfl)))) ra_nil))))))) (RE.b (re_ix (RE.b (re_var 2)) (RE.b re_int) (fun _ _ => rfl))) (fun _ _ => rfl)))
    (rss_cons (rs_lc (i := 9) b.q.hc sc_law.nd rfl rfl (sw_true rfl rfl rfl (by decide +kernel)) (ri_e (re_var 4)) (own := [("p", 17)]) (blkOk_by (N := n_law) (sc := defScope s_law) (by decide +kernel)) (fun s H C cl fp => (rg_name sc_law.nd rfl (by first | exact Or.inl rfl | exact Or.inr rfl))) (fun s H C cl fp => rp_nil) (fun s H C cl fp => (re_op op_mulW od_mul (RE.b (re_var 8)) (RE.b (re_var 17)))) (by decide))
    (rss_cons (rs_set (i := 10) sc_law.nd rfl (by first | exact Or.inl rfl | exact Or.inr rfl) (re_op op_mulW od_mul (RE.b (re_var 8)) (RE.b (re_var 5))))
    (rss_cons (rs_set (i := 11) sc_law.nd rfl (by first | exact Or.inl rfl | exact Or.inr rfl) (re_op op_mulW od_mul (RE.b (re_var 8)) (RE.b (re_call D__law_near b.q (by decide) (by rfl) (ra_cons (re_var 4) (ra_cons (re_var 5) ra_nil))))))
    (rss_cons (rs_if (rt_not (rt_tru (RE.b (re_call D__law_orders b.q (by decide) (by rfl) (ra_cons (re_var 9) (ra_cons (re_var 10) (ra_cons (re_var 11) (ra_cons (re_var 1) (ra_cons re_int ra_nil))))))))) (rss_one (rs_ret re_bl)) rss_nil)
    (rss_cons (rs_set (i := 12) sc_law.nd rfl (by first | exact Or.inl rfl | exact Or.inr rfl) (re_call D__law_led_on b.q (by decide) (by rfl) (ra_cons (re_var 1) (ra_cons (re_var 9) (ra_cons (re_var 10) (ra_cons (re_var 11) (ra_cons (re_ix (RE.b (re_var 2)) (RE.b re_int) (fun _ _ => rfl)) ra_nil)))))))
    (rss_cons (rs_if (rt_not (rt_tru (RE.b (re_call D__law_orders b.q (by decide) (by rfl) (ra_cons (re_ix (RE.b (re_var 12)) (RE.b re_int) (fun _ _ => rfl)) (ra_cons (re_var 10) (ra_cons (re_ix (RE.b (re_var 12)) (RE.b re_int) (fun _ _ => rfl)) (ra_cons (re_var 1) (ra_cons re_int ra_nil))))))))) (rss_one (rs_ret re_bl)) rss_nil)
    (rss_cons (rs_set (i := 13) sc_law.nd rfl (by first | exact Or.inl rfl | exact Or.inr rfl) (re_call D__law_two b.q (by decide) (by rfl) (ra_cons (re_call D__law_dig b.q (by decide) (by rfl) (ra_cons (re_var 1) (ra_cons re_int (ra_cons (rfe (rf_lst (ra_cons re_int (ra_cons (re_op op_pow od_pow (RE.b re_int) (RE.b re_int)) (ra_cons (re_op op_pow od_pow (RE.b re_int) (RE.b re_int)) (ra_cons (re_op op_pow od_pow (RE.b re_int) (RE.b re_int)) (ra_cons (re_op op_pow od_pow (RE.b re_int) (RE.b re_int)) (ra_cons re_int ra_nil)))))))) ra_nil)))) ra_nil)))
    (rss_cons (rs_set (i := 14) sc_law.nd rfl (by first | exact Or.inl rfl | exact Or.inr rfl) (re_call D__law_gcd b.q (by decide) (by rfl) (ra_cons (re_ix (RE.b (re_var 13)) (RE.b re_int) (fun _ _ => rfl)) (ra_cons (re_ix (RE.b (re_var 13)) (RE.b re_int) (fun _ _ => rfl)) ra_nil))))
    (rss_cons (rs_set (i := 15) sc_law.nd rfl (by first | exact Or.inl rfl | exact Or.inr rfl) (re_op op_sub od_sub (RE.b (re_op or_add od_add (RE.b (re_ix (RE.b (re_var 13)) (RE.b re_int) (fun _ _ => rfl))) (RE.b (re_ix (RE.b (re_var 13)) (RE.b re_int) (fun _ _ => rfl))))) (RE.b (re_var 14))))
    (rss_cons (rs_if (rt_cmp (or_eq b.q.hu) od_eq (RE.b (re_var 14)) (RE.b (re_bi (c_min b.q.hc) d_min (by rfl) T.b_min PyProof.Rows.boot_min (rab_cons (RE.b (re_var 13)) rab_nil))) (nomark _)) (rss_one (rs_set (i := 15) sc_law.nd rfl (by first | exact Or.inl rfl | exact Or.inr rfl) re_int)) rss_nil)
    (rss_cons (rs_if (rt_not (rt_tru (RE.b (re_call D__law_orders b.q (by decide) (by rfl) (ra_cons (re_var 13) (ra_cons (re_var 14) (ra_cons (re_var 15) (ra_cons (re_var 1) (ra_cons re_int ra_nil))))))))) (rss_one (rs_ret re_bl)) rss_nil)
    (rss_one (rs_ret (re_call D__law_asked b.q (by decide) (by rfl) (ra_cons (re_var 9) (ra_cons (re_var 10) (ra_cons (re_var 11) (ra_cons re_int ra_nil)))))))))))))))))))))))))))
end
end K36
set_option maxHeartbeats 8000000
namespace K36
open PySem L2 Pc
section
theorem all_mk {l : PySem.W.OpenLaw} {w : World} {K : PySem.W.Frag} {h : Heap} {mg : Str → Option Value} {fa f0 f1 f2 f3 f4 f5 f6 f7 f8 f9 f10 f11 f12 f13 f14 f15 f16 f17 f18 f19 f20 : Addr} (X : K.In h) (G : h.Ns mainGlobals mg) (hfa : mg "law" = some (.ref fa))
    {od0 an0 od1 an1 od2 an2 od3 an3 od4 an4 od5 an5 od6 an6 od7 an7 od8 an8 od9 an9 od10 an10 od11 an11 od12 an12 od13 an13 od14 an14 od15 an15 od16 an16 od17 an17 od18 an18 od19 an19 od20 an20 : Option Addr} {sl0 sl1 sl2 sl3 sl4 sl5 sl6 sl7 sl8 sl9 sl10 sl11 sl12 sl13 sl14 sl15 sl16 sl17 sl18 sl19 sl20 : Array (Option Value)} {oc0 kV0 dc0 pm0 cd0 ct0 oc1 kV1 dc1 pm1 cd1 ct1 oc2 kV2 dc2 pm2 cd2 ct2 oc3 kV3 dc3 pm3 cd3 ct3 oc4 kV4 dc4 pm4 cd4 ct4 oc5 kV5 dc5 pm5 cd5 ct5 oc6 kV6 dc6 pm6 cd6 ct6 oc7 kV7 dc7 pm7 cd7 ct7 oc8 kV8 dc8 pm8 cd8 ct8 oc9 kV9 dc9 pm9 cd9 ct9 oc10 kV10 dc10 pm10 cd10 ct10 oc11 kV11 dc11 pm11 cd11 ct11 oc12 kV12 dc12 pm12 cd12 ct12 oc13 kV13 dc13 pm13 cd13 ct13 oc14 kV14 dc14 pm14 cd14 ct14 oc15 kV15 dc15 pm15 cd15 ct15 oc16 kV16 dc16 pm16 cd16 ct16 oc17 kV17 dc17 pm17 cd17 ct17 oc18 kV18 dc18 pm18 cd18 ct18 oc19 kV19 dc19 pm19 cd19 ct19 oc20 kV20 dc20 pm20 cd20 ct20 : Value}
    (a0 : PySem.W.nsIn K mainGlobals "_law_dig" = some (some (.ref f0))) (l0 : K.lookup f0 = some ⟨oc0, od0, .func (PySem.W.fnOf "_law_dig" "_law_dig" (defArgs s__law_dig) (defBody s__law_dig) (defScope s__law_dig) .none kV0 dc0 pm0 an0 cd0 ct0), sl0⟩) (c0 : PySem.W.codeIn K cd0 "_law_dig" = true) (k0 : PySem.W.keepIn K (.ref f0) = true)
    (a1 : PySem.W.nsIn K mainGlobals "_law_led_on" = some (some (.ref f1))) (l1 : K.lookup f1 = some ⟨oc1, od1, .func (PySem.W.fnOf "_law_led_on" "_law_led_on" (defArgs s__law_led_on) (defBody s__law_led_on) (defScope s__law_led_on) .none kV1 dc1 pm1 an1 cd1 ct1), sl1⟩) (c1 : PySem.W.codeIn K cd1 "_law_led_on" = true) (k1 : PySem.W.keepIn K (.ref f1) = true)
    (a2 : PySem.W.nsIn K mainGlobals "_law_two" = some (some (.ref f2))) (l2 : K.lookup f2 = some ⟨oc2, od2, .func (PySem.W.fnOf "_law_two" "_law_two" (defArgs s__law_two) (defBody s__law_two) (defScope s__law_two) .none kV2 dc2 pm2 an2 cd2 ct2), sl2⟩) (c2 : PySem.W.codeIn K cd2 "_law_two" = true) (k2 : PySem.W.keepIn K (.ref f2) = true)
    (a3 : PySem.W.nsIn K mainGlobals "_law_gcd" = some (some (.ref f3))) (l3 : K.lookup f3 = some ⟨oc3, od3, .func (PySem.W.fnOf "_law_gcd" "_law_gcd" (defArgs s__law_gcd) (defBody s__law_gcd) (defScope s__law_gcd) .none kV3 dc3 pm3 an3 cd3 ct3), sl3⟩) (c3 : PySem.W.codeIn K cd3 "_law_gcd" = true) (k3 : PySem.W.keepIn K (.ref f3) = true)
    (a4 : PySem.W.nsIn K mainGlobals "_law_number" = some (some (.ref f4))) (l4 : K.lookup f4 = some ⟨oc4, od4, .func (PySem.W.fnOf "_law_number" "_law_number" (defArgs s__law_number) (defBody s__law_number) (defScope s__law_number) .none kV4 dc4 pm4 an4 cd4 ct4), sl4⟩) (c4 : PySem.W.codeIn K cd4 "_law_number" = true) (k4 : PySem.W.keepIn K (.ref f4) = true)
    (a5 : PySem.W.nsIn K mainGlobals "check_many" = some (some (.ref f5))) (l5 : K.lookup f5 = some ⟨oc5, od5, .func (PySem.W.fnOf "check_many" "check_many" (defArgs s_check_many) (defBody s_check_many) (defScope s_check_many) .none kV5 dc5 pm5 an5 cd5 ct5), sl5⟩) (c5 : PySem.W.codeIn K cd5 "check_many" = true) (k5 : PySem.W.keepIn K (.ref f5) = true)
    (a6 : PySem.W.nsIn K mainGlobals "check_range" = some (some (.ref f6))) (l6 : K.lookup f6 = some ⟨oc6, od6, .func (PySem.W.fnOf "check_range" "check_range" (defArgs s_check_range) (defBody s_check_range) (defScope s_check_range) .none kV6 dc6 pm6 an6 cd6 ct6), sl6⟩) (c6 : PySem.W.codeIn K cd6 "check_range" = true) (k6 : PySem.W.keepIn K (.ref f6) = true)
    (a7 : PySem.W.nsIn K mainGlobals "check_periods" = some (some (.ref f7))) (l7 : K.lookup f7 = some ⟨oc7, od7, .func (PySem.W.fnOf "check_periods" "check_periods" (defArgs s_check_periods) (defBody s_check_periods) (defScope s_check_periods) .none kV7 dc7 pm7 an7 cd7 ct7), sl7⟩) (c7 : PySem.W.codeIn K cd7 "check_periods" = true) (k7 : PySem.W.keepIn K (.ref f7) = true)
    (a8 : PySem.W.nsIn K mainGlobals "require_period" = some (some (.ref f8))) (l8 : K.lookup f8 = some ⟨oc8, od8, .func (PySem.W.fnOf "require_period" "require_period" (defArgs s_require_period) (defBody s_require_period) (defScope s_require_period) .none kV8 dc8 pm8 an8 cd8 ct8), sl8⟩) (c8 : PySem.W.codeIn K cd8 "require_period" = true) (k8 : PySem.W.keepIn K (.ref f8) = true)
    (a9 : PySem.W.nsIn K mainGlobals "common_divisor" = some (some (.ref f9))) (l9 : K.lookup f9 = some ⟨oc9, od9, .func (PySem.W.fnOf "common_divisor" "common_divisor" (defArgs s_common_divisor) (defBody s_common_divisor) (defScope s_common_divisor) .none kV9 dc9 pm9 an9 cd9 ct9), sl9⟩) (c9 : PySem.W.codeIn K cd9 "common_divisor" = true) (k9 : PySem.W.keepIn K (.ref f9) = true)
    (a10 : PySem.W.nsIn K mainGlobals "_rounds" = some (some (.ref f10))) (l10 : K.lookup f10 = some ⟨oc10, od10, .func (PySem.W.fnOf "_rounds" "_rounds" (defArgs s__rounds) (defBody s__rounds) (defScope s__rounds) .none kV10 dc10 pm10 an10 cd10 ct10), sl10⟩) (c10 : PySem.W.codeIn K cd10 "_rounds" = true) (k10 : PySem.W.keepIn K (.ref f10) = true)
    (a11 : PySem.W.nsIn K mainGlobals "_lessened" = some (some (.ref f11))) (l11 : K.lookup f11 = some ⟨oc11, od11, .func (PySem.W.fnOf "_lessened" "_lessened" (defArgs s__lessened) (defBody s__lessened) (defScope s__lessened) .none kV11 dc11 pm11 an11 cd11 ct11), sl11⟩) (c11 : PySem.W.codeIn K cd11 "_lessened" = true) (k11 : PySem.W.keepIn K (.ref f11) = true)
    (a12 : PySem.W.nsIn K mainGlobals "threshold_of" = some (some (.ref f12))) (l12 : K.lookup f12 = some ⟨oc12, od12, .func (PySem.W.fnOf "threshold_of" "threshold_of" (defArgs s_threshold_of) (defBody s_threshold_of) (defScope s_threshold_of) .none kV12 dc12 pm12 an12 cd12 ct12), sl12⟩) (c12 : PySem.W.codeIn K cd12 "threshold_of" = true) (k12 : PySem.W.keepIn K (.ref f12) = true)
    (a13 : PySem.W.nsIn K mainGlobals "threshold" = some (some (.ref f13))) (l13 : K.lookup f13 = some ⟨oc13, od13, .func (PySem.W.fnOf "threshold" "threshold" (defArgs s_threshold) (defBody s_threshold) (defScope s_threshold) .none kV13 dc13 pm13 an13 cd13 ct13), sl13⟩) (c13 : PySem.W.codeIn K cd13 "threshold" = true) (k13 : PySem.W.keepIn K (.ref f13) = true)
    (a14 : PySem.W.nsIn K mainGlobals "_law_truth" = some (some (.ref f14))) (l14 : K.lookup f14 = some ⟨oc14, od14, .func (PySem.W.fnOf "_law_truth" "_law_truth" (defArgs s__law_truth) (defBody s__law_truth) (defScope s__law_truth) .none kV14 dc14 pm14 an14 cd14 ct14), sl14⟩) (c14 : PySem.W.codeIn K cd14 "_law_truth" = true) (k14 : PySem.W.keepIn K (.ref f14) = true)
    (a15 : PySem.W.nsIn K mainGlobals "forced" = some (some (.ref f15))) (l15 : K.lookup f15 = some ⟨oc15, od15, .func (PySem.W.fnOf "forced" "forced" (defArgs s_forced) (defBody s_forced) (defScope s_forced) .none kV15 dc15 pm15 an15 cd15 ct15), sl15⟩) (c15 : PySem.W.codeIn K cd15 "forced" = true) (k15 : PySem.W.keepIn K (.ref f15) = true)
    (a16 : PySem.W.nsIn K mainGlobals "_law_asked" = some (some (.ref f16))) (l16 : K.lookup f16 = some ⟨oc16, od16, .func (PySem.W.fnOf "_law_asked" "_law_asked" (defArgs s__law_asked) (defBody s__law_asked) (defScope s__law_asked) .none kV16 dc16 pm16 an16 cd16 ct16), sl16⟩) (c16 : PySem.W.codeIn K cd16 "_law_asked" = true) (k16 : PySem.W.keepIn K (.ref f16) = true)
    (a17 : PySem.W.nsIn K mainGlobals "_law_near" = some (some (.ref f17))) (l17 : K.lookup f17 = some ⟨oc17, od17, .func (PySem.W.fnOf "_law_near" "_law_near" (defArgs s__law_near) (defBody s__law_near) (defScope s__law_near) .none kV17 dc17 pm17 an17 cd17 ct17), sl17⟩) (c17 : PySem.W.codeIn K cd17 "_law_near" = true) (k17 : PySem.W.keepIn K (.ref f17) = true)
    (a18 : PySem.W.nsIn K mainGlobals "_law_multiple" = some (some (.ref f18))) (l18 : K.lookup f18 = some ⟨oc18, od18, .func (PySem.W.fnOf "_law_multiple" "_law_multiple" (defArgs s__law_multiple) (defBody s__law_multiple) (defScope s__law_multiple) .none kV18 dc18 pm18 an18 cd18 ct18), sl18⟩) (c18 : PySem.W.codeIn K cd18 "_law_multiple" = true) (k18 : PySem.W.keepIn K (.ref f18) = true)
    (a19 : PySem.W.nsIn K mainGlobals "_law_orders" = some (some (.ref f19))) (l19 : K.lookup f19 = some ⟨oc19, od19, .func (PySem.W.fnOf "_law_orders" "_law_orders" (defArgs s__law_orders) (defBody s__law_orders) (defScope s__law_orders) .none kV19 dc19 pm19 an19 cd19 ct19), sl19⟩) (c19 : PySem.W.codeIn K cd19 "_law_orders" = true) (k19 : PySem.W.keepIn K (.ref f19) = true)
    (a20 : PySem.W.nsIn K mainGlobals "law" = some (some (.ref f20))) (l20 : K.lookup f20 = some ⟨oc20, od20, .func (PySem.W.fnOf "law" "law" (defArgs s_law) (defBody s_law) (defScope s_law) .none kV20 dc20 pm20 an20 cd20 ct20), sl20⟩) (c20 : PySem.W.codeIn K cd20 "law" = true) (k20 : PySem.W.keepIn K (.ref f20) = true)
    (z_gcd : PySem.W.nsIn K mainGlobals "gcd" = some (some (.builtin "math.gcd")))
    (z_abs : PySem.W.nsIn K mainGlobals "abs" = some none)
    (z_all : PySem.W.nsIn K mainGlobals "all" = some none)
    (z_bool : PySem.W.nsIn K mainGlobals "bool" = some none)
    (z_int : PySem.W.nsIn K mainGlobals "int" = some none)
    (z_isinstance : PySem.W.nsIn K mainGlobals "isinstance" = some none)
    (z_len : PySem.W.nsIn K mainGlobals "len" = some none)
    (z_list : PySem.W.nsIn K mainGlobals "list" = some none)
    (z_max : PySem.W.nsIn K mainGlobals "max" = some none)
    (z_min : PySem.W.nsIn K mainGlobals "min" = some none)
    (z_range : PySem.W.nsIn K mainGlobals "range" = some none)
    (z_reversed : PySem.W.nsIn K mainGlobals "reversed" = some none)
    (z_set : PySem.W.nsIn K mainGlobals "set" = some none)
    (z_sorted : PySem.W.nsIn K mainGlobals "sorted" = some none)
    {t_LONGEST : Tok} (z_LONGEST : PySem.W.nsIn K mainGlobals "LONGEST" = some (some (.int 1000000000000000000 t_LONGEST)))
    {t_MOST_PERIODS : Tok} (z_MOST_PERIODS : PySem.W.nsIn K mainGlobals "MOST_PERIODS" = some (some (.int 6 t_MOST_PERIODS)))
    : ∃ fd : FuncData, (∀ (s : Shared) (v : Value), BindsTo s fd ⟨[v], []⟩ [("script", v)]) ∧ ∀ base : Heap, K.In base → base.Ns mainGlobals mg → FnOk l.prog w K mg base (L2.CX l.prog w) 6 fa fd ["script"] (spLaw K) := by
  have e := hfa.symm.trans (PySem.W.mg_of X G a20)
  cases e
  have T : Txt mg := ⟨PySem.W.mg_of X G z_gcd, PySem.W.mg_none_of X G z_abs, PySem.W.mg_none_of X G z_all, PySem.W.mg_none_of X G z_bool, PySem.W.mg_none_of X G z_int, PySem.W.mg_none_of X G z_isinstance, PySem.W.mg_none_of X G z_len, PySem.W.mg_none_of X G z_list, PySem.W.mg_none_of X G z_max, PySem.W.mg_none_of X G z_min, PySem.W.mg_none_of X G z_range, PySem.W.mg_none_of X G z_reversed, PySem.W.mg_none_of X G z_set, PySem.W.mg_none_of X G z_sorted, ⟨_, PySem.W.mg_of X G z_LONGEST⟩, ⟨_, PySem.W.mg_of X G z_MOST_PERIODS⟩⟩
  have F0 := fun_mk (st := s__law_dig) l0 c0 k0
  have b0 := F0.binds (ps := ["cells", "place", "sizes"]) fun _ _ _ _ _ _ us hl => match us, hl with | [_, _, _], _ => rfl
  have F1 := fun_mk (st := s__law_led_on) l1 c1 k1
  have b1 := F1.binds (ps := ["cells", "periods", "unit", "due", "rounds"]) fun _ _ _ _ _ _ us hl => match us, hl with | [_, _, _, _, _], _ => rfl
  have F2 := fun_mk (st := s__law_two) l2 c2 k2
  have b2 := F2.binds (ps := ["row"]) fun _ _ _ _ _ _ us hl => match us, hl with | [_], _ => rfl
  have F3 := fun_mk (st := s__law_gcd) l3 c3 k3
  have b3 := F3.binds (ps := ["first", "second"]) fun _ _ _ _ _ _ us hl => match us, hl with | [_, _], _ => rfl
  have F4 := fun_mk (st := s__law_number) l4 c4 k4
  have b4 := F4.binds (ps := ["told", "due"]) fun _ _ _ _ _ _ us hl => match us, hl with | [_, _], _ => rfl
  have F5 := fun_mk (st := s_check_many) l5 c5 k5
  have b5 := F5.binds (ps := ["things", "most"]) fun _ _ _ _ _ _ us hl => match us, hl with | [_, _], _ => rfl
  have F6 := fun_mk (st := s_check_range) l6 c6 k6
  have b6 := F6.binds (ps := ["value", "low", "high"]) fun _ _ _ _ _ _ us hl => match us, hl with | [_, _, _], _ => rfl
  have F7 := fun_mk (st := s_check_periods) l7 c7 k7
  have b7 := F7.binds (ps := ["periods"]) fun _ _ _ _ _ _ us hl => match us, hl with | [_], _ => rfl
  have F8 := fun_mk (st := s_require_period) l8 c8 k8
  have b8 := F8.binds (ps := ["periods"]) fun _ _ _ _ _ _ us hl => match us, hl with | [_], _ => rfl
  have F9 := fun_mk (st := s_common_divisor) l9 c9 k9
  have b9 := F9.binds (ps := ["numbers"]) fun _ _ _ _ _ _ us hl => match us, hl with | [_], _ => rfl
  have F10 := fun_mk (st := s__rounds) l10 c10 k10
  have b10 := F10.binds (ps := ["rows"]) fun _ _ _ _ _ _ us hl => match us, hl with | [_], _ => rfl
  have F11 := fun_mk (st := s__lessened) l11 c11 k11
  have b11 := F11.binds (ps := ["rows", "rounds"]) fun _ _ _ _ _ _ us hl => match us, hl with | [_, _], _ => rfl
  have F12 := fun_mk (st := s_threshold_of) l12 c12 k12
  have b12 := F12.binds (ps := ["periods"]) fun _ _ _ _ _ _ us hl => match us, hl with | [_], _ => rfl
  have F13 := fun_mk (st := s_threshold) l13 c13 k13
  have b13 := F13.binds (ps := ["periods"]) fun _ _ _ _ _ _ us hl => match us, hl with | [_], _ => rfl
  have F14 := fun_mk (st := s__law_truth) l14 c14 k14
  have b14 := F14.binds (ps := ["told", "due"]) fun _ _ _ _ _ _ us hl => match us, hl with | [_, _], _ => rfl
  have F15 := fun_mk (st := s_forced) l15 c15 k15
  have b15 := F15.binds (ps := ["periods", "length"]) fun _ _ _ _ _ _ us hl => match us, hl with | [_, _], _ => rfl
  have F16 := fun_mk (st := s__law_asked) l16 c16 k16
  have b16 := F16.binds (ps := ["periods", "unit", "due", "far"]) fun _ _ _ _ _ _ us hl => match us, hl with | [_, _, _, _], _ => rfl
  have F17 := fun_mk (st := s__law_near) l17 c17 k17
  have b17 := F17.binds (ps := ["periods", "step"]) fun _ _ _ _ _ _ us hl => match us, hl with | [_, _], _ => rfl
  have F18 := fun_mk (st := s__law_multiple) l18 c18 k18
  have b18 := F18.binds (ps := ["unit", "due", "draw"]) fun _ _ _ _ _ _ us hl => match us, hl with | [_, _, _], _ => rfl
  have F19 := fun_mk (st := s__law_orders) l19 c19 k19
  have b19 := F19.binds (ps := ["periods", "unit", "due", "cells", "place"]) fun _ _ _ _ _ _ us hl => match us, hl with | [_, _, _, _, _], _ => rfl
  have F20 := fun_mk (st := s_law) l20 c20 k20
  have b20 := F20.binds (ps := ["script"]) fun _ _ _ _ _ _ us hl => match us, hl with | [_], _ => rfl
  refine ⟨PySem.W.fnOf "law" "law" (defArgs s_law) (defBody s_law) (defScope s_law) .none kV20 dc20 pm20 an20 cd20 ct20, fun s v => .of_eq rfl, fun base _ _ => ?_⟩
  have D0 := d__law_dig (P := l.prog) (w := w) (base := base) T F0 (PySem.W.mg_of X G a0) b0 
  have D1 := d__law_led_on (P := l.prog) (w := w) (base := base) T F1 (PySem.W.mg_of X G a1) b1 D0
  have D2 := d__law_two (P := l.prog) (w := w) (base := base) T F2 (PySem.W.mg_of X G a2) b2 
  have D3 := d__law_gcd (P := l.prog) (w := w) (base := base) T F3 (PySem.W.mg_of X G a3) b3 
  have D4 := d__law_number (P := l.prog) (w := w) (base := base) T F4 (PySem.W.mg_of X G a4) b4 
  have D5 := d_check_many (P := l.prog) (w := w) (base := base) T F5 (PySem.W.mg_of X G a5) b5 
  have D6 := d_check_range (P := l.prog) (w := w) (base := base) T F6 (PySem.W.mg_of X G a6) b6 
  have D7 := d_check_periods (P := l.prog) (w := w) (base := base) T F7 (PySem.W.mg_of X G a7) b7 D5 D6
  have D8 := d_require_period (P := l.prog) (w := w) (base := base) T F8 (PySem.W.mg_of X G a8) b8 
  have D9 := d_common_divisor (P := l.prog) (w := w) (base := base) T F9 (PySem.W.mg_of X G a9) b9 
  have D10 := d__rounds (P := l.prog) (w := w) (base := base) T F10 (PySem.W.mg_of X G a10) b10 
  have D11 := d__lessened (P := l.prog) (w := w) (base := base) T F11 (PySem.W.mg_of X G a11) b11 
  have D12 := d_threshold_of (P := l.prog) (w := w) (base := base) T F12 (PySem.W.mg_of X G a12) b12 D9 D10 D11
  have D13 := d_threshold (P := l.prog) (w := w) (base := base) T F13 (PySem.W.mg_of X G a13) b13 D7 D8 D12
  have D14 := d__law_truth (P := l.prog) (w := w) (base := base) T F14 (PySem.W.mg_of X G a14) b14 
  have D15 := d_forced (P := l.prog) (w := w) (base := base) T F15 (PySem.W.mg_of X G a15) b15 D7 D6 D8 D9 D12
  have D16 := d__law_asked (P := l.prog) (w := w) (base := base) T F16 (PySem.W.mg_of X G a16) b16 D4 D13 D14 D15
  have D17 := d__law_near (P := l.prog) (w := w) (base := base) T F17 (PySem.W.mg_of X G a17) b17 
  have D18 := d__law_multiple (P := l.prog) (w := w) (base := base) T F18 (PySem.W.mg_of X G a18) b18 
  have D19 := d__law_orders (P := l.prog) (w := w) (base := base) T F19 (PySem.W.mg_of X G a19) b19 D0 D16 D18
  exact law_fn main (ok_law (P := l.prog) (w := w) (base := base) T F20 D0 D17 D19 D1 D2 D3 D16)
end
end K36
open PySem PySem.W PyProof.Rows
set_option maxHeartbeats 0 in
theorem PySem.Challenge.cw_wordruns_k36_far_thresholds_holds : PySem.Challenge.rw_wordruns_k36_far_thresholds.Holds := by
  w_on; o_law; k_head; (case hw => w_witness2)
  k_fill
  refine Pc.law_walk (l := PySem.Challenge.rw_wordruns_k36_far_thresholds) (k := 6) rfl rfl ⟨rfl, by decide, by decide⟩ (fun w h Y => PySem.W.kIn_of Y) ?F
  case F =>
    intro w mg fa h KX G hmg
    refine' K36.all_mk KX G hmg ?a0 ?l0 ?c0 ?k0 ?a1 ?l1 ?c1 ?k1 ?a2 ?l2 ?c2 ?k2 ?a3 ?l3 ?c3 ?k3 ?a4 ?l4 ?c4 ?k4 ?a5 ?l5 ?c5 ?k5 ?a6 ?l6 ?c6 ?k6 ?a7 ?l7 ?c7 ?k7 ?a8 ?l8 ?c8 ?k8 ?a9 ?l9 ?c9 ?k9 ?a10 ?l10 ?c10 ?k10 ?a11 ?l11 ?c11 ?k11 ?a12 ?l12 ?c12 ?k12 ?a13 ?l13 ?c13 ?k13 ?a14 ?l14 ?c14 ?k14 ?a15 ?l15 ?c15 ?k15 ?a16 ?l16 ?c16 ?k16 ?a17 ?l17 ?c17 ?k17 ?a18 ?l18 ?c18 ?k18 ?a19 ?l19 ?c19 ?k19 ?a20 ?l20 ?c20 ?k20 ?z_gcd ?z_abs ?z_all ?z_bool ?z_int ?z_isinstance ?z_len ?z_list ?z_max ?z_min ?z_range ?z_reversed ?z_set ?z_sorted ?z_LONGEST ?z_MOST_PERIODS
    (case a0 => k_is)
    (case l0 => k_is)
    (case c0 => k_is)
    (case k0 => k_is)
    (case a1 => k_is)
    (case l1 => k_is)
    (case c1 => k_is)
    (case k1 => k_is)
    (case a2 => k_is)
    (case l2 => k_is)
    (case c2 => k_is)
    (case k2 => k_is)
    (case a3 => k_is)
    (case l3 => k_is)
    (case c3 => k_is)
    (case k3 => k_is)
    (case a4 => k_is)
    (case l4 => k_is)
    (case c4 => k_is)
    (case k4 => k_is)
    (case a5 => k_is)
    (case l5 => k_is)
    (case c5 => k_is)
    (case k5 => k_is)
    (case a6 => k_is)
    (case l6 => k_is)
    (case c6 => k_is)
    (case k6 => k_is)
    (case a7 => k_is)
    (case l7 => k_is)
    (case c7 => k_is)
    (case k7 => k_is)
    (case a8 => k_is)
    (case l8 => k_is)
    (case c8 => k_is)
    (case k8 => k_is)
    (case a9 => k_is)
    (case l9 => k_is)
    (case c9 => k_is)
    (case k9 => k_is)
    (case a10 => k_is)
    (case l10 => k_is)
    (case c10 => k_is)
    (case k10 => k_is)
    (case a11 => k_is)
    (case l11 => k_is)
    (case c11 => k_is)
    (case k11 => k_is)
    (case a12 => k_is)
    (case l12 => k_is)
    (case c12 => k_is)
    (case k12 => k_is)
    (case a13 => k_is)
    (case l13 => k_is)
    (case c13 => k_is)
    (case k13 => k_is)
    (case a14 => k_is)
    (case l14 => k_is)
    (case c14 => k_is)
    (case k14 => k_is)
    (case a15 => k_is)
    (case l15 => k_is)
    (case c15 => k_is)
    (case k15 => k_is)
    (case a16 => k_is)
    (case l16 => k_is)
    (case c16 => k_is)
    (case k16 => k_is)
    (case a17 => k_is)
    (case l17 => k_is)
    (case c17 => k_is)
    (case k17 => k_is)
    (case a18 => k_is)
    (case l18 => k_is)
    (case c18 => k_is)
    (case k18 => k_is)
    (case a19 => k_is)
    (case l19 => k_is)
    (case c19 => k_is)
    (case k19 => k_is)
    (case a20 => k_is)
    (case l20 => k_is)
    (case c20 => k_is)
    (case k20 => k_is)
    (case z_gcd => k_is)
    (case z_abs => k_is)
    (case z_all => k_is)
    (case z_bool => k_is)
    (case z_int => k_is)
    (case z_isinstance => k_is)
    (case z_len => k_is)
    (case z_list => k_is)
    (case z_max => k_is)
    (case z_min => k_is)
    (case z_range => k_is)
    (case z_reversed => k_is)
    (case z_set => k_is)
    (case z_sorted => k_is)
    (case z_LONGEST => k_is)
    (case z_MOST_PERIODS => k_is)
