import PyProof.Rows.All
import Wide.All
import OpenK.AllK
import Wide.FinOn
import HandS.ForMost
import HandS.IsInst
import HandS.Wide
import HandS.Flow
import HandS.TupAny
import HandS.Conv
import HandS.Defaults
import HandS.Words
import HandS.WordsExc
import HandS.Head0
import HandS.Head1
import HandS.Head2
import HandS.HeadEnd
import HandS.HeadHook1
import HandS.HeadHook2
import PySem.Challenge.RW_fardials_k81_grafts_associate
set_option Elab.async false
set_option linter.all false
set_option maxRecDepth 100000
set_option maxHeartbeats 4000000
/-! PD1: data, what a value stands for in a heap, steps of heaps, slots. -/
namespace PD
open PySem L2

/-- data: values with what they hold -/
inductive D where
  | non | bl (b : Bool) | int (i : Int) | str (s : Str) | tup (l : List D) | lst (l : List D) | fl (l : List D) | ins (c : Str) (fs : List (Str × D))

/-- a class's name to where it stands -/
structure Wd where
  K : PySem.W.Frag
  cls : Str → Option Addr

mutual
inductive Rep (W : Wd) (G : Hp) : V → D → Prop
  | non : Rep W G .non .non
  | bl {b : Bool} : Rep W G (.bl b) (.bl b)
  | int {i : Int} : Rep W G (.int i) (.int i)
  | str {x : Str} : Rep W G (.str x) (.str x)
  | tup {a : Addr} {vs : List V} {ds : List D} : SqT W.K G a vs → Reps W G vs ds → Rep W G (.ref a) (.tup ds)
  | lst {a : Addr} {vs : List V} {ds : List D} : G a = some (.lst vs) → Reps W G vs ds → Rep W G (.ref a) (.lst ds)
  | fl {a : Addr} {vs : List V} {ds : List D} : SqL W.K G a vs → Reps W G vs ds → Rep W G (.ref a) (.fl ds)
  | ins {a dx C : Addr} {c : Str} {vs : List (Str × V)} {fs : List (Str × D)} : W.cls c = some C → G a = some (.ins C dx vs) → RepF W G vs fs → Rep W G (.ref a) (.ins c fs)
inductive Reps (W : Wd) (G : Hp) : List V → List D → Prop
  | nil : Reps W G [] []
  | cons {v : V} {vs : List V} {d : D} {ds : List D} : Rep W G v d → Reps W G vs ds → Reps W G (v :: vs) (d :: ds)
inductive RepF (W : Wd) (G : Hp) : List (Str × V) → List (Str × D) → Prop
  | nil : RepF W G [] []
  | cons {n : Str} {v : V} {vs : List (Str × V)} {d : D} {ds : List (Str × D)} : Rep W G v d → RepF W G vs ds → RepF W G ((n, v) :: vs) ((n, d) :: ds)
end

/-- what is known stays -/
def Ex (H H' : Hp) : Prop := ∀ a o, H a = some o → H' a = some o
theorem Ex.refl (H : Hp) : Ex H H := fun _ _ h => h
theorem Ex.trans {H H1 H2 : Hp} (a : Ex H H1) (b : Ex H1 H2) : Ex H H2 := fun x o h => b x o (a x o h)
theorem Ex.new {H : Hp} {p : Addr} {o : HO} (h : H p = none) : Ex H (upd H p o) := fun a u e => by
  rw [upd_ne (ne_of_none e h)]
  exact e
theorem Ex.free {H H' : Hp} {p : Addr} (e : Ex H H') (h : H' p = none) : H p = none := by
  cases h1 : H p with
  | none => rfl
  | some o => rw [e p o h1] at h; cases h
theorem Ex.rd {H H' : Hp} {a : Addr} {u : HO} (e : Ex H H') (h : Rd H a u) : Rd H' a u := by
  rcases h with h | ⟨o, h⟩
  · exact .inl (e a _ h)
  · exact .inr ⟨o, e a _ h⟩
theorem Ex.sql {K : PySem.W.Frag} {H H' : Hp} {a : Addr} {xs : List V} (e : Ex H H') (h : SqL K H a xs) : SqL K H' a xs := by
  rcases h with h | h
  · exact .inl (e.rd h)
  · exact .inr h
theorem Ex.sqt {K : PySem.W.Frag} {H H' : Hp} {a : Addr} {xs : List V} (e : Ex H H') (h : SqT K H a xs) : SqT K H' a xs := by
  rcases h with h | h
  · exact .inl (e.rd h)
  · exact .inr h

mutual
theorem Rep.mono {W : Wd} {G G' : Hp} (e : Ex G G') : ∀ {v : V} {d : D}, Rep W G v d → Rep W G' v d
  | _, _, .non => .non
  | _, _, .bl => .bl
  | _, _, .int => .int
  | _, _, .str => .str
  | _, _, .tup h r => .tup (e.sqt h) (Reps.mono e r)
  | _, _, .lst h r => .lst (e _ _ h) (Reps.mono e r)
  | _, _, .fl h r => .fl (e.sql h) (Reps.mono e r)
  | _, _, .ins c h r => .ins c (e _ _ h) (RepF.mono e r)
theorem Reps.mono {W : Wd} {G G' : Hp} (e : Ex G G') : ∀ {vs : List V} {ds : List D}, Reps W G vs ds → Reps W G' vs ds
  | _, _, .nil => .nil
  | _, _, .cons r t => .cons (Rep.mono e r) (Reps.mono e t)
theorem RepF.mono {W : Wd} {G G' : Hp} (e : Ex G G') : ∀ {vs : List (Str × V)} {ds : List (Str × D)}, RepF W G vs ds → RepF W G' vs ds
  | _, _, .nil => .nil
  | _, _, .cons r t => .cons (Rep.mono e r) (RepF.mono e t)
end
section
variable {W : Wd} {G G' : Hp}
theorem Reps.length : ∀ {vs : List V} {ds : List D}, Reps W G vs ds → vs.length = ds.length
  | _, _, .nil => rfl
  | _, _, .cons _ t => by rw [List.length_cons, List.length_cons, Reps.length t]
theorem Reps.get : ∀ {vs : List V} {ds : List D} {i : Nat} {d : D}, Reps W G vs ds → ds[i]? = some d → ∃ v, vs[i]? = some v ∧ Rep W G v d
  | _, _, _, _, .nil, e => by simp at e
  | _, _, 0, _, .cons r _, e => by simp at e; subst e; exact ⟨_, rfl, r⟩
  | _, _, i + 1, d, .cons _ t, e => by
    obtain ⟨v, h1, h2⟩ := Reps.get (i := i) (d := d) t (by simpa using e)
    exact ⟨v, by simpa using h1, h2⟩
theorem Reps.getV : ∀ {vs : List V} {ds : List D} {i : Nat} {v : V}, Reps W G vs ds → vs[i]? = some v → ∃ d, ds[i]? = some d ∧ Rep W G v d
  | _, _, _, _, .nil, e => by simp at e
  | _, _, 0, _, .cons r _, e => by simp at e; subst e; exact ⟨_, rfl, r⟩
  | _, _, i + 1, d, .cons _ t, e => by
    obtain ⟨v, h1, h2⟩ := Reps.getV (i := i) (v := d) t (by simpa using e)
    exact ⟨v, by simpa using h1, h2⟩
theorem Reps.append : ∀ {vs ws : List V} {ds es : List D}, Reps W G vs ds → Reps W G ws es → Reps W G (vs ++ ws) (ds ++ es)
  | _, _, _, _, .nil, s => s
  | _, _, _, _, .cons r t, s => .cons r (Reps.append t s)
theorem Reps.take : ∀ {vs : List V} {ds : List D} (n : Nat), Reps W G vs ds → Reps W G (vs.take n) (ds.take n)
  | _, _, 0, _ => by simp; exact .nil
  | _, _, _ + 1, .nil => .nil
  | _, _, n + 1, .cons r t => .cons r (Reps.take n t)
theorem Reps.drop : ∀ {vs : List V} {ds : List D} (n : Nat), Reps W G vs ds → Reps W G (vs.drop n) (ds.drop n)
  | _, _, 0, r => r
  | _, _, _ + 1, .nil => .nil
  | _, _, n + 1, .cons _ t => Reps.drop n t
theorem Reps.set {v : V} {d : D} (r : Rep W G v d) : ∀ {vs : List V} {ds : List D} (i : Nat), Reps W G vs ds → Reps W G (vs.set i v) (ds.set i d)
  | _, _, _, .nil => .nil
  | _, _, 0, .cons _ t => .cons r t
  | _, _, i + 1, .cons q t => .cons q (Reps.set r i t)
theorem Reps.reverse : ∀ {vs : List V} {ds : List D}, Reps W G vs ds → Reps W G vs.reverse ds.reverse
  | _, _, .nil => .nil
  | _, _, .cons r t => by rw [List.reverse_cons, List.reverse_cons]; exact (Reps.reverse t).append (.cons r .nil)
theorem Reps.dropLast {vs : List V} {ds : List D} (r : Reps W G vs ds) : Reps W G vs.dropLast ds.dropLast := by
  rw [List.dropLast_eq_take, List.dropLast_eq_take, r.length]
  exact r.take _
theorem Reps.ints : ∀ {vs : List V} {ns : List Int}, Reps W G vs (ns.map D.int) → vs = ns.map V.int
  | _, [], .nil => rfl
  | _, n :: ns, .cons r t => by
    cases r
    rw [List.map_cons, ← Reps.ints t]
theorem Reps.ofInts : ∀ (ns : List Int), Reps W G (ns.map V.int) (ns.map D.int)
  | [] => .nil
  | _ :: ns => .cons .int (Reps.ofInts ns)
theorem Reps.bools : ∀ {vs : List V} {ns : List Bool}, Reps W G vs (ns.map D.bl) → vs = ns.map V.bl
  | _, [], .nil => rfl
  | _, n :: ns, .cons r t => by
    cases r
    rw [List.map_cons, ← Reps.bools t]
theorem Reps.rep {vs : List V} {ds : List D} (r : Reps W G vs ds) : ∀ k : Nat, Reps W G (List.replicate k vs).flatten (List.replicate k ds).flatten
  | 0 => .nil
  | k + 1 => by
    rw [List.replicate_succ, List.replicate_succ, List.flatten_cons, List.flatten_cons]
    exact r.append (Reps.rep r k)
theorem Reps.snoc {vs : List V} {ds : List D} {v : V} {d : D} (r : Reps W G vs ds) (h : Rep W G v d) : Reps W G (vs ++ [v]) (ds ++ [d]) := r.append (.cons h .nil)
end

/-- from the data heap G in the heap H on to G' in H': all stays, what H knows beside G does not come into G' -/
structure Step (G H G' H' : Hp) : Prop where
  hx : Ex H H'
  gx : Ex G G'
  sub : Ex G' H'
  av : ∀ a, H a ≠ none → G a = none → G' a = none
theorem Step.refl {G H : Hp} (h : Ex G H) : Step G H G H := ⟨.refl _, .refl _, h, fun _ _ z => z⟩
theorem Step.trans {G H G1 H1 G2 H2 : Hp} (a : Step G H G1 H1) (b : Step G1 H1 G2 H2) : Step G H G2 H2 :=
  ⟨a.hx.trans b.hx, a.gx.trans b.gx, b.sub, fun x h z => b.av x (fun q => h (a.hx.free q)) (a.av x h z)⟩
/-- a new object, data -/
theorem Step.newD {G H : Hp} {p : Addr} {o : HO} (h : Ex G H) (hp : H p = none) : Step G H (upd G p o) (upd H p o) :=
  ⟨.new hp, .new (h.free hp), fun a u e => by
    by_cases q : a = p
    · subst q; rw [upd_same] at e ⊢; exact e
    · rw [upd_ne q] at e ⊢; exact h a u e, fun a h1 h2 => by rw [upd_ne (fun q => h1 (by rw [q]; exact hp))]; exact h2⟩
/-- a new object, beside the data -/
theorem Step.newO {G H : Hp} {p : Addr} {o : HO} (h : Ex G H) (hp : H p = none) : Step G H G (upd H p o) :=
  ⟨.new hp, .refl _, h.trans (.new hp), fun _ _ z => z⟩

/-- what a slot holds: nothing known, data, a list (an instance) of our own -/
inductive Sl where
  | un | dat (d : D) | own (l : List D)

/-- a list of our own: known to H, beside the data -/
def Own (W : Wd) (G H : Hp) (p : Addr) (ds : List D) : Prop := ∃ vs, H p = some (.lst vs) ∧ G p = none ∧ Reps W G vs ds
theorem Own.step {W : Wd} {G H G' H' : Hp} {p : Addr} {ds : List D} (s : Step G H G' H') (o : Own W G H p ds) : Own W G' H' p ds := by
  obtain ⟨vs, h1, h2, h3⟩ := o
  exact ⟨vs, s.hx _ _ h1, s.av p (by rw [h1]; simp) h2, h3.mono s.gx⟩
/-- an own list given over to the data -/
theorem Own.give {W : Wd} {G H : Hp} {p : Addr} {ds : List D} (h : Ex G H) (o : Own W G H p ds) : ∃ vs, H p = some (.lst vs) ∧ Ex G (upd G p (.lst vs)) ∧ Ex (upd G p (.lst vs)) H ∧ Rep W (upd G p (.lst vs)) (.ref p) (.lst ds) ∧ G p = none := by
  obtain ⟨vs, h1, h2, h3⟩ := o
  refine ⟨vs, h1, .new h2, fun a u e => ?_, .lst upd_same (h3.mono (.new h2)), h2⟩
  by_cases q : a = p
  · subst q; rw [upd_same] at e; cases e; exact h1
  · rw [upd_ne q] at e; exact h a u e

def SlOk (W : Wd) (H0 G H : Hp) : Sl → Option V → Prop
  | .un, _ => True
  | .dat d, some v => Rep W G v d
  | .own ds, some v => ∃ p, v = .ref p ∧ H0 p = none ∧ Own W G H p ds
  | _, none => False
theorem SlOk.step {W : Wd} {H0 G H G' H' : Hp} (s : Step G H G' H') : ∀ {l : Sl} {v : Option V}, SlOk W H0 G H l v → SlOk W H0 G' H' l v
  | .un, _, _ => trivial
  | .dat _, some _, h => Rep.mono s.gx h
  | .own _, some _, ⟨p, e, n, o⟩ => ⟨p, e, n, o.step s⟩

abbrev Env := List Sl
/-- the slots stand for what the environment says -/
structure Vd (W : Wd) (H0 : Hp) (ρ : Env) (σ : L2.St) (G H : Hp) : Prop where
  sub : Ex G H
  len : σ.length = ρ.length
  slot : ∀ (i : Nat) (l : Sl) (v : Option V), ρ[i]? = some l → σ[i]? = some v → SlOk W H0 G H l v
  apart : ∀ (i j : Nat) (p : Addr) (ds es : List D), i ≠ j → ρ[i]? = some (.own ds) → ρ[j]? = some (.own es) → σ[i]? = some (some (.ref p)) → σ[j]? ≠ some (some (.ref p))
section
variable {W : Wd} {ρ : Env} {σ : L2.St} {H0 G H G' H' : Hp}
theorem Vd.step (d : Vd W H0 ρ σ G H) (s : Step G H G' H') : Vd W H0 ρ σ G' H' := ⟨s.sub, d.len, fun i l v e1 e2 => (d.slot i l v e1 e2).step s, d.apart⟩
theorem Vd.at (d : Vd W H0 ρ σ G H) {i : Nat} {l : Sl} (e : ρ[i]? = some l) : ∃ v, σ[i]? = some v ∧ SlOk W H0 G H l v := by
  have hi : i < σ.length := by rw [d.len]; exact (List.getElem?_eq_some_iff.mp e).1
  exact ⟨σ[i], List.getElem?_eq_getElem hi, d.slot i l _ e (List.getElem?_eq_getElem hi)⟩
theorem Vd.dat (d : Vd W H0 ρ σ G H) {i : Nat} {x : D} (e : ρ[i]? = some (.dat x)) : ∃ v, σ[i]? = some (some v) ∧ Rep W G v x := by
  obtain ⟨v, h1, h2⟩ := d.at e
  cases v with
  | none => exact h2.elim
  | some v => exact ⟨v, h1, h2⟩
theorem Vd.own (d : Vd W H0 ρ σ G H) {i : Nat} {x : List D} (e : ρ[i]? = some (.own x)) : ∃ p, σ[i]? = some (some (.ref p)) ∧ H0 p = none ∧ Own W G H p x := by
  obtain ⟨v, h1, h2⟩ := d.at e
  cases v with
  | none => exact h2.elim
  | some v =>
    obtain ⟨p, rfl, n, o⟩ := h2
    exact ⟨p, h1, n, o⟩
/-- data come into a slot -/
theorem Vd.setD (d : Vd W H0 ρ σ G H) (i : Nat) {v : V} {x : D} (r : Rep W G v x) : Vd W H0 (ρ.set i (.dat x)) (σ.set i (some v)) G H := by
  refine ⟨d.sub, by rw [List.length_set, List.length_set]; exact d.len, fun j l u e1 e2 => ?_, fun j k p ds es ne e1 e2 e3 e4 => ?_⟩
  · by_cases q : i = j
    · subst q
      have hi : i < σ.length := by have := (List.getElem?_eq_some_iff.mp e2).1; rwa [List.length_set] at this
      rw [List.getElem?_set_self (by rw [← d.len]; exact hi)] at e1
      rw [List.getElem?_set_self hi] at e2
      cases e1; cases e2
      exact r
    · rw [List.getElem?_set_ne q] at e1 e2
      exact d.slot j l u e1 e2
  · have nj : i ≠ j := fun q => by
      subst q
      have hi := (List.getElem?_eq_some_iff.mp e1).1
      rw [List.length_set] at hi
      rw [List.getElem?_set_self hi] at e1; cases e1
    have nk : i ≠ k := fun q => by
      subst q
      have hi := (List.getElem?_eq_some_iff.mp e2).1
      rw [List.length_set] at hi
      rw [List.getElem?_set_self hi] at e2; cases e2
    rw [List.getElem?_set_ne nj] at e1 e3
    rw [List.getElem?_set_ne nk] at e2 e4
    exact d.apart j k p ds es ne e1 e2 e3 e4
/-- an own list, known to no slot, comes into a slot -/
theorem Vd.setO (d : Vd W H0 ρ σ G H) (i : Nat) {p : Addr} {x : List D} (n : H0 p = none) (o : Own W G H p x) (f : ∀ (j : Nat) es, ρ[j]? = some (.own es) → σ[j]? ≠ some (some (.ref p))) : Vd W H0 (ρ.set i (.own x)) (σ.set i (some (.ref p))) G H := by
  refine ⟨d.sub, by rw [List.length_set, List.length_set]; exact d.len, fun j l u e1 e2 => ?_, fun j k q ds es ne e1 e2 e3 e4 => ?_⟩
  · by_cases q : i = j
    · subst q
      have hi : i < σ.length := by have := (List.getElem?_eq_some_iff.mp e2).1; rwa [List.length_set] at this
      rw [List.getElem?_set_self (by rw [← d.len]; exact hi)] at e1
      rw [List.getElem?_set_self hi] at e2
      cases e1; cases e2
      exact ⟨p, rfl, n, o⟩
    · rw [List.getElem?_set_ne q] at e1 e2
      exact d.slot j l u e1 e2
  · by_cases nj : i = j
    · subst nj
      have hi := (List.getElem?_eq_some_iff.mp e3).1
      rw [List.length_set] at hi
      rw [List.getElem?_set_self hi] at e3
      cases e3
      rw [List.getElem?_set_ne ne] at e2 e4
      exact f k es e2 e4
    · rw [List.getElem?_set_ne nj] at e1 e3
      by_cases nk : i = k
      · subst nk
        have hi := (List.getElem?_eq_some_iff.mp e4).1
        rw [List.length_set] at hi
        rw [List.getElem?_set_self hi] at e4
        cases e4
        exact f j ds e1 e3
      · rw [List.getElem?_set_ne nk] at e2 e4
        exact d.apart j k q ds es ne e1 e2 e3 e4
/-- a slot forgotten in the environment -/
theorem Vd.un (d : Vd W H0 ρ σ G H) (i : Nat) (v : Option V) : Vd W H0 (ρ.set i .un) (σ.set i v) G H := by
  refine ⟨d.sub, by rw [List.length_set, List.length_set]; exact d.len, fun j l u e1 e2 => ?_, fun j k p ds es ne e1 e2 e3 e4 => ?_⟩
  · by_cases q : i = j
    · subst q
      have hi : i < σ.length := by have := (List.getElem?_eq_some_iff.mp e2).1; rwa [List.length_set] at this
      rw [List.getElem?_set_self (by rw [← d.len]; exact hi)] at e1
      cases e1
      trivial
    · rw [List.getElem?_set_ne q] at e1 e2
      exact d.slot j l u e1 e2
  · have nj : i ≠ j := fun q => by
      subst q
      have hi := (List.getElem?_eq_some_iff.mp e1).1
      rw [List.length_set] at hi
      rw [List.getElem?_set_self hi] at e1; cases e1
    have nk : i ≠ k := fun q => by
      subst q
      have hi := (List.getElem?_eq_some_iff.mp e2).1
      rw [List.length_set] at hi
      rw [List.getElem?_set_self hi] at e2; cases e2
    rw [List.getElem?_set_ne nj] at e1 e3
    rw [List.getElem?_set_ne nk] at e2 e4
    exact d.apart j k p ds es ne e1 e2 e3 e4
theorem Vd.unE (d : Vd W H0 ρ σ G H) (i : Nat) : Vd W H0 (ρ.set i .un) σ G H := by
  by_cases hi : i < σ.length
  · have := d.un i σ[i]
    rwa [List.set_getElem_self] at this
  · rw [List.set_eq_of_length_le (by rw [← d.len]; omega)]
    exact d
end
/-- what an expression hands back -/
def ResOk (W : Wd) (H G' H' : Hp) : Sl → V → Prop
  | .un, _ => False
  | .dat d, v => Rep W G' v d
  | .own ds, v => ∃ p, v = .ref p ∧ H p = none ∧ Own W G' H' p ds
def Sl.toD : Sl → D
  | .un => .non
  | .dat d => d
  | .own l => .lst l
theorem ResOk.toD {W : Wd} {G H G' H' : Hp} (s : Step G H G' H') : ∀ {r : Sl} {v : V}, ResOk W H G' H' r v → ∃ G2, Step G H G2 H' ∧ Rep W G2 v r.toD ∧ Ex G' G2
  | .dat _, _, h => ⟨G', s, h, .refl _⟩
  | .own _, _, ⟨p, e, n, o⟩ => by
    subst e
    obtain ⟨vs, h1, h2, h3, h4, h5⟩ := o.give s.sub
    refine ⟨_, ⟨s.hx, s.gx.trans h2, h3, fun a ha hg => ?_⟩, h4, h2⟩
    rw [upd_ne (fun q => ha (by rw [q]; exact n))]
    exact s.av a ha hg
/-- .. after a step -/
theorem ResOk.pre {W : Wd} {G H G1 H1 G' H' : Hp} (s : Step G H G1 H1) : ∀ {r : Sl} {v : V}, ResOk W H1 G' H' r v → ResOk W H G' H' r v
  | .dat _, _, h => h
  | .own _, _, ⟨p, e, n, o⟩ => ⟨p, e, s.hx.free n, o⟩
end PD

set_option Elab.async false
set_option linter.all false
set_option maxRecDepth 100000
set_option maxHeartbeats 4000000
/-! PD2: operations on data, and that the machine's operations do them. -/
namespace PD
open PySem L2

mutual
def D.py : D → PyData
  | .non => .none
  | .bl b => .bool b
  | .int i => .int i
  | .str x => .str x
  | .tup l => .tuple (D.pys l)
  | .lst l => .list (D.pys l)
  | .fl l => .list (D.pys l)
  | .ins _ _ => .dict []
def D.pys : List D → List PyData
  | [] => []
  | d :: ds => d.py :: D.pys ds
end

inductive BO where | add | sub | mul | fdiv | mod | pow
  deriving DecidableEq
inductive CO where | lt | le | gt | ge | eq | ne | is_ | isn
  deriving DecidableEq

def guardO (c : Prop) [Decidable c] {α : Type} (x : α) : Option α := if c then some x else none
theorem guardO_eq {c : Prop} [Decidable c] {α : Type} {x y : α} (h : guardO c x = some y) : c ∧ x = y := by
  unfold guardO at h
  split at h
  · exact ⟨by assumption, Option.some.inj h⟩
  · cases h

def LIM : Nat := 1000000
theorem lim_le {n : Nat} (h : n ≤ LIM) : n ≤ sizeLine := Nat.le_trans h (by decide)
theorem lim_lt {n : Nat} (h : n ≤ LIM) : n < sizeLine := Nat.lt_of_le_of_lt h (by decide)

def vBin : BO → D → D → Option Sl
  | .add, .int i, .int j => some (.dat (.int (i + j)))
  | .add, .str x, .str y => guardO (x.length + y.length ≤ LIM) (.dat (.str (x ++ y)))
  | .add, .tup a, .tup b => guardO (a.length + b.length ≤ LIM) (.dat (.tup (a ++ b)))
  | .add, .lst a, .lst b => guardO (a.length + b.length ≤ LIM) (.own (a ++ b))
  | .sub, .int i, .int j => some (.dat (.int (i - j)))
  | .mul, .int i, .int j => guardO ((-(2 ^ 64) < i ∧ i < 2 ^ 64) ∨ (-(2 ^ 64) < j ∧ j < 2 ^ 64)) (.dat (.int (i * j)))
  | .mul, .lst a, .int k => guardO (k ≤ 1000000 ∧ -1000000 ≤ k ∧ a.length * k.toNat ≤ LIM) (.own (List.replicate k.toNat a).flatten)
  | .fdiv, .int i, .int j => guardO (0 < j ∧ j < 1073741824) (.dat (.int (i / j)))
  | .mod, .int i, .int j => guardO (0 < j) (.dat (.int (i % j)))
  | .pow, .int i, .int j => guardO (0 ≤ j ∧ j ≤ 1000000 ∧ i.natAbs < 2 ^ 64) (.dat (.int (i ^ j.toNat)))
  | _, _, _ => none

theorem canLayA {d : PyData} (h : SeqAt.shaped d = true) : d.canLay0 = true := SeqAt.canLay_of_shaped h
/-- == of data -/
def vEq (x y : D) : Option Bool := guardO (SeqAt.shaped x.py = true ∧ SeqAt.shaped y.py = true) (PyData.eqv x.py y.py)
def vCmp : CO → D → D → Option Bool
  | .lt, .int i, .int j => some (decide (i < j))
  | .le, .int i, .int j => some (decide (i ≤ j))
  | .gt, .int i, .int j => some (decide (j < i))
  | .ge, .int i, .int j => some (decide (j ≤ i))
  | .eq, .int i, .int j => some (decide (i = j))
  | .ne, .int i, .int j => some (!decide (i = j))
  | .eq, x, y => vEq x y
  | .ne, x, y => (vEq x y).map (!·)
  | .is_, .non, .non => some true
  | .is_, _, .non => some false
  | .isn, .non, .non => some false
  | .isn, _, .non => some true
  | _, _, _ => none

/-- what a rule on two values is to do, on data -/
def DR2 (W : Wd) (g : D → D → Option Sl) : R2 := fun x y H Q => ∃ G dx dy r, Ex G H ∧ Rep W G x dx ∧ Rep W G y dy ∧ g dx dy = some r ∧ ∀ v G' H', Step G H G' H' → ResOk W H G' H' r v → Q v H'
theorem OpR.imp {X : Cx} {f : Value → Value → Sem Value} {r r' : R2} (h : OpR X f r) (i : ∀ x y H Q, r' x y H Q → r x y H Q) : OpR X f r' :=
  fun pins s σ H x y v u Q I rx ry q => h pins s σ H x y v u Q I rx ry (i _ _ _ _ q)

section
variable {X : Cx} {W : Wd}
theorem vals_same {W : Wd} {G : Hp} {vs : List V} {ds : List D} (r : Reps W G vs ds) {k : Nat} (h : ds.length ≤ k) : vs.length ≤ k := by rw [r.length]; exact h
theorem opd_add (hK : X.K = W.K) : OpR X (binaryOp .Add) (DR2 W (vBin .add)) := by
  refine OpR.imp (((op_add (X := X)).or op_add_str).or (op_catA.or op_cat)) fun x y H Q h => ?_
  obtain ⟨G, dx, dy, r, ex, rx, ry, e, k⟩ := h
  cases rx <;> cases ry <;> first | cases e | skip
  · exact .inl (.inl ⟨_, _, rfl, rfl, k _ G H (.refl ex) .int⟩)
  · obtain ⟨h1, h2⟩ := guardO_eq e
    subst h2
    exact .inl (.inr ⟨_, _, rfl, rfl, lim_le h1, k _ G H (.refl ex) .str⟩)
  · rename_i a vs ds hs hr b ws es hs' hr'
    obtain ⟨h1, h2⟩ := guardO_eq e
    subst h2
    have hs1 := ex.sqt hs
    have hs2 := ex.sqt hs'
    rw [← hK] at hs1 hs2
    refine .inr (.inl ⟨a, b, vs, ws, rfl, rfl, hs1, hs2, by rw [hr.length, hr'.length]; exact lim_le h1, fun z => ?_, fun z1 z2 => ?_, fun z1 z2 p hp => ?_⟩)
    · subst z
      cases hr
      exact k _ G H (.refl ex) (.tup hs' hr')
    · subst z2
      cases hr'
      refine k _ G H (.refl ex) ?_
      show Rep W G (V.ref a) (D.tup (ds ++ []))
      rw [List.append_nil]
      exact .tup hs hr
    · refine k _ _ _ (.newD ex hp) ?_
      exact .tup (.inl (.inl upd_same)) ((hr.append hr').mono (.new (ex.free hp)))
  · rename_i a vs ds hs hr b ws es hs' hr'
    obtain ⟨h1, h2⟩ := guardO_eq e
    subst h2
    refine .inr (.inr ⟨a, b, vs, ws, rfl, rfl, ex _ _ hs, ex _ _ hs', by rw [hr.length, hr'.length]; exact lim_le h1, fun p hp => k _ G _ (.newO ex hp) ⟨p, rfl, hp, vs ++ ws, upd_same, ex.free hp, hr.append hr'⟩⟩)
theorem opd_sub : OpR X (binaryOp .Sub) (DR2 W (vBin .sub)) := by
  refine OpR.imp (op_sub (X := X)) fun x y H Q h => ?_
  obtain ⟨G, dx, dy, r, ex, rx, ry, e, k⟩ := h
  cases rx <;> cases ry <;> first | cases e | skip
  exact ⟨_, _, rfl, rfl, k _ G H (.refl ex) .int⟩
theorem opd_mul : OpR X (binaryOp .Mult) (DR2 W (vBin .mul)) := by
  refine OpR.imp ((op_mul (X := X)).or op_rep) fun x y H Q h => ?_
  obtain ⟨G, dx, dy, r, ex, rx, ry, e, k⟩ := h
  cases rx <;> cases ry <;> first | cases e | skip
  · obtain ⟨h1, h2⟩ := guardO_eq e
    subst h2
    exact .inl ⟨_, _, rfl, rfl, h1, k _ G H (.refl ex) .int⟩
  · rename_i a vs ds hs hr n
    obtain ⟨⟨h0, h1, h2⟩, h3⟩ := guardO_eq e
    subst h3
    refine .inr ⟨a, n, vs, rfl, rfl, ex _ _ hs, by omega, by omega, by rw [hr.length]; exact lim_le h2, fun p hp => k _ G _ (.newO ex hp) ⟨p, rfl, hp, _, upd_same, ex.free hp, hr.rep _⟩⟩
theorem opd_fdiv : OpR X (binaryOp .FloorDiv) (DR2 W (vBin .fdiv)) := by
  refine OpR.imp (op_fdiv (X := X)) fun x y H Q h => ?_
  obtain ⟨G, dx, dy, r, ex, rx, ry, e, k⟩ := h
  cases rx <;> cases ry <;> first | cases e | skip
  obtain ⟨h1, h2⟩ := guardO_eq e
  subst h2
  exact ⟨_, _, rfl, rfl, h1, k _ G H (.refl ex) .int⟩
theorem opd_mod : OpR X (binaryOp .Mod) (DR2 W (vBin .mod)) := by
  refine OpR.imp (op_mod (X := X)) fun x y H Q h => ?_
  obtain ⟨G, dx, dy, r, ex, rx, ry, e, k⟩ := h
  cases rx <;> cases ry <;> first | cases e | skip
  obtain ⟨h1, h2⟩ := guardO_eq e
  subst h2
  exact ⟨_, _, rfl, rfl, h1, k _ G H (.refl ex) .int⟩
theorem opd_pow : OpR X (binaryOp .Pow) (DR2 W (vBin .pow)) := by
  refine OpR.imp (op_pow (X := X)) fun x y H Q h => ?_
  obtain ⟨G, dx, dy, r, ex, rx, ry, e, k⟩ := h
  cases rx <;> cases ry <;> first | cases e | skip
  obtain ⟨h1, h2⟩ := guardO_eq e
  subst h2
  exact ⟨_, _, rfl, rfl, h1, k _ G H (.refl ex) .int⟩

def BO.op : BO → Operator
  | .add => .Add | .sub => .Sub | .mul => .Mult | .fdiv => .FloorDiv | .mod => .Mod | .pow => .Pow
theorem opd (hK : X.K = W.K) : ∀ b : BO, OpR X (binaryOp b.op) (DR2 W (vBin b))
  | .add => opd_add hK
  | .sub => opd_sub
  | .mul => opd_mul
  | .fdiv => opd_fdiv
  | .mod => opd_mod
  | .pow => opd_pow

/-! ### comparisons -/
mutual
theorem Rep.dp {G H : Hp} (ex : Ex G H) (hK : X.K = W.K) : ∀ {v : V} {d : D}, Rep W G v d → d.py.canLay0 = true → Dp X.K H v d.py
  | _, _, .non, _ => .non
  | _, _, .bl, _ => .bl _
  | _, _, .int, _ => .int _
  | _, _, .str, _ => .str _
  | _, _, .tup h r, s => .tup (by rw [hK]; exact ex.sqt h) (Reps.dp ex hK r (by simpa [D.py, PyData.canLay0] using s))
  | _, _, .lst h r, s => .lst (.inl (.inl (ex _ _ h))) (Reps.dp ex hK r (by simpa [D.py, PyData.canLay0] using s))
  | _, _, .fl h r, s => .lst (by rw [hK]; exact ex.sql h) (Reps.dp ex hK r (by simpa [D.py, PyData.canLay0] using s))
  | _, _, .ins _ _ _, s => by simp [D.py, PyData.canLay0] at s
theorem Reps.dp {G H : Hp} (ex : Ex G H) (hK : X.K = W.K) : ∀ {vs : List V} {ds : List D}, Reps W G vs ds → PyData.canLayAll0 (D.pys ds) = true → DpAll X.K H vs (D.pys ds)
  | _, _, .nil, _ => .nil
  | _, _, .cons r t, s => by
      simp only [D.pys, PyData.canLayAll0, Bool.and_eq_true] at s
      exact .cons (Rep.dp ex hK r s.1) (Reps.dp ex hK t s.2)
end
/-- a comparison's rule, on data -/
def CR2 (W : Wd) (g : D → D → Option Bool) : R2 := fun x y H Q => ∃ G dx dy b, Ex G H ∧ Rep W G x dx ∧ Rep W G y dy ∧ g dx dy = some b ∧ Q (.bl b) H
theorem opc_lt : OpR X (compareOp .Lt) (CR2 W (vCmp .lt)) := by
  refine OpR.imp (op_lt (X := X)) fun x y H Q h => ?_
  obtain ⟨G, dx, dy, b, ex, rx, ry, e, k⟩ := h
  cases rx <;> cases ry <;> first | cases e | skip
  exact ⟨_, _, rfl, rfl, k⟩
theorem opc_le : OpR X (compareOp .LtE) (CR2 W (vCmp .le)) := by
  refine OpR.imp (op_le (X := X)) fun x y H Q h => ?_
  obtain ⟨G, dx, dy, b, ex, rx, ry, e, k⟩ := h
  cases rx <;> cases ry <;> first | cases e | skip
  exact ⟨_, _, rfl, rfl, k⟩
theorem opc_gt : OpR X (compareOp .Gt) (CR2 W (vCmp .gt)) := by
  refine OpR.imp (op_gt (X := X)) fun x y H Q h => ?_
  obtain ⟨G, dx, dy, b, ex, rx, ry, e, k⟩ := h
  cases rx <;> cases ry <;> first | cases e | skip
  exact ⟨_, _, rfl, rfl, k⟩
theorem opc_ge : OpR X (compareOp .GtE) (CR2 W (vCmp .ge)) := by
  refine OpR.imp (op_ge (X := X)) fun x y H Q h => ?_
  obtain ⟨G, dx, dy, b, ex, rx, ry, e, k⟩ := h
  cases rx <;> cases ry <;> first | cases e | skip
  exact ⟨_, _, rfl, rfl, k⟩
theorem vCmp_eq {x y : D} {b : Bool} (h : vCmp .eq x y = some b) : (∃ i j, x = .int i ∧ y = .int j ∧ b = decide (i = j)) ∨ vEq x y = some b := by
  cases x with
  | int i =>
    cases y with
    | int j => exact .inl ⟨i, j, rfl, rfl, (Option.some.inj h).symm⟩
    | _ => exact .inr h
  | _ => cases y <;> exact .inr h
theorem vCmp_ne {x y : D} {b : Bool} (h : vCmp .ne x y = some b) : (∃ i j, x = .int i ∧ y = .int j ∧ b = !decide (i = j)) ∨ ∃ c, vEq x y = some c ∧ b = !c := by
  have go : (vEq x y).map (!·) = some b → (∃ i j, x = .int i ∧ y = .int j ∧ b = !decide (i = j)) ∨ ∃ c, vEq x y = some c ∧ b = !c := fun z => by
    obtain ⟨c, h1, h2⟩ := Option.map_eq_some_iff.mp z
    exact .inr ⟨c, h1, h2.symm⟩
  cases x with
  | int i =>
    cases y with
    | int j => exact .inl ⟨i, j, rfl, rfl, (Option.some.inj h).symm⟩
    | _ => exact go h
  | _ => cases y <;> exact go h
theorem opc_eq (hK : X.K = W.K) (hu : X.A.units + 64 < cLine) : OpR X (compareOp .Eq) (CR2 W (vCmp .eq)) := by
  refine OpR.imp ((op_eq (X := X)).or (op_eqD hu)) fun x y H Q h => ?_
  obtain ⟨G, dx, dy, b, ex, rx, ry, e, k⟩ := h
  rcases vCmp_eq e with ⟨i, j, rfl, rfl, rfl⟩ | e
  · cases rx; cases ry
    refine .inl ⟨rfl, ?_⟩
    have q : decide (V.int i = V.int j) = decide (i = j) := by
      by_cases z : i = j
      · subst z; simp
      · rw [decide_eq_false z, decide_eq_false (fun w => z (V.int.inj w))]
    show Q (.bl (decide (V.int i = V.int j))) H
    rw [q]; exact k
  · obtain ⟨⟨h1, h2⟩, h3⟩ := guardO_eq e
    subst h3
    exact .inr ⟨_, _, rx.dp ex hK (canLayA h1), ry.dp ex hK (canLayA h2), h1, h2, k⟩
theorem opc_ne (hK : X.K = W.K) (hu : X.A.units + 64 < cLine) : OpR X (compareOp .NotEq) (CR2 W (vCmp .ne)) := by
  refine OpR.imp ((op_ne (X := X)).or (op_neD hu)) fun x y H Q h => ?_
  obtain ⟨G, dx, dy, b, ex, rx, ry, e, k⟩ := h
  rcases vCmp_ne e with ⟨i, j, rfl, rfl, rfl⟩ | ⟨c, e1, rfl⟩
  · cases rx; cases ry
    refine .inl ⟨rfl, ?_⟩
    have q : decide (V.int i = V.int j) = decide (i = j) := by
      by_cases z : i = j
      · subst z; simp
      · rw [decide_eq_false z, decide_eq_false (fun w => z (V.int.inj w))]
    show Q (.bl (!decide (V.int i = V.int j))) H
    rw [q]; exact k
  · obtain ⟨⟨h1, h2⟩, h3⟩ := guardO_eq e1
    subst h3
    exact .inr ⟨_, _, rx.dp ex hK (canLayA h1), ry.dp ex hK (canLayA h2), h1, h2, k⟩
theorem rep_non {G : Hp} {v : V} {d : D} (r : Rep W G v d) : decide (v = .non) = (match d with | .non => true | _ => false) := by
  cases r <;> first | rfl | exact decide_eq_false (fun z => nomatch z)
theorem opc_is : OpR X (compareOp .Is) (CR2 W (vCmp .is_)) := by
  refine OpR.imp (op_isN (X := X)) fun x y H Q h => ?_
  obtain ⟨G, dx, dy, b, ex, rx, ry, e, k⟩ := h
  have n := rep_non rx
  cases ry <;> first | (cases dx <;> cases e; done) | skip
  refine ⟨rfl, ?_⟩
  rw [n]
  cases dx <;> (cases e; exact k)
theorem opc_isn : OpR X (compareOp .IsNot) (CR2 W (vCmp .isn)) := by
  refine OpR.imp (op_notN (X := X)) fun x y H Q h => ?_
  obtain ⟨G, dx, dy, b, ex, rx, ry, e, k⟩ := h
  have n := rep_non rx
  cases ry <;> first | (cases dx <;> cases e; done) | skip
  refine ⟨rfl, ?_⟩
  rw [n]
  cases dx <;> (cases e; exact k)
def CO.op : CO → CmpOp
  | .lt => .Lt | .le => .LtE | .gt => .Gt | .ge => .GtE | .eq => .Eq | .ne => .NotEq | .is_ => .Is | .isn => .IsNot
theorem opc (hK : X.K = W.K) (hu : X.A.units + 64 < cLine) : ∀ c : CO, OpR X (compareOp c.op) (CR2 W (vCmp c))
  | .lt => opc_lt
  | .le => opc_le
  | .gt => opc_gt
  | .ge => opc_ge
  | .eq => opc_eq hK hu
  | .ne => opc_ne hK hu
  | .is_ => opc_is
  | .isn => opc_isn
theorem CO.noIn (c : CO) (b : Expr) : behindInMarks c.op b = false := by
  cases c <;> exact nomark b (by decide) (by decide)

/-! ### items, slices -/
def vIdx : D → D → Option D
  | .lst l, .int i => atI l i
  | .tup l, .int i => atI l i
  | .fl l, .int i => atI l i
  | _, _ => none
def cutD {α : Type} (xs : List α) (lo hi : Option Int) : List α := (xs.drop (HT.sIx xs.length 0 lo)).take (HT.sIx xs.length xs.length hi - HT.sIx xs.length 0 lo)
theorem Reps.cut {G : Hp} {vs : List V} {ds : List D} (r : Reps W G vs ds) (lo hi : Option Int) : Reps W G (cutV vs lo hi) (cutD ds lo hi) := by
  unfold cutV cutD
  rw [r.length]
  exact (r.drop _).take _
theorem Reps.at {G : Hp} {vs : List V} {ds : List D} {i : Int} {d : D} (r : Reps W G vs ds) (h : atI ds i = some d) : ∃ v, atI vs i = some v ∧ Rep W G v d := by
  unfold atI at h ⊢
  rw [r.length]
  cases e : ixN ds.length i with
  | none => rw [e] at h; cases h
  | some j =>
    rw [e] at h
    exact r.get h
/-- xs[i], on data -/
def IR2 (W : Wd) : R2 := fun x y H Q => ∃ G dx dy d, Ex G H ∧ Rep W G x dx ∧ Rep W G y dy ∧ vIdx dx dy = some d ∧ ∀ v, Rep W G v d → Q v H
theorem IxR.imp {r r' : R2} (h : IxR X r) (i : ∀ x y H Q, r' x y H Q → r x y H Q) : IxR X r' :=
  fun a b pins s σ H x y v u Q I rx ry q => h a b pins s σ H x y v u Q I rx ry (i _ _ _ _ q)
theorem ixd (hK : X.K = W.K) : IxR X (IR2 W) := by
  refine IxR.imp (ix_list.or ix_tup) fun x y H Q h => ?_
  obtain ⟨G, dx, dy, d, ex, rx, ry, e, k⟩ := h
  cases rx <;> cases ry <;> first | cases e | skip
  · rename_i a vs ds hs hr i
    obtain ⟨v, h1, h2⟩ := hr.at e
    exact .inr ⟨a, vs, i, v, rfl, rfl, by rw [hK]; exact ex.sqt hs, h1, k v h2⟩
  · rename_i a vs ds hs hr i
    obtain ⟨v, h1, h2⟩ := hr.at e
    exact .inl ⟨a, vs, i, v, rfl, rfl, .inl (.inl (ex _ _ hs)), h1, k v h2⟩
  · rename_i a vs ds hs hr i
    obtain ⟨v, h1, h2⟩ := hr.at e
    exact .inl ⟨a, vs, i, v, rfl, rfl, by rw [hK]; exact ex.sql hs, h1, k v h2⟩
def vSlice : D → Option Int → Option Int → Option Sl
  | .lst l, lo, hi => some (.own (cutD l lo hi))
  | .fl l, lo, hi => some (.own (cutD l lo hi))
  | .tup l, lo, hi => some (.dat (.tup (cutD l lo hi)))
  | _, _, _ => none
def SR3 (W : Wd) : V → Option Int → Option Int → Hp → VK → Prop := fun x lo hi H Q => ∃ G dx r, Ex G H ∧ Rep W G x dx ∧ vSlice dx lo hi = some r ∧ ∀ v G' H', Step G H G' H' → ResOk W H G' H' r v → Q v H'
theorem SlR.imp {r r' : V → Option Int → Option Int → Hp → VK → Prop} (h : SlR X r) (i : ∀ x lo hi H Q, r' x lo hi H Q → r x lo hi H Q) : SlR X r' :=
  fun pins s σ H x v vl vu lo hi sl Q I rx a b c q => h pins s σ H x v vl vu lo hi sl Q I rx a b c (i _ _ _ _ _ q)
theorem cutD_all {α : Type} {xs : List α} {lo hi : Option Int} (h : HT.sIx xs.length 0 lo = 0 ∧ HT.sIx xs.length xs.length hi = xs.length) : cutD xs lo hi = xs := by
  unfold cutD
  rw [h.1, h.2, List.drop_zero, Nat.sub_zero, List.take_length]
theorem sld (hK : X.K = W.K) : SlR X (SR3 W) := by
  refine SlR.imp (sl_list.or sl_tupA) fun x lo hi H Q h => ?_
  obtain ⟨G, dx, r, ex, rx, e, k⟩ := h
  cases rx <;> first | cases e | skip
  · rename_i a vs ds hs hr
    refine .inr ⟨a, vs, rfl, by rw [hK]; exact ex.sqt hs, fun z => ?_, fun z p hp => ?_⟩
    · refine k _ G H (.refl ex) ?_
      rw [hr.length] at z
      show Rep W G (V.ref a) (D.tup (cutD ds lo hi))
      rw [cutD_all z]
      exact .tup hs hr
    · exact k _ _ _ (.newD ex hp) (.tup (.inl (.inl upd_same)) ((hr.cut lo hi).mono (.new (ex.free hp))))
  · rename_i a vs ds hs hr
    exact .inl ⟨a, vs, rfl, .inl (.inl (ex _ _ hs)), fun p hp => k _ G _ (.newO ex hp) ⟨p, rfl, hp, _, upd_same, ex.free hp, hr.cut lo hi⟩⟩
  · rename_i a vs ds hs hr
    exact .inl ⟨a, vs, rfl, by rw [hK]; exact ex.sql hs, fun p hp => k _ G _ (.newO ex hp) ⟨p, rfl, hp, _, upd_same, ex.free hp, hr.cut lo hi⟩⟩
end
end PD

set_option Elab.async false
set_option linter.all false
set_option maxRecDepth 100000
set_option maxHeartbeats 4000000
/-! PD3: built-ins on data; the intermediate language and what it evaluates to; judgements. -/
namespace PD
open PySem L2

/-! ### built-ins -/
inductive BI where | len | int_ | sum | min2 | max2 | abs | tuple_ | list_
  deriving DecidableEq
def BI.name : BI → Str
  | .len => "len" | .int_ => "int" | .sum => "sum" | .min2 => "min" | .max2 => "max" | .abs => "abs" | .tuple_ => "tuple" | .list_ => "list"
def BI.val : BI → Value
  | .len => .builtin "len" | .int_ => .type "int" | .sum => .builtin "sum" | .min2 => .builtin "min" | .max2 => .builtin "max" | .abs => .builtin "abs" | .tuple_ => .type "tuple" | .list_ => .type "list"
theorem BI.boot : ∀ b : BI, bootBuiltins b.name = some b.val := by intro b; cases b <;> decide +kernel
theorem BI.nm1 : ∀ b : BI, b.name ≠ "__name__" := by intro b; cases b <;> decide +kernel
theorem BI.nm2 : ∀ b : BI, (b.name == ("__debug__" : Str)) = false := by intro b; cases b <;> decide +kernel
def ints? : List D → Option (List Int)
  | [] => some []
  | .int i :: r => (ints? r).map (i :: ·)
  | _ => none
theorem ints?_eq : ∀ {l : List D} {ns : List Int}, ints? l = some ns → l = ns.map D.int
  | [], ns, h => by cases h; rfl
  | .int i :: r, ns, h => by
    obtain ⟨m, h1, h2⟩ := Option.map_eq_some_iff.mp h
    subst h2
    rw [List.map_cons, ← ints?_eq h1]
@[simp] theorem ints?_map : ∀ ns : List Int, ints? (ns.map D.int) = some ns
  | [] => rfl
  | i :: r => by
    show (ints? (r.map D.int)).map (i :: ·) = _
    rw [ints?_map r]; rfl
def vBi : BI → List D → Option Sl
  | .len, [.lst l] => some (.dat (.int (l.length : Nat)))
  | .len, [.tup l] => some (.dat (.int (l.length : Nat)))
  | .len, [.fl l] => some (.dat (.int (l.length : Nat)))
  | .len, [.str z] => guardO (z.length ≤ LIM) (.dat (.int (z.length : Nat)))
  | .int_, [.int i] => some (.dat (.int i))
  | .int_, [.bl b] => some (.dat (.int (if b then 1 else 0)))
  | .sum, [.lst l] => (ints? l).map fun ns => .dat (.int ns.sum)
  | .sum, [.fl l] => (ints? l).map fun ns => .dat (.int ns.sum)
  | .min2, [.int i, .int j] => some (.dat (.int (if j < i then j else i)))
  | .max2, [.int i, .int j] => some (.dat (.int (if j > i then j else i)))
  | .abs, [.int i] => some (.dat (.int (if i < 0 then -i else i)))
  | .tuple_, [.lst l] => some (.dat (.tup l))
  | .tuple_, [.fl l] => some (.dat (.tup l))
  | .tuple_, [.tup l] => some (.dat (.tup l))
  | .list_, [.lst l] => some (.own l)
  | .list_, [.fl l] => some (.own l)
  | .list_, [.tup l] => some (.own l)
  | _, _ => none
def BR (W : Wd) (g : List D → Option Sl) : List V → Hp → VK → Prop := fun xs H Q => ∃ G ds r, Ex G H ∧ Reps W G xs ds ∧ g ds = some r ∧ ∀ v G' H', Step G H G' H' → ResOk W H G' H' r v → Q v H'
section
variable {X : Cx} {W : Wd}
theorem CallR.imp {f : Value} {r r' : List V → Hp → VK → Prop} (h : CallR X f r) (i : ∀ xs H Q, r' xs H Q → r xs H Q) : CallR X f r' :=
  fun pins s σ H xs us Q I rx q => h pins s σ H xs us Q I rx (i _ _ _ q)
theorem reps1 {G : Hp} {xs : List V} {d : D} (r : Reps W G xs [d]) : ∃ v, xs = [v] ∧ Rep W G v d := by
  cases r with
  | cons a b => cases b; exact ⟨_, rfl, a⟩
theorem reps2 {G : Hp} {xs : List V} {d e : D} (r : Reps W G xs [d, e]) : ∃ v u, xs = [v, u] ∧ Rep W G v d ∧ Rep W G u e := by
  cases r with
  | cons a b =>
    obtain ⟨u, rfl, h⟩ := reps1 b
    exact ⟨_, u, rfl, a, h⟩
theorem fl_ints {G H : Hp} {a : Addr} {vs : List V} {ds : List D} {ns : List Int} (hr : Reps W G vs ds) (e : ints? ds = some ns) : vs = ns.map V.int := by
  have h := ints?_eq e
  subst h
  exact hr.ints
theorem bid (hK : X.K = W.K) (hc : X.calm = true) : ∀ b : BI, CallR X b.val (BR W (vBi b))
  | .len => by
    refine CallR.imp (call_len_seq.or call_len_str) fun xs H Q h => ?_
    obtain ⟨G, ds, r, ex, rx, e, k⟩ := h
    unfold vBi at e
    split at e <;> first | (rename_i z; cases z; done) | skip
    all_goals first | (cases e; done) | skip
    · obtain ⟨v, rfl, hv⟩ := reps1 rx
      cases hv with
      | lst h r => cases e; exact .inl ⟨_, _, rfl, .inl (.inl (.inl (ex _ _ h))), by rw [r.length]; exact k _ G H (.refl ex) .int⟩
    · obtain ⟨v, rfl, hv⟩ := reps1 rx
      cases hv with
      | tup h r => cases e; exact .inl ⟨_, _, rfl, .inr (by rw [hK]; exact ex.sqt h), by rw [r.length]; exact k _ G H (.refl ex) .int⟩
    · obtain ⟨v, rfl, hv⟩ := reps1 rx
      cases hv with
      | fl h r => cases e; exact .inl ⟨_, _, rfl, .inl (by rw [hK]; exact ex.sql h), by rw [r.length]; exact k _ G H (.refl ex) .int⟩
    · obtain ⟨v, rfl, hv⟩ := reps1 rx
      cases hv
      obtain ⟨h1, h2⟩ := guardO_eq e
      subst h2
      exact .inr ⟨_, rfl, lim_le h1, k _ G H (.refl ex) .int⟩
  | .int_ => by
    refine CallR.imp call_int1 fun xs H Q h => ?_
    obtain ⟨G, ds, r, ex, rx, e, k⟩ := h
    unfold vBi at e
    split at e <;> first | (rename_i z; cases z; done) | skip
    all_goals first | (cases e; done) | skip
    · obtain ⟨v, rfl, hv⟩ := reps1 rx
      cases hv; cases e
      exact .inl ⟨_, rfl, k _ G H (.refl ex) .int⟩
    · obtain ⟨v, rfl, hv⟩ := reps1 rx
      cases hv; cases e
      exact .inr ⟨_, rfl, k _ G H (.refl ex) .int⟩
  | .sum => by
    refine CallR.imp (cr_sum hc) fun xs H Q h => ?_
    obtain ⟨G, ds, r, ex, rx, e, k⟩ := h
    unfold vBi at e
    split at e <;> first | (rename_i z; cases z; done) | skip
    all_goals first | (cases e; done) | skip
    · obtain ⟨v, rfl, hv⟩ := reps1 rx
      obtain ⟨ns, e1, e2⟩ := Option.map_eq_some_iff.mp e
      subst e2
      cases hv with
      | lst h r => exact ⟨_, ns, rfl, .inl (.inl (by rw [← fl_ints (G := G) (H := H) (a := 0) r e1]; exact ex _ _ h)), k _ G H (.refl ex) .int⟩
    · obtain ⟨v, rfl, hv⟩ := reps1 rx
      obtain ⟨ns, e1, e2⟩ := Option.map_eq_some_iff.mp e
      subst e2
      cases hv with
      | fl h r => exact ⟨_, ns, rfl, by rw [hK, ← fl_ints (G := G) (H := H) (a := 0) r e1]; exact ex.sql h, k _ G H (.refl ex) .int⟩
  | .min2 => by
    refine CallR.imp (call_min2 hc) fun xs H Q h => ?_
    obtain ⟨G, ds, r, ex, rx, e, k⟩ := h
    unfold vBi at e
    split at e <;> first | (rename_i z; cases z; done) | skip
    all_goals first | (cases e; done) | skip
    obtain ⟨v, u, rfl, hv, hu⟩ := reps2 rx
    cases hv; cases hu; cases e
    exact ⟨_, _, rfl, k _ G H (.refl ex) .int⟩
  | .max2 => by
    refine CallR.imp (call_max2 hc) fun xs H Q h => ?_
    obtain ⟨G, ds, r, ex, rx, e, k⟩ := h
    unfold vBi at e
    split at e <;> first | (rename_i z; cases z; done) | skip
    all_goals first | (cases e; done) | skip
    obtain ⟨v, u, rfl, hv, hu⟩ := reps2 rx
    cases hv; cases hu; cases e
    exact ⟨_, _, rfl, k _ G H (.refl ex) .int⟩
  | .abs => by
    refine CallR.imp call_abs fun xs H Q h => ?_
    obtain ⟨G, ds, r, ex, rx, e, k⟩ := h
    unfold vBi at e
    split at e <;> first | (rename_i z; cases z; done) | skip
    all_goals first | (cases e; done) | skip
    obtain ⟨v, rfl, hv⟩ := reps1 rx
    cases hv; cases e
    exact ⟨_, rfl, k _ G H (.refl ex) .int⟩
  | .tuple_ => by
    refine CallR.imp call_tuple_of fun xs H Q h => ?_
    obtain ⟨G, ds, r, ex, rx, e, k⟩ := h
    unfold vBi at e
    split at e <;> first | (rename_i z; cases z; done) | skip
    all_goals first | (cases e; done) | skip
    · obtain ⟨v, rfl, hv⟩ := reps1 rx
      cases hv with
      | lst h r => cases e; exact ⟨_, _, rfl, .inl ⟨.inl (.inl (ex _ _ h)), fun p hp => k _ _ _ (.newD ex hp) (.tup (.inl (.inl upd_same)) (r.mono (.new (ex.free hp))))⟩⟩
    · obtain ⟨v, rfl, hv⟩ := reps1 rx
      cases hv with
      | fl h r => cases e; exact ⟨_, _, rfl, .inl ⟨by rw [hK]; exact ex.sql h, fun p hp => k _ _ _ (.newD ex hp) (.tup (.inl (.inl upd_same)) (r.mono (.new (ex.free hp))))⟩⟩
    · obtain ⟨v, rfl, hv⟩ := reps1 rx
      cases hv with
      | tup h r => cases e; exact ⟨_, _, rfl, .inr ⟨by rw [hK]; exact ex.sqt h, k _ G H (.refl ex) (.tup h r)⟩⟩
  | .list_ => by
    refine CallR.imp call_list_of fun xs H Q h => ?_
    obtain ⟨G, ds, r, ex, rx, e, k⟩ := h
    unfold vBi at e
    split at e <;> first | (rename_i z; cases z; done) | skip
    all_goals first | (cases e; done) | skip
    · obtain ⟨v, rfl, hv⟩ := reps1 rx
      cases hv with
      | lst h r => cases e; exact ⟨_, _, rfl, .inl (.inl (.inl (ex _ _ h))), fun p hp => k _ _ _ (.newO ex hp) ⟨p, rfl, hp, _, upd_same, ex.free hp, r⟩⟩
    · obtain ⟨v, rfl, hv⟩ := reps1 rx
      cases hv with
      | fl h r => cases e; exact ⟨_, _, rfl, .inl (by rw [hK]; exact ex.sql h), fun p hp => k _ _ _ (.newO ex hp) ⟨p, rfl, hp, _, upd_same, ex.free hp, r⟩⟩
    · obtain ⟨v, rfl, hv⟩ := reps1 rx
      cases hv with
      | tup h r => cases e; exact ⟨_, _, rfl, .inr (by rw [hK]; exact ex.sqt h), fun p hp => k _ _ _ (.newO ex hp) ⟨p, rfl, hp, _, upd_same, ex.free hp, r⟩⟩
/-- isinstance(x, T), T a built-in type -/
def tyNm : D → Option String
  | .non => some "NoneType" | .bl _ => some "bool" | .int _ => some "int" | .str _ => some "str" | .tup _ => some "tuple" | .lst _ => some "list" | .fl _ => some "list" | .ins _ _ => none
def vIsi (d : D) (T : String) : Option Bool := (tyNm d).bind fun a => kitB a T
theorem isid (hK : X.K = W.K) {T : String} : CallR X (.builtin "isinstance") (fun xs H Q => ∃ G x d b, Ex G H ∧ xs = [x, .ty T] ∧ Rep W G x d ∧ vIsi d T = some b ∧ Q (.bl b) H) := by
  refine CallR.imp call_isi fun xs H Q h => ?_
  obtain ⟨G, x, d, b, ex, rfl, rx, e, k⟩ := h
  obtain ⟨a, e1, e2⟩ := Option.bind_eq_some_iff.mp e
  refine ⟨x, .ty T, .type a, .type T, b, rfl, .ty T, ?_, kit_ty e2, k⟩
  cases rx <;> cases e1
  · exact .base .non
  · exact .base (.bl _)
  · exact .base (.int _)
  · exact .base (.str _)
  · rename_i a vs ds hs hr
    rcases hs with (h | ⟨o, h⟩) | ⟨o, its, n, h1, h2, _⟩
    · exact .base (.tup (ex _ _ h))
    · exact .fTuple (ex _ _ h)
    · exact .kTuple (by rw [hK]; exact h1) h2
  · rename_i a vs ds hs hr
    exact .base (.lst (ex _ _ hs))
  · rename_i a vs ds hs hr
    rcases hs with (h | ⟨o, h⟩) | ⟨o, its, n, h1, h2, _⟩
    · exact .base (.lst (ex _ _ h))
    · exact .base (.frz (ex _ _ h))
    · exact .kList (by rw [hK]; exact h1) h2
end
end PD

set_option Elab.async false
set_option linter.all false
set_option maxRecDepth 100000
set_option maxHeartbeats 4000000
/-! PD4: the intermediate language, what it evaluates to, judgements on expressions. -/
namespace PD
open PySem L2

mutual
inductive Tg where
  | name (i : Nat) | tup (l : Tgs)
inductive Tgs where
  | nil | cons (t : Tg) (r : Tgs)
end
mutual
inductive E where
  | slot (i : Nat)
  | lit (d : D)
  | bin (op : BO) (a b : E)
  | neg (a : E)
  | cmp (op : CO) (a b : E)
  | chain (op op' : CO) (a b c : E)
  | and_ (a b : E) | or_ (a b : E) | not_ (a : E)
  | ite (c a b : E)
  | tup (es : Es) | lst (es : Es)
  | idx (a i : E)
  | slice (a : E) (lo hi : Eo)
  | call (f : Nat) (es : Es)
  | callk (f : Nat) (es kes : Es)
  | bi (b : BI) (es : Es)
  | isi (a : E) (T : String)
  | comp (elt : E) (tg : Tg) (it : It) (own : List Nat)
  | compf (elt : E) (tg : Tg) (it : It) (cond : E) (own : List Nat)
  | listr (lo hi : Eo)
  | lenS (i : Nat)
  | idxS (i : Nat) (a : E)
inductive Es where
  | nil | cons (e : E) (r : Es)
inductive Eo where
  | no | yes (e : E)
inductive It where
  | seq (e : E) | rng1 (e : E) | rng2 (a b : E)
end

def unE (ρ : Env) : List Nat → Env
  | [] => ρ
  | v :: vs => (unE ρ vs).set v .un

mutual
def bindT : Tg → D → Env → Option Env
  | .name i, d, ρ => some (ρ.set i (.dat d))
  | .tup l, .tup ds, ρ => bindTs l ds ρ
  | .tup _, _, _ => none
def bindTs : Tgs → List D → Env → Option Env
  | .nil, [], ρ => some ρ
  | .cons t r, d :: ds, ρ => (bindT t d ρ).bind fun ρ1 => bindTs r ds ρ1
  | _, _, _ => none
end

/-- a comprehension's turns -/
def compD (f : D → Option (Option D)) : List D → Option (List D)
  | [] => some []
  | d :: ds => (f d).bind fun o => (compD f ds).map fun r => match o with | some x => x :: r | none => r
def ofB : Option Sl → Option Bool
  | some (.dat (.bl b)) => some b
  | _ => none
def toDo (o : Option Sl) : Option D := o.map Sl.toD
def rngD (a b : Int) : List D := (List.range (b - a).toNat).map fun i => D.int (a + (i : Nat))
def rngG (a b : Int) : Prop := -(2 ^ 62) ≤ a ∧ a < 2 ^ 62 ∧ -(2 ^ 62) ≤ b ∧ b < 2 ^ 62 ∧ (b - a).toNat ≤ LIM
instance : Decidable (rngG a b) := by unfold rngG; infer_instance
def seqD : D → Option (List D)
  | .lst l => guardO (l.length ≤ LIM) l
  | .tup l => guardO (l.length ≤ LIM) l
  | .fl l => guardO (l.length ≤ LIM) l
  | _ => none

section
variable (Φ : Nat → List D → Option Sl)
mutual
def evE : E → Env → Option Sl
  | .slot i, ρ => match ρ[i]? with | some (.dat d) => some (.dat d) | _ => none
  | .lit d, _ => some (.dat d)
  | .bin op a b, ρ => (toDo (evE a ρ)).bind fun x => (toDo (evE b ρ)).bind fun y => vBin op x y
  | .neg a, ρ => match toDo (evE a ρ) with | some (.int i) => some (.dat (.int (-i))) | _ => none
  | .cmp op a b, ρ => (toDo (evE a ρ)).bind fun x => (toDo (evE b ρ)).bind fun y => (vCmp op x y).map fun b => .dat (.bl b)
  | .chain op op' a b c, ρ => (toDo (evE a ρ)).bind fun x => (toDo (evE b ρ)).bind fun y => (vCmp op x y).bind fun k =>
      if k = true then (toDo (evE c ρ)).bind fun z => (vCmp op' y z).map fun b => .dat (.bl b) else some (.dat (.bl false))
  | .and_ a b, ρ => (ofB (evE a ρ)).bind fun k => if k = true then (ofB (evE b ρ)).map fun b => .dat (.bl b) else some (.dat (.bl false))
  | .or_ a b, ρ => (ofB (evE a ρ)).bind fun k => if k = true then some (.dat (.bl true)) else (ofB (evE b ρ)).map fun b => .dat (.bl b)
  | .not_ a, ρ => (ofB (evE a ρ)).map fun b => .dat (.bl (!b))
  | .ite c a b, ρ => (ofB (evE c ρ)).bind fun k => if k = true then evE a ρ else evE b ρ
  | .tup es, ρ => (evEs es ρ).bind fun l => guardO (l.length ≤ LIM) (.dat (.tup l))
  | .lst es, ρ => (evEs es ρ).bind fun l => guardO (l.length ≤ LIM) (.own l)
  | .idx a i, ρ => (toDo (evE a ρ)).bind fun x => (toDo (evE i ρ)).bind fun y => (vIdx x y).map .dat
  | .slice a lo hi, ρ => (toDo (evE a ρ)).bind fun x => (evEo lo ρ).bind fun l => (evEo hi ρ).bind fun h => vSlice x l h
  | .call f es, ρ => (evEs es ρ).bind fun l => Φ f l
  | .callk f es kes, ρ => (evEs es ρ).bind fun l => (evEs kes ρ).bind fun m => Φ f (l ++ m)
  | .bi b es, ρ => (evEs es ρ).bind fun l => vBi b l
  | .isi a T, ρ => (toDo (evE a ρ)).bind fun x => (vIsi x T).map fun b => .dat (.bl b)
  | .comp elt tg it own, ρ => (evI it ρ).bind fun items => (compD (fun d => (bindT tg d (unE ρ own)).bind fun ρ1 => (toDo (evE elt ρ1)).map some) items).map .own
  | .compf elt tg it c own, ρ => (evI it ρ).bind fun items => (compD (fun d => (bindT tg d (unE ρ own)).bind fun ρ1 => (ofB (evE c ρ1)).bind fun k =>
      if k = true then (toDo (evE elt ρ1)).map some else some none) items).map .own
  | .listr lo hi, ρ => (evEo lo ρ).bind fun l => (evEo hi ρ).bind fun h => match l, h with
      | none, some n => guardO (rngG 0 n) (.own (rngD 0 n))
      | some m, some n => guardO (rngG m n) (.own (rngD m n))
      | _, _ => none
  | .lenS i, ρ => match ρ[i]? with | some (.own l) => some (.dat (.int (l.length : Nat))) | _ => none
  | .idxS i a, ρ => match ρ[i]?, toDo (evE a ρ) with | some (.own l), some (.int j) => (atI l j).map .dat | _, _ => none
def evEs : Es → Env → Option (List D)
  | .nil, _ => some []
  | .cons e r, ρ => (toDo (evE e ρ)).bind fun d => (evEs r ρ).map (d :: ·)
def evEo : Eo → Env → Option (Option Int)
  | .no, _ => some none
  | .yes e, ρ => match toDo (evE e ρ) with | some (.int i) => some (some i) | _ => none
def evI : It → Env → Option (List D)
  | .seq e, ρ => (toDo (evE e ρ)).bind seqD
  | .rng1 e, ρ => match toDo (evE e ρ) with | some (.int n) => guardO (rngG 0 n) (rngD 0 n) | _ => none
  | .rng2 a b, ρ => match toDo (evE a ρ), toDo (evE b ρ) with | some (.int m), some (.int n) => guardO (rngG m n) (rngD m n) | _, _ => none
end
end

/-! ### judgements -/
section
variable {X : Cx} {W : Wd} {Φ : Nat → List D → Option Sl}
def tE (W : Wd) (Φ : Nat → List D → Option Sl) (e : E) : TE := fun σ H Q => ∃ H0 ρ G r, Vd W H0 ρ σ G H ∧ evE Φ e ρ = some r ∧ ∀ v G' H', Step G H G' H' → ResOk W H G' H' r v → Q v H'
/-- .. handed over to the data -/
def tED (W : Wd) (Φ : Nat → List D → Option Sl) (e : E) : TE := fun σ H Q => ∃ H0 ρ G d, Vd W H0 ρ σ G H ∧ toDo (evE Φ e ρ) = some d ∧ ∀ v G' H', Step G H G' H' → Rep W G' v d → Q v H'
def tT (W : Wd) (Φ : Nat → List D → Option Sl) (e : E) : TT := fun σ H Q => ∃ H0 ρ G b, Vd W H0 ρ σ G H ∧ ofB (evE Φ e ρ) = some b ∧ ∀ G' H', Step G H G' H' → Q b H'
def tAs (W : Wd) (Φ : Nat → List D → Option Sl) (es : Es) : TA := fun σ H Q => ∃ H0 ρ G ds, Vd W H0 ρ σ G H ∧ evEs Φ es ρ = some ds ∧ ∀ vs G' H', Step G H G' H' → Reps W G' vs ds → Q vs H'
def tEo (W : Wd) (Φ : Nat → List D → Option Sl) (e : Eo) : TO := fun σ H Q => ∃ H0 ρ G o, Vd W H0 ρ σ G H ∧ evEo Φ e ρ = some o ∧ ∀ G' H', Step G H G' H' → Q o H'
abbrev DE (X : Cx) (W : Wd) (Φ : Nat → List D → Option Sl) (a : Expr) (e : E) : Prop := PE X a (tE W Φ e)
abbrev DT (X : Cx) (W : Wd) (Φ : Nat → List D → Option Sl) (a : Expr) (e : E) : Prop := PT X a (tT W Φ e)
abbrev DA (X : Cx) (W : Wd) (Φ : Nat → List D → Option Sl) (as : List Expr) (es : Es) : Prop := PA X as (tAs W Φ es)
theorem PE.imp {a : Expr} {t t' : TE} (h : PE X a t) (i : ∀ σ H Q, t' σ H Q → t σ H Q) : PE X a t' := ⟨fun pins s σ H Q I q => h.run pins s σ H Q I (i σ H Q q)⟩
theorem PT.imp {a : Expr} {t t' : TT} (h : PT X a t) (i : ∀ σ H Q, t' σ H Q → t σ H Q) : PT X a t' := ⟨fun pins s σ H Q I q => h.run pins s σ H Q I (i σ H Q q)⟩
theorem PA.imp {a : List Expr} {t t' : TA} (h : PA X a t) (i : ∀ σ H Q, t' σ H Q → t σ H Q) : PA X a t' := ⟨fun pos pins s σ H Q I q => h.run pos pins s σ H Q I (i σ H Q q)⟩
theorem toDo_some {o : Option Sl} {d : D} (h : toDo o = some d) : ∃ r, o = some r ∧ r.toD = d := by
  obtain ⟨r, h1, h2⟩ := Option.map_eq_some_iff.mp h
  exact ⟨r, h1, h2⟩
theorem ofB_some {o : Option Sl} {b : Bool} (h : ofB o = some b) : o = some (.dat (.bl b)) := by
  unfold ofB at h
  split at h
  · cases h; rfl
  · cases h
/-- an expression's value goes over to the data -/
theorem tE.data {e : E} {σ : L2.St} {H : Hp} {Q : VK} (h : tED W Φ e σ H Q) : tE W Φ e σ H Q := by
  obtain ⟨H0, ρ, G, d, hv, he, k⟩ := h
  obtain ⟨r, h1, h2⟩ := toDo_some he
  subst h2
  refine ⟨H0, ρ, G, r, hv, h1, fun v G' H' s ro => ?_⟩
  obtain ⟨G2, s2, rp, _⟩ := ro.toD s
  exact k v G2 H' s2 rp
theorem tE.go {e : E} {σ : L2.St} {H H0 G : Hp} {ρ : Env} {d : D} {Q : VK} (hv : Vd W H0 ρ σ G H) (he : toDo (evE Φ e ρ) = some d) (k : ∀ v G' H', Step G H G' H' → Rep W G' v d → Q v H') : tE W Φ e σ H Q := tE.data ⟨H0, ρ, G, d, hv, he, k⟩
theorem DE.data {a : Expr} {e : E} (h : DE X W Φ a e) : PE X a (tED W Φ e) := PE.imp h fun _ _ _ q => tE.data q

/-! ### names, constants, operators -/
theorem de_slot {i : Nat} {x : Str} {pos : Pos} (hN : X.N[i]? = some x) (hv : Vis X.env.scope x) (hd : (x == ("__debug__" : Str)) = false) (hcd : (x == ("__classdict__" : Str)) = false) : DE X W Φ (.Name x pos) (.slot i) := by
  refine PE.imp (pe_var hN hv hd hcd) fun σ H Q h => ?_
  obtain ⟨H0, ρ, G, r, hv, he, k⟩ := h
  unfold evE at he
  split at he
  · rename_i d e
    cases he
    obtain ⟨v, h1, h2⟩ := hv.dat e
    exact ⟨v, h1, k v G H (.refl hv.sub) h2⟩
  · cases he
theorem de_int {i : Int} {j : Nat} {pos : Pos} : DE X W Φ (.Constant (.int i) j pos) (.lit (.int i)) := by
  refine PE.imp pe_int fun σ H Q h => ?_
  obtain ⟨H0, ρ, G, r, hv, he, k⟩ := h
  cases he
  exact k _ G H (.refl hv.sub) .int
theorem de_bl {b : Bool} {j : Nat} {pos : Pos} : DE X W Φ (.Constant (.bool b) j pos) (.lit (.bl b)) := by
  refine PE.imp pe_bl fun σ H Q h => ?_
  obtain ⟨H0, ρ, G, r, hv, he, k⟩ := h
  cases he
  exact k _ G H (.refl hv.sub) .bl
theorem de_non {j : Nat} {pos : Pos} : DE X W Φ (.Constant .none j pos) (.lit .non) := by
  refine PE.imp pe_non fun σ H Q h => ?_
  obtain ⟨H0, ρ, G, r, hv, he, k⟩ := h
  cases he
  exact k _ G H (.refl hv.sub) .non
theorem de_str {x : Str} {j : Nat} {pos : Pos} : DE X W Φ (.Constant (.str x) j pos) (.lit (.str x)) := by
  refine PE.imp pe_str fun σ H Q h => ?_
  obtain ⟨H0, ρ, G, r, hv, he, k⟩ := h
  cases he
  exact k _ G H (.refl hv.sub) .str
/-- two operands, one after the other, as data -/
theorem two {a b : E} {σ : L2.St} {H H0 G : Hp} {ρ : Env} {x y : D} {R : V → V → Hp → Prop} (hv : Vd W H0 ρ σ G H) (h1 : toDo (evE Φ a ρ) = some x) (h2 : toDo (evE Φ b ρ) = some y)
    (k : ∀ v u G' H', Step G H G' H' → Rep W G' v x → Rep W G' u y → R v u H') : tE W Φ a σ H fun v H1 => tE W Φ b σ H1 fun u H2 => R v u H2 :=
  tE.go hv h1 fun v G1 H1 s1 r1 => tE.go (hv.step s1) h2 fun u G2 H2 s2 r2 => k v u G2 H2 (s1.trans s2) (r1.mono s2.gx) r2
theorem de_bin (hK : X.K = W.K) {op : BO} {a b : Expr} {ea eb : E} {pos : Pos} (ha : DE X W Φ a ea) (hb : DE X W Φ b eb) : DE X W Φ (.BinOp a op.op b pos) (.bin op ea eb) := by
  refine PE.imp (pe_op (opd hK op) ha hb) fun σ H Q h => ?_
  obtain ⟨H0, ρ, G, r, hv, he, k⟩ := h
  unfold evE at he
  obtain ⟨x, h1, he⟩ := Option.bind_eq_some_iff.mp he
  obtain ⟨y, h2, he⟩ := Option.bind_eq_some_iff.mp he
  exact two hv h1 h2 fun v u G1 H1 s r1 r2 => ⟨G1, x, y, r, s.sub, r1, r2, he, fun z G2 H2 s2 ro => k z G2 H2 (s.trans s2) (ro.pre s)⟩
theorem de_neg {a : Expr} {ea : E} {pos : Pos} (ha : DE X W Φ a ea) : DE X W Φ (.UnaryOp .USub a pos) (.neg ea) := by
  refine PE.imp (pe_un un_neg ha) fun σ H Q h => ?_
  obtain ⟨H0, ρ, G, r, hv, he, k⟩ := h
  unfold evE at he
  split at he
  · rename_i i e
    cases he
    exact tE.go hv e fun v G1 H1 s r1 => by cases r1; exact ⟨_, rfl, k _ G1 H1 s .int⟩
  · cases he
theorem de_cmp (hK : X.K = W.K) (hu : X.A.units + 64 < cLine) {op : CO} {a b : Expr} {ea eb : E} {pos : Pos} (ha : DE X W Φ a ea) (hb : DE X W Φ b eb) : DE X W Φ (.Compare a [op.op] [b] pos) (.cmp op ea eb) := by
  refine PE.imp (pe_cmpR (opc hK hu op) ha hb (op.noIn b)) fun σ H Q h => ?_
  obtain ⟨H0, ρ, G, r, hv, he, k⟩ := h
  unfold evE at he
  obtain ⟨x, h1, he⟩ := Option.bind_eq_some_iff.mp he
  obtain ⟨y, h2, he⟩ := Option.bind_eq_some_iff.mp he
  obtain ⟨c, h3, h4⟩ := Option.map_eq_some_iff.mp he
  subst h4
  exact two hv h1 h2 fun v u G1 H1 s r1 r2 => ⟨G1, x, y, c, s.sub, r1, r2, h3, k _ G1 H1 s .bl⟩
theorem dt_cmp (hK : X.K = W.K) (hu : X.A.units + 64 < cLine) {op : CO} {a b : Expr} {ea eb : E} {pos : Pos} (ha : DE X W Φ a ea) (hb : DE X W Φ b eb) : DT X W Φ (.Compare a [op.op] [b] pos) (.cmp op ea eb) := by
  refine PT.imp (pt_cmpR (opc hK hu op) ha hb (op.noIn b)) fun σ H Q h => ?_
  obtain ⟨H0, ρ, G, r, hv, he, k⟩ := h
  have he := ofB_some he
  unfold evE at he
  obtain ⟨x, h1, he⟩ := Option.bind_eq_some_iff.mp he
  obtain ⟨y, h2, he⟩ := Option.bind_eq_some_iff.mp he
  obtain ⟨c, h3, h4⟩ := Option.map_eq_some_iff.mp he
  cases h4
  exact two hv h1 h2 fun v u G1 H1 s r1 r2 => ⟨G1, x, y, _, s.sub, r1, r2, h3, _, rfl, k G1 H1 s⟩
theorem CO.noIn2 (c c' : CO) (a b : Expr) : lastMarks [c.op, c'.op] [a, b] = false := by
  show behindInMarks c'.op b = false
  exact c'.noIn b
theorem chain_rd (hK : X.K = W.K) {op op' : CO} {ea eb ec : E} {σ : L2.St} {H H0 G : Hp} {ρ : Env} {r : Sl} {Q : VK} (hv : Vd W H0 ρ σ G H) (he : evE Φ (.chain op op' ea eb ec) ρ = some r) (k : ∀ b G' H', r = .dat (.bl b) → Step G H G' H' → Q (.bl b) H') :
    tChain (CR2 W (vCmp op)) (CR2 W (vCmp op')) (tE W Φ ea) (tE W Φ eb) (tE W Φ ec) σ H Q := by
  unfold evE at he
  obtain ⟨x, h1, he⟩ := Option.bind_eq_some_iff.mp he
  obtain ⟨y, h2, he⟩ := Option.bind_eq_some_iff.mp he
  obtain ⟨c, h3, he⟩ := Option.bind_eq_some_iff.mp he
  refine two hv h1 h2 fun v u G1 H1 s r1 r2 => ⟨G1, x, y, c, s.sub, r1, r2, h3, c, rfl, ?_⟩
  cases c with
  | false => cases he; exact k _ G1 H1 rfl s
  | true =>
    obtain ⟨z, h4, he⟩ := Option.bind_eq_some_iff.mp he
    obtain ⟨b, h5, h6⟩ := Option.map_eq_some_iff.mp he
    subst h6
    exact tE.go (hv.step s) h4 fun w G2 H2 s2 r3 => ⟨G2, y, z, b, s2.sub, r2.mono s2.gx, r3, h5, k _ G2 H2 rfl (s.trans s2)⟩
theorem de_chain (hK : X.K = W.K) (hu : X.A.units + 64 < cLine) {op op' : CO} {a b c : Expr} {ea eb ec : E} {pos : Pos} (ha : DE X W Φ a ea) (hb : DE X W Φ b eb) (hc : DE X W Φ c ec) : DE X W Φ (.Compare a [op.op, op'.op] [b, c] pos) (.chain op op' ea eb ec) := by
  refine PE.imp (pe_chain (opc hK hu op) (opc hK hu op') ha hb hc (CO.noIn2 op op' b c)) fun σ H Q h => ?_
  obtain ⟨H0, ρ, G, r, hv, he, k⟩ := h
  exact chain_rd hK hv he fun b G' H' e s => by subst e; exact k _ G' H' s .bl
theorem dt_chain (hK : X.K = W.K) (hu : X.A.units + 64 < cLine) {op op' : CO} {a b c : Expr} {ea eb ec : E} {pos : Pos} (ha : DE X W Φ a ea) (hb : DE X W Φ b eb) (hc : DE X W Φ c ec) : DT X W Φ (.Compare a [op.op, op'.op] [b, c] pos) (.chain op op' ea eb ec) := by
  refine PT.imp (pt_chain (opc hK hu op) (opc hK hu op') ha hb hc (CO.noIn2 op op' b c)) fun σ H Q h => ?_
  obtain ⟨H0, ρ, G, b, hv, he, k⟩ := h
  exact chain_rd hK hv (ofB_some he) fun b G' H' e s => by cases e; exact ⟨_, rfl, k G' H' s⟩
/-! ### and, or, not -/
theorem pw_pt {a : Expr} {t : TT} (h : PW X a t) : PT X a t := h.pt
theorem PW.imp {a : Expr} {t t' : TT} (h : PW X a t) (i : ∀ σ H Q, t' σ H Q → t σ H Q) : PW X a t' := ⟨fun wh pins s σ H Q I q => h.run wh pins s σ H Q I (i σ H Q q)⟩
abbrev DW (X : Cx) (W : Wd) (Φ : Nat → List D → Option Sl) (a : Expr) (e : E) : Prop := PW X a (tT W Φ e)
theorem dw_and {a b : Expr} {rest : List Expr} {ea eb : E} {pos : Pos} (ha : DT X W Φ a ea) (hb : DW X W Φ (.BoolOp .And (b :: rest) pos) eb) : DW X W Φ (.BoolOp .And (a :: b :: rest) pos) (.and_ ea eb) := by
  refine PW.imp (pw_and ha hb) fun σ H Q h => ?_
  obtain ⟨H0, ρ, G, r, hv, he, k⟩ := h
  have he := ofB_some he
  unfold evE at he
  obtain ⟨c, h1, he⟩ := Option.bind_eq_some_iff.mp he
  refine ⟨H0, ρ, G, c, hv, h1, fun G1 H1 s => ?_⟩
  cases c with
  | true =>
    obtain ⟨b, h2, h3⟩ := Option.map_eq_some_iff.mp he
    cases h3
    exact iteT ⟨H0, ρ, G1, _, hv.step s, h2, fun G2 H2 s2 => k G2 H2 (s.trans s2)⟩
  | false => cases he; exact iteF (k G1 H1 s)
theorem dw_or {a b : Expr} {rest : List Expr} {ea eb : E} {pos : Pos} (ha : DT X W Φ a ea) (hb : DW X W Φ (.BoolOp .Or (b :: rest) pos) eb) : DW X W Φ (.BoolOp .Or (a :: b :: rest) pos) (.or_ ea eb) := by
  refine PW.imp (pw_or ha hb) fun σ H Q h => ?_
  obtain ⟨H0, ρ, G, r, hv, he, k⟩ := h
  have he := ofB_some he
  unfold evE at he
  obtain ⟨c, h1, he⟩ := Option.bind_eq_some_iff.mp he
  refine ⟨H0, ρ, G, c, hv, h1, fun G1 H1 s => ?_⟩
  cases c with
  | true => cases he; exact iteT (k G1 H1 s)
  | false =>
    obtain ⟨b, h2, h3⟩ := Option.map_eq_some_iff.mp he
    cases h3
    exact iteF ⟨H0, ρ, G1, _, hv.step s, h2, fun G2 H2 s2 => k G2 H2 (s.trans s2)⟩
theorem dt_not {a : Expr} {ea : E} {pos : Pos} (ha : DT X W Φ a ea) : DT X W Φ (.UnaryOp .Not a pos) (.not_ ea) := by
  refine PT.imp (pt_not ha) fun σ H Q h => ?_
  obtain ⟨H0, ρ, G, r, hv, he, k⟩ := h
  have he := ofB_some he
  unfold evE at he
  obtain ⟨b, h2, h3⟩ := Option.map_eq_some_iff.mp he
  cases h3
  exact ⟨H0, ρ, G, b, hv, h2, k⟩
theorem tE.bool {e : E} {σ : L2.St} {H H0 G : Hp} {ρ : Env} {b : Bool} {Q : VK} (hv : Vd W H0 ρ σ G H) (he : ofB (evE Φ e ρ) = some b) (k : ∀ G' H', Step G H G' H' → Q (.bl b) H') : tE W Φ e σ H Q :=
  ⟨H0, ρ, G, _, hv, ofB_some he, fun v G' H' s ro => by cases ro; exact k G' H' s⟩
theorem de_and {a b : Expr} {rest : List Expr} {ea eb : E} {pos : Pos} (ha : DE X W Φ a ea) (hb : DE X W Φ (.BoolOp .And (b :: rest) pos) eb) : DE X W Φ (.BoolOp .And (a :: b :: rest) pos) (.and_ ea eb) := by
  refine PE.imp (pe_and ha hb) fun σ H Q h => ?_
  obtain ⟨H0, ρ, G, r, hv, he, k⟩ := h
  unfold evE at he
  obtain ⟨c, h1, he⟩ := Option.bind_eq_some_iff.mp he
  refine tE.bool hv h1 fun G1 H1 s => ⟨c, rfl, ?_⟩
  cases c with
  | true =>
    obtain ⟨b, h2, h3⟩ := Option.map_eq_some_iff.mp he
    subst h3
    exact iteT (tE.bool (hv.step s) h2 fun G2 H2 s2 => k _ G2 H2 (s.trans s2) .bl)
  | false => cases he; exact iteF (k _ G1 H1 s .bl)
theorem de_or {a b : Expr} {rest : List Expr} {ea eb : E} {pos : Pos} (ha : DE X W Φ a ea) (hb : DE X W Φ (.BoolOp .Or (b :: rest) pos) eb) : DE X W Φ (.BoolOp .Or (a :: b :: rest) pos) (.or_ ea eb) := by
  refine PE.imp (pe_or ha hb) fun σ H Q h => ?_
  obtain ⟨H0, ρ, G, r, hv, he, k⟩ := h
  unfold evE at he
  obtain ⟨c, h1, he⟩ := Option.bind_eq_some_iff.mp he
  refine tE.bool hv h1 fun G1 H1 s => ⟨c, rfl, ?_⟩
  cases c with
  | true => cases he; exact iteT (k _ G1 H1 s .bl)
  | false =>
    obtain ⟨b, h2, h3⟩ := Option.map_eq_some_iff.mp he
    subst h3
    exact iteF (tE.bool (hv.step s) h2 fun G2 H2 s2 => k _ G2 H2 (s.trans s2) .bl)
theorem de_not {a : Expr} {ea : E} {pos : Pos} (ha : DE X W Φ a ea) : DE X W Φ (.UnaryOp .Not a pos) (.not_ ea) := by
  refine PE.imp (pe_not ha) fun σ H Q h => ?_
  obtain ⟨H0, ρ, G, r, hv, he, k⟩ := h
  unfold evE at he
  obtain ⟨b, h2, h3⟩ := Option.map_eq_some_iff.mp he
  subst h3
  exact tE.bool hv h2 fun G1 H1 s => ⟨b, rfl, k _ G1 H1 s .bl⟩
/-- an expression's value as a test -/
theorem dt_val {a : Expr} {ea : E} (ha : DE X W Φ a ea) (he : ∀ whole, isTrue a X.env whole = (do let v ← whole; standAt a.pos; holding [v] (truthy v))) : DT X W Φ a ea := by
  refine PT.imp (pt_val ha he) fun σ H Q h => ?_
  obtain ⟨H0, ρ, G, b, hv, h1, k⟩ := h
  exact tE.bool hv h1 fun G1 H1 s => ⟨b, rfl, k G1 H1 s⟩
theorem de_ite {c a b : Expr} {ec ea eb : E} {pos : Pos} (hc : DT X W Φ c ec) (ha : DE X W Φ a ea) (hb : DE X W Φ b eb) : DE X W Φ (.IfExp c a b pos) (.ite ec ea eb) := by
  refine PE.imp (pe_ifExp hc ha hb) fun σ H Q h => ?_
  obtain ⟨H0, ρ, G, r, hv, he, k⟩ := h
  unfold evE at he
  obtain ⟨c, h1, he⟩ := Option.bind_eq_some_iff.mp he
  refine ⟨H0, ρ, G, c, hv, h1, fun G1 H1 s => ?_⟩
  cases c with
  | true => exact iteT ⟨H0, ρ, G1, r, hv.step s, he, fun v G2 H2 s2 ro => k v G2 H2 (s.trans s2) (ro.pre s)⟩
  | false => exact iteF ⟨H0, ρ, G1, r, hv.step s, he, fun v G2 H2 s2 ro => k v G2 H2 (s.trans s2) (ro.pre s)⟩
/-! ### arguments, displays, items, slices -/
theorem da_nil : DA X W Φ [] .nil := by
  refine PA.imp pa_nil fun σ H Q h => ?_
  obtain ⟨H0, ρ, G, ds, hv, he, k⟩ := h
  cases he
  exact k [] G H (.refl hv.sub) .nil
theorem da_cons {a : Expr} {as : List Expr} {e : E} {es : Es} (ha : DE X W Φ a e) (hr : DA X W Φ as es) (hs : starEach (a :: as) X.env = (false, eval a X.env) :: starEach as X.env) : DA X W Φ (a :: as) (.cons e es) := by
  refine PA.imp (pa_cons ha hr hs) fun σ H Q h => ?_
  obtain ⟨H0, ρ, G, ds, hv, he, k⟩ := h
  unfold evEs at he
  obtain ⟨d, h1, he⟩ := Option.bind_eq_some_iff.mp he
  obtain ⟨l, h2, h3⟩ := Option.map_eq_some_iff.mp he
  subst h3
  exact tE.go hv h1 fun v G1 H1 s1 r1 => ⟨H0, ρ, G1, l, hv.step s1, h2, fun vs G2 H2 s2 r2 => k _ G2 H2 (s1.trans s2) (.cons (r1.mono s2.gx) r2)⟩
theorem de_tup {as : List Expr} {es : Es} {k : Nat} {pos : Pos} (h : DA X W Φ as es) : DE X W Φ (.Tuple as k pos) (.tup es) := by
  refine PE.imp (pe_tup h) fun σ H Q q => ?_
  obtain ⟨H0, ρ, G, r, hv, he, k⟩ := q
  unfold evE at he
  obtain ⟨l, h1, he⟩ := Option.bind_eq_some_iff.mp he
  obtain ⟨h2, h3⟩ := guardO_eq he
  subst h3
  exact ⟨H0, ρ, G, l, hv, h1, fun vs G1 H1 s1 r1 => ⟨by rw [r1.length]; exact lim_le h2, fun p hp => k _ _ _ (s1.trans (.newD s1.sub hp)) (.tup (.inl (.inl upd_same)) (r1.mono (.new (s1.sub.free hp))))⟩⟩
theorem de_lst {as : List Expr} {es : Es} {pos : Pos} (h : DA X W Φ as es) : DE X W Φ (.List as pos) (.lst es) := by
  refine PE.imp (pe_lst h) fun σ H Q q => ?_
  obtain ⟨H0, ρ, G, r, hv, he, k⟩ := q
  unfold evE at he
  obtain ⟨l, h1, he⟩ := Option.bind_eq_some_iff.mp he
  obtain ⟨h2, h3⟩ := guardO_eq he
  subst h3
  exact ⟨H0, ρ, G, l, hv, h1, fun vs G1 H1 s1 r1 => ⟨by rw [r1.length]; exact lim_le h2, fun p hp => k _ _ _ (s1.trans (.newO s1.sub hp)) ⟨p, rfl, s1.hx.free hp, vs, upd_same, s1.sub.free hp, r1⟩⟩⟩
theorem de_idx (hK : X.K = W.K) {a b : Expr} {ea eb : E} {pos : Pos} (ha : DE X W Φ a ea) (hb : DE X W Φ b eb) (hs : PlainIx b) : DE X W Φ (.Subscript a b pos) (.idx ea eb) := by
  refine PE.imp (pe_ix (ixd hK) ha hb hs) fun σ H Q h => ?_
  obtain ⟨H0, ρ, G, r, hv, he, k⟩ := h
  unfold evE at he
  obtain ⟨x, h1, he⟩ := Option.bind_eq_some_iff.mp he
  obtain ⟨y, h2, he⟩ := Option.bind_eq_some_iff.mp he
  obtain ⟨d, h3, h4⟩ := Option.map_eq_some_iff.mp he
  subst h4
  exact two hv h1 h2 fun v u G1 H1 s r1 r2 => ⟨G1, x, y, d, s.sub, r1, r2, h3, fun w rw => k w G1 H1 s rw⟩
theorem PO.imp {a : Option Expr} {t t' : TO} (h : PO X a t) (i : ∀ σ H Q, t' σ H Q → t σ H Q) : PO X a t' := ⟨fun pins s σ H Q I q => h.run pins s σ H Q I (i σ H Q q)⟩
theorem do_no : PO X none (tEo W Φ .no) := by
  refine PO.imp po_none fun σ H Q h => ?_
  obtain ⟨H0, ρ, G, o, hv, he, k⟩ := h
  cases he
  exact k G H (.refl hv.sub)
theorem tE.int {e : E} {σ : L2.St} {H H0 G : Hp} {ρ : Env} {o : Option Int} {Q : VK} (hv : Vd W H0 ρ σ G H) (he : evEo Φ (.yes e) ρ = some o) (k : ∀ i G' H', o = some i → Step G H G' H' → Q (.int i) H') : tE W Φ e σ H Q := by
  unfold evEo at he
  split at he
  · rename_i i h1
    cases he
    exact tE.go hv h1 fun v G1 H1 s r1 => by cases r1; exact k _ G1 H1 rfl s
  · cases he
theorem do_yes {a : Expr} {e : E} (h : DE X W Φ a e) : PO X (some a) (tEo W Φ (.yes e)) := by
  refine PO.imp (po_some h) fun σ H Q h => ?_
  obtain ⟨H0, ρ, G, o, hv, he, k⟩ := h
  exact tE.int hv he fun i G' H' e s => ⟨i, rfl, by subst e; exact k G' H' s⟩
theorem de_slice (hK : X.K = W.K) {a : Expr} {lo hi : Option Expr} {ea : E} {el eh : Eo} {p2 pos : Pos} (ha : DE X W Φ a ea) (hl : PO X lo (tEo W Φ el)) (hh : PO X hi (tEo W Φ eh)) : DE X W Φ (.Subscript a (.Slice lo hi none p2) pos) (.slice ea el eh) := by
  refine PE.imp (pe_slice (sld hK) ha hl hh) fun σ H Q h => ?_
  obtain ⟨H0, ρ, G, r, hv, he, k⟩ := h
  unfold evE at he
  obtain ⟨x, h1, he⟩ := Option.bind_eq_some_iff.mp he
  obtain ⟨l, h2, he⟩ := Option.bind_eq_some_iff.mp he
  obtain ⟨h, h3, he⟩ := Option.bind_eq_some_iff.mp he
  exact tE.go hv h1 fun v G1 H1 s1 r1 => ⟨H0, ρ, G1, l, hv.step s1, h2, fun G2 H2 s2 => ⟨H0, ρ, G2, h, (hv.step s1).step s2, h3, fun G3 H3 s3 =>
    ⟨G3, x, r, s3.sub, r1.mono (s2.gx.trans s3.gx), he, fun v G4 H4 s4 ro => k v G4 H4 ((s1.trans (s2.trans s3)).trans s4) (ro.pre (s1.trans (s2.trans s3)))⟩⟩⟩
end
end PD

set_option Elab.async false
set_option linter.all false
set_option maxRecDepth 100000
set_option maxHeartbeats 4000000
/-! PD5: calls, targets, what is walked, comprehensions. -/
namespace PD
open PySem PySem.Spec PyProof.Rows L2

/-- a def's promise, on data -/
def spD (W : Wd) (m : List D → Option Sl) : Sp := fun vs H Q _ => ∃ G ds r, Ex G H ∧ Reps W G vs ds ∧ m ds = some r ∧ ∀ v G' H', Step G H G' H' → ResOk W H G' H' r v → Q v H'

def notStar : Expr → Bool
  | .Starred _ _ => false
  | _ => true
def notSlice : Expr → Bool
  | .Slice _ _ _ _ => false
  | _ => true
theorem star_cons {a : Expr} {as : List Expr} {env : PySem.Env} (h : notStar a = true) : starEach (a :: as) env = (false, eval a env) :: starEach as env := by
  cases a <;> first | rfl | cases h
theorem star_any {env : PySem.Env} {pos : Pos} : ∀ {as : List Expr}, as.all notStar = true → (backTo pos (starEach as env)).any (·.1) = false
  | [], _ => rfl
  | a :: as, h => by
    rw [List.all_cons, Bool.and_eq_true] at h
    rw [star_cons h.1]
    show (false || (backTo pos (starEach as env)).any (·.1)) = false
    rw [star_any h.2]
    rfl
section
variable {X : Cx} {W : Wd} {Φ : Nat → List D → Option Sl}
theorem call_rd {es : Es} {m : List D → Option Sl} {σ : L2.St} {H H0 G : Hp} {ρ : Env} {l : List D} {r : Sl} {Q : VK} (hv : Vd W H0 ρ σ G H) (h1 : evEs Φ es ρ = some l) (h2 : m l = some r) (k : ∀ v G' H', Step G H G' H' → ResOk W H G' H' r v → Q v H') :
    tCall (spD W m) [] E0 (tAs W Φ es) σ H Q := by
  refine ⟨H0, ρ, G, l, hv, h1, fun vs G1 H1 s1 r1 => ?_⟩
  show spD W m (vs ++ []) H1 Q E0
  rw [List.append_nil]
  exact ⟨G1, l, r, s1.sub, r1, h2, fun v G2 H2 s2 ro => k v G2 H2 (s1.trans s2) (ro.pre s1)⟩
theorem de_call {k : Nat} {f : Addr} {fd : FuncData} {ps : List Str} {x : Str} {i : Nat} {p pos : Pos} {a : Expr} {as : List Expr} {es : Es} (F : FnOk X.prog X.w X.K X.mg X.base CX0 k f fd ps (spD W (Φ i))) (hr : Room k X.A) (hg : Gl X x) (hm : X.mg x = some (.ref f))
    (hk : PySem.W.keepIn X.K (.ref f) = true) (hb : Binds X.K fd ps []) (ha : DA X W Φ (a :: as) es) (hdb : (x == ("__debug__" : Str)) = false) (hs : (a :: as).all notStar = true) : DE X W Φ (.Call (.Name x p) (a :: as) [] pos) (.call i es) := by
  have hs' := hs
  rw [List.all_cons, Bool.and_eq_true] at hs'
  refine PE.imp (pe_call F hr hg hm hk hb .nil pass0 ha hdb (star_cons hs'.1) (star_any hs'.2)) fun σ H Q h => ?_
  obtain ⟨H0, ρ, G, r, hv, he, kk⟩ := h
  unfold evE at he
  obtain ⟨l, h1, h2⟩ := Option.bind_eq_some_iff.mp he
  exact call_rd hv h1 h2 kk
theorem de_call0 {k : Nat} {f : Addr} {fd : FuncData} {ps : List Str} {x : Str} {i : Nat} {p pos : Pos} (F : FnOk X.prog X.w X.K X.mg X.base CX0 k f fd ps (spD W (Φ i))) (hr : Room k X.A) (hg : Gl X x) (hm : X.mg x = some (.ref f))
    (hk : PySem.W.keepIn X.K (.ref f) = true) (hb : Binds X.K fd ps []) (hdb : (x == ("__debug__" : Str)) = false) : DE X W Φ (.Call (.Name x p) [] [] pos) (.call i .nil) := by
  refine PE.imp (pe_call0 F hr hg hm hk hb .nil pass0 hdb) fun σ H Q h => ?_
  obtain ⟨H0, ρ, G, r, hv, he, kk⟩ := h
  unfold evE at he
  obtain ⟨l, h1, h2⟩ := Option.bind_eq_some_iff.mp he
  cases h1
  exact ⟨G, [], r, hv.sub, .nil, h2, kk⟩
/-- keyword arguments -/
abbrev DK (X : Cx) (W : Wd) (Φ : Nat → List D → Option Sl) (ks : List Keyword) (es : Es) : Prop := PK X ks (tAs W Φ es)
theorem PK.imp {a : List Keyword} {t t' : TA} (h : PK X a t) (i : ∀ σ H Q, t' σ H Q → t σ H Q) : PK X a t' := ⟨fun pos pins s σ H Q I q => h.run pos pins s σ H Q I (i σ H Q q)⟩
theorem dk_nil : DK X W Φ [] .nil := by
  refine PK.imp pk_nil fun σ H Q h => ?_
  obtain ⟨H0, ρ, G, ds, hv, he, k⟩ := h
  cases he
  exact k [] G H (.refl hv.sub) .nil
theorem dk_cons {a : Expr} {nm : Option Str} {kpos : Pos} {as : List Keyword} {e : E} {es : Es} (ha : DE X W Φ a e) (hr : DK X W Φ as es) : DK X W Φ (⟨nm, a, kpos⟩ :: as) (.cons e es) := by
  refine PK.imp (pk_cons ha hr) fun σ H Q h => ?_
  obtain ⟨H0, ρ, G, ds, hv, he, k⟩ := h
  unfold evEs at he
  obtain ⟨d, h1, he⟩ := Option.bind_eq_some_iff.mp he
  obtain ⟨l, h2, h3⟩ := Option.map_eq_some_iff.mp he
  subst h3
  exact tE.go hv h1 fun v G1 H1 s1 r1 => ⟨H0, ρ, G1, l, hv.step s1, h2, fun vs G2 H2 s2 r2 => k _ G2 H2 (s1.trans s2) (.cons (r1.mono s2.gx) r2)⟩
def kwNm : Keyword → Option Str
  | ⟨n, _, _⟩ => n
theorem kw_all {env : PySem.Env} {pos : Pos} : ∀ {kws : List Keyword} {ks : List Str}, kws.map kwNm = ks.map some → (backToKw pos (keywordEach kws env)).all (·.1.isSome) = true ∧ (backToKw pos (keywordEach kws env)).filterMap (·.1) = ks ∧ (backToKw pos (keywordEach kws env)).any (·.1.isNone) = false
  | [], ks, h => by
    cases ks with
    | nil => exact ⟨rfl, rfl, rfl⟩
    | cons _ _ => cases h
  | ⟨n, e, p⟩ :: r, ks, h => by
    cases ks with
    | nil => cases h
    | cons k ks =>
      rw [List.map_cons, List.map_cons] at h
      injection h with h1 h2
      obtain ⟨a1, a2, a3⟩ := kw_all (env := env) (pos := pos) h2
      have h1 : n = some k := h1
      subst h1
      refine ⟨?_, ?_, ?_⟩
      · show (true && (backToKw pos (keywordEach r env)).all (·.1.isSome)) = true
        rw [a1]; rfl
      · show k :: (backToKw pos (keywordEach r env)).filterMap (·.1) = k :: ks
        rw [a2]
      · show (false || (backToKw pos (keywordEach r env)).any (·.1.isNone)) = false
        rw [a3]; rfl
def Es.len : Es → Nat
  | .nil => 0
  | .cons _ r => r.len + 1
theorem evEs_len : ∀ {es : Es} {ρ : Env} {l : List D}, evEs Φ es ρ = some l → l.length = es.len
  | .nil, _, _, h => by cases h; rfl
  | .cons e r, ρ, l, h => by
    unfold evEs at h
    obtain ⟨d, h1, h2⟩ := Option.bind_eq_some_iff.mp h
    obtain ⟨m, h3, h4⟩ := Option.map_eq_some_iff.mp h2
    subst h4
    rw [List.length_cons, evEs_len h3]
    rfl
theorem de_callk {k n : Nat} {f : Addr} {fd : FuncData} {ps ks : List Str} {x : Str} {i : Nat} {p pos : Pos} {a : Expr} {as : List Expr} {kws : List Keyword} {es kes : Es} (F : FnOk X.prog X.w X.K X.mg X.base CX0 k f fd ps (spD W (Φ i))) (hr : Room k X.A) (hg : Gl X x) (hm : X.mg x = some (.ref f))
    (hk : PySem.W.keepIn X.K (.ref f) = true) (hb : KBn X.K fd ps n ks (· ++ ·) (· ++ ·)) (ha : DA X W Φ (a :: as) es) (hkw : DK X W Φ kws kes) (hks : kws.map kwNm = ks.map some) (hdb : (x == ("__debug__" : Str)) = false) (hs : (a :: as).all notStar = true) (l1 : es.len = n) (l2 : kes.len = ks.length) :
    DE X W Φ (.Call (.Name x p) (a :: as) kws pos) (.callk i es kes) := by
  have hs' := hs
  rw [List.all_cons, Bool.and_eq_true] at hs'
  obtain ⟨a1, a2, a3⟩ := kw_all (env := X.env) (pos := pos) hks
  refine PE.imp (pe_callN F hr hg hm hk hb pass0 ha hkw a1 a2 hdb (star_cons hs'.1) (by rw [star_any hs, a3]; rfl)) fun σ H Q h => ?_
  obtain ⟨H0, ρ, G, r, hv, he, kk⟩ := h
  unfold evE at he
  obtain ⟨l, h1, he⟩ := Option.bind_eq_some_iff.mp he
  obtain ⟨m, h2, h3⟩ := Option.bind_eq_some_iff.mp he
  exact ⟨H0, ρ, G, l, hv, h1, fun vs G1 H1 s1 r1 => ⟨H0, ρ, G1, m, hv.step s1, h2, fun zs G2 H2 s2 r2 => ⟨by rw [r1.length, evEs_len h1, l1], by rw [r2.length, evEs_len h2, l2], G2, l ++ m, r, s2.sub, (r1.mono s2.gx).append r2, h3, fun v G3 H3 s3 ro => kk v G3 H3 ((s1.trans s2).trans s3) (ro.pre (s1.trans s2))⟩⟩⟩
/-- built-ins -/
theorem bi_rd {b : BI} {es : Es} {σ : L2.St} {H : Hp} {Q : VK} (h : tE W Φ (.bi b es) σ H Q) : tCB (BR W (vBi b)) (tAs W Φ es) σ H Q := by
  obtain ⟨H0, ρ, G, r, hv, he, kk⟩ := h
  unfold evE at he
  obtain ⟨l, h1, h2⟩ := Option.bind_eq_some_iff.mp he
  exact ⟨H0, ρ, G, l, hv, h1, fun vs G1 H1 s1 r1 => ⟨G1, l, r, s1.sub, r1, h2, fun v G2 H2 s2 ro => kk v G2 H2 (s1.trans s2) (ro.pre s1)⟩⟩
theorem de_bi (hK : X.K = W.K) (hc : X.calm = true) {b : BI} {p pos : Pos} {a : Expr} {as : List Expr} {es : Es} (hg : Gl X b.name) (hm : X.mg b.name = none) (ha : DA X W Φ (a :: as) es) (hs : (a :: as).all notStar = true) : DE X W Φ (.Call (.Name b.name p) (a :: as) [] pos) (.bi b es) := by
  have hs' := hs
  rw [List.all_cons, Bool.and_eq_true] at hs'
  have hb := bid (W := W) hK hc b
  have bo := b.boot
  have n1 := b.nm1
  have n2 := b.nm2
  have go : ∀ {v : Value} {nm : Str}, CallR X v (BR W (vBi b)) → bootBuiltins nm = some v → nm ≠ "__name__" → (nm == ("__debug__" : Str)) = false → Gl X nm → X.mg nm = none → ((∃ s, v = .builtin s) ∨ ∃ s, v = .type s) → DE X W Φ (.Call (.Name nm p) (a :: as) [] pos) (.bi b es) := by
    intro v nm c h1 h2 h3 h4 h5 h6
    rcases h6 with ⟨s, rfl⟩ | ⟨s, rfl⟩
    · exact PE.imp (pe_callB c h4 h5 h1 ha h2 h3 (star_cons hs'.1) (star_any hs'.2)) fun σ H Q h => bi_rd h
    · exact PE.imp (pe_callTy c h4 h5 h1 ha h2 h3 (star_cons hs'.1) (star_any hs'.2)) fun σ H Q h => bi_rd h
  exact go hb bo n1 n2 hg hm (by cases b <;> first | exact .inl ⟨_, rfl⟩ | exact .inr ⟨_, rfl⟩)
def tyNames : List String := ["int", "bool", "str", "tuple", "list"]
theorem ty_boot {T : String} (h : T ∈ tyNames) : bootBuiltins (Str.ofString T) = some (.type T) ∧ Str.ofString T ≠ "__name__" ∧ (Str.ofString T == ("__debug__" : Str)) = false := by
  simp only [tyNames, List.mem_cons, List.not_mem_nil, or_false] at h
  rcases h with rfl | rfl | rfl | rfl | rfl <;> (refine ⟨?_, ?_, ?_⟩ <;> decide +kernel)
theorem de_isi (hK : X.K = W.K) {T : String} {p p2 pos : Pos} {a : Expr} {ea : E} (hT : T ∈ tyNames) (hg : Gl X "isinstance") (hm : X.mg "isinstance" = none) (hg2 : Gl X (Str.ofString T)) (hm2 : X.mg (Str.ofString T) = none) (ha : DE X W Φ a ea) (hs : notStar a = true) :
    DE X W Φ (.Call (.Name "isinstance" p) [a, .Name (Str.ofString T) p2] [] pos) (.isi ea T) := by
  obtain ⟨t1, t2, t3⟩ := ty_boot hT
  refine PE.imp (pe_callB (isid (W := W) (T := T) hK) hg hm (by decide +kernel) (pa_cons ha (pa_cons (pe_bltn (v := .ty T) hg2 hm2 t1 rfl t2 t3) pa_nil rfl) (star_cons hs)) (by decide +kernel) (by decide +kernel) (star_cons hs) rfl) fun σ H Q h => ?_
  obtain ⟨H0, ρ, G, r, hv, he, kk⟩ := h
  unfold evE at he
  obtain ⟨x, h1, he⟩ := Option.bind_eq_some_iff.mp he
  obtain ⟨b, h2, h3⟩ := Option.map_eq_some_iff.mp he
  subst h3
  exact tE.go hv h1 fun v G1 H1 s r1 => ⟨G1, v, x, b, s.sub, rfl, r1, h2, kk _ G1 H1 s .bl⟩
/-- list(range(..)) -/
theorem reps_rg {G : Hp} (a b : Int) : Reps W G (rgV a b) (rngD a b) := by
  unfold rgV rngD
  generalize List.range (b - a).toNat = l
  induction l with
  | nil => exact .nil
  | cons x r ih => exact .cons .int ih
theorem rg_ok {a b : Int} (h : rngG a b) : RgOk a b := ⟨h.1, h.2.1, h.2.2.1, h.2.2.2.1, Nat.le_trans h.2.2.2.2 (by decide)⟩
theorem de_listr1 (hc : X.calm = true) {p p2 pos pos2 : Pos} {a : Expr} {ea : E} (hg : Gl X "list") (hm : X.mg "list" = none) (hg2 : Gl X "range") (hm2 : X.mg "range" = none) (ha : DE X W Φ a ea) (hs : notStar a = true) :
    DE X W Φ (.Call (.Name "list" p) [.Call (.Name "range" p2) [a] [] pos2] [] pos) (.listr .no (.yes ea)) := by
  refine PE.imp (pe_listRg hc hg hm (prg_1 hg2 hm2 ha (star_cons hs)) rfl) fun σ H Q h => ?_
  obtain ⟨H0, ρ, G, r, hv, he, kk⟩ := h
  unfold evE at he
  obtain ⟨l, h1, he⟩ := Option.bind_eq_some_iff.mp he
  obtain ⟨h, h2, he⟩ := Option.bind_eq_some_iff.mp he
  cases h1
  refine tE.int hv h2 fun i G1 H1 e s => ?_
  subst e
  obtain ⟨g1, g2⟩ := guardO_eq he
  subst g2
  exact ⟨i, rfl, rg_ok g1, fun q hq => kk _ G1 _ (s.trans (.newO s.sub hq)) ⟨q, rfl, s.hx.free hq, _, upd_same, s.sub.free hq, reps_rg 0 i⟩⟩
theorem de_listr2 (hc : X.calm = true) {p p2 pos pos2 : Pos} {a b : Expr} {ea eb : E} (hg : Gl X "list") (hm : X.mg "list" = none) (hg2 : Gl X "range") (hm2 : X.mg "range" = none) (ha : DE X W Φ a ea) (hb : DE X W Φ b eb) (hs : notStar a = true) (hs2 : notStar b = true) :
    DE X W Φ (.Call (.Name "list" p) [.Call (.Name "range" p2) [a, b] [] pos2] [] pos) (.listr (.yes ea) (.yes eb)) := by
  refine PE.imp (pe_listRg hc hg hm (prg_2 hg2 hm2 ha hb (star_cons hs) (star_cons hs2) (hp := star_any (as := [b]) (by rw [List.all_cons, hs2]; rfl))) rfl) fun σ H Q h => ?_
  obtain ⟨H0, ρ, G, r, hv, he, kk⟩ := h
  unfold evE at he
  obtain ⟨l, h1, he⟩ := Option.bind_eq_some_iff.mp he
  obtain ⟨h, h2, he⟩ := Option.bind_eq_some_iff.mp he
  refine tE.int hv h1 fun i G1 H1 e s => tE.int (hv.step s) h2 fun j G2 H2 e2 s2 => ?_
  subst e e2
  obtain ⟨g1, g2⟩ := guardO_eq he
  subst g2
  exact ⟨i, j, rfl, rfl, rg_ok g1, fun q hq => kk _ G2 _ ((s.trans s2).trans (.newO s2.sub hq)) ⟨q, rfl, (s.trans s2).hx.free hq, _, upd_same, s2.sub.free hq, reps_rg i j⟩⟩
/-- an own list asked -/
theorem de_lenS {i : Nat} {x : Str} {p p2 pos : Pos} (hN : X.N[i]? = some x) (hvs : Vis X.env.scope x) (hd : (x == ("__debug__" : Str)) = false) (hcd : (x == ("__classdict__" : Str)) = false) (hg : Gl X "len") (hm : X.mg "len" = none) : DE X W Φ (.Call (.Name "len" p) [.Name x p2] [] pos) (.lenS i) := by
  refine PE.imp (pe_callB call_len_seq hg hm PySem.boot_len (pa_cons (pe_var hN hvs hd hcd) pa_nil rfl) (by decide +kernel) (by decide +kernel) rfl rfl) fun σ H Q h => ?_
  obtain ⟨H0, ρ, G, r, hv, he, kk⟩ := h
  unfold evE at he
  split at he
  · rename_i l e
    cases he
    obtain ⟨p, h1, h2, vs, h3, h4, h5⟩ := hv.own e
    exact ⟨.ref p, h1, p, vs, rfl, .inl (.inl (.inl h3)), by rw [h5.length]; exact kk _ G H (.refl hv.sub) .int⟩
  · cases he
theorem de_idxS {i : Nat} {x : Str} {p pos : Pos} {b : Expr} {eb : E} (hN : X.N[i]? = some x) (hvs : Vis X.env.scope x) (hd : (x == ("__debug__" : Str)) = false) (hcd : (x == ("__classdict__" : Str)) = false) (hb : DE X W Φ b eb) (hs : PlainIx b) : DE X W Φ (.Subscript (.Name x p) b pos) (.idxS i eb) := by
  refine PE.imp (pe_ix ix_list (pe_var hN hvs hd hcd) hb hs) fun σ H Q h => ?_
  obtain ⟨H0, ρ, G, r, hv, he, kk⟩ := h
  unfold evE at he
  split at he
  · rename_i l j e e2
    obtain ⟨d, h1, h2⟩ := Option.map_eq_some_iff.mp he
    subst h2
    obtain ⟨p, g1, g2, o⟩ := hv.own e
    refine ⟨.ref p, g1, tE.go hv e2 fun v G1 H1 s r1 => ?_⟩
    cases r1
    obtain ⟨vs, h3, h4, h5⟩ := o.step s
    obtain ⟨v, a1, a2⟩ := h5.at h1
    exact ⟨p, vs, j, v, rfl, rfl, .inl (.inl h3), a1, kk v G1 H1 s a2⟩
  · cases he

/-! ### targets -/
mutual
def Tg.slots : Tg → List Nat
  | .name i => [i]
  | .tup l => Tgs.slots l
def Tgs.slots : Tgs → List Nat
  | .nil => []
  | .cons t r => t.slots ++ r.slots
end
/-- the same but for some slots -/
def SameOut (ts : List Nat) (σ σ' : L2.St) : Prop := σ'.length = σ.length ∧ ∀ j, j ∉ ts → σ'[j]? = σ[j]?
def tG (W : Wd) (tg : Tg) : TG := fun v σ H Q => ∃ H0 ρ G d ρ', Vd W H0 ρ σ G H ∧ Rep W G v d ∧ bindT tg d ρ = some ρ' ∧ ∀ σ', Vd W H0 ρ' σ' G H → SameOut tg.slots σ σ' → Q σ' H
def tGs (W : Wd) (tg : Tgs) : TGs := fun vs σ H Q => ∃ H0 ρ G ds ρ', Vd W H0 ρ σ G H ∧ Reps W G vs ds ∧ bindTs tg ds ρ = some ρ' ∧ ∀ σ', Vd W H0 ρ' σ' G H → SameOut tg.slots σ σ' → Q σ' H
theorem PG.imp {a : Expr} {t t' : TG} (h : PG X a t) (i : ∀ v σ H Q, t' v σ H Q → t v σ H Q) : PG X a t' := ⟨fun pins s σ H v u Q I r q => h.run pins s σ H v u Q I r (i v σ H Q q)⟩
theorem PGs.imp {a : List Expr} {t t' : TGs} (h : PGs X a t) (i : ∀ v σ H Q, t' v σ H Q → t v σ H Q) : PGs X a t' := ⟨fun pins s σ H v u Q I r q => h.run pins s σ H v u Q I r (i v σ H Q q)⟩
theorem dg_name {i : Nat} {x : Str} {pos : Pos} (hN : X.N.Nodup) (hi : X.N[i]? = some x) (hx : Loc X.env.scope x) (hf : X.fn x = true ∨ X.env.scope.names.lookup x = some .local) : PG X (.Name x pos) (tG W (.name i)) := by
  refine PG.imp (pg_name hN hi hx hf) fun v σ H Q h => ?_
  obtain ⟨H0, ρ, G, d, ρ', hv, hr, e, k⟩ := h
  cases e
  refine k _ (hv.setD i hr) ⟨by rw [List.length_set], fun j hj => ?_⟩
  exact List.getElem?_set_ne (fun z => hj (by rw [← z]; exact List.mem_singleton.mpr rfl))
theorem dgs_nil : PGs X [] (tGs W .nil) := by
  refine PGs.imp pgs_nil fun v σ H Q h => ?_
  obtain ⟨H0, ρ, G, d, ρ', hv, hr, e, k⟩ := h
  cases hr with
  | nil => cases e; exact ⟨rfl, k _ hv ⟨rfl, fun _ _ => rfl⟩⟩
  | cons _ _ => cases e
theorem dgs_cons {a : Expr} {as : List Expr} {t : Tg} {r : Tgs} (h1 : PG X a (tG W t)) (h2 : PGs X as (tGs W r)) (hs : (assignEach (a :: as) X.env).map (·.2) = assign a X.env :: (assignEach as X.env).map (·.2)) : PGs X (a :: as) (tGs W (.cons t r)) := by
  refine PGs.imp (pgs_cons h1 h2 hs) fun vs σ H Q h => ?_
  obtain ⟨H0, ρ, G, d, ρ', hv, hr, e, k⟩ := h
  cases hr with
  | nil => cases e
  | cons r1 r2 =>
    unfold bindTs at e
    obtain ⟨ρ1, e1, e2⟩ := Option.bind_eq_some_iff.mp e
    refine ⟨_, _, rfl, H0, ρ, G, _, ρ1, hv, r1, e1, fun σ1 hv1 so1 => ⟨H0, ρ1, G, _, ρ', hv1, r2, e2, fun σ2 hv2 so2 => k σ2 hv2 ⟨so2.1.trans so1.1, fun j hj => ?_⟩⟩⟩
    have h1 : j ∉ t.slots := fun z => hj (List.mem_append_left _ z)
    have h2 : j ∉ r.slots := fun z => hj (List.mem_append_right _ z)
    rw [so2.2 j h2, so1.2 j h1]
theorem as_len {env : PySem.Env} : ∀ {as : List Expr}, as.all notStar = true → (assignEach as env).length = as.length ∧ (assignEach as env).findIdx? (·.1) = none
  | [], _ => ⟨rfl, rfl⟩
  | a :: as, h => by
    rw [List.all_cons, Bool.and_eq_true] at h
    obtain ⟨h1, h2⟩ := as_len (env := env) h.2
    have e : assignEach (a :: as) env = (false, assign a env) :: assignEach as env := by
      have := h.1
      cases a <;> first | rfl | cases this
    rw [e]
    refine ⟨by rw [List.length_cons, List.length_cons, h1], ?_⟩
    rw [List.findIdx?_cons, h2]
    rfl
theorem as_map {env : PySem.Env} {a : Expr} {as : List Expr} (h : notStar a = true) : (assignEach (a :: as) env).map (·.2) = assign a env :: (assignEach as env).map (·.2) := by
  cases a <;> first | rfl | cases h
theorem bindTs_len : ∀ {tg : Tgs} {ds : List D} {ρ ρ' : Env} {as : List Expr} {t : TGs}, bindTs tg ds ρ = some ρ' → True := fun _ => trivial
def Tgs.len : Tgs → Nat
  | .nil => 0
  | .cons _ r => r.len + 1
theorem bindTs_length : ∀ {tg : Tgs} {ds : List D} {ρ ρ' : Env}, bindTs tg ds ρ = some ρ' → ds.length = tg.len
  | .nil, [], _, _, _ => rfl
  | .nil, _ :: _, _, _, h => by cases h
  | .cons _ _, [], _, _, h => by cases h
  | .cons t r, d :: ds, _, _, h => by
    unfold bindTs at h
    obtain ⟨ρ1, e1, e2⟩ := Option.bind_eq_some_iff.mp h
    rw [List.length_cons, bindTs_length e2]
    rfl
theorem dg_tup (hK : X.K = W.K) {as : List Expr} {k : Nat} {pos : Pos} {r : Tgs} (hc : X.calm = true) (h : PGs X as (tGs W r)) (hs : as.all notStar = true) (hl : as.length = r.len) : PG X (.Tuple as k pos) (tG W (.tup r)) := by
  obtain ⟨l1, l2⟩ := as_len (env := X.env) hs
  refine PG.imp (pg_tup hc h l1 l2) fun v σ H Q q => ?_
  obtain ⟨H0, ρ, G, d, ρ', hv, hr, e, k⟩ := q
  cases d <;> first | cases e | skip
  cases hr with
  | tup h1 h2 =>
    refine ⟨_, _, rfl, by rw [hK]; exact hv.sub.sqt h1, ?_, H0, ρ, G, _, ρ', hv, h2, e, k⟩
    rw [h2.length, bindTs_length e, hl]

/-! ### what is walked -/
def ItD (W : Wd) (J : L2.It) (G : Hp) (ds : List D) : Prop := ∀ G1 H1, Ex G G1 → Ex G1 H1 → (∀ i d, ds[i]? = some d → J.go i H1 ∧ ∀ x H2, J.yld i H1 x H2 → ∃ G2, Step G1 H1 G2 H2 ∧ Rep W G2 x d) ∧ J.stop ds.length H1
def tI (W : Wd) (Φ : Nat → List D → Option Sl) (it : It) : TI := fun σ H R => ∃ H0 ρ G ds, Vd W H0 ρ σ G H ∧ evI Φ it ρ = some ds ∧ ∀ J G' H', Step G H G' H' → ItD W J G' ds → R J H'
theorem PI.imp {tg a : Expr} {t t' : TI} (h : PI X tg a t) (i : ∀ σ H R, t' σ H R → t σ H R) : PI X tg a t' := ⟨fun pins s σ H R I q => h.run pins s σ H R I (i σ H R q)⟩
def iSeq (K : PySem.W.Frag) (tl : TE) : TI := fun σ H R => tl σ H fun x H1 => ∃ a, x = .ref a ∧ (((∃ xs, SqL K H1 a xs) ∧ R (Itl K a) H1) ∨ ((∃ xs, SqT K H1 a xs) ∧ R (Itt K a) H1))
theorem pi_seq {tg l : Expr} {tl : TE} (hl : PE X l tl) : PI X tg l (iSeq X.K tl) := by
  refine ⟨fun pins s σ H R I h => thn (hl.run pins s σ H _ I h) fun v s1 q1 => ?_⟩
  obtain ⟨x, H1, I1, r1, a, e, q⟩ := q1
  subst e
  cases r1
  have fp : ∀ b ∈ [s1.heap.objs.size], FpOk X pins H1 b := fun b hb => by
    rw [List.mem_singleton.mp hb]
    exact I1.fpOk (Nat.le_refl _) I1.fresh
  rcases q with ⟨⟨xs, hq⟩, q⟩ | ⟨⟨xs, hq⟩, q⟩
  · obtain ⟨its, rv, p, hz⟩ := I1.list hq
    exact wpAny_pyIter_list p.isList ⟨s1.heap.objs.size, [s1.heap.objs.size], _, _, H1, rfl, I1.kept (t' := s1.toks) (fun b o e => Heap.get?_push_of_some _ e), turn_list a _, ⟨_, Heap.get?_push_size _ rfl, rfl, rfl⟩, fp, q⟩
  · obtain ⟨its, rv, p, hz⟩ := I1.tuple hq
    exact wpAny_pyIter_tuple (show s1.heap.IsTuple a its.toArray from p) ⟨s1.heap.objs.size, [s1.heap.objs.size], _, _, H1, rfl, I1.kept (t' := s1.toks) (fun b o e => Heap.get?_push_of_some _ e), turn_tuple a _, ⟨_, Heap.get?_push_size _ rfl, rfl, rfl⟩, fp, q⟩
theorem itd_list {G : Hp} {a : Addr} {vs : List V} {ds : List D} (h : SqL W.K G a vs) (r : Reps W G vs ds) : ItD W (Itl W.K a) G ds := fun G1 H1 e1 e2 => by
  have hq := e2.sql (e1.sql h)
  refine ⟨fun i d hd => ?_, ⟨vs, hq, by rw [r.length]; exact Nat.le_refl _⟩⟩
  obtain ⟨v, h1, h2⟩ := r.get hd
  refine ⟨⟨vs, v, hq, h1⟩, fun x H2 y => ?_⟩
  obtain ⟨e, y⟩ := y
  subst e
  have := (y vs hq).symm.trans h1
  cases this
  exact ⟨G1, .refl e2, h2.mono e1⟩
theorem itd_tup {G : Hp} {a : Addr} {vs : List V} {ds : List D} (h : SqT W.K G a vs) (r : Reps W G vs ds) : ItD W (Itt W.K a) G ds := fun G1 H1 e1 e2 => by
  have hq := e2.sqt (e1.sqt h)
  refine ⟨fun i d hd => ?_, ⟨vs, hq, by rw [r.length]; exact Nat.le_refl _⟩⟩
  obtain ⟨v, h1, h2⟩ := r.get hd
  refine ⟨⟨vs, v, hq, h1⟩, fun x H2 y => ?_⟩
  obtain ⟨e, y⟩ := y
  subst e
  have := (y vs hq).symm.trans h1
  cases this
  exact ⟨G1, .refl e2, h2.mono e1⟩
theorem rngD_get {a b : Int} {i : Nat} {d : D} (h : (rngD a b)[i]? = some d) : i < (b - a).toNat ∧ d = .int (a + (i : Nat)) := by
  unfold rngD at h
  rw [List.getElem?_map] at h
  obtain ⟨j, h1, h2⟩ := Option.map_eq_some_iff.mp h
  have hi : i < (b - a).toNat := by
    have := (List.getElem?_eq_some_iff.mp h1).1
    rwa [List.length_range] at this
  rw [List.getElem?_range hi] at h1
  cases h1
  exact ⟨hi, h2.symm⟩
theorem rngD_len (a b : Int) : (rngD a b).length = (b - a).toNat := by unfold rngD; rw [List.length_map, List.length_range]
theorem itd_rng {G : Hp} {a b : Int} : ItD W (Itr a (b - a).toNat) G (rngD a b) := fun G1 H1 e1 e2 => by
  refine ⟨fun i d hd => ?_, by rw [rngD_len]; exact Nat.le_refl _⟩
  obtain ⟨h1, h2⟩ := rngD_get hd
  subst h2
  refine ⟨h1, fun x H2 y => ?_⟩
  obtain ⟨e, y⟩ := y
  subst e y
  exact ⟨G1, .refl e2, .int⟩
theorem di_seq (hK : X.K = W.K) {tg a : Expr} {e : E} (ha : DE X W Φ a e) : PI X tg a (tI W Φ (.seq e)) := by
  refine PI.imp (pi_seq ha) fun σ H R h => ?_
  obtain ⟨H0, ρ, G, ds, hv, he, k⟩ := h
  unfold evI at he
  obtain ⟨d, h1, h2⟩ := Option.bind_eq_some_iff.mp he
  refine tE.go hv h1 fun v G1 H1 s r => ?_
  cases r <;> first | cases h2 | skip
  · rename_i a vs l hs hr
    obtain ⟨_, h3⟩ := guardO_eq h2
    subst h3
    rw [hK]
    exact ⟨a, rfl, .inr ⟨⟨vs, s.sub.sqt hs⟩, k _ G1 H1 s (itd_tup hs hr)⟩⟩
  · rename_i a vs l hs hr
    obtain ⟨_, h3⟩ := guardO_eq h2
    subst h3
    rw [hK]
    exact ⟨a, rfl, .inl ⟨⟨vs, .inl (.inl (s.sub _ _ hs))⟩, k _ G1 H1 s (itd_list (.inl (.inl hs)) hr)⟩⟩
  · rename_i a vs l hs hr
    obtain ⟨_, h3⟩ := guardO_eq h2
    subst h3
    rw [hK]
    exact ⟨a, rfl, .inl ⟨⟨vs, s.sub.sql hs⟩, k _ G1 H1 s (itd_list hs hr)⟩⟩
theorem di_rng1 {tg a : Expr} {e : E} {p pos : Pos} (hg : Gl X "range") (hm : X.mg "range" = none) (ha : DE X W Φ a e) (hs : notStar a = true) : PI X tg (.Call (.Name "range" p) [a] [] pos) (tI W Φ (.rng1 e)) := by
  refine PI.imp (pi_range1 hg hm (pa_cons ha pa_nil (star_cons hs)) (star_cons hs)) fun σ H R h => ?_
  obtain ⟨H0, ρ, G, ds, hv, he, k⟩ := h
  unfold evI at he
  split at he
  · rename_i n h1
    obtain ⟨h2, h3⟩ := guardO_eq he
    subst h3
    refine tE.go hv h1 fun v G1 H1 s r => ?_
    cases r
    refine ⟨n, rfl, h2.2.2.1, h2.2.2.2.1, k _ G1 H1 s ?_⟩
    have := itd_rng (W := W) (G := G1) (a := 0) (b := n)
    rwa [Int.sub_zero] at this
  · cases he
theorem di_rng2 {tg a b : Expr} {ea eb : E} {p pos : Pos} (hg : Gl X "range") (hm : X.mg "range" = none) (ha : DE X W Φ a ea) (hb : DE X W Φ b eb) (hs : notStar a = true) (hs2 : notStar b = true) : PI X tg (.Call (.Name "range" p) [a, b] [] pos) (tI W Φ (.rng2 ea eb)) := by
  refine PI.imp (pi_range2 hg hm (pa_cons ha (pa_cons hb pa_nil (star_cons hs2)) (star_cons hs)) (by rw [star_cons hs, star_cons hs2]; rfl) (star_cons hs2)) fun σ H R h => ?_
  obtain ⟨H0, ρ, G, ds, hv, he, k⟩ := h
  unfold evI at he
  split at he
  · rename_i m n h1 h1'
    obtain ⟨h2, h3⟩ := guardO_eq he
    subst h3
    refine tE.go hv h1 fun v G1 H1 s r => tE.go (hv.step s) h1' fun v' G2 H2 s2 r2 => ?_
    cases r
    cases r2
    exact ⟨m, n, rfl, ⟨h2.1, h2.2.1, h2.2.2.1, h2.2.2.2.1⟩, k _ G2 H2 (s.trans s2) itd_rng⟩
  · cases he
theorem evI_len : ∀ {it : It} {ρ : Env} {ds : List D}, evI Φ it ρ = some ds → ds.length ≤ LIM
  | .seq e, ρ, ds, h => by
    unfold evI at h
    obtain ⟨d, h1, h2⟩ := Option.bind_eq_some_iff.mp h
    unfold seqD at h2
    split at h2 <;> first | (obtain ⟨a, b⟩ := guardO_eq h2; subst b; exact a) | cases h2
  | .rng1 e, ρ, ds, h => by
    unfold evI at h
    split at h
    · obtain ⟨a, b⟩ := guardO_eq h; subst b; rw [rngD_len]; exact a.2.2.2.2
    · cases h
  | .rng2 a b, ρ, ds, h => by
    unfold evI at h
    split at h
    · obtain ⟨a, b⟩ := guardO_eq h; subst b; rw [rngD_len]; exact a.2.2.2.2
    · cases h

/-! ### comprehensions -/
theorem wipe_eq {σ τ : L2.St} (hl : τ.length = σ.length) : ∀ {vs : List Nat}, (∀ j, j ∉ vs → τ[j]? = σ[j]?) → wipe τ vs = wipe σ vs := by
  intro vs h
  have len : ∀ (σ : L2.St) (vs : List Nat), (wipe σ vs).length = σ.length := fun σ vs => L2.wipe_length σ vs
  apply List.ext_getElem?
  intro j
  have key : ∀ (σ : L2.St) (vs : List Nat), (wipe σ vs)[j]? = if j ∈ vs then (if j < σ.length then some none else none) else σ[j]? := by
    intro σ vs
    induction vs with
    | nil => simp [wipe]
    | cons v vs ih =>
      unfold wipe
      by_cases e : v = j
      · subst e
        rw [if_pos (List.mem_cons_self)]
        by_cases hj : v < σ.length
        · rw [if_pos hj, List.getElem?_set_self (by rw [len]; exact hj)]
        · rw [if_neg hj, List.getElem?_eq_none (by rw [List.length_set, len]; omega)]
      · rw [List.getElem?_set_ne e, ih]
        have : (j ∈ v :: vs) ↔ j ∈ vs := by simp [Ne.symm e]
        simp only [this]
  rw [key τ vs, key σ vs, hl]
  by_cases hj : j ∈ vs
  · rw [if_pos hj, if_pos hj]
  · rw [if_neg hj, if_neg hj, h j hj]
theorem wipe_wipe (σ : L2.St) (vs : List Nat) : wipe (wipe σ vs) vs = wipe σ vs := by
  refine wipe_eq (L2.wipe_length σ vs) fun j hj => ?_
  induction vs with
  | nil => rfl
  | cons v vs ih =>
    have h1 : v ≠ j := fun e => hj (by rw [e]; exact List.mem_cons_self)
    have h2 : j ∉ vs := fun e => hj (List.mem_cons_of_mem _ e)
    unfold wipe
    rw [List.getElem?_set_ne h1]
    exact ih h2
theorem Vd.wipe {H0 G H : Hp} {ρ : Env} {σ : L2.St} (hv : Vd W H0 ρ σ G H) : ∀ vs : List Nat, Vd W H0 (PD.unE ρ vs) (L2.wipe σ vs) G H
  | [] => hv
  | v :: vs => (Vd.wipe hv vs).un v none
/-- the turns of a comprehension: what a turn is to do -/
structure CInv (W : Wd) (G1 H1 : Hp) (Dl : Addr) (f : D → Option (Option D)) (items : List D) (l : List D) (i m : Nat) (H : Hp) : Prop where
  cnt : m + i = items.length
  st : ∃ G acc dacc rest, Step G1 H1 G H ∧ H Dl = some (.lst acc) ∧ G Dl = none ∧ Reps W G acc dacc ∧ compD f (items.drop i) = some rest ∧ dacc ++ rest = l ∧ dacc.length ≤ i
theorem comp_rd {it : It} {tg : Tg} {f : D → Option (Option D)} {own : List Nat} {tt : TT} {te : TE} {σ : L2.St} {H H0 G : Hp} {ρ : Env} {items l : List D} {Q : VK} (hv : Vd W H0 ρ σ G H) (h1 : evI Φ it ρ = some items) (h2 : compD f items = some l) (hs : ∀ j ∈ tg.slots, j ∈ own)
    (turn : ∀ (d : D) (o : Option D) (v : V) (G2 H2 : Hp), f d = some o → Step G H G2 H2 → Rep W G2 v d → tG W tg v (L2.wipe σ own) H2 fun σ2 H3 => SameOut tg.slots (L2.wipe σ own) σ2 → H3 = H2 → tt σ2 H3 fun b H4 => match o with
      | some x => b = true ∧ te σ2 H4 fun y H5 => ∃ G5, Step G2 H2 G5 H5 ∧ Rep W G5 y x
      | none => b = false ∧ ∃ G5, Step G2 H2 G5 H4)
    (k : ∀ v G' H', Step G H G' H' → ResOk W H G' H' (.own l) v → Q v H')
    (monoG : ∀ v σ H (Q Q' : L2.St → Hp → Prop), (∀ σ' H', SameOut tg.slots σ σ' → H' = H → Q σ' H' → Q' σ' H') → tG W tg v σ H Q → tG W tg v σ H Q')
    (monoT : ∀ σ H (Q Q' : Bool → Hp → Prop), (∀ b H', Q b H' → Q' b H') → tt σ H Q → tt σ H Q') (monoE : ∀ σ H (Q Q' : VK), (∀ b H', Q b H' → Q' b H') → te σ H Q → te σ H Q') :
    tLc (tI W Φ it) (tG W tg) tt te own σ H Q := by
  refine ⟨H0, ρ, G, items, hv, h1, fun J G1 H1 s1 hJ => fun Dl hD => ⟨fun i m H' => CInv W G1 H1 Dl f items l i m H', ⟨items.length, by simp, G1, [], [], l, ?_, upd_same, s1.sub.free hD, .nil, h2, rfl, Nat.zero_le _⟩, fun i m H' inv => ?_⟩⟩
  · exact .newO s1.sub hD
  obtain ⟨cnt, G', acc, dacc, rest, st, hl, hg, hr, hc, hd, hn⟩ := inv
  obtain ⟨hgo, hstop⟩ := hJ G' H' st.gx st.sub
  cases e : items[i]? with
  | none =>
    have hi : i = items.length := by
      have := List.getElem?_eq_none_iff.mp e
      omega
    subst hi
    rw [List.drop_length] at hc
    cases hc
    rw [List.append_nil] at hd
    subst hd
    exact .inl ⟨hstop, k _ G' H' (s1.trans st) ⟨Dl, rfl, s1.hx.free hD, acc, hl, hg, hr⟩⟩
  | some d =>
    have hi : i < items.length := (List.getElem?_eq_some_iff.mp e).1
    have hdr : items.drop i = d :: items.drop (i + 1) := by
      rw [List.drop_eq_getElem_cons hi]
      congr 1
      exact (List.getElem?_eq_some_iff.mp e).2
    rw [hdr] at hc
    unfold compD at hc
    obtain ⟨o, c1, hc⟩ := Option.bind_eq_some_iff.mp hc
    obtain ⟨rest', c2, c3⟩ := Option.map_eq_some_iff.mp hc
    obtain ⟨go, yl⟩ := hgo i d e
    refine .inr ⟨go, fun H'' => CInv W G1 H1 Dl f items l (i + 1) (m - 1) H'', fun H'' z => ⟨m - 1, by omega, z⟩, fun x H'' y => ?_⟩
    obtain ⟨G2, s2, rx⟩ := yl x H'' y
    have lim := evI_len h1
    refine monoG _ _ _ _ _ (fun σ2 H3 so e3 q => ⟨?_, ?_⟩) (turn d o x G2 H'' c1 ((s1.trans st).trans s2) rx)
    · have : L2.wipe σ2 own = L2.wipe (L2.wipe σ own) own := wipe_eq so.1 fun j hj => so.2 j fun z => hj (hs j z)
      rw [this, wipe_wipe]
    · subst e3
      refine monoT _ _ _ _ (fun b H4 q4 => ?_) (q so rfl)
      cases o with
      | none =>
        obtain ⟨eb, G5, s5⟩ := q4
        subst eb
        subst c3
        refine iteF ⟨by omega, G5, acc, dacc, rest', (st.trans s2).trans s5, s5.hx _ _ (s2.hx _ _ hl), s5.av _ (by rw [s2.hx _ _ hl]; simp) (s2.av _ (by rw [hl]; simp) hg), hr.mono (s2.gx.trans s5.gx), c2, hd, by omega⟩
      | some z =>
        obtain ⟨eb, q5⟩ := q4
        subst eb
        subst c3
        refine iteT (monoE _ _ _ _ (fun y' H5 q6 => ?_) q5)
        obtain ⟨G5, s5, r5⟩ := q6
        have hl5 := s5.hx _ _ (s2.hx _ _ hl)
        have hg5 := s5.av _ (by rw [s2.hx _ _ hl]; simp) (s2.av _ (by rw [hl]; simp) hg)
        have st5 := (st.trans s2).trans s5
        refine ⟨acc, hl5, by rw [hr.length]; exact lim_lt (by omega), by omega, G5, acc ++ [y'], dacc ++ [z], rest', ⟨fun a o' q => ?_, st5.gx, fun a o' q => ?_, st5.av⟩, upd_same, hg5, (hr.mono (s2.gx.trans s5.gx)).snoc r5, c2, by rw [List.append_assoc]; exact hd, by rw [List.length_append]; simp; omega⟩
        · rw [upd_ne (ne_of_none q hD)]
          exact st5.hx a o' q
        · rw [upd_ne (ne_of_none q hg5)]
          exact st5.sub a o' q
end
end PD

set_option Elab.async false
set_option linter.all false
set_option maxRecDepth 100000
set_option maxHeartbeats 4000000
/-! PD6: comprehensions as expressions; statements, what they do. -/
namespace PD
open PySem PySem.Spec PyProof.Rows L2

theorem tG.mono {W : Wd} {tg : Tg} (v : V) (σ : L2.St) (H : Hp) (Q Q' : L2.St → Hp → Prop) (i : ∀ σ' H', SameOut tg.slots σ σ' → H' = H → Q σ' H' → Q' σ' H') (h : tG W tg v σ H Q) : tG W tg v σ H Q' := by
  obtain ⟨H0, ρ, G, d, ρ', hv, hr, e, k⟩ := h
  exact ⟨H0, ρ, G, d, ρ', hv, hr, e, fun σ' hv' so => i σ' H so rfl (k σ' hv' so)⟩
section
variable {X : Cx} {W : Wd} {Φ : Nat → List D → Option Sl}
theorem tE.mono {e : E} (σ : L2.St) (H : Hp) (Q Q' : VK) (i : ∀ v H', Q v H' → Q' v H') (h : tE W Φ e σ H Q) : tE W Φ e σ H Q' := by
  obtain ⟨H0, ρ, G, r, hv, he, k⟩ := h
  exact ⟨H0, ρ, G, r, hv, he, fun v G' H' s ro => i v H' (k v G' H' s ro)⟩
theorem tT.mono {e : E} (σ : L2.St) (H : Hp) (Q Q' : Bool → Hp → Prop) (i : ∀ b H', Q b H' → Q' b H') (h : tT W Φ e σ H Q) : tT W Φ e σ H Q' := by
  obtain ⟨H0, ρ, G, r, hv, he, k⟩ := h
  exact ⟨H0, ρ, G, r, hv, he, fun G' H' s => i r H' (k G' H' s)⟩
/-- the reading of [e for t in it] -/
theorem comp_go {e : E} {tg : Tg} {it : It} {own : List Nat} (hs : ∀ j ∈ tg.slots, j ∈ own) {σ : L2.St} {H : Hp} {Q : VK} (h : tE W Φ (.comp e tg it own) σ H Q) : tLc (tI W Φ it) (tG W tg) tYes (tE W Φ e) own σ H Q := by
  obtain ⟨H0, ρ, G, r, hv, he, k⟩ := h
  unfold evE at he
  obtain ⟨items, h1, he⟩ := Option.bind_eq_some_iff.mp he
  obtain ⟨l, h2, h3⟩ := Option.map_eq_some_iff.mp he
  subst h3
  refine comp_rd hv h1 h2 hs (fun d o v G2 H2 hf s rv => ?_) k tG.mono (fun σ H Q Q' i q => i _ _ q) tE.mono
  obtain ⟨ρ1, f1, f2⟩ := Option.bind_eq_some_iff.mp hf
  obtain ⟨x, f3, f4⟩ := Option.map_eq_some_iff.mp f2
  subst f4
  exact ⟨H0, _, G2, d, ρ1, Vd.wipe (hv.step s) own, rv, f1, fun σ' hv' so _ _ => ⟨rfl, tE.go hv' f3 fun y G5 H5 s5 r5 => ⟨G5, s5, r5⟩⟩⟩
theorem compf_go {e c : E} {tg : Tg} {it : It} {own : List Nat} (hs : ∀ j ∈ tg.slots, j ∈ own) {σ : L2.St} {H : Hp} {Q : VK} (h : tE W Φ (.compf e tg it c own) σ H Q) : tLc (tI W Φ it) (tG W tg) (tT W Φ c) (tE W Φ e) own σ H Q := by
  obtain ⟨H0, ρ, G, r, hv, he, k⟩ := h
  unfold evE at he
  obtain ⟨items, h1, he⟩ := Option.bind_eq_some_iff.mp he
  obtain ⟨l, h2, h3⟩ := Option.map_eq_some_iff.mp he
  subst h3
  refine comp_rd hv h1 h2 hs (fun d o v G2 H2 hf s rv => ?_) k tG.mono tT.mono tE.mono
  obtain ⟨ρ1, f1, f2⟩ := Option.bind_eq_some_iff.mp hf
  obtain ⟨b, f3, f4⟩ := Option.bind_eq_some_iff.mp f2
  refine ⟨H0, _, G2, d, ρ1, Vd.wipe (hv.step s) own, rv, f1, fun σ' hv' so _ _ => ⟨H0, ρ1, G2, b, hv', f3, fun G4 H4 s4 => ?_⟩⟩
  cases b with
  | true =>
    obtain ⟨x, f5, f6⟩ := Option.map_eq_some_iff.mp f4
    subst f6
    exact ⟨rfl, tE.go (hv'.step s4) f5 fun y G5 H5 s5 r5 => ⟨G5, s4.trans s5, r5⟩⟩
  | false =>
    cases f4
    exact ⟨rfl, G4, s4⟩
def notSet : Expr → Bool
  | .Set _ _ _ => false
  | _ => true
theorem fold_no {a : Expr} {env : PySem.Env} (h : notSet a = true) : ∀ x, foldedSetIterable a env x = pure x := by
  intro x
  cases a <;> first | rfl | cases h
abbrev Blk (X : Cx) (scope : Scope) (p : Cx → Prop) : Prop := ∀ (s : Shared) (H : Hp) (C : Addr) (cl : List (Str × Addr)) (fp : List Addr), p (X.blk s H scope (compEnvC scope cl C X.env) fp)
theorem de_comp {elt tg iter : Expr} {scope : Scope} {own : List (Str × Nat)} {pos : Pos} {e : E} {t : Tg} {it : It} (hc : X.calm = true) (hN : X.N.Nodup) (hi : PI X tg iter (tI W Φ it)) (ok : BlkOk X.N X.env.scope scope own)
    (hg : Blk X scope fun Y => PG Y tg (tG W t)) (he : Blk X scope fun Y => DE Y W Φ elt e) (hf : notSet iter = true) (hs : ∀ j ∈ t.slots, j ∈ own.map (·.2)) : DE X W Φ (.ListComp elt [⟨tg, iter, [], 0⟩] scope pos) (.comp e t it (own.map (·.2))) :=
  PE.imp (pe_lc hc hN hi ok hg (fun _ _ _ _ _ => pts_nil) he (fold_no hf)) fun _ _ _ h => comp_go hs h
theorem de_compf {elt tg iter c : Expr} {scope : Scope} {own : List (Str × Nat)} {pos : Pos} {e ec : E} {t : Tg} {it : It} (hc : X.calm = true) (hN : X.N.Nodup) (hi : PI X tg iter (tI W Φ it)) (ok : BlkOk X.N X.env.scope scope own)
    (hg : Blk X scope fun Y => PG Y tg (tG W t)) (ht : Blk X scope fun Y => DT Y W Φ c ec) (he : Blk X scope fun Y => DE Y W Φ elt e) (hf : notSet iter = true) (hs : ∀ j ∈ t.slots, j ∈ own.map (·.2)) : DE X W Φ (.ListComp elt [⟨tg, iter, [c], 0⟩] scope pos) (.compf e t it ec (own.map (·.2))) :=
  PE.imp (pe_lc hc hN hi ok hg (fun s H C cl fp => pts_one (ht s H C cl fp)) he (fold_no hf)) fun _ _ _ h => compf_go hs h
end

/-! ### statements -/
mutual
inductive S where
  | asg (fz : List Nat) (tg : Tg) (e : E)
  | asgB (fz : List Nat) (tg : Tg) (e : E)
  | app (i : Nat) (fz : List Nat) (e : E)
  | setix (i : Nat) (fz : List Nat) (ix e : E)
  | popTo (t i : Nat)
  | ret (fz : List Nat) (e : E) | retS (i : Nat) | retN
  | if_ (fz : List Nat) (c : E) (a b : Ss)
  | for_ (fz : List Nat) (tg : Tg) (it : It) (body : Ss)
  | while_ (fuel : Nat) (fz : List Nat) (c : E) (body : Ss)
  | pass | brk | cont | never
inductive Ss where
  | nil | cons (s : S) (r : Ss)
end
inductive Out where
  | nx (ρ : Env) | ret (r : Sl) (ρ : Env) | brk (ρ : Env) | ct (ρ : Env)
def frz1 (i : Nat) (ρ : Env) : Env := match ρ[i]? with
  | some (.own l) => ρ.set i (.dat (.lst l))
  | _ => ρ
def frz : List Nat → Env → Env
  | [], ρ => ρ
  | i :: r, ρ => frz r (frz1 i ρ)
def scalar : D → Bool
  | .non => true | .bl _ => true | .int _ => true | .str _ => true | _ => false
def evFor (body : Env → Option Out) (tg : Tg) : List D → Env → Option Out
  | [], ρ => some (.nx ρ)
  | d :: ds, ρ => (bindT tg d ρ).bind fun ρ1 => (body ρ1).bind fun o => match o with
    | .nx ρ' => evFor body tg ds ρ'
    | .ct ρ' => evFor body tg ds ρ'
    | .brk ρ' => some (.nx ρ')
    | .ret r ρ' => some (.ret r ρ')
def evWhile (test : Env → Option Bool) (body : Env → Option Out) : Nat → Env → Option Out
  | 0, _ => none
  | n + 1, ρ => (test ρ).bind fun b => if b = true then (body ρ).bind fun o => match o with
      | .nx ρ' => evWhile test body n ρ'
      | .ct ρ' => evWhile test body n ρ'
      | .brk ρ' => some (.nx ρ')
      | .ret r ρ' => some (.ret r ρ')
    else some (.nx ρ)
/-- a result comes to a target -/
def storeT : Tg → Sl → Env → Option Env
  | .name i, .own l, ρ => some (ρ.set i (.own l))
  | t, .dat d, ρ => bindT t d ρ
  | _, _, _ => none
section
variable (Φ : Nat → List D → Option Sl)
mutual
def evS : S → Env → Option Out
  | .asg fz tg e, ρ => (evE Φ e (frz fz ρ)).bind fun r => (storeT tg r (frz fz ρ)).map .nx
  | .asgB fz tg e, ρ => (toDo (evE Φ e (frz fz ρ))).bind fun d => if scalar d = true then (bindT tg d ρ).map .nx else none
  | .app i fz e, ρ => (toDo (evE Φ e (frz fz ρ))).bind fun d => match (frz fz ρ)[i]? with
      | some (.own l) => guardO (l.length < LIM) (.nx ((frz fz ρ).set i (.own (l ++ [d]))))
      | _ => none
  | .setix i fz ix e, ρ => (toDo (evE Φ e (frz fz ρ))).bind fun d => (toDo (evE Φ ix (frz fz ρ))).bind fun k => match (frz fz ρ)[i]?, k with
      | some (.own l), .int k => (ixN l.length k).map fun j => .nx ((frz fz ρ).set i (.own (l.set j d)))
      | _, _ => none
  | .popTo t i, ρ => match ρ[i]? with
      | some (.own l) => if t = i then none else (l[l.length - 1]?).map fun d => .nx ((ρ.set i (.own l.dropLast)).set t (.dat d))
      | _ => none
  | .ret fz e, ρ => (evE Φ e (frz fz ρ)).map fun r => .ret r (frz fz ρ)
  | .retS i, ρ => match ρ[i]? with | some (.own l) => some (.ret (.own l) (ρ.set i .un)) | _ => none
  | .retN, ρ => some (.ret (.dat .non) ρ)
  | .if_ fz c a b, ρ => (ofB (evE Φ c (frz fz ρ))).bind fun k => if k = true then evSs a ρ else evSs b ρ
  | .for_ fz tg it body, ρ => (evI Φ it (frz fz ρ)).bind fun items => evFor (evSs body) tg items (frz fz ρ)
  | .while_ n fz c body, ρ => evWhile (fun ρ => ofB (evE Φ c (frz fz ρ))) (evSs body) n ρ
  | .pass, ρ => some (.nx ρ)
  | .brk, ρ => some (.brk ρ)
  | .cont, ρ => some (.ct ρ)
  | .never, _ => none
def evSs : Ss → Env → Option Out
  | .nil, ρ => some (.nx ρ)
  | .cons s r, ρ => (evS s ρ).bind fun o => match o with
    | .nx ρ' => evSs r ρ'
    | o => some o
end
end
/-- from the data G on, in a def that was entered at H0 -/
structure Mv (H0 G G' H' : Hp) : Prop where
  hx : Ex H0 H'
  gx : Ex G G'
  sub : Ex G' H'
  av : ∀ a, H0 a ≠ none → G a = none → G' a = none
theorem Mv.trans {H0 G G1 H1 G2 H2 : Hp} (a : Mv H0 G G1 H1) (b : Mv H0 G1 G2 H2) : Mv H0 G G2 H2 := ⟨b.hx, a.gx.trans b.gx, b.sub, fun x h z => b.av x h (a.av x h z)⟩
theorem Step.mv {H0 G H G' H' : Hp} (e : Ex H0 H) (s : Step G H G' H') : Mv H0 G G' H' := ⟨e.trans s.hx, s.gx, s.sub, fun a h z => s.av a (fun q => h (e.free q)) z⟩
theorem Mv.refl {H0 G H : Hp} (e : Ex H0 H) (s : Ex G H) : Mv H0 G G H := ⟨e, .refl _, s, fun _ _ z => z⟩
def Aft (W : Wd) (H0 G : Hp) (D : Ends) : Out → Prop
  | .nx ρ => ∀ σ G' H', Vd W H0 ρ σ G' H' → Mv H0 G G' H' → D.nx σ H'
  | .ret r ρ => ∀ v σ G' H', Vd W H0 ρ σ G' H' → Mv H0 G G' H' → ResOk W H0 G' H' r v → D.rt v H'
  | .brk ρ => ∀ σ G' H', Vd W H0 ρ σ G' H' → Mv H0 G G' H' → D.bk σ H'
  | .ct ρ => ∀ σ G' H', Vd W H0 ρ σ G' H' → Mv H0 G G' H' → D.ct σ H'
theorem Aft.mv {W : Wd} {H0 G G1 H1 : Hp} {D : Ends} (m : Mv H0 G G1 H1) : ∀ {o : Out}, Aft W H0 G D o → Aft W H0 G1 D o
  | .nx ρ, h => fun σ G' H' hv m' => h σ G' H' hv (m.trans m')
  | .ret r ρ, h => fun v σ G' H' hv m' ro => h v σ G' H' hv (m.trans m') ro
  | .brk ρ, h => fun σ G' H' hv m' => h σ G' H' hv (m.trans m')
  | .ct ρ, h => fun σ G' H' hv m' => h σ G' H' hv (m.trans m')
def tS (W : Wd) (Φ : Nat → List D → Option Sl) (s : S) : TS := fun D σ H => ∃ H0 ρ G o, Vd W H0 ρ σ G H ∧ Ex H0 H ∧ evS Φ s ρ = some o ∧ Aft W H0 G D o
def tSs (W : Wd) (Φ : Nat → List D → Option Sl) (s : Ss) : TS := fun D σ H => ∃ H0 ρ G o, Vd W H0 ρ σ G H ∧ Ex H0 H ∧ evSs Φ s ρ = some o ∧ Aft W H0 G D o
abbrev DS (X : Cx) (W : Wd) (Φ : Nat → List D → Option Sl) (a : Stmt) (s : S) : Prop := PS X a (tS W Φ s)
abbrev DSs (X : Cx) (W : Wd) (Φ : Nat → List D → Option Sl) (a : List Stmt) (s : Ss) : Prop := PSs X a (tSs W Φ s)
theorem PS.imp {X : Cx} {a : Stmt} {t t' : TS} (h : PS X a t) (i : ∀ D σ H, t' D σ H → t D σ H) : PS X a t' := ⟨fun pins s σ H D I q => h.run pins s σ H D I (i D σ H q)⟩
theorem PSs.imp {X : Cx} {a : List Stmt} {t t' : TS} (h : PSs X a t) (i : ∀ D σ H, t' D σ H → t D σ H) : PSs X a t' := ⟨fun pins s σ H D I q => h.run pins s σ H D I (i D σ H q)⟩

section
variable {X : Cx} {W : Wd} {Φ : Nat → List D → Option Sl}
/-- a list given to the data that no own slot holds -/
theorem Vd.give {H0 G H : Hp} {ρ : Env} {σ : L2.St} {p : Addr} {vs : List V} (hv : Vd W H0 ρ σ G H) (h : H p = some (.lst vs)) (g : G p = none) (f : ∀ (j : Nat) (es : List D), ρ[j]? = some (.own es) → σ[j]? ≠ some (some (.ref p))) : Vd W H0 ρ σ (upd G p (.lst vs)) H := by
  have ex : Ex G (upd G p (.lst vs)) := .new g
  refine ⟨fun a o e => ?_, hv.len, fun i l v e1 e2 => ?_, hv.apart⟩
  · by_cases q : a = p
    · subst q; rw [upd_same] at e; cases e; exact h
    · rw [upd_ne q] at e; exact hv.sub a o e
  · have hs := hv.slot i l v e1 e2
    cases l with
    | un => trivial
    | dat d =>
      cases v with
      | none => exact hs
      | some v => exact Rep.mono ex hs
    | own es =>
      cases v with
      | none => exact hs
      | some v =>
        obtain ⟨q, rfl, n, ws, h1, h2, h3⟩ := hs
        have ne : q ≠ p := fun z => f i es e1 (by rw [e2, z])
        exact ⟨q, rfl, n, ws, h1, by rw [upd_ne ne]; exact h2, h3.mono ex⟩
theorem Vd.frz1 {H0 G H : Hp} {ρ : Env} {σ : L2.St} (hv : Vd W H0 ρ σ G H) (ex : Ex H0 H) (i : Nat) : ∃ G', Vd W H0 (frz1 i ρ) σ G' H ∧ Mv H0 G G' H := by
  unfold PD.frz1
  split
  · rename_i l e
    obtain ⟨p, h1, h2, vs, h3, h4, h5⟩ := hv.own e
    have un := hv.unE i
    have gv : Vd W H0 (ρ.set i .un) σ (upd G p (.lst vs)) H := Vd.give un h3 h4 fun j es e1 e2 => by
      by_cases q : i = j
      · subst q
        rw [List.getElem?_set_self (List.getElem?_eq_some_iff.mp e).1] at e1
        cases e1
      · rw [List.getElem?_set_ne q] at e1
        exact hv.apart i j p _ _ q e e1 h1 e2
    have rp : Rep W (upd G p (.lst vs)) (.ref p) (.lst l) := .lst upd_same (h5.mono (.new h4))
    have sd := gv.setD i rp
    rw [List.set_set] at sd
    have hs : σ.set i (some (.ref p)) = σ := by
      obtain ⟨hi, e⟩ := List.getElem?_eq_some_iff.mp h1
      rw [← e, List.set_getElem_self]
    rw [hs] at sd
    refine ⟨_, sd, ex, .new h4, sd.sub, fun a h z => ?_⟩
    rw [upd_ne (fun q => h (by rw [q]; exact h2))]
    exact z
  · exact ⟨G, hv, .refl ex hv.sub⟩
theorem Vd.frz {H0 H : Hp} {σ : L2.St} (ex : Ex H0 H) : ∀ (fz : List Nat) {G : Hp} {ρ : Env}, Vd W H0 ρ σ G H → ∃ G', Vd W H0 (frz fz ρ) σ G' H ∧ Mv H0 G G' H
  | [], G, ρ, hv => ⟨G, hv, .refl ex hv.sub⟩
  | i :: r, G, ρ, hv => by
    obtain ⟨G1, h1, m1⟩ := hv.frz1 ex i
    obtain ⟨G2, h2, m2⟩ := Vd.frz ex r h1
    exact ⟨G2, h2, m1.trans m2⟩
/-- what is only asked: the data that were given go back -/
theorem Vd.back {H0 G H H' : Hp} {ρ : Env} {σ : L2.St} (hv : Vd W H0 ρ σ G H) (e : Ex H H') : Vd W H0 ρ σ G H' := hv.step ⟨e, .refl _, hv.sub.trans e, fun _ _ z => z⟩
theorem rep_scalar {G G' : Hp} {v : V} {d : D} (r : Rep W G v d) (s : scalar d = true) : Rep W G' v d := by
  cases r <;> first | exact .non | exact .bl | exact .int | exact .str | (cases s; done)
theorem toDo_rd {e : E} {ρ : Env} {d : D} (h : toDo (evE Φ e ρ) = some d) : True := trivial
/-- what was made just now is in no slot -/
theorem Vd.fresh {H0 G H : Hp} {ρ : Env} {σ : L2.St} {p : Addr} (hv : Vd W H0 ρ σ G H) (n : H p = none) : ∀ (j : Nat) (es : List PD.D), ρ[j]? = some (.own es) → σ[j]? ≠ some (some (.ref p)) := fun j es e1 e2 => by
  obtain ⟨q, h1, _, vs, h2, _⟩ := hv.own e1
  rw [h1] at e2
  cases e2
  rw [n] at h2; cases h2
/-- name = e, by its reading -/
theorem asgN_rd {fz : List Nat} {i : Nat} {e : E} {D : Ends} {σ : L2.St} {H : Hp} (h : tS W Φ (.asg fz (.name i) e) D σ H) : tE W Φ e σ H fun x H1 => D.nx (σ.set i (some x)) H1 := by
  obtain ⟨H0, ρ, G, o, hv, ex, he, k⟩ := h
  unfold evS at he
  obtain ⟨r, h1, h2⟩ := Option.bind_eq_some_iff.mp he
  obtain ⟨ρ', h3, h4⟩ := Option.map_eq_some_iff.mp h2
  subst h4
  obtain ⟨G1, hf, m1⟩ := hv.frz ex fz
  refine ⟨H0, _, G1, r, hf, h1, fun v G2 H2 s ro => ?_⟩
  have hv2 := hf.step s
  have m2 := m1.trans (s.mv ex)
  cases r with
  | un => cases h3
  | dat d =>
    cases h3
    exact k _ G2 H2 (hv2.setD i ro) m2
  | own l =>
    cases h3
    obtain ⟨p, rfl, n, o⟩ := ro
    exact k _ G2 H2 (hv2.setO i (ex.free n) o fun j es e1 => hf.fresh n j es e1) m2
theorem ds_asgN {fz : List Nat} {i : Nat} {x : Str} {a : Expr} {e : E} {pos pos' : Pos} (hN : X.N.Nodup) (hi : X.N[i]? = some x) (hx : Loc X.env.scope x) (ha : DE X W Φ a e) (hs : swapsWith a (some (.Name x pos')) pos.line X.env = pure false) (hf : X.fn x = true ∨ X.env.scope.names.lookup x = some .local) :
    DS X W Φ (.Assign [.Name x pos'] a pos) (.asg fz (.name i) e) := PS.imp (ps_set hN hi hx ha hs hf) fun D σ H h => asgN_rd h
theorem ds_asgT {fz : List Nat} {tga a : Expr} {t : Tgs} {e : E} {pos : Pos} (ha : DE X W Φ a e) (hg : PG X tga (tG W (.tup t))) (hs : swapsWithSole [tga] a pos.line X.env = pure false) (hw : swappedStores [tga] a X.env = pure none) (h1 : (assignEach [tga] X.env).map (·.2) = [assign tga X.env]) :
    DS X W Φ (.Assign [tga] a pos) (.asg fz (.tup t) e) := by
  refine PS.imp (ps_asg ha hg hs hw h1) fun D σ H h => ?_
  obtain ⟨H0, ρ, G, o, hv, ex, he, k⟩ := h
  unfold evS at he
  obtain ⟨r, h1, h2⟩ := Option.bind_eq_some_iff.mp he
  obtain ⟨ρ', h3, h4⟩ := Option.map_eq_some_iff.mp h2
  subst h4
  obtain ⟨G1, hf, m1⟩ := hv.frz ex fz
  refine ⟨H0, _, G1, r, hf, h1, fun v G2 H2 s ro => ?_⟩
  cases r with
  | un => cases h3
  | own l => cases h3
  | dat d => exact ⟨H0, _, G2, d, ρ', hf.step s, ro, h3, fun σ' hv' _ => k σ' G2 H2 hv' (m1.trans (s.mv ex))⟩
/-- .. of a scalar, the lists that were asked stay our own -/
theorem asgBN_rd {fz : List Nat} {i : Nat} {e : E} {D : Ends} {σ : L2.St} {H : Hp} (h : tS W Φ (.asgB fz (.name i) e) D σ H) : tE W Φ e σ H fun x H1 => D.nx (σ.set i (some x)) H1 := by
  obtain ⟨H0, ρ, G, o, hv, ex, he, k⟩ := h
  unfold evS at he
  obtain ⟨d, h1, h2⟩ := Option.bind_eq_some_iff.mp he
  split at h2
  · rename_i hs
    cases h2
    obtain ⟨G1, hf, m1⟩ := hv.frz ex fz
    refine tE.go hf h1 fun v G2 H2 s r => k _ G H2 ((hv.back s.hx).setD i (rep_scalar r hs)) ⟨ex.trans s.hx, .refl _, hv.sub.trans s.hx, fun _ _ z => z⟩
  · cases h2
theorem ds_asgBN {fz : List Nat} {i : Nat} {x : Str} {a : Expr} {e : E} {pos pos' : Pos} (hN : X.N.Nodup) (hi : X.N[i]? = some x) (hx : Loc X.env.scope x) (ha : DE X W Φ a e) (hs : swapsWith a (some (.Name x pos')) pos.line X.env = pure false) (hf : X.fn x = true ∨ X.env.scope.names.lookup x = some .local) :
    DS X W Φ (.Assign [.Name x pos'] a pos) (.asgB fz (.name i) e) := PS.imp (ps_set hN hi hx ha hs hf) fun D σ H h => asgBN_rd h
/-- y = [..] -/
theorem ds_asgLc {fz : List Nat} {i : Nat} {y : Str} {py : Pos} {elt tg iter : Expr} {scope : Scope} {own : List (Str × Nat)} {pos spos : Pos} {e : E} {t : Tg} {it : It} (hc : X.calm = true) (hN : X.N.Nodup) (hy : X.N[i]? = some y) (hyl : X.env.scope.names.lookup y = some .local)
    (hsw : swapsWith (.ListComp elt [⟨tg, iter, [], 0⟩] scope pos) (some (.Name y py)) spos.line X.env = pure true) (hi : PI X tg iter (tI W Φ it)) (ok : BlkOk X.N X.env.scope scope own)
    (hg : Blk X scope fun Y => PG Y tg (tG W t)) (he : Blk X scope fun Y => DE Y W Φ elt e) (hf : notSet iter = true) (hs : ∀ j ∈ t.slots, j ∈ own.map (·.2)) : DS X W Φ (.Assign [.Name y py] (.ListComp elt [⟨tg, iter, [], 0⟩] scope pos) spos) (.asg fz (.name i) (.comp e t it (own.map (·.2)))) :=
  PS.imp (ps_setLc hc hN hy hyl hsw hi ok hg (fun _ _ _ _ _ => pts_nil) he (fold_no hf)) fun D σ H h => comp_go hs (asgN_rd h)
theorem ds_asgLcf {fz : List Nat} {i : Nat} {y : Str} {py : Pos} {elt tg iter c : Expr} {scope : Scope} {own : List (Str × Nat)} {pos spos : Pos} {e ec : E} {t : Tg} {it : It} (hc : X.calm = true) (hN : X.N.Nodup) (hy : X.N[i]? = some y) (hyl : X.env.scope.names.lookup y = some .local)
    (hsw : swapsWith (.ListComp elt [⟨tg, iter, [c], 0⟩] scope pos) (some (.Name y py)) spos.line X.env = pure true) (hi : PI X tg iter (tI W Φ it)) (ok : BlkOk X.N X.env.scope scope own)
    (hg : Blk X scope fun Y => PG Y tg (tG W t)) (ht : Blk X scope fun Y => DT Y W Φ c ec) (he : Blk X scope fun Y => DE Y W Φ elt e) (hf : notSet iter = true) (hs : ∀ j ∈ t.slots, j ∈ own.map (·.2)) : DS X W Φ (.Assign [.Name y py] (.ListComp elt [⟨tg, iter, [c], 0⟩] scope pos) spos) (.asg fz (.name i) (.compf e t it ec (own.map (·.2)))) :=
  PS.imp (ps_setLc hc hN hy hyl hsw hi ok hg (fun s H C cl fp => pts_one (ht s H C cl fp)) he (fold_no hf)) fun D σ H h => compf_go hs (asgN_rd h)
/-- an own list in a slot written -/
theorem Vd.write {H0 G H : Hp} {ρ : Env} {σ : L2.St} {i : Nat} {l l' : List PD.D} {p : Addr} {vs' : List V} (hv : Vd W H0 ρ σ G H) (e : ρ[i]? = some (.own l)) (hp : σ[i]? = some (some (.ref p))) (r : Reps W G vs' l') : Vd W H0 (ρ.set i (.own l')) σ G (upd H p (.lst vs')) := by
  obtain ⟨q, h1, h2, vs, h3, h4, h5⟩ := hv.own e
  rw [hp] at h1
  cases h1
  have hi : i < σ.length := (List.getElem?_eq_some_iff.mp hp).1
  refine ⟨fun a o z => ?_, by rw [List.length_set]; exact hv.len, fun j k v e1 e2 => ?_, fun j k q ds es ne e1 e2 e3 e4 => ?_⟩
  · rw [upd_ne (ne_of_none z h4)]
    exact hv.sub a o z
  · by_cases q : i = j
    · subst q
      rw [List.getElem?_set_self (by rw [← hv.len]; exact hi)] at e1
      cases e1
      rw [hp] at e2
      cases e2
      exact ⟨p, rfl, h2, vs', upd_same, h4, r⟩
    · rw [List.getElem?_set_ne q] at e1
      have hs := hv.slot j k v e1 e2
      cases k with
      | un => trivial
      | dat d =>
        cases v with
        | none => exact hs
        | some v => exact hs
      | own es =>
        cases v with
        | none => exact hs
        | some v =>
          obtain ⟨u, rfl, n, ws, g1, g2, g3⟩ := hs
          have ne : u ≠ p := fun z => hv.apart i j p _ _ q e e1 hp (by rw [e2, z])
          exact ⟨u, rfl, n, ws, by rw [upd_ne ne]; exact g1, g2, g3⟩
  · have own' : ∀ {j : Nat} {ds : List PD.D}, (ρ.set i (.own l'))[j]? = some (.own ds) → ∃ ds', ρ[j]? = some (.own ds') := fun {j ds} z => by
      by_cases q : i = j
      · subst q; exact ⟨l, e⟩
      · rw [List.getElem?_set_ne q] at z; exact ⟨ds, z⟩
    obtain ⟨d1, f1⟩ := own' e1
    obtain ⟨d2, f2⟩ := own' e2
    exact hv.apart j k q d1 d2 ne f1 f2 e3 e4
theorem ds_app {i : Nat} {fz : List Nat} {x : Str} {a : Expr} {e : E} {p apos pos pos2 : Pos} (hN : X.N[i]? = some x) (hvs : Vis X.env.scope x) (hd : (x == ("__debug__" : Str)) = false) (hcd : (x == ("__classdict__" : Str)) = false) (ha : DE X W Φ a e) (hst : notStar a = true)
    (hpe : PE X (.Call (.Attribute (.Name x p) "append" apos) [a] [] pos) (tBM X.K "list" rAppend (tVar i) (tCons (tE W Φ e) tNil))) (hs : swapsWith (.Call (.Attribute (.Name x p) "append" apos) [a] [] pos) none pos2.line X.env = pure false) :
    DS X W Φ (.Expr (.Call (.Attribute (.Name x p) "append" apos) [a] [] pos) pos2) (.app i fz e) := by
  refine PS.imp (ps_expr hpe hs) fun D σ H h => ?_
  obtain ⟨H0, ρ, G, o, hv, ex, he, k⟩ := h
  unfold evS at he
  obtain ⟨d, h1, h2⟩ := Option.bind_eq_some_iff.mp he
  split at h2
  · rename_i l e1
    obtain ⟨h3, h4⟩ := guardO_eq h2
    subst h4
    obtain ⟨G1, hf, m1⟩ := hv.frz ex fz
    obtain ⟨q, g1, g2, vs, g3, g4, g5⟩ := hf.own e1
    refine ⟨.ref q, g1, .inl ⟨rfl, _, .inl (.inl g3)⟩, tE.go hf h1 fun v G2 H2 s r => ?_⟩
    have hf2 := hf.step s
    obtain ⟨q', g1', _, vs', g3', g4', g5'⟩ := hf2.own e1
    rw [g1] at g1'
    cases g1'
    refine ⟨q, vs', v, rfl, rfl, g3', by rw [g5'.length]; exact lim_lt (Nat.le_of_lt h3), ?_⟩
    have hw := hf2.write (vs' := vs' ++ [v]) e1 g1 (g5'.snoc r)
    have m2 := m1.trans (s.mv ex)
    refine k _ G2 _ hw ⟨fun a o z => ?_, m2.gx, hw.sub, m2.av⟩
    rw [upd_ne (ne_of_none z g2)]
    exact m2.hx a o z
  · cases h2
/-- t = xs.pop(), xs an own list -/
theorem ds_popTo {t i : Nat} {x y : Str} {p apos pos pos2 py : Pos} (hNd : X.N.Nodup) (hN : X.N[i]? = some x) (hvs : Vis X.env.scope x) (hd : (x == ("__debug__" : Str)) = false) (hcd : (x == ("__classdict__" : Str)) = false) (hi : X.N[t]? = some y) (hx : Loc X.env.scope y) (hf : X.fn y = true ∨ X.env.scope.names.lookup y = some .local)
    (hl : (apos.endLine == pos.line) = true) : DS X W Φ (.Assign [.Name y py] (.Call (.Attribute (.Name x p) "pop" apos) [] [] pos) pos2) (.popTo t i) := by
  refine PS.imp (ps_set hNd hi hx (pe_bm0 PySem.F.plainAttrs_list PySem.F.slot_list_pop PySem.F.type_list_pop mt_pop (pe_var hN hvs hd hcd) rfl hl) rfl hf) fun D σ H h => ?_
  obtain ⟨H0, ρ, G, o, hv, ex, he, k⟩ := h
  unfold evS at he
  split at he
  · rename_i l e1
    split at he
    · cases he
    · rename_i hti
      obtain ⟨d, h1, h2⟩ := Option.map_eq_some_iff.mp he
      subst h2
      obtain ⟨q, g1, g2, vs, g3, g4, g5⟩ := hv.own e1
      obtain ⟨v, v1, v2⟩ := g5.get h1
      refine ⟨.ref q, g1, .inl ⟨rfl, _, .inl (.inl g3)⟩, q, vs, v, rfl, rfl, g3, by rw [g5.length]; exact v1, ?_⟩
      have hw := hv.write (vs' := vs.dropLast) e1 g1 g5.dropLast
      refine k _ G _ (hw.setD t v2) ⟨fun a o z => ?_, .refl _, hw.sub, fun _ _ z => z⟩
      rw [upd_ne (ne_of_none z g2)]
      exact ex a o z
  · cases he
theorem ds_setix {i : Nat} {fz : List Nat} {x : Str} {a b : Expr} {e eb : E} {p pos pos2 : Pos} (hN : X.N[i]? = some x) (hvs : Vis X.env.scope x) (hd : (x == ("__debug__" : Str)) = false) (hcd : (x == ("__classdict__" : Str)) = false) (ha : DE X W Φ a e) (hb : DE X W Φ b eb) (hsl : notSlice b = true)
    (hs : swapsWithSole [.Subscript (.Name x p) b pos] a pos2.line X.env = pure false) (hw : swappedStores [.Subscript (.Name x p) b pos] a X.env = pure none) : DS X W Φ (.Assign [.Subscript (.Name x p) b pos] a pos2) (.setix i fz eb e) := by
  refine PS.imp (ps_asg ha (pg_sub (pe_var hN hvs hd hcd) hb set_list (by intro v; cases b <;> first | rfl | cases hsl)) hs hw) fun D σ H h => ?_
  obtain ⟨H0, ρ, G, o, hv, ex, he, k⟩ := h
  unfold evS at he
  obtain ⟨d, h1, he⟩ := Option.bind_eq_some_iff.mp he
  obtain ⟨j, h2, he⟩ := Option.bind_eq_some_iff.mp he
  split at he
  · rename_i l kk e1
    obtain ⟨n, n1, n2⟩ := Option.map_eq_some_iff.mp he
    subst n2
    obtain ⟨G1, hf, m1⟩ := hv.frz ex fz
    refine tE.go hf h1 fun v G2 H2 s r => ?_
    have hf2 := hf.step s
    obtain ⟨q, g1, g2, o2⟩ := hf2.own e1
    refine ⟨.ref q, g1, tE.go hf2 h2 fun u G3 H3 s2 r2 => ?_⟩
    cases r2
    have hf3 := hf2.step s2
    obtain ⟨vs, g3, g4, g5⟩ := o2.step s2
    refine ⟨q, vs, kk, n, rfl, rfl, g3, by rw [g5.length]; exact n1, ?_⟩
    have hw := hf3.write (vs' := vs.set n v) e1 g1 (Reps.set (r.mono s2.gx) n g5)
    have m2 := m1.trans ((s.trans s2).mv ex)
    refine k _ G3 _ hw ⟨fun a o z => ?_, m2.gx, hw.sub, m2.av⟩
    rw [upd_ne (ne_of_none z g2)]
    exact m2.hx a o z
  · cases he
theorem ds_ret {fz : List Nat} {a : Expr} {e : E} {pos : Pos} (ha : DE X W Φ a e) : DS X W Φ (.Return (some a) pos) (.ret fz e) := by
  refine PS.imp (ps_ret ha) fun D σ H h => ?_
  obtain ⟨H0, ρ, G, o, hv, ex, he, k⟩ := h
  unfold evS at he
  obtain ⟨r, h1, h2⟩ := Option.map_eq_some_iff.mp he
  subst h2
  obtain ⟨G1, hf, m1⟩ := hv.frz ex fz
  refine ⟨H0, _, G1, r, hf, h1, fun v G2 H2 s ro => k v σ G2 H2 (hf.step s) (m1.trans (s.mv ex)) ?_⟩
  cases r with
  | un => exact ro
  | dat d => exact ro
  | own l =>
    obtain ⟨p, e1, n, o⟩ := ro
    exact ⟨p, e1, ex.free n, o⟩
theorem ds_retS {i : Nat} {x : Str} {p pos : Pos} (hN : X.N[i]? = some x) (hvs : Vis X.env.scope x) (hd : (x == ("__debug__" : Str)) = false) (hcd : (x == ("__classdict__" : Str)) = false) : DS X W Φ (.Return (some (.Name x p)) pos) (.retS i) := by
  refine PS.imp (ps_ret (pe_var hN hvs hd hcd)) fun D σ H h => ?_
  obtain ⟨H0, ρ, G, o, hv, ex, he, k⟩ := h
  unfold evS at he
  split at he
  · rename_i l e
    cases he
    obtain ⟨q, g1, g2, o⟩ := hv.own e
    exact ⟨.ref q, g1, k _ σ G H (hv.unE i) (.refl ex hv.sub) ⟨q, rfl, g2, o⟩⟩
  · cases he
theorem ds_retN {pos : Pos} : DS X W Φ (.Return none pos) .retN := by
  refine PS.imp ps_retN fun D σ H h => ?_
  obtain ⟨H0, ρ, G, o, hv, ex, he, k⟩ := h
  cases he
  exact k _ σ G H hv (.refl ex hv.sub) .non
theorem ds_if {fz : List Nat} {c : Expr} {a b : List Stmt} {ec : E} {ea eb : Ss} {pos : Pos} (hc : DT X W Φ c ec) (ha : DSs X W Φ a ea) (hb : DSs X W Φ b eb) : DS X W Φ (.If c a b pos) (.if_ fz ec ea eb) := by
  refine PS.imp (ps_if hc ha hb) fun D σ H h => ?_
  obtain ⟨H0, ρ, G, o, hv, ex, he, k⟩ := h
  unfold evS at he
  obtain ⟨t, h1, h2⟩ := Option.bind_eq_some_iff.mp he
  obtain ⟨G1, hf, m1⟩ := hv.frz ex fz
  refine ⟨H0, _, G1, t, hf, h1, fun G2 H2 s => ?_⟩
  have m : Mv H0 G G H2 := ⟨ex.trans s.hx, .refl _, hv.sub.trans s.hx, fun _ _ z => z⟩
  cases t with
  | true => exact iteT ⟨H0, ρ, G, o, hv.back s.hx, m.hx, h2, k⟩
  | false => exact iteF ⟨H0, ρ, G, o, hv.back s.hx, m.hx, h2, k⟩
theorem for_go {tg : Tg} {it : It} {body : Ss} {fz : List Nat} {D : Ends} {σ : L2.St} {H : Hp} (h : tS W Φ (.for_ fz tg it body) D σ H) : tFor (tI W Φ it) (tG W tg) (tSs W Φ body) D σ H := by
  obtain ⟨H0, ρ, G, o, hv, ex, he, k⟩ := h
  unfold evS at he
  obtain ⟨items, h1, h2⟩ := Option.bind_eq_some_iff.mp he
  obtain ⟨Gf, hf, mf⟩ := hv.frz ex fz
  refine ⟨H0, _, Gf, items, hf, h1, fun J G1 H1 s1 hJ => ?_⟩
  refine ⟨fun i m σ' H' => m + i = items.length ∧ ∃ G' ρ', Vd W H0 ρ' σ' G' H' ∧ Mv H0 G1 G' H' ∧ evFor (evSs Φ body) tg (items.drop i) ρ' = some o, ⟨items.length, by simp, G1, _, hf.step s1, .refl (ex.trans s1.hx) s1.sub, h2⟩, ?_⟩
  rintro i m σ' H' ⟨cnt, G', ρ', hv', m', ev⟩
  obtain ⟨hgo, hstop⟩ := hJ G' H' m'.gx m'.sub
  have mG : Mv H0 G G1 H1 := mf.trans (s1.mv ex)
  cases e : items[i]? with
  | none =>
    have hi : i = items.length := by
      have := List.getElem?_eq_none_iff.mp e
      omega
    subst hi
    rw [List.drop_length] at ev
    cases ev
    exact .inl ⟨hstop, k σ' G' H' hv' (mG.trans m')⟩
  | some d =>
    have hi : i < items.length := (List.getElem?_eq_some_iff.mp e).1
    have hdr : items.drop i = d :: items.drop (i + 1) := by
      rw [List.drop_eq_getElem_cons hi]
      congr 1
      exact (List.getElem?_eq_some_iff.mp e).2
    rw [hdr] at ev
    unfold evFor at ev
    obtain ⟨ρ1, b1, ev⟩ := Option.bind_eq_some_iff.mp ev
    obtain ⟨o1, b2, ev⟩ := Option.bind_eq_some_iff.mp ev
    obtain ⟨go, yl⟩ := hgo i d e
    refine .inr ⟨go, fun σ'' H'' => ∃ G'' ρ'', Vd W H0 ρ'' σ'' G'' H'' ∧ Mv H0 G1 G'' H'' ∧ evFor (evSs Φ body) tg (items.drop (i + 1)) ρ'' = some o, fun σ'' H'' ⟨G'', ρ'', a1, a2, a3⟩ => ⟨m - 1, by omega, by omega, G'', ρ'', a1, a2, a3⟩, fun x H'' y => ?_⟩
    obtain ⟨G2, s2, rx⟩ := yl x H'' y
    have m2 : Mv H0 G1 G2 H'' := m'.trans (s2.mv m'.hx)
    refine ⟨H0, ρ', G2, d, ρ1, hv'.step s2, rx, b1, fun σ2 hv2 so => ⟨H0, ρ1, G2, o1, hv2, m2.hx, b2, ?_⟩⟩
    cases o1 with
    | nx ρ3 => exact fun σ3 G3 H3 hv3 m3 => ⟨G3, ρ3, hv3, m2.trans m3, ev⟩
    | ct ρ3 => exact fun σ3 G3 H3 hv3 m3 => ⟨G3, ρ3, hv3, m2.trans m3, ev⟩
    | brk ρ3 =>
      cases ev
      exact fun σ3 G3 H3 hv3 m3 => k σ3 G3 H3 hv3 (mG.trans (m2.trans m3))
    | ret r ρ3 =>
      cases ev
      exact fun v σ3 G3 H3 hv3 m3 ro => k v σ3 G3 H3 hv3 (mG.trans (m2.trans m3)) ro
theorem ds_for {fz : List Nat} {tga iter : Expr} {body : List Stmt} {tg : Tg} {it : It} {eb : Ss} {pos : Pos} (hxe : X.xe = fun _ _ => False) (hc : X.calm = true) (hi : PI X tga iter (tI W Φ it)) (hg : PG X tga (tG W tg)) (hb : DSs X W Φ body eb) (hf : notSet iter = true) : DS X W Φ (.For tga iter body [] pos) (.for_ fz tg it eb) :=
  PS.imp (ps_for (by rw [hxe]; exact PassesOwn.never) hc hi hg hb (fold_no hf)) fun D σ H h => for_go h
theorem ds_while {n : Nat} {fz : List Nat} {c : Expr} {body : List Stmt} {ec : E} {eb : Ss} {pos : Pos} (hxe : X.xe = fun _ _ => False) (hc : DT X W Φ c ec) (hb : DSs X W Φ body eb) : DS X W Φ (.While c body [] pos) (.while_ n fz ec eb) := by
  refine PS.imp (ps_while (by rw [hxe]; exact PassesOwn.never) hc hb) fun D σ H h => ?_
  obtain ⟨H0, ρ, G, o, hv, ex, he, k⟩ := h
  unfold evS at he
  refine ⟨fun m σ' H' => ∃ G' ρ', Vd W H0 ρ' σ' G' H' ∧ Mv H0 G G' H' ∧ evWhile (fun ρ => ofB (evE Φ ec (PD.frz fz ρ))) (evSs Φ eb) m ρ' = some o, ⟨n, G, ρ, hv, .refl ex hv.sub, he⟩, ?_⟩
  rintro m σ' H' ⟨G', ρ', hv', m', ev⟩
  cases m with
  | zero => cases ev
  | succ m =>
    unfold evWhile at ev
    obtain ⟨b, b1, ev⟩ := Option.bind_eq_some_iff.mp ev
    obtain ⟨Gf, hf, mf⟩ := hv'.frz m'.hx fz
    refine ⟨H0, _, Gf, b, hf, b1, fun G2 H2 s2 => ?_⟩
    have mm : Mv H0 G' G' H2 := ⟨m'.hx.trans s2.hx, .refl _, hv'.sub.trans s2.hx, fun _ _ z => z⟩
    have hvb := hv'.back s2.hx
    cases b with
    | false =>
      cases ev
      exact iteF (k σ' G' H2 hvb (m'.trans mm))
    | true =>
      obtain ⟨o1, b2, ev⟩ := Option.bind_eq_some_iff.mp ev
      refine iteT ⟨fun σ'' H'' => ∃ G'' ρ'', Vd W H0 ρ'' σ'' G'' H'' ∧ Mv H0 G G'' H'' ∧ evWhile (fun ρ => ofB (evE Φ ec (PD.frz fz ρ))) (evSs Φ eb) m ρ'' = some o, fun σ'' H'' z => ⟨m, Nat.lt_succ_self m, z⟩, H0, ρ', G', o1, hvb, mm.hx, b2, ?_⟩
      cases o1 with
      | nx ρ3 => exact fun σ3 G3 H3 hv3 m3 => ⟨G3, ρ3, hv3, (m'.trans mm).trans m3, ev⟩
      | ct ρ3 => exact fun σ3 G3 H3 hv3 m3 => ⟨G3, ρ3, hv3, (m'.trans mm).trans m3, ev⟩
      | brk ρ3 =>
        cases ev
        exact fun σ3 G3 H3 hv3 m3 => k σ3 G3 H3 hv3 ((m'.trans mm).trans m3)
      | ret r ρ3 =>
        cases ev
        exact fun v σ3 G3 H3 hv3 m3 ro => k v σ3 G3 H3 hv3 ((m'.trans mm).trans m3) ro
theorem ds_pass {pos : Pos} : DS X W Φ (.Pass pos) .pass := by
  refine PS.imp ps_pass fun D σ H h => ?_
  obtain ⟨H0, ρ, G, o, hv, ex, he, k⟩ := h
  cases he
  exact k σ G H hv (.refl ex hv.sub)
theorem ds_brk {pos : Pos} : DS X W Φ (.Break pos) .brk := by
  refine PS.imp ps_break fun D σ H h => ?_
  obtain ⟨H0, ρ, G, o, hv, ex, he, k⟩ := h
  cases he
  exact k σ G H hv (.refl ex hv.sub)
theorem ds_cont {pos : Pos} : DS X W Φ (.Continue pos) .cont := by
  refine PS.imp ps_continue fun D σ H h => ?_
  obtain ⟨H0, ρ, G, o, hv, ex, he, k⟩ := h
  cases he
  exact k σ G H hv (.refl ex hv.sub)
theorem ds_never {a : Stmt} : DS X W Φ a .never := by
  refine PS.imp ps_never fun D σ H h => ?_
  obtain ⟨H0, ρ, G, o, hv, ex, he, k⟩ := h
  cases he
theorem dss_nil : DSs X W Φ [] .nil := by
  refine PSs.imp pss_nil fun D σ H h => ?_
  obtain ⟨H0, ρ, G, o, hv, ex, he, k⟩ := h
  cases he
  exact k σ G H hv (.refl ex hv.sub)
theorem dss_cons {a : Stmt} {as : List Stmt} {s : S} {r : Ss} (h1 : DS X W Φ a s) (h2 : DSs X W Φ as r) : DSs X W Φ (a :: as) (.cons s r) := by
  refine PSs.imp (pss_cons h1 h2) fun D σ H h => ?_
  obtain ⟨H0, ρ, G, o, hv, ex, he, k⟩ := h
  unfold evSs at he
  obtain ⟨o1, e1, e2⟩ := Option.bind_eq_some_iff.mp he
  refine ⟨H0, ρ, G, o1, hv, ex, e1, ?_⟩
  cases o1 with
  | nx ρ1 => exact fun σ1 G1 H1 hv1 m1 => ⟨H0, ρ1, G1, o, hv1, m1.hx, e2, Aft.mv m1 k⟩
  | ret r ρ1 => cases e2; exact k
  | brk ρ1 => cases e2; exact k
  | ct ρ1 => cases e2; exact k
end
end PD

set_option Elab.async false
set_option linter.all false
set_option maxRecDepth 100000
set_option maxHeartbeats 4000000
/-! PD7: the look that compares a def's text with its intermediate form, and that it is enough. -/
namespace PD
open PySem PySem.Spec PyProof.Rows L2

structure Tbl where
  fns : List (Str × Nat × List Str)
  bis : List Str

def isVis (sc : Scope) (x : Str) : Bool := match sc.names.lookup x with
  | some .local => true | some .cell => true | some .free => true | _ => false
def isLoc (sc : Scope) (x : Str) : Bool := match sc.names.lookup x with
  | some .local => true | some .cell => true | _ => false
def isLocal (sc : Scope) (x : Str) : Bool := match sc.names.lookup x with
  | some .local => true | _ => false
def isGl (sc : Scope) (x : Str) : Bool := match sc.names.lookup x with
  | some .globalImplicit => true | _ => false
def okNm (x : Str) : Bool := !(x == ("__debug__" : Str)) && !(x == ("__classdict__" : Str))
def chkN (N : List Str) (sc : Scope) (i : Nat) (x : Str) : Bool := decide (N[i]? = some x) && isVis sc x && okNm x
def isBi (T : Tbl) (sc : Scope) (x : Str) : Bool := isGl sc x && T.bis.contains x
def notComp : Expr → Bool
  | .ListComp _ _ _ _ => false | .SetComp _ _ _ _ => false | .DictComp _ _ _ _ _ => false
  | _ => true
def notSeq : Expr → Bool
  | .Tuple _ _ _ => false | .List _ _ => false
  | _ => true
def ownOf (N : List Str) (own : List Nat) : List (Str × Nat) := own.filterMap fun i => (N[i]?).map fun x => (x, i)
def noIte : E → Bool
  | .ite _ _ _ => false
  | .and_ a b => noIte a && noIte b
  | .or_ a b => noIte a && noIte b
  | _ => true
def isNo : Eo → Bool
  | .no => true
  | _ => false
abbrev fbOf (scope : Scope) : Str → Bool := fun x => scope.names.lookup x == some .cell

mutual
def chkT (N : List Str) (sc : Scope) (fb : Str → Bool) : Tg → Expr → Bool
  | .name i, a => match a with
    | .Name x _ => decide (N[i]? = some x) && isLoc sc x && (fb x || isLocal sc x)
    | _ => false
  | .tup l, a => match a with
    | .Tuple as _ _ => as.all notStar && decide (as.length = l.len) && chkTs N sc fb l as
    | _ => false
def chkTs (N : List Str) (sc : Scope) (fb : Str → Bool) : Tgs → List Expr → Bool
  | .nil, as => match as with
    | [] => true
    | _ => false
  | .cons t r, as => match as with
    | a :: as => chkT N sc fb t a && chkTs N sc fb r as
    | _ => false
end
mutual
def chkE (T : Tbl) (N : List Str) : Scope → E → Expr → Bool
  | sc, .slot i, a => match a with
    | .Name x _ => chkN N sc i x
    | _ => false
  | _, .lit d, a => match d, a with
    | .int i, .Constant (.int j) _ _ => decide (i = j)
    | .bl i, .Constant (.bool j) _ _ => decide (i = j)
    | .non, .Constant .none _ _ => true
    | .str i, .Constant (.str j) _ _ => decide (i = j)
    | _, _ => false
  | sc, .bin op a b, x => match x with
    | .BinOp ea o eb _ => decide (o = op.op) && chkE T N sc a ea && chkE T N sc b eb
    | _ => false
  | sc, .neg a, x => match x with
    | .UnaryOp .USub ea _ => chkE T N sc a ea
    | _ => false
  | sc, .cmp op a b, x => match x with
    | .Compare ea [o] [eb] _ => decide (o = op.op) && chkE T N sc a ea && chkE T N sc b eb
    | _ => false
  | sc, .chain op op' a b c, x => match x with
    | .Compare ea [o, o'] [eb, ec] _ => decide (o = op.op) && decide (o' = op'.op) && chkE T N sc a ea && chkE T N sc b eb && chkE T N sc c ec
    | _ => false
  | sc, .and_ a b, x => match x with
    | .BoolOp .And [e1, e2] _ => chkE T N sc a e1 && chkE T N sc b e2
    | .BoolOp .And (e1 :: e2 :: e3 :: r) pos => chkE T N sc a e1 && chkE T N sc b (.BoolOp .And (e2 :: e3 :: r) pos)
    | _ => false
  | sc, .or_ a b, x => match x with
    | .BoolOp .Or [e1, e2] _ => chkE T N sc a e1 && chkE T N sc b e2
    | .BoolOp .Or (e1 :: e2 :: e3 :: r) pos => chkE T N sc a e1 && chkE T N sc b (.BoolOp .Or (e2 :: e3 :: r) pos)
    | _ => false
  | sc, .not_ a, x => match x with
    | .UnaryOp .Not ea _ => noIte a && chkE T N sc a ea
    | _ => false
  | sc, .ite c a b, x => match x with
    | .IfExp ec ea eb _ => noIte c && chkE T N sc c ec && chkE T N sc a ea && chkE T N sc b eb
    | _ => false
  | sc, .tup es, x => match x with
    | .Tuple as _ _ => chkEs T N sc es as
    | _ => false
  | sc, .lst es, x => match x with
    | .List as _ => chkEs T N sc es as
    | _ => false
  | sc, .idx a i, x => match x with
    | .Subscript ea ei _ => notSlice ei && chkE T N sc a ea && chkE T N sc i ei
    | _ => false
  | sc, .slice a lo hi, x => match x with
    | .Subscript ea (.Slice l h none _) _ => chkE T N sc a ea && chkO T N sc lo l && chkO T N sc hi h
    | _ => false
  | sc, .call f es, x => match x with
    | .Call (.Name x _) as [] _ => (match T.fns[f]? with | some (y, _, []) => decide (y = x) | _ => false) && isGl sc x && okNm x && chkEs T N sc es as
    | _ => false
  | sc, .callk f es kes, x => match x with
    | .Call (.Name x _) as kws _ => (match T.fns[f]? with | some (y, n, k :: ks) => decide (y = x) && decide (kws.map kwNm = (k :: ks).map some) && decide (es.len = n) && decide (kes.len = (k :: ks).length) | _ => false) && isGl sc x && okNm x && decide (as.length ≠ 0) && chkEs T N sc es as && chkKs T N sc kes kws
    | _ => false
  | sc, .bi b es, x => match x with
    | .Call (.Name x _) as [] _ => decide (x = b.name) && isBi T sc x && decide (as.length ≠ 0) && chkEs T N sc es as
    | _ => false
  | sc, .isi a ty, x => match x with
    | .Call (.Name x _) [ea, .Name y _] [] _ => decide (x = "isinstance") && isBi T sc x && decide (y = Str.ofString ty) && isBi T sc y && decide (ty ∈ tyNames) && notStar ea && chkE T N sc a ea
    | _ => false
  | sc, .comp e t it own, x => match x with
    | .ListComp ea [⟨tg, iter, [], z⟩] scope _ => decide (z = 0) && decide ((ownOf N own).map (·.2) = own) && blkC N sc scope (ownOf N own) && chkI T N sc it iter && chkT N (relS scope sc) (fbOf scope) t tg && chkE T N (relS scope sc) e ea && notSet iter && t.slots.all (own.contains ·)
    | _ => false
  | sc, .compf e t it c own, x => match x with
    | .ListComp ea [⟨tg, iter, [ec], z⟩] scope _ => decide (z = 0) && decide ((ownOf N own).map (·.2) = own) && blkC N sc scope (ownOf N own) && chkI T N sc it iter && chkT N (relS scope sc) (fbOf scope) t tg && chkE T N (relS scope sc) e ea && notSet iter && t.slots.all (own.contains ·) && noIte c && chkE T N (relS scope sc) c ec
    | _ => false
  | sc, .listr lo hi, x => match x with
    | .Call (.Name x _) [.Call (.Name y _) [ea] [] _] [] _ => decide (x = "list") && isBi T sc x && decide (y = "range") && isBi T sc y && notStar ea && isNo lo && chkO T N sc hi (some ea)
    | .Call (.Name x _) [.Call (.Name y _) [ea, eb] [] _] [] _ => decide (x = "list") && isBi T sc x && decide (y = "range") && isBi T sc y && notStar ea && notStar eb && chkO T N sc lo (some ea) && chkO T N sc hi (some eb)
    | _ => false
  | sc, .lenS i, x => match x with
    | .Call (.Name x _) [.Name y _] [] _ => decide (x = "len") && isBi T sc x && chkN N sc i y
    | _ => false
  | sc, .idxS i a, x => match x with
    | .Subscript (.Name y _) ei _ => notSlice ei && chkN N sc i y && chkE T N sc a ei
    | _ => false
def chkEs (T : Tbl) (N : List Str) : Scope → Es → List Expr → Bool
  | _, .nil, as => match as with
    | [] => true
    | _ => false
  | sc, .cons e r, as => match as with
    | a :: as => notStar a && chkE T N sc e a && chkEs T N sc r as
    | _ => false
def chkKs (T : Tbl) (N : List Str) : Scope → Es → List Keyword → Bool
  | _, .nil, as => match as with
    | [] => true
    | _ => false
  | sc, .cons e r, as => match as with
    | ⟨_, a, _⟩ :: as => chkE T N sc e a && chkKs T N sc r as
    | _ => false
def chkO (T : Tbl) (N : List Str) : Scope → Eo → Option Expr → Bool
  | _, .no, a => match a with
    | none => true
    | _ => false
  | sc, .yes e, a => match a with
    | some a => chkE T N sc e a
    | _ => false
def chkI (T : Tbl) (N : List Str) : Scope → It → Expr → Bool
  | sc, .seq e, a => chkE T N sc e a
  | sc, .rng1 e, a => match a with
    | .Call (.Name x _) [a] [] _ => decide (x = "range") && isBi T sc x && notStar a && chkE T N sc e a
    | _ => false
  | sc, .rng2 e f, a => match a with
    | .Call (.Name x _) [a, b] [] _ => decide (x = "range") && isBi T sc x && notStar a && notStar b && chkE T N sc e a && chkE T N sc f b
    | _ => false
end

/-- where one stands -/
structure XOk (L : Nat) (T : Tbl) (W : Wd) (Φ : Nat → List D → Option Sl) (N : List Str) (sc : Scope) (fb : Str → Bool) (X : Cx) : Prop where
  hN : X.N = N
  nd : N.Nodup
  hsc : X.env.scope = sc
  hfb : X.fn = fb
  hK : X.K = W.K
  calm : X.calm = true
  xe : X.xe = fun _ _ => False
  kind : sc.kind = .function
  room : Room L X.A
  fns : ∀ i x n ks, T.fns[i]? = some (x, n, ks) → ∃ f fd ps, X.mg x = some (.ref f) ∧ PySem.W.keepIn X.K (.ref f) = true ∧ (ks = [] → Binds X.K fd ps []) ∧ (ks ≠ [] → KBn X.K fd ps n ks (· ++ ·) (· ++ ·)) ∧ FnOk X.prog X.w X.K X.mg X.base CX0 L f fd ps (spD W (Φ i))
  bis : ∀ x ∈ T.bis, X.mg x = none
section
variable {L : Nat} {T : Tbl} {W : Wd} {Φ : Nat → List D → Option Sl} {N : List Str} {sc : Scope} {fb : Str → Bool} {X : Cx}
theorem XOk.hu (x : XOk L T W Φ N sc fb X) : X.A.units + 64 < cLine := x.room.units
theorem XOk.vis (x : XOk L T W Φ N sc fb X) {y : Str} (h : isVis sc y = true) : Vis X.env.scope y := by
  rw [x.hsc]
  unfold isVis at h
  split at h <;> first | (rename_i e; first | exact .inl e | exact .inr (.inl e) | exact .inr (.inr e)) | cases h
theorem XOk.loc (x : XOk L T W Φ N sc fb X) {y : Str} (h : isLoc sc y = true) : Loc X.env.scope y := by
  rw [x.hsc]
  unfold isLoc at h
  split at h <;> first | (rename_i e; first | exact .inl e | exact .inr e) | cases h
theorem isLocal_eq {y : Str} (h : isLocal sc y = true) : sc.names.lookup y = some .local := by
  unfold isLocal at h
  split at h <;> first | (rename_i e; exact e) | cases h
theorem XOk.gl (x : XOk L T W Φ N sc fb X) {y : Str} (h : isGl sc y = true) : Gl X y := by
  show X.env.scope.names.lookup y = some .globalImplicit
  rw [x.hsc]
  unfold isGl at h
  split at h <;> first | (rename_i e; exact e) | cases h
theorem okNm_d {y : Str} (h : okNm y = true) : (y == ("__debug__" : Str)) = false ∧ (y == ("__classdict__" : Str)) = false := by
  unfold okNm at h
  simp only [Bool.and_eq_true, Bool.not_eq_true'] at h
  exact h
structure NmOk (X : Cx) (i : Nat) (y : Str) : Prop where
  ix : X.N[i]? = some y
  vis : Vis X.env.scope y
  d : (y == ("__debug__" : Str)) = false
  cd : (y == ("__classdict__" : Str)) = false
theorem XOk.nm (x : XOk L T W Φ N sc fb X) {i : Nat} {y : Str} (h : chkN N sc i y = true) : NmOk X i y := by
  unfold chkN at h
  simp only [Bool.and_eq_true, decide_eq_true_eq] at h
  obtain ⟨d1, d2⟩ := okNm_d h.2
  exact ⟨by rw [x.hN]; exact h.1.1, x.vis h.1.2, d1, d2⟩
theorem XOk.bi (x : XOk L T W Φ N sc fb X) {y : Str} (h : isBi T sc y = true) : Gl X y ∧ X.mg y = none := by
  unfold isBi at h
  rw [Bool.and_eq_true] at h
  exact ⟨x.gl h.1, x.bis y (by simpa using h.2)⟩
theorem plain_ix {b : Expr} (h : notSlice b = true) : PlainIx b := by
  intro o i
  cases b <;> first | rfl | cases h
theorem XOk.blk (x : XOk L T W Φ N sc fb X) {scope : Scope} (hk : scope.kind = .function) (s : Shared) (H : Hp) (C : Addr) (cl : List (Str × Addr)) (fp : List Addr) : XOk L T W Φ N (relS scope sc) (fbOf scope) (X.blk s H scope (compEnvC scope cl C X.env) fp) := by
  refine ⟨x.hN, x.nd, ?_, rfl, x.hK, x.calm, rfl, hk, x.room, x.fns, x.bis⟩
  show relS scope X.env.scope = relS scope sc
  rw [x.hsc]
theorem blk_kind {scope : Scope} {own : List (Str × Nat)} (h : blkC N sc scope own = true) : scope.kind = .function := (blkOk_by h).kind
mutual
theorem chkT_ok (x : XOk L T W Φ N sc fb X) : ∀ (t : Tg) (a : Expr), chkT N sc fb t a = true → PG X a (tG W t)
  | .name i, a, h => by
    unfold chkT at h
    split at h
    · simp only [Bool.and_eq_true, Bool.or_eq_true, decide_eq_true_eq] at h
      refine dg_name (by rw [x.hN]; exact x.nd) (by rw [x.hN]; exact h.1.1) (x.loc h.1.2) ?_
      rcases h.2 with z | z
      · exact .inl (by rw [x.hfb]; exact z)
      · exact .inr (by rw [x.hsc]; exact isLocal_eq z)
    · cases h
  | .tup l, a, h => by
    unfold chkT at h
    split at h
    · simp only [Bool.and_eq_true, decide_eq_true_eq] at h
      exact dg_tup x.hK x.calm (chkTs_ok x l _ h.1.1 h.2) h.1.1 h.1.2
    · cases h
theorem chkTs_ok (x : XOk L T W Φ N sc fb X) : ∀ (t : Tgs) (as : List Expr), as.all notStar = true → chkTs N sc fb t as = true → PGs X as (tGs W t)
  | .nil, as, hs, h => by
    unfold chkTs at h
    split at h
    · exact dgs_nil
    · cases h
  | .cons t r, as, hs, h => by
    unfold chkTs at h
    split at h
    · rw [Bool.and_eq_true] at h
      rw [List.all_cons, Bool.and_eq_true] at hs
      exact dgs_cons (chkT_ok x t _ h.1) (chkTs_ok x r _ hs.2 h.2) (as_map hs.1)
    · cases h
end
def isBO : Expr → Bool
  | .BoolOp _ _ _ => true
  | _ => false
/-- what the look at an expression brings -/
structure EOk (X : Cx) (W : Wd) (Φ : Nat → List D → Option Sl) (a : Expr) (e : E) : Prop where
  de : DE X W Φ a e
  dt : noIte e = true → DT X W Φ a e
  dw : isBO a = true → noIte e = true → DW X W Φ a e
theorem EOk.val {a : Expr} {e : E} (h : DE X W Φ a e) (he : ∀ whole, isTrue a X.env whole = (do let v ← whole; standAt a.pos; holding [v] (truthy v))) (nb : isBO a = false) : EOk X W Φ a e :=
  ⟨h, fun _ => dt_val h he, fun z => by rw [nb] at z; cases z⟩
end
end PD

set_option Elab.async false
set_option linter.all false
set_option maxRecDepth 100000
set_option maxHeartbeats 4000000
/-! PD8: the look is enough (expressions). -/
namespace PD
open PySem PySem.Spec PyProof.Rows L2
section
variable {L : Nat} {T : Tbl} {W : Wd} {Φ : Nat → List D → Option Sl} {N : List Str}
theorem own_mem {t : Tg} {own : List Nat} (e : (ownOf N own).map (·.2) = own) (h : t.slots.all (own.contains ·) = true) : ∀ j ∈ t.slots, j ∈ (ownOf N own).map (·.2) := fun j hj => by
  rw [e]
  have := List.all_eq_true.mp h j hj
  simpa using this
mutual
theorem chkE_ok : ∀ (e : E) (sc : Scope) (fb : Str → Bool) (X : Cx) (a : Expr), XOk L T W Φ N sc fb X → chkE T N sc e a = true → EOk X W Φ a e
  | .slot i, sc, fb, X, a, x, h => by
    unfold chkE at h
    split at h
    · have n := x.nm h
      exact EOk.val (de_slot n.ix n.vis n.d n.cd) (fun _ => rfl) rfl
    · cases h
  | .lit d, sc, fb, X, a, x, h => by
    unfold chkE at h
    split at h
    · have e := of_decide_eq_true h; subst e; exact EOk.val de_int (fun _ => rfl) rfl
    · have e := of_decide_eq_true h; subst e; exact EOk.val de_bl (fun _ => rfl) rfl
    · exact EOk.val de_non (fun _ => rfl) rfl
    · have e := of_decide_eq_true h; subst e; exact EOk.val de_str (fun _ => rfl) rfl
    · cases h
  | .bin op a b, sc, fb, X, y, x, h => by
    unfold chkE at h
    split at h
    · simp only [Bool.and_eq_true, decide_eq_true_eq] at h
      obtain ⟨⟨h0, h1⟩, h2⟩ := h
      subst h0
      exact EOk.val (de_bin x.hK (chkE_ok a sc fb X _ x h1).de (chkE_ok b sc fb X _ x h2).de) (fun _ => rfl) rfl
    · cases h
  | .neg a, sc, fb, X, y, x, h => by
    unfold chkE at h
    split at h
    · exact EOk.val (de_neg (chkE_ok a sc fb X _ x h).de) (fun _ => rfl) rfl
    · cases h
  | .cmp op a b, sc, fb, X, y, x, h => by
    unfold chkE at h
    split at h
    · simp only [Bool.and_eq_true, decide_eq_true_eq] at h
      obtain ⟨⟨h0, h1⟩, h2⟩ := h
      subst h0
      have ha := (chkE_ok a sc fb X _ x h1).de
      have hb := (chkE_ok b sc fb X _ x h2).de
      exact ⟨de_cmp x.hK x.hu ha hb, fun _ => dt_cmp x.hK x.hu ha hb, fun z => (by cases z)⟩
    · cases h
  | .chain op op' a b c, sc, fb, X, y, x, h => by
    unfold chkE at h
    split at h
    · simp only [Bool.and_eq_true, decide_eq_true_eq] at h
      obtain ⟨⟨⟨⟨h0, h0'⟩, h1⟩, h2⟩, h3⟩ := h
      subst h0 h0'
      have ha := (chkE_ok a sc fb X _ x h1).de
      have hb := (chkE_ok b sc fb X _ x h2).de
      have hc := (chkE_ok c sc fb X _ x h3).de
      exact ⟨de_chain x.hK x.hu ha hb hc, fun _ => dt_chain x.hK x.hu ha hb hc, fun z => (by cases z)⟩
    · cases h
  | .and_ a b, sc, fb, X, y, x, h => by
    unfold chkE at h
    split at h
    · rename_i e1 e2 pos
      rw [Bool.and_eq_true] at h
      have ha := chkE_ok a sc fb X _ x h.1
      have hb := chkE_ok b sc fb X _ x h.2
      have w : noIte (.and_ a b) = true → DW X W Φ (.BoolOp .And [e1, e2] pos) (.and_ a b) := fun z => by
        rw [noIte, Bool.and_eq_true] at z
        exact dw_and (ha.dt z.1) (pw_and1 (hb.dt z.2))
      exact ⟨de_and ha.de (pe_one hb.de), fun z => (w z).pt, fun _ => w⟩
    · rename_i e1 e2 e3 r pos
      rw [Bool.and_eq_true] at h
      have ha := chkE_ok a sc fb X _ x h.1
      have hb := chkE_ok b sc fb X _ x h.2
      have w : noIte (.and_ a b) = true → DW X W Φ (.BoolOp .And (e1 :: e2 :: e3 :: r) pos) (.and_ a b) := fun z => by
        rw [noIte, Bool.and_eq_true] at z
        exact dw_and (ha.dt z.1) (hb.dw rfl z.2)
      exact ⟨de_and ha.de hb.de, fun z => (w z).pt, fun _ => w⟩
    · cases h
  | .or_ a b, sc, fb, X, y, x, h => by
    unfold chkE at h
    split at h
    · rename_i e1 e2 pos
      rw [Bool.and_eq_true] at h
      have ha := chkE_ok a sc fb X _ x h.1
      have hb := chkE_ok b sc fb X _ x h.2
      have w : noIte (.or_ a b) = true → DW X W Φ (.BoolOp .Or [e1, e2] pos) (.or_ a b) := fun z => by
        rw [noIte, Bool.and_eq_true] at z
        exact dw_or (ha.dt z.1) (pw_or1 (hb.dt z.2))
      exact ⟨de_or ha.de (pe_one hb.de), fun z => (w z).pt, fun _ => w⟩
    · rename_i e1 e2 e3 r pos
      rw [Bool.and_eq_true] at h
      have ha := chkE_ok a sc fb X _ x h.1
      have hb := chkE_ok b sc fb X _ x h.2
      have w : noIte (.or_ a b) = true → DW X W Φ (.BoolOp .Or (e1 :: e2 :: e3 :: r) pos) (.or_ a b) := fun z => by
        rw [noIte, Bool.and_eq_true] at z
        exact dw_or (ha.dt z.1) (hb.dw rfl z.2)
      exact ⟨de_or ha.de hb.de, fun z => (w z).pt, fun _ => w⟩
    · cases h
  | .not_ a, sc, fb, X, y, x, h => by
    unfold chkE at h
    split at h
    · rw [Bool.and_eq_true] at h
      have ha := chkE_ok a sc fb X _ x h.2
      exact ⟨de_not ha.de, fun _ => dt_not (ha.dt h.1), fun z => (by cases z)⟩
    · cases h
  | .ite c a b, sc, fb, X, y, x, h => by
    unfold chkE at h
    split at h
    · simp only [Bool.and_eq_true] at h
      obtain ⟨⟨⟨h0, h1⟩, h2⟩, h3⟩ := h
      exact ⟨de_ite ((chkE_ok c sc fb X _ x h1).dt h0) (chkE_ok a sc fb X _ x h2).de (chkE_ok b sc fb X _ x h3).de, fun z => (by cases z), fun z => (by cases z)⟩
    · cases h
  | .tup es, sc, fb, X, y, x, h => by
    unfold chkE at h
    split at h
    · exact EOk.val (de_tup (chkEs_ok es sc fb X _ x h).1) (fun _ => rfl) rfl
    · cases h
  | .lst es, sc, fb, X, y, x, h => by
    unfold chkE at h
    split at h
    · exact EOk.val (de_lst (chkEs_ok es sc fb X _ x h).1) (fun _ => rfl) rfl
    · cases h
  | .idx a i, sc, fb, X, y, x, h => by
    unfold chkE at h
    split at h
    · simp only [Bool.and_eq_true] at h
      obtain ⟨⟨h0, h1⟩, h2⟩ := h
      exact EOk.val (de_idx x.hK (chkE_ok a sc fb X _ x h1).de (chkE_ok i sc fb X _ x h2).de (plain_ix h0)) (fun _ => rfl) rfl
    · cases h
  | .slice a lo hi, sc, fb, X, y, x, h => by
    unfold chkE at h
    split at h
    · simp only [Bool.and_eq_true] at h
      obtain ⟨⟨h0, h1⟩, h2⟩ := h
      exact EOk.val (de_slice x.hK (chkE_ok a sc fb X _ x h0).de (chkO_ok lo sc fb X _ x h1) (chkO_ok hi sc fb X _ x h2)) (fun _ => rfl) rfl
    · cases h
  | .call f es, sc, fb, X, y, x, h => by
    unfold chkE at h
    split at h
    · rename_i nm p as pos
      simp only [Bool.and_eq_true, decide_eq_true_eq] at h
      obtain ⟨⟨⟨h0, h1⟩, h2⟩, h3⟩ := h
      split at h0 <;> first | (cases h0; done) | skip
      rename_i z n hf
      have e0 := of_decide_eq_true h0
      subst e0
      obtain ⟨g, fd, ps, g1, g2, g3, _, F⟩ := x.fns f z n [] hf
      obtain ⟨d1, d2⟩ := okNm_d h2
      obtain ⟨ha, hs⟩ := chkEs_ok es sc fb X _ x h3
      cases as with
      | nil =>
        cases es with
        | nil => exact EOk.val (de_call0 F x.room (x.gl h1) g1 g2 (g3 rfl) d1) (fun _ => rfl) rfl
        | cons e r => cases h3
      | cons a as => exact EOk.val (de_call F x.room (x.gl h1) g1 g2 (g3 rfl) ha d1 hs) (fun _ => rfl) rfl
    · cases h
  | .callk f es kes, sc, fb, X, y, x, h => by
    unfold chkE at h
    split at h
    · rename_i nm p as kws pos
      simp only [Bool.and_eq_true, decide_eq_true_eq] at h
      obtain ⟨⟨⟨⟨⟨h0, h1⟩, h2⟩, h3⟩, h4⟩, h5⟩ := h
      split at h0
      · rename_i z n k ks hf
        simp only [Bool.and_eq_true, decide_eq_true_eq] at h0
        obtain ⟨⟨⟨e0, e1⟩, e2⟩, e3⟩ := h0
        subst e0
        obtain ⟨g, fd, ps, g1, g2, _, g3, F⟩ := x.fns f z n (k :: ks) hf
        obtain ⟨d1, d2⟩ := okNm_d h2
        obtain ⟨ha, hs⟩ := chkEs_ok es sc fb X _ x h4
        cases as with
        | nil => exact absurd rfl h3
        | cons a as => exact EOk.val (de_callk F x.room (x.gl h1) g1 g2 (g3 (by simp)) ha (chkKs_ok kes sc fb X _ x h5) e1 d1 hs e2 e3) (fun _ => rfl) rfl
      · cases h0
    · cases h
  | .bi b es, sc, fb, X, y, x, h => by
    unfold chkE at h
    split at h
    · rename_i nm p as pos
      simp only [Bool.and_eq_true, decide_eq_true_eq] at h
      obtain ⟨⟨⟨h0, h1⟩, h2⟩, h3⟩ := h
      subst h0
      obtain ⟨g1, g2⟩ := x.bi h1
      obtain ⟨ha, hs⟩ := chkEs_ok es sc fb X _ x h3
      cases as with
      | nil => exact absurd rfl h2
      | cons a as => exact EOk.val (de_bi x.hK x.calm g1 g2 ha hs) (fun _ => rfl) rfl
    · cases h
  | .isi a ty, sc, fb, X, y, x, h => by
    unfold chkE at h
    split at h
    · simp only [Bool.and_eq_true, decide_eq_true_eq] at h
      obtain ⟨⟨⟨⟨⟨⟨h0, h1⟩, h2⟩, h3⟩, h4⟩, h5⟩, h6⟩ := h
      subst h0 h2
      obtain ⟨g1, g2⟩ := x.bi h1
      obtain ⟨g3, g4⟩ := x.bi h3
      exact EOk.val (de_isi x.hK h4 g1 g2 g3 g4 (chkE_ok a sc fb X _ x h6).de h5) (fun _ => rfl) rfl
    · cases h
  | .comp e t it own, sc, fb, X, y, x, h => by
    unfold chkE at h
    split at h
    · rename_i pos
      simp only [Bool.and_eq_true, decide_eq_true_eq] at h
      obtain ⟨⟨⟨⟨⟨⟨⟨h0, h1⟩, h2⟩, h3⟩, h4⟩, h5⟩, h6⟩, h7⟩ := h
      subst h0
      have k := blk_kind h2
      have := de_comp (W := W) (Φ := Φ) (X := X) (pos := pos) x.calm (by rw [x.hN]; exact x.nd) (chkI_ok it sc fb X _ x _ h3) (by rw [x.hN, x.hsc]; exact blkOk_by h2)
        (fun s H C cl fp => chkT_ok (x.blk k s H C cl fp) t _ h4) (fun s H C cl fp => (chkE_ok e _ _ _ _ (x.blk k s H C cl fp) h5).de) h6 (own_mem h1 h7)
      rw [h1] at this
      exact EOk.val this (fun _ => rfl) rfl
    · cases h
  | .compf e t it c own, sc, fb, X, y, x, h => by
    unfold chkE at h
    split at h
    · rename_i pos
      simp only [Bool.and_eq_true, decide_eq_true_eq] at h
      obtain ⟨⟨⟨⟨⟨⟨⟨⟨⟨h0, h1⟩, h2⟩, h3⟩, h4⟩, h5⟩, h6⟩, h7⟩, h8⟩, h9⟩ := h
      subst h0
      have k := blk_kind h2
      have := de_compf (W := W) (Φ := Φ) (X := X) (pos := pos) x.calm (by rw [x.hN]; exact x.nd) (chkI_ok it sc fb X _ x _ h3) (by rw [x.hN, x.hsc]; exact blkOk_by h2)
        (fun s H C cl fp => chkT_ok (x.blk k s H C cl fp) t _ h4) (fun s H C cl fp => (chkE_ok c _ _ _ _ (x.blk k s H C cl fp) h9).dt h8) (fun s H C cl fp => (chkE_ok e _ _ _ _ (x.blk k s H C cl fp) h5).de) h6 (own_mem h1 h7)
      rw [h1] at this
      exact EOk.val this (fun _ => rfl) rfl
    · cases h
  | .listr lo hi, sc, fb, X, y, x, h => by
    unfold chkE at h
    split at h
    · simp only [Bool.and_eq_true, decide_eq_true_eq] at h
      obtain ⟨⟨⟨⟨⟨⟨h0, h1⟩, h2⟩, h3⟩, h4⟩, h5⟩, h6⟩ := h
      subst h0 h2
      obtain ⟨g1, g2⟩ := x.bi h1
      obtain ⟨g3, g4⟩ := x.bi h3
      cases lo with
      | yes _ => cases h5
      | no =>
        cases hi with
        | no => cases h6
        | yes b =>
          unfold chkO at h6
          exact EOk.val (de_listr1 x.calm g1 g2 g3 g4 (chkE_ok b sc fb X _ x h6).de h4) (fun _ => rfl) rfl
    · simp only [Bool.and_eq_true, decide_eq_true_eq] at h
      obtain ⟨⟨⟨⟨⟨⟨⟨h0, h1⟩, h2⟩, h3⟩, h4⟩, h5⟩, h6⟩, h7⟩ := h
      subst h0 h2
      obtain ⟨g1, g2⟩ := x.bi h1
      obtain ⟨g3, g4⟩ := x.bi h3
      cases lo with
      | no => cases h6
      | yes a =>
        cases hi with
        | no => cases h7
        | yes b =>
          unfold chkO at h6 h7
          exact EOk.val (de_listr2 x.calm g1 g2 g3 g4 (chkE_ok a sc fb X _ x h6).de (chkE_ok b sc fb X _ x h7).de h4 h5) (fun _ => rfl) rfl
    · cases h
  | .lenS i, sc, fb, X, y, x, h => by
    unfold chkE at h
    split at h
    · simp only [Bool.and_eq_true, decide_eq_true_eq] at h
      obtain ⟨⟨h0, h1⟩, h2⟩ := h
      subst h0
      obtain ⟨g1, g2⟩ := x.bi h1
      have n := x.nm h2
      exact EOk.val (de_lenS n.ix n.vis n.d n.cd g1 g2) (fun _ => rfl) rfl
    · cases h
  | .idxS i a, sc, fb, X, y, x, h => by
    unfold chkE at h
    split at h
    · simp only [Bool.and_eq_true] at h
      obtain ⟨⟨h0, h1⟩, h2⟩ := h
      have n := x.nm h1
      exact EOk.val (de_idxS n.ix n.vis n.d n.cd (chkE_ok a sc fb X _ x h2).de (plain_ix h0)) (fun _ => rfl) rfl
    · cases h
theorem chkEs_ok : ∀ (es : Es) (sc : Scope) (fb : Str → Bool) (X : Cx) (as : List Expr), XOk L T W Φ N sc fb X → chkEs T N sc es as = true → DA X W Φ as es ∧ as.all notStar = true
  | .nil, sc, fb, X, as, x, h => by
    unfold chkEs at h
    split at h
    · exact ⟨da_nil, rfl⟩
    · cases h
  | .cons e r, sc, fb, X, as, x, h => by
    unfold chkEs at h
    split at h
    · simp only [Bool.and_eq_true] at h
      obtain ⟨⟨h0, h1⟩, h2⟩ := h
      obtain ⟨k1, k2⟩ := chkEs_ok r sc fb X _ x h2
      exact ⟨da_cons (chkE_ok e sc fb X _ x h1).de k1 (star_cons h0), by rw [List.all_cons, h0, k2]; rfl⟩
    · cases h
theorem chkKs_ok : ∀ (es : Es) (sc : Scope) (fb : Str → Bool) (X : Cx) (as : List Keyword), XOk L T W Φ N sc fb X → chkKs T N sc es as = true → DK X W Φ as es
  | .nil, sc, fb, X, as, x, h => by
    unfold chkKs at h
    split at h
    · exact dk_nil
    · cases h
  | .cons e r, sc, fb, X, as, x, h => by
    unfold chkKs at h
    split at h
    · simp only [Bool.and_eq_true] at h
      exact dk_cons (chkE_ok e sc fb X _ x h.1).de (chkKs_ok r sc fb X _ x h.2)
    · cases h
theorem chkO_ok : ∀ (o : Eo) (sc : Scope) (fb : Str → Bool) (X : Cx) (a : Option Expr), XOk L T W Φ N sc fb X → chkO T N sc o a = true → PO X a (tEo W Φ o)
  | .no, sc, fb, X, a, x, h => by
    unfold chkO at h
    split at h
    · exact do_no
    · cases h
  | .yes e, sc, fb, X, a, x, h => by
    unfold chkO at h
    split at h
    · exact do_yes (chkE_ok e sc fb X _ x h).de
    · cases h
theorem chkI_ok : ∀ (it : It) (sc : Scope) (fb : Str → Bool) (X : Cx) (a : Expr), XOk L T W Φ N sc fb X → ∀ tg, chkI T N sc it a = true → PI X tg a (tI W Φ it)
  | .seq e, sc, fb, X, a, x, tg, h => by
    unfold chkI at h
    exact di_seq x.hK (chkE_ok e sc fb X _ x h).de
  | .rng1 e, sc, fb, X, a, x, tg, h => by
    unfold chkI at h
    split at h
    · simp only [Bool.and_eq_true, decide_eq_true_eq] at h
      obtain ⟨⟨⟨h0, h1⟩, h2⟩, h3⟩ := h
      subst h0
      obtain ⟨g1, g2⟩ := x.bi h1
      exact di_rng1 g1 g2 (chkE_ok e sc fb X _ x h3).de h2
    · cases h
  | .rng2 e f, sc, fb, X, a, x, tg, h => by
    unfold chkI at h
    split at h
    · simp only [Bool.and_eq_true, decide_eq_true_eq] at h
      obtain ⟨⟨⟨⟨⟨h0, h1⟩, h2⟩, h3⟩, h4⟩, h5⟩ := h
      subst h0
      obtain ⟨g1, g2⟩ := x.bi h1
      exact di_rng2 g1 g2 (chkE_ok e sc fb X _ x h4).de (chkE_ok f sc fb X _ x h5).de h2 h3
    · cases h
end
end
end PD

set_option Elab.async false
set_option linter.all false
set_option maxRecDepth 100000
set_option maxHeartbeats 4000000
/-! PD9: the look at statements; a def by its intermediate form. -/
namespace PD
open PySem PySem.Spec PyProof.Rows L2

/-- the list of y = [..] is stored within the comprehension's frame -/
def swB (sc : Scope) (y : Str) (py lpos : Pos) (scope : Scope) : Bool := (sc.names.lookup y == some .local) && (py.line == lpos.line) && !(scope.names.any fun p => p.1 == y && (p.2 == .local || p.2 == .cell))
def isCompE : E → Bool
  | .comp _ _ _ _ => true | .compf _ _ _ _ _ => true | _ => false
def chkLc (T : Tbl) (N : List Str) (sc : Scope) (e : E) (y : Str) (py : Pos) : Expr → Bool
  | .ListComp ea gs scope lpos => (if swB sc y py lpos scope = true then isCompE e else true) && chkE T N sc e (.ListComp ea gs scope lpos)
  | a => notComp a && chkE T N sc e a
mutual
def chkS (T : Tbl) (N : List Str) (sc : Scope) (fb : Str → Bool) : S → Stmt → Bool
  | .asg _ t e, st => match st with
    | .Assign [tga] a _ => match t, tga with
      | .name i, .Name x p => decide (N[i]? = some x) && isLoc sc x && (fb x || isLocal sc x) && chkLc T N sc e x p a
      | .tup l, tga => chkT N sc fb (.tup l) tga && notStar tga && notComp a && notSeq a && chkE T N sc e a
      | _, _ => false
    | _ => false
  | .asgB _ t e, st => match st with
    | .Assign [tga] a _ => match t, tga with
      | .name i, .Name x p => decide (N[i]? = some x) && isLoc sc x && (fb x || isLocal sc x) && notComp a && chkE T N sc e a
      | _, _ => false
    | _ => false
  | .app i _ e, st => match st with
    | .Expr (.Call (.Attribute (.Name x _) m apos) [a] [] pos) _ => decide (m = "append") && chkN N sc i x && chkE T N sc e a && notStar a && (apos.endLine == pos.line)
    | _ => false
  | .setix i _ ix e, st => match st with
    | .Assign [.Subscript (.Name x _) b _] a _ => chkN N sc i x && chkE T N sc e a && chkE T N sc ix b && notComp a && notSeq a && notSlice b
    | _ => false
  | .popTo t i, st => match st with
    | .Assign [.Name y _] (.Call (.Attribute (.Name x _) m apos) [] [] pos) _ => decide (m = "pop") && decide (N[t]? = some y) && isLoc sc y && (fb y || isLocal sc y) && chkN N sc i x && (apos.endLine == pos.line)
    | _ => false
  | .ret _ e, st => match st with
    | .Return (some a) _ => chkE T N sc e a
    | _ => false
  | .retS i, st => match st with
    | .Return (some (.Name x _)) _ => chkN N sc i x
    | _ => false
  | .retN, st => match st with
    | .Return none _ => true
    | _ => false
  | .if_ _ c a b, st => match st with
    | .If c' a' b' _ => noIte c && chkE T N sc c c' && chkSs T N sc fb a a' && chkSs T N sc fb b b'
    | _ => false
  | .for_ _ tg it body, st => match st with
    | .For tga iter body' [] _ => chkT N sc fb tg tga && chkI T N sc it iter && chkSs T N sc fb body body' && notSet iter
    | _ => false
  | .while_ _ _ c body, st => match st with
    | .While c' body' [] _ => noIte c && chkE T N sc c c' && chkSs T N sc fb body body'
    | _ => false
  | .pass, st => match st with
    | .Pass _ => true
    | _ => false
  | .brk, st => match st with
    | .Break _ => true
    | _ => false
  | .cont, st => match st with
    | .Continue _ => true
    | _ => false
  | .never, _ => true
def chkSs (T : Tbl) (N : List Str) (sc : Scope) (fb : Str → Bool) : Ss → List Stmt → Bool
  | .nil, sts => match sts with
    | [] => true
    | _ => false
  | .cons s r, sts => match sts with
    | st :: rest => chkS T N sc fb s st && chkSs T N sc fb r rest
    | _ => false
end
theorem sw_lc {elt : Expr} {gs : List Comprehension} {scope : Scope} {lpos py : Pos} {y : Str} {l : Nat} {env : PySem.Env} (hk : env.scope.kind = .function) :
    swapsWith (.ListComp elt gs scope lpos) (some (.Name y py)) l env = pure (swB env.scope y py lpos scope) := by
  have hb : env.blockKind = .function := by unfold Env.blockKind; rw [hk]; rfl
  unfold swapsWith
  simp only [hb, Expr.pos]
  rfl
theorem sw_no {a : Expr} {t : Option Expr} {l : Nat} {env : PySem.Env} (h : notComp a = true) : swapsWith a t l env = pure false := by
  cases a <;> first | rfl | cases h
section
variable {L : Nat} {T : Tbl} {W : Wd} {Φ : Nat → List D → Option Sl} {N : List Str} {sc : Scope} {fb : Str → Bool} {X : Cx}
theorem XOk.ekind (x : XOk L T W Φ N sc fb X) : X.env.scope.kind = .function := by rw [x.hsc]; exact x.kind
theorem tgt (x : XOk L T W Φ N sc fb X) {y : Str} (h : (fb y || isLocal sc y) = true) : X.fn y = true ∨ X.env.scope.names.lookup y = some .local := by
  rw [Bool.or_eq_true] at h
  rcases h with z | z
  · exact .inl (by rw [x.hfb]; exact z)
  · exact .inr (by rw [x.hsc]; exact isLocal_eq z)
theorem asgLc_ok (x : XOk L T W Φ N sc fb X) {i : Nat} {y : Str} {py pos : Pos} {a : Expr} {e : E} {fz : List Nat} (hi : N[i]? = some y) (hl : isLoc sc y = true) (hf : (fb y || isLocal sc y) = true) (h : chkLc T N sc e y py a = true) : DS X W Φ (.Assign [.Name y py] a pos) (.asg fz (.name i) e) := by
  have nd : X.N.Nodup := by rw [x.hN]; exact x.nd
  have hi' : X.N[i]? = some y := by rw [x.hN]; exact hi
  unfold chkLc at h
  split at h
  · rename_i ea gs scope lpos
    rw [Bool.and_eq_true] at h
    obtain ⟨h0, h1⟩ := h
    have sw := sw_lc (elt := ea) (gs := gs) (scope := scope) (lpos := lpos) (py := py) (y := y) (l := pos.line) x.ekind
    rw [x.hsc] at sw
    by_cases hs : swB sc y py lpos scope = true
    · rw [if_pos hs] at h0
      rw [hs] at sw
      have loc : X.env.scope.names.lookup y = some .local := by
        rw [x.hsc]
        unfold swB at hs
        simp only [Bool.and_eq_true, beq_iff_eq] at hs
        exact hs.1.1
      cases e <;> first | (cases h0; done) | skip
      · rename_i e t it own
        unfold chkE at h1
        split at h1
        · rename_i a1 a2 a3 a4 a5 a6 a7 a8
          cases a8
          simp only [Bool.and_eq_true, decide_eq_true_eq] at h1
          obtain ⟨⟨⟨⟨⟨⟨⟨c0, c1⟩, c2⟩, c3⟩, c4⟩, c5⟩, c6⟩, c7⟩ := h1
          subst c0
          have k := blk_kind c2
          have := ds_asgLc (W := W) (Φ := Φ) (X := X) (fz := fz) x.calm nd hi' loc sw (chkI_ok it sc fb X _ x _ c3) (by rw [x.hN, x.hsc]; exact blkOk_by c2)
            (fun s H C cl fp => chkT_ok (x.blk k s H C cl fp) t _ c4) (fun s H C cl fp => (chkE_ok e _ _ _ _ (x.blk k s H C cl fp) c5).de) c6 (own_mem c1 c7)
          rw [c1] at this
          exact this
        · cases h1
      · rename_i e t it c own
        unfold chkE at h1
        split at h1
        · rename_i a1 a2 a3 a4 a5 a6 a7 a8 a9
          cases a9
          simp only [Bool.and_eq_true, decide_eq_true_eq] at h1
          obtain ⟨⟨⟨⟨⟨⟨⟨⟨⟨c0, c1⟩, c2⟩, c3⟩, c4⟩, c5⟩, c6⟩, c7⟩, c8⟩, c9⟩ := h1
          subst c0
          have k := blk_kind c2
          have := ds_asgLcf (W := W) (Φ := Φ) (X := X) (fz := fz) x.calm nd hi' loc sw (chkI_ok it sc fb X _ x _ c3) (by rw [x.hN, x.hsc]; exact blkOk_by c2)
            (fun s H C cl fp => chkT_ok (x.blk k s H C cl fp) t _ c4) (fun s H C cl fp => (chkE_ok c _ _ _ _ (x.blk k s H C cl fp) c9).dt c8) (fun s H C cl fp => (chkE_ok e _ _ _ _ (x.blk k s H C cl fp) c5).de) c6 (own_mem c1 c7)
          rw [c1] at this
          exact this
        · cases h1
    · have hs' : swB sc y py lpos scope = false := by simpa using hs
      rw [hs'] at sw
      exact ds_asgN nd hi' (x.loc hl) (chkE_ok e sc fb X _ x h1).de sw (tgt x hf)
  · rw [Bool.and_eq_true] at h
    exact ds_asgN nd hi' (x.loc hl) (chkE_ok e sc fb X _ x h.2).de (sw_no h.1) (tgt x hf)
theorem sws_no {tga a : Expr} {env : PySem.Env} {l : Nat} (h : notComp a = true) : swapsWithSole [tga] a l env = pure false := sw_no h
theorem swd_no {tga a : Expr} {env : PySem.Env} (h : notSeq a = true) : swappedStores [tga] a env = pure none := by
  unfold swappedStores
  cases a <;> first | (cases h; done) | (cases tga <;> rfl)
mutual
theorem chkS_ok : ∀ (s : S) (st : Stmt), XOk L T W Φ N sc fb X → chkS T N sc fb s st = true → DS X W Φ st s
  | .asg fz t e, st, x, h => by
    unfold chkS at h
    split at h
    · split at h
      · simp only [Bool.and_eq_true, decide_eq_true_eq] at h
        exact asgLc_ok x h.1.1.1 h.1.1.2 h.1.2 h.2
      · simp only [Bool.and_eq_true] at h
        obtain ⟨⟨⟨⟨h0, h1⟩, h2⟩, h3⟩, h4⟩ := h
        exact ds_asgT (chkE_ok e sc fb X _ x h4).de (chkT_ok x _ _ h0) (sws_no h2) (swd_no h3) (by rw [as_map h1]; rfl)
      · cases h
    · cases h
  | .asgB fz t e, st, x, h => by
    unfold chkS at h
    split at h
    · split at h
      · simp only [Bool.and_eq_true, decide_eq_true_eq] at h
        obtain ⟨⟨⟨⟨h0, h1⟩, h2⟩, h3⟩, h4⟩ := h
        exact ds_asgBN (by rw [x.hN]; exact x.nd) (by rw [x.hN]; exact h0) (x.loc h1) (chkE_ok e sc fb X _ x h4).de (sw_no h3) (tgt x h2)
      · cases h
    · cases h
  | .app i fz e, st, x, h => by
    unfold chkS at h
    split at h
    · simp only [Bool.and_eq_true, decide_eq_true_eq] at h
      obtain ⟨⟨⟨⟨h0, h1⟩, h2⟩, h3⟩, h4⟩ := h
      subst h0
      have n := x.nm h1
      have de := (chkE_ok e sc fb X _ x h2).de
      refine ds_app n.ix n.vis n.d n.cd de h3 ?_ rfl
      exact pe_bm PySem.F.plainAttrs_list PySem.F.slot_list_append PySem.F.type_list_append mt_append (pe_var n.ix n.vis n.d n.cd) (pa_cons de pa_nil (star_cons h3)) rfl (by rw [star_cons h3]; rfl) h4 (star_cons h3) rfl
    · cases h
  | .setix i fz ix e, st, x, h => by
    unfold chkS at h
    split at h
    · simp only [Bool.and_eq_true] at h
      obtain ⟨⟨⟨⟨⟨h0, h1⟩, h2⟩, h3⟩, h4⟩, h5⟩ := h
      have n := x.nm h0
      exact ds_setix n.ix n.vis n.d n.cd (chkE_ok e sc fb X _ x h1).de (chkE_ok ix sc fb X _ x h2).de h5 (sws_no h3) (swd_no h4)
    · cases h
  | .popTo t i, st, x, h => by
    unfold chkS at h
    split at h
    · simp only [Bool.and_eq_true, decide_eq_true_eq] at h
      obtain ⟨⟨⟨⟨⟨h0, h1⟩, h2⟩, h3⟩, h4⟩, h5⟩ := h
      subst h0
      have n := x.nm h4
      exact ds_popTo (by rw [x.hN]; exact x.nd) n.ix n.vis n.d n.cd (by rw [x.hN]; exact h1) (x.loc h2) (tgt x h3) h5
    · cases h
  | .ret fz e, st, x, h => by
    unfold chkS at h
    split at h
    · exact ds_ret (chkE_ok e sc fb X _ x h).de
    · cases h
  | .retS i, st, x, h => by
    unfold chkS at h
    split at h
    · have n := x.nm h
      exact ds_retS n.ix n.vis n.d n.cd
    · cases h
  | .retN, st, x, h => by
    unfold chkS at h
    split at h
    · exact ds_retN
    · cases h
  | .if_ fz c a b, st, x, h => by
    unfold chkS at h
    split at h
    · simp only [Bool.and_eq_true] at h
      obtain ⟨⟨⟨h0, h1⟩, h2⟩, h3⟩ := h
      exact ds_if ((chkE_ok c sc fb X _ x h1).dt h0) (chkSs_ok a _ x h2) (chkSs_ok b _ x h3)
    · cases h
  | .for_ fz tg it body, st, x, h => by
    unfold chkS at h
    split at h
    · simp only [Bool.and_eq_true] at h
      obtain ⟨⟨⟨h0, h1⟩, h2⟩, h3⟩ := h
      exact ds_for x.xe x.calm (chkI_ok it sc fb X _ x _ h1) (chkT_ok x _ _ h0) (chkSs_ok body _ x h2) h3
    · cases h
  | .while_ n fz c body, st, x, h => by
    unfold chkS at h
    split at h
    · simp only [Bool.and_eq_true] at h
      obtain ⟨⟨h0, h1⟩, h2⟩ := h
      exact ds_while x.xe ((chkE_ok c sc fb X _ x h1).dt h0) (chkSs_ok body _ x h2)
    · cases h
  | .pass, st, x, h => by
    unfold chkS at h
    split at h
    · exact ds_pass
    · cases h
  | .brk, st, x, h => by
    unfold chkS at h
    split at h
    · exact ds_brk
    · cases h
  | .cont, st, x, h => by
    unfold chkS at h
    split at h
    · exact ds_cont
    · cases h
  | .never, st, x, h => ds_never
theorem chkSs_ok : ∀ (s : Ss) (sts : List Stmt), XOk L T W Φ N sc fb X → chkSs T N sc fb s sts = true → DSs X W Φ sts s
  | .nil, sts, x, h => by
    unfold chkSs at h
    split at h
    · exact dss_nil
    · cases h
  | .cons s r, sts, x, h => by
    unfold chkSs at h
    split at h
    · rw [Bool.and_eq_true] at h
      exact dss_cons (chkS_ok s _ x h.1) (chkSs_ok r _ x h.2)
    · cases h
end
end

/-! ### a def -/
def runD (Φ : Nat → List D → Option Sl) (np nN : Nat) (ir : Ss) (ds : List D) : Option Sl :=
  if ds.length = np then match evSs Φ ir (ds.map .dat ++ List.replicate (nN - np) .un) with
    | some (.ret r _) => some r
    | some (.nx _) => some (.dat .non)
    | _ => none
  else none
theorem st_slot {W : Wd} {H0 G H : Hp} {k : Nat} : ∀ {vs : List V} {ds : List D}, Reps W G vs ds → ∀ (i : Nat) (l : Sl) (v : Option V), (ds.map Sl.dat ++ List.replicate k .un)[i]? = some l → (vs.map some ++ List.replicate k none)[i]? = some v → SlOk W H0 G H l v
  | _, _, .nil, i, l, v, e1, e2 => by
    have : l = .un := by
      have h := List.mem_of_getElem? e1
      simpa using (List.mem_replicate.mp (by simpa using h)).2
    subst this
    trivial
  | _, _, .cons r t, 0, l, v, e1, e2 => by
    simp at e1 e2
    subst e1 e2
    exact r
  | _, _, .cons r t, i + 1, l, v, e1, e2 => st_slot t i l v (by simpa using e1) (by simpa using e2)
theorem st_own {k : Nat} {ds : List D} {i : Nat} {es : List D} : (ds.map Sl.dat ++ List.replicate k .un)[i]? ≠ some (.own es) := fun e => by
  have h := List.mem_of_getElem? e
  rcases List.mem_append.mp h with h | h
  · obtain ⟨d, _, z⟩ := List.mem_map.mp h
    cases z
  · have z := (List.mem_replicate.mp h).2
    cases z
/-- what the defs that stand behind a def are to keep -/
structure GOk (L : Nat) (T : Tbl) (W : Wd) (Φ : Nat → List D → Option Sl) (P : Program) (w : World) (mg : Str → Option Value) (base : Heap) : Prop where
  fns : ∀ i x n ks, T.fns[i]? = some (x, n, ks) → ∃ f fd ps, mg x = some (.ref f) ∧ PySem.W.keepIn W.K (.ref f) = true ∧ (ks = [] → Binds W.K fd ps []) ∧ (ks ≠ [] → KBn W.K fd ps n ks (· ++ ·) (· ++ ·)) ∧ FnOk P w W.K mg base CX0 L f fd ps (spD W (Φ i))
  bis : ∀ x ∈ T.bis, mg x = none
theorem def_ok {L : Nat} {T : Tbl} {W : Wd} {Φ : Nat → List D → Option Sl} {P : Program} {w : World} {mg : Str → Option Value} {base : Heap} (g : GOk L T W Φ P w mg base) {x qual : Str} {params : Arguments} {body : List Stmt} {scope : Scope} {dvs : List V} {kws : List (Str × V)} {f : Addr} {fd : FuncData} {N ps : List Str}
    (F : FunD W.K x qual params body scope dvs kws f fd) (S : FnScope N ps scope) {ir : Ss} (c : chkSs T N scope (fun _ => true) ir body = true) {m : List D → Option Sl} (hm : ∀ ds r, m ds = some r → runD Φ ps.length N.length ir ds = some r) : FnOk P w W.K mg base CX0 (L + 1) f fd ps (spD W m) := by
  refine F.ok S (fun vs H Q E h => ?_) (fun cdv A outer s H vs Q E hr h => ⟨tSs W Φ ir, PSs.nox ?_, ?_⟩)
  · obtain ⟨G, ds, r, ex, rx, e, k⟩ := h
    have e := hm ds r e
    unfold runD at e
    split at e
    · rename_i hl
      rw [rx.length, hl]
    · cases e
  · refine chkSs_ok (L := L) (T := T) (N := N) (sc := scope) (fb := fun _ => true) ir body ⟨rfl, S.nd, rfl, rfl, rfl, rfl, rfl, S.kind, hr, g.fns, g.bis⟩ c
  · obtain ⟨G, ds, r, ex, rx, e, k⟩ := h
    have e := hm ds r e
    unfold runD at e
    split at e
    · rename_i hl
      have hv : vs.length = ps.length := by rw [rx.length, hl]
      have vd : Vd W H (ds.map .dat ++ List.replicate (N.length - ps.length) .un) (L2.start N vs) G H := by
        refine ⟨ex, ?_, fun i l v e1 e2 => ?_, fun i j p a b ne e1 _ _ => absurd e1 st_own⟩
        · unfold L2.start
          rw [List.length_append, List.length_append, List.length_map, List.length_map, List.length_replicate, List.length_replicate, rx.length, hl]
        · unfold L2.start at e2
          rw [hv] at e2
          exact st_slot rx i l v e1 e2
      split at e
      · rename_i r' ρ' h1
        cases e
        exact ⟨H, _, G, _, vd, .refl H, h1, fun v σ' G' H' hv' mv ro => k v G' H' ⟨mv.hx, mv.gx, mv.sub, mv.av⟩ ro⟩
      · rename_i ρ' h1
        cases e
        exact ⟨H, _, G, _, vd, .refl H, h1, fun σ' G' H' hv' mv => k _ G' H' ⟨mv.hx, mv.gx, mv.sub, mv.av⟩ .non⟩
      · cases e
    · cases e
/-- a promise of nothing -/
theorem fn_none {P : Program} {w : World} {W : Wd} {mg : Str → Option Value} {base : Heap} {k : Nat} {f : Addr} {fd : FuncData} {ps : List Str} : FnOk P w W.K mg base CX0 k f fd ps (spD W fun _ => none) :=
  ⟨fun vs H Q E z => (by obtain ⟨_, _, _, _, _, e, _⟩ := z; cases e), fun _ _ _ _ _ _ _ _ _ _ _ _ _ z => (by obtain ⟨_, _, _, _, _, e, _⟩ := z; cases e)⟩
end PD

set_option Elab.async false
set_option linter.all false
set_option maxRecDepth 100000
set_option maxHeartbeats 4000000
/-! PD10: data of types; a program's defs together; the head's facts. -/
namespace PD
open PySem PySem.Spec PyProof.Rows L2

/-! ### types that are written as data -/
class Enc (α : Type) where
  enc : α → D
  inj : ∀ a b, enc a = enc b → a = b
open Enc (enc)
open Classical in
noncomputable def dec {α : Type} [Enc α] (d : D) : Option α := if h : ∃ a : α, enc a = d then some h.choose else none
theorem dec_enc {α : Type} [Enc α] (a : α) : dec (enc a) = some a := by
  unfold dec
  have h : ∃ b : α, enc b = enc a := ⟨a, rfl⟩
  rw [dif_pos h]
  exact congrArg some (Enc.inj _ _ h.choose_spec)
theorem enc_dec {α : Type} [Enc α] {d : D} {a : α} (h : dec d = some a) : d = enc a := by
  unfold dec at h
  split at h
  · rename_i z
    have e := z.choose_spec
    rw [← e, Option.some.inj h]
  · cases h
instance : Enc Int := ⟨D.int, fun _ _ h => D.int.inj h⟩
instance : Enc Bool := ⟨D.bl, fun _ _ h => D.bl.inj h⟩
instance : Enc Str := ⟨D.str, fun _ _ h => D.str.inj h⟩
instance : Enc D := ⟨id, fun _ _ h => h⟩
theorem map_inj {α : Type} [Enc α] : ∀ {l m : List α}, l.map enc = m.map enc → l = m
  | [], [], _ => rfl
  | [], _ :: _, h => by cases h
  | _ :: _, [], h => by cases h
  | a :: l, b :: m, h => by
    rw [List.map_cons, List.map_cons] at h
    injection h with h1 h2
    rw [Enc.inj _ _ h1, map_inj h2]
/-- a list, a tuple of many, a script -/
instance {α : Type} [Enc α] : Enc (List α) := ⟨fun l => .lst (l.map enc), fun _ _ h => map_inj (D.lst.inj h)⟩
structure Tp (α : Type) where
  l : List α
instance {α : Type} [Enc α] : Enc (Tp α) := ⟨fun l => .tup (l.l.map enc), fun a b h => by
  cases a; cases b; exact congrArg Tp.mk (map_inj (D.tup.inj h))⟩
structure Fz (α : Type) where
  l : List α
instance {α : Type} [Enc α] : Enc (Fz α) := ⟨fun l => .fl (l.l.map enc), fun a b h => by
  cases a; cases b; exact congrArg Fz.mk (map_inj (D.fl.inj h))⟩
/-- a list or a tuple -/
structure Sq (α : Type) where
  t : Bool
  l : List α
def Sq.d {α : Type} [Enc α] (s : Sq α) : D := if s.t = true then .tup (s.l.map enc) else .lst (s.l.map enc)
instance {α : Type} [Enc α] : Enc (Sq α) := ⟨Sq.d, fun a b h => by
  obtain ⟨t, l⟩ := a
  obtain ⟨u, m⟩ := b
  cases t <;> cases u <;> first | (cases h; done) | skip
  · exact congrArg (Sq.mk false) (map_inj (D.lst.inj h))
  · exact congrArg (Sq.mk true) (map_inj (D.tup.inj h))⟩
instance {α β : Type} [Enc α] [Enc β] : Enc (α × β) := ⟨fun p => .tup [enc p.1, enc p.2], fun a b h => by
  have h := D.tup.inj h
  injection h with h1 h2
  injection h2 with h2 _
  exact Prod.ext (Enc.inj _ _ h1) (Enc.inj _ _ h2)⟩
@[simp] theorem enc_int (i : Int) : enc i = D.int i := rfl
@[simp] theorem enc_bool (i : Bool) : enc i = D.bl i := rfl
@[simp] theorem enc_D (i : D) : enc i = i := rfl
theorem enc_list {α : Type} [Enc α] (l : List α) : enc l = D.lst (l.map enc) := rfl
theorem enc_tp {α : Type} [Enc α] (l : List α) : enc (Tp.mk l) = D.tup (l.map enc) := rfl

/-! ### what a def does, as a partial function on data -/
open Classical in
noncomputable def gd (p : Prop) {α : Type} (x : α) : Option α := if p then some x else none
theorem gd_pos {p : Prop} {α : Type} {x : α} (h : p) : gd p x = some x := if_pos h
theorem gd_inv {p : Prop} {α : Type} {x y : α} (h : gd p x = some y) : p ∧ x = y := by
  unfold gd at h
  split at h
  · exact ⟨by assumption, Option.some.inj h⟩
  · cases h
section
variable {α β γ δ ε : Type} [Enc α] [Enc β] [Enc γ] [Enc δ] [Enc ε]
noncomputable def fn1 (p : α → Prop) (F : α → Sl) : List D → Option Sl
  | [a] => (dec a : Option α).bind fun a => gd (p a) (F a)
  | _ => none
noncomputable def fn2 (p : α → β → Prop) (F : α → β → Sl) : List D → Option Sl
  | [a, b] => (dec a : Option α).bind fun a => (dec b : Option β).bind fun b => gd (p a b) (F a b)
  | _ => none
noncomputable def fn3 (p : α → β → γ → Prop) (F : α → β → γ → Sl) : List D → Option Sl
  | [a, b, c] => (dec a : Option α).bind fun a => (dec b : Option β).bind fun b => (dec c : Option γ).bind fun c => gd (p a b c) (F a b c)
  | _ => none
noncomputable def fn4 (p : α → β → γ → δ → Prop) (F : α → β → γ → δ → Sl) : List D → Option Sl
  | [a, b, c, d] => (dec a : Option α).bind fun a => (dec b : Option β).bind fun b => (dec c : Option γ).bind fun c => (dec d : Option δ).bind fun d => gd (p a b c d) (F a b c d)
  | _ => none
noncomputable def fn5 (p : α → β → γ → δ → ε → Prop) (F : α → β → γ → δ → ε → Sl) : List D → Option Sl
  | [a, b, c, d, e] => (dec a : Option α).bind fun a => (dec b : Option β).bind fun b => (dec c : Option γ).bind fun c => (dec d : Option δ).bind fun d => (dec e : Option ε).bind fun e => gd (p a b c d e) (F a b c d e)
  | _ => none
theorem fn1_at {p : α → Prop} {F : α → Sl} {a : α} (h : p a) : fn1 p F [enc a] = some (F a) := by
  simp only [fn1, dec_enc, Option.bind_some]; exact gd_pos h
theorem fn2_at {p : α → β → Prop} {F : α → β → Sl} {a : α} {b : β} (h : p a b) : fn2 p F [enc a, enc b] = some (F a b) := by
  simp only [fn2, dec_enc, Option.bind_some]; exact gd_pos h
theorem fn3_at {p : α → β → γ → Prop} {F : α → β → γ → Sl} {a : α} {b : β} {c : γ} (h : p a b c) : fn3 p F [enc a, enc b, enc c] = some (F a b c) := by
  simp only [fn3, dec_enc, Option.bind_some]; exact gd_pos h
theorem fn4_at {p : α → β → γ → δ → Prop} {F : α → β → γ → δ → Sl} {a : α} {b : β} {c : γ} {d : δ} (h : p a b c d) : fn4 p F [enc a, enc b, enc c, enc d] = some (F a b c d) := by
  simp only [fn4, dec_enc, Option.bind_some]; exact gd_pos h
theorem fn5_at {p : α → β → γ → δ → ε → Prop} {F : α → β → γ → δ → ε → Sl} {a : α} {b : β} {c : γ} {d : δ} {e : ε} (h : p a b c d e) : fn5 p F [enc a, enc b, enc c, enc d, enc e] = some (F a b c d e) := by
  simp only [fn5, dec_enc, Option.bind_some]; exact gd_pos h
theorem fn1_inv {p : α → Prop} {F : α → Sl} {ds : List D} {r : Sl} (h : fn1 p F ds = some r) : ∃ a, ds = [enc a] ∧ p a ∧ r = F a := by
  unfold fn1 at h
  split at h
  · obtain ⟨a, h1, h⟩ := Option.bind_eq_some_iff.mp h
    obtain ⟨h2, h3⟩ := gd_inv h
    exact ⟨a, by rw [enc_dec h1], h2, h3.symm⟩
  · cases h
theorem fn2_inv {p : α → β → Prop} {F : α → β → Sl} {ds : List D} {r : Sl} (h : fn2 p F ds = some r) : ∃ a b, ds = [enc a, enc b] ∧ p a b ∧ r = F a b := by
  unfold fn2 at h
  split at h
  · obtain ⟨a, h1, h⟩ := Option.bind_eq_some_iff.mp h
    obtain ⟨b, h2, h⟩ := Option.bind_eq_some_iff.mp h
    obtain ⟨h3, h4⟩ := gd_inv h
    exact ⟨a, b, by rw [enc_dec h1, enc_dec h2], h3, h4.symm⟩
  · cases h
theorem fn3_inv {p : α → β → γ → Prop} {F : α → β → γ → Sl} {ds : List D} {r : Sl} (h : fn3 p F ds = some r) : ∃ a b c, ds = [enc a, enc b, enc c] ∧ p a b c ∧ r = F a b c := by
  unfold fn3 at h
  split at h
  · obtain ⟨a, h1, h⟩ := Option.bind_eq_some_iff.mp h
    obtain ⟨b, h2, h⟩ := Option.bind_eq_some_iff.mp h
    obtain ⟨c, h3, h⟩ := Option.bind_eq_some_iff.mp h
    obtain ⟨h4, h5⟩ := gd_inv h
    exact ⟨a, b, c, by rw [enc_dec h1, enc_dec h2, enc_dec h3], h4, h5.symm⟩
  · cases h
theorem fn4_inv {p : α → β → γ → δ → Prop} {F : α → β → γ → δ → Sl} {ds : List D} {r : Sl} (h : fn4 p F ds = some r) : ∃ a b c d, ds = [enc a, enc b, enc c, enc d] ∧ p a b c d ∧ r = F a b c d := by
  unfold fn4 at h
  split at h
  · obtain ⟨a, h1, h⟩ := Option.bind_eq_some_iff.mp h
    obtain ⟨b, h2, h⟩ := Option.bind_eq_some_iff.mp h
    obtain ⟨c, h3, h⟩ := Option.bind_eq_some_iff.mp h
    obtain ⟨d, h4, h⟩ := Option.bind_eq_some_iff.mp h
    obtain ⟨h5, h6⟩ := gd_inv h
    exact ⟨a, b, c, d, by rw [enc_dec h1, enc_dec h2, enc_dec h3, enc_dec h4], h5, h6.symm⟩
  · cases h
theorem fn5_inv {p : α → β → γ → δ → ε → Prop} {F : α → β → γ → δ → ε → Sl} {ds : List D} {r : Sl} (h : fn5 p F ds = some r) : ∃ a b c d e, ds = [enc a, enc b, enc c, enc d, enc e] ∧ p a b c d e ∧ r = F a b c d e := by
  unfold fn5 at h
  split at h
  · obtain ⟨a, h1, h⟩ := Option.bind_eq_some_iff.mp h
    obtain ⟨b, h2, h⟩ := Option.bind_eq_some_iff.mp h
    obtain ⟨c, h3, h⟩ := Option.bind_eq_some_iff.mp h
    obtain ⟨d, h4, h⟩ := Option.bind_eq_some_iff.mp h
    obtain ⟨e, h5, h⟩ := Option.bind_eq_some_iff.mp h
    obtain ⟨h6, h7⟩ := gd_inv h
    exact ⟨a, b, c, d, e, by rw [enc_dec h1, enc_dec h2, enc_dec h3, enc_dec h4, enc_dec h5], h6, h7.symm⟩
  · cases h
end

/-! ### the defs of a program together -/
abbrev Mf := List D → Option Sl
def phi : List (Nat × Mf) → Nat → Mf
  | [], _ => fun _ => none
  | (j, m) :: r, i => if i = j then m else phi r i
structure Base (T : Tbl) (W : Wd) (mg : Str → Option Value) (fA : Nat → Addr) (fD : Nat → FuncData) (fP : Nat → List Str) : Prop where
  glo : ∀ i x n ks, T.fns[i]? = some (x, n, ks) → mg x = some (.ref (fA i)) ∧ PySem.W.keepIn W.K (.ref (fA i)) = true ∧ (ks = [] → Binds W.K (fD i) (fP i) []) ∧ (ks ≠ [] → KBn W.K (fD i) (fP i) n ks (· ++ ·) (· ++ ·))
  bis : ∀ x ∈ T.bis, mg x = none
section
variable {T : Tbl} {W : Wd} {mg : Str → Option Value} {fA : Nat → Addr} {fD : Nat → FuncData} {fP : Nat → List Str} {P : Program} {w : World} {base : Heap}
abbrev FnAt (P : Program) (w : World) (W : Wd) (mg : Str → Option Value) (base : Heap) (fA : Nat → Addr) (fD : Nat → FuncData) (fP : Nat → List Str) (L i : Nat) (m : Mf) : Prop := FnOk P w W.K mg base CX0 L (fA i) (fD i) (fP i) (spD W m)
theorem gok (B : Base T W mg fA fD fP) {L : Nat} {l : List (Nat × Mf)} (h : ∀ p ∈ l, FnAt P w W mg base fA fD fP L p.1 p.2) : GOk L T W (phi l) P w mg base := by
  refine ⟨fun i x n ks e => ?_, B.bis⟩
  obtain ⟨h1, h2, h3, h4⟩ := B.glo i x n ks e
  refine ⟨_, _, _, h1, h2, h3, h4, ?_⟩
  induction l with
  | nil => exact fn_none
  | cons p r ih =>
    obtain ⟨j, m⟩ := p
    unfold phi
    by_cases z : i = j
    · rw [if_pos z]
      have := h (j, m) List.mem_cons_self
      rw [z]
      exact this
    · rw [if_neg z]
      exact ih fun p hp => h p (List.mem_cons_of_mem _ hp)
theorem FnAt.up {L L' i : Nat} {m : Mf} (h : FnAt P w W mg base fA fD fP L i m) (l : L ≤ L') : FnAt P w W mg base fA fD fP L' i m := FnOk.mono h l
/-- a promise of less -/
theorem FnAt.less {L i : Nat} {m m' : Mf} (h : FnAt P w W mg base fA fD fP L i m) (e : ∀ ds r, m' ds = some r → m ds = some r) : FnAt P w W mg base fA fD fP L i m' :=
  ⟨fun vs H Q E ⟨G, ds, r, a, b, c, d⟩ => h.len vs H Q E ⟨G, ds, r, a, b, e _ _ c, d⟩, fun A o s H ar us vs Q E r1 r2 r3 r4 ⟨G, ds, r, a, b, c, d⟩ => h.run A o s H ar us vs Q E r1 r2 r3 r4 ⟨G, ds, r, a, b, e _ _ c, d⟩⟩
theorem at_none {L i : Nat} : FnAt P w W mg base fA fD fP L i (fun _ => none) := fn_none
/-- THE RULE: a def with its form, the defs that it calls below -/
theorem at_ok (B : Base T W mg fA fD fP) {L i : Nat} {l : List (Nat × Mf)} (h : ∀ p ∈ l, FnAt P w W mg base fA fD fP L p.1 p.2) {x qual : Str} {params : Arguments} {body : List Stmt} {scope : Scope} {dvs : List V} {kws : List (Str × V)} {N ps : List Str}
    (F : FunD W.K x qual params body scope dvs kws (fA i) (fD i)) (S : FnScope N ps scope) (hp : fP i = ps) {ir : Ss} (c : chkSs T N scope (fun _ => true) ir body = true) {m : Mf} (hm : ∀ ds r, m ds = some r → runD (phi l) ps.length N.length ir ds = some r) : FnAt P w W mg base fA fD fP (L + 1) i m := by
  unfold FnAt
  rw [hp]
  exact def_ok (gok B h) F S c hm
theorem kbn_of {x qual : Str} {params : Arguments} {body : List Stmt} {scope : Scope} {f : Addr} {fd : FuncData} {ps ks : List Str} {n : Nat} {K : PySem.W.Frag} (F : FunD K x qual params body scope [] [] f fd)
    (h : ∀ (kV doc pm : Value) (an : Option Addr) (cdv ct : Value) (us ws : List Value), us.length = n → ws.length = ks.length → bindArgs (PySem.W.fnOf x qual params body scope .none kV doc pm an cdv ct) ⟨us, ks.zip ws⟩ = pure (ps.zip (us ++ ws))) : KBn K fd ps n ks (· ++ ·) (· ++ ·) := by
  obtain ⟨oc, od, dV, kV, doc, pm, an, cdv, ct, osl, rfl, lk, hcd, hD, hK⟩ := F.ex
  rcases hD with ⟨_, rfl⟩ | ⟨e, _⟩
  · exact ⟨fun s us ws _ h1 h2 => .of_eq (h kV doc pm an cdv ct us ws h1 h2), fun a b => a.append b⟩
  · exact absurd rfl e
end
/-! ### from the head's facts -/
def dAt (fn : List He.DefD) (K : PySem.W.Frag) (i : Nat) : Addr := match fn[i]? with
  | some d => He.fAd K d.at_
  | none => 0
theorem dfs_of {fa : List He.Fa} {fn : List He.DefD} {K : PySem.W.Frag} (c : He.SaysD fa fn K) : ∃ fD : Nat → FuncData, ∀ i d, fn[i]? = some d → FunD K d.name d.qual d.params d.body d.scope (d.dvs K) (d.kws K) (dAt fn K i) (fD i) := by
  have h : ∀ i, ∃ fd : FuncData, ∀ d, fn[i]? = some d → FunD K d.name d.qual d.params d.body d.scope (d.dvs K) (d.kws K) (dAt fn K i) fd := fun i => by
    cases e : fn[i]? with
    | none => exact ⟨default, fun d z => by cases z⟩
    | some d =>
      obtain ⟨fd, F⟩ := c.def_ i e
      refine ⟨fd, fun d' z => ?_⟩
      cases z
      unfold dAt
      rw [e]
      exact F
  exact ⟨fun i => (h i).choose, fun i => (h i).choose_spec⟩
/-- a top-level def of the text -/
def defD (nm : Str) (st : Stmt) : He.DefD := ⟨(nm, none), nm, nm, defArgs st, defBody st, defScope st, [], []⟩
def facts (T : Tbl) : List He.Fa := T.fns.map (fun f => .glo f.1) ++ T.bis.map .free
theorem base_of {T : Tbl} {fn : List He.DefD} {K : PySem.W.Frag} {h : Heap} {mg : Str → Option Value} {fD : Nat → FuncData} {fP : Nat → List Str} {cls : Str → Option Addr} (c : He.SaysD (facts T) fn K) (X : K.In h) (G : h.Ns mainGlobals mg) (al : fn.map (·.at_) = T.fns.map fun f => (f.1, none))
    (F : ∀ i d, fn[i]? = some d → FunD K d.name d.qual d.params d.body d.scope (d.dvs K) (d.kws K) (dAt fn K i) (fD i))
    (hb : ∀ i x n ks, T.fns[i]? = some (x, n, ks) → (ks = [] → Binds K (fD i) (fP i) []) ∧ (ks ≠ [] → KBn K (fD i) (fP i) n ks (· ++ ·) (· ++ ·))) : Base T ⟨K, cls⟩ mg (dAt fn K) fD fP := by
  refine ⟨fun i x n ks e => ?_, fun x hx => ?_⟩
  · have hi : i < T.fns.length := (List.getElem?_eq_some_iff.mp e).1
    have hl : fn.length = T.fns.length := by
      have := congrArg List.length al
      simpa using this
    have ed : ∃ d, fn[i]? = some d := ⟨fn[i], List.getElem?_eq_getElem (by omega)⟩
    obtain ⟨d, ed⟩ := ed
    have ea : d.at_ = (x, none) := by
      have z : (fn.map (·.at_))[i]? = (T.fns.map fun f => (f.1, (none : Option Str)))[i]? := by rw [al]
      rw [List.getElem?_map, List.getElem?_map, ed, e] at z
      exact Option.some.inj z
    have f1 : (He.Fa.glo x).ok K = true := c.fact i (by
      unfold facts
      rw [List.getElem?_append_left (by simpa using hi), List.getElem?_map, e]
      rfl)
    have g1 := He.glo_ok X G f1
    have ed2 : dAt fn K i = He.ga K x := by
      unfold dAt
      rw [ed]
      show He.fAd K d.at_ = _
      rw [ea]
      rfl
    exact ⟨by rw [ed2]; exact g1, (F i d ed).kp, hb i x n ks e⟩
  · have f1 : (He.Fa.free x).ok K = true := by
      obtain ⟨j, hj⟩ := List.mem_iff_getElem?.mp hx
      exact c.fact (T.fns.length + j) (by
        unfold facts
        rw [List.getElem?_append_right (by simp), List.getElem?_map]
        simp [hj])
    exact He.free_ok X G f1
end PD

set_option Elab.async false
set_option linter.all false
set_option maxRecDepth 100000
set_option maxHeartbeats 4000000
/-! PD11: evaluation by lemmas, one a construct. -/
namespace PD
open PySem PySem.Spec PyProof.Rows L2
theorem guardO_pos {c : Prop} [Decidable c] {α : Type} {x : α} (h : c) : guardO c x = some x := if_pos h
section
variable {Φ : Nat → Mf} {ρ ρ1 ρ2 : Env} {a b c e elt : E} {es kes : Es} {x y z d : D} {r : Sl} {i j : Int} {op op' : BO} {co co' : CO} {l m : List D} {k : Bool} {tg : Tg} {it : It}
theorem td (h : evE Φ a ρ = some r) (hd : r.toD = d) : toDo (evE Φ a ρ) = some d := by rw [h]; exact congrArg some hd
theorem ob (h : evE Φ a ρ = some (.dat (.bl k))) : ofB (evE Φ a ρ) = some k := by rw [h]; rfl
theorem ev_slot {n : Nat} (h : ρ[n]? = some (.dat d)) : evE Φ (.slot n) ρ = some (.dat d) := by simp only [evE, h]
theorem ev_lit : evE Φ (.lit d) ρ = some (.dat d) := rfl
theorem ev_bin (ha : toDo (evE Φ a ρ) = some x) (hb : toDo (evE Φ b ρ) = some y) (h : vBin op x y = some r) : evE Φ (.bin op a b) ρ = some r := by simp only [evE, ha, hb, Option.bind_some]; exact h
theorem ev_neg (ha : toDo (evE Φ a ρ) = some (.int i)) : evE Φ (.neg a) ρ = some (.dat (.int (-i))) := by simp only [evE, ha]
theorem ev_cmp (ha : toDo (evE Φ a ρ) = some x) (hb : toDo (evE Φ b ρ) = some y) (h : vCmp co x y = some k) : evE Φ (.cmp co a b) ρ = some (.dat (.bl k)) := by simp only [evE, ha, hb, Option.bind_some, h, Option.map_some]
theorem ev_chain {k' : Bool} (ha : toDo (evE Φ a ρ) = some x) (hb : toDo (evE Φ b ρ) = some y) (hc : toDo (evE Φ c ρ) = some z) (h : vCmp co x y = some k) (h' : vCmp co' y z = some k') : evE Φ (.chain co co' a b c) ρ = some (.dat (.bl (k && k'))) := by
  simp only [evE, ha, hb, hc, Option.bind_some, h, h', Option.map_some]
  cases k <;> rfl
theorem ev_and {k' : Bool} (ha : ofB (evE Φ a ρ) = some k) (hb : k = true → ofB (evE Φ b ρ) = some k') : evE Φ (.and_ a b) ρ = some (.dat (.bl (k && k'))) := by
  simp only [evE, ha, Option.bind_some]
  cases k with
  | true => rw [if_pos rfl, hb rfl]; rfl
  | false => rfl
theorem ev_or {k' : Bool} (ha : ofB (evE Φ a ρ) = some k) (hb : k = false → ofB (evE Φ b ρ) = some k') : evE Φ (.or_ a b) ρ = some (.dat (.bl (k || k'))) := by
  simp only [evE, ha, Option.bind_some]
  cases k with
  | true => rfl
  | false => rw [if_neg (by decide), hb rfl]; rfl
theorem ev_not (ha : ofB (evE Φ a ρ) = some k) : evE Φ (.not_ a) ρ = some (.dat (.bl (!k))) := by simp only [evE, ha, Option.map_some]
theorem ev_iteT (hc : ofB (evE Φ c ρ) = some true) (ha : evE Φ a ρ = some r) : evE Φ (.ite c a b) ρ = some r := by simp only [evE, hc, Option.bind_some, if_true]; exact ha
theorem ev_iteF (hc : ofB (evE Φ c ρ) = some false) (hb : evE Φ b ρ = some r) : evE Φ (.ite c a b) ρ = some r := by
  simp only [evE, hc, Option.bind_some]; rw [if_neg (by decide)]; exact hb
theorem ev_tup (h : evEs Φ es ρ = some l) (hl : l.length ≤ LIM) : evE Φ (.tup es) ρ = some (.dat (.tup l)) := by simp only [evE, h, Option.bind_some]; exact guardO_pos hl
theorem ev_lst (h : evEs Φ es ρ = some l) (hl : l.length ≤ LIM) : evE Φ (.lst es) ρ = some (.own l) := by simp only [evE, h, Option.bind_some]; exact guardO_pos hl
theorem ev_idx (ha : toDo (evE Φ a ρ) = some x) (hb : toDo (evE Φ b ρ) = some y) (h : vIdx x y = some d) : evE Φ (.idx a b) ρ = some (.dat d) := by simp only [evE, ha, hb, Option.bind_some, h, Option.map_some]
theorem ev_slice {lo hi : Eo} {l h : Option Int} (ha : toDo (evE Φ a ρ) = some x) (hl : evEo Φ lo ρ = some l) (hh : evEo Φ hi ρ = some h) (hr : vSlice x l h = some r) : evE Φ (.slice a lo hi) ρ = some r := by simp only [evE, ha, hl, hh, Option.bind_some]; exact hr
theorem eo_no : evEo Φ .no ρ = some none := rfl
theorem eo_yes (h : toDo (evE Φ a ρ) = some (.int i)) : evEo Φ (.yes a) ρ = some (some i) := by simp only [evEo, h]
theorem ev_call {f : Nat} (h : evEs Φ es ρ = some l) (hr : Φ f l = some r) : evE Φ (.call f es) ρ = some r := by simp only [evE, h, Option.bind_some]; exact hr
theorem ev_callk {f : Nat} (h : evEs Φ es ρ = some l) (h' : evEs Φ kes ρ = some m) (hr : Φ f (l ++ m) = some r) : evE Φ (.callk f es kes) ρ = some r := by simp only [evE, h, h', Option.bind_some]; exact hr
theorem ev_bi {f : BI} (h : evEs Φ es ρ = some l) (hr : vBi f l = some r) : evE Φ (.bi f es) ρ = some r := by simp only [evE, h, Option.bind_some]; exact hr
theorem ev_isi {T : String} (ha : toDo (evE Φ a ρ) = some x) (h : vIsi x T = some k) : evE Φ (.isi a T) ρ = some (.dat (.bl k)) := by simp only [evE, ha, Option.bind_some, h, Option.map_some]
theorem ev_lenS {n : Nat} (h : ρ[n]? = some (.own l)) : evE Φ (.lenS n) ρ = some (.dat (.int (l.length : Nat))) := by simp only [evE, h]
theorem ev_idxS {n : Nat} (h : ρ[n]? = some (.own l)) (ha : toDo (evE Φ a ρ) = some (.int i)) (hd : atI l i = some d) : evE Φ (.idxS n a) ρ = some (.dat d) := by simp only [evE, h, ha, hd, Option.map_some]
theorem ev_listr1 (h : toDo (evE Φ a ρ) = some (.int i)) (g : rngG 0 i) : evE Φ (.listr .no (.yes a)) ρ = some (.own (rngD 0 i)) := by
  simp only [evE, eo_no, eo_yes h, Option.bind_some]; exact guardO_pos g
theorem ev_listr2 (h : toDo (evE Φ a ρ) = some (.int i)) (h' : toDo (evE Φ b ρ) = some (.int j)) (g : rngG i j) : evE Φ (.listr (.yes a) (.yes b)) ρ = some (.own (rngD i j)) := by
  simp only [evE, eo_yes h, eo_yes h', Option.bind_some]; exact guardO_pos g
theorem es_nil : evEs Φ .nil ρ = some [] := rfl
theorem es_cons (h : toDo (evE Φ a ρ) = some x) (hr : evEs Φ es ρ = some l) : evEs Φ (.cons a es) ρ = some (x :: l) := by simp only [evEs, h, hr, Option.bind_some, Option.map_some]
theorem it_seq (h : toDo (evE Φ a ρ) = some x) (hs : seqD x = some l) : evI Φ (.seq a) ρ = some l := by simp only [evI, h, Option.bind_some]; exact hs
theorem it_rng1 (h : toDo (evE Φ a ρ) = some (.int i)) (g : rngG 0 i) : evI Φ (.rng1 a) ρ = some (rngD 0 i) := by simp only [evI, h]; exact guardO_pos g
theorem it_rng2 (h : toDo (evE Φ a ρ) = some (.int i)) (h' : toDo (evE Φ b ρ) = some (.int j)) (g : rngG i j) : evI Φ (.rng2 a b) ρ = some (rngD i j) := by simp only [evI, h, h']; exact guardO_pos g
theorem seq_lst (h : l.length ≤ LIM) : seqD (.lst l) = some l := guardO_pos h
theorem seq_tup (h : l.length ≤ LIM) : seqD (.tup l) = some l := guardO_pos h
theorem seq_fl (h : l.length ≤ LIM) : seqD (.fl l) = some l := guardO_pos h
/-- a comprehension over written data -/
theorem compD_map {α : Type} {f : D → Option (Option D)} {g : α → D} {u : α → D} : ∀ {xs : List α}, (∀ x ∈ xs, f (u x) = some (some (g x))) → compD f (xs.map u) = some (xs.map g)
  | [], _ => rfl
  | x :: xs, h => by
    have h1 := h x List.mem_cons_self
    have h2 := compD_map (f := f) (g := g) (u := u) (xs := xs) fun y hy => h y (List.mem_cons_of_mem _ hy)
    simp only [List.map_cons, compD, h1, h2, Option.bind_some, Option.map_some]
theorem compD_filter {α : Type} {f : D → Option (Option D)} {g : α → D} {u : α → D} {p : α → Bool} : ∀ {xs : List α}, (∀ x ∈ xs, f (u x) = some (if p x = true then some (g x) else none)) → compD f (xs.map u) = some ((xs.filter p).map g)
  | [], _ => rfl
  | x :: xs, h => by
    have h1 := h x List.mem_cons_self
    have h2 := compD_filter (f := f) (g := g) (u := u) (p := p) (xs := xs) fun y hy => h y (List.mem_cons_of_mem _ hy)
    simp only [List.map_cons, compD, h1, h2, Option.bind_some, Option.map_some]
    by_cases e : p x = true
    · rw [if_pos e, List.filter_cons_of_pos e]; rfl
    · rw [if_neg e, List.filter_cons_of_neg e]
/-- [elt for t in it], u: the item as data, g: the element -/
theorem ev_comp {α : Type} {own : List Nat} {xs : List α} (u g : α → D) (hi : evI Φ it ρ = some (xs.map u)) (h : ∀ x ∈ xs, ∃ ρ1, bindT tg (u x) (unE ρ own) = some ρ1 ∧ toDo (evE Φ elt ρ1) = some (g x)) : evE Φ (.comp elt tg it own) ρ = some (.own (xs.map g)) := by
  simp only [evE, hi, Option.bind_some]
  rw [compD_map (g := g) fun x hx => ?_]
  · rfl
  · obtain ⟨ρ1, h1, h2⟩ := h x hx
    simp only [h1, h2, Option.bind_some, Option.map_some]
theorem ev_compf {α : Type} {own : List Nat} {xs : List α} (u g : α → D) (p : α → Bool) (hi : evI Φ it ρ = some (xs.map u)) (h : ∀ x ∈ xs, ∃ ρ1, bindT tg (u x) (unE ρ own) = some ρ1 ∧ ofB (evE Φ c ρ1) = some (p x) ∧ (p x = true → toDo (evE Φ elt ρ1) = some (g x))) : evE Φ (.compf elt tg it c own) ρ = some (.own ((xs.filter p).map g)) := by
  simp only [evE, hi, Option.bind_some]
  rw [compD_filter (g := g) (p := p) fun x hx => ?_]
  · rfl
  · obtain ⟨ρ1, h1, h2, h3⟩ := h x hx
    simp only [h1, h2, Option.bind_some]
    by_cases e : p x = true
    · rw [if_pos e, if_pos e, h3 e]; rfl
    · rw [if_neg e, if_neg e]
/-- the ints of a range -/
def rngI (a b : Int) : List Int := (List.range (b - a).toNat).map fun i => a + (i : Nat)
theorem rngD_eq (a b : Int) : rngD a b = (rngI a b).map D.int := by unfold rngD rngI; rw [List.map_map]; rfl
theorem rngI_mem {a b x : Int} : x ∈ rngI a b ↔ a ≤ x ∧ x < b := by
  unfold rngI
  rw [List.mem_map]
  constructor
  · rintro ⟨i, h1, rfl⟩
    have := List.mem_range.mp h1
    omega
  · rintro ⟨h1, h2⟩
    exact ⟨(x - a).toNat, List.mem_range.mpr (by omega), by omega⟩
theorem rngI_len (a b : Int) : (rngI a b).length = (b - a).toNat := by unfold rngI; rw [List.length_map, List.length_range]
theorem rngI_get {a b : Int} {i : Nat} (h : i < (b - a).toNat) : (rngI a b)[i]? = some (a + (i : Nat)) := by
  unfold rngI
  rw [List.getElem?_map, List.getElem?_range h]
  rfl
theorem rngI_nat (n : Nat) : rngI 0 (n : Int) = (List.range n).map fun i : Nat => (i : Int) := by
  unfold rngI
  simp
/-! ### operations -/
theorem vb_mul (h : (-(2 ^ 64) < i ∧ i < 2 ^ 64) ∨ (-(2 ^ 64) < j ∧ j < 2 ^ 64)) : vBin .mul (.int i) (.int j) = some (.dat (.int (i * j))) := guardO_pos h
theorem vb_fdiv (h : 0 < j ∧ j < 1073741824) : vBin .fdiv (.int i) (.int j) = some (.dat (.int (i / j))) := guardO_pos h
theorem vb_mod (h : 0 < j) : vBin .mod (.int i) (.int j) = some (.dat (.int (i % j))) := guardO_pos h
theorem vb_pow (h : 0 ≤ j ∧ j ≤ 1000000 ∧ i.natAbs < 2 ^ 64) : vBin .pow (.int i) (.int j) = some (.dat (.int (i ^ j.toNat))) := guardO_pos h
theorem vb_catT (h : l.length + m.length ≤ LIM) : vBin .add (.tup l) (.tup m) = some (.dat (.tup (l ++ m))) := guardO_pos h
theorem vb_catL (h : l.length + m.length ≤ LIM) : vBin .add (.lst l) (.lst m) = some (.own (l ++ m)) := guardO_pos h
theorem vb_rep (h : i ≤ 1000000 ∧ -1000000 ≤ i ∧ l.length * i.toNat ≤ LIM) : vBin .mul (.lst l) (.int i) = some (.own (List.replicate i.toNat l).flatten) := guardO_pos h
theorem ix_at {n : Nat} (h : l[n]? = some d) : atI l (n : Int) = some d := atI_nat h
theorem ix_l (h : atI l i = some d) : vIdx (.lst l) (.int i) = some d := h
theorem ix_t (h : atI l i = some d) : vIdx (.tup l) (.int i) = some d := h
theorem ix_f (h : atI l i = some d) : vIdx (.fl l) (.int i) = some d := h
theorem at_map {α : Type} {xs : List α} {u : α → D} {i : Int} {x : α} (h0 : 0 ≤ i) (h : xs[i.toNat]? = some x) : atI (xs.map u) i = some (u x) := by
  have e : i = ((i.toNat : Nat) : Int) := by omega
  rw [e]
  exact atI_nat (by rw [List.getElem?_map, h]; rfl)
/-! ### statements -/
variable {s : S} {ss sa sb body : Ss} {o : Out} {fz : List Nat}
theorem ss_nx (h : evS Φ s ρ = some (.nx ρ1)) (h2 : evSs Φ ss ρ1 = some o) : evSs Φ (.cons s ss) ρ = some o := by simp only [evSs, h, Option.bind_some]; exact h2
theorem ss_ret (h : evS Φ s ρ = some (.ret r ρ1)) : evSs Φ (.cons s ss) ρ = some (.ret r ρ1) := by simp only [evSs, h, Option.bind_some]
theorem ss_out (h : evS Φ s ρ = some o) (n : ∀ ρ', o ≠ .nx ρ') : evSs Φ (.cons s ss) ρ = some o := by
  cases o <;> first | exact absurd rfl (n _) | simp only [evSs, h, Option.bind_some]
theorem ss_nil : evSs Φ .nil ρ = some (.nx ρ) := rfl
theorem s_asg (h : evE Φ e (frz fz ρ) = some r) (hs : storeT tg r (frz fz ρ) = some ρ1) : evS Φ (.asg fz tg e) ρ = some (.nx ρ1) := by simp only [evS, h, Option.bind_some, hs, Option.map_some]
theorem s_asgB (h : toDo (evE Φ e (frz fz ρ)) = some d) (hd : scalar d = true) (hs : bindT tg d ρ = some ρ1) : evS Φ (.asgB fz tg e) ρ = some (.nx ρ1) := by simp only [evS, h, Option.bind_some, hd, if_true, hs, Option.map_some]
theorem s_app {n : Nat} (h : toDo (evE Φ e (frz fz ρ)) = some d) (hn : (frz fz ρ)[n]? = some (.own l)) (hl : l.length < LIM) : evS Φ (.app n fz e) ρ = some (.nx ((frz fz ρ).set n (.own (l ++ [d])))) := by
  simp only [evS, h, Option.bind_some, hn]; exact guardO_pos hl
theorem s_ret (h : evE Φ e (frz fz ρ) = some r) : evS Φ (.ret fz e) ρ = some (.ret r (frz fz ρ)) := by simp only [evS, h, Option.map_some]
theorem s_retS {n : Nat} (h : ρ[n]? = some (.own l)) : evS Φ (.retS n) ρ = some (.ret (.own l) (ρ.set n .un)) := by simp only [evS, h]
theorem s_retN : evS Φ .retN ρ = some (.ret (.dat .non) ρ) := rfl
theorem s_if (h : ofB (evE Φ c (frz fz ρ)) = some k) (h1 : k = true → evSs Φ sa ρ = some o) (h2 : k = false → evSs Φ sb ρ = some o) : evS Φ (.if_ fz c sa sb) ρ = some o := by
  simp only [evS, h, Option.bind_some]
  cases k with
  | true => exact h1 rfl
  | false => exact h2 rfl
theorem s_ifT (h : ofB (evE Φ c (frz fz ρ)) = some true) (h1 : evSs Φ sa ρ = some o) : evS Φ (.if_ fz c sa sb) ρ = some o := s_if h (fun _ => h1) (fun z => by cases z)
theorem s_ifF (h : ofB (evE Φ c (frz fz ρ)) = some false) (h1 : evSs Φ sb ρ = some o) : evS Φ (.if_ fz c sa sb) ρ = some o := s_if h (fun z => by cases z) (fun _ => h1)
theorem s_for (hi : evI Φ it (frz fz ρ) = some l) (h : evFor (evSs Φ body) tg l (frz fz ρ) = some o) : evS Φ (.for_ fz tg it body) ρ = some o := by simp only [evS, hi, Option.bind_some]; exact h
theorem s_popTo {t n : Nat} (h : ρ[n]? = some (.own l)) (ht : t ≠ n) (hd : l[l.length - 1]? = some d) : evS Φ (.popTo t n) ρ = some (.nx ((ρ.set n (.own l.dropLast)).set t (.dat d))) := by
  simp only [evS, h, if_neg ht, hd, Option.map_some]
/-- a loop by its invariant -/
theorem for_inv {bd : Env → Option Out} (I : Nat → Env → Prop) : ∀ {items : List D} {ρ : Env} (k0 : Nat), I k0 ρ → (∀ k d ρ, items[k]? = some d → I (k0 + k) ρ → ∃ ρ1, bindT tg d ρ = some ρ1 ∧ ∃ ρ2, (bd ρ1 = some (.nx ρ2) ∨ bd ρ1 = some (.ct ρ2)) ∧ I (k0 + k + 1) ρ2) →
    ∃ ρ', evFor bd tg items ρ = some (.nx ρ') ∧ I (k0 + items.length) ρ'
  | [], ρ, k0, h0, _ => ⟨ρ, rfl, h0⟩
  | d :: ds, ρ, k0, h0, hs => by
    obtain ⟨ρ1, h1, ρ2, h2, h3⟩ := hs 0 d ρ rfl h0
    obtain ⟨ρ', h4, h5⟩ := for_inv (bd := bd) I (items := ds) (ρ := ρ2) (k0 + 1) h3 fun k d' ρ'' e i => by
      have := hs (k + 1) d' ρ'' (by simpa using e) (by rwa [show k0 + (k + 1) = k0 + 1 + k by omega])
      rwa [show k0 + (k + 1) + 1 = k0 + 1 + k + 1 by omega] at this
    refine ⟨ρ', ?_, by rwa [List.length_cons, show k0 + (ds.length + 1) = k0 + 1 + ds.length by omega]⟩
    unfold evFor
    rw [h1]
    show (bd ρ1).bind _ = _
    rcases h2 with h2 | h2 <;> (rw [h2]; exact h4)
theorem run_ret {np nN : Nat} {ir : Ss} {ds : List D} (hl : ds.length = np) (h : evSs Φ ir (ds.map .dat ++ List.replicate (nN - np) .un) = some (.ret r ρ1)) : runD Φ np nN ir ds = some r := by
  unfold runD
  rw [if_pos hl, h]
theorem run_nx {np nN : Nat} {ir : Ss} {ds : List D} (hl : ds.length = np) (h : evSs Φ ir (ds.map .dat ++ List.replicate (nN - np) .un) = some (.nx ρ1)) : runD Φ np nN ir ds = some (.dat .non) := by
  unfold runD
  rw [if_pos hl, h]
end
end PD

set_option Elab.async false
set_option linter.all false
set_option maxRecDepth 100000
set_option maxHeartbeats 4000000
/-! PD12: defs that change a list that they are passed first. -/
namespace PD
open PySem PySem.Spec PyProof.Rows L2

/-- the promise of a def that changes its first argument, a list of the caller's own: m says the answer and what the list holds behind -/
def spIO (W : Wd) (m : List D → List D → Option (D × List D)) : Sp := fun vs H Q _ => ∃ G p ws vs0 dl ds r, vs = V.ref p :: ws ∧ Ex G H ∧ H p = some (.lst vs0) ∧ G p = none ∧ Reps W G vs0 dl ∧ Reps W G ws ds ∧ m dl ds = some r ∧
  ∀ v G' H' vs', (∀ a o, H a = some o → a ≠ p → H' a = some o) → Ex G G' → Ex G' H' → (∀ a, H a ≠ none → G a = none → G' a = none) → H' p = some (.lst vs') → Reps W G' vs' r.2 → Rep W G' v r.1 → Q v H'
theorem fn_noneIO {P : Program} {w : World} {W : Wd} {mg : Str → Option Value} {base : Heap} {k : Nat} {f : Addr} {fd : FuncData} {ps : List Str} : FnOk P w W.K mg base CX0 k f fd ps (spIO W fun _ _ => none) :=
  ⟨fun vs H Q E z => (by obtain ⟨_, _, _, _, _, _, _, _, _, _, _, _, _, e, _⟩ := z; cases e), fun _ _ _ _ _ _ _ _ _ _ _ _ _ z => (by obtain ⟨_, _, _, _, _, _, _, _, _, _, _, _, _, e, _⟩ := z; cases e)⟩
theorem fn_lessIO {P : Program} {w : World} {W : Wd} {mg : Str → Option Value} {base : Heap} {k : Nat} {f : Addr} {fd : FuncData} {ps : List Str} {m m' : List D → List D → Option (D × List D)} (h : FnOk P w W.K mg base CX0 k f fd ps (spIO W m)) (e : ∀ a b r, m' a b = some r → m a b = some r) : FnOk P w W.K mg base CX0 k f fd ps (spIO W m') :=
  ⟨fun vs H Q E ⟨G, p, ws, vs0, dl, ds, r, a1, a2, a3, a4, a5, a6, a7, a8⟩ => h.len vs H Q E ⟨G, p, ws, vs0, dl, ds, r, a1, a2, a3, a4, a5, a6, e _ _ _ a7, a8⟩,
    fun A o s H ar us vs Q E r1 r2 r3 r4 ⟨G, p, ws, vs0, dl, ds, r, a1, a2, a3, a4, a5, a6, a7, a8⟩ => h.run A o s H ar us vs Q E r1 r2 r3 r4 ⟨G, p, ws, vs0, dl, ds, r, a1, a2, a3, a4, a5, a6, e _ _ _ a7, a8⟩⟩
section
variable {W : Wd} {Φ : Nat → Mf} {X : Cx}
/-- the own list in slot i was changed by another def -/
theorem Vd.io {H0 G H G' H' : Hp} {ρ : Env} {σ : L2.St} {i : Nat} {dl dl' : List D} {p : Addr} {vs' : List V} (hv : Vd W H0 ρ σ G H) (e : ρ[i]? = some (.own dl)) (hp : σ[i]? = some (some (.ref p)))
    (k : ∀ a o, H a = some o → a ≠ p → H' a = some o) (gx : Ex G G') (sub : Ex G' H') (av : ∀ a, H a ≠ none → G a = none → G' a = none) (hl : H' p = some (.lst vs')) (r : Reps W G' vs' dl') : Vd W H0 (ρ.set i (.own dl')) σ G' H' := by
  obtain ⟨q, h1, h2, vs, h3, h4, h5⟩ := hv.own e
  rw [hp] at h1
  cases h1
  have hi : i < σ.length := (List.getElem?_eq_some_iff.mp hp).1
  refine ⟨sub, by rw [List.length_set]; exact hv.len, fun j c v e1 e2 => ?_, fun j c q ds es ne e1 e2 e3 e4 => ?_⟩
  · by_cases q : i = j
    · subst q
      rw [List.getElem?_set_self (by rw [← hv.len]; exact hi)] at e1
      cases e1
      rw [hp] at e2
      cases e2
      exact ⟨p, rfl, h2, vs', hl, av p (by rw [h3]; simp) h4, r⟩
    · rw [List.getElem?_set_ne q] at e1
      have hs := hv.slot j c v e1 e2
      cases c with
      | un => trivial
      | dat d =>
        cases v with
        | none => exact hs
        | some v => exact Rep.mono gx hs
      | own es =>
        cases v with
        | none => exact hs
        | some v =>
          obtain ⟨u, rfl, n, ws, g1, g2, g3⟩ := hs
          have ne : u ≠ p := fun z => hv.apart i j p _ _ q e e1 hp (by rw [e2, z])
          exact ⟨u, rfl, n, ws, k u _ g1 ne, av u (by rw [g1]; simp) g2, g3.mono gx⟩
  · have own' : ∀ {j : Nat} {ds : List D}, (ρ.set i (.own dl'))[j]? = some (.own ds) → ∃ ds', ρ[j]? = some (.own ds') := fun {j ds} z => by
      by_cases q : i = j
      · subst q; exact ⟨dl, e⟩
      · rw [List.getElem?_set_ne q] at z; exact ⟨ds, z⟩
    obtain ⟨d1, f1⟩ := own' e1
    obtain ⟨d2, f2⟩ := own' e2
    exact hv.apart j c q d1 d2 ne f1 f2 e3 e4
/-- n calls, one after another -/
def ioRun (m : List D → List D → Option (D × List D)) (ds : List D) : Nat → List D → Option (List D × List D)
  | 0, dl => some ([], dl)
  | n + 1, dl => (m dl ds).bind fun r => (ioRun m ds n r.2).map fun q => (r.1 :: q.1, q.2)
theorem unE_out {ρ : Env} {i : Nat} : ∀ {vs : List Nat}, i ∉ vs → (unE ρ vs)[i]? = ρ[i]?
  | [], _ => rfl
  | v :: vs, h => by
    have h1 : v ≠ i := fun e => h (by rw [e]; exact List.mem_cons_self)
    have h2 : i ∉ vs := fun e => h (List.mem_cons_of_mem _ e)
    unfold unE
    rw [List.getElem?_set_ne h1]
    exact unE_out h2
theorem wipe_out' {σ : L2.St} {i : Nat} : ∀ {vs : List Nat}, i ∉ vs → (L2.wipe σ vs)[i]? = σ[i]?
  | [], _ => rfl
  | v :: vs, h => by
    have h1 : v ≠ i := fun e => h (by rw [e]; exact List.mem_cons_self)
    have h2 : i ∉ vs := fun e => h (List.mem_cons_of_mem _ e)
    unfold L2.wipe
    rw [List.getElem?_set_ne h1]
    exact wipe_out' h2
/-- the reading of [f(xs, ..) for k in it], f changes xs (slot i), the other arguments the same at each turn -/
theorem lcIO {it : It} {j i : Nat} {own : List Nat} {es : Es} {m : List D → List D → Option (D × List D)} {σ : L2.St} {H H0 G : Hp} {ρ : Env} {items ds dl dl' res : List D} {p : Addr} {Q : VK} (hv : Vd W H0 ρ σ G H) (hx : Ex H0 H) (h1 : evI Φ it ρ = some items) (hi : ρ[i]? = some (.own dl)) (hp : σ[i]? = some (some (.ref p)))
    (hj : j ∈ own) (ni : i ∉ own) (ha : ∀ dl d, evEs Φ es ((unE (ρ.set i (.own dl)) own).set j (.dat d)) = some ds) (hr : ioRun m ds items.length dl = some (res, dl'))
    (k : ∀ Dl G' H', Vd W H0 (ρ.set i (.own dl')) σ G' H' → Mv H0 G G' H' → Own W G' H' Dl res → H Dl = none → Q (.ref Dl) H') :
    tLc (tI W Φ it) (gName j) tYes (tCall (spIO W m) [] E0 (tCons (tVar i) (tAs W Φ es))) own σ H Q := by
  refine ⟨H0, ρ, G, items, hv, h1, fun J G1 H1 s1 hJ => fun Dl hD => ?_⟩
  have lim := evI_len h1
  have hx1 := hx.trans s1.hx
  have v1 := hv.step s1
  refine ⟨fun c n H' => n + c = items.length ∧ ∃ G' acc dacc rest dlc, Vd W H0 (ρ.set i (.own dlc)) σ G' H' ∧ Mv H0 G1 G' H' ∧ H' Dl = some (.lst acc) ∧ G' Dl = none ∧ Reps W G' acc dacc ∧ ioRun m ds n dlc = some (rest, dl') ∧ dacc ++ rest = res ∧ dacc.length ≤ c,
    ⟨items.length, by simp, G1, [], [], res, dl, ?_, ?_, upd_same, s1.sub.free hD, .nil, hr, rfl, Nat.zero_le _⟩, ?_⟩
  · rw [show ρ.set i (.own dl) = ρ by
      obtain ⟨a, b⟩ := List.getElem?_eq_some_iff.mp hi
      rw [← b, List.set_getElem_self]]
    exact v1.step (.newO s1.sub hD)
  · exact (Step.newO s1.sub hD).mv hx1
  rintro c n H' ⟨cnt, G', acc, dacc, rest, dlc, vc, mc, hl, hg, hr', hc, hd, hn⟩
  obtain ⟨hgo, hstop⟩ := hJ G' H' mc.gx mc.sub
  have hDH : H Dl = none := s1.hx.free hD
  cases e : items[c]? with
  | none =>
    have hcl : c = items.length := by
      have := List.getElem?_eq_none_iff.mp e
      omega
    have n0 : n = 0 := by omega
    subst n0 hcl
    cases hc
    rw [List.append_nil] at hd
    subst hd
    exact .inl ⟨hstop, k Dl G' H' vc ((s1.mv hx).trans mc) ⟨acc, hl, hg, hr'⟩ hDH⟩
  | some d =>
    have hci : c < items.length := (List.getElem?_eq_some_iff.mp e).1
    obtain ⟨n', rfl⟩ : ∃ n', n = n' + 1 := ⟨n - 1, by omega⟩
    unfold ioRun at hc
    obtain ⟨r, c1, hc⟩ := Option.bind_eq_some_iff.mp hc
    obtain ⟨q, c2, c3⟩ := Option.map_eq_some_iff.mp hc
    obtain ⟨go, yl⟩ := hgo c d e
    refine .inr ⟨go, fun H'' => n' + (c + 1) = items.length ∧ ∃ G' acc dacc rest dlc, Vd W H0 (ρ.set i (.own dlc)) σ G' H'' ∧ Mv H0 G1 G' H'' ∧ H'' Dl = some (.lst acc) ∧ G' Dl = none ∧ Reps W G' acc dacc ∧ ioRun m ds n' dlc = some (rest, dl') ∧ dacc ++ rest = res ∧ dacc.length ≤ c + 1, fun H'' z => ⟨n', by omega, z⟩, fun x H'' y => ?_⟩
    obtain ⟨G2, s2, rx⟩ := yl x H'' y
    have v2 := vc.step s2
    have m2 : Mv H0 G1 G2 H'' := mc.trans (s2.mv mc.hx)
    have hjσ : j ≠ i := fun z => ni (by rw [← z]; exact hj)
    refine ⟨?_, ?_⟩
    · have : L2.wipe ((L2.wipe σ own).set j (some x)) own = L2.wipe (L2.wipe σ own) own := wipe_eq (by rw [List.length_set]) fun t ht => List.getElem?_set_ne (fun z => ht (by rw [← z]; exact hj))
      rw [this, wipe_wipe]
    · dsimp only [tYes]; rw [if_pos rfl]
      have vw : Vd W H0 ((unE (ρ.set i (.own dlc)) own).set j (.dat d)) ((L2.wipe σ own).set j (some x)) G2 H'' := (Vd.wipe v2 own).setD j rx
      have σi : ((L2.wipe σ own).set j (some x))[i]? = some (some (V.ref p)) := by
        rw [List.getElem?_set_ne hjσ, wipe_out' ni]
        exact hp
      have hil : i < ρ.length := (List.getElem?_eq_some_iff.mp hi).1
      have ρi : (ρ.set i (.own dlc))[i]? = some (.own dlc) := List.getElem?_set_self hil
      refine ⟨_, σi, H0, _, G2, ds, vw, ha dlc d, fun vs G3 H3 s3 r3 => ?_⟩
      have v3 := v2.step s3
      obtain ⟨p', g1, _, vsp, g3, g4, g5⟩ := v3.own ρi
      rw [hp] at g1
      cases g1
      show spIO W m (V.ref p :: (vs ++ [])) H3 _ E0
      rw [List.append_nil]
      refine ⟨G3, p, vs, vsp, dlc, ds, r, rfl, s3.sub, g3, g4, g5, r3, c1, fun v G4 H4 vs' k1 k2 k3 k4 k5 k6 k7 => ?_⟩
      have v4 := v3.io ρi hp k1 k2 k3 k4 k5 k6
      rw [List.set_set] at v4
      have hD3 : H3 Dl = some (.lst acc) := s3.hx _ _ (s2.hx _ _ hl)
      have hpD : Dl ≠ p := fun z => by
        have w1 : H p ≠ none := by
          obtain ⟨q, b1, _, us, b2, _⟩ := hv.own hi
          rw [hp] at b1
          cases b1
          rw [b2]; simp
        rw [z] at hDH
        exact w1 hDH
      have hD4 := k1 Dl _ hD3 hpD
      have hg4 := k4 Dl (by rw [hD3]; simp) (s3.av _ (by rw [s2.hx _ _ hl]; simp) (s2.av _ (by rw [hl]; simp) hg))
      have m3 : Mv H0 G1 G3 H3 := m2.trans (s3.mv m2.hx)
      have m4 : Mv H0 G1 G4 H4 := ⟨fun a o z => by
        have hap : a ≠ p := fun q => by
          obtain ⟨q', b1, b2, _⟩ := hv.own hi
          rw [hp] at b1
          cases b1
          rw [q, b2] at z; cases z
        exact k1 a o (m3.hx a o z) hap, m3.gx.trans k2, k3, fun a h z => k4 a (fun q => h (m3.hx.free q)) (m3.av a h z)⟩
      have nD : H0 Dl = none := hx.free hDH
      have v5 : Vd W H0 (ρ.set i (.own r.2)) σ G4 (upd H4 Dl (.lst (acc ++ [v]))) := by
        refine ⟨fun a o z => ?_, v4.len, fun a l u e1 e2 => ?_, v4.apart⟩
        · rw [upd_ne (ne_of_none z hg4)]
          exact v4.sub a o z
        · have hs := v4.slot a l u e1 e2
          cases l with
          | un => trivial
          | dat d =>
            cases u with
            | none => exact hs
            | some u => exact hs
          | own es' =>
            cases u with
            | none => exact hs
            | some u =>
              obtain ⟨z, rfl, n1, ws, b1, b2, b3⟩ := hs
              refine ⟨z, rfl, n1, ws, ?_, b2, b3⟩
              rw [upd_ne ?_]
              · exact b1
              · intro zz
                subst zz
                -- Dl is in no slot: it was free when the comprehension began
                have ρa : ∃ es0, ρ[a]? = some (.own es0) := by
                  by_cases q : i = a
                  · subst q; exact ⟨dl, hi⟩
                  · rw [List.getElem?_set_ne q] at e1; exact ⟨es', e1⟩
                obtain ⟨es0, ρa⟩ := ρa
                exact hv.fresh hDH a es0 ρa e2
      refine ⟨acc, hD4, by rw [hr'.length]; exact lim_lt (by omega), by omega, G4, acc ++ [v], dacc ++ [r.1], q.1, r.2, v5, ⟨fun a o z => ?_, m4.gx, v5.sub, m4.av⟩, upd_same, hg4, (hr'.mono (s2.gx.trans (s3.gx.trans k2))).snoc k7, ?_, ?_, by rw [List.length_append]; simp; omega⟩
      · rw [upd_ne (ne_of_none z nD)]
        exact m4.hx a o z
      · rw [c2]
        injection c3 with c3 c4
        rw [← c4]
      · injection c3 with c3 c4
        rw [← hd, ← c3, List.append_assoc]
        rfl
end
end PD

set_option Elab.async false
set_option linter.all false
set_option maxRecDepth 100000
set_option maxHeartbeats 4000000
/-! PD13: the look at defs that change a list that they are passed first; comprehensions over calls of them. -/
namespace PD
open PySem PySem.Spec PyProof.Rows L2

/-! ### statements, the list in slot 0 kept -/
def AftK (W : Wd) (H0 G : Hp) (p : Addr) (D : Ends) : Out → Prop
  | .nx ρ => ∀ σ G' H', Vd W H0 ρ σ G' H' → σ[0]? = some (some (.ref p)) → Mv H0 G G' H' → D.nx σ H'
  | .ret r ρ => ∀ v σ G' H', Vd W H0 ρ σ G' H' → σ[0]? = some (some (.ref p)) → Mv H0 G G' H' → ResOk W H0 G' H' r v → D.rt v H'
  | _ => False
theorem AftK.mv {W : Wd} {H0 G G1 H1 : Hp} {p : Addr} {D : Ends} (m : Mv H0 G G1 H1) : ∀ {o : Out}, AftK W H0 G p D o → AftK W H0 G1 p D o
  | .nx ρ, h => fun σ G' H' hv e m' => h σ G' H' hv e (m.trans m')
  | .ret r ρ, h => fun v σ G' H' hv e m' ro => h v σ G' H' hv e (m.trans m') ro
  | .brk ρ, h => h
  | .ct ρ, h => h
def tK (W : Wd) (Φ : Nat → Mf) (s : S) : TS := fun D σ H => ∃ H0 ρ G o p, Vd W H0 ρ σ G H ∧ Ex H0 H ∧ σ[0]? = some (some (.ref p)) ∧ evS Φ s ρ = some o ∧ AftK W H0 G p D o
def tKs (W : Wd) (Φ : Nat → Mf) (s : Ss) (u : TS) : TS := fun D σ H => ∃ H0 ρ G o p, Vd W H0 ρ σ G H ∧ Ex H0 H ∧ σ[0]? = some (some (.ref p)) ∧ evSs Φ s ρ = some o ∧ AftK W H0 G p { D with nx := u D } o
section
variable {L : Nat} {T : Tbl} {W : Wd} {Φ : Nat → Mf} {N : List Str} {sc : Scope} {fb : Str → Bool} {X : Cx}
theorem asgRaw (x : XOk L T W Φ N sc fb X) {i : Nat} {y : Str} {py pos : Pos} {a : Expr} {e : E} (hi : N[i]? = some y) (hl : isLoc sc y = true) (hf : (fb y || isLocal sc y) = true) (h : chkLc T N sc e y py a = true) : PS X (.Assign [.Name y py] a pos) (tAsg (tE W Φ e) (gName i)) := by
  have nd : X.N.Nodup := by rw [x.hN]; exact x.nd
  have hi' : X.N[i]? = some y := by rw [x.hN]; exact hi
  unfold chkLc at h
  split at h
  · rename_i ea gs scope lpos
    rw [Bool.and_eq_true] at h
    obtain ⟨h0, h1⟩ := h
    have sw := sw_lc (elt := ea) (gs := gs) (scope := scope) (lpos := lpos) (py := py) (y := y) (l := pos.line) x.ekind
    rw [x.hsc] at sw
    by_cases hs : swB sc y py lpos scope = true
    · rw [if_pos hs] at h0
      rw [hs] at sw
      have loc : X.env.scope.names.lookup y = some .local := by
        rw [x.hsc]
        unfold swB at hs
        simp only [Bool.and_eq_true, beq_iff_eq] at hs
        exact hs.1.1
      cases e <;> first | (cases h0; done) | skip
      · rename_i e t it own
        unfold chkE at h1
        split at h1
        · rename_i a1 a2 a3 a4 a5 a6 a7 a8
          cases a8
          simp only [Bool.and_eq_true, decide_eq_true_eq] at h1
          obtain ⟨⟨⟨⟨⟨⟨⟨c0, c1⟩, c2⟩, c3⟩, c4⟩, c5⟩, c6⟩, c7⟩ := h1
          subst c0
          have k := blk_kind c2
          have hs := own_mem c1 c7
          refine PS.imp (ps_setLc x.calm nd hi' loc sw (chkI_ok it sc fb X _ x _ c3) (by rw [x.hN, x.hsc]; exact blkOk_by c2)
            (fun s H C cl fp => chkT_ok (x.blk k s H C cl fp) t _ c4) (fun _ _ _ _ _ => pts_nil) (fun s H C cl fp => (chkE_ok e _ _ _ _ (x.blk k s H C cl fp) c5).de) (fold_no c6)) fun D σ H h => comp_go hs ?_
          rw [c1]
          exact h
        · cases h1
      · rename_i e t it c own
        unfold chkE at h1
        split at h1
        · rename_i a1 a2 a3 a4 a5 a6 a7 a8 a9
          cases a9
          simp only [Bool.and_eq_true, decide_eq_true_eq] at h1
          obtain ⟨⟨⟨⟨⟨⟨⟨⟨⟨c0, c1⟩, c2⟩, c3⟩, c4⟩, c5⟩, c6⟩, c7⟩, c8⟩, c9⟩ := h1
          subst c0
          have k := blk_kind c2
          have hs := own_mem c1 c7
          refine PS.imp (ps_setLc x.calm nd hi' loc sw (chkI_ok it sc fb X _ x _ c3) (by rw [x.hN, x.hsc]; exact blkOk_by c2)
            (fun s H C cl fp => chkT_ok (x.blk k s H C cl fp) t _ c4) (fun s H C cl fp => pts_one ((chkE_ok c _ _ _ _ (x.blk k s H C cl fp) c9).dt c8)) (fun s H C cl fp => (chkE_ok e _ _ _ _ (x.blk k s H C cl fp) c5).de) (fold_no c6)) fun D σ H h => compf_go hs ?_
          rw [c1]
          exact h
        · cases h1
    · have hs' : swB sc y py lpos scope = false := by simpa using hs
      rw [hs'] at sw
      exact ps_set nd hi' (x.loc hl) (chkE_ok e sc fb X _ x h1).de sw (tgt x hf)
  · rw [Bool.and_eq_true] at h
    exact ps_set nd hi' (x.loc hl) (chkE_ok e sc fb X _ x h.2).de (sw_no h.1) (tgt x hf)
theorem asgK {fz : List Nat} {i : Nat} {e : E} {D : Ends} {σ : L2.St} {H : Hp} (ne : i ≠ 0) (h : tK W Φ (.asg fz (.name i) e) D σ H) : tE W Φ e σ H fun x H1 => D.nx (σ.set i (some x)) H1 := by
  obtain ⟨H0, ρ, G, o, p, hv, ex, hp, he, k⟩ := h
  unfold evS at he
  obtain ⟨r, h1, h2⟩ := Option.bind_eq_some_iff.mp he
  obtain ⟨ρ', h3, h4⟩ := Option.map_eq_some_iff.mp h2
  subst h4
  obtain ⟨G1, hf, m1⟩ := hv.frz ex fz
  refine ⟨H0, _, G1, r, hf, h1, fun v G2 H2 s ro => ?_⟩
  have hv2 := hf.step s
  have m2 := m1.trans (s.mv ex)
  have hp' : (σ.set i (some v))[0]? = some (some (.ref p)) := by rw [List.getElem?_set_ne ne]; exact hp
  cases r with
  | un => cases h3
  | dat d =>
    cases h3
    exact k _ G2 H2 (hv2.setD i ro) hp' m2
  | own l =>
    cases h3
    obtain ⟨q, rfl, n, o⟩ := ro
    exact k _ G2 H2 (hv2.setO i (ex.free n) o fun j es e1 => hf.fresh n j es e1) hp' m2
mutual
def chkM (T : Tbl) (N : List Str) (sc : Scope) (fb : Str → Bool) : S → Stmt → Bool
  | .asg _ (.name i) e, st => match st with
    | .Assign [.Name x p] a _ => decide (i ≠ 0) && decide (N[i]? = some x) && isLoc sc x && (fb x || isLocal sc x) && chkLc T N sc e x p a
    | _ => false
  | .popTo t i, st => match st with
    | .Assign [.Name y _] (.Call (.Attribute (.Name x _) m apos) [] [] pos) _ => decide (t ≠ 0) && decide (m = "pop") && decide (N[t]? = some y) && isLoc sc y && (fb y || isLocal sc y) && chkN N sc i x && (apos.endLine == pos.line)
    | _ => false
  | .ret _ e, st => match st with
    | .Return (some a) _ => chkE T N sc e a
    | _ => false
  | .if_ _ c a b, st => match st with
    | .If c' a' b' _ => noIte c && chkE T N sc c c' && chkMs T N sc fb a a' && chkMs T N sc fb b b'
    | _ => false
  | .never, _ => true
  | _, _ => false
def chkMs (T : Tbl) (N : List Str) (sc : Scope) (fb : Str → Bool) : Ss → List Stmt → Bool
  | .nil, sts => match sts with
    | [] => true
    | _ => false
  | .cons s r, sts => match sts with
    | st :: rest => chkM T N sc fb s st && chkMs T N sc fb r rest
    | _ => false
end
def chkMl (T : Tbl) (N : List Str) (sc : Scope) (fb : Str → Bool) (last : List Stmt → Bool) : Ss → List Stmt → Bool
  | .nil, sts => last sts
  | .cons s r, sts => match sts with
    | st :: rest => chkM T N sc fb s st && chkMl T N sc fb last r rest
    | _ => false
theorem ks_nil {u : TS} {as : List Stmt} (h : PSs X as u) : PSs X as (tKs W Φ .nil u) := by
  refine PSs.imp h fun D σ H z => ?_
  obtain ⟨H0, ρ, G, o, p, hv, ex, hp, he, k⟩ := z
  cases he
  exact k σ G H hv hp (.refl ex hv.sub)
theorem ks_cons {u : TS} {a : Stmt} {as : List Stmt} {s : S} {r : Ss} (h1 : PS X a (tK W Φ s)) (h2 : PSs X as (tKs W Φ r u)) : PSs X (a :: as) (tKs W Φ (.cons s r) u) := by
  refine PSs.imp (pss_cons h1 h2) fun D σ H h => ?_
  obtain ⟨H0, ρ, G, o, p, hv, ex, hp, he, k⟩ := h
  unfold evSs at he
  obtain ⟨o1, e1, e2⟩ := Option.bind_eq_some_iff.mp he
  refine ⟨H0, ρ, G, o1, p, hv, ex, hp, e1, ?_⟩
  cases o1 with
  | nx ρ1 => exact fun σ1 G1 H1 hv1 hp1 m1 => ⟨H0, ρ1, G1, o, p, hv1, m1.hx, hp1, e2, AftK.mv m1 k⟩
  | ret r ρ1 => cases e2; exact k
  | brk ρ1 => cases e2; exact k
  | ct ρ1 => cases e2; exact k
theorem k_if {fz : List Nat} {c : Expr} {a b : List Stmt} {ec : E} {ea eb : Ss} {pos : Pos} (hc : DT X W Φ c ec) (ha : PSs X a (tKs W Φ ea tNext)) (hb : PSs X b (tKs W Φ eb tNext)) : PS X (.If c a b pos) (tK W Φ (.if_ fz ec ea eb)) := by
  refine PS.imp (ps_if hc ha hb) fun D σ H h => ?_
  obtain ⟨H0, ρ, G, o, p, hv, ex, hp, he, k⟩ := h
  unfold evS at he
  obtain ⟨t, h1, h2⟩ := Option.bind_eq_some_iff.mp he
  obtain ⟨G1, hf, m1⟩ := hv.frz ex fz
  refine ⟨H0, _, G1, t, hf, h1, fun G2 H2 s => ?_⟩
  have k' : AftK W H0 G p { D with nx := tNext D } o := k
  cases t with
  | true => exact iteT ⟨H0, ρ, G, o, p, hv.back s.hx, ex.trans s.hx, hp, h2, k'⟩
  | false => exact iteF ⟨H0, ρ, G, o, p, hv.back s.hx, ex.trans s.hx, hp, h2, k'⟩
theorem k_ret {fz : List Nat} {a : Expr} {e : E} {pos : Pos} (ha : DE X W Φ a e) : PS X (.Return (some a) pos) (tK W Φ (.ret fz e)) := by
  refine PS.imp (ps_ret ha) fun D σ H h => ?_
  obtain ⟨H0, ρ, G, o, p, hv, ex, hp, he, k⟩ := h
  unfold evS at he
  obtain ⟨r, h1, h2⟩ := Option.map_eq_some_iff.mp he
  subst h2
  obtain ⟨G1, hf, m1⟩ := hv.frz ex fz
  refine ⟨H0, _, G1, r, hf, h1, fun v G2 H2 s ro => k v σ G2 H2 (hf.step s) hp (m1.trans (s.mv ex)) ?_⟩
  cases r with
  | un => exact ro
  | dat d => exact ro
  | own l =>
    obtain ⟨p, e1, n, o⟩ := ro
    exact ⟨p, e1, ex.free n, o⟩
theorem k_popTo {t i : Nat} {x y : Str} {p apos pos pos2 py : Pos} (ht : t ≠ 0) (hNd : X.N.Nodup) (hN : X.N[i]? = some x) (hvs : Vis X.env.scope x) (hd : (x == ("__debug__" : Str)) = false) (hcd : (x == ("__classdict__" : Str)) = false) (hi : X.N[t]? = some y) (hx : Loc X.env.scope y) (hf : X.fn y = true ∨ X.env.scope.names.lookup y = some .local)
    (hl : (apos.endLine == pos.line) = true) : PS X (.Assign [.Name y py] (.Call (.Attribute (.Name x p) "pop" apos) [] [] pos) pos2) (tK W Φ (.popTo t i)) := by
  refine PS.imp (ps_set hNd hi hx (pe_bm0 PySem.F.plainAttrs_list PySem.F.slot_list_pop PySem.F.type_list_pop mt_pop (pe_var hN hvs hd hcd) rfl hl) rfl hf) fun D σ H h => ?_
  obtain ⟨H0, ρ, G, o, p0, hv, ex, hp, he, k⟩ := h
  unfold evS at he
  split at he
  · rename_i l e1
    split at he
    · cases he
    · rename_i hti
      obtain ⟨d, h1, h2⟩ := Option.map_eq_some_iff.mp he
      subst h2
      obtain ⟨q, g1, g2, vs, g3, g4, g5⟩ := hv.own e1
      obtain ⟨v, v1, v2⟩ := g5.get h1
      refine ⟨.ref q, g1, .inl ⟨rfl, _, .inl (.inl g3)⟩, q, vs, v, rfl, rfl, g3, by rw [g5.length]; exact v1, ?_⟩
      have hw := hv.write (vs' := vs.dropLast) e1 g1 g5.dropLast
      refine k _ G _ (hw.setD t v2) (by rw [List.getElem?_set_ne ht]; exact hp) ⟨fun a o z => ?_, .refl _, hw.sub, fun _ _ z => z⟩
      rw [upd_ne (ne_of_none z g2)]
      exact ex a o z
  · cases he
mutual
theorem chkM_ok : ∀ (s : S) (st : Stmt), XOk L T W Φ N sc fb X → chkM T N sc fb s st = true → PS X st (tK W Φ s)
  | .asg fz (.name i) e, st, x, h => by
    unfold chkM at h
    split at h
    · simp only [Bool.and_eq_true, decide_eq_true_eq] at h
      exact PS.imp (asgRaw x h.1.1.1.2 h.1.1.2 h.1.2 h.2) fun D σ H z => asgK h.1.1.1.1 z
    · cases h
  | .popTo t i, st, x, h => by
    unfold chkM at h
    split at h
    · simp only [Bool.and_eq_true, decide_eq_true_eq] at h
      obtain ⟨⟨⟨⟨⟨⟨hz, h0⟩, h1⟩, h2⟩, h3⟩, h4⟩, h5⟩ := h
      subst h0
      have n := x.nm h4
      exact k_popTo hz (by rw [x.hN]; exact x.nd) n.ix n.vis n.d n.cd (by rw [x.hN]; exact h1) (x.loc h2) (tgt x h3) h5
    · cases h
  | .ret fz e, st, x, h => by
    unfold chkM at h
    split at h
    · exact k_ret (chkE_ok e sc fb X _ x h).de
    · cases h
  | .if_ fz c a b, st, x, h => by
    unfold chkM at h
    split at h
    · simp only [Bool.and_eq_true] at h
      obtain ⟨⟨⟨h0, h1⟩, h2⟩, h3⟩ := h
      exact k_if ((chkE_ok c sc fb X _ x h1).dt h0) (chkMs_ok a _ x h2) (chkMs_ok b _ x h3)
    · cases h
  | .never, st, x, h => PS.imp ps_never fun D σ H h => by
    obtain ⟨H0, ρ, G, o, p, hv, ex, hp, he, k⟩ := h
    cases he
  | .asg _ (.tup _) _, _, _, h => by unfold chkM at h; cases h
  | .asgB _ _ _, _, _, h => by unfold chkM at h; cases h
  | .app _ _ _, _, _, h => by unfold chkM at h; cases h
  | .setix _ _ _ _, _, _, h => by unfold chkM at h; cases h
  | .retS _, _, _, h => by unfold chkM at h; cases h
  | .retN, _, _, h => by unfold chkM at h; cases h
  | .for_ _ _ _ _, _, _, h => by unfold chkM at h; cases h
  | .while_ _ _ _ _, _, _, h => by unfold chkM at h; cases h
  | .pass, _, _, h => by unfold chkM at h; cases h
  | .brk, _, _, h => by unfold chkM at h; cases h
  | .cont, _, _, h => by unfold chkM at h; cases h
theorem chkMs_ok : ∀ (s : Ss) (sts : List Stmt), XOk L T W Φ N sc fb X → chkMs T N sc fb s sts = true → PSs X sts (tKs W Φ s tNext)
  | .nil, sts, x, h => by
    unfold chkMs at h
    split at h
    · exact ks_nil pss_nil
    · cases h
  | .cons s r, sts, x, h => by
    unfold chkMs at h
    split at h
    · rw [Bool.and_eq_true] at h
      exact ks_cons (chkM_ok s _ x h.1) (chkMs_ok r _ x h.2)
    · cases h
end
theorem chkMl_ok {last : List Stmt → Bool} {u : TS} (x : XOk L T W Φ N sc fb X) (hl : ∀ as, last as = true → PSs X as u) : ∀ (s : Ss) (sts : List Stmt), chkMl T N sc fb last s sts = true → PSs X sts (tKs W Φ s u)
  | .nil, sts, h => by
    unfold chkMl at h
    exact ks_nil (hl _ h)
  | .cons s r, sts, h => by
    unfold chkMl at h
    split at h
    · rw [Bool.and_eq_true] at h
      exact ks_cons (chkM_ok s _ x h.1) (chkMl_ok x hl r _ h.2)
    · cases h

/-! ### [f(xs, ..) for k in it] -/
def chkIoLc (T : Tbl) (N : List Str) (sc : Scope) (nm : Str) (es : Es) (it : It) (i j : Nat) : Expr → Bool
  | .ListComp (.Call (.Name fn _) (.Name xn _ :: as) [] _) [⟨.Name kn _, iter, [], z⟩] scope _ => decide (z = 0) && decide ((ownOf N [j]).map (·.2) = [j]) && blkC N sc scope (ownOf N [j]) && chkI T N sc it iter && (decide (N[j]? = some kn) && isLoc (relS scope sc) kn && (fbOf scope kn || isLocal (relS scope sc) kn)) && decide (fn = nm) && isGl (relS scope sc) fn && okNm fn && chkN N (relS scope sc) i xn && chkEs T N (relS scope sc) es as && notSet iter
  | _ => false
structure IoFn (L : Nat) (W : Wd) (P : Program) (w : World) (mg : Str → Option Value) (base : Heap) (nm : Str) (m : List D → List D → Option (D × List D)) : Prop where
  ex : ∃ f fd ps, mg nm = some (.ref f) ∧ PySem.W.keepIn W.K (.ref f) = true ∧ Binds W.K fd ps [] ∧ FnOk P w W.K mg base CX0 L f fd ps (spIO W m)
theorem ioLc_ok {nm : Str} {m : List D → List D → Option (D × List D)} {es : Es} {it : It} {i j : Nat} {a : Expr} (x : XOk L T W Φ N sc fb X) (io : IoFn L W X.prog X.w X.mg X.base nm m) (h : chkIoLc T N sc nm es it i j a = true) :
    PE X a (tLc (tI W Φ it) (gName j) tYes (tCall (spIO W m) [] E0 (tCons (tVar i) (tAs W Φ es))) [j]) := by
  unfold chkIoLc at h
  split at h
  · simp only [Bool.and_eq_true, decide_eq_true_eq] at h
    obtain ⟨⟨⟨⟨⟨⟨⟨⟨⟨⟨c0, c1⟩, c2⟩, c3⟩, c4⟩, c5⟩, c6⟩, c7⟩, c8⟩, c9⟩, c10⟩ := h
    subst c0 c5
    have k := blk_kind c2
    obtain ⟨f, fd, ps, g1, g2, g3, F⟩ := io.ex
    suffices hh : PE X _ (tLc (tI W Φ it) (gName j) tYes (tCall (spIO W m) [] E0 (tCons (tVar i) (tAs W Φ es))) ((ownOf N [j]).map (·.2))) by
      rw [c1] at hh
      exact hh
    refine pe_lc (X := X) (wi := tI W Φ it) (g := gName j) (tt := tYes) (te := tCall (spIO W m) [] E0 (tCons (tVar i) (tAs W Φ es))) x.calm (by rw [x.hN]; exact x.nd) (chkI_ok it sc fb X _ x _ c3) (by rw [x.hN, x.hsc]; exact blkOk_by c2)
      (fun s H C cl fp => pg_name (by rw [(x.blk k s H C cl fp).hN]; exact x.nd) (by rw [(x.blk k s H C cl fp).hN]; exact c4.1.1) ((x.blk k s H C cl fp).loc c4.1.2) (tgt (x.blk k s H C cl fp) c4.2)) (fun _ _ _ _ _ => pts_nil) (fun s H C cl fp => ?_) (fold_no c10)
    · have xb := x.blk k s H C cl fp
      have n := xb.nm c8
      obtain ⟨d1, d2⟩ := okNm_d c7
      obtain ⟨ha, hs⟩ := chkEs_ok es _ _ _ _ xb c9
      exact pe_call (X := X.blk s H _ (compEnvC _ cl C X.env) fp) (by rw [show (X.blk s H _ (compEnvC _ cl C X.env) fp).K = W.K from xb.hK]; exact F) xb.room (xb.gl c6) g1 (by rw [show (X.blk s H _ (compEnvC _ cl C X.env) fp).K = W.K from xb.hK]; exact g2) (by rw [show (X.blk s H _ (compEnvC _ cl C X.env) fp).K = W.K from xb.hK]; exact g3) .nil pass0
        (pa_cons (pe_var n.ix n.vis n.d n.cd) ha (star_cons rfl)) d1 (star_cons rfl) (star_any hs)
  · cases h
/-- what such a comprehension makes -/
def IoLc (Φ : Nat → Mf) (m : List D → List D → Option (D × List D)) (es : Es) (it : It) (i j : Nat) (ρ : Env) (res dl' : List D) : Prop :=
  i ≠ j ∧ ∃ items ds dl, evI Φ it ρ = some items ∧ ρ[i]? = some (.own dl) ∧ (∀ dl d, evEs Φ es ((unE (ρ.set i (.own dl)) [j]).set j (.dat d)) = some ds) ∧ ioRun m ds items.length dl = some (res, dl')

/-! ### a def: .., return (a, b, c, tuple([f(xs, ..) for k in it])), xs its first parameter -/
def chkLastA (T : Tbl) (N : List Str) (sc : Scope) (nm : Str) (ea eb ec : E) (es : Es) (it : It) (j : Nat) : List Stmt → Bool
  | [.Return (some (.Tuple [a1, a2, a3, .Call (.Name tn _) [.ListComp el gs scope lpos] [] _] _ _)) _] => decide (tn = "tuple") && isBi T sc tn && (notStar a1 && notStar a2 && notStar a3) && (chkE T N sc ea a1 && chkE T N sc eb a2 && chkE T N sc ec a3) && chkIoLc T N sc nm es it 0 j (.ListComp el gs scope lpos)
  | _ => false
def LastA (Φ : Nat → Mf) (m : List D → List D → Option (D × List D)) (fz : List Nat) (ea eb ec : E) (es : Es) (it : It) (j : Nat) (ρ : Env) (r : D × List D) : Prop :=
  ∃ a b c res, toDo (evE Φ ea (frz fz ρ)) = some a ∧ toDo (evE Φ eb (frz fz ρ)) = some b ∧ toDo (evE Φ ec (frz fz ρ)) = some c ∧ IoLc Φ m es it 0 j (frz fz ρ) res r.2 ∧ r.1 = .tup [a, b, c, .tup res]
def tLastA (W : Wd) (Φ : Nat → Mf) (m : List D → List D → Option (D × List D)) (fz : List Nat) (ea eb ec : E) (es : Es) (it : It) (j : Nat) : TS := fun D σ H => ∃ H0 ρ G r p, Vd W H0 ρ σ G H ∧ Ex H0 H ∧ σ[0]? = some (some (.ref p)) ∧ LastA Φ m fz ea eb ec es it j ρ r ∧
  ∀ v ρ' G' H', Vd W H0 ρ' σ G' H' → ρ'[0]? = some (.own r.2) → Mv H0 G G' H' → Rep W G' v r.1 → D.rt v H'
theorem lastA_ok {nm : Str} {m : List D → List D → Option (D × List D)} {fz : List Nat} {ea eb ec : E} {es : Es} {it : It} {j : Nat} {as : List Stmt} (x : XOk L T W Φ N sc fb X) (io : IoFn L W X.prog X.w X.mg X.base nm m) (h : chkLastA T N sc nm ea eb ec es it j as = true) :
    PSs X as (tLastA W Φ m fz ea eb ec es it j) := by
  unfold chkLastA at h
  split at h
  · simp only [Bool.and_eq_true, decide_eq_true_eq] at h
    obtain ⟨⟨⟨⟨c0, c1⟩, ⟨c2, c3⟩, c4⟩, ⟨c5, c6⟩, c7⟩, c8⟩ := h
    subst c0
    obtain ⟨g1, g2⟩ := x.bi c1
    have lc := ioLc_ok x io c8
    refine PSs.imp (pss_one (ps_ret (pe_tup (pa_cons (chkE_ok ea sc fb X _ x c5).de (pa_cons (chkE_ok eb sc fb X _ x c6).de (pa_cons (chkE_ok ec sc fb X _ x c7).de (pa_cons (pe_callTy (call_tuple_of (X := X)) g1 g2 (BI.boot .tuple_) (pa_cons lc pa_nil (star_cons rfl)) (by decide) (by decide) (star_cons rfl) (star_any rfl)) pa_nil (star_cons rfl)) (star_cons c4)) (star_cons c3)) (star_cons c2))))) fun D σ H z => ?_
    obtain ⟨H0, ρ, G, r, p, hv, ex, hp, ⟨a, b, c, res, e1, e2, e3, ⟨ni, items, ds, dl, i1, i2, i3, i4⟩, e4⟩, k⟩ := z
    obtain ⟨G1, hf, m1⟩ := hv.frz ex fz
    refine tE.go hf e1 fun v1 G2 H2 s1 r1 => tE.go (hf.step s1) e2 fun v2 G3 H3 s2 r2 => tE.go ((hf.step s1).step s2) e3 fun v3 G4 H4 s3 r3 => ?_
    have hv4 := ((hf.step s1).step s2).step s3
    have s4 := (s1.trans s2).trans s3
    show tLc (tI W Φ it) (gName j) tYes (tCall (spIO W m) [] E0 (tCons (tVar 0) (tAs W Φ es))) [j] σ H4 (fun v H5 => ∃ p ys, [v] = [V.ref p] ∧ ((SqL X.K H5 p ys ∧ ∀ l, H5 l = none → ([v1, v2, v3, V.ref l].length ≤ sizeLine ∧ ∀ q, upd H5 l (.tup ys) q = none → D.rt (.ref q) (upd (upd H5 l (.tup ys)) q (.tup [v1, v2, v3, .ref l])))) ∨ (SqT X.K H5 p ys ∧ [v1, v2, v3, V.ref p].length ≤ sizeLine ∧ ∀ q, H5 q = none → D.rt (.ref q) (upd H5 q (.tup [v1, v2, v3, .ref p])))))
    refine lcIO hv4 (ex.trans s4.hx) i1 i2 hp (List.mem_singleton.mpr rfl) (fun z => ni (List.mem_singleton.mp z)) i3 i4 fun Dl G5 H5 hv5 m5 ow fr => ?_
    obtain ⟨acc, hl, hg, hr⟩ := ow
    refine ⟨Dl, acc, rfl, .inl ⟨.inl (.inl hl), fun l fl => ⟨by simp [sizeLine_eq], fun q fq => ?_⟩⟩⟩
    have s6 := Step.newD (o := .tup acc) hv5.sub fl
    have r6 : Rep W (upd G5 l (.tup acc)) (.ref l) (.tup res) := .tup (.inl (.inl upd_same)) (hr.mono s6.gx)
    have s7 := Step.newD (o := .tup [v1, v2, v3, .ref l]) s6.sub fq
    have gx := (s2.gx.trans s3.gx).trans (m5.gx.trans (s6.gx.trans s7.gx))
    refine k _ _ _ _ ((hv5.step s6).step s7) ?_ ((m1.trans (s4.mv ex)).trans (m5.trans (((s6.trans s7)).mv m5.hx))) ?_
    · exact List.getElem?_set_self (List.getElem?_eq_some_iff.mp i2).1
    · rw [e4]
      refine .tup (.inl (.inl upd_same)) (.cons (r1.mono gx) (.cons (r2.mono (s3.gx.trans (m5.gx.trans (s6.gx.trans s7.gx)))) (.cons (r3.mono (m5.gx.trans (s6.gx.trans s7.gx))) (.cons (r6.mono s7.gx) .nil))))
  · cases h
def ρA (np nN : Nat) (dl ds : List D) : Env := .own dl :: (ds.map .dat ++ List.replicate (nN - np) .un)
def RunA (Φ : Nat → Mf) (m : List D → List D → Option (D × List D)) (ir : Ss) (fz : List Nat) (ea eb ec : E) (es : Es) (it : It) (j np nN : Nat) (dl ds : List D) (r : D × List D) : Prop :=
  ds.length + 1 = np ∧ ((∃ ρ', evSs Φ ir (ρA np nN dl ds) = some (.ret (.dat r.1) ρ') ∧ ρ'[0]? = some (.own r.2)) ∨
    ∃ ρ', evSs Φ ir (ρA np nN dl ds) = some (.nx ρ') ∧ LastA Φ m fz ea eb ec es it j ρ' r)
end
/-- a def of that kind -/
theorem def_okA {L : Nat} {T : Tbl} {W : Wd} {Φ : Nat → Mf} {P : Program} {w : World} {mg : Str → Option Value} {base : Heap} (g : GOk L T W Φ P w mg base) {x qual : Str} {params : Arguments} {body : List Stmt} {scope : Scope} {dvs : List V} {kws : List (Str × V)} {f : Addr} {fd : FuncData} {N ps : List Str}
    (F : FunD W.K x qual params body scope dvs kws f fd) (S : FnScope N ps scope) {nm : Str} {m m' : List D → List D → Option (D × List D)} (io : IoFn L W P w mg base nm m) {ir : Ss} {fz : List Nat} {ea eb ec : E} {es : Es} {it : It} {j : Nat} (c : chkMl T N scope (fun _ => true) (chkLastA T N scope nm ea eb ec es it j) ir body = true)
    (hm : ∀ dl ds r, m' dl ds = some r → RunA Φ m ir fz ea eb ec es it j ps.length N.length dl ds r) : FnOk P w W.K mg base CX0 (L + 1) f fd ps (spIO W m') := by
  refine F.ok S (fun vs H Q E h => ?_) (fun cdv A outer s H vs Q E hr h => ⟨tKs W Φ ir (tLastA W Φ m fz ea eb ec es it j), PSs.nox ?_, ?_⟩)
  · obtain ⟨G, p, ws, vs0, dl, ds, r, a1, a2, a3, a4, a5, a6, a7, a8⟩ := h
    have e := (hm dl ds r a7).1
    rw [a1, List.length_cons, a6.length, e]
  · have xok : ∀ {X : Cx}, XOk L T W Φ N scope (fun _ => true) X → X.prog = P → X.w = w → X.mg = mg → X.base = base → PSs X body (tKs W Φ ir (tLastA W Φ m fz ea eb ec es it j)) := fun {X} x e1 e2 e3 e4 =>
      chkMl_ok x (fun as h => lastA_ok x (by rw [e1, e2, e3, e4]; exact io) h) ir body c
    exact xok ⟨rfl, S.nd, rfl, rfl, rfl, rfl, rfl, S.kind, hr, g.fns, g.bis⟩ rfl rfl rfl rfl
  · obtain ⟨G, p, ws, vs0, dl, ds, r, a1, a2, a3, a4, a5, a6, a7, a8⟩ := h
    obtain ⟨e, run⟩ := hm dl ds r a7
    subst a1
    have hv : (V.ref p :: ws).length = ps.length := by rw [List.length_cons, a6.length, e]
    -- the entry heap without p
    let H0 : Hp := fun a => if a = p then none else H a
    have x0 : Ex H0 H := fun a o z => by
      show H a = some o
      have z : (if a = p then none else H a) = some o := z
      split at z
      · cases z
      · exact z
    have vd : Vd W H0 (ρA ps.length N.length dl ds) (L2.start N (V.ref p :: ws)) G H := by
      refine ⟨a2, ?_, fun i l v e1 e2 => ?_, fun i j q a b ne e1 e2 e3 e4 => ?_⟩
      · unfold ρA L2.start
        simp only [List.length_cons, List.length_append, List.length_map, List.length_replicate, a6.length]
        omega
      · unfold L2.start at e2
        rw [hv, List.map_cons, List.cons_append] at e2
        unfold ρA at e1
        cases i with
        | zero =>
          rw [List.getElem?_cons_zero] at e1 e2
          cases e1; cases e2
          exact ⟨p, rfl, if_pos rfl, vs0, a3, a4, a5⟩
        | succ i => 
          rw [List.getElem?_cons_succ] at e1 e2
          have := st_slot (W := W) (H0 := H0) (G := G) (H := H) a6 i l v e1 e2
          exact this
      · unfold ρA at e1 e2
        cases i with
        | zero =>
          cases j with
          | zero => exact absurd rfl ne
          | succ j => rw [List.getElem?_cons_succ] at e2; exact absurd e2 st_own
        | succ i => rw [List.getElem?_cons_succ] at e1; exact absurd e1 st_own
    have hp : (L2.start N (V.ref p :: ws))[0]? = some (some (.ref p)) := rfl
    have fin : ∀ v ρ' σ' G' H', Vd W H0 ρ' σ' G' H' → σ'[0]? = some (some (.ref p)) → ρ'[0]? = some (.own r.2) → Mv H0 G G' H' → Rep W G' v r.1 → Q v H' := fun v ρ' σ' G' H' hv' hp' ho mv rp => by
      obtain ⟨q, h1, _, us, h2, h3, h4⟩ := hv'.own ho
      rw [hp'] at h1
      cases h1
      refine a8 v G' H' us (fun a o z ne => mv.hx a o ?_) mv.gx mv.sub (fun a h z => ?_) h2 h4 rp
      · show (if a = p then none else H a) = some o
        rw [if_neg ne]; exact z
      · by_cases q : a = p
        · rw [q]; exact h3
        · refine mv.av a ?_ z
          show (if a = p then none else H a) ≠ none
          rw [if_neg q]; exact h
    rcases run with ⟨ρ', e1, e3⟩ | ⟨ρ', e1, la⟩
    · refine ⟨H0, _, G, _, p, vd, x0, hp, e1, fun v σ' G' H' hv' hp' mv ro => ?_⟩
      exact fin v ρ' σ' G' H' hv' hp' e3 mv ro
    · exact ⟨H0, _, G, _, p, vd, x0, hp, e1, fun σ' G' H' hv' hp' mv => ⟨H0, ρ', G', r, p, hv', mv.hx, hp', la, fun v ρ2 G2 H2 hv2 ho m2 rp => fin v ρ2 σ' G2 H2 hv2 hp' ho (mv.trans m2) rp⟩⟩

/-! ### a def: .., return [f(xs, ..) for k in it], xs a list of its own -/
def chkSl (T : Tbl) (N : List Str) (sc : Scope) (fb : Str → Bool) (last : List Stmt → Bool) : Ss → List Stmt → Bool
  | .nil, sts => last sts
  | .cons s r, sts => match sts with
    | st :: rest => chkS T N sc fb s st && chkSl T N sc fb last r rest
    | _ => false
def chkLastB (T : Tbl) (N : List Str) (sc : Scope) (nm : Str) (es : Es) (it : It) (i j : Nat) : List Stmt → Bool
  | [.Return (some (.ListComp el gs scope lpos)) _] => chkIoLc T N sc nm es it i j (.ListComp el gs scope lpos)
  | _ => false
def tSl (W : Wd) (Φ : Nat → Mf) (s : Ss) (u : TS) : TS := fun D σ H => ∃ H0 ρ G ρ', Vd W H0 ρ σ G H ∧ Ex H0 H ∧ evSs Φ s ρ = some (.nx ρ') ∧ ∀ σ' G' H', Vd W H0 ρ' σ' G' H' → Mv H0 G G' H' → u D σ' H'
section
variable {L : Nat} {T : Tbl} {W : Wd} {Φ : Nat → Mf} {N : List Str} {sc : Scope} {fb : Str → Bool} {X : Cx}
theorem chkSl_ok {last : List Stmt → Bool} {u : TS} (x : XOk L T W Φ N sc fb X) (hl : ∀ as, last as = true → PSs X as u) : ∀ (s : Ss) (sts : List Stmt), chkSl T N sc fb last s sts = true → PSs X sts (tSl W Φ s u)
  | .nil, sts, h => by
    unfold chkSl at h
    refine PSs.imp (hl _ h) fun D σ H z => ?_
    obtain ⟨H0, ρ, G, ρ', hv, ex, he, k⟩ := z
    cases he
    exact k σ G H hv (.refl ex hv.sub)
  | .cons s r, sts, h => by
    unfold chkSl at h
    split at h
    · rw [Bool.and_eq_true] at h
      refine PSs.imp (pss_cons (chkS_ok s _ x h.1) (chkSl_ok x hl r _ h.2)) fun D σ H z => ?_
      obtain ⟨H0, ρ, G, ρ', hv, ex, he, k⟩ := z
      unfold evSs at he
      obtain ⟨o1, e1, e2⟩ := Option.bind_eq_some_iff.mp he
      refine ⟨H0, ρ, G, o1, hv, ex, e1, ?_⟩
      cases o1 with
      | nx ρ1 => exact fun σ1 G1 H1 hv1 m1 => ⟨H0, ρ1, G1, ρ', hv1, m1.hx, e2, fun σ2 G2 H2 hv2 m2 => k σ2 G2 H2 hv2 (m1.trans m2)⟩
      | ret r ρ1 => cases e2
      | brk ρ1 => cases e2
      | ct ρ1 => cases e2
    · cases h
def tLastB (W : Wd) (Φ : Nat → Mf) (m : List D → List D → Option (D × List D)) (fz : List Nat) (es : Es) (it : It) (i j : Nat) : TS := fun D σ H => ∃ H0 ρ G res dl', Vd W H0 ρ σ G H ∧ Ex H0 H ∧ IoLc Φ m es it i j (frz fz ρ) res dl' ∧
  ∀ v G' H', Mv H0 G G' H' → ResOk W H0 G' H' (.own res) v → D.rt v H'
theorem lastB_ok {nm : Str} {m : List D → List D → Option (D × List D)} {fz : List Nat} {es : Es} {it : It} {i j : Nat} {as : List Stmt} (x : XOk L T W Φ N sc fb X) (io : IoFn L W X.prog X.w X.mg X.base nm m) (h : chkLastB T N sc nm es it i j as = true) :
    PSs X as (tLastB W Φ m fz es it i j) := by
  unfold chkLastB at h
  split at h
  · refine PSs.imp (pss_one (ps_ret (ioLc_ok x io h))) fun D σ H z => ?_
    obtain ⟨H0, ρ, G, res, dl', hv, ex, ⟨ni, items, ds, dl, i1, i2, i3, i4⟩, k⟩ := z
    obtain ⟨G1, hf, m1⟩ := hv.frz ex fz
    obtain ⟨p, hp, _⟩ := hf.own i2
    exact lcIO hf ex i1 i2 hp (List.mem_singleton.mpr rfl) (fun z => ni (List.mem_singleton.mp z)) i3 i4 fun Dl G5 H5 hv5 m5 ow fr => k _ G5 H5 (m1.trans m5) ⟨Dl, rfl, ex.free fr, ow⟩
  · cases h
def RunB (Φ : Nat → Mf) (m : List D → List D → Option (D × List D)) (ir : Ss) (fz : List Nat) (es : Es) (it : It) (i j np nN : Nat) (ds : List D) (res : List D) : Prop :=
  ds.length = np ∧ ∃ ρ' dl', evSs Φ ir (ds.map .dat ++ List.replicate (nN - np) .un) = some (.nx ρ') ∧ IoLc Φ m es it i j (frz fz ρ') res dl'
end
theorem def_okB {L : Nat} {T : Tbl} {W : Wd} {Φ : Nat → Mf} {P : Program} {w : World} {mg : Str → Option Value} {base : Heap} (g : GOk L T W Φ P w mg base) {x qual : Str} {params : Arguments} {body : List Stmt} {scope : Scope} {dvs : List V} {kws : List (Str × V)} {f : Addr} {fd : FuncData} {N ps : List Str}
    (F : FunD W.K x qual params body scope dvs kws f fd) (S : FnScope N ps scope) {nm : Str} {m : List D → List D → Option (D × List D)} {m' : Mf} (io : IoFn L W P w mg base nm m) {ir : Ss} {fz : List Nat} {es : Es} {it : It} {i j : Nat} (c : chkSl T N scope (fun _ => true) (chkLastB T N scope nm es it i j) ir body = true)
    (hm : ∀ ds r, m' ds = some r → ∃ res, r = .own res ∧ RunB Φ m ir fz es it i j ps.length N.length ds res) : FnOk P w W.K mg base CX0 (L + 1) f fd ps (spD W m') := by
  refine F.ok S (fun vs H Q E h => ?_) (fun cdv A outer s H vs Q E hr h => ⟨tSl W Φ ir (tLastB W Φ m fz es it i j), PSs.nox ?_, ?_⟩)
  · obtain ⟨G, ds, r, ex, rx, e, k⟩ := h
    obtain ⟨res, e1, e2, _⟩ := hm ds r e
    rw [rx.length, e2]
  · have xok : ∀ {X : Cx}, XOk L T W Φ N scope (fun _ => true) X → X.prog = P → X.w = w → X.mg = mg → X.base = base → PSs X body (tSl W Φ ir (tLastB W Φ m fz es it i j)) := fun {X} x e1 e2 e3 e4 =>
      chkSl_ok x (fun as h => lastB_ok x (by rw [e1, e2, e3, e4]; exact io) h) ir body c
    exact xok ⟨rfl, S.nd, rfl, rfl, rfl, rfl, rfl, S.kind, hr, g.fns, g.bis⟩ rfl rfl rfl rfl
  · obtain ⟨G, ds, r, ex, rx, e, k⟩ := h
    obtain ⟨res, e1, hl, ρ', dl', h1, lc⟩ := hm ds r e
    subst e1
    have hv : vs.length = ps.length := by rw [rx.length, hl]
    have vd : Vd W H (ds.map .dat ++ List.replicate (N.length - ps.length) .un) (L2.start N vs) G H := by
      refine ⟨ex, ?_, fun i l v e1 e2 => ?_, fun i j p a b ne e1 _ _ => absurd e1 st_own⟩
      · unfold L2.start
        rw [List.length_append, List.length_append, List.length_map, List.length_map, List.length_replicate, List.length_replicate, rx.length, hl]
      · unfold L2.start at e2
        rw [hv] at e2
        exact st_slot rx i l v e1 e2
    exact ⟨H, _, G, _, vd, .refl H, h1, fun σ' G' H' hv' mv => ⟨H, ρ', G', res, dl', hv', mv.hx, lc, fun v G2 H2 m2 ro => k v G2 H2 (have m := mv.trans m2; ⟨m.hx, m.gx, m.sub, m.av⟩) ro⟩⟩
end PD

set_option Elab.async false
set_option linter.all false
set_option maxRecDepth 100000
set_option maxHeartbeats 4000000
/-! PD14: a calculus of weakest preconditions over statements of the intermediate form. -/
namespace PD
open PySem PySem.Spec PyProof.Rows L2
structure Post where
  nx : Env → Prop
  rt : Sl → Env → Prop
  ct : Env → Prop := fun _ => False
  bk : Env → Prop := fun _ => False
def Post.holds (K : Post) : Out → Prop
  | .nx ρ => K.nx ρ
  | .ret r ρ => K.rt r ρ
  | .brk ρ => K.bk ρ
  | .ct ρ => K.ct ρ
def wp (Φ : Nat → Mf) (ss : Ss) (ρ : Env) (K : Post) : Prop := ∃ o, evSs Φ ss ρ = some o ∧ K.holds o
section
variable {Φ : Nat → Mf} {ρ ρ1 : Env} {K : Post} {ss sa sb body : Ss} {e c : E} {r : Sl} {d : D} {tg : Tg} {it : It} {fz : List Nat} {l : List D} {k : Bool} {i : Int}
theorem wp_nil (h : K.nx ρ) : wp Φ .nil ρ K := ⟨_, rfl, h⟩
theorem wp_nx {s : S} (h : evS Φ s ρ = some (.nx ρ1)) (k : wp Φ ss ρ1 K) : wp Φ (.cons s ss) ρ K := by
  obtain ⟨o, h1, h2⟩ := k
  exact ⟨o, ss_nx h h1, h2⟩
theorem wp_asg (h : evE Φ e (frz fz ρ) = some r) (hs : storeT tg r (frz fz ρ) = some ρ1) (k : wp Φ ss ρ1 K) : wp Φ (.cons (.asg fz tg e) ss) ρ K := wp_nx (s_asg h hs) k
theorem wp_asgB (h : toDo (evE Φ e (frz fz ρ)) = some d) (hd : scalar d = true) (hs : bindT tg d ρ = some ρ1) (k : wp Φ ss ρ1 K) : wp Φ (.cons (.asgB fz tg e) ss) ρ K := wp_nx (s_asgB h hd hs) k
theorem wp_app {n : Nat} (h : toDo (evE Φ e (frz fz ρ)) = some d) (hn : (frz fz ρ)[n]? = some (.own l)) (hl : l.length < LIM) (k : wp Φ ss ((frz fz ρ).set n (.own (l ++ [d]))) K) : wp Φ (.cons (.app n fz e) ss) ρ K := wp_nx (s_app h hn hl) k
theorem wp_popTo {t n : Nat} (h : ρ[n]? = some (.own l)) (ht : t ≠ n) (hd : l[l.length - 1]? = some d) (k : wp Φ ss ((ρ.set n (.own l.dropLast)).set t (.dat d)) K) : wp Φ (.cons (.popTo t n) ss) ρ K := wp_nx (s_popTo h ht hd) k
theorem wp_ret (h : evE Φ e (frz fz ρ) = some r) (k : K.rt r (frz fz ρ)) : wp Φ (.cons (.ret fz e) ss) ρ K := ⟨_, ss_ret (s_ret h), k⟩
theorem wp_retS {n : Nat} (h : ρ[n]? = some (.own l)) (k : K.rt (.own l) (ρ.set n .un)) : wp Φ (.cons (.retS n) ss) ρ K := ⟨_, ss_ret (s_retS h), k⟩
theorem wp_retN (k : K.rt (.dat .non) ρ) : wp Φ (.cons .retN ss) ρ K := ⟨_, ss_ret s_retN, k⟩
theorem wp_pass (k : wp Φ ss ρ K) : wp Φ (.cons .pass ss) ρ K := wp_nx rfl k
theorem wp_brk (k : K.bk ρ) : wp Φ (.cons .brk ss) ρ K := ⟨.brk ρ, rfl, k⟩
theorem wp_cont (k : K.ct ρ) : wp Φ (.cons .cont ss) ρ K := ⟨.ct ρ, rfl, k⟩
theorem wp_seq {s : S} {o : Out} (h : evS Φ s ρ = some o) (k : Post.holds { K with nx := fun ρ1 => wp Φ ss ρ1 K } o) : wp Φ (.cons s ss) ρ K := by
  cases o with
  | nx ρ1 => exact wp_nx h k
  | ret r ρ1 => exact ⟨_, ss_ret h, k⟩
  | brk ρ1 => exact ⟨_, ss_out h (fun _ z => by cases z), k⟩
  | ct ρ1 => exact ⟨_, ss_out h (fun _ z => by cases z), k⟩
theorem wp_if (h : ofB (evE Φ c (frz fz ρ)) = some k) (h1 : k = true → wp Φ sa ρ { K with nx := fun ρ1 => wp Φ ss ρ1 K }) (h2 : k = false → wp Φ sb ρ { K with nx := fun ρ1 => wp Φ ss ρ1 K }) : wp Φ (.cons (.if_ fz c sa sb) ss) ρ K := by
  cases k with
  | true =>
    obtain ⟨o, e1, e2⟩ := h1 rfl
    exact wp_seq (s_ifT h e1) e2
  | false =>
    obtain ⟨o, e1, e2⟩ := h2 rfl
    exact wp_seq (s_ifF h e1) e2
theorem wp_ifT (h : ofB (evE Φ c (frz fz ρ)) = some k) (hk : k = true) (h1 : wp Φ sa ρ { K with nx := fun ρ1 => wp Φ ss ρ1 K }) : wp Φ (.cons (.if_ fz c sa sb) ss) ρ K := wp_if h (fun _ => h1) (fun z => by rw [z] at hk; cases hk)
theorem wp_ifF (h : ofB (evE Φ c (frz fz ρ)) = some k) (hk : k = false) (h1 : wp Φ sb ρ { K with nx := fun ρ1 => wp Φ ss ρ1 K }) : wp Φ (.cons (.if_ fz c sa sb) ss) ρ K := wp_if h (fun z => by rw [z] at hk; cases hk) (fun _ => h1)
/-- an if with no else, not taken -/
theorem wp_no (h : ofB (evE Φ c (frz fz ρ)) = some k) (hk : k = false) (h1 : wp Φ ss ρ K) : wp Φ (.cons (.if_ fz c sa .nil) ss) ρ K := wp_ifF h hk (wp_nil h1)
theorem wp_evFor (I : Nat → Env → Prop) : ∀ {items : List D} {ρ : Env} (k0 : Nat), I k0 ρ → (∀ k d ρ, items[k]? = some d → I (k0 + k) ρ → ∃ ρ1, bindT tg d ρ = some ρ1 ∧ wp Φ body ρ1 ⟨I (k0 + k + 1), K.rt, I (k0 + k + 1), fun ρ' => wp Φ ss ρ' K⟩) → (∀ ρ', I (k0 + items.length) ρ' → wp Φ ss ρ' K) →
    ∃ o, evFor (evSs Φ body) tg items ρ = some o ∧ Post.holds { K with nx := fun ρ1 => wp Φ ss ρ1 K } o
  | [], ρ, k0, h0, _, hk => ⟨_, rfl, hk ρ h0⟩
  | d :: ds, ρ, k0, h0, hs, hk => by
    obtain ⟨ρ1, h1, o, h2, h3⟩ := hs 0 d ρ rfl h0
    have ih := fun ρ2 h3 => wp_evFor I (items := ds) (ρ := ρ2) (k0 + 1) h3 (fun k d' ρ'' e i => by
      have := hs (k + 1) d' ρ'' (by simpa using e) (by rwa [show k0 + (k + 1) = k0 + 1 + k by omega])
      rwa [show k0 + (k + 1) + 1 = k0 + 1 + k + 1 by omega] at this) (fun ρ' z => hk ρ' (by rw [List.length_cons, show k0 + (ds.length + 1) = k0 + 1 + ds.length by omega]; exact z))
    unfold evFor
    rw [h1]
    show ∃ o, ((evSs Φ body ρ1).bind _) = some o ∧ _
    rw [h2]
    cases o with
    | nx ρ2 => exact ih ρ2 h3
    | ct ρ2 => exact ih ρ2 h3
    | brk ρ2 => exact ⟨_, rfl, h3⟩
    | ret r ρ2 => exact ⟨_, rfl, h3⟩
theorem wp_for {items : List D} (I : Nat → Env → Prop) (hi : evI Φ it (frz fz ρ) = some items) (h0 : I 0 (frz fz ρ)) (hs : ∀ k d ρ, items[k]? = some d → I k ρ → ∃ ρ1, bindT tg d ρ = some ρ1 ∧ wp Φ body ρ1 ⟨I (k + 1), K.rt, I (k + 1), fun ρ' => wp Φ ss ρ' K⟩) (hk : ∀ ρ', I items.length ρ' → wp Φ ss ρ' K) : wp Φ (.cons (.for_ fz tg it body) ss) ρ K := by
  obtain ⟨o, e1, e2⟩ := wp_evFor (K := K) (ss := ss) (body := body) (tg := tg) (Φ := Φ) I (items := items) (ρ := frz fz ρ) 0 h0 (fun k d ρ e i => by rw [Nat.zero_add]; rw [Nat.zero_add] at i; exact hs k d ρ e i) (fun ρ' z => by rw [Nat.zero_add] at z; exact hk ρ' z)
  exact wp_seq (s_for hi e1) e2
theorem run_wp {np nN : Nat} {ir : Ss} {ds : List D} (hl : ds.length = np) (h : wp Φ ir (ds.map .dat ++ List.replicate (nN - np) .un) ⟨fun _ => r = .dat .non, fun r' _ => r' = r, fun _ => False, fun _ => False⟩) : runD Φ np nN ir ds = some r := by
  unfold runD
  obtain ⟨o, h1, h2⟩ := h
  rw [if_pos hl, h1]
  cases o with
  | nx ρ => have h2 : r = .dat .non := h2; rw [h2]
  | ret r' ρ => have h2 : r' = r := h2; rw [h2]
  | brk ρ => exact h2.elim
  | ct ρ => exact h2.elim
/-! lengths -/
theorem bi_lenL {n : Nat} (h : l.length = n) : vBi .len [.lst l] = some (.dat (.int (n : Nat))) := by subst h; rfl
theorem bi_lenT {n : Nat} (h : l.length = n) : vBi .len [.tup l] = some (.dat (.int (n : Nat))) := by subst h; rfl
theorem bi_lenF {n : Nat} (h : l.length = n) : vBi .len [.fl l] = some (.dat (.int (n : Nat))) := by subst h; rfl
theorem ev_lenS' {m n : Nat} (h : ρ[m]? = some (.own l)) (hl : l.length = n) : evE Φ (.lenS m) ρ = some (.dat (.int (n : Nat))) := by subst hl; exact ev_lenS h
theorem wp_mono {K' : Post} (h : wp Φ ss ρ K) (h1 : ∀ ρ, K.nx ρ → K'.nx ρ) (h2 : ∀ r ρ, K.rt r ρ → K'.rt r ρ) (h3 : ∀ ρ, K.ct ρ → K'.ct ρ) (h4 : ∀ ρ, K.bk ρ → K'.bk ρ) : wp Φ ss ρ K' := by
  obtain ⟨o, e, h⟩ := h
  refine ⟨o, e, ?_⟩
  cases o with
  | nx ρ => exact h1 ρ h
  | ret r ρ => exact h2 r ρ h
  | brk ρ => exact h4 ρ h
  | ct ρ => exact h3 ρ h
end
end PD

set_option Elab.async false
set_option linter.all false
set_option maxRecDepth 100000
set_option maxHeartbeats 4000000
/-! PD15: defs that all laws share: mixed, draws, same. -/
namespace PD
open PySem PySem.Spec PyProof.Rows L2
local macro_rules | `(tactic| walk_at "gd") => `(tactic| first
  | assumption
  | omega
  | (simp only [LIM, List.length_cons, List.length_nil, List.length_map, List.length_append, List.length_replicate, rngI_len, rngD_len, rngG, List.length_dropLast]; omega)
  | (simp only [LIM, List.length_cons, List.length_nil, List.length_map, List.length_append, List.length_replicate, rngI_len, rngD_len, rngG, List.length_dropLast]; done)
  | decide)
local macro_rules | `(tactic| walk_at "cl") => `(tactic| assumption)
local macro_rules | `(tactic| walk_at "ix") => `(tactic| first
  | assumption
  | exact rfl
  | (apply at_map; (· walk_at "gd"); (· assumption)))
local macro_rules | `(tactic| walk_at "vb") => `(tactic| first
  | (apply vb_mul; walk_at "gd")
  | (apply vb_fdiv; walk_at "gd")
  | (apply vb_mod; walk_at "gd")
  | (apply vb_pow; walk_at "gd")
  | (apply vb_catT; walk_at "gd")
  | (apply vb_catL; walk_at "gd")
  | (apply vb_rep; walk_at "gd")
  | exact rfl)
local macro_rules | `(tactic| walk_at "td") => `(tactic| (apply td; (· walk_at "ev"); (· exact rfl)))
local macro_rules | `(tactic| walk_at "es") => `(tactic| first
  | exact es_nil
  | (apply es_cons; (· walk_at "td"); (· walk_at "es")))
local macro_rules | `(tactic| walk_at "eo") => `(tactic| first
  | exact eo_no
  | (apply eo_yes; walk_at "td"))
local macro_rules | `(tactic| walk_at "ob") => `(tactic| (apply ob; walk_at "ev"))
local macro_rules | `(tactic| walk_at "vc") => `(tactic| first | assumption | exact rfl)
local macro_rules | `(tactic| walk_at "ln") => `(tactic| first
  | ((try simp only [List.length_cons, List.length_nil, List.length_map, List.length_append, List.length_replicate, rngI_len, rngD_len, List.length_dropLast, List.length_range]); exact rfl)
  | assumption)
local macro_rules | `(tactic| walk_at "bi") => `(tactic| first
  | (apply bi_lenL; walk_at "ln")
  | (apply bi_lenT; walk_at "ln")
  | (apply bi_lenF; walk_at "ln")
  | exact rfl | assumption)
local macro_rules | `(tactic| walk_at "ev") => `(tactic| first
  | exact ev_lit
  | exact ev_slot rfl
  | (apply ev_bin; (· walk_at "td"); (· walk_at "td"); (· walk_at "vb"))
  | (apply ev_bi; (· walk_at "es"); (· walk_at "bi"))
  | (apply ev_call; (· walk_at "es"); (· walk_at "cl"))
  | (apply ev_idx; (· walk_at "td"); (· walk_at "td"); (· first | (apply ix_l; walk_at "ix") | (apply ix_t; walk_at "ix") | (apply ix_f; walk_at "ix")))
  | (apply ev_isi; (· walk_at "td"); (· exact rfl))
  | (apply ev_cmp; (· walk_at "td"); (· walk_at "td"); (· walk_at "vc"))
  | (apply ev_chain; (· walk_at "td"); (· walk_at "td"); (· walk_at "td"); (· walk_at "vc"); (· walk_at "vc"))
  | (apply ev_not; walk_at "ob")
  | (apply ev_and; (· walk_at "ob"); (· intro _; walk_at "ob"))
  | (apply ev_or; (· walk_at "ob"); (· intro _; walk_at "ob"))
  | (apply ev_lenS'; (· exact rfl); (· walk_at "ln"))
  | (apply ev_idxS; (· exact rfl); (· walk_at "td"); (· walk_at "ix"))
  | (apply ev_tup; (· walk_at "es"); (· walk_at "gd"))
  | (apply ev_lst; (· walk_at "es"); (· walk_at "gd"))
  | (apply ev_slice; (· walk_at "td"); (· walk_at "eo"); (· walk_at "eo"); (· exact rfl))
  | (apply ev_neg; walk_at "td")
  | (apply ev_listr1; (· walk_at "td"); (· walk_at "gd"))
  | (apply ev_listr2; (· walk_at "td"); (· walk_at "td"); (· walk_at "gd"))
  | (apply ev_callk; (· walk_at "es"); (· walk_at "es"); (· walk_at "cl"))
  | assumption)
local macro_rules | `(tactic| walk_at "asg") => `(tactic| (apply wp_asg; (· walk_at "ev"); (· exact rfl)))
local macro_rules | `(tactic| walk_at "app") => `(tactic| (apply wp_app; (· walk_at "td"); (· exact rfl); (· walk_at "gd")))
local macro_rules | `(tactic| walk_at "ret") => `(tactic| (apply wp_ret; (· walk_at "ev")))
local macro_rules | `(tactic| walk_at "if") => `(tactic| (apply wp_if; (· walk_at "ob")))
local macro_rules | `(tactic| walk_at "tt") => `(tactic| first | exact rfl | assumption | (simp; done) | (simp; omega))
local macro_rules | `(tactic| walk_at "no") => `(tactic| (apply wp_no; (· walk_at "ob"); (· walk_at "tt")))
local macro_rules | `(tactic| walk_at "yes") => `(tactic| (apply wp_ifT; (· walk_at "ob"); (· walk_at "tt")))
local macro_rules | `(tactic| walk_at "it") => `(tactic| first
  | (apply it_rng1; (· walk_at "td"); (· walk_at "gd"))
  | (apply it_rng2; (· walk_at "td"); (· walk_at "td"); (· walk_at "gd"))
  | (apply it_seq; (· walk_at "td"); (· first | (apply seq_lst; walk_at "gd") | (apply seq_tup; walk_at "gd") | (apply seq_fl; walk_at "gd"))))
/-! ### data that == tells equal to themselves -/
def good : Nat → D → Prop
  | 0, d => match d with
    | .non => True | .bl _ => True | .int _ => True | .str x => PyData.strOk x = true | _ => False
  | n + 1, d => match d with
    | .non => True | .bl _ => True | .int _ => True | .str x => PyData.strOk x = true
    | .tup l => l.length ≤ LIM ∧ ∀ x ∈ l, good n x
    | .lst l => l.length ≤ LIM ∧ ∀ x ∈ l, good n x
    | _ => False
theorem good_up : ∀ {n : Nat} {d : D}, good n d → good (n + 1) d
  | 0, .non, _ => trivial
  | 0, .bl _, _ => trivial
  | 0, .int _, _ => trivial
  | 0, .str _, h => h
  | n + 1, .non, _ => trivial
  | n + 1, .bl _, _ => trivial
  | n + 1, .int _, _ => trivial
  | n + 1, .str _, h => h
  | n + 1, .tup l, h => ⟨h.1, fun x hx => good_up (h.2 x hx)⟩
  | n + 1, .lst l, h => ⟨h.1, fun x hx => good_up (h.2 x hx)⟩
theorem good_le {n m : Nat} {d : D} (h : good n d) (l : n ≤ m) : good m d := by
  induction l with
  | refl => exact h
  | step _ ih => exact good_up ih
theorem good_all : ∀ {n : Nat} {l : List D}, (∀ x ∈ l, (x.py.canLay0 = true ∧ x.py.depth ≤ n)) → PyData.canLayAll0 (D.pys l) = true ∧ PyData.depthAll (D.pys l) ≤ n
  | n, [], _ => ⟨rfl, Nat.zero_le _⟩
  | n, x :: l, h => by
    obtain ⟨h1, h2⟩ := h x List.mem_cons_self
    obtain ⟨h3, h4⟩ := good_all (l := l) fun y hy => h y (List.mem_cons_of_mem _ hy)
    simp only [D.pys, PyData.canLayAll0, PyData.depthAll, h1, h3, Bool.and_self, true_and]
    exact Nat.max_le.mpr ⟨h2, h4⟩
theorem good_lay : ∀ {n : Nat} {d : D}, good n d → d.py.canLay0 = true ∧ d.py.depth ≤ n
  | n, .non, _ => ⟨rfl, Nat.zero_le _⟩
  | n, .bl _, _ => ⟨rfl, Nat.zero_le _⟩
  | n, .int _, _ => ⟨rfl, Nat.zero_le _⟩
  | 0, .str _, h => ⟨h, Nat.zero_le _⟩
  | n + 1, .str _, h => ⟨h, Nat.zero_le _⟩
  | 0, .tup _, h => h.elim
  | 0, .lst _, h => h.elim
  | 0, .fl _, h => h.elim
  | 0, .ins _ _, h => h.elim
  | n + 1, .fl _, h => h.elim
  | n + 1, .ins _ _, h => h.elim
  | n + 1, .tup l, h => by
    obtain ⟨h1, h2⟩ := good_all (n := n) fun x hx => good_lay (h.2 x hx)
    refine ⟨?_, ?_⟩
    · simp only [D.py, PyData.canLay0]; exact h1
    · simp only [D.py, PyData.depth]; omega
  | n + 1, .lst l, h => by
    obtain ⟨h1, h2⟩ := good_all (n := n) fun x hx => good_lay (h.2 x hx)
    refine ⟨?_, ?_⟩
    · simp only [D.py, PyData.canLay0]; exact h1
    · simp only [D.py, PyData.depth]; omega
theorem vEq_self {n : Nat} {d : D} (h : good n d) (hn : n ≤ 64) : vEq d d = some true := by
  obtain ⟨h1, h2⟩ := good_lay h
  have s : SeqAt.shaped d.py = true := by
    unfold SeqAt.shaped
    rw [h1]
    simp only [Bool.true_and, decide_eq_true_eq]
    omega
  unfold vEq
  rw [SeqAt.eqv_refl d.py h1]
  exact guardO_pos ⟨s, s⟩
theorem vcmp_eq_self {n : Nat} {d : D} (h : good n d) (hn : n ≤ 64) : vCmp .eq d d = some true := by
  have := vEq_self h hn
  cases d <;> first | exact this | (simp [vCmp]; done) | (simp [vCmp]; exact this)
theorem vcmp_ne_self {n : Nat} {d : D} (h : good n d) (hn : n ≤ 64) : vCmp .ne d d = some false := by
  have := vEq_self h hn
  cases d <;> first | (show (vEq _ _).map _ = _; rw [this]; rfl) | (simp [vCmp]; done) | (simp [vCmp]; exact this)

/-! ### _law_mixed, _law_draws -/
def mixed (s k : Int) : Int :=
  let first := (s * 48271 + k * 69621 + 12345) % 2147483647
  let second := (first * first + k * 40014 + first / 65536) % 2147483563
  ((second / 7 + k) * (second % 65537 + 3)) % 2147483629
def ir_mixed : Ss :=
    (.cons (.asg [] (.name 2) (.bin .mod (.bi .int_ (.cons (.bin .add (.bin .add (.bin .mul (.slot 0) (.lit (.int 48271))) (.bin .mul (.slot 1) (.lit (.int 69621)))) (.lit (.int 12345))) .nil)) (.lit (.int 2147483647))))
      (.cons (.asg [] (.name 3) (.bin .mod (.bi .int_ (.cons (.bin .add (.bin .add (.bin .mul (.slot 2) (.slot 2)) (.bin .mul (.slot 1) (.lit (.int 40014)))) (.bin .fdiv (.slot 2) (.lit (.int 65536)))) .nil)) (.lit (.int 2147483563))))
      (.cons (.ret [] (.bin .mod (.bi .int_ (.cons (.bin .mul (.bin .add (.bin .fdiv (.slot 3) (.lit (.int 7))) (.slot 1)) (.bin .add (.bin .mod (.bi .int_ (.cons (.slot 3) .nil)) (.lit (.int 65537))) (.lit (.int 3)))) .nil)) (.lit (.int 2147483629))))
      .nil)))
theorem run_mixed {Φ : Nat → Mf} (s k : Int) (h0 : 0 ≤ k) (h1 : k ≤ 1000000) : runD Φ 2 4 ir_mixed [.int s, .int k] = some (.dat (.int (mixed s k))) := by
  have f1 := Int.emod_nonneg (s * 48271 + k * 69621 + 12345) (show (2147483647 : Int) ≠ 0 by decide)
  have f2 := Int.emod_lt_of_pos (s * 48271 + k * 69621 + 12345) (show (0 : Int) < 2147483647 by decide)
  have g1 := fun first : Int => Int.emod_nonneg (first * first + k * 40014 + first / 65536) (show (2147483563 : Int) ≠ 0 by decide)
  have g2 := fun first : Int => Int.emod_lt_of_pos (first * first + k * 40014 + first / 65536) (show (0 : Int) < 2147483563 by decide)
  apply run_wp (np := 2) (ds := [.int s, .int k]) rfl
  walk_at "asg"
  have g1 := g1 ((s * 48271 + k * 69621 + 12345) % 2147483647)
  have g2 := g2 ((s * 48271 + k * 69621 + 12345) % 2147483647)
  walk_at "asg"
  walk_at "ret"
  rfl
noncomputable def m_mixed : Mf := fn2 (fun (s k : Int) => 0 ≤ k ∧ k ≤ 1000000) fun s k => .dat (.int (mixed s k))
theorem m_mixed_at {s k : Int} (h : 0 ≤ k ∧ k ≤ 1000000) : m_mixed [.int s, .int k] = some (.dat (.int (mixed s k))) := fn2_at (a := s) (b := k) (p := fun (s k : Int) => 0 ≤ k ∧ k ≤ 1000000) h
theorem mixed_run {Φ : Nat → Mf} : ∀ ds r, m_mixed ds = some r → runD Φ 2 4 ir_mixed ds = some r := fun ds r h => by
  obtain ⟨s, k, rfl, hh, rfl⟩ := fn2_inv h
  exact run_mixed s k hh.1 hh.2
def draws (cell : Int) : Int → Nat → List Int → List Int
  | _, _, [] => []
  | rest, k, b :: bs => if 1000000000000000000 ≤ cell ∧ 0 < rest then rest % b :: draws cell (rest / b) (k + 1) bs else mixed cell k % b :: draws cell rest (k + 1) bs
theorem draws_len (cell : Int) : ∀ (bs : List Int) (rest : Int) (k : Nat), (draws cell rest k bs).length = bs.length
  | [], _, _ => rfl
  | b :: bs, rest, k => by
    unfold draws
    split <;> (rw [List.length_cons, List.length_cons, draws_len])
/-- every draw lies below its bound -/
theorem draws_lt (cell : Int) : ∀ (bs : List Int) (rest : Int) (k : Nat), (∀ b ∈ bs, 0 < b) → ∀ (i : Nat) (b d : Int), bs[i]? = some b → (draws cell rest k bs)[i]? = some d → 0 ≤ d ∧ d < b
  | [], _, _, _, i, b, d, h, _ => by cases h
  | b :: bs, rest, k, hp, i, c, d, h, e => by
    have hb := hp b List.mem_cons_self
    have ih := fun rest => draws_lt cell bs rest (k + 1) fun x hx => hp x (List.mem_cons_of_mem _ hx)
    unfold draws at e
    split at e <;> (cases i with
      | zero =>
        rw [List.getElem?_cons_zero] at h e
        cases h; cases e
        exact ⟨Int.emod_nonneg _ (by omega), Int.emod_lt_of_pos _ hb⟩
      | succ i =>
        rw [List.getElem?_cons_succ] at h e
        exact ih _ i c d h e)
def ir_draws (n : Nat) : Ss :=
    (.cons (.asg [] (.name 2) (.lst .nil))
      (.cons (.asg [] (.name 3) (.slot 0))
      (.cons (.for_ [] (.name 4) (.rng1 (.bi .len (.cons (.slot 1) .nil)))
      (.cons (.if_ [] (.and_ (.cmp .ge (.slot 0) (.bin .pow (.lit (.int 10)) (.lit (.int 18)))) (.cmp .gt (.slot 3) (.lit (.int 0))))
      (.cons (.app 2 [] (.bin .mod (.bi .int_ (.cons (.slot 3) .nil)) (.idx (.slot 1) (.slot 4))))
      (.cons (.asg [] (.name 3) (.bin .fdiv (.slot 3) (.idx (.slot 1) (.slot 4))))
      .nil))
      (.cons (.app 2 [] (.bin .mod (.bi .int_ (.cons (.call n (.cons (.slot 0) (.cons (.slot 4) .nil))) .nil)) (.idx (.slot 1) (.slot 4))))
      .nil))
      .nil))
      (.cons (.retS 2)
      .nil))))
noncomputable def m_draws : Mf := fn2 (fun (cell : Int) (b : List Int) => b.length ≤ 100000 ∧ ∀ x ∈ b, 0 < x ∧ x < 1073741824) fun cell b => .own ((draws cell cell 0 b).map .int)
theorem m_draws_at {c : Int} {b : List Int} (h : b.length ≤ 100000 ∧ ∀ x ∈ b, 0 < x ∧ x < 1073741824) : m_draws [.int c, .lst (b.map .int)] = some (.own ((draws c c 0 b).map .int)) := fn2_at (a := c) (b := b) (p := fun (cell : Int) (b : List Int) => b.length ≤ 100000 ∧ ∀ x ∈ b, 0 < x ∧ x < 1073741824) h
theorem run_draws {n : Nat} {Φ : Nat → Mf} (hΦ : Φ n = m_mixed) (c : Int) (b : List Int) (h1 : b.length ≤ 100000) (h2 : ∀ x ∈ b, 0 < x ∧ x < 1073741824) : runD Φ 2 5 (ir_draws n) [.int c, .lst (b.map .int)] = some (.own ((draws c c 0 b).map .int)) := by
  apply run_wp (np := 2) (ds := [.int c, .lst (b.map .int)]) rfl
  walk_at "asg"
  walk_at "asg"
  refine wp_for (items := (rngI 0 (b.length : Nat)).map D.int) (fun k ρ => ∃ found rest s, ρ = [.dat (.int c), .dat (.lst (b.map .int)), .own (List.map D.int found), .dat (.int rest), s] ∧ found.length = k ∧ k ≤ b.length ∧ found ++ draws c rest k (b.drop k) = draws c c 0 b) ?_ ⟨[], c, .un, rfl, rfl, Nat.zero_le _, rfl⟩ (fun k d ρ e h => ?_) (fun ρ' h => ?_)
  · rw [← rngD_eq]; walk_at "it"
  · obtain ⟨found, rest, s, rfl, hl, hk, hd⟩ := h
    rw [List.getElem?_map] at e
    obtain ⟨x, e1, rfl⟩ := Option.map_eq_some_iff.mp e
    have hk' : k < b.length := by
      have := (List.getElem?_eq_some_iff.mp e1).1
      rw [rngI_len] at this; omega
    rw [rngI_get (by omega)] at e1
    cases e1
    have hb : b[k]? = some b[k] := List.getElem?_eq_getElem hk'
    have hbb := h2 b[k] (List.getElem_mem hk')
    rw [List.drop_eq_getElem_cons hk'] at hd
    have ix : atI (b.map D.int) (0 + (k : Int)) = some (.int b[k]) := at_map (by omega) (by rw [show (0 + (k : Int)).toNat = k by omega]; exact hb)
    refine ⟨_, rfl, ?_⟩
    have hdm : draws c rest k (b[k] :: b.drop (k + 1)) = if 1000000000000000000 ≤ c ∧ 0 < rest then rest % b[k] :: draws c (rest / b[k]) (k + 1) (b.drop (k + 1)) else mixed c k % b[k] :: draws c rest (k + 1) (b.drop (k + 1)) := by rw [draws]
    rw [hdm] at hd
    apply wp_if
    · walk_at "ob"
    · intro hc
      have hc' : 1000000000000000000 ≤ c ∧ 0 < rest := by simpa using hc
      rw [if_pos hc'] at hd
      walk_at "app"
      walk_at "asg"
      refine wp_nil (wp_nil ⟨found ++ [rest % b[k]], rest / b[k], _, by rw [List.map_append]; rfl, by rw [List.length_append, hl]; rfl, hk', by rw [List.append_assoc]; exact hd⟩)
    · intro hc
      have hc' : ¬ (1000000000000000000 ≤ c ∧ 0 < rest) := fun z => by
        have : (decide ((10 : Int) ^ (18 : Int).toNat ≤ c) && decide (0 < rest)) = true := by simpa using z
        rw [this] at hc
        cases hc
      rw [if_neg hc'] at hd
      have cl : Φ n [.int c, .int (0 + (k : Int))] = some (.dat (.int (mixed c k))) := by rw [hΦ, show (0 + (k : Int)) = k by omega]; exact m_mixed_at (by omega)
      walk_at "app"
      refine wp_nil (wp_nil ⟨found ++ [mixed c k % b[k]], rest, _, by rw [List.map_append]; rfl, by rw [List.length_append, hl]; rfl, hk', by rw [List.append_assoc]; exact hd⟩)
  · obtain ⟨found, rest, s, rfl, hl, hk, hd⟩ := h
    rw [List.length_map, rngI_len] at hd hl
    refine wp_retS rfl ?_
    rw [show ((b.length : Nat) - (0 : Int)).toNat = b.length by omega, List.drop_length] at hd
    have e : draws c rest b.length [] = [] := by rw [draws]
    rw [e, List.append_nil] at hd
    show Sl.own _ = Sl.own _
    rw [hd]
theorem draws_run {n : Nat} {Φ : Nat → Mf} (hΦ : Φ n = m_mixed) : ∀ ds r, m_draws ds = some r → runD Φ 2 5 (ir_draws n) ds = some r := fun ds r h => by
  obtain ⟨c, b, rfl, hh, rfl⟩ := fn2_inv h
  exact run_draws hΦ c b hh.1 hh.2

/-! ### _law_same -/
def ir_same (n : Nat) : Ss :=
    (.cons (.if_ [] (.cmp .is_ (.slot 1) (.lit .non))
      (.cons (.ret [] (.cmp .is_ (.slot 0) (.lit .non)))
      .nil)
      .nil)
      (.cons (.if_ [] (.isi (.slot 1) "bool")
      (.cons (.ret [] (.and_ (.isi (.slot 0) "bool") (.cmp .eq (.slot 0) (.slot 1))))
      .nil)
      .nil)
      (.cons (.if_ [] (.isi (.slot 1) "int")
      (.cons (.ret [] (.and_ (.isi (.slot 0) "int") (.and_ (.not_ (.isi (.slot 0) "bool")) (.cmp .eq (.slot 0) (.slot 1)))))
      .nil)
      .nil)
      (.cons (.if_ [] (.isi (.slot 1) "str")
      (.cons (.ret [] (.and_ (.isi (.slot 0) "str") (.cmp .eq (.slot 0) (.slot 1))))
      .nil)
      .nil)
      (.cons (.if_ [] (.or_ (.and_ (.isi (.slot 1) "tuple") (.not_ (.isi (.slot 0) "tuple"))) (.and_ (.isi (.slot 1) "list") (.not_ (.isi (.slot 0) "list"))))
      (.cons (.ret [] (.lit (.bl false)))
      .nil)
      .nil)
      (.cons (.if_ [] (.cmp .ne (.bi .len (.cons (.slot 0) .nil)) (.bi .len (.cons (.slot 1) .nil)))
      (.cons (.ret [] (.lit (.bl false)))
      .nil)
      .nil)
      (.cons (.for_ [] (.name 2) (.rng1 (.bi .len (.cons (.slot 1) .nil)))
      (.cons (.if_ [] (.not_ (.call n (.cons (.idx (.slot 0) (.slot 2)) (.cons (.idx (.slot 1) (.slot 2)) .nil))))
      (.cons (.ret [] (.lit (.bl false)))
      .nil)
      .nil)
      .nil))
      (.cons (.ret [] (.lit (.bl true)))
      .nil))))))))
noncomputable def m_same (n : Nat) : Mf := fn2 (fun (a d : D) => a = d ∧ 0 < n ∧ n ≤ 60 ∧ good (n - 1) d) fun _ _ => .dat (.bl true)
theorem m_same_at {n : Nat} {d : D} (h0 : 0 < n) (h1 : n ≤ 60) (h : good (n - 1) d) : m_same n [d, d] = some (.dat (.bl true)) := fn2_at (a := d) (b := d) (p := fun (a d : D) => a = d ∧ 0 < n ∧ n ≤ 60 ∧ good (n - 1) d) ⟨rfl, h0, h1, h⟩
theorem m_same_up {n m : Nat} (h : n ≤ m) (hm : m ≤ 60) : ∀ ds r, m_same n ds = some r → m_same m ds = some r := fun ds r e => by
  obtain ⟨a, d, rfl, ⟨rfl, h0, h1, h2⟩, rfl⟩ := fn2_inv e
  exact m_same_at (by omega) (by omega) (good_le h2 (by omega))
/-- the two that hold items -/
theorem same_loop {i n : Nat} {Φ : Nat → Mf} (hΦ : Φ i = m_same n) (hn : n ≤ 60) {l : List D} {c : D} (hc : c = .tup l ∨ c = .lst l) (hl : l.length ≤ LIM) (h0 : l ≠ [] → 0 < n) (hg : ∀ x ∈ l, good (n - 1) x) {ρ : Env} (hρ : ρ = [.dat c, .dat c, .un]) {ss : Ss} {K : Post} (k : ∀ s, wp Φ ss [.dat c, .dat c, s] K) :
    wp Φ (.cons (.for_ [] (.name 2) (.rng1 (.bi .len (.cons (.slot 1) .nil)))
      (.cons (.if_ [] (.not_ (.call i (.cons (.idx (.slot 0) (.slot 2)) (.cons (.idx (.slot 1) (.slot 2)) .nil))))
      (.cons (.ret [] (.lit (.bl false)))
      .nil)
      .nil)
      .nil)) ss) ρ K := by
  subst hρ
  unfold LIM at hl
  refine wp_for (items := (rngI 0 (l.length : Nat)).map D.int) (fun k ρ => ∃ s, ρ = [.dat c, .dat c, s]) ?_ ⟨_, rfl⟩ (fun k d ρ e h => ?_) (fun ρ' h => ?_)
  · rw [← rngD_eq]
    rcases hc with rfl | rfl <;> walk_at "it"
  · obtain ⟨s, rfl⟩ := h
    rw [List.getElem?_map] at e
    obtain ⟨x, e1, rfl⟩ := Option.map_eq_some_iff.mp e
    have hk' : k < l.length := by
      have := (List.getElem?_eq_some_iff.mp e1).1
      rw [rngI_len] at this; omega
    rw [rngI_get (by omega)] at e1
    cases e1
    have ix : atI l (0 + (k : Int)) = some l[k] := by rw [show (0 + (k : Int)) = (k : Nat) by omega]; exact atI_nat (List.getElem?_eq_getElem hk')
    have cl : Φ i [l[k], l[k]] = some (.dat (.bl true)) := by rw [hΦ]; exact m_same_at (h0 (fun z => by rw [z] at hk'; cases hk')) hn (hg _ (List.getElem_mem hk'))
    refine ⟨_, rfl, ?_⟩
    refine wp_no (k := !true) ?_ rfl (wp_nil ⟨_, rfl⟩)
    rcases hc with rfl | rfl
    · walk_at "ob"
    · walk_at "ob"
  · obtain ⟨s, rfl⟩ := h
    exact k s
theorem run_same {i n : Nat} {Φ : Nat → Mf} (hΦ : Φ i = m_same n) (hn : n < 60) (d : D) (h : good n d) : runD Φ 2 3 (ir_same i) [d, d] = some (.dat (.bl true)) := by
  apply run_wp (np := 2) (ds := [d, d]) rfl
  cases d with
  | non =>
    walk_at "yes"
    walk_at "ret"
    rfl
  | bl b =>
    have e := vcmp_eq_self h (by omega)
    walk_at "no"
    walk_at "yes"
    walk_at "ret"
    rfl
  | int b =>
    have e := vcmp_eq_self h (by omega)
    walk_at "no"
    walk_at "no"
    walk_at "yes"
    walk_at "ret"
    rfl
  | str b =>
    have e := vcmp_eq_self h (by omega)
    walk_at "no"
    walk_at "no"
    walk_at "no"
    walk_at "yes"
    walk_at "ret"
    rfl
  | tup l =>
    walk_at "no"
    walk_at "no"
    walk_at "no"
    walk_at "no"
    walk_at "no"
    walk_at "no"
    have h' : l.length ≤ LIM ∧ (l ≠ [] → 0 < n) ∧ ∀ x ∈ l, good (n - 1) x := by
      cases n with
      | zero => exact h.elim
      | succ n => exact ⟨h.1, fun _ => Nat.succ_pos _, h.2⟩
    refine same_loop (l := l) (c := .tup l) hΦ (by omega) (.inl rfl) h'.1 h'.2.1 h'.2.2 rfl fun s => ?_
    walk_at "ret"
    rfl
  | lst l =>
    walk_at "no"
    walk_at "no"
    walk_at "no"
    walk_at "no"
    walk_at "no"
    walk_at "no"
    have h' : l.length ≤ LIM ∧ (l ≠ [] → 0 < n) ∧ ∀ x ∈ l, good (n - 1) x := by
      cases n with
      | zero => exact h.elim
      | succ n => exact ⟨h.1, fun _ => Nat.succ_pos _, h.2⟩
    refine same_loop (l := l) (c := .lst l) hΦ (by omega) (.inr rfl) h'.1 h'.2.1 h'.2.2 rfl fun s => ?_
    walk_at "ret"
    rfl
  | fl l => cases n <;> exact h.elim
  | ins c fs => cases n <;> exact h.elim
end PD

set_option Elab.async false
set_option linter.all false
set_option maxRecDepth 100000
set_option maxHeartbeats 4000000
/-! PD16: trees; _law_tree. -/
namespace PD
open PySem PySem.Spec PyProof.Rows L2
local macro_rules | `(tactic| walk_at "gd") => `(tactic| first
  | assumption
  | omega
  | (simp only [LIM, List.length_cons, List.length_nil, List.length_map, List.length_append, List.length_replicate, rngI_len, rngD_len, rngG, List.length_dropLast]; omega)
  | (simp only [LIM, List.length_cons, List.length_nil, List.length_map, List.length_append, List.length_replicate, rngI_len, rngD_len, rngG, List.length_dropLast]; done)
  | decide)
local macro_rules | `(tactic| walk_at "cl") => `(tactic| assumption)
local macro_rules | `(tactic| walk_at "ix") => `(tactic| first
  | assumption
  | exact rfl
  | (apply at_map; (· walk_at "gd"); (· assumption)))
local macro_rules | `(tactic| walk_at "vb") => `(tactic| first
  | (apply vb_mul; walk_at "gd")
  | (apply vb_fdiv; walk_at "gd")
  | (apply vb_mod; walk_at "gd")
  | (apply vb_pow; walk_at "gd")
  | (apply vb_catT; walk_at "gd")
  | (apply vb_catL; walk_at "gd")
  | (apply vb_rep; walk_at "gd")
  | exact rfl)
local macro_rules | `(tactic| walk_at "td") => `(tactic| (apply td; (· walk_at "ev"); (· exact rfl)))
local macro_rules | `(tactic| walk_at "es") => `(tactic| first
  | exact es_nil
  | (apply es_cons; (· walk_at "td"); (· walk_at "es")))
local macro_rules | `(tactic| walk_at "eo") => `(tactic| first
  | exact eo_no
  | (apply eo_yes; walk_at "td"))
local macro_rules | `(tactic| walk_at "ob") => `(tactic| (apply ob; walk_at "ev"))
local macro_rules | `(tactic| walk_at "vc") => `(tactic| first | assumption | exact rfl)
local macro_rules | `(tactic| walk_at "ln") => `(tactic| first
  | ((try simp only [List.length_cons, List.length_nil, List.length_map, List.length_append, List.length_replicate, rngI_len, rngD_len, List.length_dropLast, List.length_range]); exact rfl)
  | assumption)
local macro_rules | `(tactic| walk_at "bi") => `(tactic| first
  | assumption
  | (apply bi_lenL; walk_at "ln")
  | (apply bi_lenT; walk_at "ln")
  | (apply bi_lenF; walk_at "ln")
  | exact rfl | assumption)
local macro_rules | `(tactic| walk_at "ev") => `(tactic| first
  | exact ev_lit
  | exact ev_slot rfl
  | (apply ev_bin; (· walk_at "td"); (· walk_at "td"); (· walk_at "vb"))
  | (apply ev_bi; (· walk_at "es"); (· walk_at "bi"))
  | (apply ev_call; (· walk_at "es"); (· walk_at "cl"))
  | (apply ev_idx; (· walk_at "td"); (· walk_at "td"); (· first | (apply ix_l; walk_at "ix") | (apply ix_t; walk_at "ix") | (apply ix_f; walk_at "ix")))
  | (apply ev_isi; (· walk_at "td"); (· exact rfl))
  | (apply ev_cmp; (· walk_at "td"); (· walk_at "td"); (· walk_at "vc"))
  | (apply ev_chain; (· walk_at "td"); (· walk_at "td"); (· walk_at "td"); (· walk_at "vc"); (· walk_at "vc"))
  | (apply ev_not; walk_at "ob")
  | (apply ev_and; (· walk_at "ob"); (· intro _; walk_at "ob"))
  | (apply ev_or; (· walk_at "ob"); (· intro _; walk_at "ob"))
  | (apply ev_lenS'; (· exact rfl); (· walk_at "ln"))
  | (apply ev_idxS; (· exact rfl); (· walk_at "td"); (· walk_at "ix"))
  | (apply ev_tup; (· walk_at "es"); (· walk_at "gd"))
  | (apply ev_lst; (· walk_at "es"); (· walk_at "gd"))
  | (apply ev_slice; (· walk_at "td"); (· walk_at "eo"); (· walk_at "eo"); (· exact rfl))
  | (apply ev_neg; walk_at "td")
  | (apply ev_listr1; (· walk_at "td"); (· walk_at "gd"))
  | (apply ev_listr2; (· walk_at "td"); (· walk_at "td"); (· walk_at "gd"))
  | (apply ev_callk; (· walk_at "es"); (· walk_at "es"); (· walk_at "cl"))
  | assumption)
local macro_rules | `(tactic| walk_at "asg") => `(tactic| (apply wp_asg; (· walk_at "ev"); (· exact rfl)))
local macro_rules | `(tactic| walk_at "app") => `(tactic| (apply wp_app; (· walk_at "td"); (· exact rfl); (· walk_at "gd")))
local macro_rules | `(tactic| walk_at "ret") => `(tactic| (apply wp_ret; (· walk_at "ev")))
local macro_rules | `(tactic| walk_at "if") => `(tactic| (apply wp_if; (· walk_at "ob")))
local macro_rules | `(tactic| walk_at "tt") => `(tactic| first | exact rfl | assumption | (simp; done) | (simp; omega))
local macro_rules | `(tactic| walk_at "no") => `(tactic| (apply wp_no; (· walk_at "ob"); (· walk_at "tt")))
local macro_rules | `(tactic| walk_at "yes") => `(tactic| (apply wp_ifT; (· walk_at "ob"); (· walk_at "tt")))
local macro_rules | `(tactic| walk_at "it") => `(tactic| first
  | (apply it_rng1; (· walk_at "td"); (· walk_at "gd"))
  | (apply it_rng2; (· walk_at "td"); (· walk_at "td"); (· walk_at "gd"))
  | (apply it_seq; (· walk_at "td"); (· first | (apply seq_lst; walk_at "gd") | (apply seq_tup; walk_at "gd") | (apply seq_fl; walk_at "gd"))))

inductive Tr where
  | tell (s : Int)
  | ask (b d : Int) (brs : List Tr)
mutual
def Tr.d : Tr → D
  | .tell s => .tup [.str "tell", .int s]
  | .ask b d brs => .tup [.str "ask", .int b, .int d, .tup (Tr.ds brs)]
def Tr.ds : List Tr → List D
  | [] => []
  | t :: r => t.d :: Tr.ds r
end
theorem Tr.ds_eq : ∀ l : List Tr, Tr.ds l = l.map Tr.d
  | [] => rfl
  | t :: r => by rw [Tr.ds, Tr.ds_eq r]; rfl
mutual
theorem Tr.inj : ∀ a b : Tr, a.d = b.d → a = b
  | .tell s, .tell t, h => by simp only [Tr.d] at h; injection h with h; injection h with _ h; injection h with h _; injection h with h; rw [h]
  | .tell s, .ask _ _ _, h => by simp only [Tr.d] at h; injection h with h; injection h with h _; injection h with h; exact absurd h (by decide)
  | .ask _ _ _, .tell s, h => by simp only [Tr.d] at h; injection h with h; injection h with h _; injection h with h; exact absurd h (by decide)
  | .ask b d l, .ask c e m, h => by
    simp only [Tr.d] at h
    injection h with h
    injection h with _ h
    injection h with h1 h
    injection h with h2 h
    injection h with h3 _
    injection h1 with h1
    injection h2 with h2
    injection h3 with h3
    rw [h1, h2, Tr.injs l m h3]
theorem Tr.injs : ∀ a b : List Tr, Tr.ds a = Tr.ds b → a = b
  | [], [], _ => rfl
  | [], _ :: _, h => by simp only [Tr.ds] at h; cases h
  | _ :: _, [], h => by simp only [Tr.ds] at h; cases h
  | x :: a, y :: b, h => by
    simp only [Tr.ds] at h
    injection h with h1 h2
    rw [Tr.inj x y h1, Tr.injs a b h2]
end
instance : Enc Tr := ⟨Tr.d, Tr.inj⟩
mutual
def Tr.ht : Tr → Nat
  | .tell _ => 0
  | .ask _ _ l => Tr.hts l + 1
def Tr.hts : List Tr → Nat
  | [] => 0
  | t :: r => max t.ht (Tr.hts r)
end
theorem Tr.hts_le {n : Nat} : ∀ {l : List Tr}, (∀ t ∈ l, t.ht ≤ n) → Tr.hts l ≤ n
  | [], _ => Nat.zero_le _
  | t :: r, h => by
    unfold Tr.hts
    exact Nat.max_le.mpr ⟨h t List.mem_cons_self, Tr.hts_le fun x hx => h x (List.mem_cons_of_mem _ hx)⟩
theorem Tr.ht_le : ∀ {l : List Tr} {t : Tr}, t ∈ l → t.ht ≤ Tr.hts l
  | u :: r, t, h => by
    unfold Tr.hts
    rcases List.mem_cons.mp h with rfl | h
    · exact Nat.le_max_left _ _
    · exact Nat.le_trans (Tr.ht_le h) (Nat.le_max_right _ _)
/-- induction over trees -/
theorem Tr.ind {p : Tr → Prop} (h1 : ∀ s, p (.tell s)) (h2 : ∀ b d l, (∀ t ∈ l, p t) → p (.ask b d l)) (t : Tr) : p t :=
  Tr.rec (motive_1 := p) (motive_2 := fun l => ∀ t ∈ l, p t) h1 (fun b d l ih => h2 b d l ih) (fun t h => by cases h) (fun t r h3 h4 u hu => by
    rcases List.mem_cons.mp hu with rfl | hu
    · exact h3
    · exact h4 u hu) t
/-- each node of t has at most n branches -/
def Tr.small (n : Nat) : Tr → Prop
  | .tell _ => True
  | .ask _ _ l => l.length ≤ n ∧ ∀ t, (h : t ∈ l) → t.small n
def Side := Int × Int
/-- a tree over boxes with sides, that tells signs -/
def okT (sides : List (Int × Int)) (signs : Int) : Tr → Prop
  | .tell s => 0 ≤ s ∧ s < signs
  | .ask b d l => ∃ x y, 0 ≤ b ∧ sides[b.toNat]? = some (x, y) ∧ 0 ≤ d ∧ d < x ∧ (l.length : Int) = y ∧ ∀ t, (h : t ∈ l) → okT sides signs t
def iterF (f : List Int → Tr × List Int) : Nat → List Int → List Tr × List Int
  | 0, dg => ([], dg)
  | k + 1, dg => ((f dg).1 :: (iterF f k (f dg).2).1, (iterF f k (f dg).2).2)
def treeStep (sides : List (Int × Int)) (signs : Int) (f : Option (List Int → List Int → Tr × List Int)) (free dg : List Int) : Tr × List Int :=
  if free = [] ∨ dg.getLastD 0 % 6 = 0 then (.tell (dg.getLastD 0 / 6 % signs), dg.dropLast) else
  match f with
  | none => (.tell 0, dg.dropLast)
  | some f =>
    let number := free[(dg.getLastD 0 / 6 % (free.length : Nat)).toNat]?.getD 0
    let side := sides[number.toNat]?.getD (1, 1)
    let q := iterF (f (free.filter fun one => !decide (one = number))) side.2.toNat dg.dropLast
    (.ask number (dg.getLastD 0 / 36 % side.1) q.1, q.2)
def treeF (sides : List (Int × Int)) (signs : Int) : Nat → List Int → List Int → Tr × List Int
  | 0 => treeStep sides signs none
  | n + 1 => treeStep sides signs (some (treeF sides signs n))
def treeSub (sides : List (Int × Int)) (signs : Int) : Nat → Option (List Int → List Int → Tr × List Int)
  | 0 => none
  | n + 1 => some (treeF sides signs n)
theorem treeF_eq (sides : List (Int × Int)) (signs : Int) (n : Nat) (free dg : List Int) : treeF sides signs n free dg = treeStep sides signs (treeSub sides signs n) free dg := by cases n <;> rfl
theorem iterF_len (f : List Int → Tr × List Int) : ∀ (k : Nat) (dg : List Int), (iterF f k dg).1.length = k
  | 0, _ => rfl
  | k + 1, dg => by unfold iterF; rw [List.length_cons, iterF_len f k]
theorem iterF_all {f : List Int → Tr × List Int} {p : Tr → Prop} (h : ∀ dg, p (f dg).1) : ∀ (k : Nat) (dg : List Int), ∀ t ∈ (iterF f k dg).1, p t
  | 0, _, t, ht => by cases ht
  | k + 1, dg, t, ht => by
    unfold iterF at ht
    rcases List.mem_cons.mp ht with rfl | ht
    · exact h dg
    · exact iterF_all h k _ t ht
theorem iterF_dg {f : List Int → Tr × List Int} (h : ∀ dg, (f dg).2.length ≤ dg.length) : ∀ (k : Nat) (dg : List Int), (iterF f k dg).2.length ≤ dg.length
  | 0, _ => Nat.le_refl _
  | k + 1, dg => Nat.le_trans (iterF_dg h k _) (h dg)
structure TreePre (sides : List (Int × Int)) (signs : Int) (free : List Int) : Prop where
  sd : ∀ s ∈ sides, 0 < s.1 ∧ s.1 < 1073741824 ∧ 0 ≤ s.2 ∧ s.2 ≤ 1000
  sg : 0 < signs ∧ signs < 1073741824
  fr : ∀ b ∈ free, 0 ≤ b ∧ b < (sides.length : Nat)
  fl : free.length ≤ 1000
theorem TreePre.rest {sides : List (Int × Int)} {signs : Int} {free : List Int} (h : TreePre sides signs free) (p : Int → Bool) : TreePre sides signs (free.filter p) :=
  ⟨h.sd, h.sg, fun b hb => h.fr b (List.mem_filter.mp hb).1, Nat.le_trans (List.length_filter_le _ _) h.fl⟩
theorem free_get {free : List Int} (hf : free ≠ []) (x : Int) : ∃ b ∈ free, free[(x % (free.length : Nat)).toNat]? = some b ∧ 0 ≤ x % (free.length : Nat) := by
  have hl : 0 < free.length := List.length_pos_iff.mpr hf
  have h1 := Int.emod_nonneg x (show ((free.length : Nat) : Int) ≠ 0 by omega)
  have h2 := Int.emod_lt_of_pos x (show (0 : Int) < (free.length : Nat) by omega)
  have h3 : (x % (free.length : Nat)).toNat < free.length := by omega
  exact ⟨free[(x % (free.length : Nat)).toNat], List.getElem_mem h3, List.getElem?_eq_getElem h3, h1⟩
theorem side_get {sides : List (Int × Int)} {b : Int} (h : 0 ≤ b ∧ b < (sides.length : Nat)) : ∃ s ∈ sides, sides[b.toNat]? = some s := by
  have h3 : b.toNat < sides.length := by omega
  exact ⟨_, List.getElem_mem h3, List.getElem?_eq_getElem h3⟩
theorem filter_lt {free : List Int} {b : Int} (h : b ∈ free) : (free.filter fun one => !decide (one = b)).length < free.length := by
  have := List.length_filter_lt_length_iff_exists (l := free) (p := fun one => !decide (one = b))
  exact this.mpr ⟨b, h, by simp⟩
theorem treeF_ok {sides : List (Int × Int)} {signs : Int} : ∀ (n : Nat) (free dg : List Int), TreePre sides signs free → free.length ≤ n → okT sides signs (treeF sides signs n free dg).1 ∧ (treeF sides signs n free dg).1.ht ≤ free.length ∧ (treeF sides signs n free dg).2.length ≤ dg.length
  | n, free, dg, h, hn => by
    have hd : dg.dropLast.length ≤ dg.length := by rw [List.length_dropLast]; omega
    by_cases c : free = [] ∨ dg.getLastD 0 % 6 = 0
    · rw [treeF_eq, treeStep.eq_def, if_pos c]
      refine ⟨?_, Nat.zero_le _, hd⟩
      unfold okT
      exact ⟨Int.emod_nonneg _ (by have := h.sg.1; omega), Int.emod_lt_of_pos _ h.sg.1⟩
    · rw [treeF_eq, treeStep.eq_def, if_neg c]
      have hf : free ≠ [] := fun z => c (.inl z)
      cases n with
      | zero => exact absurd (List.length_eq_zero_iff.mp (by omega)) hf
      | succ n =>
        obtain ⟨b, hb, e, _⟩ := free_get hf (dg.getLastD 0 / 6)
        obtain ⟨s, hs, e2⟩ := side_get (h.fr b hb)
        simp only [e, Option.getD_some, e2, treeSub]
        have ih := fun dg => treeF_ok n (free.filter fun one => !decide (one = b)) dg (h.rest _) (by have := filter_lt hb; omega)
        have sd := h.sd s hs
        refine ⟨?_, ?_, Nat.le_trans (iterF_dg (fun dg => (ih dg).2.2) _ _) hd⟩
        · unfold okT
          refine ⟨s.1, s.2, (h.fr b hb).1, e2, Int.emod_nonneg _ (by omega), Int.emod_lt_of_pos _ sd.1, by rw [iterF_len]; omega, fun t ht => iterF_all (p := okT sides signs) (fun dg => (ih dg).1) _ _ t ht⟩
        · unfold Tr.ht
          exact Nat.le_trans (Nat.succ_le_succ (Tr.hts_le fun t ht => iterF_all (p := fun t => t.ht ≤ _) (fun dg => (ih dg).2.1) _ _ t ht)) (filter_lt hb)
/-! the def -/
def treeIr : Ss :=
  (.cons (.asg [] (.name 4) (.lit (.int 0)))
  (.cons (.if_ [] (.cmp .gt (.lenS 0) (.lit (.int 0))) (.cons (.popTo 4 0) .nil) .nil)
  (.cons (.if_ [] (.or_ (.cmp .eq (.bi .len (.cons (.slot 2) .nil)) (.lit (.int 0))) (.cmp .eq (.bin .mod (.bi .int_ (.cons (.slot 4) .nil)) (.lit (.int 6))) (.lit (.int 0))))
    (.cons (.ret [] (.tup (.cons (.lit (.str "tell")) (.cons (.bin .mod (.bi .int_ (.cons (.bin .fdiv (.slot 4) (.lit (.int 6))) .nil)) (.slot 3)) .nil)))) .nil) .nil)
  (.cons (.asg [] (.name 5) (.idx (.slot 2) (.bin .mod (.bi .int_ (.cons (.bin .fdiv (.slot 4) (.lit (.int 6))) .nil)) (.bi .len (.cons (.slot 2) .nil)))))
  (.cons (.asg [] (.name 6) (.bin .mod (.bi .int_ (.cons (.bin .fdiv (.slot 4) (.lit (.int 36))) .nil)) (.idx (.idx (.slot 1) (.slot 5)) (.lit (.int 0)))))
  (.cons (.asg [] (.name 7) (.compf (.slot 8) (.name 8) (.seq (.slot 2)) (.cmp .ne (.slot 8) (.slot 5)) [8]))
  .nil))))))
abbrev treeEs : Es := .cons (.slot 1) (.cons (.slot 7) (.cons (.slot 3) .nil))
abbrev treeIt : It := .rng1 (.idx (.idx (.slot 1) (.slot 5)) (.lit (.int 1)))
noncomputable def m_tree (n : Nat) (dl ds : List D) : Option (D × List D) := (dec (.lst dl) : Option (List Int)).bind fun dg => match ds with
  | [a, b, c] => (dec a : Option (List (Int × Int))).bind fun sides => (dec b : Option (List Int)).bind fun free => (dec c : Option Int).bind fun signs =>
      gd (TreePre sides signs free ∧ free.length ≤ n ∧ dg.length ≤ 1000) ((treeF sides signs n free dg).1.d, (treeF sides signs n free dg).2.map .int)
  | _ => none
theorem m_tree_at {n : Nat} {dg : List Int} {sides : List (Int × Int)} {free : List Int} {signs : Int} (h : TreePre sides signs free ∧ free.length ≤ n ∧ dg.length ≤ 1000) :
    m_tree n (dg.map .int) [Enc.enc sides, .lst (free.map .int), .int signs] = some ((treeF sides signs n free dg).1.d, (treeF sides signs n free dg).2.map .int) := by
  have e1 : (dec (.lst (dg.map .int)) : Option (List Int)) = some dg := dec_enc dg
  have e2 : (dec (.lst (free.map .int)) : Option (List Int)) = some free := dec_enc free
  have e3 : (dec (.int signs) : Option Int) = some signs := dec_enc signs
  simp only [m_tree, e1, e2, e3, dec_enc, Option.bind_some]
  exact gd_pos h
theorem m_tree_inv {n : Nat} {dl ds : List D} {r : D × List D} (h : m_tree n dl ds = some r) : ∃ (dg : List Int) (sides : List (Int × Int)) (free : List Int) (signs : Int), dl = dg.map .int ∧ ds = [Enc.enc sides, .lst (free.map .int), .int signs] ∧ TreePre sides signs free ∧ free.length ≤ n ∧ dg.length ≤ 1000 ∧ r = ((treeF sides signs n free dg).1.d, (treeF sides signs n free dg).2.map .int) := by
  unfold m_tree at h
  obtain ⟨dg, h0, h⟩ := Option.bind_eq_some_iff.mp h
  split at h
  · obtain ⟨sides, h1, h⟩ := Option.bind_eq_some_iff.mp h
    obtain ⟨free, h2, h⟩ := Option.bind_eq_some_iff.mp h
    obtain ⟨signs, h3, h⟩ := Option.bind_eq_some_iff.mp h
    obtain ⟨⟨p1, p2, p3⟩, h4⟩ := gd_inv h
    have e := D.lst.inj (enc_dec h0)
    exact ⟨dg, sides, free, signs, e, by rw [enc_dec h1, enc_dec h2, enc_dec h3]; rfl, p1, p2, p3, h4.symm⟩
  · cases h
theorem io_iter {n : Nat} {sides : List (Int × Int)} {free : List Int} {signs : Int} (h : TreePre sides signs free) (hn : free.length ≤ n) : ∀ (k : Nat) (dg : List Int), dg.length ≤ 1000 → ioRun (m_tree n) [Enc.enc sides, .lst (free.map .int), .int signs] k (dg.map .int) = some (Tr.ds (iterF (treeF sides signs n free) k dg).1, (iterF (treeF sides signs n free) k dg).2.map .int)
  | 0, dg, _ => rfl
  | k + 1, dg, hd => by
    unfold ioRun
    rw [m_tree_at ⟨h, hn, hd⟩]
    show (ioRun _ _ k _).map _ = _
    rw [io_iter h hn k _ (Nat.le_trans (treeF_ok n free dg h hn).2.2 hd)]
    rfl
theorem runA_of {Φ : Nat → Mf} {m : List D → List D → Option (D × List D)} {ir : Ss} {fz : List Nat} {ea eb ec : E} {es : Es} {it : It} {j np nN : Nat} {dl ds : List D} {r : D × List D} (hl : ds.length + 1 = np)
    (h : wp Φ ir (ρA np nN dl ds) ⟨fun ρ' => LastA Φ m fz ea eb ec es it j ρ' r, fun r' ρ' => r' = .dat r.1 ∧ ρ'[0]? = some (.own r.2), fun _ => False, fun _ => False⟩) : RunA Φ m ir fz ea eb ec es it j np nN dl ds r := by
  obtain ⟨o, h1, h2⟩ := h
  refine ⟨hl, ?_⟩
  cases o with
  | nx ρ => exact .inr ⟨ρ, h1, h2⟩
  | ret x ρ => obtain ⟨h2, h3⟩ := h2; subst h2; exact .inl ⟨ρ, h1, h3⟩
  | brk ρ => exact h2.elim
  | ct ρ => exact h2.elim
/-- behind the pop -/
theorem tree_go {Φ : Nat → Mf} {n : Nat} {m : List D → List D → Option (D × List D)} (hm : ∀ n', n = n' + 1 → m = m_tree n') {dg dg' : List Int} {sides : List (Int × Int)} {free : List Int} {signs digit : Int} (h : TreePre sides signs free) (hn : free.length ≤ n) (hd : dg'.length ≤ 1000) (e1 : dg.getLastD 0 = digit) (e2 : dg.dropLast = dg') {ρ : Env}
    (hρ : ρ = [.own (dg'.map .int), .dat (Enc.enc sides), .dat (.lst (free.map .int)), .dat (.int signs), .dat (.int digit), .un, .un, .un, .un, .un]) {r : D × List D} (hr : r = ((treeF sides signs n free dg).1.d, (treeF sides signs n free dg).2.map .int)) :
    wp Φ (.cons (.if_ [] (.or_ (.cmp .eq (.bi .len (.cons (.slot 2) .nil)) (.lit (.int 0))) (.cmp .eq (.bin .mod (.bi .int_ (.cons (.slot 4) .nil)) (.lit (.int 6))) (.lit (.int 0))))
    (.cons (.ret [] (.tup (.cons (.lit (.str "tell")) (.cons (.bin .mod (.bi .int_ (.cons (.bin .fdiv (.slot 4) (.lit (.int 6))) .nil)) (.slot 3)) .nil)))) .nil) .nil)
  (.cons (.asg [] (.name 5) (.idx (.slot 2) (.bin .mod (.bi .int_ (.cons (.bin .fdiv (.slot 4) (.lit (.int 6))) .nil)) (.bi .len (.cons (.slot 2) .nil)))))
  (.cons (.asg [] (.name 6) (.bin .mod (.bi .int_ (.cons (.bin .fdiv (.slot 4) (.lit (.int 36))) .nil)) (.idx (.idx (.slot 1) (.slot 5)) (.lit (.int 0)))))
  (.cons (.asg [] (.name 7) (.compf (.slot 8) (.name 8) (.seq (.slot 2)) (.cmp .ne (.slot 8) (.slot 5)) [8]))
  .nil)))) ρ ⟨fun ρ' => LastA Φ m [7] (.lit (.str "ask")) (.slot 5) (.slot 6) treeEs treeIt 9 ρ' r, fun r' ρ' => r' = .dat r.1 ∧ ρ'[0]? = some (.own r.2), fun _ => False, fun _ => False⟩ := by
  subst hρ hr
  rw [treeF_eq, treeStep.eq_def, e1, e2]
  have sg := h.sg
  apply wp_if
  · walk_at "ob"
  · intro c
    have c' : free = [] ∨ digit % 6 = 0 := by
      simp at c
      rcases c with c | c
      · exact .inl (by first | exact c | exact List.length_eq_zero_iff.mp (by omega))
      · exact .inr c
    rw [if_pos c']
    walk_at "ret"
    exact ⟨rfl, rfl⟩
  · intro c
    have c' : ¬ (free = [] ∨ digit % 6 = 0) := by
      simp at c
      rintro (z | z)
      · exact absurd z c.1
      · exact absurd z c.2
    rw [if_neg c']
    refine wp_nil ?_
    have hf : free ≠ [] := fun z => c' (.inl z)
    have hfl : 0 < free.length := List.length_pos_iff.mpr hf
    cases n with
    | zero => exact absurd (List.length_eq_zero_iff.mp (by omega)) hf
    | succ n =>
      obtain rfl := hm n rfl
      obtain ⟨b, hb, eb, hx⟩ := free_get hf (digit / 6)
      obtain ⟨s, hs, es⟩ := side_get (h.fr b hb)
      have sd := h.sd s hs
      have hb0 := h.fr b hb
      have fl := h.fl
      have ix1 : atI (free.map D.int) (digit / 6 % (free.length : Nat)) = some (.int b) := at_map hx eb
      have ix2 : vIdx (Enc.enc sides) (.int b) = some (.tup [.int s.1, .int s.2]) := ix_l (at_map hb0.1 es)
      simp only [eb, Option.getD_some, es, treeSub]
      walk_at "asg"
      walk_at "asg"
      apply wp_asg
      · exact ev_compf (xs := free) D.int D.int (fun one => !decide (one = b)) (by walk_at "it") (fun x hx => ⟨_, rfl, by walk_at "ob", fun _ => by walk_at "td"⟩)
      · exact rfl
      have io := io_iter (n := n) (h.rest fun one => !decide (one = b)) (by have := filter_lt hb; omega) s.2.toNat dg' hd
      refine wp_nil ⟨.str "ask", .int b, .int (digit / 36 % s.1), _, by walk_at "td", by walk_at "td", by walk_at "td", ⟨by decide, rngD 0 s.2, _, dg'.map .int, ?_, rfl, fun dl d => ?_, by rw [rngD_len, show (s.2 - 0).toNat = s.2.toNat by omega]; exact io⟩, rfl⟩
      · walk_at "it"
      · walk_at "es"
theorem tree_run {Φ : Nat → Mf} {n : Nat} {m : List D → List D → Option (D × List D)} (hm : ∀ n', n = n' + 1 → m = m_tree n') : ∀ dl ds r, m_tree n dl ds = some r → RunA Φ m treeIr [7] (.lit (.str "ask")) (.slot 5) (.slot 6) treeEs treeIt 9 4 10 dl ds r := fun dl ds r h => by
  obtain ⟨dg, sides, free, signs, rfl, rfl, h1, h2, h3, hr⟩ := m_tree_inv h
  refine runA_of rfl ?_
  walk_at "asg"
  by_cases hd : dg = []
  · subst hd
    apply wp_ifF
    · walk_at "ob"
    · decide
    · refine wp_nil ?_
      exact tree_go hm (dg := []) (dg' := []) (digit := 0) h1 h2 (by decide) rfl rfl rfl hr
  · have hl : 0 < dg.length := List.length_pos_iff.mpr hd
    apply wp_ifT
    · walk_at "ob"
    · simp; omega
    · refine wp_popTo (l := dg.map .int) (d := .int (dg.getLastD 0)) rfl (by decide) ?_ ?_
      · rcases List.eq_nil_or_concat dg with rfl | ⟨init, x, rfl⟩
        · exact absurd rfl hd
        · simp
      · refine wp_nil ?_
        exact tree_go hm (dg := dg) (dg' := dg.dropLast) (digit := dg.getLastD 0) h1 h2 (by rw [List.length_dropLast]; omega) rfl rfl (by rw [List.map_dropLast]; rfl) hr
/-- the def: n boxes deep -/
theorem tree_at {T : Tbl} {W : Wd} {mg : Str → Option Value} {fA : Nat → Addr} {fD : Nat → FuncData} {fP : Nat → List Str} {P : Program} {w : World} {base : Heap} (B : Base T W mg fA fD fP) {i : Nat} {x qual : Str} {params : Arguments} {body : List Stmt} {scope : Scope} {dvs : List V} {kws : List (Str × V)} {N ps : List Str} {nN : Nat} {k : List Str}
    (e : T.fns[i]? = some (("_law_tree" : Str), 4, ([] : List Str))) (F : FunD W.K x qual params body scope dvs kws (fA i) (fD i)) (S : FnScope N ps scope) (hp : fP i = ps) (h4 : ps.length = 4) (h10 : N.length = 10)
    (c : chkMl T N scope (fun _ => true) (chkLastA T N scope "_law_tree" (.lit (.str "ask")) (.slot 5) (.slot 6) treeEs treeIt 9) treeIr body = true) (L : Nat) : ∀ n, FnOk P w W.K mg base CX0 (L + 1 + n) (fA i) (fD i) (fP i) (spIO W (m_tree n)) := by
  have step : ∀ {n : Nat} {L' : Nat} {m : List D → List D → Option (D × List D)}, (∀ n', n = n' + 1 → m = m_tree n') → FnOk P w W.K mg base CX0 L' (fA i) (fD i) (fP i) (spIO W m) → FnOk P w W.K mg base CX0 (L' + 1) (fA i) (fD i) (fP i) (spIO W (m_tree n)) := fun {n L' m} hm h => by
    obtain ⟨g1, g2, g3, _⟩ := B.glo i _ _ _ e
    have := def_okA (gok B (L := L') (l := []) (P := P) (w := w) (base := base) (fun _ z => by cases z)) F S (nm := "_law_tree") (m := m) (m' := m_tree n) ⟨⟨_, _, _, g1, g2, g3 rfl, h⟩⟩ c (by rw [h4, h10]; exact tree_run hm)
    rw [hp]
    exact this
  intro n
  induction n with
  | zero => exact step (m := fun _ _ => none) (fun _ z => by cases z) fn_noneIO
  | succ n ih => exact step (fun n' z => by cases z; rfl) ih

/-! ### _law_far -/
def far (s : List Int) (k : Int) : Int := if k < (s.length : Nat) then s[k.toNat]?.getD 0 else mixed (s.sum + (s.length : Nat)) k
def ir_far (n : Nat) : Ss :=
    (.cons (.if_ [] (.cmp .lt (.slot 1) (.bi .len (.cons (.slot 0) .nil)))
      (.cons (.ret [] (.bi .int_ (.cons (.idx (.slot 0) (.slot 1)) .nil)))
      .nil)
      .nil)
      (.cons (.ret [] (.bi .int_ (.cons (.call n (.cons (.bin .add (.bi .sum (.cons (.slot 0) .nil)) (.bi .len (.cons (.slot 0) .nil))) (.cons (.slot 1) .nil))) .nil)))
      .nil))
noncomputable def m_far : Mf := fn2 (fun (s : Fz Int) (k : Int) => 0 ≤ k ∧ k ≤ 1000000) fun s k => .dat (.int (far s.l k))
theorem m_far_at {s : List Int} {k : Int} (h : 0 ≤ k ∧ k ≤ 1000000) : m_far [.fl (s.map .int), .int k] = some (.dat (.int (far s k))) := fn2_at (a := Fz.mk s) (b := k) (p := fun (s : Fz Int) (k : Int) => 0 ≤ k ∧ k ≤ 1000000) h
theorem far_run {Φ : Nat → Mf} {n : Nat} (hΦ : Φ n = m_mixed) : ∀ ds r, m_far ds = some r → runD Φ 2 2 (ir_far n) ds = some r := fun ds r h => by
  obtain ⟨⟨s⟩, k, rfl, ⟨h1, h2⟩, rfl⟩ := fn2_inv h
  show runD Φ 2 2 (ir_far n) [.fl (s.map .int), .int k] = _
  apply run_wp (np := 2) (ds := [.fl (s.map .int), .int k]) rfl
  have sm : vBi .sum [.fl (s.map D.int)] = some (.dat (.int s.sum)) := by
    show (ints? (s.map D.int)).map _ = _
    rw [ints?_map]; rfl
  apply wp_if
  · walk_at "ob"
  · intro c
    have c' : k < (s.length : Nat) := by simpa using c
    have ix : atI (s.map D.int) k = some (.int (s[k.toNat]?.getD 0)) := at_map h1 (by rw [List.getElem?_eq_getElem (by omega)]; rfl)
    walk_at "ret"
    show Sl.dat (.int _) = Sl.dat (.int (far s k))
    rw [far, if_pos c']
  · intro c
    have c' : ¬ k < (s.length : Nat) := by simpa using c
    have cl : Φ n [.int (s.sum + (s.length : Nat)), .int k] = some (.dat (.int (mixed (s.sum + (s.length : Nat)) k))) := by rw [hΦ]; exact m_mixed_at ⟨h1, h2⟩
    refine wp_nil ?_
    walk_at "ret"
    show Sl.dat (.int _) = Sl.dat (.int (far s k))
    rw [far, if_neg c']
end PD

set_option Elab.async false
set_option linter.all false
set_option maxRecDepth 100000
set_option maxHeartbeats 4000000
namespace K81
open PySem L2 PD
/-! the text of fardials_k81_grafts_associate by places; the defs' forms (printed by gen.py) -/
def top (i : Nat) : Stmt := PySem.Challenge.pw_fardials_k81_grafts_associate.main.body.getD i (.Pass ⟨0, 0, 0, 0⟩)
abbrev s_grafted : Stmt := top 4
abbrev N_grafted : List Str := ["trees", "inner", "counts", "starts", "total", "count", "tree"]
abbrev P_grafted : List Str := ["trees", "inner", "counts"]
theorem sc_grafted : FnScope N_grafted P_grafted (defScope s_grafted) := ⟨rfl, rfl, rfl, by decide +kernel, rfl, by decide +kernel, by decide +kernel⟩
def ir_grafted : Ss :=
    (.cons (.if_ [] (.cmp .ne (.bi .len (.cons (.slot 1) .nil)) (.bi .len (.cons (.slot 2) .nil)))
      (.cons .never
      .nil)
      .nil)
      (.cons (.asg [] (.name 3) (.lst .nil))
      (.cons (.asg [] (.name 4) (.lit (.int 0)))
      (.cons (.for_ [] (.name 5) (.seq (.slot 2))
      (.cons (.app 3 [] (.slot 4))
      (.cons (.asg [] (.name 4) (.bin .add (.slot 4) (.slot 5)))
      .nil)))
      (.cons (.ret [3] (.comp (.call 1 (.cons (.slot 6) (.cons (.slot 1) (.cons (.slot 2) (.cons (.slot 3) .nil))))) (.name 6) (.seq (.slot 0)) [6]))
      .nil)))))
abbrev s_grafted_tree : Stmt := top 5
abbrev N_grafted_tree : List Str := ["tree", "inner", "counts", "starts", "below", "_", "box", "dial", "branches", "branch"]
abbrev P_grafted_tree : List Str := ["tree", "inner", "counts", "starts"]
theorem sc_grafted_tree : FnScope N_grafted_tree P_grafted_tree (defScope s_grafted_tree) := ⟨rfl, rfl, rfl, by decide +kernel, rfl, by decide +kernel, by decide +kernel⟩
def ir_grafted_tree : Ss :=
    (.cons (.if_ [] (.cmp .eq (.idx (.slot 0) (.lit (.int 0))) (.lit (.str "tell")))
      (.cons (.ret [] (.slot 0))
      .nil)
      .nil)
      (.cons (.asg [] (.tup (.cons (.name 5) (.cons (.name 6) (.cons (.name 7) (.cons (.name 8) .nil))))) (.slot 0))
      (.cons (.if_ [] (.or_ (.not_ (.chain .le .lt (.lit (.int 0)) (.slot 6) (.bi .len (.cons (.slot 1) .nil)))) (.not_ (.chain .le .lt (.lit (.int 0)) (.slot 7) (.bi .len (.cons (.idx (.slot 1) (.slot 6)) .nil)))))
      (.cons .never
      .nil)
      .nil)
      (.cons (.asg [] (.name 4) (.comp (.call 1 (.cons (.slot 9) (.cons (.slot 1) (.cons (.slot 2) (.cons (.slot 3) .nil))))) (.name 9) (.seq (.slot 8)) [9]))
      (.cons (.ret [4] (.call 2 (.cons (.idx (.idx (.slot 1) (.slot 6)) (.slot 7)) (.cons (.idx (.slot 3) (.slot 6)) (.cons (.idx (.slot 2) (.slot 6)) (.cons (.slot 4) .nil))))))
      .nil)))))
abbrev s_placed_tree : Stmt := top 6
abbrev N_placed_tree : List Str := ["tree", "start", "count", "below", "_", "box", "dial", "branches", "branch"]
abbrev P_placed_tree : List Str := ["tree", "start", "count", "below"]
theorem sc_placed_tree : FnScope N_placed_tree P_placed_tree (defScope s_placed_tree) := ⟨rfl, rfl, rfl, by decide +kernel, rfl, by decide +kernel, by decide +kernel⟩
def ir_placed_tree : Ss :=
    (.cons (.if_ [] (.cmp .eq (.idx (.slot 0) (.lit (.int 0))) (.lit (.str "tell")))
      (.cons (.if_ [] (.not_ (.chain .le .lt (.lit (.int 0)) (.idx (.slot 0) (.lit (.int 1))) (.bi .len (.cons (.slot 3) .nil))))
      (.cons .never
      .nil)
      .nil)
      (.cons (.ret [] (.idx (.slot 3) (.idx (.slot 0) (.lit (.int 1)))))
      .nil))
      .nil)
      (.cons (.asg [] (.tup (.cons (.name 4) (.cons (.name 5) (.cons (.name 6) (.cons (.name 7) .nil))))) (.slot 0))
      (.cons (.if_ [] (.not_ (.chain .le .lt (.lit (.int 0)) (.slot 5) (.slot 2)))
      (.cons .never
      .nil)
      .nil)
      (.cons (.ret [] (.tup (.cons (.lit (.str "ask")) (.cons (.bin .add (.slot 1) (.slot 5)) (.cons (.slot 6) (.cons (.bi .tuple_ (.cons (.comp (.call 2 (.cons (.slot 8) (.cons (.slot 1) (.cons (.slot 2) (.cons (.slot 3) .nil))))) (.name 8) (.seq (.slot 7)) [8]) .nil)) .nil))))))
      .nil))))
abbrev s_law_mixed : Stmt := top 8
abbrev N_law_mixed : List Str := ["seed", "k", "first", "second"]
abbrev P_law_mixed : List Str := ["seed", "k"]
theorem sc_law_mixed : FnScope N_law_mixed P_law_mixed (defScope s_law_mixed) := ⟨rfl, rfl, rfl, by decide +kernel, rfl, by decide +kernel, by decide +kernel⟩
def ir_law_mixed : Ss :=
    (.cons (.asg [] (.name 2) (.bin .mod (.bi .int_ (.cons (.bin .add (.bin .add (.bin .mul (.slot 0) (.lit (.int 48271))) (.bin .mul (.slot 1) (.lit (.int 69621)))) (.lit (.int 12345))) .nil)) (.lit (.int 2147483647))))
      (.cons (.asg [] (.name 3) (.bin .mod (.bi .int_ (.cons (.bin .add (.bin .add (.bin .mul (.slot 2) (.slot 2)) (.bin .mul (.slot 1) (.lit (.int 40014)))) (.bin .fdiv (.slot 2) (.lit (.int 65536)))) .nil)) (.lit (.int 2147483563))))
      (.cons (.ret [] (.bin .mod (.bi .int_ (.cons (.bin .mul (.bin .add (.bin .fdiv (.slot 3) (.lit (.int 7))) (.slot 1)) (.bin .add (.bin .mod (.bi .int_ (.cons (.slot 3) .nil)) (.lit (.int 65537))) (.lit (.int 3)))) .nil)) (.lit (.int 2147483629))))
      .nil)))
abbrev s_law_draws : Stmt := top 9
abbrev N_law_draws : List Str := ["cell", "bounds", "found", "rest", "k"]
abbrev P_law_draws : List Str := ["cell", "bounds"]
theorem sc_law_draws : FnScope N_law_draws P_law_draws (defScope s_law_draws) := ⟨rfl, rfl, rfl, by decide +kernel, rfl, by decide +kernel, by decide +kernel⟩
def ir_law_draws : Ss :=
    (.cons (.asg [] (.name 2) (.lst .nil))
      (.cons (.asg [] (.name 3) (.slot 0))
      (.cons (.for_ [] (.name 4) (.rng1 (.bi .len (.cons (.slot 1) .nil)))
      (.cons (.if_ [] (.and_ (.cmp .ge (.slot 0) (.bin .pow (.lit (.int 10)) (.lit (.int 18)))) (.cmp .gt (.slot 3) (.lit (.int 0))))
      (.cons (.app 2 [] (.bin .mod (.bi .int_ (.cons (.slot 3) .nil)) (.idx (.slot 1) (.slot 4))))
      (.cons (.asg [] (.name 3) (.bin .fdiv (.slot 3) (.idx (.slot 1) (.slot 4))))
      .nil))
      (.cons (.app 2 [] (.bin .mod (.bi .int_ (.cons (.call 3 (.cons (.slot 0) (.cons (.slot 4) .nil))) .nil)) (.idx (.slot 1) (.slot 4))))
      .nil))
      .nil))
      (.cons (.retS 2)
      .nil))))
abbrev s_law_same : Stmt := top 10
abbrev N_law_same : List Str := ["actual", "due", "k"]
abbrev P_law_same : List Str := ["actual", "due"]
theorem sc_law_same : FnScope N_law_same P_law_same (defScope s_law_same) := ⟨rfl, rfl, rfl, by decide +kernel, rfl, by decide +kernel, by decide +kernel⟩
def ir_law_same : Ss :=
    (.cons (.if_ [] (.cmp .is_ (.slot 1) (.lit .non))
      (.cons (.ret [] (.cmp .is_ (.slot 0) (.lit .non)))
      .nil)
      .nil)
      (.cons (.if_ [] (.isi (.slot 1) "bool")
      (.cons (.ret [] (.and_ (.isi (.slot 0) "bool") (.cmp .eq (.slot 0) (.slot 1))))
      .nil)
      .nil)
      (.cons (.if_ [] (.isi (.slot 1) "int")
      (.cons (.ret [] (.and_ (.isi (.slot 0) "int") (.and_ (.not_ (.isi (.slot 0) "bool")) (.cmp .eq (.slot 0) (.slot 1)))))
      .nil)
      .nil)
      (.cons (.if_ [] (.isi (.slot 1) "str")
      (.cons (.ret [] (.and_ (.isi (.slot 0) "str") (.cmp .eq (.slot 0) (.slot 1))))
      .nil)
      .nil)
      (.cons (.if_ [] (.or_ (.and_ (.isi (.slot 1) "tuple") (.not_ (.isi (.slot 0) "tuple"))) (.and_ (.isi (.slot 1) "list") (.not_ (.isi (.slot 0) "list"))))
      (.cons (.ret [] (.lit (.bl false)))
      .nil)
      .nil)
      (.cons (.if_ [] (.cmp .ne (.bi .len (.cons (.slot 0) .nil)) (.bi .len (.cons (.slot 1) .nil)))
      (.cons (.ret [] (.lit (.bl false)))
      .nil)
      .nil)
      (.cons (.for_ [] (.name 2) (.rng1 (.bi .len (.cons (.slot 1) .nil)))
      (.cons (.if_ [] (.not_ (.call 5 (.cons (.idx (.slot 0) (.slot 2)) (.cons (.idx (.slot 1) (.slot 2)) .nil))))
      (.cons (.ret [] (.lit (.bl false)))
      .nil)
      .nil)
      .nil))
      (.cons (.ret [] (.lit (.bl true)))
      .nil))))))))
abbrev s_law_tree : Stmt := top 11
abbrev N_law_tree : List Str := ["digits", "sides", "free", "signs", "digit", "number", "turned", "rest", "one", "k"]
abbrev P_law_tree : List Str := ["digits", "sides", "free", "signs"]
theorem sc_law_tree : FnScope N_law_tree P_law_tree (defScope s_law_tree) := ⟨rfl, rfl, rfl, by decide +kernel, rfl, by decide +kernel, by decide +kernel⟩
-- law_tree: no form: by hand
abbrev s_law_far : Stmt := top 12
abbrev N_law_far : List Str := ["script", "k"]
abbrev P_law_far : List Str := ["script", "k"]
theorem sc_law_far : FnScope N_law_far P_law_far (defScope s_law_far) := ⟨rfl, rfl, rfl, by decide +kernel, rfl, by decide +kernel, by decide +kernel⟩
def ir_law_far : Ss :=
    (.cons (.if_ [] (.cmp .lt (.slot 1) (.bi .len (.cons (.slot 0) .nil)))
      (.cons (.ret [] (.bi .int_ (.cons (.idx (.slot 0) (.slot 1)) .nil)))
      .nil)
      .nil)
      (.cons (.ret [] (.bi .int_ (.cons (.call 3 (.cons (.bin .add (.bi .sum (.cons (.slot 0) .nil)) (.bi .len (.cons (.slot 0) .nil))) (.cons (.slot 1) .nil))) .nil)))
      .nil))
abbrev s_law_placed : Stmt := top 13
abbrev N_law_placed : List Str := ["tree", "start", "below", "branch"]
abbrev P_law_placed : List Str := ["tree", "start", "below"]
theorem sc_law_placed : FnScope N_law_placed P_law_placed (defScope s_law_placed) := ⟨rfl, rfl, rfl, by decide +kernel, rfl, by decide +kernel, by decide +kernel⟩
def ir_law_placed : Ss :=
    (.cons (.if_ [] (.cmp .eq (.idx (.slot 0) (.lit (.int 0))) (.lit (.str "tell")))
      (.cons (.ret [] (.idx (.slot 2) (.idx (.slot 0) (.lit (.int 1)))))
      .nil)
      .nil)
      (.cons (.ret [] (.tup (.cons (.lit (.str "ask")) (.cons (.bin .add (.slot 1) (.idx (.slot 0) (.lit (.int 1)))) (.cons (.idx (.slot 0) (.lit (.int 2))) (.cons (.bi .tuple_ (.cons (.comp (.call 8 (.cons (.slot 3) (.cons (.slot 1) (.cons (.slot 2) .nil)))) (.name 3) (.seq (.idx (.slot 0) (.lit (.int 3)))) [3]) .nil)) .nil))))))
      .nil))
abbrev s_law_grafted : Stmt := top 14
abbrev N_law_grafted : List Str := ["tree", "inner", "starts", "below", "branch"]
abbrev P_law_grafted : List Str := ["tree", "inner", "starts"]
theorem sc_law_grafted : FnScope N_law_grafted P_law_grafted (defScope s_law_grafted) := ⟨rfl, rfl, rfl, by decide +kernel, rfl, by decide +kernel, by decide +kernel⟩
def ir_law_grafted : Ss :=
    (.cons (.if_ [] (.cmp .eq (.idx (.slot 0) (.lit (.int 0))) (.lit (.str "tell")))
      (.cons (.ret [] (.slot 0))
      .nil)
      .nil)
      (.cons (.asg [] (.name 3) (.comp (.call 9 (.cons (.slot 4) (.cons (.slot 1) (.cons (.slot 2) .nil)))) (.name 4) (.seq (.idx (.slot 0) (.lit (.int 3)))) [4]))
      (.cons (.ret [3] (.call 8 (.cons (.idx (.idx (.slot 1) (.idx (.slot 0) (.lit (.int 1)))) (.idx (.slot 0) (.lit (.int 2)))) (.cons (.idx (.slot 2) (.idx (.slot 0) (.lit (.int 1)))) (.cons (.slot 3) .nil)))))
      .nil)))
abbrev s_law_starts : Stmt := top 15
abbrev N_law_starts : List Str := ["sizes", "found", "k"]
abbrev P_law_starts : List Str := ["sizes"]
theorem sc_law_starts : FnScope N_law_starts P_law_starts (defScope s_law_starts) := ⟨rfl, rfl, rfl, by decide +kernel, rfl, by decide +kernel, by decide +kernel⟩
def ir_law_starts : Ss :=
    (.cons (.asg [] (.name 1) (.lst .nil))
      (.cons (.for_ [] (.name 2) (.rng1 (.bi .len (.cons (.slot 0) .nil)))
      (.cons (.app 1 [] (.bi .sum (.cons (.slice (.slot 0) .no (.yes (.slot 2))) .nil)))
      .nil))
      (.cons (.retS 1)
      .nil)))
abbrev s_law_renumbered : Stmt := top 16
abbrev N_law_renumbered : List Str := ["tree", "where", "branch"]
abbrev P_law_renumbered : List Str := ["tree", "where"]
theorem sc_law_renumbered : FnScope N_law_renumbered P_law_renumbered (defScope s_law_renumbered) := ⟨rfl, rfl, rfl, by decide +kernel, rfl, by decide +kernel, by decide +kernel⟩
def ir_law_renumbered : Ss :=
    (.cons (.if_ [] (.cmp .eq (.idx (.slot 0) (.lit (.int 0))) (.lit (.str "tell")))
      (.cons (.ret [] (.slot 0))
      .nil)
      .nil)
      (.cons (.ret [] (.tup (.cons (.lit (.str "ask")) (.cons (.idx (.slot 1) (.idx (.slot 0) (.lit (.int 1)))) (.cons (.idx (.slot 0) (.lit (.int 2))) (.cons (.bi .tuple_ (.cons (.comp (.call 11 (.cons (.slot 2) (.cons (.slot 1) .nil))) (.name 2) (.seq (.idx (.slot 0) (.lit (.int 3)))) [2]) .nil)) .nil))))))
      .nil))
abbrev s_law_sides : Stmt := top 17
abbrev N_law_sides : List Str := ["cell", "many", "most", "drawn", "k"]
abbrev P_law_sides : List Str := ["cell", "many", "most"]
theorem sc_law_sides : FnScope N_law_sides P_law_sides (defScope s_law_sides) := ⟨rfl, rfl, rfl, by decide +kernel, rfl, by decide +kernel, by decide +kernel⟩
def ir_law_sides : Ss :=
    (.cons (.asg [] (.name 3) (.call 4 (.cons (.slot 0) (.cons (.bin .add (.bin .mul (.lst (.cons (.lit (.int 2)) .nil)) (.slot 1)) (.bin .mul (.lst (.cons (.lit (.int 5)) .nil)) (.slot 1))) .nil))))
      (.cons (.ret [3] (.comp (.tup (.cons (.bin .add (.lit (.int 1)) (.idx (.slot 3) (.slot 4))) (.cons (.bi .min2 (.cons (.slot 2) (.cons (.bin .add (.lit (.int 2)) (.bin .fdiv (.idx (.slot 3) (.bin .add (.slot 1) (.slot 4))) (.lit (.int 4)))) .nil))) .nil))) (.name 4) (.rng1 (.slot 1)) [4]))
      .nil))
abbrev s_law_some_trees : Stmt := top 18
abbrev N_law_some_trees : List Str := ["many", "sides", "signs", "cell", "digits", "k"]
abbrev P_law_some_trees : List Str := ["many", "sides", "signs", "cell"]
theorem sc_law_some_trees : FnScope N_law_some_trees P_law_some_trees (defScope s_law_some_trees) := ⟨rfl, rfl, rfl, by decide +kernel, rfl, by decide +kernel, by decide +kernel⟩
-- law_some_trees: no form: by hand
abbrev s_law_level : Stmt := top 19
abbrev N_law_level : List Str := ["above", "room", "script", "start", "drawn", "below", "trees", "k", "many", "sides"]
abbrev P_law_level : List Str := ["above", "room", "script", "start"]
theorem sc_law_level : FnScope N_law_level P_law_level (defScope s_law_level) := ⟨rfl, rfl, rfl, by decide +kernel, rfl, by decide +kernel, by decide +kernel⟩
def ir_law_level : Ss :=
    (.cons (.asg [] (.name 4) (.call 4 (.cons (.call 7 (.cons (.slot 2) (.cons (.slot 3) .nil))) (.cons (.bin .mul (.lst (.cons (.lit (.int 4)) .nil)) (.bi .len (.cons (.slot 0) .nil))) .nil))))
      (.cons (.asg [] (.name 5) (.lst .nil))
      (.cons (.asg [] (.name 6) (.lst .nil))
      (.cons (.for_ [] (.name 7) (.rng1 (.bi .len (.cons (.slot 0) .nil)))
      (.cons (.asg [4] (.name 8) (.bi .min2 (.cons (.slot 1) (.cons (.idx (.lst (.cons (.lit (.int 1)) (.cons (.lit (.int 2)) (.cons (.lit (.int 0)) (.cons (.lit (.int 2)) .nil))))) (.idx (.slot 4) (.slot 7))) .nil))))
      (.cons (.asg [] (.name 1) (.bin .sub (.slot 1) (.slot 8)))
      (.cons (.asg [] (.name 9) (.call 12 (.cons (.call 7 (.cons (.slot 2) (.cons (.bin .add (.bin .add (.slot 3) (.lit (.int 1))) (.bin .mul (.lit (.int 2)) (.slot 7))) .nil))) (.cons (.slot 8) (.cons (.lit (.int 3)) .nil)))))
      (.cons (.app 5 [9] (.slot 9))
      (.cons (.app 6 [9] (.call 13 (.cons (.idx (.idx (.slot 0) (.slot 7)) (.lit (.int 0))) (.cons (.slot 9) (.cons (.idx (.idx (.slot 0) (.slot 7)) (.lit (.int 1))) (.cons (.call 7 (.cons (.slot 2) (.cons (.bin .add (.bin .add (.slot 3) (.lit (.int 2))) (.bin .mul (.lit (.int 2)) (.slot 7))) .nil))) .nil))))))
      .nil))))))
      (.cons (.ret [5, 6] (.tup (.cons (.slot 5) (.cons (.slot 6) .nil))))
      .nil)))))
abbrev s_law_graft_of : Stmt := top 20
abbrev N_law_graft_of : List Str := ["trees", "inner", "sizes", "tree"]
abbrev P_law_graft_of : List Str := ["trees", "inner", "sizes"]
theorem sc_law_graft_of : FnScope N_law_graft_of P_law_graft_of (defScope s_law_graft_of) := ⟨rfl, rfl, rfl, by decide +kernel, rfl, by decide +kernel, by decide +kernel⟩
def ir_law_graft_of : Ss :=
    (.cons (.ret [] (.comp (.call 9 (.cons (.slot 3) (.cons (.slot 1) (.cons (.call 10 (.cons (.slot 2) .nil)) .nil)))) (.name 3) (.seq (.slot 0)) [3]))
      .nil)
abbrev s_law_told_graft : Stmt := top 21
abbrev N_law_told_graft : List Str := ["trees", "inner", "sizes", "handed", "told", "due", "some"]
abbrev P_law_told_graft : List Str := ["trees", "inner", "sizes"]
theorem sc_law_told_graft : FnScope N_law_told_graft P_law_told_graft (defScope s_law_told_graft) := ⟨rfl, rfl, rfl, by decide +kernel, rfl, by decide +kernel, by decide +kernel⟩
def ir_law_told_graft : Ss :=
    (.cons (.asg [] (.name 3) (.lst (.cons (.bi .list_ (.cons (.slot 0) .nil)) (.cons (.comp (.bi .list_ (.cons (.slot 6) .nil)) (.name 6) (.seq (.slot 1)) [6]) (.cons (.bi .list_ (.cons (.slot 2) .nil)) .nil)))))
      (.cons (.asg [3] (.name 4) (.callk 0 (.cons (.idx (.slot 3) (.lit (.int 0))) (.cons (.idx (.slot 3) (.lit (.int 1))) .nil)) (.cons (.idx (.slot 3) (.lit (.int 2))) .nil)))
      (.cons (.asg [] (.name 5) (.call 15 (.cons (.slot 0) (.cons (.slot 1) (.cons (.slot 2) .nil)))))
      (.cons (.if_ [3, 4, 5] (.or_ (.cmp .ne (.slot 3) (.lst (.cons (.bi .list_ (.cons (.slot 0) .nil)) (.cons (.comp (.bi .list_ (.cons (.slot 6) .nil)) (.name 6) (.seq (.slot 1)) [6]) (.cons (.bi .list_ (.cons (.slot 2) .nil)) .nil))))) (.not_ (.call 5 (.cons (.slot 4) (.cons (.slot 5) .nil)))))
      (.cons (.ret [] (.lit .non))
      .nil)
      .nil)
      (.cons (.app 4 [] (.tup (.cons (.lit (.str "tell")) (.cons (.lit (.int 0)) .nil))))
      (.cons (.if_ [5] (.not_ (.call 5 (.cons (.callk 0 (.cons (.bi .tuple_ (.cons (.slot 0) .nil)) (.cons (.bi .tuple_ (.cons (.slot 1) .nil)) .nil)) (.cons (.bi .tuple_ (.cons (.slot 2) .nil)) .nil)) (.cons (.slot 5) .nil))))
      (.cons (.ret [] (.lit .non))
      .nil)
      .nil)
      (.cons (.ret [4] (.slice (.slot 4) .no (.yes (.neg (.lit (.int 1))))))
      .nil)))))))
abbrev s_law_roads_meet : Stmt := top 22
abbrev N_law_roads_meet : List Str := ["outer", "inner", "sizes", "innermost", "few", "middle", "first", "half_way", "flat", "flat_few", "k", "second", "some", "one"]
abbrev P_law_roads_meet : List Str := ["outer", "inner", "sizes", "innermost", "few"]
theorem sc_law_roads_meet : FnScope N_law_roads_meet P_law_roads_meet (defScope s_law_roads_meet) := ⟨rfl, rfl, rfl, by decide +kernel, rfl, by decide +kernel, by decide +kernel⟩
def ir_law_roads_meet : Ss :=
    (.cons (.asg [] (.name 5) (.comp (.call 16 (.cons (.idx (.slot 1) (.slot 10)) (.cons (.idx (.slot 3) (.slot 10)) (.cons (.idx (.slot 4) (.slot 10)) .nil)))) (.name 10) (.rng1 (.bi .len (.cons (.slot 1) .nil))) [10]))
      (.cons (.if_ [5] (.cmp .gt (.bi .len (.cons (.compf (.slot 13) (.name 13) (.seq (.slot 5)) (.cmp .is_ (.slot 13) (.lit .non)) [13]) .nil)) (.lit (.int 0)))
      (.cons (.ret [] (.lit (.bl false)))
      .nil)
      .nil)
      (.cons (.asg [5] (.name 6) (.call 16 (.cons (.slot 0) (.cons (.slot 5) (.cons (.comp (.bi .sum (.cons (.slot 12) .nil)) (.name 12) (.seq (.slot 4)) [12]) .nil)))))
      (.cons (.asg [] (.name 7) (.call 16 (.cons (.slot 0) (.cons (.slot 1) (.cons (.slot 2) .nil)))))
      (.cons (.if_ [6, 7] (.or_ (.cmp .is_ (.slot 6) (.lit .non)) (.cmp .is_ (.slot 7) (.lit .non)))
      (.cons (.ret [] (.lit (.bl false)))
      .nil)
      .nil)
      (.cons (.asg [] (.name 8) (.lst .nil))
      (.cons (.asg [] (.name 9) (.lst .nil))
      (.cons (.for_ [] (.name 10) (.rng1 (.bi .len (.cons (.slot 1) .nil)))
      (.cons (.asg [8] (.name 8) (.bin .add (.slot 8) (.idx (.slot 3) (.slot 10))))
      (.cons (.asg [9] (.name 9) (.bin .add (.slot 9) (.idx (.slot 4) (.slot 10))))
      .nil)))
      (.cons (.asg [7, 8, 9] (.name 11) (.call 16 (.cons (.slot 7) (.cons (.slot 8) (.cons (.slot 9) .nil)))))
      (.cons (.ret [6, 11] (.and_ (.cmp .isn (.slot 11) (.lit .non)) (.call 5 (.cons (.slot 6) (.cons (.slot 11) .nil)))))
      .nil))))))))))
abbrev s_law_straight : Stmt := top 23
abbrev N_law_straight : List Str := ["side", "number", "tells", "turned", "sign"]
abbrev P_law_straight : List Str := ["side", "number"]
theorem sc_law_straight : FnScope N_law_straight P_law_straight (defScope s_law_straight) := ⟨rfl, rfl, rfl, by decide +kernel, rfl, by decide +kernel, by decide +kernel⟩
def ir_law_straight : Ss :=
    (.cons (.asg [] (.name 2) (.bi .tuple_ (.cons (.comp (.tup (.cons (.lit (.str "tell")) (.cons (.slot 4) .nil))) (.name 4) (.rng1 (.idx (.slot 0) (.lit (.int 1)))) [4]) .nil)))
      (.cons (.ret [] (.comp (.tup (.cons (.lit (.str "ask")) (.cons (.slot 1) (.cons (.slot 3) (.cons (.slot 2) .nil))))) (.name 3) (.rng1 (.idx (.slot 0) (.lit (.int 0)))) [3]))
      .nil))
abbrev s_law_straight_holds : Stmt := top 24
abbrev N_law_straight_holds : List Str := ["outer", "sides", "signs", "drawn", "many", "number", "some", "starts", "due", "plain", "tells", "k", "tree", "side", "sign"]
abbrev P_law_straight_holds : List Str := ["outer", "sides", "signs", "drawn"]
theorem sc_law_straight_holds : FnScope N_law_straight_holds P_law_straight_holds (defScope s_law_straight_holds) := ⟨rfl, rfl, rfl, by decide +kernel, rfl, by decide +kernel, by decide +kernel⟩
def ir_law_straight_holds : Ss :=
    (.cons (.asg [] (.name 4) (.comp (.bin .add (.lit (.int 1)) (.bin .fdiv (.idx (.slot 3) (.slot 11)) (.lit (.int 2)))) (.name 11) (.rng1 (.bi .len (.cons (.slot 1) .nil))) [11]))
      (.cons (.asg [4] (.name 5) (.comp (.bin .mod (.bi .int_ (.cons (.idx (.slot 3) (.slot 11)) .nil)) (.idx (.slot 4) (.slot 11))) (.name 11) (.rng1 (.bi .len (.cons (.slot 1) .nil))) [11]))
      (.cons (.asg [5] (.name 6) (.comp (.call 18 (.cons (.idx (.slot 1) (.slot 11)) (.cons (.idx (.slot 5) (.slot 11)) .nil))) (.name 11) (.rng1 (.bi .len (.cons (.slot 1) .nil))) [11]))
      (.cons (.asg [4] (.name 7) (.call 10 (.cons (.slot 4) .nil)))
      (.cons (.asg [5, 7] (.name 8) (.comp (.call 11 (.cons (.slot 12) (.cons (.comp (.bin .add (.idx (.slot 7) (.slot 11)) (.idx (.slot 5) (.slot 11))) (.name 11) (.rng1 (.bi .len (.cons (.slot 1) .nil))) [11]) .nil))) (.name 12) (.seq (.slot 0)) [12]))
      (.cons (.if_ [4, 6, 8] (.not_ (.call 5 (.cons (.callk 0 (.cons (.slot 0) (.cons (.slot 6) .nil)) (.cons (.slot 4) .nil)) (.cons (.slot 8) .nil))))
      (.cons (.ret [] (.lit (.bl false)))
      .nil)
      .nil)
      (.cons (.asg [] (.name 9) (.comp (.call 18 (.cons (.slot 13) (.cons (.lit (.int 0)) .nil))) (.name 13) (.seq (.slot 1)) [13]))
      (.cons (.if_ [9] (.not_ (.call 5 (.cons (.callk 0 (.cons (.slot 0) (.cons (.slot 9) .nil)) (.cons (.bin .mul (.lst (.cons (.lit (.int 1)) .nil)) (.bi .len (.cons (.slot 1) .nil))) .nil)) (.cons (.bi .list_ (.cons (.slot 0) .nil)) .nil))))
      (.cons (.ret [] (.lit (.bl false)))
      .nil)
      .nil)
      (.cons (.asg [] (.name 10) (.bi .tuple_ (.cons (.comp (.tup (.cons (.lit (.str "tell")) (.cons (.slot 14) .nil))) (.name 14) (.rng1 (.slot 2)) [14]) .nil)))
      (.cons (.ret [] (.call 5 (.cons (.callk 0 (.cons (.lst (.cons (.tup (.cons (.lit (.str "ask")) (.cons (.lit (.int 0)) (.cons (.lit (.int 0)) (.cons (.slot 10) .nil))))) .nil)) (.cons (.lst (.cons (.lst (.cons (.idx (.slot 0) (.lit (.int 0))) .nil)) .nil)) .nil)) (.cons (.lst (.cons (.bi .len (.cons (.slot 1) .nil)) .nil)) .nil)) (.cons (.lst (.cons (.idx (.slot 0) (.lit (.int 0))) .nil)) .nil))))
      .nil))))))))))
abbrev s_law : Stmt := top 25
abbrev N_law : List Str := ["script", "size", "sides", "signs", "outer", "level", "sizes", "every", "below", "deeper", "innermost", "few", "at", "many"]
abbrev P_law : List Str := ["script"]
theorem sc_law : FnScope N_law P_law (defScope s_law) := ⟨rfl, rfl, rfl, by decide +kernel, rfl, by decide +kernel, by decide +kernel⟩
def ir_law : Ss :=
    (.cons (.asg [] (.name 1) (.call 7 (.cons (.slot 0) (.cons (.lit (.int 0)) .nil))))
      (.cons (.asg [1] (.name 2) (.call 12 (.cons (.call 7 (.cons (.slot 0) (.cons (.lit (.int 1)) .nil))) (.cons (.bin .add (.lit (.int 1)) (.bin .mod (.bi .int_ (.cons (.slot 1) .nil)) (.lit (.int 3)))) (.cons (.lit (.int 3)) .nil)))))
      (.cons (.asg [1] (.name 3) (.bin .add (.lit (.int 2)) (.bin .mod (.bi .int_ (.cons (.bin .fdiv (.slot 1) (.lit (.int 9))) .nil)) (.lit (.int 2)))))
      (.cons (.asg [1, 2] (.name 4) (.call 13 (.cons (.bin .add (.lit (.int 1)) (.bin .mod (.bi .int_ (.cons (.bin .fdiv (.slot 1) (.lit (.int 3))) .nil)) (.lit (.int 3)))) (.cons (.slot 2) (.cons (.slot 3) (.cons (.call 7 (.cons (.slot 0) (.cons (.lit (.int 2)) .nil))) .nil))))))
      (.cons (.asg [2] (.name 5) (.call 14 (.cons (.slot 2) (.cons (.lit (.int 5)) (.cons (.slot 0) (.cons (.lit (.int 3)) .nil))))))
      (.cons (.asg [5] (.name 6) (.comp (.bi .len (.cons (.slot 8) .nil)) (.name 8) (.seq (.idx (.slot 5) (.lit (.int 0)))) [8]))
      (.cons (.asg [] (.name 7) (.lst .nil))
      (.cons (.for_ [5] (.name 8) (.seq (.idx (.slot 5) (.lit (.int 0))))
      (.cons (.asg [7] (.name 7) (.bin .add (.slot 7) (.slot 8)))
      .nil))
      (.cons (.asg [7] (.name 9) (.call 14 (.cons (.slot 7) (.cons (.lit (.int 5)) (.cons (.slot 0) (.cons (.lit (.int 10)) .nil))))))
      (.cons (.asg [] (.name 10) (.lst .nil))
      (.cons (.asg [] (.name 11) (.lst .nil))
      (.cons (.asg [] (.name 12) (.lit (.int 0)))
      (.cons (.for_ [6] (.name 13) (.seq (.slot 6))
      (.cons (.app 10 [9] (.slice (.idx (.slot 9) (.lit (.int 1))) (.yes (.slot 12)) (.yes (.bin .add (.slot 12) (.slot 13)))))
      (.cons (.app 11 [9] (.comp (.bi .len (.cons (.slot 8) .nil)) (.name 8) (.seq (.slice (.idx (.slot 9) (.lit (.int 0))) (.yes (.slot 12)) (.yes (.bin .add (.slot 12) (.slot 13))))) [8]))
      (.cons (.asg [] (.name 12) (.bin .add (.slot 12) (.slot 13)))
      .nil))))
      (.cons (.if_ [4, 5, 6, 10, 11] (.not_ (.call 17 (.cons (.slot 4) (.cons (.idx (.slot 5) (.lit (.int 1))) (.cons (.slot 6) (.cons (.slot 10) (.cons (.slot 11) .nil)))))))
      (.cons (.ret [] (.lit (.bl false)))
      .nil)
      .nil)
      (.cons (.ret [2, 4] (.call 19 (.cons (.slot 4) (.cons (.slot 2) (.cons (.slot 3) (.cons (.call 4 (.cons (.call 7 (.cons (.slot 0) (.cons (.lit (.int 21)) .nil))) (.cons (.lst (.cons (.lit (.int 4)) (.cons (.lit (.int 3)) (.cons (.lit (.int 2)) .nil)))) .nil))) .nil))))))
      .nil)))))))))))))))
def Tb : Tbl := ⟨[("grafted", 2, ["counts"]), ("grafted_tree", 4, []), ("placed_tree", 4, []), ("_law_mixed", 2, []), ("_law_draws", 2, []), ("_law_same", 2, []), ("_law_tree", 4, []), ("_law_far", 2, []), ("_law_placed", 3, []), ("_law_grafted", 3, []), ("_law_starts", 1, []), ("_law_renumbered", 2, []), ("_law_sides", 3, []), ("_law_some_trees", 4, []), ("_law_level", 4, []), ("_law_graft_of", 3, []), ("_law_told_graft", 3, []), ("_law_roads_meet", 5, []), ("_law_straight", 2, []), ("_law_straight_holds", 4, []), ("law", 1, [])], ["bool", "int", "isinstance", "len", "list", "min", "range", "str", "sum", "tuple"]⟩
theorem chk_grafted : chkSs Tb N_grafted (defScope s_grafted) (fun _ => true) ir_grafted (defBody s_grafted) = true := by decide +kernel
theorem chk_grafted_tree : chkSs Tb N_grafted_tree (defScope s_grafted_tree) (fun _ => true) ir_grafted_tree (defBody s_grafted_tree) = true := by decide +kernel
theorem chk_placed_tree : chkSs Tb N_placed_tree (defScope s_placed_tree) (fun _ => true) ir_placed_tree (defBody s_placed_tree) = true := by decide +kernel
theorem chk_law_mixed : chkSs Tb N_law_mixed (defScope s_law_mixed) (fun _ => true) ir_law_mixed (defBody s_law_mixed) = true := by decide +kernel
theorem chk_law_draws : chkSs Tb N_law_draws (defScope s_law_draws) (fun _ => true) ir_law_draws (defBody s_law_draws) = true := by decide +kernel
theorem chk_law_same : chkSs Tb N_law_same (defScope s_law_same) (fun _ => true) ir_law_same (defBody s_law_same) = true := by decide +kernel
theorem chk_law_far : chkSs Tb N_law_far (defScope s_law_far) (fun _ => true) ir_law_far (defBody s_law_far) = true := by decide +kernel
theorem chk_law_placed : chkSs Tb N_law_placed (defScope s_law_placed) (fun _ => true) ir_law_placed (defBody s_law_placed) = true := by decide +kernel
theorem chk_law_grafted : chkSs Tb N_law_grafted (defScope s_law_grafted) (fun _ => true) ir_law_grafted (defBody s_law_grafted) = true := by decide +kernel
theorem chk_law_starts : chkSs Tb N_law_starts (defScope s_law_starts) (fun _ => true) ir_law_starts (defBody s_law_starts) = true := by decide +kernel
theorem chk_law_renumbered : chkSs Tb N_law_renumbered (defScope s_law_renumbered) (fun _ => true) ir_law_renumbered (defBody s_law_renumbered) = true := by decide +kernel
theorem chk_law_sides : chkSs Tb N_law_sides (defScope s_law_sides) (fun _ => true) ir_law_sides (defBody s_law_sides) = true := by decide +kernel
theorem chk_law_level : chkSs Tb N_law_level (defScope s_law_level) (fun _ => true) ir_law_level (defBody s_law_level) = true := by decide +kernel
theorem chk_law_graft_of : chkSs Tb N_law_graft_of (defScope s_law_graft_of) (fun _ => true) ir_law_graft_of (defBody s_law_graft_of) = true := by decide +kernel
theorem chk_law_told_graft : chkSs Tb N_law_told_graft (defScope s_law_told_graft) (fun _ => true) ir_law_told_graft (defBody s_law_told_graft) = true := by decide +kernel
theorem chk_law_roads_meet : chkSs Tb N_law_roads_meet (defScope s_law_roads_meet) (fun _ => true) ir_law_roads_meet (defBody s_law_roads_meet) = true := by decide +kernel
theorem chk_law_straight : chkSs Tb N_law_straight (defScope s_law_straight) (fun _ => true) ir_law_straight (defBody s_law_straight) = true := by decide +kernel
theorem chk_law_straight_holds : chkSs Tb N_law_straight_holds (defScope s_law_straight_holds) (fun _ => true) ir_law_straight_holds (defBody s_law_straight_holds) = true := by decide +kernel
theorem chk_law : chkSs Tb N_law (defScope s_law) (fun _ => true) ir_law (defBody s_law) = true := by decide +kernel
/-! binding, the defs together -/
theorem bnd_grafted (kV doc pm : Value) (an : Option Addr) (cdv ct : Value) (us ws : List Value) (h1 : us.length = 2) (h2 : ws.length = 1) : bindArgs (PySem.W.fnOf "grafted" "grafted" (defArgs s_grafted) (defBody s_grafted) (defScope s_grafted) .none kV doc pm an cdv ct) ⟨us, (["counts"] : List Str).zip ws⟩ = pure (P_grafted.zip (us ++ ws)) := match us, ws, h1, h2 with | [_, _], [_], _, _ => rfl
theorem bnd_grafted_tree (kV doc pm : Value) (an : Option Addr) (cdv ct : Value) (us : List Value) (h : us.length = P_grafted_tree.length) : bindArgs (PySem.W.fnOf "grafted_tree" "grafted_tree" (defArgs s_grafted_tree) (defBody s_grafted_tree) (defScope s_grafted_tree) .none kV doc pm an cdv ct) ⟨us, []⟩ = pure (P_grafted_tree.zip us) := match us, h with | [_, _, _, _], _ => rfl
theorem bnd_placed_tree (kV doc pm : Value) (an : Option Addr) (cdv ct : Value) (us : List Value) (h : us.length = P_placed_tree.length) : bindArgs (PySem.W.fnOf "placed_tree" "placed_tree" (defArgs s_placed_tree) (defBody s_placed_tree) (defScope s_placed_tree) .none kV doc pm an cdv ct) ⟨us, []⟩ = pure (P_placed_tree.zip us) := match us, h with | [_, _, _, _], _ => rfl
theorem bnd_law_mixed (kV doc pm : Value) (an : Option Addr) (cdv ct : Value) (us : List Value) (h : us.length = P_law_mixed.length) : bindArgs (PySem.W.fnOf "_law_mixed" "_law_mixed" (defArgs s_law_mixed) (defBody s_law_mixed) (defScope s_law_mixed) .none kV doc pm an cdv ct) ⟨us, []⟩ = pure (P_law_mixed.zip us) := match us, h with | [_, _], _ => rfl
theorem bnd_law_draws (kV doc pm : Value) (an : Option Addr) (cdv ct : Value) (us : List Value) (h : us.length = P_law_draws.length) : bindArgs (PySem.W.fnOf "_law_draws" "_law_draws" (defArgs s_law_draws) (defBody s_law_draws) (defScope s_law_draws) .none kV doc pm an cdv ct) ⟨us, []⟩ = pure (P_law_draws.zip us) := match us, h with | [_, _], _ => rfl
theorem bnd_law_same (kV doc pm : Value) (an : Option Addr) (cdv ct : Value) (us : List Value) (h : us.length = P_law_same.length) : bindArgs (PySem.W.fnOf "_law_same" "_law_same" (defArgs s_law_same) (defBody s_law_same) (defScope s_law_same) .none kV doc pm an cdv ct) ⟨us, []⟩ = pure (P_law_same.zip us) := match us, h with | [_, _], _ => rfl
theorem bnd_law_tree (kV doc pm : Value) (an : Option Addr) (cdv ct : Value) (us : List Value) (h : us.length = P_law_tree.length) : bindArgs (PySem.W.fnOf "_law_tree" "_law_tree" (defArgs s_law_tree) (defBody s_law_tree) (defScope s_law_tree) .none kV doc pm an cdv ct) ⟨us, []⟩ = pure (P_law_tree.zip us) := match us, h with | [_, _, _, _], _ => rfl
theorem bnd_law_far (kV doc pm : Value) (an : Option Addr) (cdv ct : Value) (us : List Value) (h : us.length = P_law_far.length) : bindArgs (PySem.W.fnOf "_law_far" "_law_far" (defArgs s_law_far) (defBody s_law_far) (defScope s_law_far) .none kV doc pm an cdv ct) ⟨us, []⟩ = pure (P_law_far.zip us) := match us, h with | [_, _], _ => rfl
theorem bnd_law_placed (kV doc pm : Value) (an : Option Addr) (cdv ct : Value) (us : List Value) (h : us.length = P_law_placed.length) : bindArgs (PySem.W.fnOf "_law_placed" "_law_placed" (defArgs s_law_placed) (defBody s_law_placed) (defScope s_law_placed) .none kV doc pm an cdv ct) ⟨us, []⟩ = pure (P_law_placed.zip us) := match us, h with | [_, _, _], _ => rfl
theorem bnd_law_grafted (kV doc pm : Value) (an : Option Addr) (cdv ct : Value) (us : List Value) (h : us.length = P_law_grafted.length) : bindArgs (PySem.W.fnOf "_law_grafted" "_law_grafted" (defArgs s_law_grafted) (defBody s_law_grafted) (defScope s_law_grafted) .none kV doc pm an cdv ct) ⟨us, []⟩ = pure (P_law_grafted.zip us) := match us, h with | [_, _, _], _ => rfl
theorem bnd_law_starts (kV doc pm : Value) (an : Option Addr) (cdv ct : Value) (us : List Value) (h : us.length = P_law_starts.length) : bindArgs (PySem.W.fnOf "_law_starts" "_law_starts" (defArgs s_law_starts) (defBody s_law_starts) (defScope s_law_starts) .none kV doc pm an cdv ct) ⟨us, []⟩ = pure (P_law_starts.zip us) := match us, h with | [_], _ => rfl
theorem bnd_law_renumbered (kV doc pm : Value) (an : Option Addr) (cdv ct : Value) (us : List Value) (h : us.length = P_law_renumbered.length) : bindArgs (PySem.W.fnOf "_law_renumbered" "_law_renumbered" (defArgs s_law_renumbered) (defBody s_law_renumbered) (defScope s_law_renumbered) .none kV doc pm an cdv ct) ⟨us, []⟩ = pure (P_law_renumbered.zip us) := match us, h with | [_, _], _ => rfl
theorem bnd_law_sides (kV doc pm : Value) (an : Option Addr) (cdv ct : Value) (us : List Value) (h : us.length = P_law_sides.length) : bindArgs (PySem.W.fnOf "_law_sides" "_law_sides" (defArgs s_law_sides) (defBody s_law_sides) (defScope s_law_sides) .none kV doc pm an cdv ct) ⟨us, []⟩ = pure (P_law_sides.zip us) := match us, h with | [_, _, _], _ => rfl
theorem bnd_law_some_trees (kV doc pm : Value) (an : Option Addr) (cdv ct : Value) (us : List Value) (h : us.length = P_law_some_trees.length) : bindArgs (PySem.W.fnOf "_law_some_trees" "_law_some_trees" (defArgs s_law_some_trees) (defBody s_law_some_trees) (defScope s_law_some_trees) .none kV doc pm an cdv ct) ⟨us, []⟩ = pure (P_law_some_trees.zip us) := match us, h with | [_, _, _, _], _ => rfl
theorem bnd_law_level (kV doc pm : Value) (an : Option Addr) (cdv ct : Value) (us : List Value) (h : us.length = P_law_level.length) : bindArgs (PySem.W.fnOf "_law_level" "_law_level" (defArgs s_law_level) (defBody s_law_level) (defScope s_law_level) .none kV doc pm an cdv ct) ⟨us, []⟩ = pure (P_law_level.zip us) := match us, h with | [_, _, _, _], _ => rfl
theorem bnd_law_graft_of (kV doc pm : Value) (an : Option Addr) (cdv ct : Value) (us : List Value) (h : us.length = P_law_graft_of.length) : bindArgs (PySem.W.fnOf "_law_graft_of" "_law_graft_of" (defArgs s_law_graft_of) (defBody s_law_graft_of) (defScope s_law_graft_of) .none kV doc pm an cdv ct) ⟨us, []⟩ = pure (P_law_graft_of.zip us) := match us, h with | [_, _, _], _ => rfl
theorem bnd_law_told_graft (kV doc pm : Value) (an : Option Addr) (cdv ct : Value) (us : List Value) (h : us.length = P_law_told_graft.length) : bindArgs (PySem.W.fnOf "_law_told_graft" "_law_told_graft" (defArgs s_law_told_graft) (defBody s_law_told_graft) (defScope s_law_told_graft) .none kV doc pm an cdv ct) ⟨us, []⟩ = pure (P_law_told_graft.zip us) := match us, h with | [_, _, _], _ => rfl
theorem bnd_law_roads_meet (kV doc pm : Value) (an : Option Addr) (cdv ct : Value) (us : List Value) (h : us.length = P_law_roads_meet.length) : bindArgs (PySem.W.fnOf "_law_roads_meet" "_law_roads_meet" (defArgs s_law_roads_meet) (defBody s_law_roads_meet) (defScope s_law_roads_meet) .none kV doc pm an cdv ct) ⟨us, []⟩ = pure (P_law_roads_meet.zip us) := match us, h with | [_, _, _, _, _], _ => rfl
theorem bnd_law_straight (kV doc pm : Value) (an : Option Addr) (cdv ct : Value) (us : List Value) (h : us.length = P_law_straight.length) : bindArgs (PySem.W.fnOf "_law_straight" "_law_straight" (defArgs s_law_straight) (defBody s_law_straight) (defScope s_law_straight) .none kV doc pm an cdv ct) ⟨us, []⟩ = pure (P_law_straight.zip us) := match us, h with | [_, _], _ => rfl
theorem bnd_law_straight_holds (kV doc pm : Value) (an : Option Addr) (cdv ct : Value) (us : List Value) (h : us.length = P_law_straight_holds.length) : bindArgs (PySem.W.fnOf "_law_straight_holds" "_law_straight_holds" (defArgs s_law_straight_holds) (defBody s_law_straight_holds) (defScope s_law_straight_holds) .none kV doc pm an cdv ct) ⟨us, []⟩ = pure (P_law_straight_holds.zip us) := match us, h with | [_, _, _, _], _ => rfl
theorem bnd_law (kV doc pm : Value) (an : Option Addr) (cdv ct : Value) (us : List Value) (h : us.length = P_law.length) : bindArgs (PySem.W.fnOf "law" "law" (defArgs s_law) (defBody s_law) (defScope s_law) .none kV doc pm an cdv ct) ⟨us, []⟩ = pure (P_law.zip us) := match us, h with | [_], _ => rfl
def dfs : List He.DefD := [defD "grafted" s_grafted, defD "grafted_tree" s_grafted_tree, defD "placed_tree" s_placed_tree, defD "_law_mixed" s_law_mixed, defD "_law_draws" s_law_draws, defD "_law_same" s_law_same, defD "_law_tree" s_law_tree, defD "_law_far" s_law_far, defD "_law_placed" s_law_placed, defD "_law_grafted" s_law_grafted, defD "_law_starts" s_law_starts, defD "_law_renumbered" s_law_renumbered, defD "_law_sides" s_law_sides, defD "_law_some_trees" s_law_some_trees, defD "_law_level" s_law_level, defD "_law_graft_of" s_law_graft_of, defD "_law_told_graft" s_law_told_graft, defD "_law_roads_meet" s_law_roads_meet, defD "_law_straight" s_law_straight, defD "_law_straight_holds" s_law_straight_holds, defD "law" s_law]
def fP (i : Nat) : List Str := match i with
  | 0 => P_grafted
  | 1 => P_grafted_tree
  | 2 => P_placed_tree
  | 3 => P_law_mixed
  | 4 => P_law_draws
  | 5 => P_law_same
  | 6 => P_law_tree
  | 7 => P_law_far
  | 8 => P_law_placed
  | 9 => P_law_grafted
  | 10 => P_law_starts
  | 11 => P_law_renumbered
  | 12 => P_law_sides
  | 13 => P_law_some_trees
  | 14 => P_law_level
  | 15 => P_law_graft_of
  | 16 => P_law_told_graft
  | 17 => P_law_roads_meet
  | 18 => P_law_straight
  | 19 => P_law_straight_holds
  | 20 => P_law
  | _ => []
theorem base_at {K : PySem.W.Frag} {h : Heap} {mg : Str → Option Value} {cls : Str → Option Addr} (c : He.SaysD (facts Tb) dfs K) (X : K.In h) (G : h.Ns mainGlobals mg) :
    ∃ fD : Nat → FuncData, Base Tb ⟨K, cls⟩ mg (dAt dfs K) fD fP ∧ ∀ i d, dfs[i]? = some d → FunD K d.name d.qual d.params d.body d.scope (d.dvs K) (d.kws K) (dAt dfs K i) (fD i) := by
  obtain ⟨fD, F⟩ := dfs_of c
  refine ⟨fD, base_of c X G (by decide +kernel) F ?_, F⟩
  intro i x n ks e
  match i, e with
  | 0, e =>
    have e2 : some (("grafted" : Str), 2, (["counts"] : List Str)) = some (x, n, ks) := e
    cases e2
    exact ⟨fun z => (by cases z), fun _ => kbn_of (F 0 (defD "grafted" s_grafted) rfl) bnd_grafted⟩
  | 1, e =>
    have e2 : some (("grafted_tree" : Str), 4, ([] : List Str)) = some (x, n, ks) := e
    cases e2
    exact ⟨fun _ => FunD.bindsN (F 1 (defD "grafted_tree" s_grafted_tree) rfl) bnd_grafted_tree, fun z => absurd rfl z⟩
  | 2, e =>
    have e2 : some (("placed_tree" : Str), 4, ([] : List Str)) = some (x, n, ks) := e
    cases e2
    exact ⟨fun _ => FunD.bindsN (F 2 (defD "placed_tree" s_placed_tree) rfl) bnd_placed_tree, fun z => absurd rfl z⟩
  | 3, e =>
    have e2 : some (("_law_mixed" : Str), 2, ([] : List Str)) = some (x, n, ks) := e
    cases e2
    exact ⟨fun _ => FunD.bindsN (F 3 (defD "_law_mixed" s_law_mixed) rfl) bnd_law_mixed, fun z => absurd rfl z⟩
  | 4, e =>
    have e2 : some (("_law_draws" : Str), 2, ([] : List Str)) = some (x, n, ks) := e
    cases e2
    exact ⟨fun _ => FunD.bindsN (F 4 (defD "_law_draws" s_law_draws) rfl) bnd_law_draws, fun z => absurd rfl z⟩
  | 5, e =>
    have e2 : some (("_law_same" : Str), 2, ([] : List Str)) = some (x, n, ks) := e
    cases e2
    exact ⟨fun _ => FunD.bindsN (F 5 (defD "_law_same" s_law_same) rfl) bnd_law_same, fun z => absurd rfl z⟩
  | 6, e =>
    have e2 : some (("_law_tree" : Str), 4, ([] : List Str)) = some (x, n, ks) := e
    cases e2
    exact ⟨fun _ => FunD.bindsN (F 6 (defD "_law_tree" s_law_tree) rfl) bnd_law_tree, fun z => absurd rfl z⟩
  | 7, e =>
    have e2 : some (("_law_far" : Str), 2, ([] : List Str)) = some (x, n, ks) := e
    cases e2
    exact ⟨fun _ => FunD.bindsN (F 7 (defD "_law_far" s_law_far) rfl) bnd_law_far, fun z => absurd rfl z⟩
  | 8, e =>
    have e2 : some (("_law_placed" : Str), 3, ([] : List Str)) = some (x, n, ks) := e
    cases e2
    exact ⟨fun _ => FunD.bindsN (F 8 (defD "_law_placed" s_law_placed) rfl) bnd_law_placed, fun z => absurd rfl z⟩
  | 9, e =>
    have e2 : some (("_law_grafted" : Str), 3, ([] : List Str)) = some (x, n, ks) := e
    cases e2
    exact ⟨fun _ => FunD.bindsN (F 9 (defD "_law_grafted" s_law_grafted) rfl) bnd_law_grafted, fun z => absurd rfl z⟩
  | 10, e =>
    have e2 : some (("_law_starts" : Str), 1, ([] : List Str)) = some (x, n, ks) := e
    cases e2
    exact ⟨fun _ => FunD.bindsN (F 10 (defD "_law_starts" s_law_starts) rfl) bnd_law_starts, fun z => absurd rfl z⟩
  | 11, e =>
    have e2 : some (("_law_renumbered" : Str), 2, ([] : List Str)) = some (x, n, ks) := e
    cases e2
    exact ⟨fun _ => FunD.bindsN (F 11 (defD "_law_renumbered" s_law_renumbered) rfl) bnd_law_renumbered, fun z => absurd rfl z⟩
  | 12, e =>
    have e2 : some (("_law_sides" : Str), 3, ([] : List Str)) = some (x, n, ks) := e
    cases e2
    exact ⟨fun _ => FunD.bindsN (F 12 (defD "_law_sides" s_law_sides) rfl) bnd_law_sides, fun z => absurd rfl z⟩
  | 13, e =>
    have e2 : some (("_law_some_trees" : Str), 4, ([] : List Str)) = some (x, n, ks) := e
    cases e2
    exact ⟨fun _ => FunD.bindsN (F 13 (defD "_law_some_trees" s_law_some_trees) rfl) bnd_law_some_trees, fun z => absurd rfl z⟩
  | 14, e =>
    have e2 : some (("_law_level" : Str), 4, ([] : List Str)) = some (x, n, ks) := e
    cases e2
    exact ⟨fun _ => FunD.bindsN (F 14 (defD "_law_level" s_law_level) rfl) bnd_law_level, fun z => absurd rfl z⟩
  | 15, e =>
    have e2 : some (("_law_graft_of" : Str), 3, ([] : List Str)) = some (x, n, ks) := e
    cases e2
    exact ⟨fun _ => FunD.bindsN (F 15 (defD "_law_graft_of" s_law_graft_of) rfl) bnd_law_graft_of, fun z => absurd rfl z⟩
  | 16, e =>
    have e2 : some (("_law_told_graft" : Str), 3, ([] : List Str)) = some (x, n, ks) := e
    cases e2
    exact ⟨fun _ => FunD.bindsN (F 16 (defD "_law_told_graft" s_law_told_graft) rfl) bnd_law_told_graft, fun z => absurd rfl z⟩
  | 17, e =>
    have e2 : some (("_law_roads_meet" : Str), 5, ([] : List Str)) = some (x, n, ks) := e
    cases e2
    exact ⟨fun _ => FunD.bindsN (F 17 (defD "_law_roads_meet" s_law_roads_meet) rfl) bnd_law_roads_meet, fun z => absurd rfl z⟩
  | 18, e =>
    have e2 : some (("_law_straight" : Str), 2, ([] : List Str)) = some (x, n, ks) := e
    cases e2
    exact ⟨fun _ => FunD.bindsN (F 18 (defD "_law_straight" s_law_straight) rfl) bnd_law_straight, fun z => absurd rfl z⟩
  | 19, e =>
    have e2 : some (("_law_straight_holds" : Str), 4, ([] : List Str)) = some (x, n, ks) := e
    cases e2
    exact ⟨fun _ => FunD.bindsN (F 19 (defD "_law_straight_holds" s_law_straight_holds) rfl) bnd_law_straight_holds, fun z => absurd rfl z⟩
  | 20, e =>
    have e2 : some (("law" : Str), 1, ([] : List Str)) = some (x, n, ks) := e
    cases e2
    exact ⟨fun _ => FunD.bindsN (F 20 (defD "law" s_law) rfl) bnd_law, fun z => absurd rfl z⟩
  | i + 21, e =>
    have e2 : (none : Option (Str × Nat × List Str)) = some (x, n, ks) := e
    cases e2
def loose : List PySem.Str := (["DialError", "InvalidWiring", "grafted", "grafted_tree", "placed_tree", "_law_mixed", "_law_draws", "_law_same", "_law_tree", "_law_far", "_law_placed", "_law_grafted", "_law_starts", "_law_renumbered", "_law_sides", "_law_some_trees", "_law_level", "_law_graft_of", "_law_told_graft", "_law_roads_meet", "_law_straight", "_law_straight_holds"] : List PySem.Str)
def lawAt : Nat := 25
def lawIx : Nat := 20
end K81

set_option Elab.async false
set_option linter.all false
set_option maxRecDepth 100000
set_option maxHeartbeats 4000000
/-! K81b: what the defs that draw compute. -/
namespace K81
open PySem PySem.Spec PyProof.Rows L2 PD
open Enc (enc)
local macro_rules | `(tactic| walk_at "gd") => `(tactic| first
  | assumption
  | omega
  | (simp only [LIM, List.length_cons, List.length_nil, List.length_map, List.length_append, List.length_replicate, rngI_len, rngD_len, rngG, List.length_dropLast]; omega)
  | (simp only [LIM, List.length_cons, List.length_nil, List.length_map, List.length_append, List.length_replicate, rngI_len, rngD_len, rngG, List.length_dropLast]; done)
  | decide)
local macro_rules | `(tactic| walk_at "cl") => `(tactic| assumption)
local macro_rules | `(tactic| walk_at "ix") => `(tactic| first
  | assumption
  | exact rfl
  | (apply at_map; (· walk_at "gd"); (· assumption)))
local macro_rules | `(tactic| walk_at "vb") => `(tactic| first
  | (apply vb_mul; walk_at "gd")
  | (apply vb_fdiv; walk_at "gd")
  | (apply vb_mod; walk_at "gd")
  | (apply vb_pow; walk_at "gd")
  | (apply vb_catT; walk_at "gd")
  | (apply vb_catL; walk_at "gd")
  | (apply vb_rep; walk_at "gd")
  | exact rfl)
local macro_rules | `(tactic| walk_at "td") => `(tactic| (apply td; (· walk_at "ev"); (· exact rfl)))
local macro_rules | `(tactic| walk_at "es") => `(tactic| first
  | exact es_nil
  | (apply es_cons; (· walk_at "td"); (· walk_at "es")))
local macro_rules | `(tactic| walk_at "eo") => `(tactic| first
  | exact eo_no
  | (apply eo_yes; walk_at "td"))
local macro_rules | `(tactic| walk_at "ob") => `(tactic| (apply ob; walk_at "ev"))
local macro_rules | `(tactic| walk_at "vc") => `(tactic| first | assumption | exact rfl)
local macro_rules | `(tactic| walk_at "ln") => `(tactic| first
  | ((try simp only [List.length_cons, List.length_nil, List.length_map, List.length_append, List.length_replicate, rngI_len, rngD_len, List.length_dropLast, List.length_range]); exact rfl)
  | assumption)
local macro_rules | `(tactic| walk_at "bi") => `(tactic| first
  | assumption
  | (apply bi_lenL; walk_at "ln")
  | (apply bi_lenT; walk_at "ln")
  | (apply bi_lenF; walk_at "ln")
  | exact rfl | assumption)
local macro_rules | `(tactic| walk_at "ev") => `(tactic| first
  | exact ev_lit
  | exact ev_slot rfl
  | (apply ev_bin; (· walk_at "td"); (· walk_at "td"); (· walk_at "vb"))
  | (apply ev_bi; (· walk_at "es"); (· walk_at "bi"))
  | (apply ev_call; (· walk_at "es"); (· walk_at "cl"))
  | (apply ev_idx; (· walk_at "td"); (· walk_at "td"); (· first | (apply ix_l; walk_at "ix") | (apply ix_t; walk_at "ix") | (apply ix_f; walk_at "ix")))
  | (apply ev_isi; (· walk_at "td"); (· exact rfl))
  | (apply ev_cmp; (· walk_at "td"); (· walk_at "td"); (· walk_at "vc"))
  | (apply ev_chain; (· walk_at "td"); (· walk_at "td"); (· walk_at "td"); (· walk_at "vc"); (· walk_at "vc"))
  | (apply ev_not; walk_at "ob")
  | (apply ev_and; (· walk_at "ob"); (· intro _; walk_at "ob"))
  | (apply ev_or; (· walk_at "ob"); (· intro _; walk_at "ob"))
  | (apply ev_lenS'; (· exact rfl); (· walk_at "ln"))
  | (apply ev_idxS; (· exact rfl); (· walk_at "td"); (· walk_at "ix"))
  | (apply ev_tup; (· walk_at "es"); (· walk_at "gd"))
  | (apply ev_lst; (· walk_at "es"); (· walk_at "gd"))
  | (apply ev_slice; (· walk_at "td"); (· walk_at "eo"); (· walk_at "eo"); (· exact rfl))
  | (apply ev_neg; walk_at "td")
  | (apply ev_listr1; (· walk_at "td"); (· walk_at "gd"))
  | (apply ev_listr2; (· walk_at "td"); (· walk_at "td"); (· walk_at "gd"))
  | (apply ev_callk; (· walk_at "es"); (· walk_at "es"); (· walk_at "cl"))
  | assumption)
local macro_rules | `(tactic| walk_at "asg") => `(tactic| (apply wp_asg; (· walk_at "ev"); (· exact rfl)))
local macro_rules | `(tactic| walk_at "app") => `(tactic| (apply wp_app; (· walk_at "td"); (· exact rfl); (· walk_at "gd")))
local macro_rules | `(tactic| walk_at "ret") => `(tactic| (apply wp_ret; (· walk_at "ev")))
local macro_rules | `(tactic| walk_at "if") => `(tactic| (apply wp_if; (· walk_at "ob")))
local macro_rules | `(tactic| walk_at "tt") => `(tactic| first | exact rfl | assumption | (simp; done) | (simp; omega))
local macro_rules | `(tactic| walk_at "no") => `(tactic| (apply wp_no; (· walk_at "ob"); (· walk_at "tt")))
local macro_rules | `(tactic| walk_at "yes") => `(tactic| (apply wp_ifT; (· walk_at "ob"); (· walk_at "tt")))
local macro_rules | `(tactic| walk_at "it") => `(tactic| first
  | (apply it_rng1; (· walk_at "td"); (· walk_at "gd"))
  | (apply it_rng2; (· walk_at "td"); (· walk_at "td"); (· walk_at "gd"))
  | (apply it_seq; (· walk_at "td"); (· first | (apply seq_lst; walk_at "gd") | (apply seq_tup; walk_at "gd") | (apply seq_fl; walk_at "gd"))))
theorem rngD_nat {n : Int} (h : 0 ≤ n) : rngD 0 n = (List.range n.toNat).map fun k : Nat => D.int (k : Nat) := by
  unfold rngD
  simp
theorem at_getD {l : List Int} {i : Int} {k : Nat} (h : i = (k : Nat)) (hk : k < l.length) : atI (l.map D.int) i = some (.int (l.getD k 0)) := by
  subst h
  exact atI_nat (by rw [List.getElem?_map, List.getElem?_eq_getElem hk, List.getD_eq_getElem?_getD, List.getElem?_eq_getElem hk]; rfl)
abbrev Sd := Int × Int
/-- a side as the law draws them -/
structure SdOk (s : Sd) : Prop where
  a : 1 ≤ s.1
  b : s.1 ≤ 2
  c : 2 ≤ s.2
  d : s.2 ≤ 3
def sideAt (d : List Int) (many k : Nat) : Sd := (1 + d.getD k 0, if 2 + d.getD (many + k) 0 / 4 < 3 then 2 + d.getD (many + k) 0 / 4 else 3)
def sidesF (cell : Int) (many : Nat) : List Sd :=
  (List.range many).map fun k => sideAt (draws cell cell 0 (List.replicate many 2 ++ List.replicate many 5)) many k
theorem getD_draw {cell : Int} {bs : List Int} (hb : ∀ b ∈ bs, 0 < b) {k : Nat} {b : Int} (h : bs[k]? = some b) : ∃ d, (draws cell cell 0 bs)[k]? = some d ∧ (draws cell cell 0 bs).getD k 0 = d ∧ 0 ≤ d ∧ d < b := by
  have hk : k < (draws cell cell 0 bs).length := by
    rw [draws_len]
    exact (List.getElem?_eq_some_iff.mp h).1
  have e := List.getElem?_eq_getElem hk
  refine ⟨_, e, ?_, draws_lt cell bs cell 0 hb k b _ h e⟩
  rw [List.getD_eq_getElem?_getD, e]
  rfl
theorem sidesF_ok (cell : Int) (many : Nat) : ∀ s ∈ sidesF cell many, SdOk s := fun s hs => by
  unfold sidesF at hs
  obtain ⟨k, hk, rfl⟩ := List.mem_map.mp hs
  have hk := List.mem_range.mp hk
  have hb : ∀ b ∈ List.replicate many (2 : Int) ++ List.replicate many 5, 0 < b := fun b hb => by
    rcases List.mem_append.mp hb with h | h <;> (have := (List.mem_replicate.mp h).2; omega)
  have e1 : (List.replicate many (2 : Int) ++ List.replicate many 5)[k]? = some 2 := by
    rw [List.getElem?_append_left (by simpa using hk), List.getElem?_replicate_of_lt hk]
  have e2 : (List.replicate many (2 : Int) ++ List.replicate many 5)[many + k]? = some 5 := by
    rw [List.getElem?_append_right (by simp), List.length_replicate, Nat.add_sub_cancel_left, List.getElem?_replicate_of_lt hk]
  obtain ⟨x, _, g1, g2, g3⟩ := getD_draw (cell := cell) hb e1
  obtain ⟨y, _, h1, h2, h3⟩ := getD_draw (cell := cell) hb e2
  unfold sideAt
  rw [g1, h1]
  refine ⟨?_, ?_, ?_, ?_⟩ <;> simp only <;> first | omega | (split <;> omega)
theorem sidesF_len (cell : Int) (many : Nat) : (sidesF cell many).length = many := by unfold sidesF; rw [List.length_map, List.length_range]
noncomputable def m_sides : Mf := fn3 (fun (cell many most : Int) => 0 ≤ many ∧ many ≤ 100 ∧ most = 3) fun cell many _ => .own ((sidesF cell many.toNat).map enc)
theorem m_sides_at {cell many : Int} (h : 0 ≤ many ∧ many ≤ 100) : m_sides [.int cell, .int many, .int 3] = some (.own ((sidesF cell many.toNat).map enc)) := fn3_at (a := cell) (b := many) (c := (3 : Int)) (p := fun (cell many most : Int) => 0 ≤ many ∧ many ≤ 100 ∧ most = 3) ⟨h.1, h.2, rfl⟩
theorem rep_one (n : Int) (x : Int) : (List.replicate n.toNat [D.int x]).flatten = (List.replicate n.toNat x).map D.int := by
  rw [List.map_replicate]
  generalize n.toNat = k
  induction k with
  | zero => rfl
  | succ k ih => rw [List.replicate_succ, List.flatten_cons, ih, List.replicate_succ]; rfl
theorem run_sides {Φ : Nat → Mf} (hΦ : Φ 4 = m_draws) : ∀ ds r, m_sides ds = some r → runD Φ 3 5 ir_law_sides ds = some r := fun ds r h => by
  obtain ⟨cell, many, most, rfl, ⟨h1, h2, rfl⟩, rfl⟩ := fn3_inv h
  show runD Φ 3 5 ir_law_sides [.int cell, .int many, .int 3] = _
  apply run_wp (np := 3) (ds := [.int cell, .int many, .int 3]) rfl
  have bl : (List.replicate many.toNat (2 : Int) ++ List.replicate many.toNat 5).length ≤ 100000 ∧ ∀ x ∈ List.replicate many.toNat (2 : Int) ++ List.replicate many.toNat 5, 0 < x ∧ x < 1073741824 := by
    refine ⟨by simp; omega, fun x hx => ?_⟩
    rcases List.mem_append.mp hx with h | h <;> (have := (List.mem_replicate.mp h).2; omega)
  have cl : Φ 4 [.int cell, .lst ((List.replicate many.toNat [D.int 2]).flatten ++ (List.replicate many.toNat [D.int 5]).flatten)] = some (.own ((draws cell cell 0 (List.replicate many.toNat (2 : Int) ++ List.replicate many.toNat 5)).map .int)) := by
    rw [hΦ, rep_one, rep_one, ← List.map_append]
    exact m_draws_at bl
  have hlen : (List.replicate many.toNat [D.int 2]).flatten.length + (List.replicate many.toNat [D.int 5]).flatten.length ≤ LIM := by
    rw [rep_one, rep_one]
    simp [LIM]
    omega
  walk_at "asg"
  have hd := draws_len cell (List.replicate many.toNat (2 : Int) ++ List.replicate many.toNat 5) cell 0
  simp only [List.length_append, List.length_replicate] at hd
  apply wp_ret
  · apply ev_comp (xs := List.range many.toNat) (fun k : Nat => D.int (k : Nat)) (fun k => enc (sideAt (draws cell cell 0 (List.replicate many.toNat 2 ++ List.replicate many.toNat 5)) many.toNat k))
    · rw [← rngD_nat h1]; walk_at "it"
    · intro k hk
      have hk := List.mem_range.mp hk
      have ix1 := at_getD (l := draws cell cell 0 (List.replicate many.toNat (2 : Int) ++ List.replicate many.toNat 5)) (i := (k : Nat)) (k := k) rfl (by omega)
      have ix2 := at_getD (l := draws cell cell 0 (List.replicate many.toNat (2 : Int) ++ List.replicate many.toNat 5)) (i := many + (k : Nat)) (k := many.toNat + k) (by omega) (by omega)
      exact ⟨_, rfl, by walk_at "td"⟩
  · show Sl.own _ = Sl.own _
    rw [sidesF, List.map_map]
    rfl

/-! ### _law_some_trees -/
def digF (cell : Int) : List Int := draws cell cell 0 (List.replicate 40 216)
def rngN (n : Nat) : List Int := (List.range n).map fun k : Nat => (k : Int)
def someF (many : Nat) (sides : List Sd) (signs cell : Int) : List Tr := (iterF (treeF sides signs 3 (rngN sides.length)) many (digF cell)).1
structure SomePre (many : Int) (sides : List Sd) (signs : Int) : Prop where
  m : 0 ≤ many ∧ many ≤ 100
  s : ∀ s ∈ sides, SdOk s
  l : sides.length ≤ 3
  g : 2 ≤ signs ∧ signs ≤ 3
theorem SomePre.tree {many : Int} {sides : List Sd} {signs : Int} (h : SomePre many sides signs) : TreePre sides signs (rngN sides.length) := by
  refine ⟨fun s hs => ?_, by have := h.g; omega, fun b hb => ?_, ?_⟩
  · have hh := h.s s hs
    have := hh.a; have := hh.b; have := hh.c; have := hh.d
    omega
  · unfold rngN at hb
    obtain ⟨k, hk, rfl⟩ := List.mem_map.mp hb
    have := List.mem_range.mp hk
    omega
  · unfold rngN
    have := h.l
    simp; omega
theorem rngN_len (n : Nat) : (rngN n).length = n := by unfold rngN; simp
theorem someF_len (many : Nat) (sides : List Sd) (signs cell : Int) : (someF many sides signs cell).length = many := iterF_len _ _ _
theorem someF_ok {many : Int} {sides : List Sd} {signs : Int} (h : SomePre many sides signs) (cell : Int) : ∀ t ∈ someF many.toNat sides signs cell, okT sides signs t ∧ t.ht ≤ sides.length := fun t ht => by
  have l := h.l
  have := fun dg => treeF_ok 3 (rngN sides.length) dg h.tree (by rw [rngN_len]; exact l)
  have := iterF_all (p := fun t => okT sides signs t ∧ t.ht ≤ sides.length) (f := treeF sides signs 3 (rngN sides.length)) (fun dg => ⟨(this dg).1, by have := (this dg).2.1; rwa [rngN_len] at this⟩) _ _ t ht
  exact this
noncomputable def m_some : Mf := fn4 (fun (many : Int) (sides : List Sd) (signs cell : Int) => SomePre many sides signs) fun many sides signs cell => .own ((someF many.toNat sides signs cell).map Tr.d)
theorem m_some_at {many : Int} {sides : List Sd} {signs cell : Int} (h : SomePre many sides signs) : m_some [.int many, .lst (sides.map enc), .int signs, .int cell] = some (.own ((someF many.toNat sides signs cell).map Tr.d)) := fn4_at (a := many) (b := sides) (c := signs) (d := cell) (p := fun (many : Int) (sides : List Sd) (signs cell : Int) => SomePre many sides signs) h
def ir_some : Ss := .cons (.asg [] (.name 4) (.call 4 (.cons (.slot 3) (.cons (.bin .mul (.lst (.cons (.lit (.int 216)) .nil)) (.lit (.int 40))) .nil)))) .nil
abbrev es_some : Es := .cons (.slot 1) (.cons (.listr .no (.yes (.bi .len (.cons (.slot 1) .nil)))) (.cons (.slot 2) .nil))
theorem chk_some : chkSl Tb N_law_some_trees (defScope s_law_some_trees) (fun _ => true) (chkLastB Tb N_law_some_trees (defScope s_law_some_trees) "_law_tree" es_some (.rng1 (.slot 0)) 4 5) ir_some (defBody s_law_some_trees) = true := by decide +kernel
theorem run_some {Φ : Nat → Mf} (hΦ : Φ 4 = m_draws) : ∀ ds r, m_some ds = some r → ∃ res, r = .own res ∧ RunB Φ (m_tree 3) ir_some [] es_some (.rng1 (.slot 0)) 4 5 4 6 ds res := fun ds r h => by
  obtain ⟨many, sides, signs, cell, rfl, hh, rfl⟩ := fn4_inv h
  clear h
  have h := hh
  refine ⟨_, rfl, rfl, ?_⟩
  have l3 := h.l
  have cl : Φ 4 [.int cell, .lst (List.replicate 40 [D.int 216]).flatten] = some (.own ((digF cell).map .int)) := by
    rw [hΦ]
    exact m_draws_at (c := cell) (b := List.replicate 40 216) ⟨by decide, by decide⟩
  have dl : (digF cell).length ≤ 1000 := by unfold digF; rw [draws_len]; decide
  have io := io_iter (n := 3) h.tree (by rw [rngN_len]; exact l3) many.toNat (digF cell) dl
  have m0 := h.m
  have run : wp Φ ir_some [.dat (.int many), .dat (.lst (sides.map enc)), .dat (.int signs), .dat (.int cell), .un, .un] ⟨fun ρ => ρ = [.dat (.int many), .dat (.lst (sides.map enc)), .dat (.int signs), .dat (.int cell), .own ((digF cell).map .int), .un], fun _ _ => False, fun _ => False, fun _ => False⟩ := by
    apply wp_asg
    · walk_at "ev"
    · exact rfl
    · exact wp_nil rfl
  obtain ⟨o, h1, h2⟩ := run
  cases o with
  | nx ρ =>
    have h2 : ρ = _ := h2
    subst h2
    refine ⟨_, _, h1, by decide, rngD 0 many, _, (digF cell).map .int, ?_, rfl, fun dl d => ?_, by rw [rngD_len, show (many - 0).toNat = many.toNat by omega]; rw [someF, ← Tr.ds_eq]; exact io⟩
    · walk_at "it"
    · have rr : rngD 0 (sides.length : Nat) = (rngN sides.length).map D.int := by
        rw [rngD_nat (by omega), rngN, List.map_map]; rfl
      rw [← rr]
      have ln : (sides.map (enc : Sd → D)).length = sides.length := List.length_map _
      exact es_cons (td (ev_slot rfl) rfl) (es_cons (td (ev_listr1 (td (ev_bi (es_cons (td (ev_slot rfl) rfl) es_nil) (bi_lenL ln)) rfl) (by rw [rngG, LIM]; omega)) rfl) (es_cons (td (ev_slot rfl) rfl) es_nil))
  | ret r ρ => exact h2.elim
  | brk ρ => exact h2.elim
  | ct ρ => exact h2.elim
end K81

set_option Elab.async false
set_option linter.all false
set_option maxRecDepth 100000
set_option maxHeartbeats 4000000
/-! K81c: _law_level. -/
namespace K81
open PySem PySem.Spec PyProof.Rows L2 PD
open Enc (enc)
local macro_rules | `(tactic| walk_at "gd") => `(tactic| first
  | assumption
  | omega
  | (simp only [LIM, List.length_cons, List.length_nil, List.length_map, List.length_append, List.length_replicate, rngI_len, rngD_len, rngG, List.length_dropLast]; omega)
  | (simp only [LIM, List.length_cons, List.length_nil, List.length_map, List.length_append, List.length_replicate, rngI_len, rngD_len, rngG, List.length_dropLast]; done)
  | decide)
local macro_rules | `(tactic| walk_at "cl") => `(tactic| assumption)
local macro_rules | `(tactic| walk_at "ix") => `(tactic| first
  | assumption
  | exact rfl
  | (apply at_map; (· walk_at "gd"); (· assumption)))
local macro_rules | `(tactic| walk_at "vb") => `(tactic| first
  | (apply vb_mul; walk_at "gd")
  | (apply vb_fdiv; walk_at "gd")
  | (apply vb_mod; walk_at "gd")
  | (apply vb_pow; walk_at "gd")
  | (apply vb_catT; walk_at "gd")
  | (apply vb_catL; walk_at "gd")
  | (apply vb_rep; walk_at "gd")
  | exact rfl)
local macro_rules | `(tactic| walk_at "td") => `(tactic| (apply td; (· walk_at "ev"); (· exact rfl)))
local macro_rules | `(tactic| walk_at "es") => `(tactic| first
  | exact es_nil
  | (apply es_cons; (· walk_at "td"); (· walk_at "es")))
local macro_rules | `(tactic| walk_at "eo") => `(tactic| first
  | exact eo_no
  | (apply eo_yes; walk_at "td"))
local macro_rules | `(tactic| walk_at "ob") => `(tactic| (apply ob; walk_at "ev"))
local macro_rules | `(tactic| walk_at "vc") => `(tactic| first | assumption | exact rfl)
local macro_rules | `(tactic| walk_at "ln") => `(tactic| first
  | ((try simp only [List.length_cons, List.length_nil, List.length_map, List.length_append, List.length_replicate, rngI_len, rngD_len, List.length_dropLast, List.length_range]); exact rfl)
  | assumption)
local macro_rules | `(tactic| walk_at "bi") => `(tactic| first
  | assumption
  | (apply bi_lenL; walk_at "ln")
  | (apply bi_lenT; walk_at "ln")
  | (apply bi_lenF; walk_at "ln")
  | exact rfl | assumption)
local macro_rules | `(tactic| walk_at "ev") => `(tactic| first
  | exact ev_lit
  | exact ev_slot rfl
  | (apply ev_bin; (· walk_at "td"); (· walk_at "td"); (· walk_at "vb"))
  | (apply ev_bi; (· walk_at "es"); (· walk_at "bi"))
  | (apply ev_call; (· walk_at "es"); (· walk_at "cl"))
  | (apply ev_idx; (· walk_at "td"); (· walk_at "td"); (· first | (apply ix_l; walk_at "ix") | (apply ix_t; walk_at "ix") | (apply ix_f; walk_at "ix")))
  | (apply ev_isi; (· walk_at "td"); (· exact rfl))
  | (apply ev_cmp; (· walk_at "td"); (· walk_at "td"); (· walk_at "vc"))
  | (apply ev_chain; (· walk_at "td"); (· walk_at "td"); (· walk_at "td"); (· walk_at "vc"); (· walk_at "vc"))
  | (apply ev_not; walk_at "ob")
  | (apply ev_and; (· walk_at "ob"); (· intro _; walk_at "ob"))
  | (apply ev_or; (· walk_at "ob"); (· intro _; walk_at "ob"))
  | (apply ev_lenS'; (· exact rfl); (· walk_at "ln"))
  | (apply ev_idxS; (· exact rfl); (· walk_at "td"); (· walk_at "ix"))
  | (apply ev_tup; (· walk_at "es"); (· walk_at "gd"))
  | (apply ev_lst; (· walk_at "es"); (· walk_at "gd"))
  | (apply ev_slice; (· walk_at "td"); (· walk_at "eo"); (· walk_at "eo"); (· exact rfl))
  | (apply ev_neg; walk_at "td")
  | (apply ev_listr1; (· walk_at "td"); (· walk_at "gd"))
  | (apply ev_listr2; (· walk_at "td"); (· walk_at "td"); (· walk_at "gd"))
  | (apply ev_callk; (· walk_at "es"); (· walk_at "es"); (· walk_at "cl"))
  | assumption)
local macro_rules | `(tactic| walk_at "asg") => `(tactic| (apply wp_asg; (· walk_at "ev"); (· exact rfl)))
local macro_rules | `(tactic| walk_at "app") => `(tactic| (apply wp_app; (· walk_at "td"); (· exact rfl); (· walk_at "gd")))
local macro_rules | `(tactic| walk_at "ret") => `(tactic| (apply wp_ret; (· walk_at "ev")))
local macro_rules | `(tactic| walk_at "if") => `(tactic| (apply wp_if; (· walk_at "ob")))
local macro_rules | `(tactic| walk_at "tt") => `(tactic| first | exact rfl | assumption | (simp; done) | (simp; omega))
local macro_rules | `(tactic| walk_at "no") => `(tactic| (apply wp_no; (· walk_at "ob"); (· walk_at "tt")))
local macro_rules | `(tactic| walk_at "yes") => `(tactic| (apply wp_ifT; (· walk_at "ob"); (· walk_at "tt")))
local macro_rules | `(tactic| walk_at "it") => `(tactic| first
  | (apply it_rng1; (· walk_at "td"); (· walk_at "gd"))
  | (apply it_rng2; (· walk_at "td"); (· walk_at "td"); (· walk_at "gd"))
  | (apply it_seq; (· walk_at "td"); (· first | (apply seq_lst; walk_at "gd") | (apply seq_tup; walk_at "gd") | (apply seq_fl; walk_at "gd"))))
def levW (dr : List Int) (k : Nat) : Int := ([1, 2, 0, 2] : List Int).getD (dr.getD k 0).toNat 0
def levM (dr : List Int) (k : Nat) (room : Int) : Int := if levW dr k < room then levW dr k else room
def levS (script : List Int) (start : Int) (dr : List Int) (k : Nat) (room : Int) : List Sd := sidesF (far script (start + 1 + 2 * (k : Nat))) (levM dr k room).toNat
def levT (script : List Int) (start : Int) (dr : List Int) (k : Nat) (room : Int) (s : Sd) : List Tr := someF s.1.toNat (levS script start dr k room) s.2 (far script (start + 2 + 2 * (k : Nat)))
def levGo (script : List Int) (start : Int) (dr : List Int) : Nat → Int → List Sd → List (List Sd) × List (List Tr)
  | _, _, [] => ([], [])
  | k, room, s :: rest => (levS script start dr k room :: (levGo script start dr (k + 1) (room - levM dr k room) rest).1, levT script start dr k room s :: (levGo script start dr (k + 1) (room - levM dr k room) rest).2)
def levD (script : List Int) (start : Int) (n : Nat) : List Int := draws (far script start) (far script start) 0 (List.replicate n 4)
def levelF (above : List Sd) (room : Int) (script : List Int) (start : Int) : List (List Sd) × List (List Tr) := levGo script start (levD script start above.length) 0 room above
theorem levD_len (script : List Int) (start : Int) (n : Nat) : (levD script start n).length = n := by unfold levD; rw [draws_len, List.length_replicate]
theorem levD_get (script : List Int) (start : Int) {n k : Nat} (h : k < n) : 0 ≤ (levD script start n).getD k 0 ∧ (levD script start n).getD k 0 < 4 := by
  obtain ⟨d, _, h1, h2⟩ := getD_draw (cell := far script start) (bs := List.replicate n 4) (k := k) (b := 4) (fun b hb => by have := (List.mem_replicate.mp hb).2; omega) (by rw [List.getElem?_replicate_of_lt h])
  unfold levD
  rw [h1]
  exact h2
theorem levW_ok {dr : List Int} {k : Nat} (h : 0 ≤ dr.getD k 0 ∧ dr.getD k 0 < 4) : 0 ≤ levW dr k ∧ levW dr k ≤ 2 ∧ atI [D.int 1, D.int 2, D.int 0, D.int 2] (dr.getD k 0) = some (.int (levW dr k)) := by
  unfold levW
  generalize dr.getD k 0 = x at h
  have : x = 0 ∨ x = 1 ∨ x = 2 ∨ x = 3 := by omega
  rcases this with rfl | rfl | rfl | rfl <;> exact ⟨by decide, by decide, rfl⟩
structure LevelPre (above : List Sd) (room : Int) (start : Int) : Prop where
  s : ∀ s ∈ above, SdOk s
  l : above.length ≤ 100
  r : 0 ≤ room ∧ room ≤ 5
  st : 0 ≤ start ∧ start ≤ 100
theorem levM_ok {dr : List Int} {k : Nat} {room : Int} (h : 0 ≤ dr.getD k 0 ∧ dr.getD k 0 < 4) (hr : 0 ≤ room ∧ room ≤ 5) : 0 ≤ levM dr k room ∧ levM dr k room ≤ 2 ∧ levM dr k room ≤ room ∧ 0 ≤ room - levM dr k room ∧ room - levM dr k room ≤ 5 := by
  obtain ⟨h1, h2, _⟩ := levW_ok h
  unfold levM
  split <;> omega
theorem levSome {script : List Int} {start : Int} {dr : List Int} {k : Nat} {room : Int} {s : Sd} (h : 0 ≤ dr.getD k 0 ∧ dr.getD k 0 < 4) (hr : 0 ≤ room ∧ room ≤ 5) (hs : SdOk s) : SomePre s.1 (levS script start dr k room) s.2 := by
  have h1 := hs.a; have h2 := hs.b; have h3 := hs.c; have h4 := hs.d
  obtain ⟨m1, m2, m3, _⟩ := levM_ok h hr
  refine ⟨by omega, sidesF_ok _ _, ?_, by omega⟩
  unfold levS
  rw [sidesF_len]
  omega
noncomputable def m_level : Mf := fn4 (fun (above : List Sd) (room : Int) (script : Fz Int) (start : Int) => LevelPre above room start) fun above room script start => .dat (enc (levelF above room script.l start))
theorem m_level_at {above : List Sd} {room : Int} {script : List Int} {start : Int} (h : LevelPre above room start) : m_level [.lst (above.map enc), .int room, .fl (script.map .int), .int start] = some (.dat (enc (levelF above room script start))) := fn4_at (a := above) (b := room) (c := Fz.mk script) (d := start) (p := fun (above : List Sd) (room : Int) (script : Fz Int) (start : Int) => LevelPre above room start) h
theorem run_level {Φ : Nat → Mf} (h4 : Φ 4 = m_draws) (h7 : Φ 7 = m_far) (h12 : Φ 12 = m_sides) (h13 : Φ 13 = m_some) : ∀ ds r, m_level ds = some r → runD Φ 4 10 ir_law_level ds = some r := fun ds r hh => by
  obtain ⟨above, room, ⟨script⟩, start, rfl, h, rfl⟩ := fn4_inv hh
  clear hh
  show runD Φ 4 10 ir_law_level [.lst (above.map enc), .int room, .fl (script.map .int), .int start] = _
  apply run_wp (np := 4) (ds := [.lst (above.map enc), .int room, .fl (script.map .int), .int start]) rfl
  have hl := h.l
  have hst := h.st
  have hrm := h.r
  have c1 : Φ 7 [.fl (script.map .int), .int start] = some (.dat (.int (far script start))) := by rw [h7]; exact m_far_at (by omega)
  have c2 : Φ 4 [.int (far script start), .lst (List.replicate above.length [D.int 4]).flatten] = some (.own ((levD script start above.length).map .int)) := by
    rw [h4]
    have : (List.replicate above.length [D.int 4]).flatten = (List.replicate above.length (4 : Int)).map D.int := rep_one above.length 4
    rw [this]
    exact m_draws_at ⟨by simp; omega, fun x hx => by have := (List.mem_replicate.mp hx).2; omega⟩
  walk_at "asg"
  walk_at "asg"
  walk_at "asg"
  have levdg := fun k hk => levD_get script start (n := above.length) (k := k) hk
  have hdr : (levD script start above.length).length = above.length := levD_len _ _ _
  obtain ⟨tot, htot⟩ : ∃ t, levelF above room script start = t := ⟨_, rfl⟩
  have htot' : levGo script start (levD script start above.length) 0 room above = tot := htot
  rw [htot]
  generalize levD script start above.length = dr at *
  refine wp_for (items := (List.range above.length).map fun k : Nat => D.int (k : Nat)) (fun k ρ => ∃ room' s4 bl tl s7 s8 s9, ρ = [.dat (.lst (above.map enc)), .dat (.int room'), .dat (.fl (script.map .int)), .dat (.int start), s4, .own (List.map enc bl), .own (List.map enc tl), s7, s8, s9] ∧ (s4 = .own (dr.map .int) ∨ s4 = .dat (.lst (dr.map .int))) ∧ 0 ≤ room' ∧ room' ≤ 5 ∧ (bl : List (List Sd)).length = k ∧ (tl : List (List Tr)).length = k ∧ k ≤ above.length ∧
    bl ++ (levGo script start dr k room' (above.drop k)).1 = tot.1 ∧ tl ++ (levGo script start dr k room' (above.drop k)).2 = tot.2) ?_ ⟨room, _, [], [], _, _, _, rfl, .inl rfl, hrm.1, hrm.2, rfl, rfl, Nat.zero_le _, by rw [← htot']; rfl, by rw [← htot']; rfl⟩ (fun k d ρ e hI => ?_) (fun ρ' hI => ?_)
  · rw [show (List.range above.length) = List.range ((above.length : Nat) : Int).toNat from rfl, ← rngD_nat (by omega)]
    walk_at "it"
  · obtain ⟨room', s4, bl, tl, s7, s8, s9, rfl, h4', r0, r5, bL, tL, hk, e1, e2⟩ := hI
    rw [List.getElem?_map] at e
    obtain ⟨k', e0, rfl⟩ := Option.map_eq_some_iff.mp e
    have hk' : k < above.length := by
      have := (List.getElem?_eq_some_iff.mp e0).1
      rwa [List.length_range] at this
    rw [List.getElem?_range hk'] at e0
    cases e0
    have hs : above[k]? = some above[k] := List.getElem?_eq_getElem hk'
    have sok := h.s _ (List.getElem_mem hk')
    generalize above[k] = s at hs sok
    have hdrop : above.drop k = s :: above.drop (k + 1) := by
      rw [List.drop_eq_getElem_cons hk']
      congr 1
      exact (List.getElem?_eq_some_iff.mp hs).2
    rw [hdrop, levGo] at e1 e2
    have dg := levdg k hk'
    have ix1 : atI (dr.map D.int) (k : Nat) = some (.int (dr.getD k 0)) := at_getD rfl (by omega)
    obtain ⟨w1, w2, ix2⟩ := levW_ok dg
    obtain ⟨m1, m2, m3, m4, m5⟩ := levM_ok dg ⟨r0, r5⟩
    have mn : vBi .min2 [.int room', .int (levW dr k)] = some (.dat (.int (levM dr k room'))) := rfl
    have ix3 : atI (above.map (enc : Sd → D)) (k : Nat) = some (.tup [.int s.1, .int s.2]) := at_map (by omega) hs
    have sp := levSome (script := script) (start := start) dg ⟨r0, r5⟩ sok
    have c7a : Φ 7 [.fl (script.map .int), .int (start + 1 + 2 * (k : Nat))] = some (.dat (.int (far script (start + 1 + 2 * (k : Nat))))) := by rw [h7]; exact m_far_at (by omega)
    have c7b : Φ 7 [.fl (script.map .int), .int (start + 2 + 2 * (k : Nat))] = some (.dat (.int (far script (start + 2 + 2 * (k : Nat))))) := by rw [h7]; exact m_far_at (by omega)
    have c12 : Φ 12 [.int (far script (start + 1 + 2 * (k : Nat))), .int (levM dr k room'), .int 3] = some (.own ((levS script start dr k room').map enc)) := by rw [h12]; exact m_sides_at (by omega)
    have c13 : Φ 13 [.int s.1, .lst ((levS script start dr k room').map enc), .int s.2, .int (far script (start + 2 + 2 * (k : Nat)))] = some (.own ((levT script start dr k room' s).map Tr.d)) := by rw [h13]; exact m_some_at sp
    refine ⟨_, rfl, ?_⟩
    have hfz : frz [4] (([.dat (.lst (above.map enc)), .dat (.int room'), .dat (.fl (script.map .int)), .dat (.int start), s4, .own (List.map enc bl), .own (List.map enc tl), s7, s8, s9] : PD.Env).set 7 (.dat (.int (k : Nat)))) = [.dat (.lst (above.map enc)), .dat (.int room'), .dat (.fl (script.map .int)), .dat (.int start), .dat (.lst (dr.map .int)), .own (List.map enc bl), .own (List.map enc tl), .dat (.int (k : Nat)), s8, s9] := by
      rcases h4' with rfl | rfl <;> rfl
    apply wp_asg
    · rw [hfz]; walk_at "ev"
    · rw [hfz]; exact rfl
    walk_at "asg"
    walk_at "asg"
    walk_at "app"
    walk_at "app"
    refine wp_nil ⟨room' - levM dr k room', _, bl ++ [levS script start dr k room'], tl ++ [levT script start dr k room' s], _, _, _, by rw [List.map_append, List.map_append]; rfl, .inr rfl, m4, m5, by rw [List.length_append, bL]; rfl, by rw [List.length_append, tL]; rfl, hk', by rw [List.append_assoc]; exact e1, by rw [List.append_assoc]; exact e2⟩
  · obtain ⟨room', s4, bl, tl, s7, s8, s9, rfl, h4', r0, r5, bL, tL, hk, e1, e2⟩ := hI
    rw [List.length_map, List.length_range, List.drop_length] at e1 e2
    rw [levGo, List.append_nil] at e1 e2
    subst e1 e2
    walk_at "ret"
    rfl
end K81

set_option Elab.async false
set_option linter.all false
set_option maxRecDepth 100000
set_option maxHeartbeats 4000000
/-! K81d: placed, grafted trees. -/
namespace K81
open PySem PySem.Spec PyProof.Rows L2 PD
open Enc (enc)
local macro_rules | `(tactic| walk_at "gd") => `(tactic| first
  | assumption
  | omega
  | (simp only [LIM, List.length_cons, List.length_nil, List.length_map, List.length_append, List.length_replicate, rngI_len, rngD_len, rngG, List.length_dropLast]; omega)
  | (simp only [LIM, List.length_cons, List.length_nil, List.length_map, List.length_append, List.length_replicate, rngI_len, rngD_len, rngG, List.length_dropLast]; done)
  | decide)
local macro_rules | `(tactic| walk_at "cl") => `(tactic| assumption)
local macro_rules | `(tactic| walk_at "ix") => `(tactic| first
  | assumption
  | exact rfl
  | (apply at_map; (· walk_at "gd"); (· assumption)))
local macro_rules | `(tactic| walk_at "vb") => `(tactic| first
  | (apply vb_mul; walk_at "gd")
  | (apply vb_fdiv; walk_at "gd")
  | (apply vb_mod; walk_at "gd")
  | (apply vb_pow; walk_at "gd")
  | (apply vb_catT; walk_at "gd")
  | (apply vb_catL; walk_at "gd")
  | (apply vb_rep; walk_at "gd")
  | exact rfl)
local macro_rules | `(tactic| walk_at "td") => `(tactic| (apply td; (· walk_at "ev"); (· exact rfl)))
local macro_rules | `(tactic| walk_at "es") => `(tactic| first
  | exact es_nil
  | (apply es_cons; (· walk_at "td"); (· walk_at "es")))
local macro_rules | `(tactic| walk_at "eo") => `(tactic| first
  | exact eo_no
  | (apply eo_yes; walk_at "td"))
local macro_rules | `(tactic| walk_at "ob") => `(tactic| (apply ob; walk_at "ev"))
local macro_rules | `(tactic| walk_at "vc") => `(tactic| first | assumption | exact rfl)
local macro_rules | `(tactic| walk_at "ln") => `(tactic| first
  | ((try simp only [List.length_cons, List.length_nil, List.length_map, List.length_append, List.length_replicate, rngI_len, rngD_len, List.length_dropLast, List.length_range]); exact rfl)
  | assumption)
local macro_rules | `(tactic| walk_at "bi") => `(tactic| first
  | assumption
  | (apply bi_lenL; walk_at "ln")
  | (apply bi_lenT; walk_at "ln")
  | (apply bi_lenF; walk_at "ln")
  | exact rfl | assumption)
local macro_rules | `(tactic| walk_at "ev") => `(tactic| first
  | exact ev_lit
  | exact ev_slot rfl
  | (apply ev_bin; (· walk_at "td"); (· walk_at "td"); (· walk_at "vb"))
  | (apply ev_bi; (· walk_at "es"); (· walk_at "bi"))
  | (apply ev_call; (· walk_at "es"); (· walk_at "cl"))
  | (apply ev_idx; (· walk_at "td"); (· walk_at "td"); (· first | (apply ix_l; walk_at "ix") | (apply ix_t; walk_at "ix") | (apply ix_f; walk_at "ix")))
  | (apply ev_isi; (· walk_at "td"); (· exact rfl))
  | (apply ev_cmp; (· walk_at "td"); (· walk_at "td"); (· walk_at "vc"))
  | (apply ev_chain; (· walk_at "td"); (· walk_at "td"); (· walk_at "td"); (· walk_at "vc"); (· walk_at "vc"))
  | (apply ev_not; walk_at "ob")
  | (apply ev_and; (· walk_at "ob"); (· intro _; walk_at "ob"))
  | (apply ev_or; (· walk_at "ob"); (· intro _; walk_at "ob"))
  | (apply ev_lenS'; (· exact rfl); (· walk_at "ln"))
  | (apply ev_idxS; (· exact rfl); (· walk_at "td"); (· walk_at "ix"))
  | (apply ev_tup; (· walk_at "es"); (· walk_at "gd"))
  | (apply ev_lst; (· walk_at "es"); (· walk_at "gd"))
  | (apply ev_slice; (· walk_at "td"); (· walk_at "eo"); (· walk_at "eo"); (· exact rfl))
  | (apply ev_neg; walk_at "td")
  | (apply ev_listr1; (· walk_at "td"); (· walk_at "gd"))
  | (apply ev_listr2; (· walk_at "td"); (· walk_at "td"); (· walk_at "gd"))
  | (apply ev_callk; (· walk_at "es"); (· walk_at "es"); (· walk_at "cl"))
  | assumption)
local macro_rules | `(tactic| walk_at "asg") => `(tactic| (apply wp_asg; (· walk_at "ev"); (· exact rfl)))
local macro_rules | `(tactic| walk_at "app") => `(tactic| (apply wp_app; (· walk_at "td"); (· exact rfl); (· walk_at "gd")))
local macro_rules | `(tactic| walk_at "ret") => `(tactic| (apply wp_ret; (· walk_at "ev")))
local macro_rules | `(tactic| walk_at "if") => `(tactic| (apply wp_if; (· walk_at "ob")))
local macro_rules | `(tactic| walk_at "tt") => `(tactic| first | exact rfl | assumption | (simp; done) | (simp; omega))
local macro_rules | `(tactic| walk_at "no") => `(tactic| (apply wp_no; (· walk_at "ob"); (· walk_at "tt")))
local macro_rules | `(tactic| walk_at "yes") => `(tactic| (apply wp_ifT; (· walk_at "ob"); (· walk_at "tt")))
local macro_rules | `(tactic| walk_at "it") => `(tactic| first
  | (apply it_rng1; (· walk_at "td"); (· walk_at "gd"))
  | (apply it_rng2; (· walk_at "td"); (· walk_at "td"); (· walk_at "gd"))
  | (apply it_seq; (· walk_at "td"); (· first | (apply seq_lst; walk_at "gd") | (apply seq_tup; walk_at "gd") | (apply seq_fl; walk_at "gd"))))
mutual
def placedT (start : Int) (below : List Tr) : Tr → Tr
  | .tell s => below.getD s.toNat (.tell 0)
  | .ask b d l => .ask (start + b) d (placedTs start below l)
def placedTs (start : Int) (below : List Tr) : List Tr → List Tr
  | [] => []
  | t :: r => placedT start below t :: placedTs start below r
end
theorem placedTs_eq (start : Int) (below : List Tr) : ∀ l, placedTs start below l = l.map (placedT start below)
  | [] => rfl
  | t :: r => by rw [placedTs, placedTs_eq start below r]; rfl
mutual
def graftT (inner : List (List Tr)) (starts : List Int) : Tr → Tr
  | .tell s => .tell s
  | .ask b d l => placedT (starts.getD b.toNat 0) (graftTs inner starts l) ((inner.getD b.toNat []).getD d.toNat (.tell 0))
def graftTs (inner : List (List Tr)) (starts : List Int) : List Tr → List Tr
  | [] => []
  | t :: r => graftT inner starts t :: graftTs inner starts r
end
theorem graftTs_eq (inner : List (List Tr)) (starts : List Int) : ∀ l, graftTs inner starts l = l.map (graftT inner starts)
  | [] => rfl
  | t :: r => by rw [graftTs, graftTs_eq inner starts r]; rfl
mutual
def renT (w : List Int) : Tr → Tr
  | .tell s => .tell s
  | .ask b d l => .ask (w.getD b.toNat 0) d (renTs w l)
def renTs (w : List Int) : List Tr → List Tr
  | [] => []
  | t :: r => renT w t :: renTs w r
end
theorem renTs_eq (w : List Int) : ∀ l, renTs w l = l.map (renT w)
  | [] => rfl
  | t :: r => by rw [renTs, renTs_eq w r]; rfl
/-- t asks boxes below c, tells signs below m -/
inductive Pl (c m : Nat) : Tr → Prop
  | tell {s : Int} : 0 ≤ s → s < (m : Nat) → Pl c m (.tell s)
  | ask {b d : Int} {l : List Tr} : 0 ≤ b → b < (c : Nat) → l.length ≤ 1000 → (∀ t, t ∈ l → Pl c m t) → Pl c m (.ask b d l)
/-- t can be grafted -/
inductive Gr (inner : List (List Tr)) (counts : List Int) : Tr → Prop
  | tell {s : Int} : Gr inner counts (.tell s)
  | ask {b d : Int} {l ts : List Tr} {t : Tr} {c : Nat} : 0 ≤ b → inner[b.toNat]? = some ts → 0 ≤ d → ts[d.toNat]? = some t → counts[b.toNat]? = some (c : Int) → Pl c l.length t → t.ht ≤ 12 → l.length ≤ 1000 → (∀ u, u ∈ l → Gr inner counts u) → Gr inner counts (.ask b d l)
theorem enc_tr (t : Tr) : enc t = t.d := rfl
theorem d_tell (s : Int) : (Tr.tell s).d = .tup [.str "tell", .int s] := by rw [Tr.d]
theorem d_ask (b d : Int) (l : List Tr) : (Tr.ask b d l).d = .tup [.str "ask", .int b, .int d, .tup (l.map Tr.d)] := by rw [Tr.d, Tr.ds_eq]
theorem vc_tell : vCmp .eq (.str "tell") (.str "tell") = some true := by decide +kernel
theorem vc_ask : vCmp .eq (.str "ask") (.str "tell") = some false := by decide +kernel
theorem ht_ask {b d : Int} {l : List Tr} {n : Nat} (h : (Tr.ask b d l).ht < n + 1) : ∀ t ∈ l, t.ht < n := fun t ht => by
  rw [Tr.ht] at h
  have := Tr.ht_le ht
  omega
/-! _law_placed -/
noncomputable def m_placed (n : Nat) : Mf := fn3 (fun (t : Tr) (start : Int) (below : List Tr) => (∃ c, Pl c below.length t) ∧ t.ht < n ∧ below.length ≤ 1000) fun t start below => .dat (placedT start below t).d
theorem m_placed_at {n : Nat} {t : Tr} {start : Int} {below : List Tr} (h : (∃ c, Pl c below.length t) ∧ t.ht < n ∧ below.length ≤ 1000) : m_placed n [t.d, .int start, .lst (below.map Tr.d)] = some (.dat (placedT start below t).d) := fn3_at (a := t) (b := start) (c := below) (p := fun (t : Tr) (start : Int) (below : List Tr) => (∃ c, Pl c below.length t) ∧ t.ht < n ∧ below.length ≤ 1000) h
theorem get_tr {below : List Tr} {s : Int} (h0 : 0 ≤ s) (h1 : s < (below.length : Nat)) : atI (below.map Tr.d) s = some (below.getD s.toNat (.tell 0)).d := by
  refine at_map h0 ?_
  have : s.toNat < below.length := by omega
  rw [List.getElem?_eq_getElem this, List.getD_eq_getElem?_getD, List.getElem?_eq_getElem this]
  rfl
theorem run_placed {Φ : Nat → Mf} {n : Nat} (h8 : Φ 8 = m_placed n) : ∀ ds r, m_placed (n + 1) ds = some r → runD Φ 3 4 ir_law_placed ds = some r := fun ds r hh => by
  obtain ⟨t, start, below, rfl, ⟨⟨c, hp⟩, hn, hb⟩, rfl⟩ := fn3_inv hh
  clear hh
  show runD Φ 3 4 ir_law_placed [t.d, .int start, .lst (below.map Tr.d)] = _
  cases hp with
  | @tell s h0 h1 =>
    rw [d_tell]
    apply run_wp (np := 3) (ds := [.tup [.str "tell", .int s], .int start, .lst (below.map Tr.d)]) rfl
    have vc := vc_tell
    have ix := get_tr h0 h1
    walk_at "yes"
    walk_at "ret"
    rw [placedT]
  | @ask b d l h0 h1 h2 h3 =>
    rw [d_ask]
    apply run_wp (np := 3) (ds := [.tup [.str "ask", .int b, .int d, .tup (l.map Tr.d)], .int start, .lst (below.map Tr.d)]) rfl
    have vc := vc_ask
    walk_at "no"
    have hl := ht_ask hn
    have cp : ∀ ρ : PD.Env, ρ = [.dat (.tup [.str "ask", .int b, .int d, .tup (l.map Tr.d)]), .dat (.int start), .dat (.lst (below.map Tr.d)), .un] → evE Φ (.comp (.call 8 (.cons (.slot 3) (.cons (.slot 1) (.cons (.slot 2) .nil)))) (.name 3) (.seq (.idx (.slot 0) (.lit (.int 3)))) [3]) ρ = some (.own (l.map fun t => (placedT start below t).d)) := by
      rintro ρ rfl
      apply ev_comp (xs := l) Tr.d (fun t => (placedT start below t).d)
      · walk_at "it"
      · intro t ht
        have cl : Φ 8 [t.d, .int start, .lst (below.map Tr.d)] = some (.dat (placedT start below t).d) := by rw [h8]; exact m_placed_at ⟨⟨c, h3 t ht⟩, hl t ht, hb⟩
        exact ⟨_, rfl, by walk_at "td"⟩
    have cp' := cp _ rfl
    walk_at "ret"
    rw [placedT, d_ask, placedTs_eq, List.map_map]
    rfl

/-! placed_tree of the program -/
noncomputable def m_pl (n : Nat) : Mf := fn4 (fun (t : Tr) (start count : Int) (below : List Tr) => Pl count.toNat below.length t ∧ 0 ≤ count ∧ t.ht < n ∧ below.length ≤ 1000) fun t start _ below => .dat (placedT start below t).d
theorem m_pl_at {n : Nat} {t : Tr} {start count : Int} {below : List Tr} (h : Pl count.toNat below.length t ∧ 0 ≤ count ∧ t.ht < n ∧ below.length ≤ 1000) : m_pl n [t.d, .int start, .int count, .lst (below.map Tr.d)] = some (.dat (placedT start below t).d) := fn4_at (a := t) (b := start) (c := count) (d := below) (p := fun (t : Tr) (start count : Int) (below : List Tr) => Pl count.toNat below.length t ∧ 0 ≤ count ∧ t.ht < n ∧ below.length ≤ 1000) h
theorem btw {a x b : Int} (h0 : a ≤ x) (h1 : x < b) : (!(decide (a ≤ x) && decide (x < b))) = false := by rw [decide_eq_true h0, decide_eq_true h1]; rfl
theorem run_pl {Φ : Nat → Mf} {n : Nat} (h2 : Φ 2 = m_pl n) : ∀ ds r, m_pl (n + 1) ds = some r → runD Φ 4 9 ir_placed_tree ds = some r := fun ds r hh => by
  obtain ⟨t, start, count, below, rfl, ⟨hp, hc, hn, hb⟩, rfl⟩ := fn4_inv hh
  clear hh
  show runD Φ 4 9 ir_placed_tree [t.d, .int start, .int count, .lst (below.map Tr.d)] = _
  cases hp with
  | @tell s h0 h1 =>
    rw [d_tell]
    apply run_wp (np := 4) (ds := [.tup [.str "tell", .int s], .int start, .int count, .lst (below.map Tr.d)]) rfl
    have vc := vc_tell
    have ix := get_tr h0 h1
    have bt := btw h0 h1
    walk_at "yes"
    walk_at "no"
    walk_at "ret"
    rw [placedT]
  | @ask b d l h0 h1 h2' h3 =>
    rw [d_ask]
    apply run_wp (np := 4) (ds := [.tup [.str "ask", .int b, .int d, .tup (l.map Tr.d)], .int start, .int count, .lst (below.map Tr.d)]) rfl
    have vc := vc_ask
    have h1' : b < count := by omega
    have bt := btw h0 h1'
    walk_at "no"
    walk_at "asg"
    walk_at "no"
    have hl := ht_ask hn
    have cp : ∀ ρ : PD.Env, ρ = [.dat (.tup [.str "ask", .int b, .int d, .tup (l.map Tr.d)]), .dat (.int start), .dat (.int count), .dat (.lst (below.map Tr.d)), .dat (.str "ask"), .dat (.int b), .dat (.int d), .dat (.tup (l.map Tr.d)), .un] → evE Φ (.comp (.call 2 (.cons (.slot 8) (.cons (.slot 1) (.cons (.slot 2) (.cons (.slot 3) .nil))))) (.name 8) (.seq (.slot 7)) [8]) ρ = some (.own (l.map fun t => (placedT start below t).d)) := by
      rintro ρ rfl
      apply ev_comp (xs := l) Tr.d (fun t => (placedT start below t).d)
      · walk_at "it"
      · intro t ht
        have cl : Φ 2 [t.d, .int start, .int count, .lst (below.map Tr.d)] = some (.dat (placedT start below t).d) := by rw [h2]; exact m_pl_at ⟨h3 t ht, hc, hl t ht, hb⟩
        exact ⟨_, rfl, by walk_at "td"⟩
    have cp' := cp _ rfl
    walk_at "ret"
    rw [placedT, d_ask, placedTs_eq, List.map_map]
    rfl
/-! _law_grafted -/
noncomputable def m_grafted (n : Nat) : Mf := fn3 (fun (t : Tr) (inner : List (List Tr)) (starts : List Int) => (∃ counts : List Int, Gr inner counts t ∧ counts.length ≤ starts.length) ∧ t.ht < n) fun t inner starts => .dat (graftT inner starts t).d
theorem m_grafted_at {n : Nat} {t : Tr} {inner : List (List Tr)} {starts : List Int} (h : (∃ counts : List Int, Gr inner counts t ∧ counts.length ≤ starts.length) ∧ t.ht < n) : m_grafted n [t.d, .lst (inner.map enc), .lst (starts.map .int)] = some (.dat (graftT inner starts t).d) := fn3_at (a := t) (b := inner) (c := starts) (p := fun (t : Tr) (inner : List (List Tr)) (starts : List Int) => (∃ counts : List Int, Gr inner counts t ∧ counts.length ≤ starts.length) ∧ t.ht < n) h
theorem some_lt {α : Type} {l : List α} {i : Nat} {x : α} (h : l[i]? = some x) : i < l.length := (List.getElem?_eq_some_iff.mp h).1
theorem getD_some {α : Type} {l : List α} {i : Nat} {x d : α} (h : l[i]? = some x) : l.getD i d = x := by rw [List.getD_eq_getElem?_getD, h]; rfl
theorem run_grafted {Φ : Nat → Mf} {n : Nat} (h8 : Φ 8 = m_placed 13) (h9 : Φ 9 = m_grafted n) : ∀ ds r, m_grafted (n + 1) ds = some r → runD Φ 3 5 ir_law_grafted ds = some r := fun ds r hh => by
  obtain ⟨t, inner, starts, rfl, ⟨⟨counts, hg, hc⟩, hn⟩, rfl⟩ := fn3_inv hh
  clear hh
  show runD Φ 3 5 ir_law_grafted [t.d, .lst (inner.map enc), .lst (starts.map .int)] = _
  cases hg with
  | @tell s =>
    rw [d_tell]
    apply run_wp (np := 3) (ds := [.tup [.str "tell", .int s], .lst (inner.map enc), .lst (starts.map .int)]) rfl
    have vc := vc_tell
    walk_at "yes"
    walk_at "ret"
    rw [graftT, d_tell]
  | @ask b d l ts u c h0 h1 h2 h3 h4 h5 h6 h7 h8' =>
    rw [d_ask]
    apply run_wp (np := 3) (ds := [.tup [.str "ask", .int b, .int d, .tup (l.map Tr.d)], .lst (inner.map enc), .lst (starts.map .int)]) rfl
    have vc := vc_ask
    walk_at "no"
    have hl := ht_ask hn
    have hb := some_lt h4
    have ix1 : atI (inner.map (enc : List Tr → D)) b = some (.lst (ts.map Tr.d)) := at_map h0 h1
    have ix2 : atI (ts.map Tr.d) d = some u.d := at_map h2 h3
    have ix3 : atI (starts.map D.int) b = some (.int (starts.getD b.toNat 0)) := at_getD (by omega) (by omega)
    have cp : ∀ ρ : PD.Env, ρ = [.dat (.tup [.str "ask", .int b, .int d, .tup (l.map Tr.d)]), .dat (.lst (inner.map enc)), .dat (.lst (starts.map .int)), .un, .un] → evE Φ (.comp (.call 9 (.cons (.slot 4) (.cons (.slot 1) (.cons (.slot 2) .nil)))) (.name 4) (.seq (.idx (.slot 0) (.lit (.int 3)))) [4]) ρ = some (.own (l.map fun t => (graftT inner starts t).d)) := by
      rintro ρ rfl
      apply ev_comp (xs := l) Tr.d (fun t => (graftT inner starts t).d)
      · walk_at "it"
      · intro t ht
        have cl : Φ 9 [t.d, .lst (inner.map enc), .lst (starts.map .int)] = some (.dat (graftT inner starts t).d) := by rw [h9]; exact m_grafted_at ⟨⟨counts, h8' t ht, hc⟩, hl t ht⟩
        exact ⟨_, rfl, by walk_at "td"⟩
    have cp' := cp _ rfl
    have em : l.map (fun t => (graftT inner starts t).d) = (l.map (graftT inner starts)).map Tr.d := by rw [List.map_map]; rfl
    rw [em] at cp'
    have c8 : Φ 8 [u.d, .int (starts.getD b.toNat 0), .lst ((l.map (graftT inner starts)).map Tr.d)] = some (.dat (placedT (starts.getD b.toNat 0) (l.map (graftT inner starts)) u).d) := by
      rw [h8]
      exact m_placed_at ⟨⟨c, by rw [List.length_map]; exact h5⟩, by omega, by rw [List.length_map]; exact h7⟩
    walk_at "asg"
    walk_at "ret"
    rw [graftT, graftTs_eq, getD_some h1, getD_some h3]
/-! grafted_tree of the program -/
noncomputable def m_gt (n : Nat) : Mf := fn4 (fun (t : Tr) (inner : Sq (List Tr)) (counts : Sq Int) (starts : List Int) => Gr inner.l counts.l t ∧ counts.l.length ≤ starts.length ∧ t.ht < n) fun t inner _ starts => .dat (graftT inner.l starts t).d
theorem m_gt_at {n : Nat} {t : Tr} {inner : Sq (List Tr)} {counts : Sq Int} {starts : List Int} (h : Gr inner.l counts.l t ∧ counts.l.length ≤ starts.length ∧ t.ht < n) : m_gt n [t.d, inner.d, counts.d, .lst (starts.map .int)] = some (.dat (graftT inner.l starts t).d) := fn4_at (a := t) (b := inner) (c := counts) (d := starts) (p := fun (t : Tr) (inner : Sq (List Tr)) (counts : Sq Int) (starts : List Int) => Gr inner.l counts.l t ∧ counts.l.length ≤ starts.length ∧ t.ht < n) h
theorem sq_ix {α : Type} [Enc α] {s : Sq α} {i : Int} {x : α} (h0 : 0 ≤ i) (h : s.l[i.toNat]? = some x) : vIdx s.d (.int i) = some (enc x) := by
  obtain ⟨t, l⟩ := s
  cases t
  · exact ix_l (at_map h0 h)
  · exact ix_t (at_map h0 h)
theorem sq_len {α : Type} [Enc α] (s : Sq α) : vBi .len [s.d] = some (.dat (.int (s.l.length : Nat))) := by
  obtain ⟨t, l⟩ := s
  cases t
  · exact bi_lenL (List.length_map _)
  · exact bi_lenT (List.length_map _)
theorem sq_seq {α : Type} [Enc α] {s : Sq α} (h : s.l.length ≤ LIM) : seqD s.d = some (s.l.map enc) := by
  obtain ⟨t, l⟩ := s
  cases t
  · exact seq_lst (by rw [List.length_map]; exact h)
  · exact seq_tup (by rw [List.length_map]; exact h)
end K81

set_option Elab.async false
set_option linter.all false
set_option maxRecDepth 100000
set_option maxHeartbeats 4000000
/-! K81e: the program's grafts, the starts. -/
namespace K81
open PySem PySem.Spec PyProof.Rows L2 PD
open Enc (enc)
local macro_rules | `(tactic| walk_at "gd") => `(tactic| first
  | assumption
  | omega
  | (simp only [LIM, List.length_cons, List.length_nil, List.length_map, List.length_append, List.length_replicate, rngI_len, rngD_len, rngG, List.length_dropLast]; omega)
  | (simp only [LIM, List.length_cons, List.length_nil, List.length_map, List.length_append, List.length_replicate, rngI_len, rngD_len, rngG, List.length_dropLast]; done)
  | decide)
local macro_rules | `(tactic| walk_at "cl") => `(tactic| assumption)
local macro_rules | `(tactic| walk_at "ix") => `(tactic| first
  | assumption
  | exact rfl
  | (apply at_map; (· walk_at "gd"); (· assumption)))
local macro_rules | `(tactic| walk_at "vb") => `(tactic| first
  | (apply vb_mul; walk_at "gd")
  | (apply vb_fdiv; walk_at "gd")
  | (apply vb_mod; walk_at "gd")
  | (apply vb_pow; walk_at "gd")
  | (apply vb_catT; walk_at "gd")
  | (apply vb_catL; walk_at "gd")
  | (apply vb_rep; walk_at "gd")
  | exact rfl)
local macro_rules | `(tactic| walk_at "td") => `(tactic| (apply td; (· walk_at "ev"); (· exact rfl)))
local macro_rules | `(tactic| walk_at "es") => `(tactic| first
  | exact es_nil
  | (apply es_cons; (· walk_at "td"); (· walk_at "es")))
local macro_rules | `(tactic| walk_at "eo") => `(tactic| first
  | exact eo_no
  | (apply eo_yes; walk_at "td"))
local macro_rules | `(tactic| walk_at "ob") => `(tactic| (apply ob; walk_at "ev"))
local macro_rules | `(tactic| walk_at "vc") => `(tactic| first | assumption | exact rfl)
local macro_rules | `(tactic| walk_at "ln") => `(tactic| first
  | ((try simp only [List.length_cons, List.length_nil, List.length_map, List.length_append, List.length_replicate, rngI_len, rngD_len, List.length_dropLast, List.length_range]); exact rfl)
  | assumption)
local macro_rules | `(tactic| walk_at "bi") => `(tactic| first
  | assumption
  | (apply bi_lenL; walk_at "ln")
  | (apply bi_lenT; walk_at "ln")
  | (apply bi_lenF; walk_at "ln")
  | exact rfl | assumption)
local macro_rules | `(tactic| walk_at "ev") => `(tactic| first
  | exact ev_lit
  | exact ev_slot rfl
  | (apply ev_bin; (· walk_at "td"); (· walk_at "td"); (· walk_at "vb"))
  | (apply ev_bi; (· walk_at "es"); (· walk_at "bi"))
  | (apply ev_call; (· walk_at "es"); (· walk_at "cl"))
  | (apply ev_idx; (· walk_at "td"); (· walk_at "td"); (· first | assumption | (apply ix_l; walk_at "ix") | (apply ix_t; walk_at "ix") | (apply ix_f; walk_at "ix")))
  | (apply ev_isi; (· walk_at "td"); (· exact rfl))
  | (apply ev_cmp; (· walk_at "td"); (· walk_at "td"); (· walk_at "vc"))
  | (apply ev_chain; (· walk_at "td"); (· walk_at "td"); (· walk_at "td"); (· walk_at "vc"); (· walk_at "vc"))
  | (apply ev_not; walk_at "ob")
  | (apply ev_and; (· walk_at "ob"); (· intro _; walk_at "ob"))
  | (apply ev_or; (· walk_at "ob"); (· intro _; walk_at "ob"))
  | (apply ev_lenS'; (· exact rfl); (· walk_at "ln"))
  | (apply ev_idxS; (· exact rfl); (· walk_at "td"); (· walk_at "ix"))
  | (apply ev_tup; (· walk_at "es"); (· walk_at "gd"))
  | (apply ev_lst; (· walk_at "es"); (· walk_at "gd"))
  | (apply ev_slice; (· walk_at "td"); (· walk_at "eo"); (· walk_at "eo"); (· exact rfl))
  | (apply ev_neg; walk_at "td")
  | (apply ev_listr1; (· walk_at "td"); (· walk_at "gd"))
  | (apply ev_listr2; (· walk_at "td"); (· walk_at "td"); (· walk_at "gd"))
  | (apply ev_callk; (· walk_at "es"); (· walk_at "es"); (· walk_at "cl"))
  | assumption)
local macro_rules | `(tactic| walk_at "asg") => `(tactic| (apply wp_asg; (· walk_at "ev"); (· exact rfl)))
local macro_rules | `(tactic| walk_at "app") => `(tactic| (apply wp_app; (· walk_at "td"); (· exact rfl); (· walk_at "gd")))
local macro_rules | `(tactic| walk_at "ret") => `(tactic| (apply wp_ret; (· walk_at "ev")))
local macro_rules | `(tactic| walk_at "if") => `(tactic| (apply wp_if; (· walk_at "ob")))
local macro_rules | `(tactic| walk_at "tt") => `(tactic| first | exact rfl | assumption | (simp; done) | (simp; omega))
local macro_rules | `(tactic| walk_at "no") => `(tactic| (apply wp_no; (· walk_at "ob"); (· walk_at "tt")))
local macro_rules | `(tactic| walk_at "yes") => `(tactic| (apply wp_ifT; (· walk_at "ob"); (· walk_at "tt")))
local macro_rules | `(tactic| walk_at "it") => `(tactic| first
  | (apply it_rng1; (· walk_at "td"); (· walk_at "gd"))
  | (apply it_rng2; (· walk_at "td"); (· walk_at "td"); (· walk_at "gd"))
  | (apply it_seq; (· walk_at "td"); (· first | assumption | (apply seq_lst; walk_at "gd") | (apply seq_tup; walk_at "gd") | (apply seq_fl; walk_at "gd"))))
theorem run_gt {Φ : Nat → Mf} {n : Nat} (h2' : Φ 2 = m_pl 13) (h1' : Φ 1 = m_gt n) : ∀ ds r, m_gt (n + 1) ds = some r → runD Φ 4 10 ir_grafted_tree ds = some r := fun ds r hh => by
  obtain ⟨t, inner, counts, starts, rfl, ⟨hg, hc, hn⟩, rfl⟩ := fn4_inv hh
  clear hh
  show runD Φ 4 10 ir_grafted_tree [t.d, inner.d, counts.d, .lst (starts.map .int)] = _
  cases hg with
  | @tell s =>
    rw [d_tell]
    apply run_wp (np := 4) (ds := [.tup [.str "tell", .int s], inner.d, counts.d, .lst (starts.map .int)]) rfl
    have vc := vc_tell
    walk_at "yes"
    walk_at "ret"
    rw [graftT, d_tell]
  | @ask b d l ts u c h0 h1 h2 h3 h4 h5 h6 h7 h8 =>
    rw [d_ask]
    apply run_wp (np := 4) (ds := [.tup [.str "ask", .int b, .int d, .tup (l.map Tr.d)], inner.d, counts.d, .lst (starts.map .int)]) rfl
    have vc := vc_ask
    have hb := some_lt h4
    have hb1 := some_lt h1
    have hd1 := some_lt h3
    have ix1 : vIdx inner.d (.int b) = some (.lst (ts.map Tr.d)) := sq_ix h0 h1
    have ix2 : atI (ts.map Tr.d) d = some u.d := at_map h2 h3
    have ix3 : atI (starts.map D.int) b = some (.int (starts.getD b.toNat 0)) := at_getD (by omega) (by omega)
    have ix4 : vIdx counts.d (.int b) = some (.int (c : Int)) := sq_ix h0 h4
    have sl := sq_len inner
    have bt : (!(decide (0 ≤ b) && decide (b < (inner.l.length : Nat))) || !(decide (0 ≤ d) && decide (d < (ts.length : Nat)))) = false := by
      rw [btw h0 (by omega), btw h2 (by omega)]; rfl
    walk_at "no"
    walk_at "asg"
    walk_at "no"
    have hl := ht_ask hn
    have cp : ∀ ρ : PD.Env, ρ = [.dat (.tup [.str "ask", .int b, .int d, .tup (l.map Tr.d)]), .dat inner.d, .dat counts.d, .dat (.lst (starts.map .int)), .un, .dat (.str "ask"), .dat (.int b), .dat (.int d), .dat (.tup (l.map Tr.d)), .un] → evE Φ (.comp (.call 1 (.cons (.slot 9) (.cons (.slot 1) (.cons (.slot 2) (.cons (.slot 3) .nil))))) (.name 9) (.seq (.slot 8)) [9]) ρ = some (.own (l.map fun t => (graftT inner.l starts t).d)) := by
      rintro ρ rfl
      apply ev_comp (xs := l) Tr.d (fun t => (graftT inner.l starts t).d)
      · walk_at "it"
      · intro t ht
        have cl : Φ 1 [t.d, inner.d, counts.d, .lst (starts.map .int)] = some (.dat (graftT inner.l starts t).d) := by rw [h1']; exact m_gt_at ⟨h8 t ht, hc, hl t ht⟩
        exact ⟨_, rfl, by walk_at "td"⟩
    have cp' := cp _ rfl
    have em : l.map (fun t => (graftT inner.l starts t).d) = (l.map (graftT inner.l starts)).map Tr.d := by rw [List.map_map]; rfl
    rw [em] at cp'
    have c2 : Φ 2 [u.d, .int (starts.getD b.toNat 0), .int (c : Int), .lst ((l.map (graftT inner.l starts)).map Tr.d)] = some (.dat (placedT (starts.getD b.toNat 0) (l.map (graftT inner.l starts)) u).d) := by
      rw [h2']
      exact m_pl_at ⟨by rw [List.length_map]; exact h5, by omega, by omega, by rw [List.length_map]; exact h7⟩
    walk_at "asg"
    walk_at "ret"
    rw [graftT, graftTs_eq, getD_some h1, getD_some h3]

/-! _law_starts -/
def startsF (sizes : List Int) : List Int := (List.range sizes.length).map fun k => (sizes.take k).sum
theorem startsF_len (sizes : List Int) : (startsF sizes).length = sizes.length := by unfold startsF; simp
theorem startsF_get {sizes : List Int} {k : Nat} (h : k < sizes.length) : (startsF sizes).getD k 0 = (sizes.take k).sum := by
  unfold startsF
  rw [List.getD_eq_getElem?_getD, List.getElem?_map, List.getElem?_range h]
  rfl
theorem cut_take {α : Type} {l : List α} {k : Nat} (h : k ≤ l.length) : PD.cutD l none (some (k : Nat)) = l.take k := by
  unfold PD.cutD
  rw [HT.sIx_none, HT.sIx_nat, List.drop_zero, Nat.sub_zero, Nat.min_eq_left h]
noncomputable def m_starts : Mf := fn1 (fun (sizes : List Int) => sizes.length ≤ 1000) fun sizes => .own ((startsF sizes).map .int)
theorem m_starts_at {sizes : List Int} (h : sizes.length ≤ 1000) : m_starts [.lst (sizes.map .int)] = some (.own ((startsF sizes).map .int)) := fn1_at (a := sizes) (p := fun (sizes : List Int) => sizes.length ≤ 1000) h
theorem sum_map (ns : List Int) : vBi .sum [.lst (ns.map D.int)] = some (.dat (.int ns.sum)) := by
  show (ints? (ns.map D.int)).map _ = _
  rw [ints?_map]; rfl
theorem rng_items {n k : Nat} {d : D} (h : ((List.range n).map fun k : Nat => D.int (k : Nat))[k]? = some d) : k < n ∧ d = .int (k : Nat) := by
  rw [List.getElem?_map] at h
  obtain ⟨k', e0, rfl⟩ := Option.map_eq_some_iff.mp h
  have hk' : k < n := by
    have := (List.getElem?_eq_some_iff.mp e0).1
    rwa [List.length_range] at this
  rw [List.getElem?_range hk'] at e0
  cases e0
  exact ⟨hk', rfl⟩
theorem rng_it (n : Nat) : ((List.range n).map fun k : Nat => D.int (k : Nat)) = rngD 0 (n : Nat) := by
  rw [rngD_nat (by omega)]; rfl
theorem run_starts {Φ : Nat → Mf} : ∀ ds r, m_starts ds = some r → runD Φ 1 3 ir_law_starts ds = some r := fun ds r hh => by
  obtain ⟨sizes, rfl, h, rfl⟩ := fn1_inv hh
  clear hh
  show runD Φ 1 3 ir_law_starts [.lst (sizes.map .int)] = _
  apply run_wp (np := 1) (ds := [.lst (sizes.map .int)]) rfl
  walk_at "asg"
  refine wp_for (items := (List.range sizes.length).map fun k : Nat => D.int (k : Nat)) (fun k ρ => ∃ s, ρ = [.dat (.lst (sizes.map .int)), .own (((List.range k).map fun k => (sizes.take k).sum).map D.int), s]) ?_ ⟨_, rfl⟩ (fun k d ρ e hI => ?_) (fun ρ' hI => ?_)
  · rw [rng_it]
    walk_at "it"
  · obtain ⟨s, rfl⟩ := hI
    obtain ⟨hk, rfl⟩ := rng_items e
    refine ⟨_, rfl, ?_⟩
    have sl : vSlice (.lst (sizes.map D.int)) none (some (k : Nat)) = some (.own ((sizes.take k).map D.int)) := by
      show some (Sl.own (PD.cutD _ _ _)) = _
      rw [cut_take (by rw [List.length_map]; omega), List.map_take]
    have sm := sum_map (sizes.take k)
    have es : evE Φ (.slice (.slot 0) .no (.yes (.slot 2))) [.dat (.lst (sizes.map .int)), .own (((List.range k).map fun k => (sizes.take k).sum).map D.int), .dat (.int (k : Nat))] = some (.own ((sizes.take k).map D.int)) := ev_slice (td (ev_slot rfl) rfl) eo_no (eo_yes (td (ev_slot rfl) rfl)) sl
    have ea : evE Φ (.bi .sum (.cons (.slice (.slot 0) .no (.yes (.slot 2))) .nil)) [.dat (.lst (sizes.map .int)), .own (((List.range k).map fun k => (sizes.take k).sum).map D.int), .dat (.int (k : Nat))] = some (.dat (.int (sizes.take k).sum)) := ev_bi (es_cons (td es rfl) es_nil) sm
    apply wp_app
    · exact td ea rfl
    · exact rfl
    · simp [LIM]; omega
    refine wp_nil ⟨.dat (.int (k : Nat)), ?_⟩
    rw [List.range_succ, List.map_append, List.map_append]
    rfl
  · obtain ⟨s, rfl⟩ := hI
    refine wp_retS rfl ?_
    rw [List.length_map, List.length_range]
    rfl
/-! grafted of the program -/
structure GPre (trees : List Tr) (inner : List (List Tr)) (counts : List Int) : Prop where
  g : ∀ t ∈ trees, Gr inner counts t
  h : ∀ t ∈ trees, t.ht < 28
  l : trees.length ≤ 1000
  e : inner.length = counts.length
  c : counts.length ≤ 1000
def grF (trees : List Tr) (inner : List (List Tr)) (counts : List Int) : List Tr := trees.map (graftT inner (startsF counts))
noncomputable def m_graft : Mf := fn3 (fun (trees : Sq Tr) (inner : Sq (List Tr)) (counts : Sq Int) => GPre trees.l inner.l counts.l) fun trees inner counts => .own ((grF trees.l inner.l counts.l).map Tr.d)
theorem m_graft_at {trees : Sq Tr} {inner : Sq (List Tr)} {counts : Sq Int} (h : GPre trees.l inner.l counts.l) : m_graft [trees.d, inner.d, counts.d] = some (.own ((grF trees.l inner.l counts.l).map Tr.d)) := fn3_at (a := trees) (b := inner) (c := counts) (p := fun (trees : Sq Tr) (inner : Sq (List Tr)) (counts : Sq Int) => GPre trees.l inner.l counts.l) h
theorem take_succ_sum {l : List Int} {k : Nat} {x : Int} (h : l[k]? = some x) : (l.take (k + 1)).sum = (l.take k).sum + x := by
  rw [List.take_succ, h]
  simp
theorem run_graft {Φ : Nat → Mf} (h1 : Φ 1 = m_gt 28) : ∀ ds r, m_graft ds = some r → runD Φ 3 7 ir_grafted ds = some r := fun ds r hh => by
  obtain ⟨trees, inner, counts, rfl, h, rfl⟩ := fn3_inv hh
  clear hh
  show runD Φ 3 7 ir_grafted [trees.d, inner.d, counts.d] = _
  apply run_wp (np := 3) (ds := [trees.d, inner.d, counts.d]) rfl
  have l1 := sq_len inner
  have l2 := sq_len counts
  have hl := h.l
  have hc := h.c
  have he := h.e
  have ss : seqD counts.d = some (counts.l.map enc) := sq_seq (by rw [LIM]; omega)
  have st : seqD trees.d = some (trees.l.map enc) := sq_seq (by rw [LIM]; omega)
  have vn : vCmp .ne (.int (inner.l.length : Nat)) (.int (counts.l.length : Nat)) = some false := by rw [he]; simp [vCmp]
  walk_at "no"
  walk_at "asg"
  walk_at "asg"
  refine wp_for (items := counts.l.map D.int) (fun k ρ => ∃ s, ρ = [.dat trees.d, .dat inner.d, .dat counts.d, .own (((List.range k).map fun k => (counts.l.take k).sum).map D.int), .dat (.int (counts.l.take k).sum), s, .un]) ?_ ⟨_, rfl⟩ (fun k d ρ e hI => ?_) (fun ρ' hI => ?_)
  · have : counts.l.map D.int = counts.l.map enc := rfl
    rw [this]
    walk_at "it"
  · obtain ⟨s, rfl⟩ := hI
    rw [List.getElem?_map] at e
    obtain ⟨x, e0, rfl⟩ := Option.map_eq_some_iff.mp e
    have hk := some_lt e0
    refine ⟨_, rfl, ?_⟩
    apply wp_app
    · walk_at "td"
    · exact rfl
    · simp [LIM]; omega
    walk_at "asg"
    refine wp_nil ⟨.dat (.int x), ?_⟩
    rw [List.range_succ, List.map_append, List.map_append, take_succ_sum e0]
    rfl
  · obtain ⟨s, rfl⟩ := hI
    rw [List.length_map]
    have cp : ∀ ρ : PD.Env, ρ = [.dat trees.d, .dat inner.d, .dat counts.d, .dat (.lst ((startsF counts.l).map D.int)), .dat (.int (counts.l.take counts.l.length).sum), s, .un] → evE Φ (.comp (.call 1 (.cons (.slot 6) (.cons (.slot 1) (.cons (.slot 2) (.cons (.slot 3) .nil))))) (.name 6) (.seq (.slot 0)) [6]) ρ = some (.own (trees.l.map fun t => (graftT inner.l (startsF counts.l) t).d)) := by
      rintro ρ rfl
      apply ev_comp (xs := trees.l) Tr.d (fun t => (graftT inner.l (startsF counts.l) t).d)
      · have : trees.l.map Tr.d = trees.l.map enc := rfl
        rw [this]
        walk_at "it"
      · intro t ht
        have cl : Φ 1 [t.d, inner.d, counts.d, .lst ((startsF counts.l).map .int)] = some (.dat (graftT inner.l (startsF counts.l) t).d) := by rw [h1]; exact m_gt_at ⟨h.g t ht, by rw [startsF_len]; exact Nat.le_refl _, h.h t ht⟩
        exact ⟨_, rfl, by walk_at "td"⟩
    have cp' := cp _ rfl
    apply wp_ret
    · exact cp'
    · show Sl.own _ = Sl.own _
      rw [grF, List.map_map]
      rfl
/-! _law_graft_of -/
noncomputable def m_graft_of : Mf := fn3 (fun (trees : List Tr) (inner : List (List Tr)) (counts : List Int) => GPre trees inner counts) fun trees inner counts => .own ((grF trees inner counts).map Tr.d)
theorem m_graft_of_at {trees : List Tr} {inner : List (List Tr)} {counts : List Int} (h : GPre trees inner counts) : m_graft_of [.lst (trees.map Tr.d), .lst (inner.map enc), .lst (counts.map .int)] = some (.own ((grF trees inner counts).map Tr.d)) := fn3_at (a := trees) (b := inner) (c := counts) (p := fun (trees : List Tr) (inner : List (List Tr)) (counts : List Int) => GPre trees inner counts) h
theorem run_graft_of {Φ : Nat → Mf} (h9 : Φ 9 = m_grafted 28) (h10 : Φ 10 = m_starts) : ∀ ds r, m_graft_of ds = some r → runD Φ 3 4 ir_law_graft_of ds = some r := fun ds r hh => by
  obtain ⟨trees, inner, counts, rfl, h, rfl⟩ := fn3_inv hh
  clear hh
  show runD Φ 3 4 ir_law_graft_of [.lst (trees.map Tr.d), .lst (inner.map enc), .lst (counts.map .int)] = _
  apply run_wp (np := 3) (ds := [.lst (trees.map Tr.d), .lst (inner.map enc), .lst (counts.map .int)]) rfl
  have hl := h.l
  have hc := h.c
  have c10 : Φ 10 [.lst (counts.map .int)] = some (.own ((startsF counts).map .int)) := by rw [h10]; exact m_starts_at hc
  apply wp_ret
  · apply ev_comp (xs := trees) Tr.d (fun t => (graftT inner (startsF counts) t).d)
    · walk_at "it"
    · intro t ht
      have cl : Φ 9 [t.d, .lst (inner.map enc), .lst ((startsF counts).map .int)] = some (.dat (graftT inner (startsF counts) t).d) := by rw [h9]; exact m_grafted_at ⟨⟨counts, h.g t ht, by rw [startsF_len]; exact Nat.le_refl _⟩, h.h t ht⟩
      exact ⟨_, rfl, by walk_at "td"⟩
  · show Sl.own _ = Sl.own _
    rw [grF, List.map_map]
    rfl
/-! _law_renumbered -/
noncomputable def m_ren (n : Nat) : Mf := fn2 (fun (t : Tr) (w : List Int) => (∃ m, Pl w.length m t) ∧ t.ht < n) fun t w => .dat (renT w t).d
theorem m_ren_at {n : Nat} {t : Tr} {w : List Int} (h : (∃ m, Pl w.length m t) ∧ t.ht < n) : m_ren n [t.d, .lst (w.map .int)] = some (.dat (renT w t).d) := fn2_at (a := t) (b := w) (p := fun (t : Tr) (w : List Int) => (∃ m, Pl w.length m t) ∧ t.ht < n) h
theorem run_ren {Φ : Nat → Mf} {n : Nat} (h11 : Φ 11 = m_ren n) : ∀ ds r, m_ren (n + 1) ds = some r → runD Φ 2 3 ir_law_renumbered ds = some r := fun ds r hh => by
  obtain ⟨t, w, rfl, ⟨⟨c, hp⟩, hn⟩, rfl⟩ := fn2_inv hh
  clear hh
  show runD Φ 2 3 ir_law_renumbered [t.d, .lst (w.map .int)] = _
  cases hp with
  | @tell s h0 h1 =>
    rw [d_tell]
    apply run_wp (np := 2) (ds := [.tup [.str "tell", .int s], .lst (w.map .int)]) rfl
    have vc := vc_tell
    walk_at "yes"
    walk_at "ret"
    rw [renT, d_tell]
  | @ask b d l h0 h1 h2 h3 =>
    rw [d_ask]
    apply run_wp (np := 2) (ds := [.tup [.str "ask", .int b, .int d, .tup (l.map Tr.d)], .lst (w.map .int)]) rfl
    have vc := vc_ask
    have ix : atI (w.map D.int) b = some (.int (w.getD b.toNat 0)) := at_getD (by omega) (by omega)
    walk_at "no"
    have hl := ht_ask hn
    have cp : ∀ ρ : PD.Env, ρ = [.dat (.tup [.str "ask", .int b, .int d, .tup (l.map Tr.d)]), .dat (.lst (w.map .int)), .un] → evE Φ (.comp (.call 11 (.cons (.slot 2) (.cons (.slot 1) .nil))) (.name 2) (.seq (.idx (.slot 0) (.lit (.int 3)))) [2]) ρ = some (.own (l.map fun t => (renT w t).d)) := by
      rintro ρ rfl
      apply ev_comp (xs := l) Tr.d (fun t => (renT w t).d)
      · walk_at "it"
      · intro t ht
        have cl : Φ 11 [t.d, .lst (w.map .int)] = some (.dat (renT w t).d) := by rw [h11]; exact m_ren_at ⟨⟨c, h3 t ht⟩, hl t ht⟩
        exact ⟨_, rfl, by walk_at "td"⟩
    have cp' := cp _ rfl
    walk_at "ret"
    rw [renT, d_ask, renTs_eq, List.map_map]
    rfl
end K81

set_option Elab.async false
set_option linter.all false
set_option maxRecDepth 100000
set_option maxHeartbeats 4000000
/-! K81f: the plain law: grafts associate. -/
namespace K81
open PySem PySem.Spec PyProof.Rows L2 PD
open Enc (enc)
theorem map_congr' {α β : Type} {f g : α → β} : ∀ {l : List α}, (∀ x ∈ l, f x = g x) → l.map f = l.map g
  | [], _ => rfl
  | x :: l, h => by rw [List.map_cons, List.map_cons, h x List.mem_cons_self, map_congr' fun y hy => h y (List.mem_cons_of_mem _ hy)]
theorem placed_tell (s : Int) (B : List Tr) (x : Int) : placedT s B (.tell x) = B.getD x.toNat (.tell 0) := by rw [placedT]
theorem placed_ask (s : Int) (B : List Tr) (b d : Int) (l : List Tr) : placedT s B (.ask b d l) = .ask (s + b) d (l.map (placedT s B)) := by rw [placedT, placedTs_eq]
theorem graft_tell (I : List (List Tr)) (S : List Int) (x : Int) : graftT I S (.tell x) = .tell x := by rw [graftT]
theorem graft_ask (I : List (List Tr)) (S : List Int) (b d : Int) (l : List Tr) : graftT I S (.ask b d l) = placedT (S.getD b.toNat 0) (l.map (graftT I S)) ((I.getD b.toNat []).getD d.toNat (.tell 0)) := by rw [graftT, graftTs_eq]
theorem getD_map {α β : Type} {f : α → β} {l : List α} {i : Nat} {a : α} : (l.map f).getD i (f a) = f (l.getD i a) := by
  rw [List.getD_eq_getElem?_getD, List.getD_eq_getElem?_getD, List.getElem?_map]
  cases l[i]? <;> rfl
theorem getD_mapL {α β : Type} {f : α → β} {l : List α} {i : Nat} {a : α} {b : β} (h : i < l.length) : (l.map f).getD i b = f (l.getD i a) := by
  rw [List.getD_eq_getElem?_getD, List.getD_eq_getElem?_getD, List.getElem?_map, List.getElem?_eq_getElem h]
  rfl
/-- placed into what is placed -/
theorem placed_placed {s r : Int} {B C : List Tr} {c : Nat} : ∀ {w : Tr}, Pl c C.length w → placedT s B (placedT r C w) = placedT (s + r) (C.map (placedT s B)) w := by
  intro w h
  induction h with
  | @tell x h0 h1 =>
    rw [placed_tell, placed_tell]
    exact (getD_mapL (by omega)).symm
  | @ask b d l h0 h1 h2 h3 ih =>
    rw [placed_ask, placed_ask, placed_ask, Int.add_assoc, List.map_map]
    congr 1
    exact map_congr' fun t ht => ih t ht
/-- a graft of what is placed -/
theorem graft_placed {F Ib : List (List Tr)} {S2 Sb few : List Int} {s s' : Int} {B : List Tr} (hs : 0 ≤ s) (hF : ∀ i ts, Ib[i]? = some ts → F[s.toNat + i]? = some ts) (hS : ∀ i c, few[i]? = some c → S2.getD (s.toNat + i) 0 = s' + Sb.getD i 0) : ∀ {u : Tr}, Gr Ib few u →
    graftT F S2 (placedT s B u) = placedT s' (B.map (graftT F S2)) (graftT Ib Sb u) := by
  intro u h
  induction h with
  | @tell x =>
    rw [graft_tell, placed_tell, placed_tell]
    rw [show (Tr.tell 0) = graftT F S2 (.tell 0) from (graft_tell _ _ _).symm, getD_map, graft_tell]
  | @ask b d l ts w c h0 h1 h2 h3 h4 h5 h6 h7 h8 ih =>
    rw [placed_ask, graft_ask, graft_ask]
    have e : (s + b).toNat = s.toNat + b.toNat := by omega
    rw [e, getD_some (hF _ _ h1), getD_some h1, getD_some h3, hS _ _ h4, placed_placed (c := c) (by rw [List.length_map]; exact h5), List.map_map, List.map_map]
    congr 1
    exact map_congr' fun t ht => ih t ht
/-- grafts associate -/
theorem graft_graft {I M F : List (List Tr)} {sizes S0 S1 S2 : List Int} {innermost : List (List (List Tr))} {few : List (List Int)}
    (hM : ∀ k ts, I[k]? = some ts → ∃ Ib fb, innermost[k]? = some Ib ∧ few[k]? = some fb ∧ M[k]? = some (ts.map (graftT Ib (startsF fb))) ∧ (∀ u ∈ ts, Gr Ib fb u) ∧ 0 ≤ S0.getD k 0 ∧
      (∀ i xs, Ib[i]? = some xs → F[(S0.getD k 0).toNat + i]? = some xs) ∧ (∀ i c, fb[i]? = some c → S2.getD ((S0.getD k 0).toNat + i) 0 = S1.getD k 0 + (startsF fb).getD i 0)) : ∀ {t : Tr}, Gr I sizes t →
    graftT F S2 (graftT I S0 t) = graftT M S1 t := by
  intro t h
  induction h with
  | @tell x => rw [graft_tell, graft_tell, graft_tell]
  | @ask b d l ts w c h0 h1 h2 h3 h4 h5 h6 h7 h8 ih =>
    obtain ⟨Ib, fb, e1, e2, e3, e4, e5, e6, e7⟩ := hM _ _ h1
    have hw : w ∈ ts := List.mem_of_getElem? h3
    rw [graft_ask I, graft_ask M, getD_some h1, getD_some h3, getD_some e3, getD_mapL (a := .tell 0) (some_lt h3), getD_some h3, graft_placed e5 e6 e7 (e4 w hw), List.map_map]
    congr 1
    exact map_congr' fun t ht => ih t ht
/-! heights -/
theorem placed_ht {s : Int} {B : List Tr} {m : Nat} (hB : ∀ t ∈ B, t.ht ≤ m) (u : Tr) : (placedT s B u).ht ≤ u.ht + m := by
  induction u using Tr.ind with
  | h1 x =>
    rw [placed_tell, List.getD_eq_getElem?_getD]
    cases e : B[x.toNat]? with
    | none => exact Nat.zero_le _
    | some t => exact Nat.le_trans (hB t (List.mem_of_getElem? e)) (by omega)
  | h2 b d l ih =>
    rw [placed_ask, Tr.ht, Tr.ht]
    have : Tr.hts (l.map (placedT s B)) ≤ Tr.hts l + m := Tr.hts_le fun t ht => by
      obtain ⟨u, hu, rfl⟩ := List.mem_map.mp ht
      exact Nat.le_trans (ih u hu) (Nat.add_le_add_right (Tr.ht_le hu) m)
    omega
theorem graft_ht {I : List (List Tr)} {S : List Int} {h : Nat} (hI : ∀ ts ∈ I, ∀ t ∈ ts, t.ht ≤ h) (t : Tr) : (graftT I S t).ht ≤ t.ht * h := by
  induction t using Tr.ind with
  | h1 x => rw [graft_tell]; exact Nat.zero_le _
  | h2 b d l ih =>
    rw [graft_ask, Tr.ht]
    have h1 : ((I.getD b.toNat []).getD d.toNat (.tell 0)).ht ≤ h := by
      rw [List.getD_eq_getElem?_getD]
      cases e : (I.getD b.toNat [])[d.toNat]? with
      | none => exact Nat.zero_le _
      | some u =>
        rw [List.getD_eq_getElem?_getD] at e
        cases e2 : I[b.toNat]? with
        | none => rw [e2] at e; cases e
        | some ts => rw [e2] at e; exact hI ts (List.mem_of_getElem? e2) u (List.mem_of_getElem? e)
    have h2 := placed_ht (s := S.getD b.toNat 0) (B := l.map (graftT I S)) (m := Tr.hts l * h) (fun t ht => by
      obtain ⟨u, hu, rfl⟩ := List.mem_map.mp ht
      exact Nat.le_trans (ih u hu) (Nat.mul_le_mul_right h (Tr.ht_le hu))) ((I.getD b.toNat []).getD d.toNat (.tell 0))
    rw [Nat.add_mul]
    omega
/-! well formed trees -/
theorem get_of {α : Type} {l : List α} {i : Nat} (h : i < l.length) : ∃ x, l[i]? = some x := ⟨_, List.getElem?_eq_getElem h⟩
theorem okT_tell {sides : List Sd} {signs s : Int} : okT sides signs (.tell s) ↔ 0 ≤ s ∧ s < signs := by rw [okT]
theorem okT_ask {sides : List Sd} {signs b d : Int} {l : List Tr} : okT sides signs (.ask b d l) ↔ ∃ x y, 0 ≤ b ∧ sides[b.toNat]? = some (x, y) ∧ 0 ≤ d ∧ d < x ∧ (l.length : Int) = y ∧ ∀ t ∈ l, okT sides signs t := by rw [okT]
def SdL (sides : List Sd) : Prop := ∀ s ∈ sides, SdOk s
theorem okT_pl {sides : List Sd} {signs : Int} (hs : SdL sides) {m : Nat} (hm : (m : Int) = signs) (t : Tr) : okT sides signs t → Pl sides.length m t := by
  induction t using Tr.ind with
  | h1 x => intro h; rw [okT_tell] at h; exact .tell h.1 (by omega)
  | h2 b d l ih =>
    intro h
    obtain ⟨x, y, h0, h1, h2, h3, h4, h5⟩ := okT_ask.mp h
    have := (hs _ (List.mem_of_getElem? h1)).d
    have := some_lt h1
    simp only at *
    exact .ask h0 (by omega) (by omega) fun t ht => ih t ht (h5 t ht)
structure InnerOk (sides : List Sd) (belows : List (List Sd)) (inner : List (List Tr)) : Prop where
  l1 : belows.length = sides.length
  l2 : inner.length = sides.length
  sd : ∀ bl ∈ belows, SdL bl
  at_ : ∀ (k : Nat) (s : Sd) (bl : List Sd) (tl : List Tr), sides[k]? = some s → belows[k]? = some bl → inner[k]? = some tl → (tl.length : Int) = s.1 ∧ ∀ t ∈ tl, okT bl s.2 t ∧ t.ht ≤ 12
def lens (belows : List (List Sd)) : List Int := belows.map fun b => (b.length : Nat)
theorem okT_gr {sides : List Sd} {belows : List (List Sd)} {inner : List (List Tr)} (hi : InnerOk sides belows inner) (hs : SdL sides) {signs : Int} (t : Tr) : okT sides signs t → Gr inner (lens belows) t := by
  induction t using Tr.ind with
  | h1 x => intro _; exact .tell
  | h2 b d l ih =>
    intro h
    obtain ⟨x, y, h0, h1, h2, h3, h4, h5⟩ := okT_ask.mp h
    have hb := some_lt h1
    have hd := (hs _ (List.mem_of_getElem? h1)).d
    obtain ⟨bl, e1⟩ := get_of (l := belows) (i := b.toNat) (by have := hi.l1; omega)
    obtain ⟨tl, e2⟩ := get_of (l := inner) (i := b.toNat) (by have := hi.l2; omega)
    obtain ⟨a1, a2⟩ := hi.at_ _ _ _ _ h1 e1 e2
    obtain ⟨u, e3⟩ := get_of (l := tl) (i := d.toNat) (by simp only at a1; omega)
    obtain ⟨b1, b2⟩ := a2 _ (List.mem_of_getElem? e3)
    simp only at *
    exact .ask h0 e2 h2 e3 (c := bl.length) (by unfold lens; rw [List.getElem?_map, e1]; rfl) (okT_pl (hi.sd _ (List.mem_of_getElem? e1)) h4 _ b1) b2 (by omega) fun t ht => ih t ht (h5 t ht)
theorem flat_get {α : Type} : ∀ {ls : List (List α)} {k i : Nat} {l : List α} {x : α}, ls[k]? = some l → l[i]? = some x → ls.flatten[((ls.take k).map List.length).sum + i]? = some x
  | m :: ls, 0, i, l, x, h1, h2 => by
    rw [List.getElem?_cons_zero] at h1
    cases h1
    simp only [List.take_zero, List.map_nil, List.sum_nil, Nat.zero_add, List.flatten_cons]
    rw [List.getElem?_append_left (some_lt h2)]
    exact h2
  | m :: ls, k + 1, i, l, x, h1, h2 => by
    rw [List.getElem?_cons_succ] at h1
    simp only [List.take_succ_cons, List.map_cons, List.sum_cons, List.flatten_cons]
    rw [List.getElem?_append_right (by omega), show m.length + ((ls.take k).map List.length).sum + i - m.length = ((ls.take k).map List.length).sum + i by omega]
    exact flat_get h1 h2
theorem sum_lens : ∀ (ls : List (List Sd)), (lens ls).sum = (((ls.map List.length).sum : Nat) : Int)
  | [] => rfl
  | l :: ls => by
    have ih := sum_lens ls
    unfold lens at ih ⊢
    rw [List.map_cons, List.map_cons, List.sum_cons, List.sum_cons, ih]
    omega
theorem lens_take (ls : List (List Sd)) (k : Nat) : (lens ls).take k = lens (ls.take k) := by unfold lens; rw [List.map_take]
theorem lens_len (ls : List (List Sd)) : (lens ls).length = ls.length := by unfold lens; rw [List.length_map]
theorem start_nat {ls : List (List Sd)} {k : Nat} (h : k < ls.length) : (startsF (lens ls)).getD k 0 = ((((ls.take k).map List.length).sum : Nat) : Int) := by
  rw [startsF_get (by rw [lens_len]; exact h), lens_take, sum_lens]
theorem placed_ok {F bl : List Sd} {signs y start : Int} {B : List Tr} (h0 : 0 ≤ start) (hF : ∀ i s, bl[i]? = some s → F[start.toNat + i]? = some s) (hy : (B.length : Int) = y) (hB : ∀ t ∈ B, okT F signs t) (u : Tr) : okT bl y u → okT F signs (placedT start B u) := by
  induction u using Tr.ind with
  | h1 x =>
    intro h
    obtain ⟨g0, g1⟩ := okT_tell.mp h
    rw [placed_tell]
    have : x.toNat < B.length := by omega
    rw [List.getD_eq_getElem?_getD, List.getElem?_eq_getElem this]
    exact hB _ (List.getElem_mem this)
  | h2 b d l ih =>
    intro h
    obtain ⟨x, z, g0, g1, g2, g3, g4, g5⟩ := okT_ask.mp h
    rw [placed_ask, okT_ask]
    refine ⟨x, z, by omega, by rw [show (start + b).toNat = start.toNat + b.toNat by omega]; exact hF _ _ g1, g2, g3, by rw [List.length_map]; exact g4, fun t ht => ?_⟩
    obtain ⟨u, hu, rfl⟩ := List.mem_map.mp ht
    exact ih u hu (g5 u hu)
theorem graft_ok {sides : List Sd} {belows : List (List Sd)} {inner : List (List Tr)} (hi : InnerOk sides belows inner) {signs : Int} (t : Tr) : okT sides signs t → okT belows.flatten signs (graftT inner (startsF (lens belows)) t) := by
  induction t using Tr.ind with
  | h1 x => intro h; rw [graft_tell]; exact okT_tell.mpr (okT_tell.mp h)
  | h2 b d l ih =>
    intro h
    obtain ⟨x, y, h0, h1, h2, h3, h4, h5⟩ := okT_ask.mp h
    have hb := some_lt h1
    have hb2 : b.toNat < belows.length := by have := hi.l1; omega
    obtain ⟨bl, e1⟩ := get_of (l := belows) (i := b.toNat) (by have := hi.l1; omega)
    obtain ⟨tl, e2⟩ := get_of (l := inner) (i := b.toNat) (by have := hi.l2; omega)
    obtain ⟨a1, a2⟩ := hi.at_ _ _ _ _ h1 e1 e2
    obtain ⟨u, e3⟩ := get_of (l := tl) (i := d.toNat) (by simp only at a1; omega)
    obtain ⟨b1, b2⟩ := a2 _ (List.mem_of_getElem? e3)
    rw [graft_ask, getD_some e2, getD_some e3, start_nat hb2]
    refine placed_ok (by omega) (fun i s e => ?_) (y := y) (by rw [List.length_map]; exact h4) (fun t ht => ?_) _ b1
    · rw [Int.toNat_natCast]
      exact flat_get e1 e
    · obtain ⟨u, hu, rfl⟩ := List.mem_map.mp ht
      exact ih u hu (h5 u hu)
end K81

set_option Elab.async false
set_option linter.all false
set_option maxRecDepth 100000
set_option maxHeartbeats 4000000
/-! K81g: _law_told_graft. -/
namespace K81
open PySem PySem.Spec PyProof.Rows L2 PD
open Enc (enc)
local macro_rules | `(tactic| walk_at "gd") => `(tactic| first
  | assumption
  | omega
  | (simp only [LIM, List.length_cons, List.length_nil, List.length_map, List.length_append, List.length_replicate, rngI_len, rngD_len, rngG, List.length_dropLast]; omega)
  | (simp only [LIM, List.length_cons, List.length_nil, List.length_map, List.length_append, List.length_replicate, rngI_len, rngD_len, rngG, List.length_dropLast]; done)
  | decide)
local macro_rules | `(tactic| walk_at "cl") => `(tactic| assumption)
local macro_rules | `(tactic| walk_at "ix") => `(tactic| first
  | assumption
  | exact rfl
  | (apply at_map; (· walk_at "gd"); (· assumption)))
local macro_rules | `(tactic| walk_at "vb") => `(tactic| first
  | (apply vb_mul; walk_at "gd")
  | (apply vb_fdiv; walk_at "gd")
  | (apply vb_mod; walk_at "gd")
  | (apply vb_pow; walk_at "gd")
  | (apply vb_catT; walk_at "gd")
  | (apply vb_catL; walk_at "gd")
  | (apply vb_rep; walk_at "gd")
  | exact rfl)
local macro_rules | `(tactic| walk_at "td") => `(tactic| (apply td; (· walk_at "ev"); (· exact rfl)))
local macro_rules | `(tactic| walk_at "es") => `(tactic| first
  | exact es_nil
  | (apply es_cons; (· walk_at "td"); (· walk_at "es")))
local macro_rules | `(tactic| walk_at "eo") => `(tactic| first
  | exact eo_no
  | (apply eo_yes; walk_at "td"))
local macro_rules | `(tactic| walk_at "ob") => `(tactic| (apply ob; walk_at "ev"))
local macro_rules | `(tactic| walk_at "vc") => `(tactic| first | assumption | exact rfl)
local macro_rules | `(tactic| walk_at "ln") => `(tactic| first
  | ((try simp only [List.length_cons, List.length_nil, List.length_map, List.length_append, List.length_replicate, rngI_len, rngD_len, List.length_dropLast, List.length_range]); exact rfl)
  | assumption)
local macro_rules | `(tactic| walk_at "bi") => `(tactic| first
  | assumption
  | (apply bi_lenL; walk_at "ln")
  | (apply bi_lenT; walk_at "ln")
  | (apply bi_lenF; walk_at "ln")
  | exact rfl | assumption)
local macro_rules | `(tactic| walk_at "ev") => `(tactic| first
  | exact ev_lit
  | exact ev_slot rfl
  | (apply ev_bin; (· walk_at "td"); (· walk_at "td"); (· walk_at "vb"))
  | (apply ev_bi; (· walk_at "es"); (· walk_at "bi"))
  | (apply ev_call; (· walk_at "es"); (· walk_at "cl"))
  | (apply ev_idx; (· walk_at "td"); (· walk_at "td"); (· first | assumption | (apply ix_l; walk_at "ix") | (apply ix_t; walk_at "ix") | (apply ix_f; walk_at "ix")))
  | (apply ev_isi; (· walk_at "td"); (· exact rfl))
  | (apply ev_cmp; (· walk_at "td"); (· walk_at "td"); (· walk_at "vc"))
  | (apply ev_chain; (· walk_at "td"); (· walk_at "td"); (· walk_at "td"); (· walk_at "vc"); (· walk_at "vc"))
  | (apply ev_not; walk_at "ob")
  | (apply ev_and; (· walk_at "ob"); (· intro _; walk_at "ob"))
  | (apply ev_or; (· walk_at "ob"); (· intro _; walk_at "ob"))
  | (apply ev_lenS'; (· exact rfl); (· walk_at "ln"))
  | (apply ev_idxS; (· exact rfl); (· walk_at "td"); (· walk_at "ix"))
  | (apply ev_tup; (· walk_at "es"); (· walk_at "gd"))
  | (apply ev_lst; (· walk_at "es"); (· walk_at "gd"))
  | (apply ev_slice; (· walk_at "td"); (· walk_at "eo"); (· walk_at "eo"); (· exact rfl))
  | (apply ev_neg; walk_at "td")
  | (apply ev_listr1; (· walk_at "td"); (· walk_at "gd"))
  | (apply ev_listr2; (· walk_at "td"); (· walk_at "td"); (· walk_at "gd"))
  | (apply ev_callk; (· walk_at "es"); (· walk_at "es"); (· walk_at "cl"))
  | assumption)
local macro_rules | `(tactic| walk_at "asg") => `(tactic| (apply wp_asg; (· walk_at "ev"); (· exact rfl)))
local macro_rules | `(tactic| walk_at "app") => `(tactic| (apply wp_app; (· walk_at "td"); (· exact rfl); (· walk_at "gd")))
local macro_rules | `(tactic| walk_at "ret") => `(tactic| (apply wp_ret; (· walk_at "ev")))
local macro_rules | `(tactic| walk_at "if") => `(tactic| (apply wp_if; (· walk_at "ob")))
local macro_rules | `(tactic| walk_at "tt") => `(tactic| first | exact rfl | assumption | (simp; done) | (simp; omega))
local macro_rules | `(tactic| walk_at "no") => `(tactic| (apply wp_no; (· walk_at "ob"); (· walk_at "tt")))
local macro_rules | `(tactic| walk_at "yes") => `(tactic| (apply wp_ifT; (· walk_at "ob"); (· walk_at "tt")))
local macro_rules | `(tactic| walk_at "it") => `(tactic| first
  | (apply it_rng1; (· walk_at "td"); (· walk_at "gd"))
  | (apply it_rng2; (· walk_at "td"); (· walk_at "td"); (· walk_at "gd"))
  | (apply it_seq; (· walk_at "td"); (· first | assumption | (apply seq_lst; walk_at "gd") | (apply seq_tup; walk_at "gd") | (apply seq_fl; walk_at "gd"))))
theorem strOk_tell : PyData.strOk "tell" = true := by decide +kernel
theorem strOk_ask : PyData.strOk "ask" = true := by decide +kernel
theorem good_int (n : Nat) (i : Int) : good n (.int i) := by cases n <;> trivial
/-- few branches at each node -/
inductive Sm : Tr → Prop
  | tell {s : Int} : Sm (.tell s)
  | ask {b d : Int} {l : List Tr} : l.length ≤ 1000 → (∀ t, t ∈ l → Sm t) → Sm (.ask b d l)
theorem Pl.sm {c m : Nat} {t : Tr} (h : Pl c m t) : Sm t := by
  induction h with
  | tell _ _ => exact .tell
  | ask _ _ h2 _ ih => exact .ask h2 ih
theorem good_tr : ∀ {t : Tr}, Sm t → good (2 * t.ht + 1) t.d := by
  intro t h
  induction h with
  | @tell s =>
    rw [d_tell, Tr.ht]
    refine ⟨by simp [LIM], fun x hx => ?_⟩
    rcases List.mem_cons.mp hx with rfl | hx
    · exact strOk_tell
    · rcases List.mem_cons.mp hx with rfl | hx
      · trivial
      · cases hx
  | @ask b d l h2 h3 ih =>
    rw [d_ask, Tr.ht]
    have hb : good (2 * Tr.hts l + 2) (.tup (l.map Tr.d)) := by
      refine ⟨by rw [List.length_map]; unfold LIM; omega, fun x hx => ?_⟩
      obtain ⟨u, hu, rfl⟩ := List.mem_map.mp hx
      exact good_le (ih u hu) (by have := Tr.ht_le hu; omega)
    rw [show 2 * (Tr.hts l + 1) + 1 = (2 * Tr.hts l + 2) + 1 by omega]
    refine ⟨by simp [LIM], fun x hx => ?_⟩
    rcases List.mem_cons.mp hx with rfl | hx
    · exact strOk_ask
    rcases List.mem_cons.mp hx with rfl | hx
    · exact good_int _ _
    rcases List.mem_cons.mp hx with rfl | hx
    · exact good_int _ _
    rcases List.mem_cons.mp hx with rfl | hx
    · exact hb
    · cases hx
def Slim (n : Nat) (t : Tr) : Prop := Sm t ∧ t.ht ≤ n
theorem good_trs {n : Nat} {ts : List Tr} (hl : ts.length ≤ 1000) (h : ∀ t ∈ ts, Slim n t) : good (2 * n + 2) (.lst (ts.map Tr.d)) := by
  refine ⟨by rw [List.length_map]; unfold LIM; omega, fun x hx => ?_⟩
  obtain ⟨u, hu, rfl⟩ := List.mem_map.mp hx
  obtain ⟨hp, hh⟩ := h u hu
  exact good_le (good_tr hp) (by omega)
theorem good_ints {l : List Int} (hl : l.length ≤ 1000) : good 1 (.lst (l.map .int)) := by
  refine ⟨by rw [List.length_map]; unfold LIM; omega, fun x hx => ?_⟩
  obtain ⟨u, hu, rfl⟩ := List.mem_map.mp hx
  trivial
structure TPre (trees : List Tr) (inner : List (List Tr)) (sizes : List Int) : Prop where
  g : GPre trees inner sizes
  t : ∀ t ∈ trees, Slim 27 t
  i : ∀ ts ∈ inner, ts.length ≤ 1000 ∧ ∀ t ∈ ts, Slim 12 t
  r : ∀ t ∈ grF trees inner sizes, Slim 27 t
def handedD (trees : List Tr) (inner : List (List Tr)) (sizes : List Int) : List D := [.lst (trees.map Tr.d), .lst (inner.map enc), .lst (sizes.map .int)]
theorem good_handed {trees : List Tr} {inner : List (List Tr)} {sizes : List Int} (h : TPre trees inner sizes) : good 57 (.lst (handedD trees inner sizes)) := by
  refine ⟨by simp [handedD, LIM], fun x hx => ?_⟩
  rcases List.mem_cons.mp hx with rfl | hx
  · exact good_trs h.g.l h.t
  rcases List.mem_cons.mp hx with rfl | hx
  · refine ⟨by rw [List.length_map]; have := h.g.e; have := h.g.c; unfold LIM; omega, fun x hx => ?_⟩
    obtain ⟨ts, hu, rfl⟩ := List.mem_map.mp hx
    obtain ⟨h1, h2⟩ := h.i ts hu
    exact good_le (m := 55) (good_trs h1 h2) (by omega)
  rcases List.mem_cons.mp hx with rfl | hx
  · exact good_le (m := 56) (good_ints h.g.c) (by omega)
  · cases hx
noncomputable def m_told : Mf := fn3 (fun (trees : List Tr) (inner : List (List Tr)) (sizes : List Int) => TPre trees inner sizes) fun trees inner sizes => .own ((grF trees inner sizes).map Tr.d)
theorem m_told_at {trees : List Tr} {inner : List (List Tr)} {sizes : List Int} (h : TPre trees inner sizes) : m_told [.lst (trees.map Tr.d), .lst (inner.map enc), .lst (sizes.map .int)] = some (.own ((grF trees inner sizes).map Tr.d)) := fn3_at (a := trees) (b := inner) (c := sizes) (p := fun (trees : List Tr) (inner : List (List Tr)) (sizes : List Int) => TPre trees inner sizes) h
theorem cut_last {α : Type} (l : List α) (x : α) : PD.cutD (l ++ [x]) none (some (-1)) = l := by
  have e : HT.sIx (l ++ [x]).length (l ++ [x]).length (some (-1)) = l.length := by
    unfold HT.sIx
    simp only [show (-1 : Int) < 0 by decide, if_true, List.length_append, List.length_singleton]
    omega
  unfold PD.cutD
  rw [HT.sIx_none, e, List.drop_zero, Nat.sub_zero, List.take_left]
theorem ev_or' {Φ : Nat → Mf} {a b : PD.E} {ρ : PD.Env} {k k' : Bool} (ha : ofB (evE Φ a ρ) = some k) (hb : k = false → ofB (evE Φ b ρ) = some k') : ofB (evE Φ (.or_ a b) ρ) = some (k || k') := ob (ev_or ha hb)
theorem run_told {Φ : Nat → Mf} (h0 : Φ 0 = m_graft) (h15 : Φ 15 = m_graft_of) (h5 : Φ 5 = m_same 60) : ∀ ds r, m_told ds = some r → runD Φ 3 7 ir_law_told_graft ds = some r := fun ds r hh => by
  obtain ⟨trees, inner, sizes, rfl, h, rfl⟩ := fn3_inv hh
  clear hh
  show runD Φ 3 7 ir_law_told_graft [.lst (trees.map Tr.d), .lst (inner.map enc), .lst (sizes.map .int)] = _
  apply run_wp (np := 3) (ds := [.lst (trees.map Tr.d), .lst (inner.map enc), .lst (sizes.map .int)]) rfl
  have hl := h.g.l
  have hc := h.g.c
  have he := h.g.e
  obtain ⟨L, hL⟩ : ∃ L, grF trees inner sizes = L := ⟨_, rfl⟩
  have hLl : L.length = trees.length := by rw [← hL, grF, List.length_map]
  have c0 : Φ 0 [.lst (trees.map Tr.d), .lst (inner.map enc), .lst (sizes.map .int)] = some (.own (L.map Tr.d)) := by rw [h0, ← hL]; exact m_graft_at (trees := ⟨false, trees⟩) (inner := ⟨false, inner⟩) (counts := ⟨false, sizes⟩) h.g
  have c0t : Φ 0 [.tup (trees.map Tr.d), .tup (inner.map enc), .tup (sizes.map .int)] = some (.own (L.map Tr.d)) := by rw [h0, ← hL]; exact m_graft_at (trees := ⟨true, trees⟩) (inner := ⟨true, inner⟩) (counts := ⟨true, sizes⟩) h.g
  have c15 : Φ 15 [.lst (trees.map Tr.d), .lst (inner.map enc), .lst (sizes.map .int)] = some (.own (L.map Tr.d)) := by rw [h15, ← hL]; exact m_graft_of_at h.g
  have c5 : Φ 5 [.lst (L.map Tr.d), .lst (L.map Tr.d)] = some (.dat (.bl true)) := by
    rw [h5]
    refine m_same_at (by decide) (by decide) (good_le (good_trs (n := 27) (by omega) ?_) (by omega))
    rw [← hL]
    exact h.r
  have ne : vCmp .ne (.lst [.lst (trees.map Tr.d), .lst (inner.map enc), .lst (sizes.map .int)]) (.lst [.lst (trees.map Tr.d), .lst (inner.map enc), .lst (sizes.map .int)]) = some false := vcmp_ne_self (good_handed h) (by omega)
  have cp : ∀ ρ : PD.Env, ρ[1]? = some (.dat (.lst (inner.map enc))) → 6 < ρ.length → evE Φ (.comp (.bi .list_ (.cons (.slot 6) .nil)) (.name 6) (.seq (.slot 1)) [6]) ρ = some (.own (inner.map enc)) := by
    intro ρ e1 e2
    apply ev_comp (xs := inner) (enc : List Tr → D) (enc : List Tr → D)
    · exact it_seq (td (ev_slot e1) rfl) (seq_lst (by rw [List.length_map]; unfold LIM; omega))
    · intro ts hts
      refine ⟨_, rfl, td (ev_bi (es_cons (td (ev_slot (d := .lst (ts.map enc)) ?_) rfl) es_nil) rfl) rfl⟩
      rw [List.getElem?_set_self (by unfold unE; simp; exact e2)]
      rfl
  apply wp_asg
  · apply ev_lst
    · exact es_cons (td (ev_bi (es_cons (td (ev_slot rfl) rfl) es_nil) rfl) rfl) (es_cons (td (cp _ rfl (Nat.le_refl 7)) rfl) (es_cons (td (ev_bi (es_cons (td (ev_slot rfl) rfl) es_nil) rfl) rfl) es_nil))
    · simp [LIM]
  · exact rfl
  walk_at "asg"
  walk_at "asg"
  apply wp_no (k := false || !true)
  · apply ev_or'
    · apply ob
      apply ev_cmp
      · exact td (ev_slot rfl) rfl
      · apply td
        · apply ev_lst
          · exact es_cons (td (ev_bi (es_cons (td (ev_slot rfl) rfl) es_nil) rfl) rfl) (es_cons (td (cp _ rfl (Nat.le_refl 7)) rfl) (es_cons (td (ev_bi (es_cons (td (ev_slot rfl) rfl) es_nil) rfl) rfl) es_nil))
          · simp [LIM]
        · exact rfl
      · exact ne
    · intro _
      walk_at "ob"
  · rfl
  walk_at "app"
  apply wp_no (k := !true)
  · walk_at "ob"
  · rfl
  apply wp_ret
  · exact ev_slice (td (ev_slot rfl) rfl) eo_no (eo_yes (td (ev_neg (td ev_lit rfl)) rfl)) rfl
  · show Sl.own _ = Sl.own _
    rw [cut_last, hL]
end K81

set_option Elab.async false
set_option linter.all false
set_option maxRecDepth 100000
set_option maxHeartbeats 4000000
/-! K81h: lists in step; roads_meet. -/
namespace K81
open PySem PySem.Spec PyProof.Rows L2 PD
open Enc (enc)
local macro_rules | `(tactic| walk_at "gd") => `(tactic| first
  | assumption
  | omega
  | (simp only [LIM, List.length_cons, List.length_nil, List.length_map, List.length_append, List.length_replicate, rngI_len, rngD_len, rngG, List.length_dropLast]; omega)
  | (simp only [LIM, List.length_cons, List.length_nil, List.length_map, List.length_append, List.length_replicate, rngI_len, rngD_len, rngG, List.length_dropLast]; done)
  | decide)
local macro_rules | `(tactic| walk_at "cl") => `(tactic| assumption)
local macro_rules | `(tactic| walk_at "ix") => `(tactic| first
  | assumption
  | exact rfl
  | (apply at_map; (· walk_at "gd"); (· assumption)))
local macro_rules | `(tactic| walk_at "vb") => `(tactic| first
  | (apply vb_mul; walk_at "gd")
  | (apply vb_fdiv; walk_at "gd")
  | (apply vb_mod; walk_at "gd")
  | (apply vb_pow; walk_at "gd")
  | (apply vb_catT; walk_at "gd")
  | (apply vb_catL; walk_at "gd")
  | (apply vb_rep; walk_at "gd")
  | exact rfl)
local macro_rules | `(tactic| walk_at "td") => `(tactic| (apply td; (· walk_at "ev"); (· exact rfl)))
local macro_rules | `(tactic| walk_at "es") => `(tactic| first
  | exact es_nil
  | (apply es_cons; (· walk_at "td"); (· walk_at "es")))
local macro_rules | `(tactic| walk_at "eo") => `(tactic| first
  | exact eo_no
  | (apply eo_yes; walk_at "td"))
local macro_rules | `(tactic| walk_at "ob") => `(tactic| (apply ob; walk_at "ev"))
local macro_rules | `(tactic| walk_at "vc") => `(tactic| first | assumption | exact rfl)
local macro_rules | `(tactic| walk_at "ln") => `(tactic| first
  | ((try simp only [List.length_cons, List.length_nil, List.length_map, List.length_append, List.length_replicate, rngI_len, rngD_len, List.length_dropLast, List.length_range]); exact rfl)
  | assumption)
local macro_rules | `(tactic| walk_at "bi") => `(tactic| first
  | assumption
  | (apply bi_lenL; walk_at "ln")
  | (apply bi_lenT; walk_at "ln")
  | (apply bi_lenF; walk_at "ln")
  | exact rfl | assumption)
local macro_rules | `(tactic| walk_at "ev") => `(tactic| first
  | exact ev_lit
  | exact ev_slot rfl
  | (apply ev_bin; (· walk_at "td"); (· walk_at "td"); (· walk_at "vb"))
  | (apply ev_bi; (· walk_at "es"); (· walk_at "bi"))
  | (apply ev_call; (· walk_at "es"); (· walk_at "cl"))
  | (apply ev_idx; (· walk_at "td"); (· walk_at "td"); (· first | assumption | (apply ix_l; walk_at "ix") | (apply ix_t; walk_at "ix") | (apply ix_f; walk_at "ix")))
  | (apply ev_isi; (· walk_at "td"); (· exact rfl))
  | (apply ev_cmp; (· walk_at "td"); (· walk_at "td"); (· walk_at "vc"))
  | (apply ev_chain; (· walk_at "td"); (· walk_at "td"); (· walk_at "td"); (· walk_at "vc"); (· walk_at "vc"))
  | (apply ev_not; walk_at "ob")
  | (apply ev_and; (· walk_at "ob"); (· intro _; walk_at "ob"))
  | (apply ev_or; (· walk_at "ob"); (· intro _; walk_at "ob"))
  | (apply ev_lenS'; (· exact rfl); (· walk_at "ln"))
  | (apply ev_idxS; (· exact rfl); (· walk_at "td"); (· walk_at "ix"))
  | (apply ev_tup; (· walk_at "es"); (· walk_at "gd"))
  | (apply ev_lst; (· walk_at "es"); (· walk_at "gd"))
  | (apply ev_slice; (· walk_at "td"); (· walk_at "eo"); (· walk_at "eo"); (· exact rfl))
  | (apply ev_neg; walk_at "td")
  | (apply ev_listr1; (· walk_at "td"); (· walk_at "gd"))
  | (apply ev_listr2; (· walk_at "td"); (· walk_at "td"); (· walk_at "gd"))
  | (apply ev_callk; (· walk_at "es"); (· walk_at "es"); (· walk_at "cl"))
  | assumption)
local macro_rules | `(tactic| walk_at "asg") => `(tactic| (apply wp_asg; (· walk_at "ev"); (· exact rfl)))
local macro_rules | `(tactic| walk_at "app") => `(tactic| (apply wp_app; (· walk_at "td"); (· exact rfl); (· walk_at "gd")))
local macro_rules | `(tactic| walk_at "ret") => `(tactic| (apply wp_ret; (· walk_at "ev")))
local macro_rules | `(tactic| walk_at "if") => `(tactic| (apply wp_if; (· walk_at "ob")))
local macro_rules | `(tactic| walk_at "tt") => `(tactic| first | exact rfl | assumption | (simp; done) | (simp; omega))
local macro_rules | `(tactic| walk_at "no") => `(tactic| (apply wp_no; (· walk_at "ob"); (· walk_at "tt")))
local macro_rules | `(tactic| walk_at "yes") => `(tactic| (apply wp_ifT; (· walk_at "ob"); (· walk_at "tt")))
local macro_rules | `(tactic| walk_at "it") => `(tactic| first
  | (apply it_rng1; (· walk_at "td"); (· walk_at "gd"))
  | (apply it_rng2; (· walk_at "td"); (· walk_at "td"); (· walk_at "gd"))
  | (apply it_seq; (· walk_at "td"); (· first | assumption | (apply seq_lst; walk_at "gd") | (apply seq_tup; walk_at "gd") | (apply seq_fl; walk_at "gd"))))
/-- three lists in step -/
inductive Al (P : Sd → List Sd → List Tr → Prop) : List Sd → List (List Sd) → List (List Tr) → Prop
  | nil : Al P [] [] []
  | cons {s : Sd} {ss : List Sd} {b : List Sd} {bs : List (List Sd)} {t : List Tr} {ts : List (List Tr)} : P s b t → Al P ss bs ts → Al P (s :: ss) (b :: bs) (t :: ts)
section
variable {P P' : Sd → List Sd → List Tr → Prop}
theorem Al.len {a b c} (h : Al P a b c) : b.length = a.length ∧ c.length = a.length := by
  induction h with
  | nil => exact ⟨rfl, rfl⟩
  | cons _ _ ih => simp only [List.length_cons]; omega
theorem Al.mono (i : ∀ s b t, P s b t → P' s b t) {a b c} (h : Al P a b c) : Al P' a b c := by
  induction h with
  | nil => exact .nil
  | cons p _ ih => exact .cons (i _ _ _ p) ih
theorem Al.get {a b c} (h : Al P a b c) : ∀ (k : Nat) (s : Sd) (bl : List Sd) (tl : List Tr), a[k]? = some s → b[k]? = some bl → c[k]? = some tl → P s bl tl := by
  induction h with
  | nil => intro k s bl tl e; cases e
  | cons p _ ih =>
    intro k s bl tl e1 e2 e3
    cases k with
    | zero => simp at e1 e2 e3; subst e1 e2 e3; exact p
    | succ k => simp at e1 e2 e3; exact ih k s bl tl e1 e2 e3
theorem Al.all_b {Q : List Sd → Prop} (i : ∀ s b t, P s b t → Q b) {a b c} (h : Al P a b c) : ∀ bl ∈ b, Q bl := by
  induction h with
  | nil => intro _ z; cases z
  | cons p _ ih => intro bl hb; exact (List.mem_cons.mp hb).elim (fun e => by rw [e]; exact i _ _ _ p) (ih bl)
theorem Al.all_c {Q : List Tr → Prop} (i : ∀ s b t, P s b t → Q t) {a b c} (h : Al P a b c) : ∀ tl ∈ c, Q tl := by
  induction h with
  | nil => intro _ z; cases z
  | cons p _ ih => intro bl hb; exact (List.mem_cons.mp hb).elim (fun e => by rw [e]; exact i _ _ _ p) (ih bl)
theorem Al.app {a b c a' b' c'} (h : Al P a b c) (h' : Al P a' b' c') : Al P (a ++ a') (b ++ b') (c ++ c') := by
  induction h with
  | nil => exact h'
  | cons p _ ih => exact .cons p ih
theorem Al.split : ∀ {a a' : List Sd} {b c}, Al P (a ++ a') b c → Al P a (b.take a.length) (c.take a.length) ∧ Al P a' (b.drop a.length) (c.drop a.length)
  | [], a', b, c, h => ⟨.nil, h⟩
  | s :: a, a', _, _, .cons p h => by
    obtain ⟨h1, h2⟩ := Al.split (a := a) (a' := a') h
    exact ⟨.cons p h1, h2⟩
end
/-- what a level draws -/
structure Lv (s : Sd) (b : List Sd) (t : List Tr) : Prop where
  n : (t.length : Int) = s.1
  m : t.length ≤ 2
  sd : SdL b
  l : b.length ≤ 2
  t : ∀ u ∈ t, okT b s.2 u ∧ u.ht ≤ 2
/-- what stays true when levels are joined -/
structure Lw (h : Nat) (s : Sd) (b : List Sd) (t : List Tr) : Prop where
  n : (t.length : Int) = s.1
  m : t.length ≤ 2
  sd : SdL b
  l : b.length ≤ 100
  t : ∀ u ∈ t, okT b s.2 u ∧ u.ht ≤ h
theorem Lv.w {s b t} (h : Lv s b t) : Lw 2 s b t := ⟨h.n, h.m, h.sd, by have := h.l; omega, h.t⟩
theorem inner_of {h : Nat} (hh : h ≤ 12) {a b c} (al : Al (Lw h) a b c) : InnerOk a b c := by
  refine ⟨al.len.1, al.len.2, al.all_b fun _ _ _ p => p.sd, fun k s bl tl e1 e2 e3 => ?_⟩
  have := al.get k s bl tl e1 e2 e3
  exact ⟨this.n, fun t ht => ⟨(this.t t ht).1, Nat.le_trans (this.t t ht).2 hh⟩⟩
theorem okT_slim {sides : List Sd} {signs : Int} (hs : SdL sides) (h0 : 0 ≤ signs) {t : Tr} (h : okT sides signs t) {n : Nat} (hn : t.ht ≤ n) : Slim n t := ⟨(okT_pl hs (show ((signs.toNat : Nat) : Int) = signs by omega) t h).sm, hn⟩
/-- the told graft's premise -/
theorem tpre {sides : List Sd} {B : List (List Sd)} {inner : List (List Tr)} {signs : Int} {trees : List Tr} {h n : Nat} (hs : SdL sides) (h0 : 0 ≤ signs) (al : Al (Lw h) sides B inner) (hh : h ≤ 12) (hl : sides.length ≤ 1000) (ht : ∀ t ∈ trees, okT sides signs t ∧ t.ht ≤ n) (hn : n ≤ 27) (hnh : n * h ≤ 27) (tl : trees.length ≤ 1000) :
    TPre trees inner (lens B) := by
  have io := inner_of hh al
  refine ⟨⟨fun t m => okT_gr io hs t (ht t m).1, fun t m => by have := (ht t m).2; omega, tl, by rw [lens_len, io.l1, io.l2], by rw [lens_len, io.l1]; exact hl⟩, fun t m => okT_slim hs h0 (ht t m).1 (Nat.le_trans (ht t m).2 hn), fun ts m => ?_, fun t m => ?_⟩
  · obtain ⟨k, hk⟩ := List.mem_iff_getElem?.mp m
    obtain ⟨s, e1⟩ := get_of (l := sides) (i := k) (by have := some_lt hk; have := io.l2; omega)
    obtain ⟨bl, e2⟩ := get_of (l := B) (i := k) (by have := some_lt hk; have := io.l2; have := io.l1; omega)
    have p := al.get k s bl ts e1 e2 hk
    have sd := hs s (List.mem_of_getElem? e1)
    have := p.m
    exact ⟨by omega, fun t ht => okT_slim p.sd (by have := sd.c; omega) (p.t t ht).1 (Nat.le_trans (p.t t ht).2 hh)⟩
  · unfold grF at m
    obtain ⟨u, hu, rfl⟩ := List.mem_map.mp m
    have fl : SdL B.flatten := fun s hs => by
      obtain ⟨bl, hb, hm⟩ := List.mem_flatten.mp hs
      exact io.sd bl hb s hm
    refine okT_slim fl h0 (graft_ok io u (ht u hu).1) ?_
    refine Nat.le_trans (graft_ht (h := h) (al.all_c fun _ _ _ p t ht => (p.t t ht).2) u) (Nat.le_trans (Nat.mul_le_mul_right h (ht u hu).2) hnh)
theorem grF_ok {sides : List Sd} {B : List (List Sd)} {inner : List (List Tr)} {signs : Int} {trees : List Tr} {h n : Nat} (al : Al (Lw h) sides B inner) (hh : h ≤ 12) (ht : ∀ t ∈ trees, okT sides signs t ∧ t.ht ≤ n) : ∀ t ∈ grF trees inner (lens B), okT B.flatten signs t ∧ t.ht ≤ n * h := fun t m => by
  unfold grF at m
  obtain ⟨u, hu, rfl⟩ := List.mem_map.mp m
  exact ⟨graft_ok (inner_of hh al) u (ht u hu).1, Nat.le_trans (graft_ht (h := h) (al.all_c fun _ _ _ p t ht => (p.t t ht).2) u) (Nat.mul_le_mul_right h (ht u hu).2)⟩
/-- pieces in step: the boxes below, what they hold -/
inductive Al3 : List (List Sd) → List (List (List Sd)) → List (List (List Tr)) → Prop
  | nil : Al3 [] [] []
  | cons {b : List Sd} {bs : List (List Sd)} {c : List (List Sd)} {cs : List (List (List Sd))} {t : List (List Tr)} {ts : List (List (List Tr))} : Al Lv b c t → Al3 bs cs ts → Al3 (b :: bs) (c :: cs) (t :: ts)
theorem Al3.flat {b c t} (h : Al3 b c t) : Al Lv b.flatten c.flatten t.flatten := by
  induction h with
  | nil => exact .nil
  | cons p _ ih => exact p.app ih
theorem Al3.len {b c t} (h : Al3 b c t) : c.length = b.length ∧ t.length = b.length := by
  induction h with
  | nil => exact ⟨rfl, rfl⟩
  | cons _ _ ih => simp only [List.length_cons]; omega
theorem Al3.get {b c t} (h : Al3 b c t) : ∀ (k : Nat) bl cl tl, b[k]? = some bl → c[k]? = some cl → t[k]? = some tl → Al Lv bl cl tl := by
  induction h with
  | nil => intro k _ _ _ e; cases e
  | cons p _ ih =>
    intro k bl cl tl e1 e2 e3
    cases k with
    | zero => simp at e1 e2 e3; subst e1 e2 e3; exact p
    | succ k => simp at e1 e2 e3; exact ih k bl cl tl e1 e2 e3
/-- the middle wirings -/
def midF : List (List Tr) → List (List (List Sd)) → List (List (List Tr)) → List (List Tr)
  | i :: is, c :: cs, t :: ts => grF i t (lens c) :: midF is cs ts
  | _, _, _ => []
theorem mid_al {a b i} (h : Al Lv a b i) (hs : SdL a) : ∀ {c t}, Al3 b c t → Al (Lw 4) a (c.map List.flatten) (midF i c t) := by
  induction h with
  | nil => intro c t h3; cases h3; exact .nil
  | @cons s ss b bs i is p _ ih =>
    intro c t h3
    cases h3 with
    | @cons _ _ c cs t ts q r =>
      refine .cons ?_ (ih (fun s hs' => hs s (List.mem_cons_of_mem _ hs')) r)
      have qw := q.mono (P' := Lw 2) fun _ _ _ z => z.w
      have ok := grF_ok qw (by decide) p.t
      refine ⟨by unfold grF; rw [List.length_map]; exact p.n, by unfold grF; rw [List.length_map]; exact p.m, fun s hs => ?_, ?_, ok⟩
      · obtain ⟨bl, hb, hm⟩ := List.mem_flatten.mp hs
        exact q.all_b (fun _ _ _ z => z.sd) bl hb s hm
      · have l2 : ∀ bl ∈ c, bl.length ≤ 2 := q.all_b fun _ _ _ z => z.l
        have : ∀ {c : List (List Sd)}, (∀ bl ∈ c, bl.length ≤ 2) → c.flatten.length ≤ 2 * c.length := fun {c} h => by
          induction c with
          | nil => exact Nat.le_refl _
          | cons x c ih =>
            have := ih fun y hy => h y (List.mem_cons_of_mem _ hy)
            have := h x List.mem_cons_self
            rw [List.flatten_cons, List.length_append, List.length_cons]
            omega
        have := this l2
        have := q.len.1
        have := p.l
        omega
end K81

set_option Elab.async false
set_option linter.all false
set_option maxRecDepth 100000
set_option maxHeartbeats 4000000
/-! K81i: _law_roads_meet. -/
namespace K81
open PySem PySem.Spec PyProof.Rows L2 PD
open Enc (enc)
local macro_rules | `(tactic| walk_at "gd") => `(tactic| first
  | assumption
  | omega
  | (simp only [LIM, List.length_cons, List.length_nil, List.length_map, List.length_append, List.length_replicate, rngI_len, rngD_len, rngG, List.length_dropLast]; omega)
  | (simp only [LIM, List.length_cons, List.length_nil, List.length_map, List.length_append, List.length_replicate, rngI_len, rngD_len, rngG, List.length_dropLast]; done)
  | decide)
local macro_rules | `(tactic| walk_at "cl") => `(tactic| assumption)
local macro_rules | `(tactic| walk_at "ix") => `(tactic| first
  | assumption
  | exact rfl
  | (apply at_map; (· walk_at "gd"); (· assumption)))
local macro_rules | `(tactic| walk_at "vb") => `(tactic| first
  | (apply vb_mul; walk_at "gd")
  | (apply vb_fdiv; walk_at "gd")
  | (apply vb_mod; walk_at "gd")
  | (apply vb_pow; walk_at "gd")
  | (apply vb_catT; walk_at "gd")
  | (apply vb_catL; walk_at "gd")
  | (apply vb_rep; walk_at "gd")
  | exact rfl)
local macro_rules | `(tactic| walk_at "td") => `(tactic| (apply td; (· walk_at "ev"); (· exact rfl)))
local macro_rules | `(tactic| walk_at "es") => `(tactic| first
  | exact es_nil
  | (apply es_cons; (· walk_at "td"); (· walk_at "es")))
local macro_rules | `(tactic| walk_at "eo") => `(tactic| first
  | exact eo_no
  | (apply eo_yes; walk_at "td"))
local macro_rules | `(tactic| walk_at "ob") => `(tactic| (apply ob; walk_at "ev"))
local macro_rules | `(tactic| walk_at "vc") => `(tactic| first | assumption | exact rfl)
local macro_rules | `(tactic| walk_at "ln") => `(tactic| first
  | ((try simp only [List.length_cons, List.length_nil, List.length_map, List.length_append, List.length_replicate, rngI_len, rngD_len, List.length_dropLast, List.length_range]); exact rfl)
  | assumption)
local macro_rules | `(tactic| walk_at "bi") => `(tactic| first
  | assumption
  | (apply bi_lenL; walk_at "ln")
  | (apply bi_lenT; walk_at "ln")
  | (apply bi_lenF; walk_at "ln")
  | exact rfl | assumption)
local macro_rules | `(tactic| walk_at "ev") => `(tactic| first
  | exact ev_lit
  | exact ev_slot rfl
  | (apply ev_bin; (· walk_at "td"); (· walk_at "td"); (· walk_at "vb"))
  | (apply ev_bi; (· walk_at "es"); (· walk_at "bi"))
  | (apply ev_call; (· walk_at "es"); (· walk_at "cl"))
  | (apply ev_idx; (· walk_at "td"); (· walk_at "td"); (· first | assumption | (apply ix_l; walk_at "ix") | (apply ix_t; walk_at "ix") | (apply ix_f; walk_at "ix")))
  | (apply ev_isi; (· walk_at "td"); (· exact rfl))
  | (apply ev_cmp; (· walk_at "td"); (· walk_at "td"); (· walk_at "vc"))
  | (apply ev_chain; (· walk_at "td"); (· walk_at "td"); (· walk_at "td"); (· walk_at "vc"); (· walk_at "vc"))
  | (apply ev_not; walk_at "ob")
  | (apply ev_and; (· walk_at "ob"); (· intro _; walk_at "ob"))
  | (apply ev_or; (· walk_at "ob"); (· intro _; walk_at "ob"))
  | (apply ev_lenS'; (· exact rfl); (· walk_at "ln"))
  | (apply ev_idxS; (· exact rfl); (· walk_at "td"); (· walk_at "ix"))
  | (apply ev_tup; (· walk_at "es"); (· walk_at "gd"))
  | (apply ev_lst; (· walk_at "es"); (· walk_at "gd"))
  | (apply ev_slice; (· walk_at "td"); (· walk_at "eo"); (· walk_at "eo"); (· exact rfl))
  | (apply ev_neg; walk_at "td")
  | (apply ev_listr1; (· walk_at "td"); (· walk_at "gd"))
  | (apply ev_listr2; (· walk_at "td"); (· walk_at "td"); (· walk_at "gd"))
  | (apply ev_callk; (· walk_at "es"); (· walk_at "es"); (· walk_at "cl"))
  | assumption)
local macro_rules | `(tactic| walk_at "asg") => `(tactic| (apply wp_asg; (· walk_at "ev"); (· exact rfl)))
local macro_rules | `(tactic| walk_at "app") => `(tactic| (apply wp_app; (· walk_at "td"); (· exact rfl); (· walk_at "gd")))
local macro_rules | `(tactic| walk_at "ret") => `(tactic| (apply wp_ret; (· walk_at "ev")))
local macro_rules | `(tactic| walk_at "if") => `(tactic| (apply wp_if; (· walk_at "ob")))
local macro_rules | `(tactic| walk_at "tt") => `(tactic| first | exact rfl | assumption | (simp; done) | (simp; omega))
local macro_rules | `(tactic| walk_at "no") => `(tactic| (apply wp_no; (· walk_at "ob"); (· walk_at "tt")))
local macro_rules | `(tactic| walk_at "yes") => `(tactic| (apply wp_ifT; (· walk_at "ob"); (· walk_at "tt")))
local macro_rules | `(tactic| walk_at "it") => `(tactic| first
  | (apply it_rng1; (· walk_at "td"); (· walk_at "gd"))
  | (apply it_rng2; (· walk_at "td"); (· walk_at "td"); (· walk_at "gd"))
  | (apply it_seq; (· walk_at "td"); (· first | assumption | (apply seq_lst; walk_at "gd") | (apply seq_tup; walk_at "gd") | (apply seq_fl; walk_at "gd"))))
theorem take_flat {α : Type} : ∀ {ls : List (List α)} {k i : Nat} {l : List α}, ls[k]? = some l → i ≤ l.length → ls.flatten.take (((ls.take k).map List.length).sum + i) = (ls.take k).flatten ++ l.take i
  | m :: ls, 0, i, l, h1, h2 => by
    rw [List.getElem?_cons_zero] at h1
    cases h1
    simp only [List.take_zero, List.map_nil, List.sum_nil, Nat.zero_add, List.flatten_cons, List.flatten_nil, List.nil_append]
    rw [List.take_append_of_le_length h2]
  | m :: ls, k + 1, i, l, h1, h2 => by
    rw [List.getElem?_cons_succ] at h1
    simp only [List.take_succ_cons, List.map_cons, List.sum_cons, List.flatten_cons]
    rw [Nat.add_assoc, List.take_length_add_append, take_flat h1 h2, List.append_assoc]
theorem flat_lens : ∀ (L : List (List (List Sd))), (L.flatten.map List.length).sum = (L.map fun c => c.flatten.length).sum
  | [] => rfl
  | c :: L => by
    rw [List.flatten_cons, List.map_append, List.sum_append, flat_lens L, List.map_cons, List.sum_cons, List.length_flatten]
theorem Al3.lb {b c t} (h : Al3 b c t) : b.map List.length = c.map List.length ∧ b.map List.length = t.map List.length := by
  induction h with
  | nil => exact ⟨rfl, rfl⟩
  | cons p _ ih =>
    obtain ⟨h1, h2⟩ := p.len
    simp only [List.map_cons, h1, h2]
    exact ⟨by rw [ih.1], by rw [ih.2]⟩
theorem mid_get : ∀ {i : List (List Tr)} {c : List (List (List Sd))} {t : List (List (List Tr))} {k : Nat} {x : List Tr} {y : List (List Sd)} {z : List (List Tr)}, i[k]? = some x → c[k]? = some y → t[k]? = some z → (midF i c t)[k]? = some (grF x z (lens y))
  | i :: is, c :: cs, t :: ts, 0, x, y, z, h1, h2, h3 => by simp at h1 h2 h3; subst h1 h2 h3; rfl
  | i :: is, c :: cs, t :: ts, k + 1, x, y, z, h1, h2, h3 => by
    simp at h1 h2 h3
    rw [midF, List.getElem?_cons_succ]
    exact mid_get h1 h2 h3
theorem mid_len : ∀ {i : List (List Tr)} {c : List (List (List Sd))} {t : List (List (List Tr))}, c.length = i.length → t.length = i.length → (midF i c t).length = i.length
  | [], [], [], _, _ => rfl
  | i :: is, c :: cs, t :: ts, h1, h2 => by
    rw [midF, List.length_cons, List.length_cons, mid_len (by simpa using h1) (by simpa using h2)]
theorem flat_sd {a b c} {P : Sd → List Sd → List Tr → Prop} (h : Al P a b c) (hp : ∀ s b t, P s b t → SdL b) : SdL b.flatten := fun s hs => by
  obtain ⟨bl, hb, hm⟩ := List.mem_flatten.mp hs
  exact h.all_b hp bl hb s hm
theorem flat_le : ∀ {c : List (List Sd)}, (∀ bl ∈ c, bl.length ≤ 2) → c.flatten.length ≤ 2 * c.length
  | [], _ => Nat.le_refl _
  | x :: c, h => by
    have := flat_le (c := c) fun y hy => h y (List.mem_cons_of_mem _ hy)
    have := h x List.mem_cons_self
    rw [List.flatten_cons, List.length_append, List.length_cons]
    omega
/-- the two roads -/
theorem roads {sides : List Sd} {B1 : List (List Sd)} {inner : List (List Tr)} {B2 : List (List (List Sd))} {innermost : List (List (List Tr))} {signs : Int} {outer : List Tr} (hs : SdL sides) (al : Al Lv sides B1 inner) (al3 : Al3 B1 B2 innermost) (ho : ∀ t ∈ outer, okT sides signs t) :
    grF (grF outer inner (lens B1)) innermost.flatten (lens B2.flatten) = grF outer (midF inner B2 innermost) (lens (B2.map List.flatten)) := by
  have io : InnerOk sides B1 inner := inner_of (h := 2) (by decide) (al.mono fun _ _ _ z => z.w)
  obtain ⟨n1, n2⟩ := al.len
  obtain ⟨n3, n4⟩ := al3.len
  obtain ⟨m1, m2⟩ := al3.lb
  unfold grF
  rw [List.map_map]
  refine map_congr' fun t ht => ?_
  refine graft_graft (innermost := innermost) (few := B2.map lens) (sizes := lens B1) (fun k ts hk => ?_) (okT_gr io hs t (ho t ht))
  have hk' := some_lt hk
  obtain ⟨s, e0⟩ := get_of (l := sides) (i := k) (by omega)
  obtain ⟨bl, e1⟩ := get_of (l := B1) (i := k) (by omega)
  obtain ⟨c, e2⟩ := get_of (l := B2) (i := k) (by omega)
  obtain ⟨Ib, e3⟩ := get_of (l := innermost) (i := k) (by omega)
  have p := al.get k s bl ts e0 e1 hk
  have q := al3.get k bl c Ib e1 e2 e3
  have qi : InnerOk bl c Ib := inner_of (h := 2) (by decide) (q.mono fun _ _ _ z => z.w)
  have s0 := start_nat (ls := B1) (k := k) (by omega)
  have s0' : ((B1.take k).map List.length).sum = ((B2.take k).map List.length).sum := by rw [List.map_take, List.map_take, m1]
  have s0'' : ((B1.take k).map List.length).sum = ((innermost.take k).map List.length).sum := by rw [List.map_take, List.map_take, m2]
  refine ⟨Ib, lens c, e3, by rw [List.getElem?_map, e2]; rfl, mid_get hk e2 e3, fun u hu => okT_gr qi p.sd u (p.t u hu).1, by rw [s0]; omega, fun i xs e => ?_, fun i x e => ?_⟩
  · rw [s0, Int.toNat_natCast, s0'']
    exact flat_get e3 e
  · have hi := some_lt e
    rw [lens_len] at hi
    have hl : ((B2.take k).map List.length).sum + i < B2.flatten.length := by
      obtain ⟨y, ey⟩ := get_of hi
      exact some_lt (flat_get e2 ey)
    rw [s0, Int.toNat_natCast, s0', start_nat hl, take_flat e2 (by omega), List.map_append, List.sum_append, flat_lens, start_nat (by rw [List.length_map]; omega), start_nat hi, ← List.map_take, List.map_map]
    rw [← Int.natCast_add]
    rfl
structure RPre (outer : List Tr) (inner : List (List Tr)) (sizes : List Int) (innermost : List (List (List Tr))) (few : List (List Int)) : Prop where
  ex : ∃ (sides : List Sd) (signs : Int) (B1 : List (List Sd)) (B2 : List (List (List Sd))), SdL sides ∧ sides.length ≤ 3 ∧ 0 ≤ signs ∧ Al Lv sides B1 inner ∧ Al3 B1 B2 innermost ∧ (∀ t ∈ outer, okT sides signs t ∧ t.ht ≤ 3) ∧ outer.length ≤ 100 ∧ sizes = lens B1 ∧ few = B2.map lens
noncomputable def m_roads : Mf := fn5 (fun (outer : List Tr) (inner : List (List Tr)) (sizes : List Int) (innermost : List (List (List Tr))) (few : List (List Int)) => RPre outer inner sizes innermost few) fun _ _ _ _ _ => .dat (.bl true)
theorem m_roads_at {outer : List Tr} {inner : List (List Tr)} {sizes : List Int} {innermost : List (List (List Tr))} {few : List (List Int)} (h : RPre outer inner sizes innermost few) : m_roads [.lst (outer.map Tr.d), .lst (inner.map enc), .lst (sizes.map .int), .lst (innermost.map enc), .lst (few.map enc)] = some (.dat (.bl true)) :=
  fn5_at (a := outer) (b := inner) (c := sizes) (d := innermost) (e := few) (p := fun (outer : List Tr) (inner : List (List Tr)) (sizes : List Int) (innermost : List (List (List Tr))) (few : List (List Int)) => RPre outer inner sizes innermost few) h
theorem range_getD {α β : Type} {f : α → β} {l : List α} {a : α} : (List.range l.length).map (fun k => f (l.getD k a)) = l.map f := by
  apply List.ext_getElem?
  intro k
  rw [List.getElem?_map, List.getElem?_map]
  by_cases h : k < l.length
  · rw [List.getElem?_range h]
    show some (f (l.getD k a)) = _
    rw [List.getD_eq_getElem?_getD, List.getElem?_eq_getElem h]; rfl
  · rw [List.getElem?_eq_none (by simpa using h), List.getElem?_eq_none (by simpa using h)]; rfl

theorem flat_step {α : Type} {ls : List (List α)} {k : Nat} {l : List α} (h : ls[k]? = some l) : (ls.take (k + 1)).flatten = (ls.take k).flatten ++ l := by
  rw [List.take_succ, h, List.flatten_append]
  simp
theorem flat_part {α : Type} (ls : List (List α)) (k : Nat) : (ls.take k).flatten.length ≤ ls.flatten.length := by
  have e : ls.flatten = (ls.take k).flatten ++ (ls.drop k).flatten := by rw [← List.flatten_append, List.take_append_drop]
  rw [e, List.length_append]
  omega
theorem run_roads {Φ : Nat → Mf} (h16 : Φ 16 = m_told) (h5 : Φ 5 = m_same 60) : ∀ ds r, m_roads ds = some r → runD Φ 5 14 ir_law_roads_meet ds = some r := fun ds r hh => by
  obtain ⟨outer, inner, sizes, innermost, few, rfl, ⟨sides, signs, B1, B2, hs, hsl, hsg, al, al3, ho, hol, rfl, rfl⟩, rfl⟩ := fn5_inv hh
  clear hh
  show runD Φ 5 14 ir_law_roads_meet [.lst (outer.map Tr.d), .lst (inner.map enc), .lst ((lens B1).map .int), .lst (innermost.map enc), .lst ((B2.map lens).map enc)] = _
  apply run_wp (np := 5) (ds := [.lst (outer.map Tr.d), .lst (inner.map enc), .lst ((lens B1).map .int), .lst (innermost.map enc), .lst ((B2.map lens).map enc)]) rfl
  obtain ⟨n1, n2⟩ := al.len
  obtain ⟨n3, n4⟩ := al3.len
  have alw := al.mono (P' := Lw 2) fun _ _ _ z => z.w
  have fl := al3.flat
  have flw := fl.mono (P' := Lw 2) fun _ _ _ z => z.w
  have b1f : B1.flatten.length ≤ 2 * B1.length := flat_le (al.all_b fun _ _ _ z => z.l)
  obtain ⟨f1, f2⟩ := fl.len
  have few_eq : (B2.map lens).flatten = lens B2.flatten := by unfold lens; rw [List.map_flatten]
  have fewl : (B2.map lens).flatten.length = B2.flatten.length := by rw [few_eq, lens_len]
  have ml := mid_len (i := inner) (c := B2) (t := innermost) (by omega) (by omega)
  have sums : (B2.map lens).map List.sum = lens (B2.map List.flatten) := by
    rw [List.map_map]
    unfold lens
    rw [List.map_map]
    refine map_congr' fun c _ => ?_
    show (lens c).sum = ((c.flatten.length : Nat) : Int)
    rw [sum_lens, List.length_flatten]
  obtain ⟨M, hM⟩ : ∃ M, midF inner B2 innermost = M := ⟨_, rfl⟩
  have malw := mid_al al hs al3
  have rd := roads (outer := outer) hs al al3 fun t ht => (ho t ht).1
  have mg := fun k x y z h1 h2 h3 => mid_get (i := inner) (c := B2) (t := innermost) (k := k) (x := x) (y := y) (z := z) h1 h2 h3
  rw [hM] at ml malw rd mg
  obtain ⟨A, hA⟩ : ∃ A, grF outer M (lens (B2.map List.flatten)) = A := ⟨_, rfl⟩
  obtain ⟨H, hH⟩ : ∃ H, grF outer inner (lens B1) = H := ⟨_, rfl⟩
  rw [hA, hH] at rd
  have hok := grF_ok alw (by decide) ho
  rw [hH] at hok
  have hAl : A.length = outer.length := by rw [← hA, grF, List.length_map]
  have hHl : H.length = outer.length := by rw [← hH, grF, List.length_map]
  have t1 : TPre outer M (lens (B2.map List.flatten)) := tpre (h := 4) (n := 3) hs hsg malw (by decide) (by omega) ho (by decide) (by decide) (by omega)
  have t2 : TPre outer inner (lens B1) := tpre (h := 2) (n := 3) hs hsg alw (by decide) (by omega) ho (by decide) (by decide) (by omega)
  have t3 : TPre H innermost.flatten (lens B2.flatten) := tpre (h := 2) (n := 6) (flat_sd al fun _ _ _ z => z.sd) hsg flw (by decide) (by omega) hok (by decide) (by decide) (by omega)
  have c1 : Φ 16 [.lst (outer.map Tr.d), .lst (M.map enc), .lst ((lens (B2.map List.flatten)).map .int)] = some (.own (A.map Tr.d)) := by rw [h16, ← hA]; exact m_told_at t1
  have c2 : Φ 16 [.lst (outer.map Tr.d), .lst (inner.map enc), .lst ((lens B1).map .int)] = some (.own (H.map Tr.d)) := by rw [h16, ← hH]; exact m_told_at t2
  have c3 : Φ 16 [.lst (H.map Tr.d), .lst (innermost.flatten.map enc), .lst ((lens B2.flatten).map .int)] = some (.own (A.map Tr.d)) := by rw [h16, ← rd]; exact m_told_at t3
  have c5 : Φ 5 [.lst (A.map Tr.d), .lst (A.map Tr.d)] = some (.dat (.bl true)) := by
    rw [h5]
    refine m_same_at (by decide) (by decide) (good_le (good_trs (n := 27) (by omega) ?_) (by omega))
    rw [← hA]
    exact t1.r
  -- middle
  have cp : ∀ ρ : PD.Env, ρ = [.dat (.lst (outer.map Tr.d)), .dat (.lst (inner.map enc)), .dat (.lst ((lens B1).map .int)), .dat (.lst (innermost.map enc)), .dat (.lst ((B2.map lens).map enc)), .un, .un, .un, .un, .un, .un, .un, .un, .un] →
      evE Φ (.comp (.call 16 (.cons (.idx (.slot 1) (.slot 10)) (.cons (.idx (.slot 3) (.slot 10)) (.cons (.idx (.slot 4) (.slot 10)) .nil)))) (.name 10) (.rng1 (.bi .len (.cons (.slot 1) .nil))) [10]) ρ = some (.own (M.map enc)) := by
    rintro ρ rfl
    rw [← range_getD (f := (enc : List Tr → D)) (l := M) (a := [])]
    apply ev_comp (xs := List.range M.length) (fun k : Nat => D.int (k : Nat)) (fun k => enc (M.getD k []))
    · rw [rng_it, ml]; walk_at "it"
    · intro k hk
      have hk := List.mem_range.mp hk
      obtain ⟨s, e0⟩ := get_of (l := sides) (i := k) (by omega)
      obtain ⟨bl, e1⟩ := get_of (l := B1) (i := k) (by omega)
      obtain ⟨c, e2⟩ := get_of (l := B2) (i := k) (by omega)
      obtain ⟨Ib, e3⟩ := get_of (l := innermost) (i := k) (by omega)
      obtain ⟨ts, e4⟩ := get_of (l := inner) (i := k) (by omega)
      have p := al.get k s bl ts e0 e1 e4
      have q := (al3.get k bl c Ib e1 e2 e3).mono (P' := Lw 2) fun _ _ _ z => z.w
      have sd := hs s (List.mem_of_getElem? e0)
      have pl := p.l
      have pm := p.m
      have tp : TPre ts Ib (lens c) := tpre (h := 2) (n := 2) p.sd (by have := sd.c; omega) q (by decide) (by omega) p.t (by decide) (by decide) (by omega)
      have ix1 : atI (inner.map (enc : List Tr → D)) (k : Nat) = some (.lst (ts.map Tr.d)) := at_map (by omega) e4
      have ix2 : atI (innermost.map (enc : List (List Tr) → D)) (k : Nat) = some (.lst (Ib.map enc)) := at_map (by omega) e3
      have ix3 : atI ((B2.map lens).map (enc : List Int → D)) (k : Nat) = some (.lst ((lens c).map .int)) := at_map (by omega) (by rw [List.getElem?_map]; show Option.map _ B2[k]? = _; rw [e2]; rfl)
      have cl : Φ 16 [.lst (ts.map Tr.d), .lst (Ib.map enc), .lst ((lens c).map .int)] = some (.own ((grF ts Ib (lens c)).map Tr.d)) := by rw [h16]; exact m_told_at tp
      rw [getD_some (mg k _ _ _ e4 e2 e3)]
      exact ⟨_, rfl, by walk_at "td"⟩
  have cp' := cp _ rfl
  have cn : ∀ ρ : PD.Env, ρ[5]? = some (.dat (.lst (M.map enc))) → 13 < ρ.length → evE Φ (.compf (.slot 13) (.name 13) (.seq (.slot 5)) (.cmp .is_ (.slot 13) (.lit .non)) [13]) ρ = some (.own []) := by
    intro ρ e1 e2
    have := ev_compf (Φ := Φ) (ρ := ρ) (c := .cmp .is_ (.slot 13) (.lit .non)) (elt := .slot 13) (tg := .name 13) (it := .seq (.slot 5)) (own := [13]) (xs := M) (enc : List Tr → D) (enc : List Tr → D) (fun _ => false) (it_seq (td (ev_slot e1) rfl) (seq_lst (by rw [List.length_map]; unfold LIM; omega))) (fun ts hts => ⟨_, rfl, ob (ev_cmp (td (ev_slot (d := .lst (ts.map enc)) (by rw [List.getElem?_set_self (by unfold unE; simp; exact e2)]; rfl)) rfl) (td ev_lit rfl) rfl), fun z => by cases z⟩)
    rw [this]
    simp
  have cs : ∀ ρ : PD.Env, ρ[4]? = some (.dat (.lst ((B2.map lens).map enc))) → 12 < ρ.length → evE Φ (.comp (.bi .sum (.cons (.slot 12) .nil)) (.name 12) (.seq (.slot 4)) [12]) ρ = some (.own ((lens (B2.map List.flatten)).map .int)) := by
    intro ρ e1 e2
    rw [← sums, List.map_map]
    apply ev_comp (xs := B2.map lens) (enc : List Int → D) (fun l : List Int => D.int l.sum)
    · exact it_seq (td (ev_slot e1) rfl) (seq_lst (by rw [List.length_map, List.length_map]; unfold LIM; omega))
    · intro l hl
      refine ⟨_, rfl, td (ev_bi (es_cons (td (ev_slot (d := .lst (l.map .int)) ?_) rfl) es_nil) (sum_map l)) rfl⟩
      rw [List.getElem?_set_self (by unfold unE; simp; exact e2)]
      rfl
  apply wp_asg
  · exact cp'
  · exact rfl
  apply wp_no
  · exact ob (ev_cmp (td (ev_bi (es_cons (td (cn _ rfl (Nat.le_refl 14)) rfl) es_nil) (bi_lenL rfl)) rfl) (td ev_lit rfl) rfl)
  · decide
  apply wp_asg
  · exact ev_call (es_cons (td (ev_slot rfl) rfl) (es_cons (td (ev_slot rfl) rfl) (es_cons (td (cs _ rfl (show 12 < 14 by decide)) rfl) es_nil))) c1
  · exact rfl
  apply wp_asg
  · exact ev_call (es_cons (td (ev_slot rfl) rfl) (es_cons (td (ev_slot rfl) rfl) (es_cons (td (ev_slot rfl) rfl) es_nil))) c2
  · exact rfl
  apply wp_no
  · exact ob (ev_or (ob (ev_cmp (td (ev_slot rfl) rfl) (td ev_lit rfl) rfl)) fun _ => ob (ev_cmp (td (ev_slot rfl) rfl) (td ev_lit rfl) rfl))
  · rfl
  walk_at "asg"
  walk_at "asg"
  have fbl := flat_part innermost
  have fbf := flat_part (B2.map lens)
  refine wp_for (items := (List.range inner.length).map fun k : Nat => D.int (k : Nat)) (fun k ρ => ∃ s10, k ≤ inner.length ∧ ρ = [.dat (.lst (outer.map Tr.d)), .dat (.lst (inner.map enc)), .dat (.lst ((lens B1).map .int)), .dat (.lst (innermost.map enc)), .dat (.lst ((B2.map lens).map enc)), .dat (.lst (M.map enc)), .own (A.map Tr.d), .own (H.map Tr.d), .own ((innermost.take k).flatten.map enc), .own (((B2.map lens).take k).flatten.map .int), s10, .un, .un, .un]) ?_ ⟨.un, Nat.zero_le _, rfl⟩ (fun k d ρ e hI => ?_) (fun ρ' hI => ?_)
  · rw [rng_it]; exact it_rng1 (td (ev_bi (es_cons (td (ev_slot rfl) rfl) es_nil) (bi_lenL (List.length_map _))) rfl) (by rw [rngG, LIM]; omega)
  · obtain ⟨s10, hk, rfl⟩ := hI
    obtain ⟨hk, rfl⟩ := rng_items e
    obtain ⟨c, e2⟩ := get_of (l := B2.map lens) (i := k) (by rw [List.length_map]; omega)
    obtain ⟨Ib, e3⟩ := get_of (l := innermost) (i := k) (by omega)
    have ix1 : atI (innermost.map (enc : List (List Tr) → D)) (k : Nat) = some (.lst (Ib.map enc)) := at_map (by omega) e3
    have ix2 : atI ((B2.map lens).map (enc : List Int → D)) (k : Nat) = some (.lst (c.map .int)) := at_map (by omega) e2
    have st1 := flat_step e3
    have st2 := flat_step e2
    have g1 := fbl (k + 1)
    have g2 := fbf (k + 1)
    rw [st1, List.length_append] at g1
    rw [st2, List.length_append] at g2
    refine ⟨_, rfl, ?_⟩
    apply wp_asg
    · apply ev_bin
      · exact td (ev_slot rfl) rfl
      · exact td (ev_idx (td (ev_slot rfl) rfl) (td (ev_slot rfl) rfl) (ix_l ix1)) rfl
      · apply vb_catL
        rw [List.length_map, List.length_map]; unfold LIM; omega
    · exact rfl
    apply wp_asg
    · apply ev_bin
      · exact td (ev_slot rfl) rfl
      · exact td (ev_idx (td (ev_slot rfl) rfl) (td (ev_slot rfl) rfl) (ix_l ix2)) rfl
      · apply vb_catL
        rw [List.length_map, List.length_map]; unfold LIM; omega
    · exact rfl
    refine wp_nil ⟨.dat (.int (k : Nat)), hk, ?_⟩
    rw [st1, st2, List.map_append, List.map_append]
    rfl
  · obtain ⟨s10, _, rfl⟩ := hI
    rw [List.length_map, List.length_range, List.take_of_length_le (by omega), List.take_of_length_le (by rw [List.length_map]; omega), few_eq]
    apply wp_asg
    · exact ev_call (es_cons (td (ev_slot rfl) rfl) (es_cons (td (ev_slot rfl) rfl) (es_cons (td (ev_slot rfl) rfl) es_nil))) c3
    · exact rfl
    apply wp_ret
    · exact ev_and (ob (ev_cmp (td (ev_slot rfl) rfl) (td ev_lit rfl) rfl)) fun _ => ob (ev_call (es_cons (td (ev_slot rfl) rfl) (es_cons (td (ev_slot rfl) rfl) es_nil)) c5)
    · rfl
end K81

set_option Elab.async false
set_option linter.all false
set_option maxRecDepth 100000
set_option maxHeartbeats 4000000
/-! K81j: straight trees. -/
namespace K81
open PySem PySem.Spec PyProof.Rows L2 PD
open Enc (enc)
local macro_rules | `(tactic| walk_at "gd") => `(tactic| first
  | assumption
  | omega
  | (simp only [LIM, List.length_cons, List.length_nil, List.length_map, List.length_append, List.length_replicate, rngI_len, rngD_len, rngG, List.length_dropLast]; omega)
  | (simp only [LIM, List.length_cons, List.length_nil, List.length_map, List.length_append, List.length_replicate, rngI_len, rngD_len, rngG, List.length_dropLast]; done)
  | decide)
local macro_rules | `(tactic| walk_at "cl") => `(tactic| assumption)
local macro_rules | `(tactic| walk_at "ix") => `(tactic| first
  | assumption
  | exact rfl
  | (apply at_map; (· walk_at "gd"); (· assumption)))
local macro_rules | `(tactic| walk_at "vb") => `(tactic| first
  | (apply vb_mul; walk_at "gd")
  | (apply vb_fdiv; walk_at "gd")
  | (apply vb_mod; walk_at "gd")
  | (apply vb_pow; walk_at "gd")
  | (apply vb_catT; walk_at "gd")
  | (apply vb_catL; walk_at "gd")
  | (apply vb_rep; walk_at "gd")
  | exact rfl)
local macro_rules | `(tactic| walk_at "td") => `(tactic| (apply td; (· walk_at "ev"); (· exact rfl)))
local macro_rules | `(tactic| walk_at "es") => `(tactic| first
  | exact es_nil
  | (apply es_cons; (· walk_at "td"); (· walk_at "es")))
local macro_rules | `(tactic| walk_at "eo") => `(tactic| first
  | exact eo_no
  | (apply eo_yes; walk_at "td"))
local macro_rules | `(tactic| walk_at "ob") => `(tactic| (apply ob; walk_at "ev"))
local macro_rules | `(tactic| walk_at "vc") => `(tactic| first | assumption | exact rfl)
local macro_rules | `(tactic| walk_at "ln") => `(tactic| first
  | ((try simp only [List.length_cons, List.length_nil, List.length_map, List.length_append, List.length_replicate, rngI_len, rngD_len, List.length_dropLast, List.length_range]); exact rfl)
  | assumption)
local macro_rules | `(tactic| walk_at "bi") => `(tactic| first
  | assumption
  | (apply bi_lenL; walk_at "ln")
  | (apply bi_lenT; walk_at "ln")
  | (apply bi_lenF; walk_at "ln")
  | exact rfl | assumption)
local macro_rules | `(tactic| walk_at "ev") => `(tactic| first
  | exact ev_lit
  | exact ev_slot rfl
  | (apply ev_bin; (· walk_at "td"); (· walk_at "td"); (· walk_at "vb"))
  | (apply ev_bi; (· walk_at "es"); (· walk_at "bi"))
  | (apply ev_call; (· walk_at "es"); (· walk_at "cl"))
  | (apply ev_idx; (· walk_at "td"); (· walk_at "td"); (· first | assumption | (apply ix_l; walk_at "ix") | (apply ix_t; walk_at "ix") | (apply ix_f; walk_at "ix")))
  | (apply ev_isi; (· walk_at "td"); (· exact rfl))
  | (apply ev_cmp; (· walk_at "td"); (· walk_at "td"); (· walk_at "vc"))
  | (apply ev_chain; (· walk_at "td"); (· walk_at "td"); (· walk_at "td"); (· walk_at "vc"); (· walk_at "vc"))
  | (apply ev_not; walk_at "ob")
  | (apply ev_and; (· walk_at "ob"); (· intro _; walk_at "ob"))
  | (apply ev_or; (· walk_at "ob"); (· intro _; walk_at "ob"))
  | (apply ev_lenS'; (· exact rfl); (· walk_at "ln"))
  | (apply ev_idxS; (· exact rfl); (· walk_at "td"); (· walk_at "ix"))
  | (apply ev_tup; (· walk_at "es"); (· walk_at "gd"))
  | (apply ev_lst; (· walk_at "es"); (· walk_at "gd"))
  | (apply ev_slice; (· walk_at "td"); (· walk_at "eo"); (· walk_at "eo"); (· exact rfl))
  | (apply ev_neg; walk_at "td")
  | (apply ev_listr1; (· walk_at "td"); (· walk_at "gd"))
  | (apply ev_listr2; (· walk_at "td"); (· walk_at "td"); (· walk_at "gd"))
  | (apply ev_callk; (· walk_at "es"); (· walk_at "es"); (· walk_at "cl"))
  | assumption)
local macro_rules | `(tactic| walk_at "asg") => `(tactic| (apply wp_asg; (· walk_at "ev"); (· exact rfl)))
local macro_rules | `(tactic| walk_at "app") => `(tactic| (apply wp_app; (· walk_at "td"); (· exact rfl); (· walk_at "gd")))
local macro_rules | `(tactic| walk_at "ret") => `(tactic| (apply wp_ret; (· walk_at "ev")))
local macro_rules | `(tactic| walk_at "if") => `(tactic| (apply wp_if; (· walk_at "ob")))
local macro_rules | `(tactic| walk_at "tt") => `(tactic| first | exact rfl | assumption | (simp; done) | (simp; omega))
local macro_rules | `(tactic| walk_at "no") => `(tactic| (apply wp_no; (· walk_at "ob"); (· walk_at "tt")))
local macro_rules | `(tactic| walk_at "yes") => `(tactic| (apply wp_ifT; (· walk_at "ob"); (· walk_at "tt")))
local macro_rules | `(tactic| walk_at "it") => `(tactic| first
  | (apply it_rng1; (· walk_at "td"); (· walk_at "gd"))
  | (apply it_rng2; (· walk_at "td"); (· walk_at "td"); (· walk_at "gd"))
  | (apply it_seq; (· walk_at "td"); (· first | assumption | (apply seq_lst; walk_at "gd") | (apply seq_tup; walk_at "gd") | (apply seq_fl; walk_at "gd"))))
def tellsF (n : Nat) : List Tr := (List.range n).map fun s : Nat => .tell (s : Nat)
def strF (s : Sd) (number : Int) : List Tr := (List.range s.1.toNat).map fun k : Nat => .ask number (k : Nat) (tellsF s.2.toNat)
theorem tellsF_d (n : Nat) : (tellsF n).map Tr.d = (List.range n).map fun s : Nat => .tup [.str "tell", .int (s : Nat)] := by
  unfold tellsF
  rw [List.map_map]
  exact map_congr' fun x _ => d_tell _
theorem tellsF_len (n : Nat) : (tellsF n).length = n := by unfold tellsF; simp
theorem tellsF_get {n k : Nat} (h : k < n) : (tellsF n).getD k (.tell 0) = .tell (k : Nat) := by
  unfold tellsF
  rw [List.getD_eq_getElem?_getD, List.getElem?_map, List.getElem?_range h]
  rfl
theorem tellsF_map {B : List Tr} {s : Int} {n : Nat} (h : B.length = n) : (tellsF n).map (placedT s B) = B := by
  subst h
  unfold tellsF
  rw [List.map_map]
  have : (placedT s B ∘ fun s : Nat => Tr.tell (s : Nat)) = fun k : Nat => (fun t : Tr => t) (B.getD k (.tell 0)) := by
    funext k
    show placedT s B (.tell (k : Nat)) = _
    rw [placed_tell, Int.toNat_natCast]
  rw [this, range_getD (f := fun t : Tr => t)]
  simp
theorem strF_get {s : Sd} {number : Int} {d : Int} (h0 : 0 ≤ d) (h1 : d < s.1) : (strF s number)[d.toNat]? = some (.ask number d (tellsF s.2.toNat)) := by
  unfold strF
  rw [List.getElem?_map, List.getElem?_range (by omega)]
  show some (Tr.ask number ((d.toNat : Nat) : Int) _) = _
  rw [Int.toNat_of_nonneg h0]
noncomputable def m_straight : Mf := fn2 (fun (s : Sd) (number : Int) => SdOk s) fun s number => .own ((strF s number).map Tr.d)
theorem m_straight_at {s : Sd} {number : Int} (h : SdOk s) : m_straight [.tup [.int s.1, .int s.2], .int number] = some (.own ((strF s number).map Tr.d)) := fn2_at (a := s) (b := number) (p := fun (s : Sd) (number : Int) => SdOk s) h
theorem run_straight {Φ : Nat → Mf} : ∀ ds r, m_straight ds = some r → runD Φ 2 5 ir_law_straight ds = some r := fun ds r hh => by
  obtain ⟨s, number, rfl, h, rfl⟩ := fn2_inv hh
  clear hh
  show runD Φ 2 5 ir_law_straight [.tup [.int s.1, .int s.2], .int number] = _
  apply run_wp (np := 2) (ds := [.tup [.int s.1, .int s.2], .int number]) rfl
  have ha := h.a; have hb := h.b; have hc := h.c; have hd := h.d
  have cp : ∀ ρ : PD.Env, ρ = [.dat (.tup [.int s.1, .int s.2]), .dat (.int number), .un, .un, .un] → evE Φ (.comp (.tup (.cons (.lit (.str "tell")) (.cons (.slot 4) .nil))) (.name 4) (.rng1 (.idx (.slot 0) (.lit (.int 1)))) [4]) ρ = some (.own ((tellsF s.2.toNat).map Tr.d)) := by
    rintro ρ rfl
    rw [tellsF_d]
    apply ev_comp (xs := List.range s.2.toNat) (fun k : Nat => D.int (k : Nat)) (fun s : Nat => .tup [.str "tell", .int (s : Nat)])
    · rw [← rngD_nat (by omega)]; walk_at "it"
    · intro k hk
      exact ⟨_, rfl, by walk_at "td"⟩
  have cp' := cp _ rfl
  apply wp_asg
  · exact ev_bi (es_cons (td cp' rfl) es_nil) rfl
  · exact rfl
  apply wp_ret
  · apply ev_comp (xs := List.range s.1.toNat) (fun k : Nat => D.int (k : Nat)) (fun k : Nat => .tup [.str "ask", .int number, .int (k : Nat), .tup ((tellsF s.2.toNat).map Tr.d)])
    · rw [← rngD_nat (by omega)]; walk_at "it"
    · intro k hk
      exact ⟨_, rfl, by walk_at "td"⟩
  · show Sl.own _ = Sl.own _
    unfold strF
    rw [List.map_map]
    congr 1
    exact map_congr' fun k _ => (d_ask _ _ _).symm
/-! the plain law of straight trees -/
theorem ren_tell (w : List Int) (s : Int) : renT w (.tell s) = .tell s := by rw [renT]
theorem ren_ask (w : List Int) (b d : Int) (l : List Tr) : renT w (.ask b d l) = .ask (w.getD b.toNat 0) d (l.map (renT w)) := by rw [renT, renTs_eq]
theorem straight_graft {sides : List Sd} {signs : Int} {I : List (List Tr)} {S w : List Int} (hI : ∀ (k : Nat) (s : Sd), sides[k]? = some s → ∃ num : Int, I[k]? = some (strF s num) ∧ w.getD k 0 = S.getD k 0 + num) (t : Tr) : okT sides signs t → graftT I S t = renT w t := by
  induction t using Tr.ind with
  | h1 x => intro _; rw [graft_tell, ren_tell]
  | h2 b d l ih =>
    intro h
    obtain ⟨x, y, h0, h1, h2, h3, h4, h5⟩ := okT_ask.mp h
    obtain ⟨num, e1, e2⟩ := hI _ _ h1
    rw [graft_ask, ren_ask, getD_some e1, getD_some (strF_get h2 h3), placed_ask, e2, tellsF_map (by rw [List.length_map]; simp only; omega)]
    congr 1
    exact map_congr' fun t ht => ih t ht (h5 t ht)
theorem str_gr {sides : List Sd} {signs : Int} (hs : SdL sides) {I : List (List Tr)} {counts : List Int} (hI : ∀ (k : Nat) (s : Sd), sides[k]? = some s → ∃ num : Int, ∃ c : Nat, I[k]? = some (strF s num) ∧ counts[k]? = some (c : Int) ∧ 0 ≤ num ∧ num < (c : Int)) (t : Tr) : okT sides signs t → Gr I counts t := by
  induction t using Tr.ind with
  | h1 x => intro _; exact .tell
  | h2 b d l ih =>
    intro h
    obtain ⟨x, y, h0, h1, h2, h3, h4, h5⟩ := okT_ask.mp h
    obtain ⟨num, c, e1, e2, e3, e4⟩ := hI _ _ h1
    have sd := (hs _ (List.mem_of_getElem? h1)).d
    simp only at sd
    refine .ask h0 e1 h2 (strF_get h2 h3) e2 (.ask e3 e4 (by rw [tellsF_len]; simp only; omega) fun t ht => ?_) ?_ (by omega) fun t ht => ih t ht (h5 t ht)
    · unfold tellsF at ht
      obtain ⟨k, hk, rfl⟩ := List.mem_map.mp ht
      have := List.mem_range.mp hk
      simp only at this
      exact .tell (by omega) (by omega)
    · rw [Tr.ht]
      have : Tr.hts (tellsF (x, y).2.toNat) ≤ 0 := Tr.hts_le fun t ht => by
        unfold tellsF at ht
        obtain ⟨k, hk, rfl⟩ := List.mem_map.mp ht
        exact Nat.le_refl _
      omega
theorem ren_sm {w : List Int} {t : Tr} (h : Sm t) : Sm (renT w t) := by
  induction h with
  | tell => rw [ren_tell]; exact .tell
  | @ask b d l h2 h3 ih =>
    rw [ren_ask]
    refine .ask (by rw [List.length_map]; exact h2) fun t ht => ?_
    obtain ⟨u, hu, rfl⟩ := List.mem_map.mp ht
    exact ih u hu
theorem ren_ht (w : List Int) (t : Tr) : (renT w t).ht ≤ t.ht := by
  induction t using Tr.ind with
  | h1 x => rw [ren_tell]; exact Nat.le_refl _
  | h2 b d l ih =>
    rw [ren_ask, Tr.ht, Tr.ht]
    refine Nat.succ_le_succ (Tr.hts_le fun t ht => ?_)
    obtain ⟨u, hu, rfl⟩ := List.mem_map.mp ht
    exact Nat.le_trans (ih u hu) (Tr.ht_le hu)
theorem map_id_of {α : Type} {f : α → α} {l : List α} (h : ∀ x ∈ l, f x = x) : l.map f = l := by
  have := map_congr' (f := f) (g := id) h
  rw [this, List.map_id]
theorem ren_id {w : List Int} {c m : Nat} (hw : ∀ k, k < c → w.getD k 0 = (k : Nat)) {t : Tr} (h : Pl c m t) : renT w t = t := by
  induction h with
  | tell _ _ => rw [ren_tell]
  | @ask b d l h0 h1 h2 h3 ih => rw [ren_ask, hw _ (by omega), Int.toNat_of_nonneg h0, map_id_of ih]
theorem placed_id {c m : Nat} {t : Tr} (h : Pl c m t) : placedT 0 (tellsF m) t = t := by
  induction h with
  | @tell s h0 h1 => rw [placed_tell, tellsF_get (by omega), Int.toNat_of_nonneg h0]
  | @ask b d l h0 h1 h2 h3 ih => rw [placed_ask, Int.zero_add, map_id_of ih]
end K81

set_option Elab.async false
set_option linter.all false
set_option maxRecDepth 100000
set_option maxHeartbeats 4000000
/-! K81k: _law_straight_holds. -/
namespace K81
open PySem PySem.Spec PyProof.Rows L2 PD
open Enc (enc)
local macro_rules | `(tactic| walk_at "gd") => `(tactic| first
  | assumption
  | omega
  | (simp only [LIM, List.length_cons, List.length_nil, List.length_map, List.length_append, List.length_replicate, rngI_len, rngD_len, rngG, List.length_dropLast]; omega)
  | (simp only [LIM, List.length_cons, List.length_nil, List.length_map, List.length_append, List.length_replicate, rngI_len, rngD_len, rngG, List.length_dropLast]; done)
  | decide)
local macro_rules | `(tactic| walk_at "cl") => `(tactic| assumption)
local macro_rules | `(tactic| walk_at "ix") => `(tactic| first
  | assumption
  | exact rfl
  | (apply at_map; (· walk_at "gd"); (· assumption)))
local macro_rules | `(tactic| walk_at "vb") => `(tactic| first
  | (apply vb_mul; walk_at "gd")
  | (apply vb_fdiv; walk_at "gd")
  | (apply vb_mod; walk_at "gd")
  | (apply vb_pow; walk_at "gd")
  | (apply vb_catT; walk_at "gd")
  | (apply vb_catL; walk_at "gd")
  | (apply vb_rep; walk_at "gd")
  | exact rfl)
local macro_rules | `(tactic| walk_at "td") => `(tactic| (apply td; (· walk_at "ev"); (· exact rfl)))
local macro_rules | `(tactic| walk_at "es") => `(tactic| first
  | exact es_nil
  | (apply es_cons; (· walk_at "td"); (· walk_at "es")))
local macro_rules | `(tactic| walk_at "eo") => `(tactic| first
  | exact eo_no
  | (apply eo_yes; walk_at "td"))
local macro_rules | `(tactic| walk_at "ob") => `(tactic| (apply ob; walk_at "ev"))
local macro_rules | `(tactic| walk_at "vc") => `(tactic| first | assumption | exact rfl)
local macro_rules | `(tactic| walk_at "ln") => `(tactic| first
  | ((try simp only [List.length_cons, List.length_nil, List.length_map, List.length_append, List.length_replicate, rngI_len, rngD_len, List.length_dropLast, List.length_range]); exact rfl)
  | assumption)
local macro_rules | `(tactic| walk_at "bi") => `(tactic| first
  | assumption
  | (apply bi_lenL; walk_at "ln")
  | (apply bi_lenT; walk_at "ln")
  | (apply bi_lenF; walk_at "ln")
  | exact rfl | assumption)
local macro_rules | `(tactic| walk_at "ev") => `(tactic| first
  | exact ev_lit
  | exact ev_slot rfl
  | (apply ev_bin; (· walk_at "td"); (· walk_at "td"); (· walk_at "vb"))
  | (apply ev_bi; (· walk_at "es"); (· walk_at "bi"))
  | (apply ev_call; (· walk_at "es"); (· walk_at "cl"))
  | (apply ev_idx; (· walk_at "td"); (· walk_at "td"); (· first | assumption | (apply ix_l; walk_at "ix") | (apply ix_t; walk_at "ix") | (apply ix_f; walk_at "ix")))
  | (apply ev_isi; (· walk_at "td"); (· exact rfl))
  | (apply ev_cmp; (· walk_at "td"); (· walk_at "td"); (· walk_at "vc"))
  | (apply ev_chain; (· walk_at "td"); (· walk_at "td"); (· walk_at "td"); (· walk_at "vc"); (· walk_at "vc"))
  | (apply ev_not; walk_at "ob")
  | (apply ev_and; (· walk_at "ob"); (· intro _; walk_at "ob"))
  | (apply ev_or; (· walk_at "ob"); (· intro _; walk_at "ob"))
  | (apply ev_lenS'; (· exact rfl); (· walk_at "ln"))
  | (apply ev_idxS; (· exact rfl); (· walk_at "td"); (· walk_at "ix"))
  | (apply ev_tup; (· walk_at "es"); (· walk_at "gd"))
  | (apply ev_lst; (· walk_at "es"); (· walk_at "gd"))
  | (apply ev_slice; (· walk_at "td"); (· walk_at "eo"); (· walk_at "eo"); (· exact rfl))
  | (apply ev_neg; walk_at "td")
  | (apply ev_listr1; (· walk_at "td"); (· walk_at "gd"))
  | (apply ev_listr2; (· walk_at "td"); (· walk_at "td"); (· walk_at "gd"))
  | (apply ev_callk; (· walk_at "es"); (· walk_at "es"); (· walk_at "cl"))
  | assumption)
local macro_rules | `(tactic| walk_at "asg") => `(tactic| (apply wp_asg; (· walk_at "ev"); (· exact rfl)))
local macro_rules | `(tactic| walk_at "app") => `(tactic| (apply wp_app; (· walk_at "td"); (· exact rfl); (· walk_at "gd")))
local macro_rules | `(tactic| walk_at "ret") => `(tactic| (apply wp_ret; (· walk_at "ev")))
local macro_rules | `(tactic| walk_at "if") => `(tactic| (apply wp_if; (· walk_at "ob")))
local macro_rules | `(tactic| walk_at "tt") => `(tactic| first | exact rfl | assumption | (simp; done) | (simp; omega))
local macro_rules | `(tactic| walk_at "no") => `(tactic| (apply wp_no; (· walk_at "ob"); (· walk_at "tt")))
local macro_rules | `(tactic| walk_at "yes") => `(tactic| (apply wp_ifT; (· walk_at "ob"); (· walk_at "tt")))
local macro_rules | `(tactic| walk_at "it") => `(tactic| first
  | (apply it_rng1; (· walk_at "td"); (· walk_at "gd"))
  | (apply it_rng2; (· walk_at "td"); (· walk_at "td"); (· walk_at "gd"))
  | (apply it_seq; (· walk_at "td"); (· first | assumption | (apply seq_lst; walk_at "gd") | (apply seq_tup; walk_at "gd") | (apply seq_fl; walk_at "gd"))))
theorem wp_cast {Φ : Nat → Mf} {ss : Ss} {ρ ρ' : PD.Env} {K : Post} (h : ρ = ρ') (k : wp Φ ss ρ' K) : wp Φ ss ρ K := h ▸ k
theorem ev_rngc {Φ : Nat → Mf} {a elt : PD.E} {j : Nat} {own : List Nat} {ρ : PD.Env} (n : Nat) (g : Nat → D) (hi : toDo (evE Φ a ρ) = some (.int (n : Nat))) (hn : n ≤ 1000) (h : ∀ k, k < n → toDo (evE Φ elt ((unE ρ own).set j (.dat (.int (k : Nat))))) = some (g k)) : evE Φ (.comp elt (.name j) (.rng1 a) own) ρ = some (.own ((List.range n).map g)) := by
  apply ev_comp (xs := List.range n) (fun k : Nat => D.int (k : Nat)) g
  · rw [rng_it]
    exact it_rng1 hi (by rw [rngG, LIM]; omega)
  · intro k hk
    exact ⟨_, rfl, h k (List.mem_range.mp hk)⟩
theorem map_int (n : Nat) (f : Nat → Int) : (List.range n).map (fun k => D.int (f k)) = ((List.range n).map f).map D.int := by rw [List.map_map]; rfl
theorem at_rng {α : Type} {n k : Nat} {u : α → D} {f : Nat → α} (h : k < n) : atI (((List.range n).map f).map u) (k : Nat) = some (u (f k)) := at_map (by omega) (by rw [Int.toNat_natCast, List.getElem?_map, List.getElem?_range h]; rfl)
def manyF (dr : List Int) (k : Nat) : Int := 1 + dr.getD k 0 / 2
def numF (dr : List Int) (k : Nat) : Int := dr.getD k 0 % manyF dr k
structure SPre (outer : List Tr) (sides : List Sd) (signs : Int) (dr : List Int) : Prop where
  s : SdL sides
  l : sides.length ≤ 3
  g : 2 ≤ signs ∧ signs ≤ 3
  o : ∀ t ∈ outer, okT sides signs t ∧ t.ht ≤ 3
  ol : 1 ≤ outer.length ∧ outer.length ≤ 100
  dl : dr.length = 3
  d : ∀ d ∈ dr, 0 ≤ d ∧ d ≤ 3
noncomputable def m_sh : Mf := fn4 (fun (outer : List Tr) (sides : List Sd) (signs : Int) (dr : List Int) => SPre outer sides signs dr) fun _ _ _ _ => .dat (.bl true)
theorem m_sh_at {outer : List Tr} {sides : List Sd} {signs : Int} {dr : List Int} (h : SPre outer sides signs dr) : m_sh [.lst (outer.map Tr.d), .lst (sides.map enc), .int signs, .lst (dr.map .int)] = some (.dat (.bl true)) := fn4_at (a := outer) (b := sides) (c := signs) (d := dr) (p := fun (outer : List Tr) (sides : List Sd) (signs : Int) (dr : List Int) => SPre outer sides signs dr) h
theorem slim_same {Φ : Nat → Mf} (h5 : Φ 5 = m_same 60) {ts : List Tr} (hl : ts.length ≤ 1000) (h : ∀ t ∈ ts, Slim 27 t) : Φ 5 [.lst (ts.map Tr.d), .lst (ts.map Tr.d)] = some (.dat (.bl true)) := by
  rw [h5]
  exact m_same_at (by decide) (by decide) (good_le (good_trs (n := 27) hl h) (by omega))
theorem take_rep (n k : Nat) : ((List.replicate n (1 : Int)).take k).sum = ((min k n : Nat) : Int) := by
  rw [List.take_replicate]
  generalize min k n = m
  induction m with
  | zero => rfl
  | succ m ih => rw [List.replicate_succ, List.sum_cons, ih]; omega
theorem run_sh {Φ : Nat → Mf} (h0 : Φ 0 = m_graft) (h5 : Φ 5 = m_same 60) (h10 : Φ 10 = m_starts) (h11 : Φ 11 = m_ren 28) (h18 : Φ 18 = m_straight) : ∀ ds r, m_sh ds = some r → runD Φ 4 15 ir_law_straight_holds ds = some r := fun ds r hh => by
  obtain ⟨outer, sides, signs, dr, rfl, h, rfl⟩ := fn4_inv hh
  clear hh
  show runD Φ 4 15 ir_law_straight_holds [.lst (outer.map Tr.d), .lst (sides.map enc), .int signs, .lst (dr.map .int)] = _
  apply run_wp (np := 4) (ds := [.lst (outer.map Tr.d), .lst (sides.map enc), .int signs, .lst (dr.map .int)]) rfl
  have hs := h.s; have hl := h.l; have hg := h.g; have ho := h.o; have hol := h.ol; have hdl := h.dl
  have hd : ∀ k, k < sides.length → 0 ≤ dr.getD k 0 ∧ dr.getD k 0 ≤ 3 := fun k hk => by
    have : k < dr.length := by omega
    rw [List.getD_eq_getElem?_getD, List.getElem?_eq_getElem this]
    exact h.d _ (List.getElem_mem this)
  have hm : ∀ k, k < sides.length → 1 ≤ manyF dr k ∧ manyF dr k ≤ 2 ∧ 0 ≤ numF dr k ∧ numF dr k < manyF dr k := fun k hk => by
    have := hd k hk
    have e : manyF dr k = 1 + dr.getD k 0 / 2 := rfl
    have h1 : 1 ≤ manyF dr k := by omega
    exact ⟨h1, by omega, Int.emod_nonneg _ (by omega), Int.emod_lt_of_pos _ (by omega)⟩
  obtain ⟨n, hn⟩ : ∃ n, sides.length = n := ⟨_, rfl⟩
  rw [hn] at hl hd hm
  have sl : vBi .len [.lst (sides.map (enc : Sd → D))] = some (.dat (.int (n : Nat))) := bi_lenL (by rw [List.length_map]; exact hn)
  have lnE : ∀ ρ : PD.Env, ρ[1]? = some (.dat (.lst (sides.map enc))) → toDo (evE Φ (.bi .len (.cons (.slot 1) .nil)) ρ) = some (.int (n : Nat)) := fun ρ e => td (ev_bi (es_cons (td (ev_slot e) rfl) es_nil) sl) rfl
  obtain ⟨many, hmany⟩ : ∃ l, (List.range n).map (manyF dr) = l := ⟨_, rfl⟩
  obtain ⟨num, hnum⟩ : ∃ l, (List.range n).map (numF dr) = l := ⟨_, rfl⟩
  obtain ⟨so, hso⟩ : ∃ l, (List.range n).map (fun k => strF (sides.getD k (1, 1)) (numF dr k)) = l := ⟨_, rfl⟩
  obtain ⟨w, hw⟩ : ∃ l, (List.range n).map (fun k => (startsF many).getD k 0 + numF dr k) = l := ⟨_, rfl⟩
  have ml : many.length = n := by rw [← hmany]; simp
  have wl : w.length = n := by rw [← hw]; simp
  have sol : so.length = n := by rw [← hso]; simp
  have ixd : ∀ k, k < n → atI (dr.map D.int) (k : Nat) = some (.int (dr.getD k 0)) := fun k hk => at_getD rfl (by omega)
  have ixm : ∀ k, k < n → atI (many.map D.int) (k : Nat) = some (.int (manyF dr k)) := fun k hk => by rw [← hmany]; exact at_rng hk
  have ixn : ∀ k, k < n → atI (num.map D.int) (k : Nat) = some (.int (numF dr k)) := fun k hk => by rw [← hnum]; exact at_rng hk
  have ixs : ∀ k, k < n → atI ((startsF many).map D.int) (k : Nat) = some (.int ((startsF many).getD k 0)) := fun k hk => at_getD rfl (by rw [startsF_len]; omega)
  have ixsd : ∀ k, k < n → atI (sides.map (enc : Sd → D)) (k : Nat) = some (.tup [.int (sides.getD k (1, 1)).1, .int (sides.getD k (1, 1)).2]) ∧ SdOk (sides.getD k (1, 1)) ∧ sides[k]? = some (sides.getD k (1, 1)) := fun k hk => by
    have e : sides[k]? = some (sides.getD k (1, 1)) := by
      have : k < sides.length := by omega
      rw [List.getD_eq_getElem?_getD, List.getElem?_eq_getElem this]; rfl
    exact ⟨at_map (by omega) e, hs _ (List.mem_of_getElem? e), e⟩
  have hgl : ∀ k s, sides[k]? = some s → k < n ∧ s = sides.getD k (1, 1) := fun k s e => ⟨by have := some_lt e; omega, (getD_some e).symm⟩
  have hwk : ∀ k, k < n → w.getD k 0 = (startsF many).getD k 0 + numF dr k := fun k hk => by
    rw [← hw, List.getD_eq_getElem?_getD, List.getElem?_map, List.getElem?_range hk]; rfl
  have hI : ∀ (k : Nat) (s : Sd), sides[k]? = some s → so[k]? = some (strF s (numF dr k)) := fun k s e => by
    obtain ⟨hk, rfl⟩ := hgl k s e
    rw [← hso, List.getElem?_map, List.getElem?_range hk]; rfl
  have pl : ∀ t ∈ outer, Pl n signs.toNat t := fun t ht => by rw [← hn]; exact okT_pl hs (by omega) t (ho t ht).1
  have slim : ∀ t ∈ outer, Slim 27 t := fun t ht => ⟨(pl t ht).sm, by have := (ho t ht).2; omega⟩
  -- the first graft
  have g1 : GPre outer so many := ⟨fun t ht => str_gr hs (fun k s e => by
      have hk := hgl k s e
      have hmk := hm k hk.1
      refine ⟨numF dr k, (manyF dr k).toNat, hI k s e, ?_, hmk.2.2.1, by omega⟩
      rw [← hmany, List.getElem?_map, List.getElem?_range hk.1]
      show some (manyF dr k) = _
      rw [Int.toNat_of_nonneg (by omega)]) t (ho t ht).1, fun t ht => by have := (ho t ht).2; omega, by omega, by omega, by omega⟩
  have e1 : grF outer so many = outer.map (renT w) := map_congr' fun t ht => straight_graft (fun k s e => ⟨numF dr k, hI k s e, hwk k (hgl k s e).1⟩) t (ho t ht).1
  have c1 : Φ 0 [.lst (outer.map Tr.d), .lst (so.map enc), .lst (many.map .int)] = some (.own ((outer.map (renT w)).map Tr.d)) := by rw [h0, ← e1]; exact m_graft_at (trees := ⟨false, outer⟩) (inner := ⟨false, so⟩) (counts := ⟨false, many⟩) g1
  have s1 := slim_same h5 (ts := outer.map (renT w)) (by rw [List.length_map]; omega) fun t ht => by
    obtain ⟨u, hu, rfl⟩ := List.mem_map.mp ht
    exact ⟨ren_sm (slim u hu).1, Nat.le_trans (ren_ht w u) (slim u hu).2⟩
  -- the second
  have g2 : GPre outer (sides.map fun s => strF s 0) (List.replicate n 1) := ⟨fun t ht => str_gr hs (fun k s e => ⟨0, 1, by rw [List.getElem?_map, e]; rfl, by rw [List.getElem?_replicate_of_lt (hgl k s e).1]; rfl, by decide, by decide⟩) t (ho t ht).1, fun t ht => by have := (ho t ht).2; omega, by omega, by simp [hn], by simp; omega⟩
  have e2 : grF outer (sides.map fun s => strF s 0) (List.replicate n 1) = outer := by
    unfold grF
    refine map_id_of fun t ht => ?_
    rw [straight_graft (w := startsF (List.replicate n 1)) (fun k s e => ⟨0, by rw [List.getElem?_map, e]; rfl, by omega⟩) t (ho t ht).1]
    refine ren_id (fun k hk => ?_) (pl t ht)
    rw [startsF_get (by simpa using hk), take_rep, Nat.min_eq_left (by omega)]
  have c2 : Φ 0 [.lst (outer.map Tr.d), .lst ((sides.map fun s => strF s 0).map enc), .lst ((List.replicate n (1 : Int)).map .int)] = some (.own (outer.map Tr.d)) := by
    have t : m_graft [.lst (outer.map Tr.d), .lst ((sides.map fun s => strF s 0).map enc), .lst ((List.replicate n (1 : Int)).map .int)] = some (.own ((grF outer (sides.map fun s => strF s 0) (List.replicate n 1)).map Tr.d)) := m_graft_at (trees := ⟨false, outer⟩) (inner := ⟨false, sides.map fun s => strF s 0⟩) (counts := ⟨false, List.replicate n 1⟩) g2
    rw [e2] at t
    rw [h0]
    exact t
  have s2 := slim_same h5 (ts := outer) (by omega) slim
  -- the third
  obtain ⟨t0, ht0⟩ := get_of (l := outer) (i := 0) (by omega)
  have m0 := List.mem_of_getElem? ht0
  have ix0 : atI (outer.map Tr.d) 0 = some t0.d := at_map (by decide) ht0
  have sg : signs.toNat ≤ 3 := by omega
  have ht1 : (Tr.ask 0 0 (tellsF signs.toNat)).ht < 28 := by
    rw [Tr.ht]
    have : Tr.hts (tellsF signs.toNat) ≤ 0 := Tr.hts_le fun t ht => by
      unfold tellsF at ht
      obtain ⟨k, hk, rfl⟩ := List.mem_map.mp ht
      exact Nat.le_refl _
    omega
  have g3 : GPre [.ask 0 0 (tellsF signs.toNat)] [[t0]] [(n : Int)] := ⟨fun t ht => by
      rw [List.mem_singleton.mp ht]
      refine .ask (by decide) rfl (by decide) rfl (c := n) rfl (by rw [tellsF_len]; exact pl t0 m0) (by have := (ho t0 m0).2; omega) (by rw [tellsF_len]; omega) fun u hu => ?_
      unfold tellsF at hu
      obtain ⟨k, hk, rfl⟩ := List.mem_map.mp hu
      exact .tell, fun t ht => by rw [List.mem_singleton.mp ht]; exact ht1, by simp, rfl, by simp⟩
  have e3 : grF [.ask 0 0 (tellsF signs.toNat)] [[t0]] [(n : Int)] = [t0] := by
    show [graftT [[t0]] (startsF [(n : Int)]) (.ask 0 0 (tellsF signs.toNat))] = [t0]
    rw [graft_ask]
    have : (tellsF signs.toNat).map (graftT [[t0]] (startsF [(n : Int)])) = tellsF signs.toNat := map_id_of fun u hu => by
      unfold tellsF at hu
      obtain ⟨k, hk, rfl⟩ := List.mem_map.mp hu
      exact graft_tell _ _ _
    rw [this]
    show [placedT 0 (tellsF signs.toNat) t0] = [t0]
    rw [placed_id (pl t0 m0)]
  have c3 : Φ 0 [.lst [.tup [.str "ask", .int 0, .int 0, .tup ((tellsF signs.toNat).map Tr.d)]], .lst [.lst [t0.d]], .lst [.int (n : Nat)]] = some (.own [t0.d]) := by
    have t : m_graft [.lst ([Tr.ask 0 0 (tellsF signs.toNat)].map Tr.d), .lst ([[t0]].map enc), .lst ([(n : Int)].map .int)] = some (.own ((grF [.ask 0 0 (tellsF signs.toNat)] [[t0]] [(n : Int)]).map Tr.d)) := m_graft_at (trees := ⟨false, [.ask 0 0 (tellsF signs.toNat)]⟩) (inner := ⟨false, [[t0]]⟩) (counts := ⟨false, [(n : Int)]⟩) g3
    rw [e3] at t
    rw [List.map_cons, List.map_nil, d_ask] at t
    rw [h0]
    exact t
  have s3 : Φ 5 [.lst [t0.d], .lst [t0.d]] = some (.dat (.bl true)) := slim_same h5 (ts := [t0]) (by simp) fun t ht => by rw [List.mem_singleton.mp ht]; exact slim t0 m0
  have c10 : Φ 10 [.lst (many.map .int)] = some (.own ((startsF many).map .int)) := by rw [h10]; exact m_starts_at (by omega)
  have em : (sides.map fun s => strF s 0).map (enc : List Tr → D) = sides.map fun s => enc (strF s 0) := by rw [List.map_map]; rfl
  -- the walk
  apply wp_asg
  · exact ev_rngc n (fun k => .int (manyF dr k)) (lnE _ rfl) (by omega) fun k hk => by
      have := ixd k hk
      exact td (ev_bin (td ev_lit rfl) (td (ev_bin (td (ev_idx (td (ev_slot rfl) rfl) (td (ev_slot rfl) rfl) (ix_l this)) rfl) (td ev_lit rfl) (vb_fdiv (by decide))) rfl) rfl) rfl
  · exact rfl
  refine wp_cast (ρ' := [.dat (.lst (outer.map Tr.d)), .dat (.lst (sides.map enc)), .dat (.int signs), .dat (.lst (dr.map .int)), .own (many.map .int), .un, .un, .un, .un, .un, .un, .un, .un, .un, .un]) (by rw [map_int, hmany]; rfl) ?_
  apply wp_asg
  · exact ev_rngc n (fun k => .int (numF dr k)) (lnE _ rfl) (by omega) fun k hk => by
      have a := ixd k hk
      have b := ixm k hk
      have p := (hm k hk).1
      exact td (ev_bin (td (ev_bi (es_cons (td (ev_idx (td (ev_slot rfl) rfl) (td (ev_slot rfl) rfl) (ix_l a)) rfl) es_nil) rfl) rfl) (td (ev_idx (td (ev_slot rfl) rfl) (td (ev_slot rfl) rfl) (ix_l b)) rfl) (vb_mod (by omega))) rfl
  · exact rfl
  refine wp_cast (ρ' := [.dat (.lst (outer.map Tr.d)), .dat (.lst (sides.map enc)), .dat (.int signs), .dat (.lst (dr.map .int)), .dat (.lst (many.map .int)), .own (num.map .int), .un, .un, .un, .un, .un, .un, .un, .un, .un]) (by rw [map_int, hnum]; rfl) ?_
  apply wp_asg
  · exact ev_rngc n (fun k => enc (strF (sides.getD k (1, 1)) (numF dr k))) (lnE _ rfl) (by omega) fun k hk => by
      obtain ⟨a, a2, _⟩ := ixsd k hk
      have b := ixn k hk
      have cl : Φ 18 [.tup [.int (sides.getD k (1, 1)).1, .int (sides.getD k (1, 1)).2], .int (numF dr k)] = some (.own ((strF (sides.getD k (1, 1)) (numF dr k)).map Tr.d)) := by rw [h18]; exact m_straight_at a2
      exact td (ev_call (es_cons (td (ev_idx (td (ev_slot rfl) rfl) (td (ev_slot rfl) rfl) (ix_l a)) rfl) (es_cons (td (ev_idx (td (ev_slot rfl) rfl) (td (ev_slot rfl) rfl) (ix_l b)) rfl) es_nil)) cl) rfl
  · exact rfl
  refine wp_cast (ρ' := [.dat (.lst (outer.map Tr.d)), .dat (.lst (sides.map enc)), .dat (.int signs), .dat (.lst (dr.map .int)), .dat (.lst (many.map .int)), .dat (.lst (num.map .int)), .own (so.map enc), .un, .un, .un, .un, .un, .un, .un, .un]) (by rw [← hso, List.map_map]; rfl) ?_
  apply wp_asg
  · exact ev_call (es_cons (td (ev_slot rfl) rfl) es_nil) c10
  · exact rfl
  refine wp_cast (ρ' := [.dat (.lst (outer.map Tr.d)), .dat (.lst (sides.map enc)), .dat (.int signs), .dat (.lst (dr.map .int)), .dat (.lst (many.map .int)), .dat (.lst (num.map .int)), .own (so.map enc), .own ((startsF many).map .int), .un, .un, .un, .un, .un, .un, .un]) rfl ?_
  apply wp_asg
  · show evE Φ _ [.dat (.lst (outer.map Tr.d)), .dat (.lst (sides.map enc)), .dat (.int signs), .dat (.lst (dr.map .int)), .dat (.lst (many.map .int)), .dat (.lst (num.map .int)), .own (so.map enc), .dat (.lst ((startsF many).map .int)), .un, .un, .un, .un, .un, .un, .un] = _
    apply ev_comp (xs := outer) Tr.d (fun t => (renT w t).d)
    · exact it_seq (td (ev_slot rfl) rfl) (seq_lst (by rw [List.length_map]; unfold LIM; omega))
    · intro t ht
      have cl : Φ 11 [t.d, .lst (w.map .int)] = some (.dat (renT w t).d) := by rw [h11]; exact m_ren_at ⟨⟨_, by rw [wl]; exact pl t ht⟩, by have := (ho t ht).2; omega⟩
      refine ⟨_, rfl, td (ev_call (es_cons (td (ev_slot rfl) rfl) (es_cons (td (ev_rngc n (fun k => .int ((startsF many).getD k 0 + numF dr k)) (lnE _ rfl) (by omega) fun k hk => ?_) (by rw [map_int, hw]; rfl)) es_nil)) cl) rfl⟩
      have a := ixs k hk
      have b := ixn k hk
      exact td (ev_bin (td (ev_idx (td (ev_slot rfl) rfl) (td (ev_slot rfl) rfl) (ix_l a)) rfl) (td (ev_idx (td (ev_slot rfl) rfl) (td (ev_slot rfl) rfl) (ix_l b)) rfl) rfl) rfl
  · exact rfl
  refine wp_cast (ρ' := [.dat (.lst (outer.map Tr.d)), .dat (.lst (sides.map enc)), .dat (.int signs), .dat (.lst (dr.map .int)), .dat (.lst (many.map .int)), .dat (.lst (num.map .int)), .own (so.map enc), .dat (.lst ((startsF many).map .int)), .own ((outer.map (renT w)).map Tr.d), .un, .un, .un, .un, .un, .un]) (by rw [List.map_map]; rfl) ?_
  apply wp_no (k := !true)
  · exact ob (ev_not (ob (ev_call (es_cons (td (ev_callk (es_cons (td (ev_slot rfl) rfl) (es_cons (td (ev_slot rfl) rfl) es_nil)) (es_cons (td (ev_slot rfl) rfl) es_nil) c1) rfl) (es_cons (td (ev_slot rfl) rfl) es_nil)) s1)))
  · rfl
  apply wp_asg
  · show evE Φ _ [.dat (.lst (outer.map Tr.d)), .dat (.lst (sides.map enc)), .dat (.int signs), .dat (.lst (dr.map .int)), .dat (.lst (many.map .int)), .dat (.lst (num.map .int)), .own (so.map enc), .dat (.lst ((startsF many).map .int)), .own ((outer.map (renT w)).map Tr.d), .un, .un, .un, .un, .un, .un] = _
    apply ev_comp (xs := sides) (enc : Sd → D) (fun s => enc (strF s 0))
    · exact it_seq (td (ev_slot rfl) rfl) (seq_lst (by rw [List.length_map]; unfold LIM; omega))
    · intro s hs'
      have cl : Φ 18 [.tup [.int s.1, .int s.2], .int 0] = some (.own ((strF s 0).map Tr.d)) := by rw [h18]; exact m_straight_at (hs s hs')
      exact ⟨_, rfl, td (ev_call (es_cons (td (ev_slot rfl) rfl) (es_cons (td ev_lit rfl) es_nil)) cl) rfl⟩
  · exact rfl
  refine wp_cast (ρ' := [.dat (.lst (outer.map Tr.d)), .dat (.lst (sides.map enc)), .dat (.int signs), .dat (.lst (dr.map .int)), .dat (.lst (many.map .int)), .dat (.lst (num.map .int)), .own (so.map enc), .dat (.lst ((startsF many).map .int)), .own ((outer.map (renT w)).map Tr.d), .own ((sides.map fun s => strF s 0).map enc), .un, .un, .un, .un, .un]) (by rw [em]; rfl) ?_
  apply wp_no (k := !true)
  · have rp : vBin .mul (.lst [.int 1]) (.int (n : Nat)) = some (.own ((List.replicate n (1 : Int)).map .int)) := by
      rw [vb_rep (by simp [LIM]; omega)]
      have := rep_one (n : Int) 1
      rw [Int.toNat_natCast] at this ⊢
      rw [this]
    exact ob (ev_not (ob (ev_call (es_cons (td (ev_callk (es_cons (td (ev_slot rfl) rfl) (es_cons (td (ev_slot rfl) rfl) es_nil)) (es_cons (td (ev_bin (td (ev_lst (es_cons (td ev_lit rfl) es_nil) (by decide)) rfl) (lnE _ rfl) rp) rfl) es_nil) c2) rfl) (es_cons (td (ev_bi (es_cons (td (ev_slot rfl) rfl) es_nil) rfl) rfl) es_nil)) s2)))
  · rfl
  apply wp_asg
  · refine ev_bi (es_cons (td (r := .own ((tellsF signs.toNat).map Tr.d)) ?_ rfl) es_nil) rfl
    rw [tellsF_d]
    apply ev_comp (xs := List.range signs.toNat) (fun k : Nat => D.int (k : Nat)) (fun s : Nat => .tup [.str "tell", .int (s : Nat)])
    · rw [← rngD_nat (by omega)]
      exact it_rng1 (td (ev_slot rfl) rfl) (by rw [rngG, LIM]; omega)
    · intro k hk
      exact ⟨_, rfl, td (ev_tup (es_cons (td ev_lit rfl) (es_cons (td (ev_slot rfl) rfl) es_nil)) (by simp [LIM])) rfl⟩
  · exact rfl
  refine wp_cast (ρ' := [.dat (.lst (outer.map Tr.d)), .dat (.lst (sides.map enc)), .dat (.int signs), .dat (.lst (dr.map .int)), .dat (.lst (many.map .int)), .dat (.lst (num.map .int)), .own (so.map enc), .dat (.lst ((startsF many).map .int)), .own ((outer.map (renT w)).map Tr.d), .own ((sides.map fun s => strF s 0).map enc), .dat (.tup ((tellsF signs.toNat).map Tr.d)), .un, .un, .un, .un]) rfl ?_
  apply wp_ret
  · have i0 : ∀ {ρ : PD.Env}, ρ[0]? = some (.dat (.lst (outer.map Tr.d))) → toDo (evE Φ (.lst (.cons (.idx (.slot 0) (.lit (.int 0))) .nil)) ρ) = some (.lst [t0.d]) := fun e => td (ev_lst (es_cons (td (ev_idx (td (ev_slot e) rfl) (td ev_lit rfl) (ix_l ix0)) rfl) es_nil) (by simp [LIM])) rfl
    exact ev_call (es_cons (td (ev_callk (es_cons (td (ev_lst (es_cons (td (ev_tup (es_cons (td ev_lit rfl) (es_cons (td ev_lit rfl) (es_cons (td ev_lit rfl) (es_cons (td (ev_slot rfl) rfl) es_nil)))) (by simp [LIM])) rfl) es_nil) (by simp [LIM])) rfl) (es_cons (td (ev_lst (es_cons (i0 rfl) es_nil) (by simp [LIM])) rfl) es_nil)) (es_cons (td (ev_lst (es_cons (lnE _ rfl) es_nil) (by simp [LIM])) rfl) es_nil) c3) rfl) (es_cons (i0 rfl) es_nil)) s3
  · rfl
end K81

set_option Elab.async false
set_option linter.all false
set_option maxRecDepth 100000
set_option maxHeartbeats 4000000
/-! K81l: the law. -/
namespace K81
open PySem PySem.Spec PyProof.Rows L2 PD
open Enc (enc)
local macro_rules | `(tactic| walk_at "gd") => `(tactic| first
  | assumption
  | omega
  | (simp only [LIM, List.length_cons, List.length_nil, List.length_map, List.length_append, List.length_replicate, rngI_len, rngD_len, rngG, List.length_dropLast]; omega)
  | (simp only [LIM, List.length_cons, List.length_nil, List.length_map, List.length_append, List.length_replicate, rngI_len, rngD_len, rngG, List.length_dropLast]; done)
  | decide)
local macro_rules | `(tactic| walk_at "cl") => `(tactic| assumption)
local macro_rules | `(tactic| walk_at "ix") => `(tactic| first
  | assumption
  | exact rfl
  | (apply at_map; (· walk_at "gd"); (· assumption)))
local macro_rules | `(tactic| walk_at "vb") => `(tactic| first
  | (apply vb_mul; walk_at "gd")
  | (apply vb_fdiv; walk_at "gd")
  | (apply vb_mod; walk_at "gd")
  | (apply vb_pow; walk_at "gd")
  | (apply vb_catT; walk_at "gd")
  | (apply vb_catL; walk_at "gd")
  | (apply vb_rep; walk_at "gd")
  | exact rfl)
local macro_rules | `(tactic| walk_at "td") => `(tactic| (apply td; (· walk_at "ev"); (· exact rfl)))
local macro_rules | `(tactic| walk_at "es") => `(tactic| first
  | exact es_nil
  | (apply es_cons; (· walk_at "td"); (· walk_at "es")))
local macro_rules | `(tactic| walk_at "eo") => `(tactic| first
  | exact eo_no
  | (apply eo_yes; walk_at "td"))
local macro_rules | `(tactic| walk_at "ob") => `(tactic| (apply ob; walk_at "ev"))
local macro_rules | `(tactic| walk_at "vc") => `(tactic| first | assumption | exact rfl)
local macro_rules | `(tactic| walk_at "ln") => `(tactic| first
  | ((try simp only [List.length_cons, List.length_nil, List.length_map, List.length_append, List.length_replicate, rngI_len, rngD_len, List.length_dropLast, List.length_range]); exact rfl)
  | assumption)
local macro_rules | `(tactic| walk_at "bi") => `(tactic| first
  | assumption
  | (apply bi_lenL; walk_at "ln")
  | (apply bi_lenT; walk_at "ln")
  | (apply bi_lenF; walk_at "ln")
  | exact rfl | assumption)
local macro_rules | `(tactic| walk_at "ev") => `(tactic| first
  | exact ev_lit
  | exact ev_slot rfl
  | (apply ev_bin; (· walk_at "td"); (· walk_at "td"); (· walk_at "vb"))
  | (apply ev_bi; (· walk_at "es"); (· walk_at "bi"))
  | (apply ev_call; (· walk_at "es"); (· walk_at "cl"))
  | (apply ev_idx; (· walk_at "td"); (· walk_at "td"); (· first | assumption | (apply ix_l; walk_at "ix") | (apply ix_t; walk_at "ix") | (apply ix_f; walk_at "ix")))
  | (apply ev_isi; (· walk_at "td"); (· exact rfl))
  | (apply ev_cmp; (· walk_at "td"); (· walk_at "td"); (· walk_at "vc"))
  | (apply ev_chain; (· walk_at "td"); (· walk_at "td"); (· walk_at "td"); (· walk_at "vc"); (· walk_at "vc"))
  | (apply ev_not; walk_at "ob")
  | (apply ev_and; (· walk_at "ob"); (· intro _; walk_at "ob"))
  | (apply ev_or; (· walk_at "ob"); (· intro _; walk_at "ob"))
  | (apply ev_lenS'; (· exact rfl); (· walk_at "ln"))
  | (apply ev_idxS; (· exact rfl); (· walk_at "td"); (· walk_at "ix"))
  | (apply ev_tup; (· walk_at "es"); (· walk_at "gd"))
  | (apply ev_lst; (· walk_at "es"); (· walk_at "gd"))
  | (apply ev_slice; (· walk_at "td"); (· walk_at "eo"); (· walk_at "eo"); (· exact rfl))
  | (apply ev_neg; walk_at "td")
  | (apply ev_listr1; (· walk_at "td"); (· walk_at "gd"))
  | (apply ev_listr2; (· walk_at "td"); (· walk_at "td"); (· walk_at "gd"))
  | (apply ev_callk; (· walk_at "es"); (· walk_at "es"); (· walk_at "cl"))
  | assumption)
local macro_rules | `(tactic| walk_at "asg") => `(tactic| (apply wp_asg; (· walk_at "ev"); (· exact rfl)))
local macro_rules | `(tactic| walk_at "app") => `(tactic| (apply wp_app; (· walk_at "td"); (· exact rfl); (· walk_at "gd")))
local macro_rules | `(tactic| walk_at "ret") => `(tactic| (apply wp_ret; (· walk_at "ev")))
local macro_rules | `(tactic| walk_at "if") => `(tactic| (apply wp_if; (· walk_at "ob")))
local macro_rules | `(tactic| walk_at "tt") => `(tactic| first | exact rfl | assumption | (simp; done) | (simp; omega))
local macro_rules | `(tactic| walk_at "no") => `(tactic| (apply wp_no; (· walk_at "ob"); (· walk_at "tt")))
local macro_rules | `(tactic| walk_at "yes") => `(tactic| (apply wp_ifT; (· walk_at "ob"); (· walk_at "tt")))
local macro_rules | `(tactic| walk_at "it") => `(tactic| first
  | (apply it_rng1; (· walk_at "td"); (· walk_at "gd"))
  | (apply it_rng2; (· walk_at "td"); (· walk_at "td"); (· walk_at "gd"))
  | (apply it_seq; (· walk_at "td"); (· first | assumption | (apply seq_lst; walk_at "gd") | (apply seq_tup; walk_at "gd") | (apply seq_fl; walk_at "gd"))))
theorem lev_al {script : List Int} {start : Int} {dr : List Int} : ∀ (above : List Sd) (k : Nat) (room : Int), (∀ i, k ≤ i → i < k + above.length → 0 ≤ dr.getD i 0 ∧ dr.getD i 0 < 4) → 0 ≤ room ∧ room ≤ 5 → SdL above → Al Lv above (levGo script start dr k room above).1 (levGo script start dr k room above).2
  | [], _, _, _, _, _ => .nil
  | s :: rest, k, room, hd, hr, hs => by
    have d := hd k (Nat.le_refl _) (by rw [List.length_cons]; omega)
    have sok := hs s List.mem_cons_self
    obtain ⟨m1, m2, m3, m4, m5⟩ := levM_ok d hr
    have sp := levSome (script := script) (start := start) d hr sok
    have h1 := sok.a; have h2 := sok.b
    have sl : (levS script start dr k room).length ≤ 2 := by unfold levS; rw [sidesF_len]; omega
    rw [levGo]
    refine .cons ⟨?_, ?_, sidesF_ok _ _, sl, fun u hu => ?_⟩ (lev_al rest (k + 1) _ (fun i h1 h2 => hd i (by omega) (by rw [List.length_cons]; omega)) ⟨m4, m5⟩ fun s hs' => hs s (List.mem_cons_of_mem _ hs'))
    · unfold levT; rw [someF_len]; omega
    · unfold levT; rw [someF_len]; omega
    · have := someF_ok sp _ u hu
      exact ⟨this.1, Nat.le_trans this.2 sl⟩
theorem level_al {above : List Sd} {room : Int} {script : List Int} {start : Int} (h : LevelPre above room start) : Al Lv above (levelF above room script start).1 (levelF above room script start).2 :=
  lev_al above 0 room (fun i _ hi => levD_get script start (by omega)) h.r h.s
def chunkF {α : Type} : List (List Sd) → List α → List (List α)
  | [], _ => []
  | b :: bs, l => l.take b.length :: chunkF bs (l.drop b.length)
theorem chunk_al : ∀ {B : List (List Sd)} {b t}, Al Lv B.flatten b t → Al3 B (chunkF B b) (chunkF B t)
  | [], _, _, _ => .nil
  | x :: B, b, t, h => by
    obtain ⟨h1, h2⟩ := Al.split h
    exact .cons h1 (chunk_al h2)
theorem cut_mid {α : Type} {l : List α} {a m : Nat} (h : a + m ≤ l.length) : PD.cutD l (some (a : Nat)) (some ((a : Nat) + (m : Nat))) = (l.drop a).take m := by
  unfold PD.cutD
  rw [show ((a : Nat) : Int) + (m : Nat) = ((a + m : Nat) : Int) by omega, HT.sIx_nat, HT.sIx_nat, Nat.min_eq_left h, Nat.min_eq_left (by omega : a ≤ l.length), Nat.add_sub_cancel_left]
theorem chunk_step {α : Type} {B : List (List Sd)} {k : Nat} {bl : List Sd} (h : B[k]? = some bl) (l : List α) : chunkF (B.drop k) l = l.take bl.length :: chunkF (B.drop (k + 1)) (l.drop bl.length) := by
  have hk := some_lt h
  rw [List.drop_eq_getElem_cons hk, chunkF, (List.getElem?_eq_some_iff.mp h).2]
structure LPre (size : Int) (sides : List Sd) (signs : Int) : Prop where
  s : SdL sides
  l : sides.length ≤ 3
  g : 2 ≤ signs ∧ signs ≤ 3
noncomputable def m_law : Mf := fn1 (fun ns : Fz Int => ns.l.length ≤ 63) fun _ => .dat (.bl true)
theorem run_law {Φ : Nat → Mf} (h4 : Φ 4 = m_draws) (h7 : Φ 7 = m_far) (h12 : Φ 12 = m_sides) (h13 : Φ 13 = m_some) (h14 : Φ 14 = m_level) (h17 : Φ 17 = m_roads) (h19 : Φ 19 = m_sh) : ∀ ds r, m_law ds = some r → runD Φ 1 14 ir_law ds = some r := fun ds r hh => by
  obtain ⟨⟨script⟩, rfl, hsc, rfl⟩ := fn1_inv hh
  clear hh
  show runD Φ 1 14 ir_law [.fl (script.map .int)] = _
  apply run_wp (np := 1) (ds := [.fl (script.map .int)]) rfl
  have cf : ∀ k : Int, 0 ≤ k ∧ k ≤ 1000000 → Φ 7 [.fl (script.map .int), .int k] = some (.dat (.int (far script k))) := fun k hk => by rw [h7]; exact m_far_at hk
  obtain ⟨size, hsize⟩ : ∃ x, far script 0 = x := ⟨_, rfl⟩
  have q1 := Int.emod_nonneg size (show (3 : Int) ≠ 0 by decide)
  have q2 := Int.emod_lt_of_pos size (show (0 : Int) < 3 by decide)
  have q3 := Int.emod_nonneg (size / 3) (show (3 : Int) ≠ 0 by decide)
  have q4 := Int.emod_lt_of_pos (size / 3) (show (0 : Int) < 3 by decide)
  have q5 := Int.emod_nonneg (size / 9) (show (2 : Int) ≠ 0 by decide)
  have q6 := Int.emod_lt_of_pos (size / 9) (show (0 : Int) < 2 by decide)
  obtain ⟨sides, hsides⟩ : ∃ x, sidesF (far script 1) (1 + size % 3).toNat = x := ⟨_, rfl⟩
  obtain ⟨signs, hsigns⟩ : ∃ x, 2 + size / 9 % 2 = x := ⟨_, rfl⟩
  have hs : SdL sides := by rw [← hsides]; exact sidesF_ok _ _
  have sl : sides.length ≤ 3 ∧ 1 ≤ sides.length := by rw [← hsides, sidesF_len]; omega
  have sp : SomePre (1 + size / 3 % 3) sides signs := ⟨by omega, hs, sl.1, by omega⟩
  obtain ⟨outer, houter⟩ : ∃ x, someF (1 + size / 3 % 3).toNat sides signs (far script 2) = x := ⟨_, rfl⟩
  have ho : ∀ t ∈ outer, okT sides signs t ∧ t.ht ≤ 3 := fun t ht => by
    rw [← houter] at ht
    have := someF_ok sp _ t ht
    exact ⟨this.1, by omega⟩
  have ol : outer.length = (1 + size / 3 % 3).toNat := by rw [← houter, someF_len]
  have lp1 : LevelPre sides 5 3 := ⟨hs, by omega, by decide, by decide⟩
  have al1 := level_al (script := script) lp1
  obtain ⟨L1, hL1⟩ : ∃ x, levelF sides 5 script 3 = x := ⟨_, rfl⟩
  rw [hL1] at al1
  obtain ⟨B1, T1⟩ := L1
  simp only at al1
  obtain ⟨n1, n2⟩ := al1.len
  have hev : SdL B1.flatten := flat_sd al1 fun _ _ _ z => z.sd
  have evl : B1.flatten.length ≤ 2 * B1.length := flat_le (al1.all_b fun _ _ _ z => z.l)
  have lp2 : LevelPre B1.flatten 5 10 := ⟨hev, by omega, by decide, by decide⟩
  have al2 := level_al (script := script) lp2
  obtain ⟨L2, hL2⟩ : ∃ x, levelF B1.flatten 5 script 10 = x := ⟨_, rfl⟩
  rw [hL2] at al2
  obtain ⟨b2, t2⟩ := L2
  simp only at al2
  obtain ⟨n3, n4⟩ := al2.len
  have al3 := chunk_al al2
  have c12 : Φ 12 [.int (far script 1), .int (1 + size % 3), .int 3] = some (.own (sides.map enc)) := by rw [h12, ← hsides]; exact m_sides_at (by omega)
  have c13 : Φ 13 [.int (1 + size / 3 % 3), .lst (sides.map enc), .int signs, .int (far script 2)] = some (.own (outer.map Tr.d)) := by rw [h13, ← houter]; exact m_some_at sp
  have c14 : Φ 14 [.lst (sides.map enc), .int 5, .fl (script.map .int), .int 3] = some (.dat (.tup [.lst (B1.map enc), .lst (T1.map enc)])) := by
    have t := m_level_at (script := script) lp1
    rw [hL1] at t
    rw [h14]
    exact t
  have c14b : Φ 14 [.lst (B1.flatten.map enc), .int 5, .fl (script.map .int), .int 10] = some (.dat (.tup [.lst (b2.map enc), .lst (t2.map enc)])) := by
    have t := m_level_at (script := script) lp2
    rw [hL2] at t
    rw [h14]
    exact t
  have c17 : Φ 17 [.lst (outer.map Tr.d), .lst (T1.map enc), .lst ((lens B1).map .int), .lst ((chunkF B1 t2).map enc), .lst (((chunkF B1 b2).map lens).map enc)] = some (.dat (.bl true)) := by
    rw [h17]
    exact m_roads_at ⟨sides, signs, B1, chunkF B1 b2, hs, sl.1, by omega, al1, al3, ho, by omega, rfl, rfl⟩
  obtain ⟨dr, hdr⟩ : ∃ x, draws (far script 21) (far script 21) 0 [4, 3, 2] = x := ⟨_, rfl⟩
  have c4 : Φ 4 [.int (far script 21), .lst [.int 4, .int 3, .int 2]] = some (.own (dr.map .int)) := by rw [h4, ← hdr]; exact m_draws_at (b := [4, 3, 2]) (by decide)
  have c19 : Φ 19 [.lst (outer.map Tr.d), .lst (sides.map enc), .int signs, .lst (dr.map .int)] = some (.dat (.bl true)) := by
    rw [h19]
    refine m_sh_at ⟨hs, sl.1, by omega, ho, by omega, by rw [← hdr, draws_len]; rfl, fun d hd => ?_⟩
    obtain ⟨k, hk⟩ := List.mem_iff_getElem?.mp hd
    rw [← hdr] at hk
    have hk3 : k < 3 := by have := some_lt hk; rw [draws_len] at this; exact this
    obtain ⟨b, hb⟩ := get_of (l := ([4, 3, 2] : List Int)) (i := k) hk3
    have := draws_lt (far script 21) [4, 3, 2] (far script 21) 0 (by decide) k b d hb hk
    have hb' : b = 4 ∨ b = 3 ∨ b = 2 := by have := List.mem_of_getElem? hb; simpa using this
    omega
  -- the walk
  apply wp_asg
  · exact ev_call (es_cons (td (ev_slot rfl) rfl) (es_cons (td ev_lit rfl) es_nil)) (cf 0 (by decide))
  · exact rfl
  refine wp_cast (ρ' := [.dat (.fl (script.map .int)), .dat (.int size), .un, .un, .un, .un, .un, .un, .un, .un, .un, .un, .un, .un]) (by rw [hsize]; rfl) ?_
  apply wp_asg
  · exact ev_call (es_cons (td (ev_call (es_cons (td (ev_slot rfl) rfl) (es_cons (td ev_lit rfl) es_nil)) (cf 1 (by decide))) rfl) (es_cons (td (ev_bin (td ev_lit rfl) (td (ev_bin (td (ev_bi (es_cons (td (ev_slot rfl) rfl) es_nil) rfl) rfl) (td ev_lit rfl) (vb_mod (by decide))) rfl) rfl) rfl) (es_cons (td ev_lit rfl) es_nil))) c12
  · exact rfl
  refine wp_cast (ρ' := [.dat (.fl (script.map .int)), .dat (.int size), .own (sides.map enc), .un, .un, .un, .un, .un, .un, .un, .un, .un, .un, .un]) rfl ?_
  apply wp_asg
  · exact ev_bin (td ev_lit rfl) (td (ev_bin (td (ev_bi (es_cons (td (ev_bin (td (ev_slot rfl) rfl) (td ev_lit rfl) (vb_fdiv (by decide))) rfl) es_nil) rfl) rfl) (td ev_lit rfl) (vb_mod (by decide))) rfl) rfl
  · exact rfl
  refine wp_cast (ρ' := [.dat (.fl (script.map .int)), .dat (.int size), .own (sides.map enc), .dat (.int signs), .un, .un, .un, .un, .un, .un, .un, .un, .un, .un]) (by rw [← hsigns]; rfl) ?_
  apply wp_asg
  · exact ev_call (es_cons (td (ev_bin (td ev_lit rfl) (td (ev_bin (td (ev_bi (es_cons (td (ev_bin (td (ev_slot rfl) rfl) (td ev_lit rfl) (vb_fdiv (by decide))) rfl) es_nil) rfl) rfl) (td ev_lit rfl) (vb_mod (by decide))) rfl) rfl) rfl) (es_cons (td (ev_slot rfl) rfl) (es_cons (td (ev_slot rfl) rfl) (es_cons (td (ev_call (es_cons (td (ev_slot rfl) rfl) (es_cons (td ev_lit rfl) es_nil)) (cf 2 (by decide))) rfl) es_nil)))) c13
  · exact rfl
  refine wp_cast (ρ' := [.dat (.fl (script.map .int)), .dat (.int size), .dat (.lst (sides.map enc)), .dat (.int signs), .own (outer.map Tr.d), .un, .un, .un, .un, .un, .un, .un, .un, .un]) rfl ?_
  apply wp_asg
  · exact ev_call (es_cons (td (ev_slot rfl) rfl) (es_cons (td ev_lit rfl) (es_cons (td (ev_slot rfl) rfl) (es_cons (td ev_lit rfl) es_nil)))) c14
  · exact rfl
  refine wp_cast (ρ' := [.dat (.fl (script.map .int)), .dat (.int size), .dat (.lst (sides.map enc)), .dat (.int signs), .own (outer.map Tr.d), .dat (.tup [.lst (B1.map enc), .lst (T1.map enc)]), .un, .un, .un, .un, .un, .un, .un, .un]) rfl ?_
  apply wp_asg
  · apply ev_comp (xs := B1) (enc : List Sd → D) (fun b => D.int (b.length : Nat))
    · exact it_seq (td (ev_idx (td (ev_slot rfl) rfl) (td ev_lit rfl) rfl) rfl) (seq_lst (by rw [List.length_map]; unfold LIM; omega))
    · intro b hb
      exact ⟨_, rfl, td (ev_bi (es_cons (td (ev_slot rfl) rfl) es_nil) (bi_lenL (List.length_map _))) rfl⟩
  · exact rfl
  have le : B1.map (fun b => D.int (b.length : Nat)) = (lens B1).map .int := by unfold lens; rw [List.map_map]; rfl
  refine wp_cast (ρ' := [.dat (.fl (script.map .int)), .dat (.int size), .dat (.lst (sides.map enc)), .dat (.int signs), .own (outer.map Tr.d), .dat (.tup [.lst (B1.map enc), .lst (T1.map enc)]), .own ((lens B1).map .int), .un, .un, .un, .un, .un, .un, .un]) (by rw [le]; rfl) ?_
  apply wp_asg
  · exact ev_lst es_nil (by decide)
  · exact rfl
  have fb1 := flat_part B1
  refine wp_for (items := B1.map enc) (fun k ρ => ∃ s8, ρ = [.dat (.fl (script.map .int)), .dat (.int size), .dat (.lst (sides.map enc)), .dat (.int signs), .own (outer.map Tr.d), .dat (.tup [.lst (B1.map enc), .lst (T1.map enc)]), .own ((lens B1).map .int), .own ((B1.take k).flatten.map enc), s8, .un, .un, .un, .un, .un]) ?_ ⟨.un, rfl⟩ (fun k d ρ e hI => ?_) (fun ρ' hI => ?_)
  · exact it_seq (td (ev_idx (td (ev_slot rfl) rfl) (td ev_lit rfl) rfl) rfl) (seq_lst (by rw [List.length_map]; unfold LIM; omega))
  · obtain ⟨s8, rfl⟩ := hI
    rw [List.getElem?_map] at e
    obtain ⟨bl, e0, rfl⟩ := Option.map_eq_some_iff.mp e
    have st := flat_step e0
    have g1 := fb1 (k + 1)
    rw [st, List.length_append] at g1
    refine ⟨_, rfl, ?_⟩
    apply wp_asg
    · apply ev_bin
      · exact td (ev_slot rfl) rfl
      · exact td (ev_slot rfl) rfl
      · apply vb_catL
        rw [List.length_map, List.length_map]; unfold LIM; omega
    · exact rfl
    refine wp_nil ⟨.dat (enc bl), ?_⟩
    rw [st, List.map_append]
    rfl
  obtain ⟨s8, rfl⟩ := hI
  rw [List.length_map, List.take_length]
  apply wp_asg
  · exact ev_call (es_cons (td (ev_slot rfl) rfl) (es_cons (td ev_lit rfl) (es_cons (td (ev_slot rfl) rfl) (es_cons (td ev_lit rfl) es_nil)))) c14b
  · exact rfl
  refine wp_cast (ρ' := [.dat (.fl (script.map .int)), .dat (.int size), .dat (.lst (sides.map enc)), .dat (.int signs), .own (outer.map Tr.d), .dat (.tup [.lst (B1.map enc), .lst (T1.map enc)]), .own ((lens B1).map .int), .dat (.lst (B1.flatten.map enc)), s8, .dat (.tup [.lst (b2.map enc), .lst (t2.map enc)]), .un, .un, .un, .un]) rfl ?_
  apply wp_asg
  · exact ev_lst es_nil (by decide)
  · exact rfl
  apply wp_asg
  · exact ev_lst es_nil (by decide)
  · exact rfl
  apply wp_asg
  · exact ev_lit
  · exact rfl
  refine wp_for (items := (lens B1).map .int) (fun k ρ => ∃ s13 s6 X Y, k ≤ B1.length ∧ ρ = [.dat (.fl (script.map .int)), .dat (.int size), .dat (.lst (sides.map enc)), .dat (.int signs), .own (outer.map Tr.d), .dat (.tup [.lst (B1.map enc), .lst (T1.map enc)]), s6, .dat (.lst (B1.flatten.map enc)), s8, .dat (.tup [.lst (b2.map enc), .lst (t2.map enc)]), .own (List.map enc X), .own (List.map enc (List.map lens Y)), .dat (.int ((((B1.take k).map List.length).sum : Nat) : Int)), s13] ∧
      s6 = .dat (.lst ((lens B1).map .int)) ∧ X.length = k ∧ Y.length = k ∧ X ++ chunkF (B1.drop k) (t2.drop ((B1.take k).map List.length).sum) = chunkF B1 t2 ∧ Y ++ chunkF (B1.drop k) (b2.drop ((B1.take k).map List.length).sum) = chunkF B1 b2) ?_ ⟨.un, _, [], [], Nat.zero_le _, rfl, rfl, rfl, rfl, rfl, rfl⟩ (fun k d ρ e hI => ?_) (fun ρ' hI => ?_)
  · exact it_seq (td (ev_slot rfl) rfl) (seq_lst (by rw [List.length_map, lens_len]; unfold LIM; omega))
  · obtain ⟨s13, s6, X, Y, hk, rfl, rfl, x1, y1, x2, y2⟩ := hI
    rw [List.getElem?_map] at e
    obtain ⟨x, e0, rfl⟩ := Option.map_eq_some_iff.mp e
    unfold lens at e0
    rw [List.getElem?_map] at e0
    obtain ⟨bl, e1, rfl⟩ := Option.map_eq_some_iff.mp e0
    have hk' := some_lt e1
    rw [chunk_step e1, List.drop_drop] at x2 y2
    have sm : ((B1.take (k + 1)).map List.length).sum = ((B1.take k).map List.length).sum + bl.length := by
      rw [List.take_succ, e1]
      simp
    have bd : ((B1.take k).map List.length).sum + bl.length ≤ B1.flatten.length := by
      rw [← sm, ← List.length_flatten]
      exact flat_part B1 (k + 1)
    rw [← sm] at x2 y2
    obtain ⟨a, ha⟩ : ∃ a, ((B1.take k).map List.length).sum = a := ⟨_, rfl⟩
    rw [ha] at bd x2 y2 sm ⊢
    have sx : vSlice (.lst (t2.map (enc : List Tr → D))) (some (a : Nat)) (some ((a : Nat) + (bl.length : Nat))) = some (.own (((t2.drop a).take bl.length).map enc)) := by
      show some (Sl.own (PD.cutD _ _ _)) = _
      rw [cut_mid (by rw [List.length_map]; omega), List.map_take, List.map_drop]
    have sy : vSlice (.lst (b2.map (enc : List Sd → D))) (some (a : Nat)) (some ((a : Nat) + (bl.length : Nat))) = some (.own (((b2.drop a).take bl.length).map enc)) := by
      show some (Sl.own (PD.cutD _ _ _)) = _
      rw [cut_mid (by rw [List.length_map]; omega), List.map_take, List.map_drop]
    refine ⟨_, rfl, ?_⟩
    apply wp_app
    · exact td (ev_slice (td (ev_idx (td (ev_slot rfl) rfl) (td ev_lit rfl) rfl) rfl) (eo_yes (td (ev_slot rfl) rfl)) (eo_yes (td (ev_bin (td (ev_slot rfl) rfl) (td (ev_slot rfl) rfl) rfl) rfl)) sx) rfl
    · exact rfl
    · rw [List.length_map]; unfold LIM; omega
    refine wp_cast (ρ' := [.dat (.fl (script.map .int)), .dat (.int size), .dat (.lst (sides.map enc)), .dat (.int signs), .own (outer.map Tr.d), .dat (.tup [.lst (B1.map enc), .lst (T1.map enc)]), .dat (.lst ((lens B1).map .int)), .dat (.lst (B1.flatten.map enc)), s8, .dat (.tup [.lst (b2.map enc), .lst (t2.map enc)]), .own (List.map enc X ++ [.lst (((t2.drop a).take bl.length).map enc)]), .own (List.map enc (List.map lens Y)), .dat (.int ((a : Nat) : Int)), .dat (.int (bl.length : Nat))]) rfl ?_
    apply wp_app
    · apply td (r := .own (((b2.drop a).take bl.length).map fun b => D.int (b.length : Nat)))
      · apply ev_comp (xs := (b2.drop a).take bl.length) (enc : List Sd → D) (fun b => D.int (b.length : Nat))
        · refine it_seq (td (ev_slice (td (ev_idx (td (ev_slot rfl) rfl) (td ev_lit rfl) rfl) rfl) (eo_yes (td (ev_slot rfl) rfl)) (eo_yes (td (ev_bin (td (ev_slot rfl) rfl) (td (ev_slot rfl) rfl) rfl) rfl)) sy) rfl) (seq_lst ?_)
          rw [List.length_map, List.length_take]; unfold LIM; omega
        · intro b hb
          exact ⟨_, rfl, td (ev_bi (es_cons (td (ev_slot rfl) rfl) es_nil) (bi_lenL (List.length_map _))) rfl⟩
      · exact rfl
    · exact rfl
    · rw [List.length_map, List.length_map]; unfold LIM; omega
    apply wp_asg
    · exact ev_bin (td (ev_slot rfl) rfl) (td (ev_slot rfl) rfl) rfl
    · exact rfl
    have le2 : ((b2.drop a).take bl.length).map (fun b => D.int (b.length : Nat)) = (lens ((b2.drop a).take bl.length)).map .int := by unfold lens; rw [List.map_map]; rfl
    refine wp_nil ⟨.dat (.int (bl.length : Nat)), _, X ++ [(t2.drop a).take bl.length], Y ++ [(b2.drop a).take bl.length], hk', ?_, rfl, by rw [List.length_append, x1]; rfl, by rw [List.length_append, y1]; rfl, by rw [List.append_assoc]; exact x2, by rw [List.append_assoc]; exact y2⟩
    rw [sm, le2, List.map_append, List.map_append, List.map_append, show ((a + bl.length : Nat) : Int) = (a : Int) + (bl.length : Nat) by omega]
    rfl
  obtain ⟨s13, s6, X, Y, hk, rfl, rfl, x1, y1, x2, y2⟩ := hI
  rw [List.length_map, lens_len, List.drop_length] at x2 y2
  rw [chunkF, List.append_nil] at x2 y2
  subst x2 y2
  apply wp_no (k := !true)
  · exact ob (ev_not (ob (ev_call (es_cons (td (ev_slot rfl) rfl) (es_cons (td (ev_idx (td (ev_slot rfl) rfl) (td ev_lit rfl) rfl) rfl) (es_cons (td (ev_slot rfl) rfl) (es_cons (td (ev_slot rfl) rfl) (es_cons (td (ev_slot rfl) rfl) es_nil))))) c17)))
  · rfl
  apply wp_ret
  · exact ev_call (es_cons (td (ev_slot rfl) rfl) (es_cons (td (ev_slot rfl) rfl) (es_cons (td (ev_slot rfl) rfl) (es_cons (td (ev_call (es_cons (td (ev_call (es_cons (td (ev_slot rfl) rfl) (es_cons (td ev_lit rfl) es_nil)) (cf 21 (by decide))) rfl) (es_cons (td (ev_lst (es_cons (td ev_lit rfl) (es_cons (td ev_lit rfl) (es_cons (td ev_lit rfl) es_nil))) (by decide)) rfl) es_nil)) c4) rfl) es_nil)))) c19
  · rfl

/-! the defs of the law, one on another -/
section
variable {P : Program} {w : World} {W : Wd} {mg : Str → Option Value} {base : Heap} {fA : Nat → Addr} {fD : Nat → FuncData}
variable (B : Base Tb W mg fA fD fP) (F : ∀ i d, dfs[i]? = some d → FunD W.K d.name d.qual d.params d.body d.scope (d.dvs W.K) (d.kws W.K) (fA i) (fD i))
include B F
theorem mixed_at : FnAt P w W mg base fA fD fP 1 3 m_mixed := at_ok B (l := []) (fun _ z => by cases z) (F 3 (defD "_law_mixed" s_law_mixed) rfl) sc_law_mixed rfl chk_law_mixed mixed_run
theorem draws_at : FnAt P w W mg base fA fD fP 2 4 m_draws := at_ok B (l := [(3, m_mixed)]) (fun p hp => by rw [List.mem_singleton.mp hp]; exact mixed_at B F) (F 4 (defD "_law_draws" s_law_draws) rfl) sc_law_draws rfl chk_law_draws (draws_run rfl)
theorem far_at : FnAt P w W mg base fA fD fP 2 7 m_far := at_ok B (l := [(3, m_mixed)]) (fun p hp => by rw [List.mem_singleton.mp hp]; exact mixed_at B F) (F 7 (defD "_law_far" s_law_far) rfl) sc_law_far rfl chk_law_far (far_run rfl)
theorem same_at : ∀ n, n ≤ 60 → FnAt P w W mg base fA fD fP n 5 (m_same n)
  | 0, _ => at_none.less fun ds r h => by
    obtain ⟨a, d, rfl, ⟨_, h0, _⟩, _⟩ := fn2_inv h
    exact absurd h0 (Nat.lt_irrefl 0)
  | n + 1, hn => at_ok B (l := [(5, m_same n)]) (fun p hp => by rw [List.mem_singleton.mp hp]; exact same_at n (by omega)) (F 5 (defD "_law_same" s_law_same) rfl) sc_law_same rfl chk_law_same fun ds r h => by
    obtain ⟨a, d, rfl, ⟨rfl, h0, h1, h2⟩, rfl⟩ := fn2_inv h
    exact run_same (n := n) rfl (by omega) a h2
theorem tree_at3 : FnOk P w W.K mg base CX0 4 (fA 6) (fD 6) (fP 6) (spIO W (m_tree 3)) :=
  tree_at B (i := 6) (nN := 0) (k := []) rfl (F 6 (defD "_law_tree" s_law_tree) rfl) sc_law_tree rfl rfl rfl (by decide +kernel) 0 3
theorem sides_at : FnAt P w W mg base fA fD fP 3 12 m_sides := at_ok B (l := [(4, m_draws)]) (fun p hp => by rw [List.mem_singleton.mp hp]; exact draws_at B F) (F 12 (defD "_law_sides" s_law_sides) rfl) sc_law_sides rfl chk_law_sides (run_sides rfl)
theorem some_at : FnAt P w W mg base fA fD fP 5 13 m_some := by
  obtain ⟨g1, g2, g3, _⟩ := B.glo 6 "_law_tree" 4 [] rfl
  exact def_okB (gok B (L := 4) (l := [(4, m_draws)]) (fun p hp => by rw [List.mem_singleton.mp hp]; exact (draws_at B F).up (by decide))) (F 13 (defD "_law_some_trees" s_law_some_trees) rfl) sc_law_some_trees (nm := "_law_tree") ⟨⟨_, _, _, g1, g2, g3 rfl, tree_at3 B F⟩⟩ (fz := []) chk_some (run_some rfl)
theorem level_at : FnAt P w W mg base fA fD fP 6 14 m_level := at_ok B (l := [(4, m_draws), (7, m_far), (12, m_sides), (13, m_some)]) (fun p hp => by
    simp only [List.mem_cons, List.not_mem_nil, or_false] at hp
    rcases hp with rfl | rfl | rfl | rfl
    · exact (draws_at B F).up (by decide)
    · exact (far_at B F).up (by decide)
    · exact (sides_at B F).up (by decide)
    · exact some_at B F) (F 14 (defD "_law_level" s_law_level) rfl) sc_law_level rfl chk_law_level (run_level rfl rfl rfl rfl)
theorem placed_at : ∀ n, FnAt P w W mg base fA fD fP n 8 (m_placed n)
  | 0 => at_none.less fun ds r h => by
    obtain ⟨a, b, c, rfl, ⟨_, h0, _⟩, _⟩ := fn3_inv h
    exact absurd h0 (Nat.not_lt_zero _)
  | n + 1 => at_ok B (l := [(8, m_placed n)]) (fun p hp => by rw [List.mem_singleton.mp hp]; exact placed_at n) (F 8 (defD "_law_placed" s_law_placed) rfl) sc_law_placed rfl chk_law_placed (run_placed rfl)
theorem pl_at : ∀ n, FnAt P w W mg base fA fD fP n 2 (m_pl n)
  | 0 => at_none.less fun ds r h => by
    obtain ⟨a, b, c, d, rfl, ⟨_, _, h0, _⟩, _⟩ := fn4_inv h
    exact absurd h0 (Nat.not_lt_zero _)
  | n + 1 => at_ok B (l := [(2, m_pl n)]) (fun p hp => by rw [List.mem_singleton.mp hp]; exact pl_at n) (F 2 (defD "placed_tree" s_placed_tree) rfl) sc_placed_tree rfl chk_placed_tree (run_pl rfl)
theorem grafted_at : ∀ n, FnAt P w W mg base fA fD fP (13 + n) 9 (m_grafted n)
  | 0 => at_none.less fun ds r h => by
    obtain ⟨a, b, c, rfl, ⟨_, h0⟩, _⟩ := fn3_inv h
    exact absurd h0 (Nat.not_lt_zero _)
  | n + 1 => at_ok B (l := [(8, m_placed 13), (9, m_grafted n)]) (fun p hp => by
    simp only [List.mem_cons, List.not_mem_nil, or_false] at hp
    rcases hp with rfl | rfl
    · exact (placed_at B F 13).up (Nat.le_add_right 13 n)
    · exact grafted_at n) (F 9 (defD "_law_grafted" s_law_grafted) rfl) sc_law_grafted rfl chk_law_grafted (run_grafted rfl rfl)
theorem gt_at : ∀ n, FnAt P w W mg base fA fD fP (13 + n) 1 (m_gt n)
  | 0 => at_none.less fun ds r h => by
    obtain ⟨a, b, c, d, rfl, ⟨_, _, h0⟩, _⟩ := fn4_inv h
    exact absurd h0 (Nat.not_lt_zero _)
  | n + 1 => at_ok B (l := [(2, m_pl 13), (1, m_gt n)]) (fun p hp => by
    simp only [List.mem_cons, List.not_mem_nil, or_false] at hp
    rcases hp with rfl | rfl
    · exact (pl_at B F 13).up (Nat.le_add_right 13 n)
    · exact gt_at n) (F 1 (defD "grafted_tree" s_grafted_tree) rfl) sc_grafted_tree rfl chk_grafted_tree (run_gt rfl rfl)
theorem starts_at : FnAt P w W mg base fA fD fP 1 10 m_starts := at_ok B (l := []) (fun _ z => by cases z) (F 10 (defD "_law_starts" s_law_starts) rfl) sc_law_starts rfl chk_law_starts run_starts
theorem graft_at : FnAt P w W mg base fA fD fP 42 0 m_graft := at_ok B (l := [(1, m_gt 28)]) (fun p hp => by rw [List.mem_singleton.mp hp]; exact gt_at B F 28) (F 0 (defD "grafted" s_grafted) rfl) sc_grafted rfl chk_grafted (run_graft rfl)
theorem graft_of_at : FnAt P w W mg base fA fD fP 42 15 m_graft_of := at_ok B (l := [(9, m_grafted 28), (10, m_starts)]) (fun p hp => by
    simp only [List.mem_cons, List.not_mem_nil, or_false] at hp
    rcases hp with rfl | rfl
    · exact grafted_at B F 28
    · exact (starts_at B F).up (by decide)) (F 15 (defD "_law_graft_of" s_law_graft_of) rfl) sc_law_graft_of rfl chk_law_graft_of (run_graft_of rfl rfl)
theorem ren_at : ∀ n, FnAt P w W mg base fA fD fP n 11 (m_ren n)
  | 0 => at_none.less fun ds r h => by
    obtain ⟨a, b, rfl, ⟨_, h0⟩, _⟩ := fn2_inv h
    exact absurd h0 (Nat.not_lt_zero _)
  | n + 1 => at_ok B (l := [(11, m_ren n)]) (fun p hp => by rw [List.mem_singleton.mp hp]; exact ren_at n) (F 11 (defD "_law_renumbered" s_law_renumbered) rfl) sc_law_renumbered rfl chk_law_renumbered (run_ren rfl)
theorem told_at : FnAt P w W mg base fA fD fP 61 16 m_told := at_ok B (l := [(0, m_graft), (15, m_graft_of), (5, m_same 60)]) (fun p hp => by
    simp only [List.mem_cons, List.not_mem_nil, or_false] at hp
    rcases hp with rfl | rfl | rfl
    · exact (graft_at B F).up (by decide)
    · exact (graft_of_at B F).up (by decide)
    · exact same_at B F 60 (by decide)) (F 16 (defD "_law_told_graft" s_law_told_graft) rfl) sc_law_told_graft rfl chk_law_told_graft (run_told rfl rfl rfl)
theorem roads_at : FnAt P w W mg base fA fD fP 62 17 m_roads := at_ok B (l := [(16, m_told), (5, m_same 60)]) (fun p hp => by
    simp only [List.mem_cons, List.not_mem_nil, or_false] at hp
    rcases hp with rfl | rfl
    · exact told_at B F
    · exact (same_at B F 60 (by decide)).up (by decide)) (F 17 (defD "_law_roads_meet" s_law_roads_meet) rfl) sc_law_roads_meet rfl chk_law_roads_meet (run_roads rfl rfl)
theorem straight_at : FnAt P w W mg base fA fD fP 1 18 m_straight := at_ok B (l := []) (fun _ z => by cases z) (F 18 (defD "_law_straight" s_law_straight) rfl) sc_law_straight rfl chk_law_straight run_straight
theorem sh_at : FnAt P w W mg base fA fD fP 61 19 m_sh := at_ok B (l := [(0, m_graft), (5, m_same 60), (10, m_starts), (11, m_ren 28), (18, m_straight)]) (fun p hp => by
    simp only [List.mem_cons, List.not_mem_nil, or_false] at hp
    rcases hp with rfl | rfl | rfl | rfl | rfl
    · exact (graft_at B F).up (by decide)
    · exact same_at B F 60 (by decide)
    · exact (starts_at B F).up (by decide)
    · exact (ren_at B F 28).up (by decide)
    · exact (straight_at B F).up (by decide)) (F 19 (defD "_law_straight_holds" s_law_straight_holds) rfl) sc_law_straight_holds rfl chk_law_straight_holds (run_sh rfl rfl rfl rfl rfl)
theorem law_at : FnAt P w W mg base fA fD fP 100 lawIx m_law := (at_ok B (L := 62) (l := [(4, m_draws), (7, m_far), (12, m_sides), (13, m_some), (14, m_level), (17, m_roads), (19, m_sh)]) (fun p hp => by
    simp only [List.mem_cons, List.not_mem_nil, or_false] at hp
    rcases hp with rfl | rfl | rfl | rfl | rfl | rfl | rfl
    · exact (draws_at B F).up (by decide)
    · exact (far_at B F).up (by decide)
    · exact (sides_at B F).up (by decide)
    · exact (some_at B F).up (by decide)
    · exact (level_at B F).up (by decide)
    · exact roads_at B F
    · exact (sh_at B F).up (by decide)) (F 20 (defD "law" s_law) rfl) sc_law rfl chk_law (run_law rfl rfl rfl rfl rfl rfl rfl)).up (by decide)
end
end K81

set_option Elab.async false
set_option linter.all false
set_option maxRecDepth 100000
set_option maxHeartbeats 4000000
namespace K81
open PySem PySem.Spec PyProof.Rows L2 PD
theorem law_end {P : Program} {w : World} {mg : Str → Option Value} {fa : Addr} {h : Heap} {K : PySem.W.Frag} (X : K.In h) (G : h.Ns mainGlobals mg) (hmg : mg "law" = some (.ref fa)) (c : He.SaysD (facts Tb) dfs K) :
    ∃ (K : PySem.W.Frag) (fd : FuncData) (sp : Sp), K.In h ∧ (∀ (s : Shared) (u : Value), BindsTo s fd ⟨[u], []⟩ [("script", u)]) ∧
      (∀ (H : Hp) (a : Addr) (ns : List Int), ns.length ≤ 63 → Only H → SqL K H a (ns.map V.int) → sp [.ref a] H (fun v _ => v = .bl true) fun _ _ _ => False) ∧
      ∀ base : Heap, K.In base → base.Ns mainGlobals mg → FnOk P w K mg base CX0 100 fa fd ["script"] sp := by
  obtain ⟨fD, B, F⟩ := base_at (cls := fun _ => none) c X G
  have g := (B.glo lawIx "law" 1 [] rfl).1
  rw [hmg] at g
  cases g
  refine ⟨K, fD lawIx, spD ⟨K, fun _ => none⟩ m_law, X, fun s u => FunD.bindsA (ps := P_law) (F lawIx (defD "law" s_law) rfl) bnd_law s [u] rfl, fun H a ns hl _ hS => ?_, fun base X' G' => law_at B F⟩
  refine ⟨H, [.fl (ns.map D.int)], .dat (.bl true), .refl H, .cons (.fl hS (Reps.ofInts ns)) .nil, fn1_at (a := Fz.mk ns) (p := fun ns : Fz Int => ns.l.length ≤ 63) (F := fun _ => .dat (.bl true)) hl, fun v G' H' s ro => ?_⟩
  cases ro
  rfl
end K81
namespace K81
open PySem PySem.Spec PyProof.Rows L2 PD
abbrev R : PySem.W.OpenRow := PySem.W.OpenLaw.row PySem.Challenge.rw_fardials_k81_grafts_associate
abbrev hk : PySem.W.Hook := He.hookD 4 (facts Tb) dfs
def ob (s : PySem.W.SharedT) : He.AlD := He.obsDG 4 (facts Tb) dfs (HandSHeadRun.getT s)
theorem ob_eq (s : PySem.W.SharedT) : ob s = hk.obs s.abs := He.obsDG_eq (HandSHeadRun.getT_eq s)
theorem run (w : World) : HandSHeadRun.RunEq R (PySem.W.view R.prog [lawAt]) hk ob 6000 loose w := by
  intro os
  kernel_rfl
end K81
open PySem PySem.W PySem.Calls PyProof.Rows
set_option maxHeartbeats 0 in
theorem PySem.Challenge.cw_fardials_k81_grafts_associate_holds : PySem.Challenge.rw_fardials_k81_grafts_associate.Holds := by
  w_on; o_law
  refine HandSHeadRun.head_any (r := OpenLaw.row PySem.Challenge.rw_fardials_k81_grafts_associate) (q := view (OpenLaw.row PySem.Challenge.rw_fardials_k81_grafts_associate).prog [K81.lawAt]) (H := K81.hk) (ob := K81.ob) (M := 6000) (loose := K81.loose)
    (d := HandSHeadRun.topDef (OpenLaw.row PySem.Challenge.rw_fardials_k81_grafts_associate).prog K81.lawAt) (kwd := []) K81.ob_eq (by kernel_rfl) (fun s => by kernel_rfl) K81.run (by kernel_rfl) (by kernel_rfl) (by kernel_rfl) (by rfl)
    (by first | assumption | decide +kernel) (by decide +kernel) ⟨rfl, rfl, rfl, rfl, rfl, by decide +kernel⟩ ?hw ?hc
  case hw => w_witness2
  case hc =>
    refine L2.walk_ofE (l := PySem.Challenge.rw_fardials_k81_grafts_associate) (n := 63) (k := 100) (x := "script") (CX := L2.CX0) rfl (by decide) (by kernel_rfl) ⟨rfl, by decide, by decide⟩ ?F (fun _ _ _ _ z => z)
    intro w mg fa h Y G hmg0
    obtain ⟨K, KX, c⟩ := Y
    have hmg : mg ("law" : PySem.Str) = some (.ref fa) := by
      have e : (HandSHeadRun.topDef (OpenLaw.row PySem.Challenge.rw_fardials_k81_grafts_associate).prog K81.lawAt).name = ("law" : PySem.Str) := by kernel_rfl
      rw [← e]
      exact hmg0
    exact K81.law_end KX G hmg c

