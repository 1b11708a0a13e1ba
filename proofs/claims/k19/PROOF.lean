import PyProof.Rows.All
import Wide.All
import OpenK.AllK
import Wide.FinOn
import PySem.Challenge.RW_longshort_k19_stretches_that_are_sent
import HandS.ForMost
import HandS.Deep
import HandS.Wide
import HandS.IsInst
import HandS.Flow
import HandS.ForExc
import KE.DataEq
import KE.SortData
import HandS.Style
import HandS.Strs
import HandS.CallSlots
import PyProof.ListStr
import HandS.Conv
import HandS.Dict
import HandS.SortKw
import HandS.Replace
import KE.KStateDown
set_option Elab.async false
set_option linter.all false
set_option maxRecDepth 100000
/-! DL: a data layer over HandS. A def's body is mirrored by a function of plain data (PyData); one rule a construct says that the code does what the mirror does. -/
namespace DL
open PySem PySem.Spec L2
open PyProof.Rows hiding St

abbrev Dt := PyData
/-- what is known of a slot: nothing; a value that nobody changes; a list or dict that this body alone holds -/
inductive Sl where
  | un
  | va (d : Dt)
  | ml (ds : List Dt)
  | md (kvs : List (Key × Dt))
def Sl.own : Sl → Bool
  | .ml _ => true
  | .md _ => true
  | _ => false
abbrev Rho := List Sl
structure Ex where
  cls : Str
  fs : List (Str × Dt)
inductive Rs (α : Type) where
  | ok (a : α) (ρ : Rho)
  | er (x : Ex) (ρ : Rho)
  | no
abbrev Mo (α : Type) := Rho → Rs α
/-- what a def's body is entered with -/
structure Cd where
  K : PySem.W.Frag
  H0 : Hp
  F0 : Hp
  xr : Ex → Value → Option Addr → Hp → Prop

theorem sameT {K : PySem.W.Frag} {H H' : Hp} {a : Addr} {xs : List V} (e : Same H H') (h : SqT K H a xs) : SqT K H' a xs := by
  rcases h with (h | ⟨o, h⟩) | h
  · exact .inl (.inl (e _ _ h))
  · exact .inl (.inr ⟨o, e _ _ h⟩)
  · exact .inr h
mutual
/-- a value stands for data: lists that H tracks, tuples -/
inductive Rp (K : PySem.W.Frag) (H : Hp) : V → PyData → Prop
  | non : Rp K H .non .none
  | bl (b : Bool) : Rp K H (.bl b) (.bool b)
  | int (i : Int) : Rp K H (.int i) (.int i)
  | str (x : Str) : Rp K H (.str x) (.str x)
  | lst {a : Addr} {xs : List V} {ds : List PyData} (e : H a = some (.lst xs)) (r : RpA K H xs ds) : Rp K H (.ref a) (.list ds)
  | scr {a : Addr} {ns : List Int} (e : SqL K H a (ns.map V.int)) : Rp K H (.ref a) (.dict [(.none, .list (ns.map .int))])
  | tup {a : Addr} {xs : List V} {ds : List PyData} (e : SqT K H a xs) (r : RpA K H xs ds) : Rp K H (.ref a) (.tuple ds)
inductive RpA (K : PySem.W.Frag) (H : Hp) : List V → List PyData → Prop
  | nil : RpA K H [] []
  | cons {v : V} {vs : List V} {d : PyData} {ds : List PyData} (a : Rp K H v d) (t : RpA K H vs ds) : RpA K H (v :: vs) (d :: ds)
end
mutual
theorem Rp.dp {K : PySem.W.Frag} {H : Hp} : ∀ {d : PyData} {v : V}, d.plain = true → Rp K H v d → Dp K H v d
  | .none, _, _, h => by cases h; exact .non
  | .bool b, _, _, h => by cases h; exact .bl b
  | .int i, _, _, h => by cases h; exact .int i
  | .str x, _, _, h => by cases h; exact .str x
  | .list ds, _, p, h => by
    cases h with
    | lst a b => exact .lst (SqL.of a) (RpA.dp (by simpa [PyData.plain] using p) b)
  | .tuple ds, _, p, h => by
    cases h with
    | tup a b => exact .tup a (RpA.dp (by simpa [PyData.plain] using p) b)
  | .dict _, _, p, _ => by simp [PyData.plain] at p
theorem RpA.dp {K : PySem.W.Frag} {H : Hp} : ∀ {ds : List PyData} {vs : List V}, PyData.plainAll ds = true → RpA K H vs ds → DpAll K H vs ds
  | [], _, _, h => by cases h; exact .nil
  | d :: ds, _, p, h => by
    have p' : d.plain = true ∧ PyData.plainAll ds = true := by simpa [PyData.plainAll] using p
    cases h with
    | cons a b => exact .cons (Rp.dp p'.1 a) (RpA.dp p'.2 b)
end
theorem rdMono {H H' : Hp} {a : Addr} {u : HO} (e : Same H H') (h : Rd H a u) : Rd H' a u := by
  rcases h with h | ⟨o, h⟩
  · exact .inl (e _ _ h)
  · exact .inr ⟨o, e _ _ h⟩
mutual
theorem rpMono {K : PySem.W.Frag} {H H' : Hp} (e : Same H H') : ∀ {d : Dt} {v : V}, Rp K H v d → Rp K H' v d
  | .none, _, h => by cases h; exact .non
  | .bool b, _, h => by cases h; exact .bl b
  | .int i, _, h => by cases h; exact .int i
  | .str x, _, h => by cases h; exact .str x
  | .list ds, _, h => by
    cases h with
    | lst a b => exact .lst (e _ _ a) (rpaMono e b)
  | .tuple ds, _, h => by
    cases h with
    | tup a b => exact .tup (sameT e a) (rpaMono e b)
  | .dict _, _, h => by
    cases h with
    | scr a => exact .scr (e.seq a)
theorem rpaMono {K : PySem.W.Frag} {H H' : Hp} (e : Same H H') : ∀ {ds : List Dt} {vs : List V}, RpA K H vs ds → RpA K H' vs ds
  | [], _, h => by cases h; exact .nil
  | d :: ds, _, h => by
    cases h with
    | cons a b => exact .cons (rpMono e a) (rpaMono e b)
end
theorem RpA.len {K : PySem.W.Frag} {H : Hp} : ∀ {vs : List V} {ds : List Dt}, RpA K H vs ds → vs.length = ds.length
  | _, _, .nil => rfl
  | _, _, .cons _ t => congrArg (· + 1) (RpA.len t)
theorem RpA.get {K : PySem.W.Frag} {H : Hp} : ∀ {vs : List V} {ds : List Dt} {i : Nat} {d : Dt}, RpA K H vs ds → ds[i]? = some d → ∃ v, vs[i]? = some v ∧ Rp K H v d
  | _, _, _, _, .nil, e => by simp at e
  | _, _, 0, _, .cons a _, e => by simp at e; subst e; exact ⟨_, rfl, a⟩
  | _, _, i + 1, _, .cons _ t, e => by
    obtain ⟨v, h1, h2⟩ := RpA.get (i := i) t (by simpa using e)
    exact ⟨v, by simpa using h1, h2⟩
theorem RpA.getV {K : PySem.W.Frag} {H : Hp} : ∀ {vs : List V} {ds : List Dt} {i : Nat} {v : V}, RpA K H vs ds → vs[i]? = some v → ∃ d, ds[i]? = some d ∧ Rp K H v d
  | _, _, _, _, .nil, e => by simp at e
  | _, _, 0, _, .cons a _, e => by simp at e; subst e; exact ⟨_, rfl, a⟩
  | _, _, i + 1, _, .cons _ t, e => by
    obtain ⟨v, h1, h2⟩ := RpA.getV (i := i) t (by simpa using e)
    exact ⟨v, by simpa using h1, h2⟩
theorem RpA.app {K : PySem.W.Frag} {H : Hp} : ∀ {vs ws : List V} {ds es : List Dt}, RpA K H vs ds → RpA K H ws es → RpA K H (vs ++ ws) (ds ++ es)
  | _, _, _, _, .nil, s => s
  | _, _, _, _, .cons a t, s => .cons a (RpA.app t s)
theorem RpA.take {K : PySem.W.Frag} {H : Hp} : ∀ {vs : List V} {ds : List Dt} (n : Nat), RpA K H vs ds → RpA K H (vs.take n) (ds.take n)
  | _, _, 0, _ => .nil
  | _, _, _ + 1, .nil => .nil
  | _, _, n + 1, .cons a t => .cons a (RpA.take n t)
theorem RpA.drop {K : PySem.W.Frag} {H : Hp} : ∀ {vs : List V} {ds : List Dt} (n : Nat), RpA K H vs ds → RpA K H (vs.drop n) (ds.drop n)
  | _, _, 0, r => r
  | _, _, _ + 1, .nil => .nil
  | _, _, n + 1, .cons _ t => RpA.drop n t
theorem RpA.set {K : PySem.W.Frag} {H : Hp} {v : V} {d : Dt} (r : Rp K H v d) : ∀ {vs : List V} {ds : List Dt} (i : Nat), RpA K H vs ds → RpA K H (vs.set i v) (ds.set i d)
  | _, _, _, .nil => .nil
  | _, _, 0, .cons _ t => .cons r t
  | _, _, i + 1, .cons q t => .cons q (RpA.set r i t)
theorem RpA.erase {K : PySem.W.Frag} {H : Hp} : ∀ {vs : List V} {ds : List Dt} (i : Nat), RpA K H vs ds → RpA K H (vs.eraseIdx i) (ds.eraseIdx i)
  | _, _, _, .nil => .nil
  | _, _, 0, .cons _ t => t
  | _, _, i + 1, .cons q t => .cons q (RpA.erase i t)
theorem RpA.ints {K : PySem.W.Frag} {H : Hp} : ∀ {vs : List V} {ns : List Int}, RpA K H vs (ns.map .int) → vs = ns.map V.int
  | _, [], .nil => rfl
  | _, n :: ns, .cons a t => by cases a; rw [RpA.ints t]; rfl
theorem RpA.ofInts {K : PySem.W.Frag} {H : Hp} : ∀ (ns : List Int), RpA K H (ns.map V.int) (ns.map .int)
  | [] => .nil
  | n :: ns => .cons (.int n) (RpA.ofInts ns)
theorem RpA.strs {K : PySem.W.Frag} {H : Hp} : ∀ {vs : List V} {ns : List Str}, RpA K H vs (ns.map .str) → vs = ns.map V.str
  | _, [], .nil => rfl
  | _, n :: ns, .cons a t => by cases a; rw [RpA.strs t]; rfl
theorem RpA.bools {K : PySem.W.Frag} {H : Hp} : ∀ {vs : List V} {ns : List Bool}, RpA K H vs (ns.map .bool) → vs = ns.map V.bl
  | _, [], .nil => rfl
  | _, n :: ns, .cons a t => by cases a; rw [RpA.bools t]; rfl

abbrev KvAll (K : PySem.W.Frag) (F : Hp) : List (Key × V) → List (Key × Dt) → Prop := Paired fun p q => p.1 = q.1 ∧ Rp K F p.2 q.2
theorem KvAll.mono {K : PySem.W.Frag} {F F' : Hp} (e : Same F F') {a : List (Key × V)} {b : List (Key × Dt)} (h : KvAll K F a b) : KvAll K F' a b := Paired.mapP h fun _ _ r => ⟨r.1, rpMono e r.2⟩

/-- a slot's word -/
def SlOk (c : Cd) (F H : Hp) (o : Option (Option V)) : Sl → Prop
  | .un => True
  | .va d => ∃ v, o = some (some v) ∧ Rp c.K F v d
  | .ml ds => ∃ a vs, o = some (some (.ref a)) ∧ F a = none ∧ c.H0 a = none ∧ H a = some (.lst vs) ∧ RpA c.K F vs ds
  | .md kvs => ∃ a ks, o = some (some (.ref a)) ∧ F a = none ∧ c.H0 a = none ∧ H a = some (.dK ks) ∧ KvAll c.K F ks kvs
/-- p is no slot's own object -/
def Free (ρ : Rho) (σ : St) (p : Addr) : Prop := ∀ (j : Nat) t, ρ[j]? = some t → t.own = true → σ[j]? ≠ some (some (.ref p))
structure Holds (c : Cd) (ρ : Rho) (F : Hp) (σ : St) (H : Hp) : Prop where
  base : Same c.H0 H
  f0 : Same c.F0 F
  sub : Same F H
  new : ∀ b o, F b = some o → c.F0 b = some o ∨ c.H0 b = none
  len : ρ.length = σ.length
  sl : ∀ (i : Nat) s, ρ[i]? = some s → SlOk c F H σ[i]? s
  ap : ∀ (i j : Nat) s t a, ρ[i]? = some s → ρ[j]? = some t → s.own = true → t.own = true → σ[i]? = some (some (.ref a)) → σ[j]? = some (some (.ref a)) → i = j

theorem same_upd {H : Hp} {p : Addr} {o : HO} (h : H p = none) : Same H (upd H p o) := fun b x e => by
  rw [upd_ne (ne_of_none e h)]
  exact e
section
variable {c : Cd} {ρ : Rho} {F H : Hp} {σ : St} {p : Addr} {o : HO}
theorem Holds.h0 (h : Holds c ρ F σ H) (hp : H p = none) : c.H0 p = none := h.base.free hp
theorem Holds.fp (h : Holds c ρ F σ H) (hp : H p = none) : F p = none := h.sub.free hp
/-- an own slot's address stands in H -/
theorem Holds.ownH (h : Holds c ρ F σ H) {j : Nat} {t : Sl} (e : ρ[j]? = some t) (w : t.own = true) : ∃ a u, σ[j]? = some (some (.ref a)) ∧ F a = none ∧ c.H0 a = none ∧ H a = some u := by
  have q := h.sl j t e
  cases t with
  | un => cases w
  | va d => cases w
  | ml ds => obtain ⟨a, vs, e1, e2, e3, e4, _⟩ := q; exact ⟨a, _, e1, e2, e3, e4⟩
  | md kvs => obtain ⟨a, vs, e1, e2, e3, e4, _⟩ := q; exact ⟨a, _, e1, e2, e3, e4⟩
theorem Holds.free (h : Holds c ρ F σ H) (hp : H p = none) : Free ρ σ p := fun j t e w z => by
  obtain ⟨a, u, e1, _, _, e4⟩ := h.ownH e w
  rw [z] at e1
  cases e1
  rw [hp] at e4
  cases e4
/-- the frozen part may grow, and H around the slots' own objects -/
theorem Holds.grow {F' H' : Hp} (h : Holds c ρ F σ H) (fF : Same F F') (hH : Same H H') (sub : Same F' H') (new : ∀ b o, F' b = some o → F b = some o ∨ H b = none) : Holds c ρ F' σ H' := by
  have nF : ∀ a u, F a = none → H a = some u → F' a = none := fun a u e1 e2 => by
    cases q : F' a with
    | none => rfl
    | some z =>
      rcases new a z q with q | q
      · rw [e1] at q; cases q
      · rw [e2] at q; cases q
  refine ⟨h.base.trans hH, h.f0.trans fF, sub, fun b o e => ?_, h.len, fun i s e => ?_, h.ap⟩
  · rcases new b o e with q | q
    · exact h.new b o q
    · exact .inr (h.h0 q)
  · have q := h.sl i s e
    cases s with
    | un => trivial
    | va d => obtain ⟨v, e1, e2⟩ := q; exact ⟨v, e1, rpMono fF e2⟩
    | ml ds => obtain ⟨a, vs, e1, e2, e3, e4, e5⟩ := q; exact ⟨a, vs, e1, nF a _ e2 e4, e3, hH _ _ e4, rpaMono fF e5⟩
    | md ds => obtain ⟨a, vs, e1, e2, e3, e4, e5⟩ := q; exact ⟨a, vs, e1, nF a _ e2 e4, e3, hH _ _ e4, KvAll.mono fF e5⟩
/-- a new object, frozen at once -/
theorem Holds.alloc (h : Holds c ρ F σ H) (hp : H p = none) : Holds c ρ (upd F p o) σ (upd H p o) := by
  refine h.grow (same_upd (h.fp hp)) (same_upd hp) (fun b z e => ?_) (fun b z e => ?_)
  · by_cases q : b = p
    · subst q; rw [upd_same] at e ⊢; exact e
    · rw [upd_ne q] at e ⊢; exact h.sub _ _ e
  · by_cases q : b = p
    · subst q; exact .inr hp
    · rw [upd_ne q] at e; exact .inl e
/-- a new object that is nobody's yet -/
theorem Holds.allocN (h : Holds c ρ F σ H) (hp : H p = none) : Holds c ρ F σ (upd H p o) :=
  h.grow (Same.refl _) (same_upd hp) (h.sub.trans (same_upd hp)) fun b z e => .inl e
/-- a slot is stored -/
theorem Holds.setva {i : Nat} {v : V} {d : Dt} (h : Holds c ρ F σ H) (r : Rp c.K F v d) : Holds c (ρ.set i (.va d)) F (σ.set i (some v)) H := by
  refine ⟨h.base, h.f0, h.sub, h.new, by simp [h.len], fun j s e => ?_, fun j k s t a e1 e2 w1 w2 s1 s2 => ?_⟩
  · by_cases q : i = j
    · subst q
      have hl : i < ρ.length := by
        have := (List.getElem?_eq_some_iff.mp e).1
        simpa using this
      rw [List.getElem?_set_self hl] at e
      cases e
      exact ⟨v, by rw [List.getElem?_set_self (h.len ▸ hl)], r⟩
    · rw [List.getElem?_set_ne q] at e ⊢
      exact h.sl j s e
  · have nj : ∀ (j : Nat) s, (ρ.set i (.va d))[j]? = some s → s.own = true → i ≠ j := fun j s e w z => by
      subst z
      have hl : i < ρ.length := by
        have := (List.getElem?_eq_some_iff.mp e).1
        simpa using this
      rw [List.getElem?_set_self hl] at e
      cases e
      cases w
    have n1 := nj j s e1 w1
    have n2 := nj k t e2 w2
    rw [List.getElem?_set_ne n1] at e1 s1
    rw [List.getElem?_set_ne n2] at e2 s2
    exact h.ap j k s t a e1 e2 w1 w2 s1 s2
/-- a slot takes an object of its own -/
theorem Holds.setown {i : Nat} {s : Sl} (h : Holds c ρ F σ H) (w : s.own = true) (fr : Free ρ σ p) (ok : SlOk c F H (some (some (.ref p))) s) : Holds c (ρ.set i s) F (σ.set i (some (.ref p))) H := by
  refine ⟨h.base, h.f0, h.sub, h.new, by simp [h.len], fun j t e => ?_, fun j k t u a e1 e2 w1 w2 s1 s2 => ?_⟩
  · by_cases q : i = j
    · subst q
      have hl : i < ρ.length := by
        have := (List.getElem?_eq_some_iff.mp e).1
        simpa using this
      rw [List.getElem?_set_self hl] at e
      cases e
      rw [List.getElem?_set_self (h.len ▸ hl)]
      exact ok
    · rw [List.getElem?_set_ne q] at e ⊢
      exact h.sl j t e
  · by_cases q1 : i = j
    · subst q1
      by_cases q2 : i = k
      · exact q2
      · have hl : i < ρ.length := by
          have := (List.getElem?_eq_some_iff.mp e1).1
          simpa using this
        rw [List.getElem?_set_self (h.len ▸ hl)] at s1
        cases s1
        rw [List.getElem?_set_ne q2] at e2 s2
        exact absurd s2 (fr k u e2 w2)
    · by_cases q2 : i = k
      · subst q2
        have hl : i < ρ.length := by
          have := (List.getElem?_eq_some_iff.mp e2).1
          simpa using this
        rw [List.getElem?_set_self (h.len ▸ hl)] at s2
        cases s2
        rw [List.getElem?_set_ne q1] at e1 s1
        exact absurd s1 (fr j t e1 w1)
      · rw [List.getElem?_set_ne q1] at e1 s1
        rw [List.getElem?_set_ne q2] at e2 s2
        exact h.ap j k t u a e1 e2 w1 w2 s1 s2
/-- an own object is written -/
theorem Holds.write {i : Nat} {s s' : Sl} {a : Addr} (h : Holds c ρ F σ H) (e : ρ[i]? = some s) (w : s.own = true) (w' : s'.own = true) (ha : σ[i]? = some (some (.ref a))) (ok : SlOk c F (upd H a o) (some (some (.ref a))) s') : Holds c (ρ.set i s') F σ (upd H a o) := by
  obtain ⟨a', u, e1, e2, e3, e4⟩ := h.ownH e w
  rw [ha] at e1
  cases e1
  have neF : ∀ b z, F b = some z → b ≠ a := fun b z q => ne_of_none q e2
  have hl : i < ρ.length := (List.getElem?_eq_some_iff.mp e).1
  refine ⟨fun b z q => ?_, h.f0, fun b z q => ?_, h.new, by simp [h.len], fun j t q => ?_, fun j k t u b q1 q2 w1 w2 s1 s2 => ?_⟩
  · rw [upd_ne (ne_of_none q e3)]; exact h.base _ _ q
  · rw [upd_ne (neF b z q)]; exact h.sub _ _ q
  · by_cases q2 : i = j
    · subst q2
      rw [List.getElem?_set_self hl] at q
      cases q
      rw [ha]
      exact ok
    · rw [List.getElem?_set_ne q2] at q
      have z := h.sl j t q
      cases t with
      | un => trivial
      | va d => exact z
      | ml ds =>
        obtain ⟨b, vs, z1, z2, z3, z4, z5⟩ := z
        have nb : b ≠ a := fun k => q2 (h.ap i j s _ a e q w rfl ha (k ▸ z1))
        exact ⟨b, vs, z1, z2, z3, by rw [upd_ne nb]; exact z4, z5⟩
      | md ds =>
        obtain ⟨b, vs, z1, z2, z3, z4, z5⟩ := z
        have nb : b ≠ a := fun k => q2 (h.ap i j s _ a e q w rfl ha (k ▸ z1))
        exact ⟨b, vs, z1, z2, z3, by rw [upd_ne nb]; exact z4, z5⟩
  · have back : ∀ (j : Nat) t, (ρ.set i s')[j]? = some t → t.own = true → ∃ t', ρ[j]? = some t' ∧ t'.own = true := fun j t q w => by
      by_cases z : i = j
      · subst z; exact ⟨s, e, by assumption⟩
      · rw [List.getElem?_set_ne z] at q; exact ⟨t, q, w⟩
    obtain ⟨t', q1', w1'⟩ := back j t q1 w1
    obtain ⟨u', q2', w2'⟩ := back k u q2 w2
    exact h.ap j k t' u' b q1' q2' w1' w2' s1 s2
/-- an own list is changed no more -/
theorem Holds.freeze {i : Nat} {ds : List Dt} (h : Holds c ρ F σ H) (e : ρ[i]? = some (.ml ds)) : ∃ a F', σ[i]? = some (some (.ref a)) ∧ Same F F' ∧ Rp c.K F' (.ref a) (.list ds) ∧ Holds c (ρ.set i (.va (.list ds))) F' σ H := by
  obtain ⟨a, vs, e1, e2, e3, e4, e5⟩ := h.sl i _ e
  have sF : Same F (upd F a (.lst vs)) := same_upd e2
  have hl : i < ρ.length := (List.getElem?_eq_some_iff.mp e).1
  have r : Rp c.K (upd F a (.lst vs)) (.ref a) (.list ds) := .lst upd_same (rpaMono sF e5)
  refine ⟨a, _, e1, sF, r, h.base, h.f0.trans sF, fun b z q => ?_, fun b z q => ?_, by simp [h.len], fun j t q => ?_, fun j k t u b q1 q2 w1 w2 s1 s2 => ?_⟩
  · by_cases hb : b = a
    · subst hb; rw [upd_same] at q; cases q; exact e4
    · rw [upd_ne hb] at q; exact h.sub _ _ q
  · by_cases hb : b = a
    · subst hb; exact .inr e3
    · rw [upd_ne hb] at q; exact h.new _ _ q
  · by_cases q2 : i = j
    · subst q2
      rw [List.getElem?_set_self hl] at q
      cases q
      exact ⟨_, e1, r⟩
    · rw [List.getElem?_set_ne q2] at q
      have z := h.sl j t q
      cases t with
      | un => trivial
      | va d => obtain ⟨v, z1, z2⟩ := z; exact ⟨v, z1, rpMono sF z2⟩
      | ml es =>
        obtain ⟨b, ws, z1, z2, z3, z4, z5⟩ := z
        have nb : b ≠ a := fun k => q2 (h.ap i j _ _ a e q rfl rfl e1 (k ▸ z1))
        exact ⟨b, ws, z1, by rw [upd_ne nb]; exact z2, z3, z4, rpaMono sF z5⟩
      | md es =>
        obtain ⟨b, ws, z1, z2, z3, z4, z5⟩ := z
        have nb : b ≠ a := fun k => q2 (h.ap i j _ _ a e q rfl rfl e1 (k ▸ z1))
        exact ⟨b, ws, z1, by rw [upd_ne nb]; exact z2, z3, z4, KvAll.mono sF z5⟩
  · have nj : ∀ (j : Nat) s, (ρ.set i (.va (.list ds)))[j]? = some s → s.own = true → i ≠ j := fun j s e w z => by
      subst z
      rw [List.getElem?_set_self hl] at e
      cases e
      cases w
    have n1 := nj j t q1 w1
    have n2 := nj k u q2 w2
    rw [List.getElem?_set_ne n1] at q1
    rw [List.getElem?_set_ne n2] at q2
    exact h.ap j k t u b q1 q2 w1 w2 s1 s2
end
end DL

set_option Elab.async false
set_option linter.all false
set_option maxRecDepth 100000
namespace DL
open PySem PySem.Spec L2
open PyProof.Rows hiding St

/-- a looked-at value: frozen data, or a slot's own list as it is now -/
def RP (c : Cd) (F H : Hp) (v : V) (d : Dt) : Prop := Rp c.K F v d ∨ ∃ a vs ds, v = .ref a ∧ d = .list ds ∧ H a = some (.lst vs) ∧ RpA c.K F vs ds
abbrev RE (c : Cd) (F H : Hp) (v : V) (d : Dt) : Prop := Rp c.K F v d
abbrev Rel := Cd → Hp → Hp → V → Dt → Prop
section
variable {c : Cd} {F F' H H' : Hp} {v : V} {d : Dt}
theorem RP.mono (h : RP c F H v d) (f : Same F F') (g : Same H H') : RP c F' H' v d := by
  rcases h with h | ⟨a, vs, ds, e1, e2, e3, e4⟩
  · exact .inl (rpMono f h)
  · exact .inr ⟨a, vs, ds, e1, e2, g _ _ e3, rpaMono f e4⟩
theorem RP.all (h : RP c F H v d) (s : Same F H) : Rp c.K H v d := by
  rcases h with h | ⟨a, vs, ds, rfl, rfl, e3, e4⟩
  · exact rpMono s h
  · exact .lst e3 (rpaMono s e4)
theorem RP.lst {ds : List Dt} (h : RP c F H v (.list ds)) (s : Same F H) : ∃ a vs, v = .ref a ∧ H a = some (.lst vs) ∧ RpA c.K F vs ds := by
  rcases h with h | ⟨a, vs, ds', rfl, e2, e3, e4⟩
  · cases h with
    | lst e r => exact ⟨_, _, rfl, s _ _ e, r⟩
  · cases e2; exact ⟨a, vs, rfl, e3, e4⟩
theorem RP.tup {ds : List Dt} (h : RP c F H v (.tuple ds)) : ∃ a vs, v = .ref a ∧ SqT c.K F a vs ∧ RpA c.K F vs ds := by
  rcases h with h | ⟨a, vs, ds', rfl, e2, e3, e4⟩
  · cases h with
    | tup e r => exact ⟨_, _, rfl, e, r⟩
  · cases e2
theorem RP.int {i : Int} (h : RP c F H v (.int i)) : v = .int i := by
  rcases h with h | ⟨a, vs, ds', rfl, e2, e3, e4⟩
  · cases h; rfl
  · cases e2
theorem RP.str {i : Str} (h : RP c F H v (.str i)) : v = .str i := by
  rcases h with h | ⟨a, vs, ds', rfl, e2, e3, e4⟩
  · cases h; rfl
  · cases e2
theorem RP.bl {i : Bool} (h : RP c F H v (.bool i)) : v = .bl i := by
  rcases h with h | ⟨a, vs, ds', rfl, e2, e3, e4⟩
  · cases h; rfl
  · cases e2
theorem RP.non (h : RP c F H v .none) : v = .non := by
  rcases h with h | ⟨a, vs, ds', rfl, e2, e3, e4⟩
  · cases h; rfl
  · cases e2
/-- the script -/
abbrev scr (ns : List Int) : Dt := .dict [(.none, .list (ns.map .int))]
theorem RP.dict {kvs : List (PyData × PyData)} (h : RP c F H v (.dict kvs)) : ∃ (a : Addr) (ns : List Int), v = .ref a ∧ kvs = [(.none, .list (ns.map .int))] ∧ SqL c.K F a (ns.map V.int) := by
  rcases h with h | ⟨a, vs, ds', rfl, e2, e3, e4⟩
  · cases h with
    | scr e => exact ⟨_, _, rfl, rfl, e⟩
  · cases e2
theorem RP.none_iff (h : RP c F H v d) : (v = .non) ↔ d = .none := by
  constructor
  · intro e
    subst e
    rcases h with h | ⟨a, vs, ds', e1, e2, e3, e4⟩
    · cases h; rfl
    · cases e1
  · intro e
    subst e
    exact h.non
end

/-- nothing of one's own is changed: H grows, and what is frozen anew is new -/
abbrev NewB (F H F' : Hp) : Prop := ∀ b o, F' b = some o → F b = some o ∨ H b = none
structure Kept (ρ : Rho) (F H : Hp) (ρ' : Rho) (F' H' : Hp) : Prop where
  sH : Same H H'
  e : ρ' = ρ
  nw : NewB F H F'
theorem Kept.refl {ρ : Rho} {F H : Hp} : Kept ρ F H ρ F H := ⟨Same.refl _, rfl, fun _ _ q => .inl q⟩
theorem Kept.trans {ρ ρ1 ρ2 : Rho} {F H F1 H1 F2 H2 : Hp} (a : Kept ρ F H ρ1 F1 H1) (b : Kept ρ1 F1 H1 ρ2 F2 H2) : Kept ρ F H ρ2 F2 H2 :=
  ⟨a.sH.trans b.sH, b.e.trans a.e, fun x o q => by
    rcases b.nw x o q with q | q
    · exact a.nw x o q
    · exact .inr (a.sH.free q)⟩
theorem Kept.alloc {ρ : Rho} {F H : Hp} {p : Addr} {o : HO} (hp : H p = none) : Kept ρ F H ρ (upd F p o) (upd H p o) := ⟨same_upd hp, rfl, fun b z q => by
  by_cases e : b = p
  · subst e; exact .inr hp
  · rw [upd_ne e] at q; exact .inl q⟩
theorem Kept.allocN {ρ : Rho} {F H : Hp} {p : Addr} {o : HO} (hp : H p = none) : Kept ρ F H ρ F (upd H p o) := ⟨same_upd hp, rfl, fun b z q => .inl q⟩
/-- what is wanted where an exception leaves -/
def Lx (c : Cd) (W : WX) (x : Ex) (ρ' : Rho) (F : Hp) (σ : St) : Prop := ∀ cls dd F' H', Same F F' → Holds c ρ' F' σ H' → c.xr x cls dd H' → W cls dd σ H'
theorem Lx.later {c : Cd} {W : WX} {x : Ex} {ρ' : Rho} {F F1 : Hp} {σ : St} (h : Lx c W x ρ' F σ) (s : Same F F1) : Lx c W x ρ' F1 σ := fun cls dd F' H' s' => h cls dd F' H' (s.trans s')
/-- a mirror as a reading of an expression; n: nothing of one's own is changed -/
def lift (R : Rel) (c : Cd) (n : Prop) (W : WX) (m : Mo Dt) : TE := fun σ H Q => ∃ ρ F, Holds c ρ F σ H ∧ match m ρ with
  | .ok d ρ' => ∀ v F' H', Same F F' → (n → Kept ρ F H ρ' F' H') → Holds c ρ' F' σ H' → R c F' H' v d → Q v H'
  | .er x ρ' => Lx c W x ρ' F σ
  | .no => False
/-- .. of a fresh list -/
def liftF (c : Cd) (n : Prop) (W : WX) (m : Mo (List Dt)) : TE := fun σ H Q => ∃ ρ F, Holds c ρ F σ H ∧ match m ρ with
  | .ok ds ρ' => ∀ p vs F' H', Same F F' → (n → Kept ρ F H ρ' F' H' ∧ H p = none) → Holds c ρ' F' σ H' → F' p = none → c.H0 p = none → Free ρ' σ p → H' p = some (.lst vs) → RpA c.K F' vs ds → Q (.ref p) H'
  | .er x ρ' => Lx c W x ρ' F σ
  | .no => False
def liftT (c : Cd) (n : Prop) (W : WX) (m : Mo Bool) : TT := fun σ H Q => ∃ ρ F, Holds c ρ F σ H ∧ match m ρ with
  | .ok b ρ' => ∀ F' H', Same F F' → (n → Kept ρ F H ρ' F' H') → Holds c ρ' F' σ H' → Q b H'
  | .er x ρ' => Lx c W x ρ' F σ
  | .no => False
/-- .. of arguments, all frozen -/
def liftA (c : Cd) (n : Prop) (W : WX) (m : Mo (List Dt)) : TA := fun σ H Q => ∃ ρ F, Holds c ρ F σ H ∧ match m ρ with
  | .ok ds ρ' => ∀ vs F' H', Same F F' → (n → Kept ρ F H ρ' F' H') → Holds c ρ' F' σ H' → RpA c.K F' vs ds → Q vs H'
  | .er x ρ' => Lx c W x ρ' F σ
  | .no => False
/-- .. of arguments that are looked at -/
def liftB (c : Cd) (n : Prop) (W : WX) (m : Mo (List Dt)) : TA := fun σ H Q => ∃ ρ F, Holds c ρ F σ H ∧ match m ρ with
  | .ok ds ρ' => ∀ vs F' H', Same F F' → (n → Kept ρ F H ρ' F' H') → Holds c ρ' F' σ H' → Paired (RP c F' H') vs ds → Q vs H'
  | .er x ρ' => Lx c W x ρ' F σ
  | .no => False
abbrev KE (X : Cx) (c : Cd) (n : Prop) (W : WX) (e : Expr) (m : Mo Dt) : Prop := PE X e (lift RE c n W m)
abbrev KP (X : Cx) (c : Cd) (n : Prop) (W : WX) (e : Expr) (m : Mo Dt) : Prop := PE X e (lift RP c n W m)
abbrev KF (X : Cx) (c : Cd) (n : Prop) (W : WX) (e : Expr) (m : Mo (List Dt)) : Prop := PE X e (liftF c n W m)
abbrev KT (X : Cx) (c : Cd) (n : Prop) (W : WX) (e : Expr) (m : Mo Bool) : Prop := PT X e (liftT c n W m)
abbrev KW (X : Cx) (c : Cd) (n : Prop) (W : WX) (e : Expr) (m : Mo Bool) : Prop := PW X e (liftT c n W m)
abbrev KA (X : Cx) (c : Cd) (n : Prop) (W : WX) (es : List Expr) (m : Mo (List Dt)) : Prop := PA X es (liftA c n W m)
abbrev KB (X : Cx) (c : Cd) (n : Prop) (W : WX) (es : List Expr) (m : Mo (List Dt)) : Prop := PA X es (liftB c n W m)

theorem peImp {X : Cx} {e : Expr} {t t' : TE} (h : PE X e t) (k : ∀ σ H Q, t' σ H Q → t σ H Q) : PE X e t' := ⟨fun pins s σ H Q I q => h.run pins s σ H Q I (k _ _ _ q)⟩
theorem ptImp {X : Cx} {e : Expr} {t t' : TT} (h : PT X e t) (k : ∀ σ H Q, t' σ H Q → t σ H Q) : PT X e t' := ⟨fun pins s σ H Q I q => h.run pins s σ H Q I (k _ _ _ q)⟩
theorem pwImp {X : Cx} {e : Expr} {t t' : TT} (h : PW X e t) (k : ∀ σ H Q, t' σ H Q → t σ H Q) : PW X e t' := ⟨fun wh pins s σ H Q I q => h.run wh pins s σ H Q I (k _ _ _ q)⟩
theorem paImp {X : Cx} {e : List Expr} {t t' : TA} (h : PA X e t) (k : ∀ σ H Q, t' σ H Q → t σ H Q) : PA X e t' := ⟨fun pos pins s σ H Q I q => h.run pos pins s σ H Q I (k _ _ _ q)⟩
theorem psImp {X : Cx} {e : Stmt} {t t' : TS} (h : PS X e t) (k : ∀ D σ H, t' D σ H → t D σ H) : PS X e t' := ⟨fun pins s σ H D I q => h.run pins s σ H D I (k _ _ _ q)⟩
theorem pssImp {X : Cx} {e : List Stmt} {t t' : TS} (h : PSs X e t) (k : ∀ D σ H, t' D σ H → t D σ H) : PSs X e t' := ⟨fun pins s σ H D I q => h.run pins s σ H D I (k _ _ _ q)⟩

section
variable {X : Cx} {c : Cd} {n : Prop} {W : WX} {e : Expr} {m : Mo Dt} {mf : Mo (List Dt)}
/-- frozen data may be looked at -/
theorem kp (h : KE X c n W e m) : KP X c n W e m := peImp h fun σ H Q ⟨ρ, F, h, k⟩ => ⟨ρ, F, h, by
  cases hm : m ρ with
  | ok d ρ' => simp only [hm] at k ⊢; exact fun v F' H' s hn h' r => k v F' H' s hn h' (.inl r)
  | er x ρ' => simp only [hm] at k ⊢; exact k
  | no => simp only [hm] at k⟩
theorem kn {R : Rel} (h : PE X e (lift R c True W m)) : PE X e (lift R c n W m) := peImp h fun σ H Q ⟨ρ, F, h, k⟩ => ⟨ρ, F, h, by
  cases hm : m ρ with
  | ok d ρ' => simp only [hm] at k ⊢; exact fun v F' H' s hn h' r => k v F' H' s (fun _ => hn trivial) h' r
  | er x ρ' => simp only [hm] at k ⊢; exact k
  | no => simp only [hm] at k⟩
def eFz (m : Mo (List Dt)) : Mo Dt := fun ρ => match m ρ with
  | .ok ds ρ' => .ok (.list ds) ρ'
  | .er x ρ' => .er x ρ'
  | .no => .no
theorem kz_imp {σ : St} {H : Hp} {Q : VK} (hh : lift RE c n W (eFz mf) σ H Q) : liftF c n W mf σ H Q := by
  obtain ⟨ρ, F, h, k⟩ := hh
  refine ⟨ρ, F, h, ?_⟩
  unfold eFz at k
  cases hm : mf ρ with
  | ok ds ρ' =>
    simp only [hm] at k ⊢
    intro p vs F' H' s hn h' f0 h0 fr hp r
    have sF : Same F' (upd F' p (.lst vs)) := same_upd f0
    refine k (.ref p) (upd F' p (.lst vs)) H' (s.trans sF) (fun z => ⟨(hn z).1.sH, (hn z).1.e, fun b o q => by
      by_cases hb : b = p
      · subst hb; exact .inr (hn z).2
      · rw [upd_ne hb] at q; exact (hn z).1.nw b o q⟩) ?_ (.lst upd_same (rpaMono sF r))
    refine ⟨h'.base, h'.f0.trans sF, fun b z q => ?_, fun b z q => ?_, h'.len, fun j t q => ?_, h'.ap⟩
    · by_cases hb : b = p
      · subst hb; rw [upd_same] at q; cases q; exact hp
      · rw [upd_ne hb] at q; exact h'.sub _ _ q
    · by_cases hb : b = p
      · subst hb; exact .inr h0
      · rw [upd_ne hb] at q; exact h'.new _ _ q
    · have z := h'.sl j t q
      cases t with
      | un => trivial
      | va d => obtain ⟨v, z1, z2⟩ := z; exact ⟨v, z1, rpMono sF z2⟩
      | ml es =>
        obtain ⟨b, ws, z1, z2, z3, z4, z5⟩ := z
        have nb : b ≠ p := fun e => fr j _ q rfl (e ▸ z1)
        exact ⟨b, ws, z1, by rw [upd_ne nb]; exact z2, z3, z4, rpaMono sF z5⟩
      | md es =>
        obtain ⟨b, ws, z1, z2, z3, z4, z5⟩ := z
        have nb : b ≠ p := fun e => fr j _ q rfl (e ▸ z1)
        exact ⟨b, ws, z1, by rw [upd_ne nb]; exact z2, z3, z4, KvAll.mono sF z5⟩
  | er x ρ' => simp only [hm] at k ⊢; exact k
  | no => simp only [hm] at k
/-- a fresh list is frozen -/
theorem kz (h : KF X c n W e mf) : KE X c n W e (eFz mf) := peImp h fun σ H Q q => kz_imp q

/-! ### names, constants -/
def eVar (i : Nat) : Mo Dt := fun ρ => match ρ[i]? with
  | some (.va d) => .ok d ρ
  | _ => .no
def ePeek (i : Nat) : Mo Dt := fun ρ => match ρ[i]? with
  | some (.va d) => .ok d ρ
  | some (.ml ds) => .ok (.list ds) ρ
  | _ => .no
/-- an own list is handed on: from now on it stays -/
def eFrz (i : Nat) : Mo Dt := fun ρ => match ρ[i]? with
  | some (.va d) => .ok d ρ
  | some (.ml ds) => .ok (.list ds) (ρ.set i (.va (.list ds)))
  | _ => .no
def eC (d : Dt) : Mo Dt := fun ρ => .ok d ρ
theorem k_var {i : Nat} (h : PE X e (tVar i)) : KE X c n W e (eVar i) := peImp h fun σ H Q ⟨ρ, F, h, k⟩ => by
  unfold eVar at k
  cases hr : ρ[i]? with
  | none => simp only [hr] at k
  | some s =>
    cases s with
    | va d =>
      simp only [hr] at k
      obtain ⟨v, e1, e2⟩ := h.sl i _ hr
      exact ⟨v, e1, k v F H (Same.refl _) (fun _ => Kept.refl) h e2⟩
    | _ => simp only [hr] at k
theorem k_peek {i : Nat} (h : PE X e (tVar i)) : KP X c n W e (ePeek i) := peImp h fun σ H Q ⟨ρ, F, h, k⟩ => by
  unfold ePeek at k
  cases hr : ρ[i]? with
  | none => simp only [hr] at k
  | some s =>
    cases s with
    | va d =>
      simp only [hr] at k
      obtain ⟨v, e1, e2⟩ := h.sl i _ hr
      exact ⟨v, e1, k v F H (Same.refl _) (fun _ => Kept.refl) h (.inl e2)⟩
    | ml ds =>
      simp only [hr] at k
      obtain ⟨a, vs, e1, e2, e3, e4, e5⟩ := h.sl i _ hr
      exact ⟨_, e1, k _ F H (Same.refl _) (fun _ => Kept.refl) h (.inr ⟨a, vs, ds, rfl, rfl, e4, e5⟩)⟩
    | _ => simp only [hr] at k
theorem k_frz {i : Nat} (h : PE X e (tVar i)) : KE X c False W e (eFrz i) := peImp h fun σ H Q ⟨ρ, F, h, k⟩ => by
  unfold eFrz at k
  cases hr : ρ[i]? with
  | none => simp only [hr] at k
  | some s =>
    cases s with
    | va d =>
      simp only [hr] at k
      obtain ⟨v, e1, e2⟩ := h.sl i _ hr
      exact ⟨v, e1, k v F H (Same.refl _) (fun z => z.elim) h e2⟩
    | ml ds =>
      simp only [hr] at k
      obtain ⟨a, F', e1, e2, e3, e4⟩ := h.freeze hr
      exact ⟨_, e1, k _ F' H e2 (fun z => z.elim) e4 e3⟩
    | _ => simp only [hr] at k
theorem k_const {v : V} {d : Dt} (h : PE X e (tC v)) (r : ∀ F, Rp c.K F v d) : KE X c n W e (eC d) := peImp h fun σ H Q ⟨ρ, F, h, k⟩ =>
  k v F H (Same.refl _) (fun _ => Kept.refl) h (r F)
theorem k_int {i : Int} {j : Nat} {pos : Pos} : KE X c n W (.Constant (.int i) j pos) (eC (.int i)) := k_const pe_int fun _ => .int i
theorem k_str {x : Str} {j : Nat} {pos : Pos} : KE X c n W (.Constant (.str x) j pos) (eC (.str x)) := k_const pe_str fun _ => .str x
theorem k_bl {b : Bool} {j : Nat} {pos : Pos} : KE X c n W (.Constant (.bool b) j pos) (eC (.bool b)) := k_const pe_bl fun _ => .bl b
theorem k_non {j : Nat} {pos : Pos} : KE X c n W (.Constant .none j pos) (eC .none) := k_const pe_non fun _ => .non

/-! ### two operands -/
def bindM {α β : Type} (m : Mo α) (f : α → Mo β) : Mo β := fun ρ => match m ρ with
  | .ok a ρ' => f a ρ'
  | .er x ρ' => .er x ρ'
  | .no => .no
def ofO {α : Type} (o : Option α) : Mo α := fun ρ => match o with
  | some a => .ok a ρ
  | none => .no
def eOp (f : Dt → Dt → Option Dt) (ma mb : Mo Dt) : Mo Dt := bindM ma fun x => bindM mb fun y => ofO (f x y)
/-- the operation on values does what f does on data -/
def SemOp (c : Cd) (r : R2) (f : Dt → Dt → Option Dt) : Prop := ∀ ρ F σ H v u x y z Q, Holds c ρ F σ H → RP c F H v x → RP c F H u y → f x y = some z →
  (∀ w F' H', Same F F' → Kept ρ F H ρ F' H' → Holds c ρ F' σ H' → Rp c.K F' w z → Q w H') → r v u H Q
variable {ma mb : Mo Dt} {a b : Expr} {pos : Pos} {r : R2} {f : Dt → Dt → Option Dt}
theorem op_lift (S : SemOp c r f) {σ : St} {H : Hp} {Q : VK} (h : lift RE c n W (eOp f ma mb) σ H Q) : tOp r (lift RP c n W ma) (lift RP c True W mb) σ H Q := by
  obtain ⟨ρ, F, h, k⟩ := h
  refine ⟨ρ, F, h, ?_⟩
  unfold eOp bindM at k
  cases ha : ma ρ with
  | no => simp only [ha] at k
  | er x ρ1 => simp only [ha] at k ⊢; exact k
  | ok x ρ1 =>
    simp only [ha] at k ⊢
    intro v F1 H1 s1 n1 h1 r1
    refine ⟨ρ1, F1, h1, ?_⟩
    cases hb : mb ρ1 with
    | no => simp only [hb] at k
    | er x ρ1 => simp only [hb] at k ⊢; exact k.later s1
    | ok y ρ2 =>
      simp only [hb] at k ⊢
      intro u F2 H2 s2 n2 h2 r2
      have g2 := n2 trivial
      unfold ofO at k
      cases hf : f x y with
      | none => simp only [hf] at k
      | some z =>
        simp only [hf] at k
        exact S ρ2 F2 σ H2 v u x y z Q h2 (r1.mono s2 g2.sH) r2 hf fun w F3 H3 s3 g3 h3 r3 => k w F3 H3 (s1.trans (s2.trans s3)) (fun hn => (n1 hn).trans (g2.trans g3)) h3 r3
theorem k_bin {op : Operator} (ho : OpR X (binaryOp op) r) (S : SemOp c r f) (ha : KP X c n W a ma) (hb : KP X c True W b mb) : KE X c n W (.BinOp a op b pos) (eOp f ma mb) :=
  peImp (pe_op ho ha hb) fun _ _ _ h => op_lift S h
theorem k_cmp {op : CmpOp} (ho : OpR X (compareOp op) r) (S : SemOp c r f) (hm : behindInMarks op b = false) (ha : KP X c n W a ma) (hb : KP X c True W b mb) : KE X c n W (.Compare a [op] [b] pos) (eOp f ma mb) :=
  peImp (pe_cmpR ho ha hb hm) fun _ _ _ h => op_lift S h
/-- a bool as a test -/
def tOf (m : Mo Dt) : Mo Bool := bindM m fun x => match x with
  | .bool b => fun ρ => .ok b ρ
  | _ => fun _ => .no
theorem tb_lift {t : TE} (ht : ∀ σ H Q, lift RE c n W m σ H Q → t σ H Q) {σ : St} {H : Hp} {Q : Bool → Hp → Prop} (h : liftT c n W (tOf m) σ H Q) : t σ H fun x H' => ∃ k, x = .bl k ∧ Q k H' := by
  refine ht _ _ _ ?_
  obtain ⟨ρ, F, h, k⟩ := h
  refine ⟨ρ, F, h, ?_⟩
  unfold tOf bindM at k
  cases hm : m ρ with
  | no => simp only [hm] at k
  | er x ρ1 => simp only [hm] at k ⊢; exact k
  | ok x ρ1 =>
    simp only [hm] at k ⊢
    cases x with
    | bool b =>
      intro v F' H' s hn h' r
      cases r
      exact ⟨b, rfl, k F' H' s hn h'⟩
    | _ => simp only at k
theorem t_cmp {op : CmpOp} (ho : OpR X (compareOp op) r) (S : SemOp c r f) (hm : behindInMarks op b = false) (ha : KP X c n W a ma) (hb : KP X c True W b mb) : KT X c n W (.Compare a [op] [b] pos) (tOf (eOp f ma mb)) :=
  ptImp (pt_cmpR ho ha hb hm) fun _ _ _ h => tb_lift (fun _ _ _ h => op_lift S h) h
theorem t_val (h : KE X c n W e m) (he : ∀ whole, isTrue e X.env whole = (do let v ← whole; standAt e.pos; holding [v] (truthy v)) := by intro _; rfl) : KT X c n W e (tOf m) :=
  ptImp (pt_val h he) fun _ _ _ h => tb_lift (fun _ _ _ h => h) h
end
end DL

set_option Elab.async false
set_option linter.all false
set_option maxRecDepth 100000
namespace DL
open PySem PySem.Spec L2
open PyProof.Rows hiding St

/-! ### what operations do on data -/
instance {i j : Int} : Decidable (CMulW i j) := by unfold CMulW; infer_instance
instance {i j : Int} : Decidable (CDivW i j) := by unfold CDivW; infer_instance
/-- data of small depth without dicts -/
def okN : Nat → Dt → Bool
  | _, .none => true
  | _, .bool _ => true
  | _, .int _ => true
  | _, .str _ => true
  | 0, .list _ => false
  | 0, .tuple _ => false
  | n + 1, .list xs => xs.all (okN n)
  | n + 1, .tuple xs => xs.all (okN n)
  | _, .dict _ => false
theorem okN_all {n : Nat} (ih : ∀ d : Dt, okN n d = true → d.plain = true ∧ d.depth ≤ n) : ∀ xs : List Dt, xs.all (okN n) = true → PyData.plainAll xs = true ∧ PyData.depthAll xs ≤ n
  | [], _ => ⟨rfl, by simp [PyData.depthAll]⟩
  | x :: xs, h => by
    rw [List.all_cons, Bool.and_eq_true] at h
    obtain ⟨h1, h2⟩ := ih x h.1
    obtain ⟨h3, h4⟩ := okN_all ih xs h.2
    refine ⟨by rw [PyData.plainAll, h1, h3]; rfl, ?_⟩
    rw [PyData.depthAll]
    omega
theorem okN_plain : ∀ (n : Nat) (d : Dt), okN n d = true → d.plain = true ∧ d.depth ≤ n
  | _, .none, _ => ⟨rfl, by simp [PyData.depth]⟩
  | _, .bool _, _ => ⟨rfl, by simp [PyData.depth]⟩
  | _, .int _, _ => ⟨rfl, by simp [PyData.depth]⟩
  | _, .str _, _ => ⟨rfl, by simp [PyData.depth]⟩
  | 0, .list _, h => by simp [okN] at h
  | 0, .tuple _, h => by simp [okN] at h
  | n + 1, .list xs, h => by
    obtain ⟨h1, h2⟩ := okN_all (okN_plain n) xs (by simpa [okN] using h)
    refine ⟨by rw [PyData.plain]; exact h1, by rw [PyData.depth]; omega⟩
  | n + 1, .tuple xs, h => by
    obtain ⟨h1, h2⟩ := okN_all (okN_plain n) xs (by simpa [okN] using h)
    refine ⟨by rw [PyData.plain]; exact h1, by rw [PyData.depth]; omega⟩
  | 0, .dict _, h => by simp [okN] at h
  | n + 1, .dict _, h => by simp [okN] at h
abbrev okD : Dt → Bool := okN 12

def addD : Dt → Dt → Option Dt
  | .int i, .int j => some (.int (i + j))
  | .str x, .str y => if x.length + y.length ≤ sizeLine then some (.str (x ++ y)) else none
  | .list xs, .list ys => if xs.length + ys.length ≤ sizeLine then some (.list (xs ++ ys)) else none
  | _, _ => none
def catL : Dt → Dt → Option (List Dt)
  | .list xs, .list ys => if xs.length + ys.length ≤ sizeLine then some (xs ++ ys) else none
  | _, _ => none
def repL : Dt → Dt → Option (List Dt)
  | .list xs, .int k => if -(2 ^ 63) ≤ k ∧ k < 2 ^ 63 ∧ xs.length * k.toNat ≤ sizeLine then some (List.replicate k.toNat xs).flatten else none
  | _, _ => none
def subD : Dt → Dt → Option Dt
  | .int i, .int j => some (.int (i - j))
  | _, _ => none
def repOk (l : Nat) (k : Int) : Prop := -(2 ^ 63) ≤ k ∧ k < 2 ^ 63 ∧ l * k.toNat ≤ sizeLine
instance {l : Nat} {k : Int} : Decidable (repOk l k) := by unfold repOk; infer_instance
def mulD : Dt → Dt → Option Dt
  | .int i, .int j => if CMulW i j then some (.int (i * j)) else none
  | .list xs, .int k => if repOk xs.length k then some (.list (List.replicate k.toNat xs).flatten) else none
  | _, _ => none
def fdivD : Dt → Dt → Option Dt
  | .int i, .int j => if CDivW i j then some (.int (i / j)) else none
  | _, _ => none
def modD : Dt → Dt → Option Dt
  | .int i, .int j => if 0 < j then some (.int (i % j)) else none
  | _, _ => none
instance {i j : Int} : Decidable (CPow i j) := by unfold CPow; infer_instance
def powD : Dt → Dt → Option Dt
  | .int i, .int j => if CPow i j then some (.int (i ^ j.toNat)) else none
  | _, _ => none
def shlD : Dt → Dt → Option Dt
  | .int i, .int j => if CPow i j then some (.int (i * 2 ^ j.toNat)) else none
  | _, _ => none
def shrD : Dt → Dt → Option Dt
  | .int i, .int j => if 0 ≤ j then some (.int (i / 2 ^ j.toNat)) else none
  | _, _ => none
def bandD : Dt → Dt → Option Dt
  | .int i, .int j => some (.int (Builtin.bitAnd i j))
  | _, _ => none
def cmpI (p : Int → Int → Bool) : Dt → Dt → Option Dt
  | .int i, .int j => some (.bool (p i j))
  | _, _ => none
def ltD : Dt → Dt → Option Dt
  | .int i, .int j => some (.bool (decide (i < j)))
  | .str i, .str j => some (.bool (decide (i.cps.toList < j.cps.toList)))
  | _, _ => none
abbrev leD : Dt → Dt → Option Dt := cmpI fun i j => decide (i ≤ j)
abbrev gtD : Dt → Dt → Option Dt := cmpI fun i j => decide (j < i)
abbrev geD : Dt → Dt → Option Dt := cmpI fun i j => decide (j ≤ i)
def eqD (x y : Dt) : Option Dt := if okD x = true ∧ okD y = true then some (.bool (PyData.eqv x y)) else none
def neD (x y : Dt) : Option Dt := if okD x = true ∧ okD y = true then some (.bool (!PyData.eqv x y)) else none
/-- x in y, y a list, a tuple, or a text and x one sign -/
def inD (x : Dt) : Dt → Option Dt
  | .list ys => if okD x = true ∧ okD (.list ys) = true then some (.bool (ys.any fun z => PyData.eqv z x)) else none
  | .tuple ys => if okD x = true ∧ okD (.tuple ys) = true then some (.bool (ys.any fun z => PyData.eqv z x)) else none
  | .str z => match x with
    | .str s => match s.cps.toList with
      | [a] => some (.bool (decide (a ∈ z.cps.toList)))
      | _ => none
    | _ => none
  | _ => none
def ninD (x : Dt) : Dt → Option Dt
  | .list ys => if okD x = true ∧ okD (.list ys) = true then some (.bool (!ys.any fun z => PyData.eqv z x)) else none
  | .tuple ys => if okD x = true ∧ okD (.tuple ys) = true then some (.bool (!ys.any fun z => PyData.eqv z x)) else none
  | .str z => match x with
    | .str s => match s.cps.toList with
      | [a] => some (.bool (!decide (a ∈ z.cps.toList)))
      | _ => none
    | _ => none
  | _ => none
def isNoneD (x : Dt) : Option Dt := match x with
  | .none => some (.bool true)
  | _ => some (.bool false)
def isD : Dt → Dt → Option Dt
  | .none, .none => some (.bool true)
  | _, .none => some (.bool false)
  | .bool a, .bool b => some (.bool (decide (a = b)))
  | _, _ => none
def nisD : Dt → Dt → Option Dt
  | .none, .none => some (.bool false)
  | _, .none => some (.bool true)
  | .bool a, .bool b => some (.bool (!decide (a = b)))
  | _, _ => none
def idxD : Dt → Dt → Option Dt
  | .dict [(.none, .list xs)], .int i => atI xs i
  | .list xs, .int i => atI xs i
  | .tuple xs, .int i => atI xs i
  | .str z, .int i => if z.length ≤ sizeLine then (atI z.cps.toList i).map fun a => .str ⟨#[a]⟩ else none
  | _, _ => none

/-! ### .. and that they do it -/
section
variable {c : Cd} {X : Cx}
theorem sem_or {r r' : R2} {f : Dt → Dt → Option Dt} (h : ∀ ρ F σ H v u x y z Q, Holds c ρ F σ H → RP c F H v x → RP c F H u y → f x y = some z →
  (∀ w F' H', Same F F' → Kept ρ F H ρ F' H' → Holds c ρ F' σ H' → Rp c.K F' w z → Q w H') → r v u H Q ∨ r' v u H Q) : SemOp c (fun x y H Q => r x y H Q ∨ r' x y H Q) f := h
/-- a flat answer -/
theorem flat {ρ : Rho} {F : Hp} {σ : St} {H : Hp} {z : Dt} {Q : VK} {w : V} (h : Holds c ρ F σ H) (q : ∀ w F' H', Same F F' → Kept ρ F H ρ F' H' → Holds c ρ F' σ H' → Rp c.K F' w z → Q w H') (r : Rp c.K F w z) : Q w H := q w F H (Same.refl _) Kept.refl h r
theorem sem_int {C : Int → Int → Prop} {g : Int → Int → V} {f : Dt → Dt → Option Dt} (h : ∀ x y z, f x y = some z → ∃ i j, x = .int i ∧ y = .int j ∧ C i j ∧ ∀ F, Rp c.K F (g i j) z) : SemOp c (rI C g) f := by
  intro ρ F σ H v u x y z Q hh rx ry hf q
  obtain ⟨i, j, rfl, rfl, hc, hr⟩ := h x y z hf
  exact ⟨i, j, rx.int, ry.int, hc, flat hh q (hr F)⟩
theorem sem_int0 {g : Int → Int → V} {f : Dt → Dt → Option Dt} (h : ∀ x y z, f x y = some z → ∃ i j, x = .int i ∧ y = .int j ∧ ∀ F, Rp c.K F (g i j) z) : SemOp c (rI0 g) f := by
  intro ρ F σ H v u x y z Q hh rx ry hf q
  obtain ⟨i, j, rfl, rfl, hr⟩ := h x y z hf
  exact ⟨i, j, rx.int, ry.int, flat hh q (hr F)⟩
/-- a new list, frozen at once -/
theorem newZ {ρ : Rho} {F : Hp} {σ : St} {H : Hp} {zs : List Dt} {Q : VK} {vs : List V} (h : Holds c ρ F σ H) (q : ∀ w F' H', Same F F' → Kept ρ F H ρ F' H' → Holds c ρ F' σ H' → Rp c.K F' w (.list zs) → Q w H') (r : RpA c.K F vs zs) (p : Addr) (hp : H p = none) : Q (.ref p) (upd H p (.lst vs)) :=
  q (.ref p) _ _ (same_upd (h.fp hp)) (Kept.alloc hp) (h.alloc hp) (.lst upd_same (rpaMono (same_upd (h.fp hp)) r))
theorem sem_add : SemOp c (fun x y H Q => rI0 (fun i j => .int (i + j)) x y H Q ∨ ((∃ i j, x = V.str i ∧ y = V.str j ∧ i.length + j.length ≤ sizeLine ∧ Q (V.str (i ++ j)) H) ∨ rCat x y H Q)) addD := by
  intro ρ F σ H v u x y z Q hh rx ry hf q
  unfold addD at hf
  split at hf
  · cases hf; exact .inl ⟨_, _, rx.int, ry.int, flat hh q (.int _)⟩
  · split at hf
    · cases hf; exact .inr (.inl ⟨_, _, rx.str, ry.str, by assumption, flat hh q (.str _)⟩)
    · cases hf
  · split at hf
    · cases hf
      obtain ⟨a, vs, rfl, e, r⟩ := rx.lst hh.sub
      obtain ⟨a2, vs2, rfl, e2, r2⟩ := ry.lst hh.sub
      exact .inr (.inr ⟨a, a2, vs, vs2, rfl, rfl, e, e2, by rw [r.len, r2.len]; assumption, newZ hh q (r.app r2)⟩)
    · cases hf
  · cases hf
theorem flat_rep {K : PySem.W.Frag} {F : Hp} {vs : List V} {ds : List Dt} (r : RpA K F vs ds) : ∀ k : Nat, RpA K F (List.replicate k vs).flatten (List.replicate k ds).flatten
  | 0 => .nil
  | k + 1 => by simp only [List.replicate_succ, List.flatten_cons]; exact r.app (flat_rep r k)
theorem sem_sub : SemOp c (rI0 fun i j => .int (i - j)) subD := sem_int0 fun x y z hf => by
  unfold subD at hf
  split at hf
  · cases hf; exact ⟨_, _, rfl, rfl, fun _ => .int _⟩
  · cases hf
theorem sem_mul : SemOp c (fun x y H Q => rI CMulW (fun i j => .int (i * j)) x y H Q ∨ rRep x y H Q) mulD := by
  intro ρ F σ H v u x y z Q hh rx ry hf q
  unfold mulD at hf
  split at hf
  · split at hf
    · cases hf; exact .inl ⟨_, _, rx.int, ry.int, by assumption, flat hh q (.int _)⟩
    · cases hf
  · split at hf
    · rename_i h
      cases hf
      obtain ⟨a, vs, rfl, e, r⟩ := rx.lst hh.sub
      exact .inr ⟨a, _, vs, rfl, ry.int, e, h.1, h.2.1, by rw [r.len]; exact h.2.2, newZ hh q (flat_rep r _)⟩
    · cases hf
  · cases hf
theorem sem_fdiv : SemOp c (rI CDivW fun i j => .int (i / j)) fdivD := sem_int fun x y z hf => by
  unfold fdivD at hf
  split at hf
  · split at hf
    · cases hf; exact ⟨_, _, rfl, rfl, by assumption, fun _ => .int _⟩
    · cases hf
  · cases hf
theorem sem_mod : SemOp c (rI (fun _ j => 0 < j) fun i j => .int (i % j)) modD := sem_int fun x y z hf => by
  unfold modD at hf
  split at hf
  · split at hf
    · cases hf; exact ⟨_, _, rfl, rfl, by assumption, fun _ => .int _⟩
    · cases hf
  · cases hf
theorem sem_pow : SemOp c (rI CPow fun i j => .int (i ^ j.toNat)) powD := sem_int fun x y z hf => by
  unfold powD at hf
  split at hf
  · split at hf
    · cases hf; exact ⟨_, _, rfl, rfl, by assumption, fun _ => .int _⟩
    · cases hf
  · cases hf
theorem sem_shl : SemOp c (rI CPow fun i j => .int (i * 2 ^ j.toNat)) shlD := sem_int fun x y z hf => by
  unfold shlD at hf
  split at hf
  · split at hf
    · cases hf; exact ⟨_, _, rfl, rfl, by assumption, fun _ => .int _⟩
    · cases hf
  · cases hf
theorem sem_shr : SemOp c (rI (fun _ j => 0 ≤ j) fun i j => .int (i / 2 ^ j.toNat)) shrD := sem_int fun x y z hf => by
  unfold shrD at hf
  split at hf
  · split at hf
    · cases hf; exact ⟨_, _, rfl, rfl, by assumption, fun _ => .int _⟩
    · cases hf
  · cases hf
theorem sem_band : SemOp c (rI0 fun i j => .int (Builtin.bitAnd i j)) bandD := sem_int0 fun x y z hf => by
  unfold bandD at hf
  split at hf
  · cases hf; exact ⟨_, _, rfl, rfl, fun _ => .int _⟩
  · cases hf
theorem sem_cmp {p : Int → Int → Bool} : SemOp c (rI0 fun i j => .bl (p i j)) (cmpI p) := sem_int0 fun x y z hf => by
  unfold cmpI at hf
  split at hf
  · cases hf; exact ⟨_, _, rfl, rfl, fun _ => .bl _⟩
  · cases hf
theorem sem_lt : SemOp c (fun x y H Q => rI0 (fun i j => .bl (decide (i < j))) x y H Q ∨ ∃ i j, x = V.str i ∧ y = V.str j ∧ Q (V.bl (decide (i.cps.toList < j.cps.toList))) H) ltD := by
  intro ρ F σ H v u x y z Q hh rx ry hf q
  unfold ltD at hf
  split at hf
  · cases hf; exact .inl ⟨_, _, rx.int, ry.int, flat hh q (.bl _)⟩
  · cases hf; exact .inr ⟨_, _, rx.str, ry.str, flat hh q (.bl _)⟩
  · cases hf

/-! == of data -/
def rEqP (K : PySem.W.Frag) (neg : Bool) : R2 := fun x y H Q => ∃ d e, Dp K H x d ∧ Dp K H y e ∧ okD d = true ∧ okD e = true ∧ Q (.bl (if neg then !PyData.eqv d e else PyData.eqv d e)) H
theorem eq_room {A : Around} (hu : A.units + 64 < cLine) {d e : Dt} (h : okD d = true) : A.units + min d.depth e.depth < cLine := by
  have h1 := (okN_plain 12 d h).2
  have h2 : min d.depth e.depth ≤ d.depth := Nat.min_le_left _ _
  omega
theorem op_eqP (hu : X.A.units + 64 < cLine) : OpR X (compareOp .Eq) (rEqP X.K false) := by
  intro pins s σ H x y v u Q I rx ry ⟨d, e, hd, he, sd, se, q⟩
  obtain ⟨as, r1⟩ := Dp.reads I d x v hd rx
  obtain ⟨bs, r2⟩ := Dp.reads I e y u he ry
  exact SeqAt.eq_plain r1 r2 (okN_plain _ d sd).1 (okN_plain _ e se).1 (eq_room hu sd) ⟨.bl _, H, I, rfl, q⟩
theorem op_neP (hu : X.A.units + 64 < cLine) : OpR X (compareOp .NotEq) (rEqP X.K true) := by
  intro pins s σ H x y v u Q I rx ry ⟨d, e, hd, he, sd, se, q⟩
  obtain ⟨as, r1⟩ := Dp.reads I d x v hd rx
  obtain ⟨bs, r2⟩ := Dp.reads I e y u he ry
  exact SeqAt.ne_plain r1 r2 (okN_plain _ d sd).1 (okN_plain _ e se).1 (eq_room hu sd) ⟨.bl _, H, I, rfl, q⟩
theorem sem_eq : SemOp c (rEqP c.K false) eqD := by
  intro ρ F σ H v u x y z Q hh rx ry hf q
  unfold eqD at hf
  split at hf
  · rename_i h
    cases hf
    exact ⟨x, y, (rx.all hh.sub).dp (okN_plain _ x h.1).1, (ry.all hh.sub).dp (okN_plain _ y h.2).1, h.1, h.2, flat hh q (.bl _)⟩
  · cases hf
theorem sem_ne : SemOp c (rEqP c.K true) neD := by
  intro ρ F σ H v u x y z Q hh rx ry hf q
  unfold neD at hf
  split at hf
  · rename_i h
    cases hf
    exact ⟨x, y, (rx.all hh.sub).dp (okN_plain _ x h.1).1, (ry.all hh.sub).dp (okN_plain _ y h.2).1, h.1, h.2, flat hh q (.bl _)⟩
  · cases hf
/-! x in data -/
def rInP (K : PySem.W.Frag) (neg : Bool) : R2 := fun x y H Q => ∃ d ds, Dp K H x d ∧ (Dp K H y (.list ds) ∨ Dp K H y (.tuple ds)) ∧ okD d = true ∧ ds.all (okN 11) = true ∧ Q (.bl (if neg then !ds.any (fun z => PyData.eqv z d) else ds.any fun z => PyData.eqv z d)) H
theorem in_room {A : Around} (hu : A.units + 64 < cLine) {n : Nat} {d : Dt} (h : okD d = true) : A.units + 1 + min n d.depth < cLine := by
  have h1 := (okN_plain 12 d h).2
  have h2 : min n d.depth ≤ d.depth := Nat.min_le_right _ _
  omega
theorem op_inP (hu : X.A.units + 64 < cLine) : OpR X (compareOp .In) (rInP X.K false) := by
  intro pins s σ H x y v u Q I rx ry ⟨d, ds, hd, he, sd, se, q⟩
  obtain ⟨as, r1⟩ := Dp.reads I d x v hd rx
  have pl := (okN_all (okN_plain 11) ds se).1
  rcases he with he | he
  · obtain ⟨bs, r2⟩ := Dp.reads I _ y u he ry
    exact SeqAt.in_list_data r2 r1 pl (okN_plain _ d sd).1 (in_room hu sd) ⟨.bl _, H, I, rfl, q⟩
  · obtain ⟨bs, r2⟩ := Dp.reads I _ y u he ry
    exact SeqAt.in_tuple_data r2 r1 pl (okN_plain _ d sd).1 (in_room hu sd) ⟨.bl _, H, I, rfl, q⟩
theorem op_ninP (hu : X.A.units + 64 < cLine) : OpR X (compareOp .NotIn) (rInP X.K true) := by
  intro pins s σ H x y v u Q I rx ry ⟨d, ds, hd, he, sd, se, q⟩
  obtain ⟨as, r1⟩ := Dp.reads I d x v hd rx
  have pl := (okN_all (okN_plain 11) ds se).1
  rcases he with he | he
  · obtain ⟨bs, r2⟩ := Dp.reads I _ y u he ry
    exact SeqAt.notIn_list_data r2 r1 pl (okN_plain _ d sd).1 (in_room hu sd) ⟨.bl _, H, I, rfl, q⟩
  · obtain ⟨bs, r2⟩ := Dp.reads I _ y u he ry
    exact SeqAt.notIn_tuple_data r2 r1 pl (okN_plain _ d sd).1 (in_room hu sd) ⟨.bl _, H, I, rfl, q⟩
theorem one_sign {s : Str} {a : Nat} (ha : s.cps.toList = [a]) : s = { cps := #[a] } := Str.ext' (by rw [← Array.toList_inj]; exact ha)
abbrev rSign (neg : Bool) : R2 := fun x y H Q => ∃ (a : Nat) (z : Str), x = V.str { cps := #[a] } ∧ y = V.str z ∧ Q (V.bl (if neg then !decide (a ∈ z.cps.toList) else decide (a ∈ z.cps.toList))) H
theorem sem_in : SemOp c (fun x y H Q => rInP c.K false x y H Q ∨ rSign false x y H Q) inD := by
  intro ρ F σ H v u x y z Q hh rx ry hf q
  unfold inD at hf
  split at hf
  · split at hf
    · rename_i h
      cases hf
      exact .inl ⟨x, _, (rx.all hh.sub).dp (okN_plain _ x h.1).1, .inl ((ry.all hh.sub).dp (okN_plain _ _ h.2).1), h.1, by simpa [okD, okN] using h.2, flat hh q (.bl _)⟩
    · cases hf
  · split at hf
    · rename_i h
      cases hf
      exact .inl ⟨x, _, (rx.all hh.sub).dp (okN_plain _ x h.1).1, .inr ((ry.all hh.sub).dp (okN_plain _ _ h.2).1), h.1, by simpa [okD, okN] using h.2, flat hh q (.bl _)⟩
    · cases hf
  · split at hf
    · split at hf
      · rename_i a ha
        cases hf
        exact .inr ⟨a, _, by rw [rx.str, one_sign ha], ry.str, flat hh q (.bl _)⟩
      · cases hf
    · cases hf
  · cases hf
theorem sem_nin : SemOp c (fun x y H Q => rInP c.K true x y H Q ∨ rSign true x y H Q) ninD := by
  intro ρ F σ H v u x y z Q hh rx ry hf q
  unfold ninD at hf
  split at hf
  · split at hf
    · rename_i h
      cases hf
      exact .inl ⟨x, _, (rx.all hh.sub).dp (okN_plain _ x h.1).1, .inl ((ry.all hh.sub).dp (okN_plain _ _ h.2).1), h.1, by simpa [okD, okN] using h.2, flat hh q (.bl _)⟩
    · cases hf
  · split at hf
    · rename_i h
      cases hf
      exact .inl ⟨x, _, (rx.all hh.sub).dp (okN_plain _ x h.1).1, .inr ((ry.all hh.sub).dp (okN_plain _ _ h.2).1), h.1, by simpa [okD, okN] using h.2, flat hh q (.bl _)⟩
    · cases hf
  · split at hf
    · split at hf
      · rename_i a ha
        cases hf
        exact .inr ⟨a, _, by rw [rx.str, one_sign ha], ry.str, flat hh q (.bl _)⟩
      · cases hf
    · cases hf
  · cases hf
theorem op_sign : OpR X (compareOp .In) (rSign false) := op_in_sign
theorem op_nsign : OpR X (compareOp .NotIn) (rSign true) := op_notIn_sign
theorem sem_is : SemOp c (fun x y H Q => (y = V.non ∧ Q (.bl (decide (x = .non))) H) ∨ rIsB x y H Q) isD := by
  intro ρ F σ H v u x y z Q hh rx ry hf q
  unfold isD at hf
  split at hf
  · cases hf; exact .inl ⟨ry.non, by rw [rx.non]; exact flat hh q (.bl _)⟩
  · rename_i hx
    cases hf
    refine .inl ⟨ry.non, ?_⟩
    have e : decide (v = V.non) = false := decide_eq_false fun e => hx (rx.none_iff.mp e)
    rw [e]
    exact flat hh q (.bl _)
  · cases hf; exact .inr ⟨_, _, rx.bl, ry.bl, flat hh q (.bl _)⟩
  · cases hf
theorem sem_nis : SemOp c (fun x y H Q => (y = V.non ∧ Q (.bl (!decide (x = .non))) H) ∨ rNotB x y H Q) nisD := by
  intro ρ F σ H v u x y z Q hh rx ry hf q
  unfold nisD at hf
  split at hf
  · cases hf; exact .inl ⟨ry.non, by rw [rx.non]; exact flat hh q (.bl _)⟩
  · rename_i hx
    cases hf
    refine .inl ⟨ry.non, ?_⟩
    have e : decide (v = V.non) = false := decide_eq_false fun e => hx (rx.none_iff.mp e)
    rw [e]
    exact flat hh q (.bl _)
  · cases hf; exact .inr ⟨_, _, rx.bl, ry.bl, flat hh q (.bl _)⟩
  · cases hf
theorem atI_rp {K : PySem.W.Frag} {F : Hp} {vs : List V} {ds : List Dt} {i : Int} {d : Dt} (r : RpA K F vs ds) (h : atI ds i = some d) : ∃ v, atI vs i = some v ∧ Rp K F v d := by
  unfold atI at h ⊢
  rw [r.len]
  cases e : ixN ds.length i with
  | none => rw [e] at h; cases h
  | some j =>
    rw [e] at h
    exact r.get h
theorem sem_idx : SemOp c (rIx c.K) idxD := by
  intro ρ F σ H v u x y z Q hh rx ry hf q
  unfold idxD at hf
  split at hf
  · obtain ⟨a, ns, rfl, ek, e⟩ := rx.dict
    cases ek
    obtain ⟨w, hw, rw'⟩ := atI_rp (K := c.K) (F := F) (RpA.ofInts ns) hf
    exact .inl ⟨a, _, _, w, rfl, ry.int, hh.sub.seq e, hw, flat hh q rw'⟩
  · obtain ⟨a, vs, rfl, e, r⟩ := rx.lst hh.sub
    obtain ⟨w, hw, rw'⟩ := atI_rp r hf
    exact .inl ⟨a, vs, _, w, rfl, ry.int, SqL.of e, hw, flat hh q rw'⟩
  · obtain ⟨a, vs, rfl, e, r⟩ := rx.tup
    obtain ⟨w, hw, rw'⟩ := atI_rp r hf
    exact .inr (.inl ⟨a, vs, _, w, rfl, ry.int, sameT hh.sub e, hw, flat hh q rw'⟩)
  · split at hf
    · rename_i z0 i0 hz
      cases e : atI z0.cps.toList i0 with
      | none => rw [e] at hf; cases hf
      | some k =>
        rw [e] at hf
        cases hf
        exact .inr (.inr ⟨_, _, k, rx.str, ry.int, hz, e, flat hh q (.str _)⟩)
    · cases hf
  · cases hf
end

/-! ### the rules by name -/
section
variable {X : Cx} {c : Cd} {n : Prop} {W : WX} {a b : Expr} {ma mb : Mo Dt} {pos : Pos}
theorem k_add (ha : KP X c n W a ma) (hb : KP X c True W b mb) : KE X c n W (.BinOp a .Add b pos) (eOp addD ma mb) := k_bin (op_add.or (op_add_str.or op_cat)) sem_add ha hb
theorem k_sub (ha : KP X c n W a ma) (hb : KP X c True W b mb) : KE X c n W (.BinOp a .Sub b pos) (eOp subD ma mb) := k_bin op_sub sem_sub ha hb
theorem k_mul (ha : KP X c n W a ma) (hb : KP X c True W b mb) : KE X c n W (.BinOp a .Mult b pos) (eOp mulD ma mb) := k_bin (op_mulW.or op_rep) sem_mul ha hb
theorem k_fdiv (ha : KP X c n W a ma) (hb : KP X c True W b mb) : KE X c n W (.BinOp a .FloorDiv b pos) (eOp fdivD ma mb) := k_bin op_fdivW sem_fdiv ha hb
theorem k_mod (ha : KP X c n W a ma) (hb : KP X c True W b mb) : KE X c n W (.BinOp a .Mod b pos) (eOp modD ma mb) := k_bin op_mod sem_mod ha hb
theorem k_pow (ha : KP X c n W a ma) (hb : KP X c True W b mb) : KE X c n W (.BinOp a .Pow b pos) (eOp powD ma mb) := k_bin op_pow sem_pow ha hb
theorem k_shl (ha : KP X c n W a ma) (hb : KP X c True W b mb) : KE X c n W (.BinOp a .LShift b pos) (eOp shlD ma mb) := k_bin op_shl sem_shl ha hb
theorem k_shr (ha : KP X c n W a ma) (hb : KP X c True W b mb) : KE X c n W (.BinOp a .RShift b pos) (eOp shrD ma mb) := k_bin op_shr sem_shr ha hb
theorem k_band (ha : KP X c n W a ma) (hb : KP X c True W b mb) : KE X c n W (.BinOp a .BitAnd b pos) (eOp bandD ma mb) := k_bin op_and sem_band ha hb
theorem k_lt (ha : KP X c n W a ma) (hb : KP X c True W b mb) : KE X c n W (.Compare a [.Lt] [b] pos) (eOp ltD ma mb) := k_cmp (op_lt.or op_lt_str) sem_lt (nomark _) ha hb
theorem k_le (ha : KP X c n W a ma) (hb : KP X c True W b mb) : KE X c n W (.Compare a [.LtE] [b] pos) (eOp leD ma mb) := k_cmp op_le sem_cmp (nomark _) ha hb
theorem k_gt (ha : KP X c n W a ma) (hb : KP X c True W b mb) : KE X c n W (.Compare a [.Gt] [b] pos) (eOp gtD ma mb) := k_cmp op_gt sem_cmp (nomark _) ha hb
theorem k_ge (ha : KP X c n W a ma) (hb : KP X c True W b mb) : KE X c n W (.Compare a [.GtE] [b] pos) (eOp geD ma mb) := k_cmp op_ge sem_cmp (nomark _) ha hb
theorem k_eq (hu : X.A.units + 64 < cLine) (hK : X.K = c.K) (ha : KP X c n W a ma) (hb : KP X c True W b mb) : KE X c n W (.Compare a [.Eq] [b] pos) (eOp eqD ma mb) := k_cmp (op_eqP hu) (by rw [hK]; exact sem_eq) (nomark _) ha hb
theorem k_ne (hu : X.A.units + 64 < cLine) (hK : X.K = c.K) (ha : KP X c n W a ma) (hb : KP X c True W b mb) : KE X c n W (.Compare a [.NotEq] [b] pos) (eOp neD ma mb) := k_cmp (op_neP hu) (by rw [hK]; exact sem_ne) (nomark _) ha hb
theorem k_in (hu : X.A.units + 64 < cLine) (hK : X.K = c.K) (hm : behindInMarks .In b = false) (ha : KP X c n W a ma) (hb : KP X c True W b mb) : KE X c n W (.Compare a [.In] [b] pos) (eOp inD ma mb) := k_cmp ((op_inP hu).or op_sign) (by rw [hK]; exact sem_in) hm ha hb
theorem k_nin (hu : X.A.units + 64 < cLine) (hK : X.K = c.K) (hm : behindInMarks .NotIn b = false) (ha : KP X c n W a ma) (hb : KP X c True W b mb) : KE X c n W (.Compare a [.NotIn] [b] pos) (eOp ninD ma mb) := k_cmp ((op_ninP hu).or op_nsign) (by rw [hK]; exact sem_nin) hm ha hb
theorem k_is (ha : KP X c n W a ma) (hb : KP X c True W b mb) : KE X c n W (.Compare a [.Is] [b] pos) (eOp isD ma mb) := k_cmp (op_isN.or op_isBl) sem_is (nomark _) ha hb
theorem k_nis (ha : KP X c n W a ma) (hb : KP X c True W b mb) : KE X c n W (.Compare a [.IsNot] [b] pos) (eOp nisD ma mb) := k_cmp (op_notN.or op_notBl) sem_nis (nomark _) ha hb
theorem k_idx (hK : X.K = c.K) (ha : KP X c n W a ma) (hb : KP X c True W b mb) (hs : PlainIx b) : KE X c n W (.Subscript a b pos) (eOp idxD ma mb) := peImp (pe_ix ix_seq ha hb hs) fun _ _ _ h => op_lift (by rw [hK]; exact sem_idx) h
end
end DL

set_option Elab.async false
set_option linter.all false
set_option maxRecDepth 100000
namespace DL
open PySem PySem.Spec L2
open PyProof.Rows hiding St

/-! ### fresh lists -/
section
variable {c : Cd} {X : Cx} {n : Prop} {W : WX} {ma mb : Mo Dt} {a b e : Expr} {pos : Pos} {r : R2} {f : Dt → Dt → Option (List Dt)}
def eOpF (f : Dt → Dt → Option (List Dt)) (ma mb : Mo Dt) : Mo (List Dt) := bindM ma fun x => bindM mb fun y => ofO (f x y)
abbrev NewL (c : Cd) (ρ : Rho) (F : Hp) (σ : St) (H : Hp) (zs : List Dt) (Q : VK) : Prop := ∀ p vs F' H', Same F F' → (Kept ρ F H ρ F' H' ∧ H p = none) → Holds c ρ F' σ H' → F' p = none → c.H0 p = none → Free ρ σ p → H' p = some (.lst vs) → RpA c.K F' vs zs → Q (.ref p) H'
theorem newL {ρ : Rho} {F : Hp} {σ : St} {H : Hp} {zs : List Dt} {Q : VK} {vs : List V} (h : Holds c ρ F σ H) (q : NewL c ρ F σ H zs Q) (r : RpA c.K F vs zs) (p : Addr) (hp : H p = none) : Q (.ref p) (upd H p (.lst vs)) :=
  q p vs F _ (Same.refl _) ⟨Kept.allocN hp, hp⟩ (h.allocN hp) (h.fp hp) (h.h0 hp) (h.free hp) upd_same r
def SemOpF (c : Cd) (r : R2) (f : Dt → Dt → Option (List Dt)) : Prop := ∀ ρ F σ H v u x y z Q, Holds c ρ F σ H → RP c F H v x → RP c F H u y → f x y = some z → NewL c ρ F σ H z Q → r v u H Q
theorem opF_lift (S : SemOpF c r f) {σ : St} {H : Hp} {Q : VK} (h : liftF c n W (eOpF f ma mb) σ H Q) : tOp r (lift RP c n W ma) (lift RP c True W mb) σ H Q := by
  obtain ⟨ρ, F, h, k⟩ := h
  refine ⟨ρ, F, h, ?_⟩
  unfold eOpF bindM at k
  cases ha : ma ρ with
  | no => simp only [ha] at k
  | er x ρ1 => simp only [ha] at k ⊢; exact k
  | ok x ρ1 =>
    simp only [ha] at k ⊢
    intro v F1 H1 s1 n1 h1 r1
    refine ⟨ρ1, F1, h1, ?_⟩
    cases hb : mb ρ1 with
    | no => simp only [hb] at k
    | er x ρ1 => simp only [hb] at k ⊢; exact k.later s1
    | ok y ρ2 =>
      simp only [hb] at k ⊢
      intro u F2 H2 s2 n2 h2 r2
      have g2 := n2 trivial
      unfold ofO at k
      cases hf : f x y with
      | none => simp only [hf] at k
      | some z =>
        simp only [hf] at k
        exact S ρ2 F2 σ H2 v u x y z Q h2 (r1.mono s2 g2.sH) r2 hf fun p vs F3 H3 s3 g3 h3 f0 h0 fr hp r3 => k p vs F3 H3 (s1.trans (s2.trans s3)) (fun hn => ⟨(n1 hn).trans (g2.trans g3.1), ((n1 hn).trans g2).sH.free g3.2⟩) h3 f0 h0 fr hp r3
theorem sem_cat : SemOpF c rCat catL := by
  intro ρ F σ H v u x y z Q hh rx ry hf q
  unfold catL at hf
  split at hf
  · split at hf
    · cases hf
      obtain ⟨a, vs, rfl, e, r⟩ := rx.lst hh.sub
      obtain ⟨a2, vs2, rfl, e2, r2⟩ := ry.lst hh.sub
      exact ⟨a, a2, vs, vs2, rfl, rfl, e, e2, by rw [r.len, r2.len]; assumption, newL hh q (r.app r2)⟩
    · cases hf
  · cases hf
theorem kf_cat (ha : KP X c n W a ma) (hb : KP X c True W b mb) : KF X c n W (.BinOp a .Add b pos) (eOpF catL ma mb) := peImp (pe_op op_cat ha hb) fun _ _ _ h => opF_lift sem_cat h
theorem sem_rep : SemOpF c rRep repL := by
  intro ρ F σ H v u x y z Q hh rx ry hf q
  unfold repL at hf
  split at hf
  · split at hf
    · rename_i h
      cases hf
      obtain ⟨a, vs, rfl, e, r⟩ := rx.lst hh.sub
      exact ⟨a, _, vs, rfl, ry.int, e, h.1, h.2.1, by rw [r.len]; exact h.2.2, newL hh q (flat_rep r _)⟩
    · cases hf
  · cases hf
theorem kf_rep (ha : KP X c n W a ma) (hb : KP X c True W b mb) : KF X c n W (.BinOp a .Mult b pos) (eOpF repL ma mb) := peImp (pe_op op_rep ha hb) fun _ _ _ h => opF_lift sem_rep h
end

/-! ### arguments, displays -/
section
variable {c : Cd} {X : Cx} {n : Prop} {W : WX} {m : Mo Dt} {ms : Mo (List Dt)} {e : Expr} {es : List Expr} {pos : Pos}
def eNil : Mo (List Dt) := fun ρ => .ok [] ρ
def eCons (m : Mo Dt) (ms : Mo (List Dt)) : Mo (List Dt) := bindM m fun x => bindM ms fun xs => fun ρ => .ok (x :: xs) ρ
theorem a_nil : KA X c n W [] eNil := paImp pa_nil fun σ H Q ⟨ρ, F, h, k⟩ => k [] F H (Same.refl _) (fun _ => Kept.refl) h .nil
theorem b_nil : KB X c n W [] eNil := paImp pa_nil fun σ H Q ⟨ρ, F, h, k⟩ => k [] F H (Same.refl _) (fun _ => Kept.refl) h .nil
theorem a_cons (ha : KE X c n W e m) (hr : KA X c n W es ms) (hs : starEach (e :: es) X.env = (false, eval e X.env) :: starEach es X.env := by rfl) : KA X c n W (e :: es) (eCons m ms) :=
  paImp (pa_cons ha hr hs) fun σ H Q ⟨ρ, F, h, k⟩ => by
    refine ⟨ρ, F, h, ?_⟩
    unfold eCons bindM at k
    cases hm : m ρ with
    | no => simp only [hm] at k
    | er x ρ1 => simp only [hm] at k ⊢; exact k
    | ok x ρ1 =>
      simp only [hm] at k ⊢
      intro v F1 H1 s1 n1 h1 r1
      refine ⟨ρ1, F1, h1, ?_⟩
      cases hb : ms ρ1 with
      | no => simp only [hb] at k
      | er x ρ1 => simp only [hb] at k ⊢; exact k.later s1
      | ok xs ρ2 =>
        simp only [hb] at k ⊢
        intro vs F2 H2 s2 n2 h2 r2
        exact k (v :: vs) F2 H2 (s1.trans s2) (fun hn => (n1 hn).trans (n2 hn)) h2 (.cons (rpMono s2 r1) r2)
theorem b_cons (ha : KP X c n W e m) (hr : KB X c True W es ms) (hs : starEach (e :: es) X.env = (false, eval e X.env) :: starEach es X.env := by rfl) : KB X c n W (e :: es) (eCons m ms) :=
  paImp (pa_cons ha hr hs) fun σ H Q ⟨ρ, F, h, k⟩ => by
    refine ⟨ρ, F, h, ?_⟩
    unfold eCons bindM at k
    cases hm : m ρ with
    | no => simp only [hm] at k
    | er x ρ1 => simp only [hm] at k ⊢; exact k
    | ok x ρ1 =>
      simp only [hm] at k ⊢
      intro v F1 H1 s1 n1 h1 r1
      refine ⟨ρ1, F1, h1, ?_⟩
      cases hb : ms ρ1 with
      | no => simp only [hb] at k
      | er x ρ1 => simp only [hb] at k ⊢; exact k.later s1
      | ok xs ρ2 =>
        simp only [hb] at k ⊢
        intro vs F2 H2 s2 n2 h2 r2
        have g2 := n2 trivial
        exact k (v :: vs) F2 H2 (s1.trans s2) (fun hn => (n1 hn).trans g2) h2 (.cons (r1.mono s2 g2.sH) r2)
/-- a written tuple -/
def eTup (ms : Mo (List Dt)) : Mo Dt := bindM ms fun xs ρ => if xs.length ≤ 1000 then .ok (.tuple xs) ρ else .no
theorem le1000 {k : Nat} (h : k ≤ 1000) : k ≤ sizeLine := by rw [sizeLine_eq]; omega
theorem k_tup {j : Nat} (h : KA X c n W es ms) : KE X c n W (.Tuple es j pos) (eTup ms) := peImp (pe_tup h) fun σ H Q ⟨ρ, F, h, k⟩ => by
  refine ⟨ρ, F, h, ?_⟩
  unfold eTup bindM at k
  cases hm : ms ρ with
  | no => simp only [hm] at k
  | er x ρ1 => simp only [hm] at k ⊢; exact k
  | ok xs ρ1 =>
    simp only [hm] at k ⊢
    intro vs F1 H1 s1 n1 h1 r1
    by_cases hz : xs.length ≤ 1000
    · rw [if_pos hz] at k
      refine ⟨by rw [r1.len]; exact le1000 hz, fun p hp => ?_⟩
      have sF : Same F1 (upd F1 p (.tup vs)) := same_upd (h1.fp hp)
      exact k (.ref p) _ _ (s1.trans sF) (fun hn => (n1 hn).trans (Kept.alloc hp)) (h1.alloc hp) (.tup (SqT.of upd_same) (rpaMono sF r1))
    · rw [if_neg hz] at k; exact k.elim
/-- a written list -/
def eLst (ms : Mo (List Dt)) : Mo (List Dt) := bindM ms fun xs ρ => if xs.length ≤ 1000 then .ok xs ρ else .no
theorem kf_lst (h : KA X c n W es ms) : KF X c n W (.List es pos) (eLst ms) := peImp (pe_lst h) fun σ H Q ⟨ρ, F, h, k⟩ => by
  refine ⟨ρ, F, h, ?_⟩
  unfold eLst bindM at k
  cases hm : ms ρ with
  | no => simp only [hm] at k
  | er x ρ1 => simp only [hm] at k ⊢; exact k
  | ok xs ρ1 =>
    simp only [hm] at k ⊢
    intro vs F1 H1 s1 n1 h1 r1
    by_cases hz : xs.length ≤ 1000
    · rw [if_pos hz] at k
      exact ⟨by rw [r1.len]; exact le1000 hz, newL h1 (fun p vs F' H' sf sh h' a b d e r => k p vs F' H' (s1.trans sf) (fun hn => ⟨(n1 hn).trans sh.1, (n1 hn).sH.free sh.2⟩) h' a b d e r) r1⟩
    · rw [if_neg hz] at k; exact k.elim
end

/-! ### slices -/
section
variable {c : Cd} {X : Cx} {n : Prop} {W : WX} {m : Mo Dt} {e : Expr} {pos p2 : Pos}
def liftO (c : Cd) (W : WX) (m : Mo (Option Int)) : TO := fun σ H Q => ∃ ρ F, Holds c ρ F σ H ∧ match m ρ with
  | .ok o ρ' => ∀ F' H', Same F F' → Kept ρ F H ρ' F' H' → Holds c ρ' F' σ H' → Q o H'
  | .er x ρ' => Lx c W x ρ' F σ
  | .no => False
abbrev KO (X : Cx) (c : Cd) (W : WX) (e : Option Expr) (m : Mo (Option Int)) : Prop := PO X e (liftO c W m)
theorem poImp {e : Option Expr} {t t' : TO} (h : PO X e t) (k : ∀ σ H Q, t' σ H Q → t σ H Q) : PO X e t' := ⟨fun pins s σ H Q I q => h.run pins s σ H Q I (k _ _ _ q)⟩
def eNoP : Mo (Option Int) := fun ρ => .ok none ρ
def ePart (m : Mo Dt) : Mo (Option Int) := bindM m fun x ρ => match x with
  | .int i => .ok (some i) ρ
  | _ => .no
theorem o_none : KO X c W none eNoP := poImp po_none fun σ H Q ⟨ρ, F, h, k⟩ => k F H (Same.refl _) Kept.refl h
theorem o_some (h : KE X c True W e m) : KO X c W (some e) (ePart m) := poImp (po_some h) fun σ H Q ⟨ρ, F, h, k⟩ => by
  refine ⟨ρ, F, h, ?_⟩
  unfold ePart bindM at k
  cases hm : m ρ with
  | no => simp only [hm] at k
  | er x ρ1 => simp only [hm] at k ⊢; exact k
  | ok x ρ1 =>
    simp only [hm] at k ⊢
    cases x with
    | int i => intro v F1 H1 s1 n1 h1 r1; cases r1; exact ⟨i, rfl, k F1 H1 s1 (n1 trivial) h1⟩
    | _ => simp only at k
def cutD {α : Type} (xs : List α) (lo hi : Option Int) : List α := (xs.drop (HT.sIx xs.length 0 lo)).take (HT.sIx xs.length xs.length hi - HT.sIx xs.length 0 lo)
theorem cut_rp {K : PySem.W.Frag} {F : Hp} {vs : List V} {ds : List Dt} (r : RpA K F vs ds) (lo hi : Option Int) : RpA K F (cutV vs lo hi) (cutD ds lo hi) := by
  unfold cutV cutD
  rw [r.len]
  exact (r.drop _).take _
/-- the slice of a list, a fresh list -/
def slL (x : Dt) (lo hi : Option Int) : Option (List Dt) := match x with
  | .list xs => some (cutD xs lo hi)
  | _ => none
/-- the slice of a tuple (not the whole), of a text -/
def slD (x : Dt) (lo hi : Option Int) : Option Dt := match x with
  | .list xs => some (.list (cutD xs lo hi))
  | .tuple xs => if HT.sIx xs.length 0 lo = 0 ∧ HT.sIx xs.length xs.length hi = xs.length then none else some (.tuple (cutD xs lo hi))
  | .str z => if z.length ≤ sizeLine then some (.str (cutS z lo hi)) else none
  | _ => none
variable {lo hi : Option Expr} {ml mh : Mo (Option Int)}
def eSlF (m : Mo Dt) (ml mh : Mo (Option Int)) : Mo (List Dt) := bindM m fun x => bindM ml fun l => bindM mh fun h => ofO (slL x l h)
def eSl (m : Mo Dt) (ml mh : Mo (Option Int)) : Mo Dt := bindM m fun x => bindM ml fun l => bindM mh fun h => ofO (slD x l h)
theorem kf_sl (he : KP X c n W e m) (hl : KO X c W lo ml) (hh : KO X c W hi mh) : KF X c n W (.Subscript e (.Slice lo hi none p2) pos) (eSlF m ml mh) := peImp (pe_slice sl_list he hl hh) fun σ H Q ⟨ρ, F, h, k⟩ => by
  refine ⟨ρ, F, h, ?_⟩
  unfold eSlF bindM at k
  cases hm : m ρ with
  | no => simp only [hm] at k
  | er x ρ1 => simp only [hm] at k ⊢; exact k
  | ok x ρ1 =>
    simp only [hm] at k ⊢
    intro v F1 H1 s1 n1 h1 r1
    refine ⟨ρ1, F1, h1, ?_⟩
    cases hb : ml ρ1 with
    | no => simp only [hb] at k
    | er x ρ1 => simp only [hb] at k ⊢; exact k.later s1
    | ok l ρ2 =>
      simp only [hb] at k ⊢
      intro F2 H2 s2 n2 h2
      refine ⟨ρ2, F2, h2, ?_⟩
      cases hc : mh ρ2 with
      | no => simp only [hc] at k
      | er x ρ1 => simp only [hc] at k ⊢; exact (k.later s1).later s2
      | ok u ρ3 =>
        simp only [hc] at k ⊢
        intro F3 H3 s3 n3 h3
        unfold ofO slL at k
        cases x with
        | list ds =>
          simp only at k
          obtain ⟨a, vs, rfl, e, r⟩ := RP.lst (r1.mono (s2.trans s3) (n2.sH.trans n3.sH)) h3.sub
          exact ⟨a, vs, rfl, SqL.of e, newL h3 (fun p vs F' H' sf sh h' a b d e r => k p vs F' H' (s1.trans (s2.trans (s3.trans sf))) (fun hn => ⟨(n1 hn).trans (n2.trans (n3.trans sh.1)), ((n1 hn).trans (n2.trans n3)).sH.free sh.2⟩) h' a b d e r) (cut_rp r _ _)⟩
        | _ => simp only at k
theorem k_sl (hK : X.K = c.K) (he : KP X c n W e m) (hl : KO X c W lo ml) (hh : KO X c W hi mh) : KE X c n W (.Subscript e (.Slice lo hi none p2) pos) (eSl m ml mh) := peImp (pe_slice (sl_list.or (sl_tup.or sl_str)) he hl hh) fun σ H Q ⟨ρ, F, h, k⟩ => by
  refine ⟨ρ, F, h, ?_⟩
  unfold eSl bindM at k
  cases hm : m ρ with
  | no => simp only [hm] at k
  | er x ρ1 => simp only [hm] at k ⊢; exact k
  | ok x ρ1 =>
    simp only [hm] at k ⊢
    intro v F1 H1 s1 n1 h1 r1
    refine ⟨ρ1, F1, h1, ?_⟩
    cases hb : ml ρ1 with
    | no => simp only [hb] at k
    | er x ρ1 => simp only [hb] at k ⊢; exact k.later s1
    | ok l ρ2 =>
      simp only [hb] at k ⊢
      intro F2 H2 s2 n2 h2
      refine ⟨ρ2, F2, h2, ?_⟩
      cases hc : mh ρ2 with
      | no => simp only [hc] at k
      | er x ρ1 => simp only [hc] at k ⊢; exact (k.later s1).later s2
      | ok u ρ3 =>
        simp only [hc] at k ⊢
        intro F3 H3 s3 n3 h3
        have r3 := r1.mono (s2.trans s3) (n2.sH.trans n3.sH)
        have s13 := s1.trans (s2.trans s3)
        have nn : n → Kept ρ F H ρ3 F3 H3 := fun hn => (n1 hn).trans (n2.trans n3)
        unfold ofO slD at k
        cases x with
        | list ds =>
          simp only at k
          obtain ⟨a, vs, rfl, e, r⟩ := r3.lst h3.sub
          exact .inl ⟨a, vs, rfl, SqL.of e, newZ h3 (fun w F' H' sf kk h' rr => k w F' H' (s13.trans sf) (fun hn => (nn hn).trans kk) h' rr) (cut_rp r _ _)⟩
        | tuple ds =>
          simp only at k
          by_cases hw : HT.sIx ds.length 0 l = 0 ∧ HT.sIx ds.length ds.length u = ds.length
          · rw [if_pos hw] at k; exact k.elim
          · rw [if_neg hw] at k
            obtain ⟨a, vs, rfl, e, r⟩ := r3.tup
            refine .inr (.inl ⟨a, vs, rfl, by rw [hK]; exact sameT h3.sub e, by rw [r.len]; exact hw, fun p hp => ?_⟩)
            have sF : Same F3 (upd F3 p (.tup (cutV vs l u))) := same_upd (h3.fp hp)
            exact k (.ref p) _ _ (s13.trans sF) (fun hn => (nn hn).trans (Kept.alloc hp)) (h3.alloc hp) (.tup (SqT.of upd_same) (rpaMono sF (cut_rp r _ _)))
        | str z =>
          simp only at k
          by_cases hw : z.length ≤ sizeLine
          · rw [if_pos hw] at k
            exact .inr (.inr ⟨z, r3.str, hw, k _ F3 H3 s13 nn h3 (.str _)⟩)
          · rw [if_neg hw] at k; exact k.elim
        | _ => simp only at k
end

/-! ### calls of defs -/
/-- what a def's mirror gives -/
inductive Fo where
  | ok (d : Dt)
  | fr (ds : List Dt)
  | er (x : Ex)
  | no
/-- the promise that a mirror makes -/
def spOf (K : PySem.W.Frag) (xr : Ex → Value → Option Addr → Hp → Prop) (G : List Dt → Fo) : Sp := fun vs H Q E => ∃ F ds, Same F H ∧ RpA K F vs ds ∧ match G ds with
  | .ok d => ∀ v F' H', Same H H' → Same F F' → Same F' H' → NewB F H F' → Rp K F' v d → Q v H'
  | .fr es => ∀ p ws F' H', Same H H' → Same F F' → Same F' H' → NewB F H F' → F' p = none → H p = none → H' p = some (.lst ws) → RpA K F' ws es → Q (.ref p) H'
  | .er x => ∀ cls dd H', Same H H' → xr x cls dd H' → E cls dd H'
  | .no => False
def eCall (G : List Dt → Fo) (ms : Mo (List Dt)) : Mo Dt := bindM ms fun ds ρ => match G ds with
  | .ok d => .ok d ρ
  | .fr es => .ok (.list es) ρ
  | .er x => .er x ρ
  | .no => .no
def eCallF (G : List Dt → Fo) (ms : Mo (List Dt)) : Mo (List Dt) := bindM ms fun ds ρ => match G ds with
  | .fr es => .ok es ρ
  | .er x => .er x ρ
  | _ => .no
section
variable {c : Cd} {X : Cx} {n : Prop} {W : WX} {ms : Mo (List Dt)} {e : Expr} {es : List Expr} {pos p : Pos} {G : List Dt → Fo} {x : Str} {k : Nat} {f : Addr} {fd : FuncData} {ps : List Str}
theorem callF_lift {σ : St} {H : Hp} {Q : VK} (h : liftF c n W (eCallF G ms) σ H Q) : tCallSD (spOf c.K c.xr G) [] (WE W) (liftA c n W ms) σ H Q := by
  obtain ⟨ρ, F, h, k⟩ := h
  refine ⟨ρ, F, h, ?_⟩
  unfold eCallF bindM at k
  cases hm : ms ρ with
  | no => simp only [hm] at k
  | er x ρ1 => simp only [hm] at k ⊢; exact k
  | ok ds ρ1 =>
    simp only [hm] at k ⊢
    intro vs F1 H1 s1 n1 h1 r1
    refine ⟨F1, ds, h1.sub, by rw [List.append_nil]; exact r1, ?_⟩
    cases hg : G ds with
    | no => simp only [hg] at k
    | ok d => simp only [hg] at k
    | er x =>
      simp only [hg] at k ⊢
      exact fun cls dd H' sH xx => k cls dd F1 H' s1 (h1.grow (Same.refl _) sH (h1.sub.trans sH) fun b o q => .inl q) xx
    | fr ws =>
      simp only [hg] at k ⊢
      intro p us F' H' sH sF sub new f0 h0 hp r
      have h' := h1.grow sF sH sub new
      exact k p us F' H' (s1.trans sF) (fun hn => ⟨(n1 hn).trans ⟨sH, rfl, new⟩, (n1 hn).sH.free h0⟩) h' f0 (h1.h0 h0) (h1.free h0) hp r
theorem call_lift {σ : St} {H : Hp} {Q : VK} (h : lift RE c n W (eCall G ms) σ H Q) : tCallSD (spOf c.K c.xr G) [] (WE W) (liftA c n W ms) σ H Q := by
  obtain ⟨ρ, F, h, k⟩ := h
  refine ⟨ρ, F, h, ?_⟩
  unfold eCall bindM at k
  cases hm : ms ρ with
  | no => simp only [hm] at k
  | er x ρ1 => simp only [hm] at k ⊢; exact k
  | ok ds ρ1 =>
    simp only [hm] at k ⊢
    intro vs F1 H1 s1 n1 h1 r1
    refine ⟨F1, ds, h1.sub, by rw [List.append_nil]; exact r1, ?_⟩
    cases hg : G ds with
    | no => simp only [hg] at k
    | ok d =>
      simp only [hg] at k ⊢
      intro v F' H' sH sF sub new r
      exact k v F' H' (s1.trans sF) (fun hn => (n1 hn).trans ⟨sH, rfl, new⟩) (h1.grow sF sH sub new) r
    | er x =>
      simp only [hg] at k ⊢
      exact fun cls dd H' sH xx => k cls dd F1 H' s1 (h1.grow (Same.refl _) sH (h1.sub.trans sH) fun b o q => .inl q) xx
    | fr ws =>
      simp only [hg] at k ⊢
      intro p us F' H' sH sF sub new f0 h0 hp r
      have h' := h1.grow sF sH sub new
      have sP : Same F' (upd F' p (.lst us)) := same_upd f0
      have sub' : Same (upd F' p (.lst us)) H' := fun b z q => by
        by_cases hb : b = p
        · subst hb; rw [upd_same] at q; cases q; exact hp
        · rw [upd_ne hb] at q; exact sub _ _ q
      have new' : NewB F1 H1 (upd F' p (.lst us)) := fun b z q => by
        by_cases hb : b = p
        · subst hb; exact .inr h0
        · rw [upd_ne hb] at q; exact new b z q
      exact k (.ref p) (upd F' p (.lst us)) H' (s1.trans (sF.trans sP)) (fun hn => (n1 hn).trans ⟨sH, rfl, new'⟩) (h1.grow (sF.trans sP) sH sub' new') (.lst upd_same (rpaMono sP r))
section
variable (F : FnOk X.prog X.w X.K X.mg X.base (L2.CX X.prog X.w) k f fd ps (spOf c.K c.xr G)) (hr : Room k X.A) (hg : Gl X x) (hm : X.mg x = some (.ref f)) (hk : PySem.W.keepIn X.K (.ref f) = true) (hb : Binds X.K fd ps []) (hx : ∀ σ, PassesAt (L2.CX X.prog X.w) X σ (WE W σ))
  (ha : KA X c n W (e :: es) ms)
include F hr hg hm hk hb hx ha
theorem k_call (hdb : (x == ("__debug__" : Str)) = false := by decide) (he : starEach (e :: es) X.env = (false, eval e X.env) :: starEach es X.env := by rfl) (hpl : (backTo pos (starEach es X.env)).any (·.1) = false := by rfl) :
    KE X c n W (.Call (.Name x p) (e :: es) [] pos) (eCall G ms) := peImp (pe_callSD F hr hg hm hk hb .nil hx ha hdb he hpl) fun _ _ _ h => call_lift h
theorem kf_call (hdb : (x == ("__debug__" : Str)) = false := by decide) (he : starEach (e :: es) X.env = (false, eval e X.env) :: starEach es X.env := by rfl) (hpl : (backTo pos (starEach es X.env)).any (·.1) = false := by rfl) :
    KF X c n W (.Call (.Name x p) (e :: es) [] pos) (eCallF G ms) := peImp (pe_callSD F hr hg hm hk hb .nil hx ha hdb he hpl) fun _ _ _ h => callF_lift h
end
/-- a value that is frozen, or a fresh list -/
inductive Vl where
  | z (d : Dt)
  | f (ds : List Dt)
def liftV (c : Cd) (n : Prop) (W : WX) (m : Mo Vl) : TE := fun σ H Q => ∃ ρ F, Holds c ρ F σ H ∧ match m ρ with
  | .ok (.z d) ρ' => ∀ v F' H', Same F F' → (n → Kept ρ F H ρ' F' H') → Holds c ρ' F' σ H' → Rp c.K F' v d → Q v H'
  | .ok (.f ds) ρ' => ∀ p vs F' H', Same F F' → (n → Kept ρ F H ρ' F' H' ∧ H p = none) → Holds c ρ' F' σ H' → F' p = none → c.H0 p = none → Free ρ' σ p → H' p = some (.lst vs) → RpA c.K F' vs ds → Q (.ref p) H'
  | .er x ρ' => Lx c W x ρ' F σ
  | .no => False
abbrev KV (X : Cx) (c : Cd) (n : Prop) (W : WX) (e : Expr) (m : Mo Vl) : Prop := PE X e (liftV c n W m)
def eCallV (G : List Dt → Fo) (ms : Mo (List Dt)) : Mo Vl := bindM ms fun ds ρ => match G ds with
  | .ok d => .ok (.z d) ρ
  | .fr es => .ok (.f es) ρ
  | .er x => .er x ρ
  | .no => .no
theorem callV_lift {σ : St} {H : Hp} {Q : VK} (h : liftV c n W (eCallV G ms) σ H Q) : tCallSD (spOf c.K c.xr G) [] (WE W) (liftA c n W ms) σ H Q := by
  obtain ⟨ρ, F, h, k⟩ := h
  refine ⟨ρ, F, h, ?_⟩
  unfold eCallV bindM at k
  cases hm : ms ρ with
  | no => simp only [hm] at k
  | er x ρ1 => simp only [hm] at k ⊢; exact k
  | ok ds ρ1 =>
    simp only [hm] at k ⊢
    intro vs F1 H1 s1 n1 h1 r1
    refine ⟨F1, ds, h1.sub, by rw [List.append_nil]; exact r1, ?_⟩
    cases hg : G ds with
    | no => simp only [hg] at k
    | ok d =>
      simp only [hg] at k ⊢
      intro v F' H' sH sF sub new r
      exact k v F' H' (s1.trans sF) (fun hn => (n1 hn).trans ⟨sH, rfl, new⟩) (h1.grow sF sH sub new) r
    | er x =>
      simp only [hg] at k ⊢
      exact fun cls dd H' sH xx => k cls dd F1 H' s1 (h1.grow (Same.refl _) sH (h1.sub.trans sH) fun b o q => .inl q) xx
    | fr ws =>
      simp only [hg] at k ⊢
      intro p us F' H' sH sF sub new f0 h0 hp r
      exact k p us F' H' (s1.trans sF) (fun hn => ⟨(n1 hn).trans ⟨sH, rfl, new⟩, (n1 hn).sH.free h0⟩) (h1.grow sF sH sub new) f0 (h1.h0 h0) (h1.free h0) hp r
theorem kv_call (F : FnOk X.prog X.w X.K X.mg X.base (L2.CX X.prog X.w) k f fd ps (spOf c.K c.xr G)) (hr : Room k X.A) (hg : Gl X x) (hm : X.mg x = some (.ref f)) (hk : PySem.W.keepIn X.K (.ref f) = true) (hb : Binds X.K fd ps []) (hx : ∀ σ, PassesAt (L2.CX X.prog X.w) X σ (WE W σ))
  (ha : KA X c n W (e :: es) ms) (hdb : (x == ("__debug__" : Str)) = false := by decide) (he : starEach (e :: es) X.env = (false, eval e X.env) :: starEach es X.env := by rfl) (hpl : (backTo pos (starEach es X.env)).any (·.1) = false := by rfl) :
    KV X c n W (.Call (.Name x p) (e :: es) [] pos) (eCallV G ms) := peImp (pe_callSD F hr hg hm hk hb .nil hx ha hdb he hpl) fun _ _ _ h => callV_lift h
/-- a def without parameters, that raises nothing -/
def eCall0 (G : List Dt → Fo) : Mo Dt := fun ρ => match G [] with
  | .ok d => .ok d ρ
  | .fr es => .ok (.list es) ρ
  | _ => .no
def eCallF0 (G : List Dt → Fo) : Mo (List Dt) := fun ρ => match G [] with
  | .fr es => .ok es ρ
  | _ => .no
theorem passE0 : Passes (L2.CX X.prog X.w) X E0 := fun _ _ _ _ _ _ _ h => by
  obtain ⟨_, _, _, _, _, _, _, _, _, _, _, _, z⟩ := h
  exact z.elim
theorem kf_call0 (F : FnOk X.prog X.w X.K X.mg X.base (L2.CX X.prog X.w) k f fd ps (spOf c.K c.xr G)) (hr : Room k X.A) (hg : Gl X x) (hm : X.mg x = some (.ref f)) (hk : PySem.W.keepIn X.K (.ref f) = true) (hb : Binds X.K fd ps []) (hdb : (x == ("__debug__" : Str)) = false := by decide) :
    KF X c n W (.Call (.Name x p) [] [] pos) (eCallF0 G) := peImp (pe_call0 F hr hg hm hk hb .nil passE0 hdb) fun σ H Q ⟨ρ, F, h, k⟩ => by
  refine ⟨F, [], h.sub, .nil, ?_⟩
  unfold eCallF0 at k
  cases hg : G [] with
  | fr ws =>
    simp only [hg] at k ⊢
    intro p us F' H' sH sF sub new f0 h0 hp r
    exact k p us F' H' sF (fun hn => ⟨⟨sH, rfl, new⟩, h0⟩) (h.grow sF sH sub new) f0 (h.h0 h0) (h.free h0) hp r
  | _ => simp only [hg] at k
end
end DL

set_option Elab.async false
set_option linter.all false
set_option maxRecDepth 100000
namespace DL
open PySem PySem.Spec L2
open PyProof.Rows hiding St

/-! ### tests -/
section
variable {c : Cd} {X : Cx} {n : Prop} {W : WX} {m1 m2 : Mo Bool} {ma mb mc : Mo Dt} {a b e : Expr} {rest : List Expr} {pos : Pos}
def tAndM (m1 m2 : Mo Bool) : Mo Bool := bindM m1 fun b => if b = true then m2 else fun ρ => .ok false ρ
def tOrM (m1 m2 : Mo Bool) : Mo Bool := bindM m1 fun b => if b = true then fun ρ => .ok true ρ else m2
def tNotM (m : Mo Bool) : Mo Bool := bindM m fun b ρ => .ok (!b) ρ
theorem w_one {op : BoolOp} (h : KT X c n W a m1) : KW X c n W (.BoolOp op [a] pos) m1 := by
  cases op with
  | And => exact pw_and1 h
  | Or => exact pw_or1 h
theorem w_and (ha : KT X c n W a m1) (hb : KW X c n W (.BoolOp .And (b :: rest) pos) m2) : KW X c n W (.BoolOp .And (a :: b :: rest) pos) (tAndM m1 m2) := pwImp (pw_and ha hb) fun σ H Q ⟨ρ, F, h, k⟩ => by
  refine ⟨ρ, F, h, ?_⟩
  unfold tAndM bindM at k
  cases hm : m1 ρ with
  | no => simp only [hm] at k
  | er x ρ1 => simp only [hm] at k ⊢; exact k
  | ok b ρ1 =>
    simp only [hm] at k ⊢
    intro F1 H1 s1 n1 h1
    cases b with
    | false => exact k F1 H1 s1 n1 h1
    | true =>
      rw [if_pos rfl] at k ⊢
      refine ⟨ρ1, F1, h1, ?_⟩
      cases hb : m2 ρ1 with
      | no => simp only [hb] at k
      | er x ρ1 => simp only [hb] at k ⊢; exact k.later s1
      | ok y ρ2 =>
        simp only [hb] at k ⊢
        exact fun F2 H2 s2 n2 h2 => k F2 H2 (s1.trans s2) (fun hn => (n1 hn).trans (n2 hn)) h2
theorem w_or (ha : KT X c n W a m1) (hb : KW X c n W (.BoolOp .Or (b :: rest) pos) m2) : KW X c n W (.BoolOp .Or (a :: b :: rest) pos) (tOrM m1 m2) := pwImp (pw_or ha hb) fun σ H Q ⟨ρ, F, h, k⟩ => by
  refine ⟨ρ, F, h, ?_⟩
  unfold tOrM bindM at k
  cases hm : m1 ρ with
  | no => simp only [hm] at k
  | er x ρ1 => simp only [hm] at k ⊢; exact k
  | ok b ρ1 =>
    simp only [hm] at k ⊢
    intro F1 H1 s1 n1 h1
    cases b with
    | true => exact k F1 H1 s1 n1 h1
    | false =>
      rw [if_neg Bool.false_ne_true] at k ⊢
      refine ⟨ρ1, F1, h1, ?_⟩
      cases hb : m2 ρ1 with
      | no => simp only [hb] at k
      | er x ρ1 => simp only [hb] at k ⊢; exact k.later s1
      | ok y ρ2 =>
        simp only [hb] at k ⊢
        exact fun F2 H2 s2 n2 h2 => k F2 H2 (s1.trans s2) (fun hn => (n1 hn).trans (n2 hn)) h2
theorem t_bool {op : BoolOp} {es : List Expr} (h : KW X c n W (.BoolOp op es pos) m1) : KT X c n W (.BoolOp op es pos) m1 := h.pt
theorem t_not (h : KT X c n W a m1) : KT X c n W (.UnaryOp .Not a pos) (tNotM m1) := ptImp (pt_not h) fun σ H Q ⟨ρ, F, h, k⟩ => by
  refine ⟨ρ, F, h, ?_⟩
  unfold tNotM bindM at k
  cases hm : m1 ρ with
  | no => simp only [hm] at k
  | er x ρ1 => simp only [hm] at k ⊢; exact k
  | ok b ρ1 => simp only [hm] at k ⊢; exact k
/-! .. as values -/
def eAndM (m1 m2 : Mo Dt) : Mo Dt := bindM m1 fun x => match x with
  | .bool b => if b = true then m2 else fun ρ => .ok (.bool false) ρ
  | _ => fun _ => .no
def eOrM (m1 m2 : Mo Dt) : Mo Dt := bindM m1 fun x => match x with
  | .bool b => if b = true then fun ρ => .ok (.bool true) ρ else m2
  | _ => fun _ => .no
def eNotM (m : Mo Dt) : Mo Dt := bindM m fun x => match x with
  | .bool b => fun ρ => .ok (.bool (!b)) ρ
  | _ => fun _ => .no
theorem k_one {op : BoolOp} (h : KE X c n W a ma) : KE X c n W (.BoolOp op [a] pos) ma := pe_one h
theorem k_and (ha : KE X c n W a ma) (hb : KE X c n W (.BoolOp .And (b :: rest) pos) mb) : KE X c n W (.BoolOp .And (a :: b :: rest) pos) (eAndM ma mb) := peImp (pe_and ha hb) fun σ H Q ⟨ρ, F, h, k⟩ => by
  refine ⟨ρ, F, h, ?_⟩
  unfold eAndM bindM at k
  cases hm : ma ρ with
  | no => simp only [hm] at k
  | er x ρ1 => simp only [hm] at k ⊢; exact k
  | ok x ρ1 =>
    simp only [hm] at k ⊢
    cases x with
    | bool b =>
      intro v F1 H1 s1 n1 h1 r1
      cases r1
      refine ⟨b, rfl, ?_⟩
      cases b with
      | false => exact k _ F1 H1 s1 n1 h1 (.bl _)
      | true =>
        simp only [if_true] at k ⊢
        refine ⟨ρ1, F1, h1, ?_⟩
        cases hb : mb ρ1 with
        | no => simp only [hb] at k
        | er x ρ1 => simp only [hb] at k ⊢; exact k.later s1
        | ok y ρ2 =>
          simp only [hb] at k ⊢
          exact fun v2 F2 H2 s2 n2 h2 r2 => k v2 F2 H2 (s1.trans s2) (fun hn => (n1 hn).trans (n2 hn)) h2 r2
    | _ => simp only at k
theorem k_or (ha : KE X c n W a ma) (hb : KE X c n W (.BoolOp .Or (b :: rest) pos) mb) : KE X c n W (.BoolOp .Or (a :: b :: rest) pos) (eOrM ma mb) := peImp (pe_or ha hb) fun σ H Q ⟨ρ, F, h, k⟩ => by
  refine ⟨ρ, F, h, ?_⟩
  unfold eOrM bindM at k
  cases hm : ma ρ with
  | no => simp only [hm] at k
  | er x ρ1 => simp only [hm] at k ⊢; exact k
  | ok x ρ1 =>
    simp only [hm] at k ⊢
    cases x with
    | bool b =>
      intro v F1 H1 s1 n1 h1 r1
      cases r1
      refine ⟨b, rfl, ?_⟩
      cases b with
      | true => exact k _ F1 H1 s1 n1 h1 (.bl _)
      | false =>
        simp only [Bool.false_eq_true, if_false] at k ⊢
        refine ⟨ρ1, F1, h1, ?_⟩
        cases hb : mb ρ1 with
        | no => simp only [hb] at k
        | er x ρ1 => simp only [hb] at k ⊢; exact k.later s1
        | ok y ρ2 =>
          simp only [hb] at k ⊢
          exact fun v2 F2 H2 s2 n2 h2 r2 => k v2 F2 H2 (s1.trans s2) (fun hn => (n1 hn).trans (n2 hn)) h2 r2
    | _ => simp only at k
theorem k_not (h : KE X c n W a ma) : KE X c n W (.UnaryOp .Not a pos) (eNotM ma) := peImp (pe_not h) fun σ H Q ⟨ρ, F, h, k⟩ => by
  refine ⟨ρ, F, h, ?_⟩
  unfold eNotM bindM at k
  cases hm : ma ρ with
  | no => simp only [hm] at k
  | er x ρ1 => simp only [hm] at k ⊢; exact k
  | ok x ρ1 =>
    simp only [hm] at k ⊢
    cases x with
    | bool b => intro v F1 H1 s1 n1 h1 r1; cases r1; exact ⟨b, rfl, k _ F1 H1 s1 n1 h1 (.bl _)⟩
    | _ => simp only at k
/-- a if t else b -/
def eIf (t : Mo Bool) (ma mb : Mo Dt) : Mo Dt := bindM t fun b => if b = true then ma else mb
theorem k_if {t : Expr} (ht : KT X c n W t m1) (ha : KE X c n W a ma) (hb : KE X c n W b mb) : KE X c n W (.IfExp t a b pos) (eIf m1 ma mb) := peImp (pe_ifExp ht ha hb) fun σ H Q ⟨ρ, F, h, k⟩ => by
  refine ⟨ρ, F, h, ?_⟩
  unfold eIf bindM at k
  cases hm : m1 ρ with
  | no => simp only [hm] at k
  | er x ρ1 => simp only [hm] at k ⊢; exact k
  | ok b ρ1 =>
    simp only [hm] at k ⊢
    intro F1 H1 s1 n1 h1
    cases b with
    | true =>
      simp only [if_true] at k ⊢
      refine ⟨ρ1, F1, h1, ?_⟩
      cases hb : ma ρ1 with
      | no => simp only [hb] at k
      | er x ρ1 => simp only [hb] at k ⊢; exact k.later s1
      | ok y ρ2 =>
        simp only [hb] at k ⊢
        exact fun v2 F2 H2 s2 n2 h2 r2 => k v2 F2 H2 (s1.trans s2) (fun hn => (n1 hn).trans (n2 hn)) h2 r2
    | false =>
      simp only [Bool.false_eq_true, if_false] at k ⊢
      refine ⟨ρ1, F1, h1, ?_⟩
      cases hb : mb ρ1 with
      | no => simp only [hb] at k
      | er x ρ1 => simp only [hb] at k ⊢; exact k.later s1
      | ok y ρ2 =>
        simp only [hb] at k ⊢
        exact fun v2 F2 H2 s2 n2 h2 r2 => k v2 F2 H2 (s1.trans s2) (fun hn => (n1 hn).trans (n2 hn)) h2 r2
/-- a op1 b op2 c -/
def eChain (f f' : Dt → Dt → Option Dt) (ma mb mc : Mo Dt) : Mo Dt := bindM ma fun x => bindM mb fun y => match f x y with
  | some (.bool true) => bindM mc fun z => ofO (f' y z)
  | some (.bool false) => fun ρ => .ok (.bool false) ρ
  | _ => fun _ => .no
variable {r r' : R2} {f f' : Dt → Dt → Option Dt} {cc : Expr}
theorem chain_lift (S : SemOp c r f) (S' : SemOp c r' f') (hf1 : ∀ x y z, f x y = some z → ∀ (F : Hp) v, Rp c.K F v z → ∃ b, v = .bl b ∧ z = .bool b) {σ : St} {H : Hp} {Q : VK} (h : lift RE c n W (eChain f f' ma mb mc) σ H Q) :
    tChain r r' (lift RP c n W ma) (lift RP c True W mb) (lift RP c True W mc) σ H Q := by
  obtain ⟨ρ, F, h, k⟩ := h
  refine ⟨ρ, F, h, ?_⟩
  unfold eChain bindM at k
  cases ha : ma ρ with
  | no => simp only [ha] at k
  | er x ρ1 => simp only [ha] at k ⊢; exact k
  | ok x ρ1 =>
    simp only [ha] at k ⊢
    intro v F1 H1 s1 n1 h1 r1
    refine ⟨ρ1, F1, h1, ?_⟩
    cases hb : mb ρ1 with
    | no => simp only [hb] at k
    | er x ρ1 => simp only [hb] at k ⊢; exact k.later s1
    | ok y ρ2 =>
      simp only [hb] at k ⊢
      intro u F2 H2 s2 n2 h2 r2
      have g2 := n2 trivial
      cases hf : f x y with
      | none => simp only [hf] at k
      | some z =>
        refine S ρ2 F2 σ H2 v u x y z _ h2 (r1.mono s2 g2.sH) r2 hf fun w F3 H3 s3 g3 h3 r3 => ?_
        obtain ⟨d, rfl, rfl⟩ := hf1 x y z hf F3 w r3
        refine ⟨d, rfl, ?_⟩
        cases d with
        | false =>
          simp only [hf] at k
          rw [if_neg Bool.false_ne_true]
          exact k _ F3 H3 (s1.trans (s2.trans s3)) (fun hn => (n1 hn).trans (g2.trans g3)) h3 (.bl _)
        | true =>
          simp only [hf] at k
          rw [if_pos rfl]
          refine ⟨ρ2, F3, h3, ?_⟩
          cases hc : mc ρ2 with
          | no => simp only [hc] at k
          | er x ρ1 => simp only [hc] at k ⊢; exact ((k.later s1).later s2).later s3
          | ok z ρ3 =>
            simp only [hc] at k ⊢
            intro w F4 H4 s4 n4 h4 r4
            have g4 := n4 trivial
            obtain rfl := g4.e
            unfold ofO at k
            cases hf2 : f' y z with
            | none => simp only [hf2] at k
            | some zz =>
              simp only [hf2] at k
              exact S' ρ3 F4 σ H4 u w y z zz Q h4 (r2.mono (s3.trans s4) (g3.sH.trans g4.sH)) r4 hf2 fun w5 F5 H5 s5 g5 h5 r5 =>
                k w5 F5 H5 (s1.trans (s2.trans (s3.trans (s4.trans s5)))) (fun hn => (n1 hn).trans (g2.trans (g3.trans (g4.trans g5)))) h5 r5
theorem cmpI_bool {p : Int → Int → Bool} : ∀ x y z, cmpI p x y = some z → ∀ (F : Hp) v, Rp c.K F v z → ∃ b, v = .bl b ∧ z = .bool b := by
  intro x y z hf F v hv
  unfold cmpI at hf
  split at hf
  · cases hf; cases hv; exact ⟨_, rfl, rfl⟩
  · cases hf
/-- the comparisons of ints by name -/
inductive Ord : CmpOp → (Int → Int → Bool) → Prop
  | lt : Ord .Lt fun i j => decide (i < j)
  | le : Ord .LtE fun i j => decide (i ≤ j)
  | gt : Ord .Gt fun i j => decide (j < i)
  | ge : Ord .GtE fun i j => decide (j ≤ i)
theorem Ord.rule {op : CmpOp} {p : Int → Int → Bool} (h : Ord op p) : OpR X (compareOp op) (rI0 fun i j => .bl (p i j)) := by
  cases h with
  | lt => exact op_lt
  | le => exact op_le
  | gt => exact op_gt
  | ge => exact op_ge
theorem k_chain {op op' : CmpOp} {p p' : Int → Int → Bool} (o : Ord op p) (o' : Ord op' p') (ha : KP X c n W a ma) (hb : KP X c True W b mb) (hc : KP X c True W cc mc) (hm : lastMarks [op, op'] [b, cc] = false := by with_unfolding_all rfl) :
    KE X c n W (.Compare a [op, op'] [b, cc] pos) (eChain (cmpI p) (cmpI p') ma mb mc) := peImp (pe_chain o.rule o'.rule ha hb hc hm) fun _ _ _ h => chain_lift sem_cmp sem_cmp cmpI_bool h
theorem t_chain {op op' : CmpOp} {p p' : Int → Int → Bool} (o : Ord op p) (o' : Ord op' p') (ha : KP X c n W a ma) (hb : KP X c True W b mb) (hc : KP X c True W cc mc) (hm : lastMarks [op, op'] [b, cc] = false := by with_unfolding_all rfl) :
    KT X c n W (.Compare a [op, op'] [b, cc] pos) (tOf (eChain (cmpI p) (cmpI p') ma mb mc)) := ptImp (pt_chain o.rule o'.rule ha hb hc hm) fun _ _ _ h => tb_lift (fun _ _ _ h => chain_lift sem_cmp sem_cmp cmpI_bool h) h
/-- a comparison as a test -/
theorem t_lt (ha : KP X c n W a ma) (hb : KP X c True W b mb) : KT X c n W (.Compare a [.Lt] [b] pos) (tOf (eOp ltD ma mb)) := t_cmp (op_lt.or op_lt_str) sem_lt (nomark _) ha hb
theorem t_le (ha : KP X c n W a ma) (hb : KP X c True W b mb) : KT X c n W (.Compare a [.LtE] [b] pos) (tOf (eOp leD ma mb)) := t_cmp op_le sem_cmp (nomark _) ha hb
theorem t_gt (ha : KP X c n W a ma) (hb : KP X c True W b mb) : KT X c n W (.Compare a [.Gt] [b] pos) (tOf (eOp gtD ma mb)) := t_cmp op_gt sem_cmp (nomark _) ha hb
theorem t_ge (ha : KP X c n W a ma) (hb : KP X c True W b mb) : KT X c n W (.Compare a [.GtE] [b] pos) (tOf (eOp geD ma mb)) := t_cmp op_ge sem_cmp (nomark _) ha hb
theorem t_eq (hu : X.A.units + 64 < cLine) (hK : X.K = c.K) (ha : KP X c n W a ma) (hb : KP X c True W b mb) : KT X c n W (.Compare a [.Eq] [b] pos) (tOf (eOp eqD ma mb)) := t_cmp (op_eqP hu) (by rw [hK]; exact sem_eq) (nomark _) ha hb
theorem t_ne (hu : X.A.units + 64 < cLine) (hK : X.K = c.K) (ha : KP X c n W a ma) (hb : KP X c True W b mb) : KT X c n W (.Compare a [.NotEq] [b] pos) (tOf (eOp neD ma mb)) := t_cmp (op_neP hu) (by rw [hK]; exact sem_ne) (nomark _) ha hb
theorem t_in (hu : X.A.units + 64 < cLine) (hK : X.K = c.K) (hm : behindInMarks .In b = false) (ha : KP X c n W a ma) (hb : KP X c True W b mb) : KT X c n W (.Compare a [.In] [b] pos) (tOf (eOp inD ma mb)) := t_cmp ((op_inP hu).or op_sign) (by rw [hK]; exact sem_in) hm ha hb
theorem t_nin (hu : X.A.units + 64 < cLine) (hK : X.K = c.K) (hm : behindInMarks .NotIn b = false) (ha : KP X c n W a ma) (hb : KP X c True W b mb) : KT X c n W (.Compare a [.NotIn] [b] pos) (tOf (eOp ninD ma mb)) := t_cmp ((op_ninP hu).or op_nsign) (by rw [hK]; exact sem_nin) hm ha hb
theorem t_is (ha : KP X c n W a ma) (hb : KP X c True W b mb) : KT X c n W (.Compare a [.Is] [b] pos) (tOf (eOp isD ma mb)) := t_cmp (op_isN.or op_isBl) sem_is (nomark _) ha hb
theorem t_nis (ha : KP X c n W a ma) (hb : KP X c True W b mb) : KT X c n W (.Compare a [.IsNot] [b] pos) (tOf (eOp nisD ma mb)) := t_cmp (op_notN.or op_notBl) sem_nis (nomark _) ha hb
end

/-! ### built-ins by name -/
section
variable {c : Cd} {X : Cx} {n : Prop} {W : WX} {ms : Mo (List Dt)} {e : Expr} {es : List Expr} {pos p : Pos} {x : Str} {id T : String} {r : List V → Hp → VK → Prop} {g : List Dt → Option Dt} {gf : List Dt → Option (List Dt)}
def eB (g : List Dt → Option Dt) (ms : Mo (List Dt)) : Mo Dt := bindM ms fun ds => ofO (g ds)
def eBF (g : List Dt → Option (List Dt)) (ms : Mo (List Dt)) : Mo (List Dt) := bindM ms fun ds => ofO (g ds)
def SemB (c : Cd) (r : List V → Hp → VK → Prop) (g : List Dt → Option Dt) : Prop := ∀ ρ F σ H vs ds z Q, Holds c ρ F σ H → Paired (RP c F H) vs ds → g ds = some z → (∀ w F' H', Same F F' → Kept ρ F H ρ F' H' → Holds c ρ F' σ H' → Rp c.K F' w z → Q w H') → r vs H Q
def SemBF (c : Cd) (r : List V → Hp → VK → Prop) (g : List Dt → Option (List Dt)) : Prop := ∀ ρ F σ H vs ds z Q, Holds c ρ F σ H → Paired (RP c F H) vs ds → g ds = some z → NewL c ρ F σ H z Q → r vs H Q
theorem b_lift (S : SemB c r g) {σ : St} {H : Hp} {Q : VK} (h : lift RE c n W (eB g ms) σ H Q) : tCB r (liftB c n W ms) σ H Q := by
  obtain ⟨ρ, F, h, k⟩ := h
  refine ⟨ρ, F, h, ?_⟩
  unfold eB bindM at k
  cases hm : ms ρ with
  | no => simp only [hm] at k
  | er x ρ1 => simp only [hm] at k ⊢; exact k
  | ok ds ρ1 =>
    simp only [hm] at k ⊢
    intro vs F1 H1 s1 n1 h1 r1
    unfold ofO at k
    cases hg : g ds with
    | none => simp only [hg] at k
    | some z =>
      simp only [hg] at k
      exact S ρ1 F1 σ H1 vs ds z Q h1 r1 hg fun w F2 H2 s2 g2 h2 r2 => k w F2 H2 (s1.trans s2) (fun hn => (n1 hn).trans g2) h2 r2
theorem bF_lift (S : SemBF c r gf) {σ : St} {H : Hp} {Q : VK} (h : liftF c n W (eBF gf ms) σ H Q) : tCB r (liftB c n W ms) σ H Q := by
  obtain ⟨ρ, F, h, k⟩ := h
  refine ⟨ρ, F, h, ?_⟩
  unfold eBF bindM at k
  cases hm : ms ρ with
  | no => simp only [hm] at k
  | er x ρ1 => simp only [hm] at k ⊢; exact k
  | ok ds ρ1 =>
    simp only [hm] at k ⊢
    intro vs F1 H1 s1 n1 h1 r1
    unfold ofO at k
    cases hg : gf ds with
    | none => simp only [hg] at k
    | some z =>
      simp only [hg] at k
      exact S ρ1 F1 σ H1 vs ds z Q h1 r1 hg fun p us F2 H2 s2 g2 h2 f0 h0 fr hp r2 => k p us F2 H2 (s1.trans s2) (fun hn => ⟨(n1 hn).trans g2.1, (n1 hn).sH.free g2.2⟩) h2 f0 h0 fr hp r2
theorem k_bi (hc : CallR X (.builtin id) r) (S : SemB c r g) (hg : Gl X x) (hm : X.mg x = none) (hv : bootBuiltins x = some (.builtin id)) (ha : KB X c n W (e :: es) ms) (hn : x ≠ "__name__" := by decide) (hdb : (x == ("__debug__" : Str)) = false := by decide)
    (he : starEach (e :: es) X.env = (false, eval e X.env) :: starEach es X.env := by rfl) (hpl : (backTo pos (starEach es X.env)).any (·.1) = false := by rfl) : KE X c n W (.Call (.Name x p) (e :: es) [] pos) (eB g ms) :=
  peImp (pe_callB hc hg hm hv ha hn hdb he hpl) fun _ _ _ h => b_lift S h
theorem k_ty (hc : CallR X (.type T) r) (S : SemB c r g) (hg : Gl X x) (hm : X.mg x = none) (hv : bootBuiltins x = some (.type T)) (ha : KB X c n W (e :: es) ms) (hn : x ≠ "__name__" := by decide) (hdb : (x == ("__debug__" : Str)) = false := by decide)
    (he : starEach (e :: es) X.env = (false, eval e X.env) :: starEach es X.env := by rfl) (hpl : (backTo pos (starEach es X.env)).any (·.1) = false := by rfl) : KE X c n W (.Call (.Name x p) (e :: es) [] pos) (eB g ms) :=
  peImp (pe_callTy hc hg hm hv ha hn hdb he hpl) fun _ _ _ h => b_lift S h
theorem kf_bi (hc : CallR X (.builtin id) r) (S : SemBF c r gf) (hg : Gl X x) (hm : X.mg x = none) (hv : bootBuiltins x = some (.builtin id)) (ha : KB X c n W (e :: es) ms) (hn : x ≠ "__name__" := by decide) (hdb : (x == ("__debug__" : Str)) = false := by decide)
    (he : starEach (e :: es) X.env = (false, eval e X.env) :: starEach es X.env := by rfl) (hpl : (backTo pos (starEach es X.env)).any (·.1) = false := by rfl) : KF X c n W (.Call (.Name x p) (e :: es) [] pos) (eBF gf ms) :=
  peImp (pe_callB hc hg hm hv ha hn hdb he hpl) fun _ _ _ h => bF_lift S h
theorem kf_ty (hc : CallR X (.type T) r) (S : SemBF c r gf) (hg : Gl X x) (hm : X.mg x = none) (hv : bootBuiltins x = some (.type T)) (ha : KB X c n W (e :: es) ms) (hn : x ≠ "__name__" := by decide) (hdb : (x == ("__debug__" : Str)) = false := by decide)
    (he : starEach (e :: es) X.env = (false, eval e X.env) :: starEach es X.env := by rfl) (hpl : (backTo pos (starEach es X.env)).any (·.1) = false := by rfl) : KF X c n W (.Call (.Name x p) (e :: es) [] pos) (eBF gf ms) :=
  peImp (pe_callTy hc hg hm hv ha hn hdb he hpl) fun _ _ _ h => bF_lift S h
end

section
variable {c : Cd} {X : Cx}
theorem pr1 {α β : Type} {R : α → β → Prop} {vs : List α} {x : β} (h : Paired R vs [x]) : ∃ v, vs = [v] ∧ R v x := by
  cases h with
  | cons a t => cases t; exact ⟨_, rfl, a⟩
theorem pr2 {α β : Type} {R : α → β → Prop} {vs : List α} {x y : β} (h : Paired R vs [x, y]) : ∃ v w, vs = [v, w] ∧ R v x ∧ R w y := by
  cases h with
  | cons a t =>
    obtain ⟨w, rfl, b⟩ := pr1 t
    exact ⟨_, w, rfl, a, b⟩
def lenD : List Dt → Option Dt
  | [.dict [(.none, .list xs)]] => some (.int xs.length)
  | [.list xs] => some (.int xs.length)
  | [.tuple xs] => some (.int xs.length)
  | [.str z] => if z.length ≤ sizeLine then some (.int z.length) else none
  | _ => none
theorem sem_len : SemB c (fun xs H Q => ∃ x n, xs = [x] ∧ LenV c.K x H n ∧ Q (V.int ↑n) H) lenD := by
  intro ρ F σ H vs ds z Q hh rv hg q
  unfold lenD at hg
  split at hg
  · obtain ⟨v, rfl, r⟩ := pr1 rv
    cases hg
    obtain ⟨a, ns, rfl, ek, e⟩ := r.dict
    cases ek
    exact ⟨_, (ns.map V.int).length, rfl, .inl ⟨_, hh.sub.seq e, rfl⟩, by
      have e := flat hh q (.int _)
      simpa only [List.length_map] using e⟩
  · obtain ⟨v, rfl, r⟩ := pr1 rv
    cases hg
    obtain ⟨a, ws, rfl, e, r⟩ := r.lst hh.sub
    exact ⟨_, ws.length, rfl, .inl ⟨ws, SqL.of e, rfl⟩, by rw [r.len]; exact flat hh q (.int _)⟩
  · obtain ⟨v, rfl, r⟩ := pr1 rv
    cases hg
    obtain ⟨a, ws, rfl, e, r⟩ := r.tup
    exact ⟨_, ws.length, rfl, .inr ⟨ws, sameT hh.sub e, rfl⟩, by rw [r.len]; exact flat hh q (.int _)⟩
  · obtain ⟨v, rfl, r⟩ := pr1 rv
    split at hg
    · rename_i hz
      cases hg
      exact ⟨_, _, rfl, by rw [r.str]; exact ⟨hz, rfl⟩, flat hh q (.int _)⟩
    · cases hg
  · cases hg
def intsOf : List Dt → Option (List Int)
  | [] => some []
  | .int i :: r => (intsOf r).map (i :: ·)
  | _ => none
theorem intsOf_eq : ∀ {ds : List Dt} {ns : List Int}, intsOf ds = some ns → ds = ns.map .int
  | [], ns, h => by cases h; rfl
  | d :: ds, ns, h => by
    cases d with
    | int i =>
      simp only [intsOf] at h
      cases e : intsOf ds with
      | none => rw [e] at h; cases h
      | some ms => rw [e] at h; cases h; rw [intsOf_eq e]; rfl
    | _ => simp [intsOf] at h
theorem intsOf_map : ∀ ns : List Int, intsOf (ns.map .int) = some ns
  | [] => rfl
  | n :: ns => by simp only [List.map_cons, intsOf, intsOf_map ns]; rfl
def sumD : List Dt → Option Dt
  | [.list xs] => (intsOf xs).map fun ns => .int ns.sum
  | _ => none
theorem sem_sum : SemB c (rSum c.K) sumD := by
  intro ρ F σ H vs ds z Q hh rv hg q
  unfold sumD at hg
  split at hg
  · rename_i xs
    obtain ⟨v, rfl, r⟩ := pr1 rv
    cases e : intsOf xs with
    | none => rw [e] at hg; cases hg
    | some ns =>
      rw [e] at hg
      cases hg
      obtain ⟨a, ws, rfl, e1, r⟩ := r.lst hh.sub
      rw [intsOf_eq e] at r
      rw [r.ints] at e1
      exact ⟨a, ns, rfl, SqL.of e1, flat hh q (.int _)⟩
  · cases hg
/-- the greatest, the least of a list that is not empty -/
def maxI : List Int → Int
  | [] => 0
  | n :: ns => ns.foldl max n
def minI : List Int → Int
  | [] => 0
  | n :: ns => ns.foldl min n
theorem foldl_max : ∀ (ns : List Int) (n : Int), n ≤ ns.foldl max n ∧ (∀ y ∈ ns, y ≤ ns.foldl max n) ∧ (ns.foldl max n = n ∨ ns.foldl max n ∈ ns)
  | [], n => ⟨Int.le_refl _, by simp, .inl rfl⟩
  | m :: ns, n => by
    obtain ⟨h1, h2, h3⟩ := foldl_max ns (max n m)
    rw [List.foldl_cons]
    refine ⟨by omega, fun y hy => ?_, ?_⟩
    · rcases List.mem_cons.mp hy with rfl | hy
      · omega
      · exact h2 y hy
    · rcases h3 with h3 | h3
      · by_cases hle : n ≤ m
        · right; rw [h3, show max n m = m by omega]; exact List.mem_cons_self
        · left; rw [h3]; omega
      · right; exact List.mem_cons_of_mem _ h3
theorem foldl_min : ∀ (ns : List Int) (n : Int), ns.foldl min n ≤ n ∧ (∀ y ∈ ns, ns.foldl min n ≤ y) ∧ (ns.foldl min n = n ∨ ns.foldl min n ∈ ns)
  | [], n => ⟨Int.le_refl _, by simp, .inl rfl⟩
  | m :: ns, n => by
    obtain ⟨h1, h2, h3⟩ := foldl_min ns (min n m)
    rw [List.foldl_cons]
    refine ⟨by omega, fun y hy => ?_, ?_⟩
    · rcases List.mem_cons.mp hy with rfl | hy
      · omega
      · exact h2 y hy
    · rcases h3 with h3 | h3
      · by_cases hle : m ≤ n
        · right; rw [h3, show min n m = m by omega]; exact List.mem_cons_self
        · left; rw [h3]; omega
      · right; exact List.mem_cons_of_mem _ h3
theorem maxI_spec {ns : List Int} (h : ns ≠ []) : maxI ns ∈ ns ∧ ∀ y ∈ ns, y ≤ maxI ns := by
  cases ns with
  | nil => exact absurd rfl h
  | cons n ns =>
    obtain ⟨h1, h2, h3⟩ := foldl_max ns n
    refine ⟨?_, fun y hy => ?_⟩
    · rcases h3 with h3 | h3
      · show ns.foldl max n ∈ _; rw [h3]; exact List.mem_cons_self
      · exact List.mem_cons_of_mem _ h3
    · rcases List.mem_cons.mp hy with rfl | hy
      · exact h1
      · exact h2 y hy
theorem minI_spec {ns : List Int} (h : ns ≠ []) : minI ns ∈ ns ∧ ∀ y ∈ ns, minI ns ≤ y := by
  cases ns with
  | nil => exact absurd rfl h
  | cons n ns =>
    obtain ⟨h1, h2, h3⟩ := foldl_min ns n
    refine ⟨?_, fun y hy => ?_⟩
    · rcases h3 with h3 | h3
      · show ns.foldl min n ∈ _; rw [h3]; exact List.mem_cons_self
      · exact List.mem_cons_of_mem _ h3
    · rcases List.mem_cons.mp hy with rfl | hy
      · exact h1
      · exact h2 y hy
def maxD : List Dt → Option Dt
  | [.int i, .int j] => some (.int (if j > i then j else i))
  | [.list xs] => (intsOf xs).bind fun ns => if ns = [] then none else some (.int (maxI ns))
  | _ => none
def minD : List Dt → Option Dt
  | [.int i, .int j] => some (.int (if j < i then j else i))
  | [.list xs] => (intsOf xs).bind fun ns => if ns = [] then none else some (.int (minI ns))
  | _ => none
theorem sem_max : SemB c (fun xs H Q => (∃ i j, xs = [V.int i, V.int j] ∧ Q (V.int (if j > i then j else i)) H) ∨ rMax c.K xs H Q) maxD := by
  intro ρ F σ H vs ds z Q hh rv hg q
  unfold maxD at hg
  split at hg
  · obtain ⟨v, w, rfl, r1, r2⟩ := pr2 rv
    cases hg
    exact .inl ⟨_, _, by rw [r1.int, r2.int], flat hh q (.int _)⟩
  · rename_i xs
    obtain ⟨v, rfl, r⟩ := pr1 rv
    cases e : intsOf xs with
    | none => rw [e] at hg; cases hg
    | some ns =>
      rw [e] at hg
      simp only [Option.bind_some] at hg
      split at hg
      · cases hg
      · rename_i hn
        cases hg
        obtain ⟨a, ws, rfl, e1, r⟩ := r.lst hh.sub
        rw [intsOf_eq e] at r
        rw [r.ints] at e1
        refine .inr ⟨a, ns, rfl, SqL.of e1, List.length_pos_iff.mpr hn, fun m hm hle => ?_⟩
        obtain ⟨h1, h2⟩ := maxI_spec hn
        have e : m = maxI ns := Int.le_antisymm (h2 m hm) (hle _ h1)
        rw [e]
        exact flat hh q (.int _)
  · cases hg
theorem sem_min : SemB c (fun xs H Q => (∃ i j, xs = [V.int i, V.int j] ∧ Q (V.int (if j < i then j else i)) H) ∨ rMin c.K xs H Q) minD := by
  intro ρ F σ H vs ds z Q hh rv hg q
  unfold minD at hg
  split at hg
  · obtain ⟨v, w, rfl, r1, r2⟩ := pr2 rv
    cases hg
    exact .inl ⟨_, _, by rw [r1.int, r2.int], flat hh q (.int _)⟩
  · rename_i xs
    obtain ⟨v, rfl, r⟩ := pr1 rv
    cases e : intsOf xs with
    | none => rw [e] at hg; cases hg
    | some ns =>
      rw [e] at hg
      simp only [Option.bind_some] at hg
      split at hg
      · cases hg
      · rename_i hn
        cases hg
        obtain ⟨a, ws, rfl, e1, r⟩ := r.lst hh.sub
        rw [intsOf_eq e] at r
        rw [r.ints] at e1
        refine .inr ⟨a, ns, rfl, SqL.of e1, List.length_pos_iff.mpr hn, fun m hm hle => ?_⟩
        obtain ⟨h1, h2⟩ := minI_spec hn
        have e : m = minI ns := Int.le_antisymm (hle _ h1) (h2 m hm)
        rw [e]
        exact flat hh q (.int _)
  · cases hg
def absD : List Dt → Option Dt
  | [.int i] => some (.int (if i < 0 then -i else i))
  | _ => none
theorem sem_abs : SemB c (fun xs H Q => ∃ i, xs = [V.int i] ∧ Q (V.int (if i < 0 then -i else i)) H) absD := by
  intro ρ F σ H vs ds z Q hh rv hg q
  unfold absD at hg
  split at hg
  · obtain ⟨v, rfl, r⟩ := pr1 rv
    cases hg
    exact ⟨_, by rw [r.int], flat hh q (.int _)⟩
  · cases hg
def intD : List Dt → Option Dt
  | [.int i] => some (.int i)
  | [.bool b] => some (.int (if b = true then 1 else 0))
  | _ => none
theorem sem_intD : SemB c (fun xs H Q => (∃ i, xs = [V.int i] ∧ Q (V.int i) H) ∨ ∃ k, xs = [V.bl k] ∧ Q (V.int (if k = true then 1 else 0)) H) intD := by
  intro ρ F σ H vs ds z Q hh rv hg q
  unfold intD at hg
  split at hg
  · obtain ⟨v, rfl, r⟩ := pr1 rv
    cases hg
    exact .inl ⟨_, by rw [r.int], flat hh q (.int _)⟩
  · obtain ⟨v, rfl, r⟩ := pr1 rv
    cases hg
    exact .inr ⟨_, by rw [r.bl], flat hh q (.int _)⟩
  · cases hg
/-- list(x) of a list or tuple -/
def listD : List Dt → Option (List Dt)
  | [.list xs] => some xs
  | [.tuple xs] => some xs
  | _ => none
theorem sem_list : SemBF c (fun xs H Q => ∃ p ys, xs = [V.ref p] ∧ (SqL c.K H p ys ∨ SqT c.K H p ys) ∧ ∀ (l : Addr), H l = none → Q (V.ref l) (upd H l (HO.lst ys))) listD := by
  intro ρ F σ H vs ds z Q hh rv hg q
  unfold listD at hg
  split at hg
  · obtain ⟨v, rfl, r⟩ := pr1 rv
    cases hg
    obtain ⟨a, ws, rfl, e, r⟩ := r.lst hh.sub
    exact ⟨a, ws, rfl, .inl (SqL.of e), newL hh q r⟩
  · obtain ⟨v, rfl, r⟩ := pr1 rv
    cases hg
    obtain ⟨a, ws, rfl, e, r⟩ := r.tup
    exact ⟨a, ws, rfl, .inr (sameT hh.sub e), newL hh q r⟩
  · cases hg
/-- tuple(x) of a list -/
def tupD : List Dt → Option Dt
  | [.list xs] => some (.tuple xs)
  | [.tuple xs] => some (.tuple xs)
  | _ => none
theorem sem_tup : SemB c (fun xs H Q => ∃ p ys, xs = [V.ref p] ∧ ((SqL c.K H p ys ∧ ∀ (l : Addr), H l = none → Q (V.ref l) (upd H l (HO.tup ys))) ∨ SqT c.K H p ys ∧ Q (V.ref p) H)) tupD := by
  intro ρ F σ H vs ds z Q hh rv hg q
  unfold tupD at hg
  split at hg
  · obtain ⟨v, rfl, r⟩ := pr1 rv
    cases hg
    obtain ⟨a, ws, rfl, e, r⟩ := r.lst hh.sub
    refine ⟨a, ws, rfl, .inl ⟨SqL.of e, fun p hp => ?_⟩⟩
    exact q (.ref p) _ _ (same_upd (hh.fp hp)) (Kept.alloc hp) (hh.alloc hp) (.tup (SqT.of upd_same) (rpaMono (same_upd (hh.fp hp)) r))
  · obtain ⟨v, rfl, r⟩ := pr1 rv
    cases hg
    obtain ⟨a, ws, rfl, e, r⟩ := r.tup
    exact ⟨a, ws, rfl, .inr ⟨sameT hh.sub e, flat hh q (.tup e r)⟩⟩
  · cases hg
end
end DL

set_option Elab.async false
set_option linter.all false
set_option maxRecDepth 100000
namespace DL
open PySem PySem.Spec L2
open PyProof.Rows hiding St

/-! ### statements -/
inductive Fl where
  | nx
  | rt (d : Dt)
  | ro (ds : List Dt)
  | bk
  | ct
def FlOk (c : Cd) (fl : Fl) (ρ' : Rho) (F : Hp) (D : Ends) : Prop := match fl with
  | .nx => ∀ σ' F' H', Same F F' → Holds c ρ' F' σ' H' → D.nx σ' H'
  | .rt d => ∀ v σ' F' H', Same F F' → Holds c ρ' F' σ' H' → Rp c.K F' v d → D.rt v H'
  | .ro ds => ∀ p vs σ' F' H', Same F F' → Holds c ρ' F' σ' H' → F' p = none → c.H0 p = none → H' p = some (.lst vs) → RpA c.K F' vs ds → D.rt (.ref p) H'
  | .bk => ∀ σ' F' H', Same F F' → Holds c ρ' F' σ' H' → D.bk σ' H'
  | .ct => ∀ σ' F' H', Same F F' → Holds c ρ' F' σ' H' → D.ct σ' H'
def LxS (c : Cd) (W : WX) (x : Ex) (ρ' : Rho) (F : Hp) : Prop := ∀ cls dd σ' F' H', Same F F' → Holds c ρ' F' σ' H' → c.xr x cls dd H' → W cls dd σ' H'
def Res (c : Cd) (W : WX) (r : Rs Fl) (F : Hp) (D : Ends) : Prop := match r with
  | .ok fl ρ' => FlOk c fl ρ' F D
  | .er x ρ' => LxS c W x ρ' F
  | .no => False
theorem FlOk.later {c : Cd} {fl : Fl} {ρ' : Rho} {F F1 : Hp} {D : Ends} (h : FlOk c fl ρ' F D) (s : Same F F1) : FlOk c fl ρ' F1 D := by
  cases fl with
  | nx => exact fun σ' F' H' s' => h σ' F' H' (s.trans s')
  | rt d => exact fun v σ' F' H' s' => h v σ' F' H' (s.trans s')
  | ro ds => exact fun p vs σ' F' H' s' => h p vs σ' F' H' (s.trans s')
  | bk => exact fun σ' F' H' s' => h σ' F' H' (s.trans s')
  | ct => exact fun σ' F' H' s' => h σ' F' H' (s.trans s')
theorem LxS.later {c : Cd} {W : WX} {x : Ex} {ρ' : Rho} {F F1 : Hp} (h : LxS c W x ρ' F) (s : Same F F1) : LxS c W x ρ' F1 := fun cls dd σ' F' H' s' => h cls dd σ' F' H' (s.trans s')
theorem LxS.lx {c : Cd} {W : WX} {x : Ex} {ρ' : Rho} {F : Hp} {σ : St} (h : LxS c W x ρ' F) : Lx c W x ρ' F σ := fun cls dd F' H' s' => h cls dd σ F' H' s'
theorem Res.later {c : Cd} {W : WX} {r : Rs Fl} {F F1 : Hp} {D : Ends} (h : Res c W r F D) (s : Same F F1) : Res c W r F1 D := by
  cases r with
  | ok fl ρ' => exact FlOk.later h s
  | er x ρ' => exact LxS.later h s
  | no => exact h
def liftS (c : Cd) (W : WX) (m : Mo Fl) : TS := fun D σ H => ∃ ρ F, Holds c ρ F σ H ∧ Res c W (m ρ) F D
abbrev KS (X : Cx) (c : Cd) (W : WX) (st : Stmt) (m : Mo Fl) : Prop := PS X st (liftS c W m)
abbrev KSs (X : Cx) (c : Cd) (W : WX) (st : List Stmt) (m : Mo Fl) : Prop := PSs X st (liftS c W m)
def sNext : Mo Fl := fun ρ => .ok .nx ρ
def sSeq (m1 m2 : Mo Fl) : Mo Fl := fun ρ => match m1 ρ with
  | .ok .nx ρ1 => m2 ρ1
  | r => r
section
variable {X : Cx} {c : Cd} {n : Prop} {W : WX} {st : Stmt} {sts : List Stmt} {m1 m2 : Mo Fl} {m me mi : Mo Dt} {mf : Mo (List Dt)} {pos p : Pos} {e : Expr} {i : Nat} {te : TE}
theorem s_nil : KSs X c W [] sNext := pssImp pss_nil fun D σ H ⟨ρ, F, h, k⟩ => k σ F H (Same.refl _) h
theorem s_pass : KS X c W (.Pass pos) sNext := psImp ps_pass fun D σ H ⟨ρ, F, h, k⟩ => k σ F H (Same.refl _) h
theorem s_break : KS X c W (.Break pos) (fun ρ => .ok .bk ρ) := psImp ps_break fun D σ H ⟨ρ, F, h, k⟩ => k σ F H (Same.refl _) h
theorem s_continue : KS X c W (.Continue pos) (fun ρ => .ok .ct ρ) := psImp ps_continue fun D σ H ⟨ρ, F, h, k⟩ => k σ F H (Same.refl _) h
theorem s_one (h : KS X c W st m1) : KSs X c W [st] m1 := pss_one h
theorem s_cons (h1 : KS X c W st m1) (h2 : KSs X c W sts m2) : KSs X c W (st :: sts) (sSeq m1 m2) := pssImp (pss_cons h1 h2) fun D σ H ⟨ρ, F, h, k⟩ => by
  refine ⟨ρ, F, h, ?_⟩
  unfold sSeq at k
  cases hm : m1 ρ with
  | no => rw [hm] at k; exact k.elim
  | er x ρ1 => rw [hm] at k; exact k
  | ok fl ρ1 =>
    rw [hm] at k
    cases fl with
    | nx => exact fun σ' F' H' s h' => ⟨ρ1, F', h', k.later s⟩
    | rt d => exact k
    | ro ds => exact k
    | bk => exact k
    | ct => exact k
/-! stores -/
def sSet (i : Nat) (m : Mo Dt) : Mo Fl := bindM m fun d ρ => .ok .nx (ρ.set i (.va d))
def sSetF (i : Nat) (m : Mo (List Dt)) : Mo Fl := bindM m fun ds ρ => .ok .nx (ρ.set i (.ml ds))
theorem asg (h : PS X st (tAsg te (gName i))) (k : ∀ σ H Q, lift RE c n W m σ H Q → te σ H Q) : KS X c W st (sSet i m) := psImp h fun D σ H ⟨ρ, F, h, q⟩ => by
  refine k σ H _ ⟨ρ, F, h, ?_⟩
  unfold sSet bindM at q
  cases hm : m ρ with
  | no => rw [hm] at q; exact q.elim
  | er x ρ1 => rw [hm] at q; exact LxS.lx q
  | ok d ρ1 =>
    rw [hm] at q
    exact fun v F' H' s _ h' r => q _ F' H' s (h'.setva r)
theorem asgF (h : PS X st (tAsg te (gName i))) (k : ∀ σ H Q, liftF c n W mf σ H Q → te σ H Q) : KS X c W st (sSetF i mf) := psImp h fun D σ H ⟨ρ, F, h, q⟩ => by
  refine k σ H _ ⟨ρ, F, h, ?_⟩
  unfold sSetF bindM at q
  cases hm : mf ρ with
  | no => rw [hm] at q; exact q.elim
  | er x ρ1 => rw [hm] at q; exact LxS.lx q
  | ok ds ρ1 =>
    rw [hm] at q
    exact fun p vs F' H' s _ h' f0 h0 fr hp r => q _ F' H' s (h'.setown (s := .ml ds) rfl fr ⟨p, vs, rfl, f0, h0, hp, r⟩)
theorem s_set {x : Str} {pos' : Pos} (hN : X.N.Nodup) (hi : X.N[i]? = some x) (hx : Loc X.env.scope x) (he : KE X c n W e m) (hs : swapsWith e (some (.Name x pos')) pos.line X.env = pure false := by rfl) (hf : X.fn x = true ∨ X.env.scope.names.lookup x = some .local := by first | exact .inl rfl | exact .inr rfl | assumption) :
    KS X c W (.Assign [.Name x pos'] e pos) (sSet i m) := asg (ps_set hN hi hx he hs hf) fun _ _ _ h => h
theorem s_setF {x : Str} {pos' : Pos} (hN : X.N.Nodup) (hi : X.N[i]? = some x) (hx : Loc X.env.scope x) (he : KF X c n W e mf) (hs : swapsWith e (some (.Name x pos')) pos.line X.env = pure false := by rfl) (hf : X.fn x = true ∨ X.env.scope.names.lookup x = some .local := by first | exact .inl rfl | exact .inr rfl | assumption) :
    KS X c W (.Assign [.Name x pos'] e pos) (sSetF i mf) := asgF (ps_set hN hi hx he hs hf) fun _ _ _ h => h
def sDrop (m : Mo Dt) : Mo Fl := bindM m fun _ ρ => .ok .nx ρ
theorem s_expr (he : KE X c n W e m) (hs : swapsWith e none pos.line X.env = pure false := by rfl) : KS X c W (.Expr e pos) (sDrop m) := psImp (ps_expr he hs) fun D σ H ⟨ρ, F, h, q⟩ => by
  refine ⟨ρ, F, h, ?_⟩
  unfold sDrop bindM at q
  cases hm : m ρ with
  | no => rw [hm] at q; exact q.elim
  | er x ρ1 => rw [hm] at q; exact LxS.lx q
  | ok d ρ1 =>
    rw [hm] at q
    exact fun v F' H' s _ h' r => q σ F' H' s h'
def sRet (m : Mo Dt) : Mo Fl := bindM m fun d ρ => .ok (.rt d) ρ
def sRetF (m : Mo (List Dt)) : Mo Fl := bindM m fun d ρ => .ok (.ro d) ρ
theorem s_ret (he : KE X c n W e m) : KS X c W (.Return (some e) pos) (sRet m) := psImp (ps_ret he) fun D σ H ⟨ρ, F, h, q⟩ => by
  refine ⟨ρ, F, h, ?_⟩
  unfold sRet bindM at q
  cases hm : m ρ with
  | no => rw [hm] at q; exact q.elim
  | er x ρ1 => rw [hm] at q; exact LxS.lx q
  | ok d ρ1 =>
    rw [hm] at q
    exact fun v F' H' s _ h' r => q v σ F' H' s h' r
theorem s_retF (he : KF X c n W e mf) : KS X c W (.Return (some e) pos) (sRetF mf) := psImp (ps_ret he) fun D σ H ⟨ρ, F, h, q⟩ => by
  refine ⟨ρ, F, h, ?_⟩
  unfold sRetF bindM at q
  cases hm : mf ρ with
  | no => rw [hm] at q; exact q.elim
  | er x ρ1 => rw [hm] at q; exact LxS.lx q
  | ok d ρ1 =>
    rw [hm] at q
    exact fun p vs F' H' s _ h' f0 h0 fr hp r => q p vs σ F' H' s h' f0 h0 hp r
theorem s_retN : KS X c W (.Return none pos) (fun ρ => .ok (.rt .none) ρ) := psImp ps_retN fun D σ H ⟨ρ, F, h, q⟩ => q .non σ F H (Same.refl _) h .non
/-- .. of what may be fresh or not -/
def sSetV (i : Nat) (m : Mo Vl) : Mo Fl := bindM m fun x ρ => match x with
  | .z d => .ok .nx (ρ.set i (.va d))
  | .f ds => .ok .nx (ρ.set i (.ml ds))
def sRetV (m : Mo Vl) : Mo Fl := bindM m fun x ρ => match x with
  | .z d => .ok (.rt d) ρ
  | .f ds => .ok (.ro ds) ρ
theorem s_setV {x : Str} {pos' : Pos} {mv : Mo Vl} (hN : X.N.Nodup) (hi : X.N[i]? = some x) (hx : Loc X.env.scope x) (he : KV X c n W e mv) (hs : swapsWith e (some (.Name x pos')) pos.line X.env = pure false := by rfl) (hf : X.fn x = true ∨ X.env.scope.names.lookup x = some .local := by first | exact .inl rfl | exact .inr rfl | assumption) :
    KS X c W (.Assign [.Name x pos'] e pos) (sSetV i mv) := psImp (ps_set hN hi hx he hs hf) fun D σ H ⟨ρ, F, h, q⟩ => by
  refine ⟨ρ, F, h, ?_⟩
  unfold sSetV bindM at q
  cases hm : mv ρ with
  | no => rw [hm] at q; exact q.elim
  | er x ρ1 => rw [hm] at q; exact LxS.lx q
  | ok y ρ1 =>
    rw [hm] at q
    cases y with
    | z d => exact fun v F' H' s _ h' r => q _ F' H' s (h'.setva r)
    | f ds => exact fun p vs F' H' s _ h' f0 h0 fr hp r => q _ F' H' s (h'.setown (s := .ml ds) rfl fr ⟨p, vs, rfl, f0, h0, hp, r⟩)
theorem s_retV {mv : Mo Vl} (he : KV X c n W e mv) : KS X c W (.Return (some e) pos) (sRetV mv) := psImp (ps_ret he) fun D σ H ⟨ρ, F, h, q⟩ => by
  refine ⟨ρ, F, h, ?_⟩
  unfold sRetV bindM at q
  cases hm : mv ρ with
  | no => rw [hm] at q; exact q.elim
  | er x ρ1 => rw [hm] at q; exact LxS.lx q
  | ok y ρ1 =>
    rw [hm] at q
    cases y with
    | z d => exact fun v F' H' s _ h' r => q v σ F' H' s h' r
    | f ds => exact fun p vs F' H' s _ h' f0 h0 fr hp r => q p vs σ F' H' s h' f0 h0 hp r
/-- a slot is forgotten -/
theorem Holds.forget {ρ : Rho} {F H : Hp} {σ : St} (h : Holds c ρ F σ H) (i : Nat) : Holds c (ρ.set i .un) F σ H := by
  have back : ∀ (j : Nat) t, (ρ.set i .un)[j]? = some t → t = .un ∨ ρ[j]? = some t := fun j t q => by
    by_cases z : i = j
    · subst z
      have hl : i < ρ.length := by
        have := (List.getElem?_eq_some_iff.mp q).1
        simpa using this
      rw [List.getElem?_set_self hl] at q
      cases q
      exact .inl rfl
    · rw [List.getElem?_set_ne z] at q; exact .inr q
  refine ⟨h.base, h.f0, h.sub, h.new, by simp [h.len], fun j t q => ?_, fun j k t u a q1 q2 w1 w2 s1 s2 => ?_⟩
  · rcases back j t q with rfl | q
    · trivial
    · exact h.sl j t q
  · rcases back j t q1 with rfl | q1
    · cases w1
    · rcases back k u q2 with rfl | q2
      · cases w2
      · exact h.ap j k t u a q1 q2 w1 w2 s1 s2
/-- return of an own list: the caller's from now on -/
def sRetO (i : Nat) : Mo Fl := fun ρ => match ρ[i]? with
  | some (.ml ds) => .ok (.ro ds) (ρ.set i .un)
  | some (.va d) => .ok (.rt d) ρ
  | _ => .no
theorem s_retO (he : PE X e (tVar i)) : KS X c W (.Return (some e) pos) (sRetO i) := psImp (ps_ret he) fun D σ H ⟨ρ, F, h, q⟩ => by
  unfold sRetO at q
  cases hr : ρ[i]? with
  | none => rw [hr] at q; exact q.elim
  | some s =>
    rw [hr] at q
    cases s with
    | va d =>
      obtain ⟨v, e1, e2⟩ := h.sl i _ hr
      exact ⟨v, e1, q v σ F H (Same.refl _) h e2⟩
    | ml ds =>
      obtain ⟨a, vs, e1, e2, e3, e4, e5⟩ := h.sl i _ hr
      exact ⟨_, e1, q a vs σ F H (Same.refl _) (h.forget i) e2 e3 e4 e5⟩
    | un => exact q.elim
    | md kvs => exact q.elim
/-! if -/
def sIf (t : Mo Bool) (m1 m2 : Mo Fl) : Mo Fl := bindM t fun b => if b = true then m1 else m2
theorem s_if {t : Expr} {mt : Mo Bool} {as bs : List Stmt} (ht : KT X c n W t mt) (ha : KSs X c W as m1) (hb : KSs X c W bs m2) : KS X c W (.If t as bs pos) (sIf mt m1 m2) := psImp (ps_if ht ha hb) fun D σ H ⟨ρ, F, h, q⟩ => by
  refine ⟨ρ, F, h, ?_⟩
  unfold sIf bindM at q
  cases hm : mt ρ with
  | no => rw [hm] at q; exact q.elim
  | er x ρ1 => rw [hm] at q; exact LxS.lx q
  | ok b ρ1 =>
    rw [hm] at q
    intro F' H' s _ h'
    cases b with
    | true => rw [if_pos rfl]; exact ⟨ρ1, F', h', Res.later (by simpa using q) s⟩
    | false => rw [if_neg Bool.false_ne_true]; exact ⟨ρ1, F', h', Res.later (by simpa using q) s⟩

/-! ### own lists are changed -/
def sAppend (i : Nat) (m : Mo Dt) : Mo Fl := fun ρ => match ρ[i]? with
  | some (.ml _) => bindM m (fun d ρ1 => match ρ1[i]? with
    | some (.ml ds) => if ds.length < sizeLine then .ok .nx (ρ1.set i (.ml (ds ++ [d]))) else .no
    | _ => .no) ρ
  | _ => .no
theorem s_append {o : Expr} {apos cpos : Pos} (ho : PE X o (tVar i)) (ha : KA X c n W [e] (eCons m eNil)) (hK : X.K = c.K) (hs : swapsWith (.Call (.Attribute o "append" apos) [e] [] cpos) none pos.line X.env = pure false := by rfl)
    (h1 : attributeBase o "append" X.env (eval o X.env) = eval o X.env := by rfl) (h3 : (apos.endLine == cpos.line) = true := by rfl)
    (h4 : starEach (e :: []) X.env = (false, eval e X.env) :: starEach [] X.env := by rfl) (h2 : (((((backTo cpos (starEach (e :: []) X.env)).all fun x => !x.fst) && (backToKw cpos (keywordEach [] X.env)).all fun x => x.fst.isSome) && decide (((e :: []).length + ([] : List Keyword).length + if ([] : List Keyword).isEmpty = true then 0 else 1) < 30)) = true) := by rfl)
    (h5 : ((backTo cpos (starEach [] X.env)).any fun x => x.fst) = false := by rfl) : KS X c W (.Expr (.Call (.Attribute o "append" apos) [e] [] cpos) pos) (sAppend i m) :=
  psImp (ps_expr (pe_bm PySem.F.plainAttrs_list PySem.F.slot_list_append PySem.F.type_list_append mt_append ho ha h1 h2 h3 h4 h5) hs) fun D σ H ⟨ρ, F, h, q⟩ => by
    unfold sAppend bindM at q
    cases hr : ρ[i]? with
    | none => rw [hr] at q; exact q.elim
    | some s =>
      rw [hr] at q
      cases s with
      | ml ds0 =>
        obtain ⟨a, vs0, e1, e2, e3, e4, e5⟩ := h.sl i _ hr
        refine ⟨_, e1, .inl ⟨rfl, vs0, SqL.of e4⟩, ρ, F, h, ?_⟩
        unfold eCons eNil bindM
        cases hm : m ρ with
        | no => simp only [hm] at q; exact q.elim
        | er x ρ1 => simp only [hm] at q ⊢; exact LxS.lx q
        | ok d ρ1 =>
          simp only [hm] at q ⊢
          intro vs F1 H1 s1 _ h1 r1
          cases r1 with
          | cons rd rn =>
            cases rn
            cases hr1 : ρ1[i]? with
            | none => rw [hr1] at q; exact q.elim
            | some s1 =>
              rw [hr1] at q
              cases s1 with
              | ml ds =>
                obtain ⟨a', vs, e1', e2', e3', e4', e5'⟩ := h1.sl i _ hr1
                rw [e1] at e1'
                cases e1'
                simp only at q
                by_cases hz : ds.length < sizeLine
                · rw [if_pos hz] at q
                  refine ⟨a, vs, _, rfl, rfl, e4', by rw [e5'.len]; exact hz, ?_⟩
                  refine q σ F1 _ (by assumption) (h1.write (i := i) hr1 rfl (s' := .ml (ds ++ [d])) rfl e1 ⟨a, _, rfl, e2', e3', upd_same, e5'.app (.cons rd .nil)⟩)
                · rw [if_neg hz] at q; exact q.elim
              | _ => exact q.elim
      | _ => exact q.elim
/-- name.extend(list) -/
def sExtend (i : Nat) (m : Mo Dt) : Mo Fl := fun ρ => match ρ[i]? with
  | some (.ml _) => bindM m (fun d ρ1 => match ρ1[i]? with
    | some (.ml ds) => match d with
      | .list es => if ds.length + es.length ≤ sizeLine then .ok .nx (ρ1.set i (.ml (ds ++ es))) else .no
      | _ => .no
    | _ => .no) ρ
  | _ => .no
theorem s_extend {o : Expr} {apos cpos : Pos} (ho : PE X o (tVar i)) (ha : KA X c n W [e] (eCons m eNil)) (hK : X.K = c.K) (hs : swapsWith (.Call (.Attribute o "extend" apos) [e] [] cpos) none pos.line X.env = pure false := by rfl)
    (h1 : attributeBase o "extend" X.env (eval o X.env) = eval o X.env := by rfl) (h3 : (apos.endLine == cpos.line) = true := by rfl)
    (h4 : starEach (e :: []) X.env = (false, eval e X.env) :: starEach [] X.env := by rfl) (h2 : (((((backTo cpos (starEach (e :: []) X.env)).all fun x => !x.fst) && (backToKw cpos (keywordEach [] X.env)).all fun x => x.fst.isSome) && decide (((e :: []).length + ([] : List Keyword).length + if ([] : List Keyword).isEmpty = true then 0 else 1) < 30)) = true) := by rfl)
    (h5 : ((backTo cpos (starEach [] X.env)).any fun x => x.fst) = false := by rfl) : KS X c W (.Expr (.Call (.Attribute o "extend" apos) [e] [] cpos) pos) (sExtend i m) :=
  psImp (ps_expr (pe_bm PySem.F.plainAttrs_list PySem.F.slot_list_extend PySem.F.type_list_extend mt_extend ho ha h1 h2 h3 h4 h5) hs) fun D σ H ⟨ρ, F, h, q⟩ => by
    unfold sExtend bindM at q
    cases hr : ρ[i]? with
    | none => rw [hr] at q; exact q.elim
    | some s =>
      rw [hr] at q
      cases s with
      | ml ds0 =>
        obtain ⟨a, vs0, e1, e2, e3, e4, e5⟩ := h.sl i _ hr
        refine ⟨_, e1, .inl ⟨rfl, vs0, SqL.of e4⟩, ρ, F, h, ?_⟩
        unfold eCons eNil bindM
        cases hm : m ρ with
        | no => simp only [hm] at q; exact q.elim
        | er x ρ1 => simp only [hm] at q ⊢; exact LxS.lx q
        | ok d ρ1 =>
          simp only [hm] at q ⊢
          intro vs F1 H1 s1 _ h1 r1
          cases r1 with
          | cons rd rn =>
            cases rn
            cases hr1 : ρ1[i]? with
            | none => rw [hr1] at q; exact q.elim
            | some s1 =>
              rw [hr1] at q
              cases s1 with
              | ml ds =>
                obtain ⟨a', vs, e1', e2', e3', e4', e5'⟩ := h1.sl i _ hr1
                rw [e1] at e1'
                cases e1'
                simp only at q
                cases d with
                | list es =>
                  cases rd with
                  | lst eb rb =>
                    simp only at q
                    by_cases hz : ds.length + es.length ≤ sizeLine
                    · rw [if_pos hz] at q
                      refine ⟨a, _, vs, _, rfl, rfl, e4', h1.sub _ _ eb, by rw [e5'.len, rb.len]; exact hz, ?_⟩
                      exact q σ F1 _ (by assumption) (h1.write (i := i) hr1 rfl (s' := .ml (ds ++ es)) rfl e1 ⟨a, _, rfl, e2', e3', upd_same, e5'.app rb⟩)
                    · rw [if_neg hz] at q; exact q.elim
                | _ => exact q.elim
              | _ => exact q.elim
      | _ => exact q.elim
/-- an item of an own list is stored: name[i] = e -/
def sSetIx (i : Nat) (mk me : Mo Dt) : Mo Fl := bindM me fun d ρ1 => match ρ1[i]? with
  | some (.ml ds) => bindM mk (fun k ρ2 => match k with
    | .int z => match ixN ds.length z with
      | some j => .ok .nx (ρ2.set i (.ml (ds.set j d)))
      | none => .no
    | _ => .no) ρ1
  | _ => .no
theorem s_setIx {o ix : Expr} {tpos : Pos} {mk : Mo Dt} (ho : PE X o (tVar i)) (hi : KE X c True W ix mk) (he : KE X c n W e me) (ha : ∀ v, assign (.Subscript o ix tpos) X.env v = (do
      let ov ← holding [v] (eval o X.env)
      let iv ← holding [v, ov] (eval ix X.env)
      standAt tpos
      holding [v, ov, iv] (setItem ov iv v)
      release [v, ov, iv] []) := by intro _; rfl)
    (hs : swapsWithSole [.Subscript o ix tpos] e pos.line X.env = pure false := by rfl) (hw : swappedStores [.Subscript o ix tpos] e X.env = pure none := by rfl) (h1 : (assignEach [.Subscript o ix tpos] X.env).map (·.2) = [assign (.Subscript o ix tpos) X.env] := by rfl) :
    KS X c W (.Assign [.Subscript o ix tpos] e pos) (sSetIx i mk me) := psImp (ps_asg he (pg_sub ho hi set_list ha) hs hw h1) fun D σ H ⟨ρ, F, h, q⟩ => by
  refine ⟨ρ, F, h, ?_⟩
  unfold sSetIx bindM at q
  cases hm : me ρ with
  | no => simp only [hm] at q; exact q.elim
  | er x ρ1 => simp only [hm] at q ⊢; exact LxS.lx q
  | ok d ρ1 =>
    simp only [hm] at q ⊢
    intro v F1 H1 s1 _ h1 r1
    cases hr : ρ1[i]? with
    | none => simp only [hr] at q; exact q.elim
    | some s =>
      simp only [hr] at q
      cases s with
      | ml ds =>
        obtain ⟨a, vs, e1, e2, e3, e4, e5⟩ := h1.sl i _ hr
        refine ⟨_, e1, ρ1, F1, h1, ?_⟩
        simp only at q
        cases hk : mk ρ1 with
        | no => simp only [hk] at q; exact q.elim
        | er x ρ2 => simp only [hk] at q ⊢; exact LxS.lx (LxS.later q s1)
        | ok k ρ2 =>
          simp only [hk] at q ⊢
          intro w F2 H2 s2 n2 h2 r2
          have g2 := n2 trivial
          obtain rfl := g2.e
          cases k with
          | int z =>
            cases r2
            simp only at q
            cases hj : ixN ds.length z with
            | none => simp only [hj] at q; exact q.elim
            | some j =>
              simp only [hj] at q
              refine ⟨a, vs, z, j, rfl, rfl, g2.sH _ _ e4, by rw [e5.len]; exact hj, ?_⟩
              have e5' := rpaMono s2 e5
              have e2' : F2 a = none := by
                obtain ⟨a', vs', q1, q2, _⟩ := h2.sl i _ hr
                rw [e1] at q1; cases q1; exact q2
              exact q σ F2 _ (s1.trans s2) (h2.write (i := i) hr rfl (s' := .ml (ds.set j d)) rfl e1 ⟨a, _, rfl, e2', e3, upd_same, RpA.set (rpMono s2 r1) j e5'⟩)
          | _ => exact q.elim
      | _ => exact q.elim
/-- name.pop(i) as a value -/
def ePop (i : Nat) (mk : Mo Dt) : Mo Dt := fun ρ => match ρ[i]? with
  | some (.ml ds) => bindM mk (fun k ρ1 => match k with
    | .int z => if -(2 ^ 63) ≤ z ∧ z < 2 ^ 63 then (match seqIndex? z ds.length with
      | some j => match ds[j]? with
        | some d => .ok d (ρ1.set i (.ml (ds.eraseIdx j)))
        | none => .no
      | none => .no) else .no
    | _ => .no) ρ
  | _ => .no
theorem k_pop {o : Expr} {apos cpos : Pos} {mk : Mo Dt} (ho : PE X o (tVar i)) (ha : KA X c True W [e] (eCons mk eNil)) 
    (h1 : attributeBase o "pop" X.env (eval o X.env) = eval o X.env := by rfl) (h3 : (apos.endLine == cpos.line) = true := by rfl)
    (h4 : starEach (e :: []) X.env = (false, eval e X.env) :: starEach [] X.env := by rfl) (h2 : (((((backTo cpos (starEach (e :: []) X.env)).all fun x => !x.fst) && (backToKw cpos (keywordEach [] X.env)).all fun x => x.fst.isSome) && decide (((e :: []).length + ([] : List Keyword).length + if ([] : List Keyword).isEmpty = true then 0 else 1) < 30)) = true) := by rfl)
    (h5 : ((backTo cpos (starEach [] X.env)).any fun x => x.fst) = false := by rfl) : KE X c False W (.Call (.Attribute o "pop" apos) [e] [] cpos) (ePop i mk) :=
  peImp (pe_bm PySem.F.plainAttrs_list PySem.F.slot_list_pop PySem.F.type_list_pop mt_popAt ho ha h1 h2 h3 h4 h5) fun σ H Q ⟨ρ, F, h, q⟩ => by
    unfold ePop bindM at q
    cases hr : ρ[i]? with
    | none => simp only [hr] at q
    | some s =>
      simp only [hr] at q
      cases s with
      | ml ds =>
        obtain ⟨a, vs0, e1, e2, e3, e4, e5⟩ := h.sl i _ hr
        refine ⟨_, e1, .inl ⟨rfl, vs0, SqL.of e4⟩, ρ, F, h, ?_⟩
        unfold eCons eNil bindM
        simp only at q
        cases hm : mk ρ with
        | no => simp only [hm] at q
        | er x ρ1 => simp only [hm] at q ⊢; exact q
        | ok k ρ1 =>
          simp only [hm] at q ⊢
          intro vs F1 H1 s1 n1 h1 r1
          have g1 := n1 trivial
          obtain rfl := g1.e
          cases r1 with
          | cons rd rn =>
            cases rn
            cases k with
            | int z =>
              cases rd
              simp only at q
              by_cases hz : -(2 ^ 63) ≤ z ∧ z < 2 ^ 63
              · rw [if_pos hz] at q
                cases hj : seqIndex? z ds.length with
                | none => simp only [hj] at q
                | some j =>
                  simp only [hj] at q
                  cases hd : ds[j]? with
                  | none => simp only [hd] at q
                  | some d =>
                    simp only [hd] at q
                    obtain ⟨w, hw, rw'⟩ := e5.get hd
                    refine ⟨a, vs0, z, j, w, rfl, rfl, g1.sH _ _ e4, hz.1, hz.2, by rw [e5.len]; exact hj, hw, ?_⟩
                    have e2' : F1 a = none := by
                      obtain ⟨a', vs', q1, q2, _⟩ := h1.sl i _ hr
                      rw [e1] at q1; cases q1; exact q2
                    exact q w F1 _ s1 (fun z => z.elim) (h1.write (i := i) hr rfl (s' := .ml (ds.eraseIdx j)) rfl e1 ⟨a, _, rfl, e2', e3, upd_same, RpA.erase j (rpaMono s1 e5)⟩) (rpMono s1 rw')
              · rw [if_neg hz] at q; exact q.elim
            | _ => exact q.elim
      | _ => exact q.elim
end
end DL

set_option Elab.async false
set_option linter.all false
set_option maxRecDepth 100000
namespace DL
open PySem PySem.Spec L2
open PyProof.Rows hiding St

/-! ### two names at once, targets -/
section
variable {X : Cx} {c : Cd} {n : Prop} {W : WX} {ms : Mo (List Dt)} {m : Mo Dt} {i j : Nat}
def sPar (i j : Nat) (ms : Mo (List Dt)) : Mo Fl := bindM ms fun ds ρ => match ds with
  | [d, e] => .ok .nx ((ρ.set i (.va d)).set j (.va e))
  | _ => .no
theorem s_par {x y : Str} {a b : Expr} {px py pt pos : Pos} {kt k2 pt2} (hc : X.calm = true) (hN : X.N.Nodup) (hi : X.N[i]? = some x) (hj : X.N[j]? = some y) (hij : i ≠ j)
    (hx : X.env.scope.names.lookup x = some .local) (hy : X.env.scope.names.lookup y = some .local) (ha : KA X c n W [a, b] ms)
    (hw : swappedStores [.Tuple [.Name x px, .Name y py] kt pt] (.Tuple [a, b] k2 pt2) X.env = pure (some [x, y]))
    (hs : swapsWithSole [.Tuple [.Name x px, .Name y py] kt pt] (.Tuple [a, b] k2 pt2) pos.line X.env = pure false := by rfl) :
    KS X c W (.Assign [.Tuple [.Name x px, .Name y py] kt pt] (.Tuple [a, b] k2 pt2) pos) (sPar i j ms) := psImp (ps_par hc hN hi hj hij hx hy ha hw hs) fun D σ H ⟨ρ, F, h, q⟩ => by
  refine ⟨ρ, F, h, ?_⟩
  unfold sPar bindM at q
  cases hm : ms ρ with
  | no => simp only [hm] at q; exact q.elim
  | er x ρ1 => simp only [hm] at q ⊢; exact LxS.lx q
  | ok ds ρ1 =>
    simp only [hm] at q ⊢
    intro vs F1 H1 s1 _ h1 r1
    cases r1 with
    | nil => exact q.elim
    | cons r t =>
      cases t with
      | nil => exact q.elim
      | cons r' t' =>
        cases t' with
        | nil => exact ⟨_, _, rfl, q _ F1 H1 s1 ((h1.setva r).setva r')⟩
        | cons _ _ => exact q.elim

/-! a target: what a value does to the slots -/
def SemG (c : Cd) (g : TG) (is : List Nat) (T : Dt → Rho → Option Rho) : Prop := ∀ ρ F σ H v d ρ' (Q : St → Hp → Prop), Holds c ρ F σ H → Rp c.K F v d → T d ρ = some ρ' →
  (∀ σ', Holds c ρ' F σ' H → (∀ vs : List Nat, (∀ k ∈ is, k ∈ vs) → wipe σ' vs = wipe σ vs) → Q σ' H) → g v σ H Q
def tgN (i : Nat) : Dt → Rho → Option Rho := fun d ρ => some (ρ.set i (.va d))
def tgL : List Nat → List Dt → Rho → Option Rho
  | [], [], ρ => some ρ
  | i :: is, d :: ds, ρ => tgL is ds (ρ.set i (.va d))
  | _, _, _ => none
def tgT (is : List Nat) : Dt → Rho → Option Rho := fun d ρ => match d with
  | .tuple ds => tgL is ds ρ
  | _ => none
theorem wipe_set {σ : St} {i : Nat} {x : Option V} : ∀ {vs : List Nat}, i ∈ vs → wipe (σ.set i x) vs = wipe σ vs
  | v :: vs, h => by
    by_cases hv : i ∈ vs
    · show (wipe (σ.set i x) vs).set v none = (wipe σ vs).set v none
      rw [wipe_set hv]
    · have e : v = i := ((List.mem_cons.mp h).resolve_right hv).symm
      subst e
      have out : ∀ {ws : List Nat}, v ∉ ws → wipe (σ.set v x) ws = (wipe σ ws).set v x := by
        intro ws
        induction ws with
        | nil => intro _; rfl
        | cons w ws ih =>
          intro hn
          have h1 : v ≠ w := fun e => hn (e ▸ List.mem_cons_self)
          have h2 : v ∉ ws := fun e => hn (List.mem_cons_of_mem _ e)
          show (wipe (σ.set v x) ws).set w none = ((wipe σ ws).set w none).set v x
          rw [ih h2, List.set_comm _ _ h1]
      show (wipe (σ.set v x) vs).set v none = (wipe σ vs).set v none
      rw [out hv, List.set_set]
theorem wipe_idem (σ : St) : ∀ vs : List Nat, wipe (wipe σ vs) vs = wipe σ vs := fun vs => by
  have go : ∀ (ws : List Nat) (τ : St), (∀ k ∈ ws, k ∈ vs) → wipe (wipe τ ws) vs = wipe τ vs := by
    intro ws
    induction ws with
    | nil => intro τ _; rfl
    | cons w ws ih =>
      intro τ hs
      show wipe ((wipe τ ws).set w none) vs = _
      rw [wipe_set (hs w List.mem_cons_self)]
      exact ih τ fun k hk => hs k (List.mem_cons_of_mem _ hk)
  exact go vs σ fun k hk => hk
theorem sem_name : SemG c (gName i) [i] (tgN i) := by
  intro ρ F σ H v d ρ' Q h r e q
  cases e
  exact q _ (h.setva r) fun vs hv => wipe_set (hv i List.mem_cons_self)
def gNms : List Nat → TGs
  | [] => gNil
  | i :: is => gCons (gName i) (gNms is)
theorem gNms_ok : ∀ {is : List Nat} {ρ : Rho} {F : Hp} {σ : St} {H : Hp} {vs : List V} {ds : List Dt} {ρ' : Rho} {Q : St → Hp → Prop}, Holds c ρ F σ H → RpA c.K F vs ds → tgL is ds ρ = some ρ' →
    (∀ σ', Holds c ρ' F σ' H → (∀ vs : List Nat, (∀ k ∈ is, k ∈ vs) → wipe σ' vs = wipe σ vs) → Q σ' H) → gNms is vs σ H Q
  | [], _, _, _, _, _, _, _, _, h, .nil, e, q => by cases e; exact ⟨rfl, q _ h fun _ _ => rfl⟩
  | [], _, _, _, _, _, _, _, _, h, .cons _ _, e, q => by cases e
  | i :: is, _, _, _, _, _, _, _, _, h, .nil, e, q => by cases e
  | i :: is, _, _, _, _, _, _, _, _, h, .cons r t, e, q => ⟨_, _, rfl, gNms_ok (h.setva r) t e fun σ' h' hw => q σ' h' fun vs hv => by
      rw [hw vs fun k hk => hv k (List.mem_cons_of_mem _ hk)]
      exact wipe_set (hv i List.mem_cons_self)⟩
theorem tgL_len : ∀ {is : List Nat} {ds : List Dt} {ρ ρ' : Rho}, tgL is ds ρ = some ρ' → is.length = ds.length
  | [], [], _, _, _ => rfl
  | i :: is, d :: ds, ρ, ρ', h => by
    show is.length + 1 = ds.length + 1
    rw [tgL_len (is := is) (ds := ds) h]
  | [], _ :: _, _, _, h => by cases h
  | _ :: _, [], _, _, h => by cases h
theorem sem_tupG {is : List Nat} {k : Nat} (hk : is.length = k) : SemG c (gTup c.K k (gNms is)) is (tgT is) := by
  intro ρ F σ H v d ρ' Q h r e q
  unfold tgT at e
  cases d with
  | tuple ds =>
    cases r with
    | tup e1 t =>
      refine ⟨_, _, rfl, sameT h.sub e1, ?_, gNms_ok h t e q⟩
      rw [t.len, ← hk, tgL_len e]
  | _ => cases e
/-- target = e, by its target's word -/
def sTo (T : Dt → Rho → Option Rho) (m : Mo Dt) : Mo Fl := bindM m fun d ρ => match T d ρ with
  | some ρ' => .ok .nx ρ'
  | none => .no
theorem s_to {tg e : Expr} {g : TG} {is : List Nat} {T : Dt → Rho → Option Rho} {pos : Pos} (S : SemG c g is T) (he : KE X c n W e m) (hg : PG X tg g) (hs : swapsWithSole [tg] e pos.line X.env = pure false := by rfl) (hw : swappedStores [tg] e X.env = pure none := by rfl)
    (h1 : (assignEach [tg] X.env).map (·.2) = [assign tg X.env] := by rfl) : KS X c W (.Assign [tg] e pos) (sTo T m) := psImp (ps_asg he hg hs hw h1) fun D σ H ⟨ρ, F, h, q⟩ => by
  refine ⟨ρ, F, h, ?_⟩
  unfold sTo bindM at q
  cases hm : m ρ with
  | no => simp only [hm] at q; exact q.elim
  | er x ρ1 => simp only [hm] at q ⊢; exact LxS.lx q
  | ok d ρ1 =>
    simp only [hm] at q ⊢
    intro v F1 H1 s1 _ h1 r1
    cases hT : T d ρ1 with
    | none => simp only [hT] at q; exact q.elim
    | some ρ' =>
      simp only [hT] at q
      exact S ρ1 F1 σ H1 v d ρ' _ h1 r1 hT fun σ' h' _ => q σ' F1 H1 s1 h'
/-! name op= e -/
def SemIp (c : Cd) (t : TIp) (f : Dt → Dt → Option Dt) : Prop := ∀ ρ F σ H v u x y z Q, Holds c ρ F σ H → Rp c.K F v x → Rp c.K F u y → f x y = some z →
  (∀ w, Rp c.K F w z → Q w H) → t v u H Q
def sAug (i : Nat) (f : Dt → Dt → Option Dt) (m : Mo Dt) : Mo Fl := fun ρ => match ρ[i]? with
  | some (.va x) => bindM m (fun y ρ1 => match f x y with
    | some z => .ok .nx (ρ1.set i (.va z))
    | none => .no) ρ
  | _ => .no
theorem s_aug {x : Str} {e : Expr} {op : Operator} {ti : TIp} {f : Dt → Dt → Option Dt} {pos pos' : Pos} (S : SemIp c ti f) (hN : X.N.Nodup) (hi : X.N[i]? = some x) (hx : Loc X.env.scope x) (he : KE X c n W e m) (ho : PIp X op ti) (hf : X.fn x = true ∨ X.env.scope.names.lookup x = some .local := by first | exact .inl rfl | exact .inr rfl | assumption) :
    KS X c W (.AugAssign (.Name x pos') op e pos) (sAug i f m) := psImp (ps_aug hN hi hx he ho hf) fun D σ H ⟨ρ, F, h, q⟩ => by
  unfold sAug bindM at q
  cases hr : ρ[i]? with
  | none => simp only [hr] at q; exact q.elim
  | some s =>
    simp only [hr] at q
    cases s with
    | va x =>
      obtain ⟨v, e1, e2⟩ := h.sl i _ hr
      refine ⟨v, e1, ρ, F, h, ?_⟩
      simp only at q
      cases hm : m ρ with
      | no => simp only [hm] at q; exact q.elim
      | er x ρ1 => simp only [hm] at q ⊢; exact LxS.lx q
      | ok y ρ1 =>
        simp only [hm] at q ⊢
        intro u F1 H1 s1 _ h1 r1
        cases hf : f x y with
        | none => simp only [hf] at q; exact q.elim
        | some z =>
          simp only [hf] at q
          exact S ρ1 F1 σ H1 v u x y z _ h1 (rpMono s1 e2) r1 hf fun w rw' => q _ F1 H1 s1 (h1.setva rw')
    | _ => exact q.elim
def addI : Dt → Dt → Option Dt
  | .int i, .int j => some (.int (i + j))
  | _, _ => none
theorem sem_ipAdd : SemIp c (ipI fun i j => i + j) addI := by
  intro ρ F σ H v u x y z Q h rx ry hf q
  unfold addI at hf
  split at hf
  · cases hf; cases rx; cases ry; exact ⟨_, _, rfl, rfl, q _ (.int _)⟩
  · cases hf
theorem sem_ipSub : SemIp c (ipI fun i j => i - j) subD := by
  intro ρ F σ H v u x y z Q h rx ry hf q
  unfold subD at hf
  split at hf
  · cases hf; cases rx; cases ry; exact ⟨_, _, rfl, rfl, q _ (.int _)⟩
  · cases hf
end

/-! ### what a loop walks -/
structure JOk (c : Cd) (J : It) (F : Hp) (ds : List Dt) : Prop where
  go : ∀ i H, Same F H → i < ds.length → J.go i H
  stop : ∀ i H, Same F H → ds.length ≤ i → J.stop i H
  yld : ∀ i ρ F1 σ H x H', Same F F1 → Holds c ρ F1 σ H → i < ds.length → J.yld i H x H' → ∃ d F2, ds[i]? = some d ∧ Same F1 F2 ∧ Kept ρ F1 H ρ F2 H' ∧ Holds c ρ F2 σ H' ∧ Rp c.K F2 x d
def liftI (c : Cd) (n : Prop) (W : WX) (m : Mo (List Dt)) : TI := fun σ H R => ∃ ρ F, Holds c ρ F σ H ∧ match m ρ with
  | .ok ds ρ' => ∀ J F' H', Same F F' → (n → Kept ρ F H ρ' F' H') → Holds c ρ' F' σ H' → JOk c J F' ds → R J H'
  | .er x ρ' => Lx c W x ρ' F σ
  | .no => False
abbrev KI (X : Cx) (c : Cd) (n : Prop) (W : WX) (tg iter : Expr) (m : Mo (List Dt)) : Prop := PI X tg iter (liftI c n W m)
/-- the same, while what one holds oneself stays -/
structure JOkP (c : Cd) (J : It) (F H1 : Hp) (ds : List Dt) : Prop where
  go : ∀ i H, Same F H → Same H1 H → i < ds.length → J.go i H
  stop : ∀ i H, Same F H → Same H1 H → ds.length ≤ i → J.stop i H
  yld : ∀ i ρ F1 σ H x H', Same F F1 → Same H1 H → Holds c ρ F1 σ H → i < ds.length → J.yld i H x H' → ∃ d F2, ds[i]? = some d ∧ Same F1 F2 ∧ Kept ρ F1 H ρ F2 H' ∧ Holds c ρ F2 σ H' ∧ Rp c.K F2 x d
def liftIP (c : Cd) (n : Prop) (W : WX) (m : Mo (List Dt)) : TI := fun σ H R => ∃ ρ F, Holds c ρ F σ H ∧ match m ρ with
  | .ok ds ρ' => ∀ J F' H', Same F F' → (n → Kept ρ F H ρ' F' H') → Holds c ρ' F' σ H' → JOkP c J F' H' ds → R J H'
  | .er x ρ' => Lx c W x ρ' F σ
  | .no => False
abbrev KIP (X : Cx) (c : Cd) (n : Prop) (W : WX) (tg iter : Expr) (m : Mo (List Dt)) : Prop := PI X tg iter (liftIP c n W m)
theorem JOk.peek {c : Cd} {J : It} {F H1 : Hp} {ds : List Dt} (h : JOk c J F ds) : JOkP c J F H1 ds := ⟨fun i H s _ => h.go i H s, fun i H s _ => h.stop i H s, fun i ρ F1 σ H x H' s _ => h.yld i ρ F1 σ H x H' s⟩
theorem piImp {X : Cx} {tg e : Expr} {t t' : TI} (h : PI X tg e t) (k : ∀ σ H R, t' σ H R → t σ H R) : PI X tg e t' := ⟨fun pins s σ H R I q => h.run pins s σ H R I (k _ _ _ q)⟩
section
variable {X : Cx} {c : Cd} {n : Prop} {W : WX} {ms : Mo (List Dt)} {m : Mo Dt} {tg e : Expr}
theorem jok_list {a : Addr} {F : Hp} {vs : List V} {ds : List Dt} (h : F a = some (.lst vs)) (r : RpA c.K F vs ds) : JOk c (Itl c.K a) F ds where
  go := fun i H s hi => by
    obtain ⟨v, hv, _⟩ := r.get (List.getElem?_eq_getElem hi)
    exact ⟨vs, v, SqL.of (s _ _ h), hv⟩
  stop := fun i H s hi => ⟨vs, SqL.of (s _ _ h), by rw [r.len]; exact hi⟩
  yld := fun i ρ F1 σ H x H' s1 hh hi y => by
    obtain ⟨rfl, y⟩ := y
    have e := y vs (SqL.of ((s1.trans hh.sub) _ _ h))
    obtain ⟨d, hd, rd⟩ := r.getV e
    exact ⟨d, F1, hd, Same.refl _, Kept.refl, hh, rpMono s1 rd⟩
theorem jok_tup {a : Addr} {F : Hp} {vs : List V} {ds : List Dt} (h : SqT c.K F a vs) (r : RpA c.K F vs ds) : JOk c (Itt c.K a) F ds where
  go := fun i H s hi => by
    obtain ⟨v, hv, _⟩ := r.get (List.getElem?_eq_getElem hi)
    exact ⟨vs, v, sameT s h, hv⟩
  stop := fun i H s hi => ⟨vs, sameT s h, by rw [r.len]; exact hi⟩
  yld := fun i ρ F1 σ H x H' s1 hh hi y => by
    obtain ⟨rfl, y⟩ := y
    have e := y vs (sameT (s1.trans hh.sub) h)
    obtain ⟨d, hd, rd⟩ := r.getV e
    exact ⟨d, F1, hd, Same.refl _, Kept.refl, hh, rpMono s1 rd⟩
/-- lo, lo + 1, .. -/
def rgD (lo : Int) (k : Nat) : List Dt := (List.range k).map fun (i : Nat) => .int (lo + (i : Int))
theorem rgD_len (lo : Int) (k : Nat) : (rgD lo k).length = k := by simp [rgD]
theorem jok_range {lo : Int} {k : Nat} {F : Hp} : JOk c (Itr lo k) F (rgD lo k) where
  go := fun i H s hi => by rw [rgD_len] at hi; exact hi
  stop := fun i H s hi => by rw [rgD_len] at hi; exact hi
  yld := fun i ρ F1 σ H x H' s1 hh hi y => by
    obtain ⟨rfl, rfl⟩ := y
    rw [rgD_len] at hi
    exact ⟨.int (lo + (i : Int)), F1, by simp [rgD, hi], Same.refl _, Kept.refl, hh, .int _⟩
/-- the signs of a text -/
def signsD (x : Str) : List Dt := x.cps.toList.map fun k => .str ⟨#[k]⟩
theorem jok_str {x : Str} {F : Hp} : JOk c (Its x) F (signsD x) where
  go := fun i H s hi => by simp only [signsD, List.length_map, Array.length_toList] at hi; exact hi
  stop := fun i H s hi => by simp only [signsD, List.length_map, Array.length_toList] at hi; exact hi
  yld := fun i ρ F1 σ H v H' s1 hh hi y => by
    obtain ⟨rfl, k, hk, rfl⟩ := y
    refine ⟨.str ⟨#[k]⟩, F1, ?_, Same.refl _, Kept.refl, hh, .str _⟩
    simp [signsD, hk]
/-- over a list, a tuple, a text -/
def iSeq (m : Mo Dt) : Mo (List Dt) := bindM m fun x ρ => match x with
  | .list ds => .ok ds ρ
  | _ => .no
def iTupM (m : Mo Dt) : Mo (List Dt) := bindM m fun x ρ => match x with
  | .tuple ds => .ok ds ρ
  | _ => .no
def iStrM (m : Mo Dt) : Mo (List Dt) := bindM m fun x ρ => match x with
  | .str z => .ok (signsD z) ρ
  | _ => .no
theorem i_list (hK : X.K = c.K) (h : KE X c n W e m) : KI X c n W tg e (iSeq m) := piImp (pi_list h) fun σ H R ⟨ρ, F, h, q⟩ => by
  refine ⟨ρ, F, h, ?_⟩
  unfold iSeq bindM at q
  cases hm : m ρ with
  | no => simp only [hm] at q
  | er x ρ1 => simp only [hm] at q ⊢; exact q
  | ok d ρ1 =>
    simp only [hm] at q ⊢
    cases d with
    | list ds =>
      intro v F1 H1 s1 n1 h1 r1
      cases r1 with
      | lst e r => exact ⟨_, rfl, ⟨_, SqL.of (h1.sub _ _ e)⟩, by rw [hK]; exact q _ F1 H1 s1 n1 h1 (jok_list e r)⟩
    | _ => simp only at q
theorem i_tup (hK : X.K = c.K) (h : KE X c n W e m) : KI X c n W tg e (iTupM m) := piImp (pi_tup h) fun σ H R ⟨ρ, F, h, q⟩ => by
  refine ⟨ρ, F, h, ?_⟩
  unfold iTupM bindM at q
  cases hm : m ρ with
  | no => simp only [hm] at q
  | er x ρ1 => simp only [hm] at q ⊢; exact q
  | ok d ρ1 =>
    simp only [hm] at q ⊢
    cases d with
    | tuple ds =>
      intro v F1 H1 s1 n1 h1 r1
      cases r1 with
      | tup e r => exact ⟨_, rfl, ⟨_, by rw [hK]; exact sameT h1.sub e⟩, by rw [hK]; exact q _ F1 H1 s1 n1 h1 (jok_tup e r)⟩
    | _ => simp only at q
theorem i_str (h : KE X c n W e m) : KI X c n W tg e (iStrM m) := piImp (pi_str h) fun σ H R ⟨ρ, F, h, q⟩ => by
  refine ⟨ρ, F, h, ?_⟩
  unfold iStrM bindM at q
  cases hm : m ρ with
  | no => simp only [hm] at q
  | er x ρ1 => simp only [hm] at q ⊢; exact q
  | ok d ρ1 =>
    simp only [hm] at q ⊢
    cases d with
    | str z =>
      intro v F1 H1 s1 n1 h1 r1
      cases r1
      exact ⟨z, rfl, q _ F1 H1 s1 n1 h1 jok_str⟩
    | _ => simp only at q
/-- over a list, a tuple or a text, whatever it is -/
def iAny (m : Mo Dt) : Mo (List Dt) := bindM m fun x ρ => match x with
  | .list ds => .ok ds ρ
  | .tuple ds => .ok ds ρ
  | .str z => .ok (signsD z) ρ
  | _ => .no
theorem i_any (hK : X.K = c.K) (h : KE X c n W e m) : KI X c n W tg e (iAny m) := ⟨fun pins s σ H R I q => by
  obtain ⟨ρ, F, hh, q⟩ := id q
  unfold iAny bindM at q
  cases hm : m ρ with
  | no => simp only [hm] at q
  | er x ρ1 =>
    refine (i_list hK h).run pins s σ H R I ⟨ρ, F, hh, ?_⟩
    unfold iSeq bindM
    simp only [hm] at q ⊢
    exact q
  | ok d ρ1 =>
    cases d with
    | list ds =>
      refine (i_list hK h).run pins s σ H R I ⟨ρ, F, hh, ?_⟩
      unfold iSeq bindM
      simp only [hm] at q ⊢
      exact q
    | tuple ds =>
      refine (i_tup hK h).run pins s σ H R I ⟨ρ, F, hh, ?_⟩
      unfold iTupM bindM
      simp only [hm] at q ⊢
      exact q
    | str z =>
      refine (i_str h).run pins s σ H R I ⟨ρ, F, hh, ?_⟩
      unfold iStrM bindM
      simp only [hm] at q ⊢
      exact q
    | _ => simp only [hm] at q⟩
theorem ip_of {mi : Mo (List Dt)} (h : KI X c n W tg e mi) : KIP X c n W tg e mi := piImp h fun σ H R ⟨ρ, F, hh, q⟩ => by
  refine ⟨ρ, F, hh, ?_⟩
  cases hm : mi ρ with
  | no => simp only [hm] at q
  | er x ρ1 => simp only [hm] at q ⊢; exact q
  | ok ds ρ1 =>
    simp only [hm] at q ⊢
    exact fun J F' H' s hn h' j => q J F' H' s hn h' j.peek
/-- over an own list that stays meanwhile -/
theorem i_peek {i : Nat} (hK : X.K = c.K) (h : PE X e (tVar i)) : KIP X c n W tg e (iSeq (ePeek i)) := piImp (pi_list h) fun σ H R ⟨ρ, F, hh, q⟩ => by
  unfold iSeq ePeek bindM at q
  cases hr : ρ[i]? with
  | none => simp only [hr] at q
  | some s =>
    cases s with
    | va d =>
      simp only [hr] at q
      obtain ⟨v, e1, r1⟩ := hh.sl i _ hr
      cases d with
      | list ds =>
        cases r1 with
        | lst e r => exact ⟨_, e1, _, rfl, ⟨_, SqL.of (hh.sub _ _ e)⟩, by rw [hK]; exact q _ F H (Same.refl _) (fun _ => Kept.refl) hh (jok_list e r).peek⟩
      | _ => simp only at q
    | ml ds =>
      simp only [hr] at q
      obtain ⟨a, vs, e1, e2, e3, e4, r⟩ := hh.sl i _ hr
      refine ⟨_, e1, a, rfl, ⟨vs, SqL.of e4⟩, ?_⟩
      rw [hK]
      refine q _ F H (Same.refl _) (fun _ => Kept.refl) hh ⟨fun i H' s s' hi => ?_, fun i H' s s' hi => ⟨vs, SqL.of (s' _ _ e4), by rw [r.len]; exact hi⟩, fun i ρ F1 σ H2 x H' s1 s2 h2 hi y => ?_⟩
      · obtain ⟨v, hv, _⟩ := r.get (List.getElem?_eq_getElem hi)
        exact ⟨vs, v, SqL.of (s' _ _ e4), hv⟩
      · obtain ⟨rfl, y⟩ := y
        have ex := y vs (SqL.of (s2 _ _ e4))
        obtain ⟨d, hd, rd⟩ := r.getV ex
        exact ⟨d, F1, hd, Same.refl _, Kept.refl, h2, rpMono s1 rd⟩
    | _ => simp only [hr] at q
/-- range(j), range(i, j) -/
def small62 (j : Int) : Prop := -(2 ^ 62) ≤ j ∧ j < 2 ^ 62
instance {j : Int} : Decidable (small62 j) := by unfold small62; infer_instance
def rg1D : List Dt → Option (List Dt)
  | [.int j] => if small62 j then some (rgD 0 j.toNat) else none
  | _ => none
def rg2D : List Dt → Option (List Dt)
  | [.int i, .int j] => if small62 i ∧ small62 j then some (rgD i (j - i).toNat) else none
  | _ => none
theorem rg1D_some {ds zs : List Dt} (h : rg1D ds = some zs) : ∃ j, ds = [.int j] ∧ small62 j ∧ zs = rgD 0 j.toNat := by
  unfold rg1D at h
  split at h
  · rename_i j
    by_cases hj : small62 j
    · rw [if_pos hj] at h; cases h; exact ⟨j, rfl, hj, rfl⟩
    · rw [if_neg hj] at h; cases h
  · cases h
theorem rg2D_some {ds zs : List Dt} (h : rg2D ds = some zs) : ∃ i j, ds = [.int i, .int j] ∧ small62 i ∧ small62 j ∧ zs = rgD i (j - i).toNat := by
  unfold rg2D at h
  split at h
  · rename_i i j
    by_cases hj : small62 i ∧ small62 j
    · rw [if_pos hj] at h; cases h; exact ⟨i, j, rfl, hj.1, hj.2, rfl⟩
    · rw [if_neg hj] at h; cases h
  · cases h
theorem i_range1 {a : Expr} {p pos : Pos} (hg : Gl X "range") (hm : X.mg "range" = none) (ha : KA X c n W [a] ms) (hs : starEach [a] X.env = [(false, eval a X.env)] := by rfl) : KI X c n W tg (.Call (.Name "range" p) [a] [] pos) (eBF rg1D ms) := piImp (pi_range1 hg hm ha hs) fun σ H R ⟨ρ, F, h, q⟩ => by
  refine ⟨ρ, F, h, ?_⟩
  unfold eBF bindM at q
  cases hm : ms ρ with
  | no => simp only [hm] at q
  | er x ρ1 => simp only [hm] at q ⊢; exact q
  | ok ds ρ1 =>
    simp only [hm] at q ⊢
    intro vs F1 H1 s1 n1 h1 r1
    unfold ofO at q
    cases hz : rg1D ds with
    | none => simp only [hz] at q
    | some zs =>
      simp only [hz] at q
      obtain ⟨j, rfl, hj, rfl⟩ := rg1D_some hz
      cases r1 with
      | cons r t =>
        cases t
        cases r
        exact ⟨j, rfl, hj.1, hj.2, q _ F1 H1 s1 n1 h1 jok_range⟩
theorem i_range2 {a b : Expr} {p pos : Pos} (hg : Gl X "range") (hm : X.mg "range" = none) (ha : KA X c n W [a, b] ms) (hs : starEach [a, b] X.env = [(false, eval a X.env), (false, eval b X.env)] := by rfl) (hs2 : starEach [b] X.env = [(false, eval b X.env)] := by rfl) :
    KI X c n W tg (.Call (.Name "range" p) [a, b] [] pos) (eBF rg2D ms) := piImp (pi_range2 hg hm ha hs hs2) fun σ H R ⟨ρ, F, h, q⟩ => by
  refine ⟨ρ, F, h, ?_⟩
  unfold eBF bindM at q
  cases hm : ms ρ with
  | no => simp only [hm] at q
  | er x ρ1 => simp only [hm] at q ⊢; exact q
  | ok ds ρ1 =>
    simp only [hm] at q ⊢
    intro vs F1 H1 s1 n1 h1 r1
    unfold ofO at q
    cases hz : rg2D ds with
    | none => simp only [hz] at q
    | some zs =>
      simp only [hz] at q
      obtain ⟨i, j, rfl, hi, hj, rfl⟩ := rg2D_some hz
      cases r1 with
      | cons r t =>
        cases t with
        | cons r' t' =>
          cases t'
          cases r
          cases r'
          exact ⟨i, j, rfl, ⟨hi.1, hi.2, hj.1, hj.2⟩, q _ F1 H1 s1 n1 h1 jok_range⟩
/-- enumerate(list): each turn a new pair -/
def enD : Nat → List Dt → List Dt
  | _, [] => []
  | k, d :: ds => .tuple [.int k, d] :: enD (k + 1) ds
theorem enD_get : ∀ (ds : List Dt) (k i : Nat) (d : Dt), ds[i]? = some d → (enD k ds)[i]? = some (.tuple [.int ((k + i : Nat) : Int), d])
  | [], _, _, _, h => by simp at h
  | x :: ds, k, 0, d, h => by simp at h; subst h; simp [enD]
  | x :: ds, k, i + 1, d, h => by
    have q := enD_get ds (k + 1) i d (by simpa using h)
    rw [show k + 1 + i = k + (i + 1) by omega] at q
    simpa [enD] using q
theorem enD_len : ∀ (ds : List Dt) (k : Nat), (enD k ds).length = ds.length
  | [], _ => rfl
  | _ :: ds, k => by simp [enD, enD_len ds]
/-- zip of two lists -/
def zipD : List Dt → List Dt → List Dt
  | x :: xs, y :: ys => .tuple [x, y] :: zipD xs ys
  | _, _ => []
theorem zipD_get : ∀ (xs ys : List Dt) (i : Nat) (x y : Dt), xs[i]? = some x → ys[i]? = some y → (zipD xs ys)[i]? = some (.tuple [x, y])
  | [], _, _, _, _, h, _ => by simp at h
  | _ :: _, [], _, _, _, _, h => by simp at h
  | a :: xs, b :: ys, 0, x, y, h, h' => by simp at h h'; subst h; subst h'; simp [zipD]
  | a :: xs, b :: ys, i + 1, x, y, h, h' => by
    have q := zipD_get xs ys i x y (by simpa using h) (by simpa using h')
    simpa [zipD] using q
theorem zipD_len : ∀ (xs ys : List Dt), (zipD xs ys).length = min xs.length ys.length
  | [], _ => by simp [zipD]
  | _ :: _, [] => by simp [zipD]
  | _ :: xs, _ :: ys => by simp [zipD, zipD_len xs ys]
theorem jok_enum {a : Addr} {F : Hp} {vs : List V} {ds : List Dt} (h : F a = some (.lst vs)) (r : RpA c.K F vs ds) : JOk c (Ite c.K a) F (enD 0 ds) where
  go := fun i H s hi => by
    rw [enD_len] at hi
    obtain ⟨v, hv, _⟩ := r.get (List.getElem?_eq_getElem hi)
    exact ⟨vs, v, SqL.of (s _ _ h), hv⟩
  stop := fun i H s hi => ⟨vs, SqL.of (s _ _ h), by rw [enD_len] at hi; rw [r.len]; exact hi⟩
  yld := fun i ρ F1 σ H x H' s1 hh hi y => by
    obtain ⟨T, v, rfl, nT, rfl, y⟩ := y
    have e := y vs (SqL.of ((s1.trans hh.sub) _ _ h))
    obtain ⟨d, hd, rd⟩ := r.getV e
    have sF : Same F1 (upd F1 T (.tup [.int (i : Nat), v])) := same_upd (hh.fp nT)
    refine ⟨_, _, by have q := enD_get ds 0 i d hd; rw [Nat.zero_add] at q; exact q, sF, Kept.alloc nT, hh.alloc nT, .tup (SqT.of upd_same) (.cons (.int _) (.cons (rpMono (s1.trans sF) rd) .nil))⟩
def en1D : List Dt → Option (List Dt)
  | [.list ds] => some (enD 0 ds)
  | _ => none
theorem en1D_some {ds zs : List Dt} (h : en1D ds = some zs) : ∃ xs, ds = [.list xs] ∧ zs = enD 0 xs := by
  unfold en1D at h
  split at h
  · cases h; exact ⟨_, rfl, rfl⟩
  · cases h
theorem i_enum {a : Expr} {p pos tpos : Pos} {elts : List Expr} {kk : Nat} (hK : X.K = c.K) (hg : Gl X "enumerate") (hm : X.mg "enumerate" = none) (ha : KA X c n W [a] ms) (hs : starEach [a] X.env = [(false, eval a X.env)] := by rfl) :
    KI X c n W (.Tuple elts kk tpos) (.Call (.Name "enumerate" p) [a] [] pos) (eBF en1D ms) := piImp (pi_enum hg hm ha hs) fun σ H R ⟨ρ, F, h, q⟩ => by
  refine ⟨ρ, F, h, ?_⟩
  unfold eBF bindM at q
  cases hm : ms ρ with
  | no => simp only [hm] at q
  | er x ρ1 => simp only [hm] at q ⊢; exact q
  | ok ds ρ1 =>
    simp only [hm] at q ⊢
    intro vs F1 H1 s1 n1 h1 r1
    unfold ofO at q
    cases hz : en1D ds with
    | none => simp only [hz] at q
    | some zs =>
      simp only [hz] at q
      obtain ⟨xs, rfl, rfl⟩ := en1D_some hz
      cases r1 with
      | cons r t =>
        cases t
        cases r with
        | lst e r => exact ⟨_, _, rfl, SqL.of (h1.sub _ _ e), by rw [hK]; exact q _ F1 H1 s1 n1 h1 (jok_enum e r)⟩
theorem jok_zip {a b : Addr} {F : Hp} {vs ws : List V} {ds es : List Dt} (h : F a = some (.lst vs)) (r : RpA c.K F vs ds) (h' : F b = some (.lst ws)) (r' : RpA c.K F ws es) : JOk c (Itz c.K a b) F (zipD ds es) where
  go := fun i H s hi => by
    rw [zipD_len] at hi
    obtain ⟨v, hv, _⟩ := r.get (List.getElem?_eq_getElem (show i < ds.length by omega))
    obtain ⟨w, hw, _⟩ := r'.get (List.getElem?_eq_getElem (show i < es.length by omega))
    exact ⟨vs, ws, v, w, SqL.of (s _ _ h), SqL.of (s _ _ h'), hv, hw⟩
  stop := fun i H s hi => ⟨vs, ws, SqL.of (s _ _ h), SqL.of (s _ _ h'), by rw [zipD_len] at hi; rw [r.len, r'.len]; omega⟩
  yld := fun i ρ F1 σ H x H' s1 hh hi y => by
    obtain ⟨T, v, w, rfl, nT, rfl, y, y'⟩ := y
    have e := y vs (SqL.of ((s1.trans hh.sub) _ _ h))
    have e' := y' ws (SqL.of ((s1.trans hh.sub) _ _ h'))
    obtain ⟨d, hd, rd⟩ := r.getV e
    obtain ⟨d', hd', rd'⟩ := r'.getV e'
    have sF : Same F1 (upd F1 T (.tup [v, w])) := same_upd (hh.fp nT)
    refine ⟨_, _, zipD_get ds es i d d' hd hd', sF, Kept.alloc nT, hh.alloc nT, .tup (SqT.of upd_same) (.cons (rpMono (s1.trans sF) rd) (.cons (rpMono (s1.trans sF) rd') .nil))⟩
def zip2D : List Dt → Option (List Dt)
  | [.list ds, .list es] => some (zipD ds es)
  | _ => none
theorem zip2D_some {ds zs : List Dt} (h : zip2D ds = some zs) : ∃ xs ys, ds = [.list xs, .list ys] ∧ zs = zipD xs ys := by
  unfold zip2D at h
  split at h
  · cases h; exact ⟨_, _, rfl, rfl⟩
  · cases h
theorem i_zip {a b : Expr} {p pos tpos : Pos} {elts : List Expr} {kk : Nat} (hK : X.K = c.K) (hg : Gl X "zip") (hm : X.mg "zip" = none) (ha : KA X c n W [a, b] ms) (hs : starEach [a, b] X.env = (false, eval a X.env) :: starEach [b] X.env := by rfl) (hpl : (backTo pos (starEach [b] X.env)).any (·.1) = false := by rfl) :
    KI X c n W (.Tuple elts kk tpos) (.Call (.Name "zip" p) [a, b] [] pos) (eBF zip2D ms) := piImp (pi_zip hg hm ha hs hpl) fun σ H R ⟨ρ, F, h, q⟩ => by
  refine ⟨ρ, F, h, ?_⟩
  unfold eBF bindM at q
  cases hm : ms ρ with
  | no => simp only [hm] at q
  | er x ρ1 => simp only [hm] at q ⊢; exact q
  | ok ds ρ1 =>
    simp only [hm] at q ⊢
    intro vs F1 H1 s1 n1 h1 r1
    unfold ofO at q
    cases hz : zip2D ds with
    | none => simp only [hz] at q
    | some zs =>
      simp only [hz] at q
      obtain ⟨xs, ys, rfl, rfl⟩ := zip2D_some hz
      cases r1 with
      | cons r t =>
        cases t with
        | cons r' t' =>
          cases t'
          cases r with
          | lst e r =>
            cases r' with
            | lst e' r' => exact ⟨_, _, _, _, rfl, SqL.of (h1.sub _ _ e), SqL.of (h1.sub _ _ e'), by rw [hK]; exact q _ F1 H1 s1 n1 h1 (jok_zip e r e' r')⟩
end

/-! ### for, while -/
def sLoop (T : Dt → Rho → Option Rho) (body : Mo Fl) : List Dt → Mo Fl
  | [] => fun ρ => .ok .nx ρ
  | d :: ds => fun ρ => match T d ρ with
    | none => .no
    | some ρ1 => match body ρ1 with
      | .ok .nx ρ2 => sLoop T body ds ρ2
      | .ok .ct ρ2 => sLoop T body ds ρ2
      | .ok .bk ρ2 => .ok .nx ρ2
      | r => r
def sFor (mi : Mo (List Dt)) (T : Dt → Rho → Option Rho) (body : Mo Fl) : Mo Fl := bindM mi fun ds => sLoop T body ds
def sWhile (t : Mo Bool) (body : Mo Fl) : Nat → Mo Fl
  | 0 => fun _ => .no
  | k + 1 => fun ρ => match t ρ with
    | .ok true ρ1 => match body ρ1 with
      | .ok .nx ρ2 => sWhile t body k ρ2
      | .ok .ct ρ2 => sWhile t body k ρ2
      | .ok .bk ρ2 => .ok .nx ρ2
      | r => r
    | .ok false ρ1 => .ok .nx ρ1
    | .er x ρ1 => .er x ρ1
    | .no => .no
section
variable {X : Cx} {c : Cd} {n : Prop} {W : WX} {mi : Mo (List Dt)} {mb : Mo Fl} {mt : Mo Bool} {tg iter t : Expr} {body : List Stmt} {g : TG} {is : List Nat} {T : Dt → Rho → Option Rho} {pos : Pos}
theorem s_for (S : SemG c g is T) (hp : PassesOwn (model X.prog X.w) X.A X.env X.xe) (hc : X.calm = true) (hi : KI X c n W tg iter mi) (hg : PG X tg g) (hb : KSs X c W body mb) (hs : ∀ x, foldedSetIterable iter X.env x = pure x := by intro _; rfl) :
    KS X c W (.For tg iter body [] pos) (sFor mi T mb) := psImp (ps_for hp hc hi hg hb hs) fun D σ H ⟨ρ, F, h, q⟩ => by
  refine ⟨ρ, F, h, ?_⟩
  unfold sFor bindM at q
  cases hm : mi ρ with
  | no => simp only [hm] at q; exact q.elim
  | er x ρ1 => simp only [hm] at q ⊢; exact LxS.lx q
  | ok ds ρ1 =>
    simp only [hm] at q ⊢
    intro J F1 H1 s1 _ h1 jk
    refine ⟨fun i k σ H => k = ds.length - i ∧ i ≤ ds.length ∧ ∃ ρ F', Same F1 F' ∧ Holds c ρ F' σ H ∧ Res c W (sLoop T mb (ds.drop i) ρ) F' D, ⟨_, rfl, Nat.zero_le _, ρ1, F1, Same.refl _, h1, by rw [List.drop_zero]; exact Res.later q s1⟩, ?_⟩
    rintro i k σ2 H2 ⟨rfl, hi, ρ2, F2, s2, h2, q2⟩
    by_cases hlt : i < ds.length
    · refine .inr ⟨jk.go i H2 (s2.trans h2.sub) hlt, fun σ' H' => ∃ ρ F', Same F1 F' ∧ Holds c ρ F' σ' H' ∧ Res c W (sLoop T mb (ds.drop (i + 1)) ρ) F' D, fun σ' H' w => ⟨_, by omega, rfl, hlt, w⟩, fun x H' y => ?_⟩
      obtain ⟨d, F3, hd, s3, _, h3, r3⟩ := jk.yld i ρ2 F2 σ2 H2 x H' s2 h2 hlt y
      have ed : ds.drop i = d :: ds.drop (i + 1) := by
        rw [List.drop_eq_getElem_cons hlt]
        rw [List.getElem?_eq_getElem hlt] at hd
        cases hd
        rfl
      rw [ed] at q2
      unfold sLoop at q2
      cases hT : T d ρ2 with
      | none => simp only [hT] at q2; exact q2.elim
      | some ρ3 =>
        simp only [hT] at q2
        refine S ρ2 F3 σ2 H' x d ρ3 _ h3 r3 hT fun σ' h' _ => ⟨ρ3, F3, h', ?_⟩
        cases hb : mb ρ3 with
        | no => simp only [hb] at q2; exact q2.elim
        | er x ρ4 => simp only [hb] at q2 ⊢; exact LxS.later q2 s3
        | ok fl ρ4 =>
          simp only [hb] at q2 ⊢
          cases fl with
          | nx => exact fun σ5 F5 H5 s5 h5 => ⟨ρ4, F5, s2.trans (s3.trans s5), h5, Res.later q2 (s3.trans s5)⟩
          | ct => exact fun σ5 F5 H5 s5 h5 => ⟨ρ4, F5, s2.trans (s3.trans s5), h5, Res.later q2 (s3.trans s5)⟩
          | bk => exact FlOk.later (fl := .nx) q2 s3
          | rt d => exact FlOk.later (fl := .rt d) q2 s3
          | ro d => exact FlOk.later (fl := .ro d) q2 s3
    · have e : i = ds.length := by omega
      subst e
      rw [List.drop_length] at q2
      exact .inl ⟨jk.stop _ H2 (s2.trans h2.sub) (Nat.le_refl _), q2 σ2 F2 H2 (Same.refl _) h2⟩
theorem s_while (k : Nat) (hp : PassesOwn (model X.prog X.w) X.A X.env X.xe) (ht : KT X c n W t mt) (hb : KSs X c W body mb) : KS X c W (.While t body [] pos) (sWhile mt mb k) := psImp (ps_while hp ht hb) fun D σ H ⟨ρ, F, h, q⟩ => by
  refine ⟨fun k σ H => ∃ ρ F', Same F F' ∧ Holds c ρ F' σ H ∧ Res c W (sWhile mt mb k ρ) F' D, ⟨k, ρ, F, Same.refl _, h, q⟩, ?_⟩
  rintro k σ2 H2 ⟨ρ2, F2, s2, h2, q2⟩
  refine ⟨ρ2, F2, h2, ?_⟩
  cases k with
  | zero => exact q2.elim
  | succ k =>
    unfold sWhile at q2
    cases hm : mt ρ2 with
    | no => simp only [hm] at q2; exact q2.elim
    | er x ρ1 => simp only [hm] at q2 ⊢; exact LxS.lx q2
    | ok b ρ3 =>
      cases b with
      | false =>
        simp only [hm] at q2 ⊢
        intro F3 H3 s3 _ h3
        rw [if_neg Bool.false_ne_true]
        exact q2 _ F3 H3 s3 h3
      | true =>
        simp only [hm] at q2 ⊢
        intro F3 H3 s3 _ h3
        rw [if_pos (by trivial)]
        refine ⟨fun σ' H' => ∃ ρ F', Same F F' ∧ Holds c ρ F' σ' H' ∧ Res c W (sWhile mt mb k ρ) F' D, fun σ' H' w => ⟨k, Nat.lt_succ_self _, w⟩, ρ3, F3, h3, ?_⟩
        cases hb : mb ρ3 with
        | no => simp only [hb] at q2; exact q2.elim
        | er x ρ4 => simp only [hb] at q2 ⊢; exact LxS.later q2 s3
        | ok fl ρ4 =>
          simp only [hb] at q2 ⊢
          cases fl with
          | nx => exact fun σ5 F5 H5 s5 h5 => ⟨ρ4, F5, s2.trans (s3.trans s5), h5, Res.later q2 (s3.trans s5)⟩
          | ct => exact fun σ5 F5 H5 s5 h5 => ⟨ρ4, F5, s2.trans (s3.trans s5), h5, Res.later q2 (s3.trans s5)⟩
          | bk => exact FlOk.later (fl := .nx) q2 s3
          | rt d => exact FlOk.later (fl := .rt d) q2 s3
          | ro d => exact FlOk.later (fl := .ro d) q2 s3
end
end DL

set_option Elab.async false
set_option linter.all false
set_option maxRecDepth 100000
namespace DL
open PySem PySem.Spec L2
open PyProof.Rows hiding St

/-! ### comprehensions -/
def cL (T : Dt → Rho → Option Rho) (t : Mo Bool) (e : Mo Dt) (ρ : Rho) : List Dt → Option (List Dt)
  | [] => some []
  | d :: ds => match T d ρ with
    | none => none
    | some ρ1 => match t ρ1 with
      | .ok true _ => match e ρ1 with
        | .ok y _ => (cL T t e ρ ds).map (y :: ·)
        | _ => none
      | .ok false _ => cL T t e ρ ds
      | _ => none
def wipeR (ρ : Rho) : List Nat → Rho
  | [] => ρ
  | i :: is => (wipeR ρ is).set i .un
def eComp (mi : Mo (List Dt)) (own : List Nat) (T : Dt → Rho → Option Rho) (t : Mo Bool) (e : Mo Dt) : Mo (List Dt) := bindM mi fun ds ρ => match cL T t e (wipeR ρ own) ds with
  | some ys => if ds.length ≤ sizeLine then .ok ys ρ else .no
  | none => .no
section
variable {X : Cx} {c : Cd} {n : Prop} {W : WX} {ρ : Rho} {F H : Hp} {σ : St}
theorem Holds.wipe1 (h : Holds c ρ F σ H) (i : Nat) : Holds c (ρ.set i .un) F (σ.set i none) H := by
  have back : ∀ (j : Nat) t, (ρ.set i .un)[j]? = some t → t = .un ∨ (i ≠ j ∧ ρ[j]? = some t) := fun j t q => by
    by_cases z : i = j
    · subst z
      have hl : i < ρ.length := by
        have := (List.getElem?_eq_some_iff.mp q).1
        simpa using this
      rw [List.getElem?_set_self hl] at q
      cases q
      exact .inl rfl
    · rw [List.getElem?_set_ne z] at q; exact .inr ⟨z, q⟩
  refine ⟨h.base, h.f0, h.sub, h.new, by simp [h.len], fun j t q => ?_, fun j k t u a q1 q2 w1 w2 s1 s2 => ?_⟩
  · rcases back j t q with rfl | ⟨z, q⟩
    · trivial
    · rw [List.getElem?_set_ne z]; exact h.sl j t q
  · rcases back j t q1 with rfl | ⟨z1, q1⟩
    · cases w1
    · rcases back k u q2 with rfl | ⟨z2, q2⟩
      · cases w2
      · rw [List.getElem?_set_ne z1] at s1
        rw [List.getElem?_set_ne z2] at s2
        exact h.ap j k t u a q1 q2 w1 w2 s1 s2
theorem Holds.wipe (h : Holds c ρ F σ H) : ∀ is : List Nat, Holds c (wipeR ρ is) F (L2.wipe σ is) H
  | [] => h
  | i :: is => (Holds.wipe h is).wipe1 i
/-- an object that is nobody's is written -/
theorem Holds.other {p : Addr} {o : HO} (h : Holds c ρ F σ H) (f0 : F p = none) (h0 : c.H0 p = none) (fr : Free ρ σ p) : Holds c ρ F σ (upd H p o) := by
  refine ⟨fun b z q => ?_, h.f0, fun b z q => ?_, h.new, h.len, fun j t q => ?_, h.ap⟩
  · rw [upd_ne (ne_of_none q h0)]; exact h.base _ _ q
  · rw [upd_ne (ne_of_none q f0)]; exact h.sub _ _ q
  · have z := h.sl j t q
    cases t with
    | un => trivial
    | va d => exact z
    | ml ds =>
      obtain ⟨b, vs, z1, z2, z3, z4, z5⟩ := z
      have nb : b ≠ p := fun e => fr j _ q rfl (e ▸ z1)
      exact ⟨b, vs, z1, z2, z3, by rw [upd_ne nb]; exact z4, z5⟩
    | md ds =>
      obtain ⟨b, vs, z1, z2, z3, z4, z5⟩ := z
      have nb : b ≠ p := fun e => fr j _ q rfl (e ▸ z1)
      exact ⟨b, vs, z1, z2, z3, by rw [upd_ne nb]; exact z4, z5⟩
theorem cL_len {T : Dt → Rho → Option Rho} {t : Mo Bool} {e : Mo Dt} {ρ : Rho} : ∀ {ds ys : List Dt}, cL T t e ρ ds = some ys → ys.length ≤ ds.length
  | [], _, h => by cases h; exact Nat.le_refl _
  | d :: ds, ys, h => by
    unfold cL at h
    split at h
    · cases h
    · split at h
      · split at h
        · cases q : cL T t e ρ ds with
          | none => rw [q] at h; cases h
          | some zs => rw [q] at h; cases h; simpa using cL_len q
        · cases h
      · exact Nat.le_succ_of_le (cL_len h)
      · cases h
theorem NewB.trans {F H F1 H1 F2 : Hp} (a : NewB F H F1) (s : Same H H1) (b : NewB F1 H1 F2) : NewB F H F2 := fun x o q => by
  rcases b x o q with q | q
  · exact a x o q
  · exact .inr (s.free q)
theorem NewB.none {F H F1 : Hp} (a : NewB F H F1) {p : Addr} {o : HO} (f : F p = none) (h : H p = some o) : F1 p = none := by
  cases q : F1 p with
  | none => rfl
  | some z =>
    rcases a p z q with q | q
    · rw [f] at q; cases q
    · rw [h] at q; cases q
abbrev noW : WX := fun _ _ _ _ => False
variable {mi : Mo (List Dt)} {T : Dt → Rho → Option Rho} {t : Mo Bool} {e : Mo Dt} {g : TG} {is vs : List Nat}
theorem comp_lift (S : SemG c g is T) (hv : ∀ k ∈ is, k ∈ vs) {σ : St} {H : Hp} {Q : VK} (h : liftF c n W (eComp mi vs T t e) σ H Q) : tLc (liftIP c n W mi) g (liftT c True noW t) (lift RE c True noW e) vs σ H Q := by
  obtain ⟨ρ, F, h, q⟩ := h
  refine ⟨ρ, F, h, ?_⟩
  unfold eComp bindM at q
  cases hm : mi ρ with
  | no => simp only [hm] at q
  | er x ρ1 => simp only [hm] at q ⊢; exact q
  | ok ds ρ1 =>
    simp only [hm] at q ⊢
    intro J F1 H1 s1 n1 h1 jk D nD
    cases hc : cL T t e (wipeR ρ1 vs) ds with
    | none => simp only [hc] at q
    | some ys =>
      simp only [hc] at q
      by_cases hz : ds.length ≤ sizeLine
      · rw [if_pos hz] at q
        refine ⟨fun i k H => k = ds.length - i ∧ i ≤ ds.length ∧ ∃ F' acc as zs, Same F1 F' ∧ Same H1 H ∧ NewB F1 H1 F' ∧ Holds c ρ1 F' σ H ∧ F' D = none ∧ H D = some (.lst acc) ∧ RpA c.K F' acc as ∧ acc.length ≤ i ∧ cL T t e (wipeR ρ1 vs) (ds.drop i) = some zs ∧ ys = as ++ zs, ⟨_, rfl, Nat.zero_le _, F1, [], [], ys, Same.refl _, same_upd nD, (fun _ _ q => .inl q), h1.allocN nD, h1.fp nD, upd_same, .nil, Nat.le_refl _, by rw [List.drop_zero]; exact hc, rfl⟩, ?_⟩
        rintro i k H2 ⟨rfl, hi, F2, acc, as, zs, s2, g2, nw2, h2, f2, d2, r2, la, hc2, ey⟩
        have h0D : c.H0 D = none := h1.h0 nD
        have frD : Free ρ1 σ D := h1.free nD
        by_cases hlt : i < ds.length
        · refine .inr ⟨jk.go i H2 (s2.trans h2.sub) g2 hlt, fun H' => ∃ F' acc as zs, Same F1 F' ∧ Same H1 H' ∧ NewB F1 H1 F' ∧ Holds c ρ1 F' σ H' ∧ F' D = none ∧ H' D = some (.lst acc) ∧ RpA c.K F' acc as ∧ acc.length ≤ i + 1 ∧ cL T t e (wipeR ρ1 vs) (ds.drop (i + 1)) = some zs ∧ ys = as ++ zs, fun H' w => ⟨_, by omega, rfl, hlt, w⟩, fun x H' y => ?_⟩
          obtain ⟨d, F3, hd, s3, g3, h3, r3⟩ := jk.yld i ρ1 F2 σ H2 x H' s2 g2 h2 hlt y
          have ed : ds.drop i = d :: ds.drop (i + 1) := by
            rw [List.drop_eq_getElem_cons hlt]
            rw [List.getElem?_eq_getElem hlt] at hd
            cases hd
            rfl
          rw [ed] at hc2
          unfold cL at hc2
          cases hT : T d (wipeR ρ1 vs) with
          | none => simp only [hT] at hc2; cases hc2
          | some ρ3 =>
            simp only [hT] at hc2
            refine S (wipeR ρ1 vs) F3 (L2.wipe σ vs) H' x d ρ3 _ (h3.wipe vs) r3 hT fun σ2 h4 hw => ⟨?_, ρ3, F3, h4, ?_⟩
            · rw [hw vs hv, wipe_idem]
            · cases ht : t ρ3 with
              | no => simp only [ht] at hc2; cases hc2
              | er x ρ4 => simp only [ht] at hc2; cases hc2
              | ok b ρ4 =>
                simp only [ht] at hc2 ⊢
                intro F4 H4 s4 n4 h5
                have g4 := n4 trivial
                have nw4 : NewB F2 H2 F4 := g3.nw.trans g3.sH g4.nw
                cases b with
                | false =>
                  simp only at hc2
                  rw [if_neg (by decide)]
                  exact ⟨F4, acc, as, zs, s2.trans (s3.trans s4), g2.trans (g3.sH.trans g4.sH), nw2.trans g2 nw4, h2.grow (s3.trans s4) (g3.sH.trans g4.sH) h5.sub nw4, nw4.none f2 d2, g4.sH _ _ (g3.sH _ _ d2), rpaMono (s3.trans s4) r2, Nat.le_succ_of_le la, hc2, ey⟩
                | true =>
                  simp only at hc2
                  rw [if_pos (by decide)]
                  refine ⟨ρ4, F4, h5, ?_⟩
                  obtain rfl := g4.e
                  cases he : e ρ4 with
                  | no => simp only [he] at hc2; cases hc2
                  | er x ρ5 => simp only [he] at hc2; cases hc2
                  | ok y0 ρ5 =>
                    simp only [he] at hc2 ⊢
                    intro w F5 H5 s5 n5 h6 r6
                    have g5 := n5 trivial
                    have nw5 : NewB F2 H2 F5 := nw4.trans (g3.sH.trans g4.sH) g5.nw
                    have sH5 : Same H2 H5 := g3.sH.trans (g4.sH.trans g5.sH)
                    have h7 := h2.grow (s3.trans (s4.trans s5)) sH5 h6.sub nw5
                    have d5 : H5 D = some (.lst acc) := sH5 _ _ d2
                    have f5 : F5 D = none := nw5.none f2 d2
                    cases hr : cL T t e (wipeR ρ1 vs) (ds.drop (i + 1)) with
                    | none => rw [hr] at hc2; cases hc2
                    | some zs' =>
                      rw [hr] at hc2
                      cases hc2
                      refine ⟨acc, d5, by omega, F5, acc ++ [w], as ++ [y0], zs', s2.trans (s3.trans (s4.trans s5)), fun b z q => ?_, nw2.trans g2 nw5, h7.other f5 h0D frD, f5, upd_same, (rpaMono (s3.trans (s4.trans s5)) r2).app (.cons r6 .nil), by simp; omega, rfl, by rw [ey]; simp⟩
                      rw [upd_ne (ne_of_none q nD)]
                      exact sH5 _ _ (g2 _ _ q)
        · have e : i = ds.length := by omega
          subst e
          rw [List.drop_length] at hc2
          cases hc2
          rw [List.append_nil] at ey
          subst ey
          refine .inl ⟨jk.stop _ H2 (s2.trans h2.sub) g2 (Nat.le_refl _), q D acc F2 H2 (s1.trans s2) (fun hn => ⟨(n1 hn).trans ⟨g2, rfl, nw2⟩, (n1 hn).sH.free nD⟩) h2 f2 h0D frD d2 r2⟩
      · rw [if_neg hz] at q; exact q.elim
theorem kf_comp {elt tg iter : Expr} {ifs : List Expr} {scope : Scope} {own : List (Str × Nat)} {pos : Pos} (S : SemG c g is T) (hv : ∀ k ∈ is, k ∈ own.map (·.2)) (hc : X.calm = true) (hN : X.N.Nodup) (hi : KIP X c n W tg iter mi) (ok : BlkOk X.N X.env.scope scope own)
    (hg : ∀ (s : Shared) (H : Hp) (C : Addr) (cl : List (Str × Addr)) (fp : List Addr), PG (X.blk s H scope (compEnvC scope cl C X.env) fp) tg g) (ht : ∀ (s : Shared) (H : Hp) (C : Addr) (cl : List (Str × Addr)) (fp : List Addr), PTs (X.blk s H scope (compEnvC scope cl C X.env) fp) ifs (liftT c True noW t))
    (he : ∀ (s : Shared) (H : Hp) (C : Addr) (cl : List (Str × Addr)) (fp : List Addr), KE (X.blk s H scope (compEnvC scope cl C X.env) fp) c True noW elt e) (hs : ∀ x, foldedSetIterable iter X.env x = pure x := by intro _; rfl) :
    KF X c n W (.ListComp elt [⟨tg, iter, ifs, 0⟩] scope pos) (eComp mi (own.map (·.2)) T t e) := peImp (pe_lc hc hN hi ok hg ht he hs) fun _ _ _ h => comp_lift S hv h
theorem s_setLc {i : Nat} {y : Str} {py : Pos} {elt tg iter : Expr} {ifs : List Expr} {scope : Scope} {own : List (Str × Nat)} {pos spos : Pos} (S : SemG c g is T) (hv : ∀ k ∈ is, k ∈ own.map (·.2)) (hc : X.calm = true) (hN : X.N.Nodup) (hy : X.N[i]? = some y) (hyl : X.env.scope.names.lookup y = some .local)
    (hsw : swapsWith (.ListComp elt [⟨tg, iter, ifs, 0⟩] scope pos) (some (.Name y py)) spos.line X.env = pure true) (hi : KIP X c n W tg iter mi) (ok : BlkOk X.N X.env.scope scope own)
    (hg : ∀ (s : Shared) (H : Hp) (C : Addr) (cl : List (Str × Addr)) (fp : List Addr), PG (X.blk s H scope (compEnvC scope cl C X.env) fp) tg g) (ht : ∀ (s : Shared) (H : Hp) (C : Addr) (cl : List (Str × Addr)) (fp : List Addr), PTs (X.blk s H scope (compEnvC scope cl C X.env) fp) ifs (liftT c True noW t))
    (he : ∀ (s : Shared) (H : Hp) (C : Addr) (cl : List (Str × Addr)) (fp : List Addr), KE (X.blk s H scope (compEnvC scope cl C X.env) fp) c True noW elt e) (hs : ∀ x, foldedSetIterable iter X.env x = pure x := by intro _; rfl) :
    KS X c W (.Assign [.Name y py] (.ListComp elt [⟨tg, iter, ifs, 0⟩] scope pos) spos) (sSetF i (eComp mi (own.map (·.2)) T t e)) := asgF (ps_setLc hc hN hy hyl hsw hi ok hg ht he hs) fun _ _ _ h => comp_lift S hv h
theorem s_setLcZ {i : Nat} {y : Str} {py : Pos} {elt tg iter : Expr} {ifs : List Expr} {scope : Scope} {own : List (Str × Nat)} {pos spos : Pos} (S : SemG c g is T) (hv : ∀ k ∈ is, k ∈ own.map (·.2)) (hc : X.calm = true) (hN : X.N.Nodup) (hy : X.N[i]? = some y) (hyl : X.env.scope.names.lookup y = some .local)
    (hsw : swapsWith (.ListComp elt [⟨tg, iter, ifs, 0⟩] scope pos) (some (.Name y py)) spos.line X.env = pure true) (hi : KIP X c n W tg iter mi) (ok : BlkOk X.N X.env.scope scope own)
    (hg : ∀ (s : Shared) (H : Hp) (C : Addr) (cl : List (Str × Addr)) (fp : List Addr), PG (X.blk s H scope (compEnvC scope cl C X.env) fp) tg g) (ht : ∀ (s : Shared) (H : Hp) (C : Addr) (cl : List (Str × Addr)) (fp : List Addr), PTs (X.blk s H scope (compEnvC scope cl C X.env) fp) ifs (liftT c True noW t))
    (he : ∀ (s : Shared) (H : Hp) (C : Addr) (cl : List (Str × Addr)) (fp : List Addr), KE (X.blk s H scope (compEnvC scope cl C X.env) fp) c True noW elt e) (hs : ∀ x, foldedSetIterable iter X.env x = pure x := by intro _; rfl) :
    KS X c W (.Assign [.Name y py] (.ListComp elt [⟨tg, iter, ifs, 0⟩] scope pos) spos) (sSet i (eFz (eComp mi (own.map (·.2)) T t e))) := asg (ps_setLc hc hN hy hyl hsw hi ok hg ht he hs) fun _ _ _ h => comp_lift S hv (kz_imp h)
theorem passNo {X : Cx} : ∀ σ, PassesAt (L2.CX X.prog X.w) X σ (WE noW σ) := fun σ _ _ _ _ _ _ h => by
  obtain ⟨_, _, _, _, _, _, _, _, _, _, _, _, z⟩ := h
  exact z.elim
/-- a fresh list, bound as one that stays -/
theorem asgZ {st : Stmt} {te : TE} {i : Nat} {mf : Mo (List Dt)} (h : PS X st (tAsg te (gName i))) (k : ∀ σ H Q, liftF c n W mf σ H Q → te σ H Q) : KS X c W st (sSetF i mf) := asgF h k
def tYesM : Mo Bool := fun ρ => .ok true ρ
theorem ts_nil : PTs X [] (liftT c n W tYesM) := ⟨fun pins s σ H Q I ⟨ρ, F, h, k⟩ => pts_nil.run pins s σ H Q I (k F H (Same.refl _) (fun _ => Kept.refl) h)⟩
theorem ts_one {a : Expr} {m : Mo Bool} (h : KT X c n W a m) : PTs X [a] (liftT c n W m) := pts_one h
end

/-! ### a def -/
def runF (k p : Nat) (m : Mo Fl) (ds : List Dt) : Fo := if ds.length = p then (match m (ds.map .va ++ List.replicate (k - ds.length) .un) with
  | .ok (.rt d) _ => .ok d
  | .ok (.ro es) _ => .fr es
  | .ok .nx _ => .ok .none
  | .er x _ => .er x
  | _ => .no) else .no
theorem start_holds {K : PySem.W.Frag} {xr : Ex → Value → Option Addr → Hp → Prop} {F H : Hp} {N : List Str} {vs : List V} {ds : List Dt} (s : Same F H) (r : RpA K F vs ds) : Holds ⟨K, H, F, xr⟩ (ds.map .va ++ List.replicate (N.length - ds.length) .un) F (L2.start N vs) H := by
  have hl := r.len
  have noown : ∀ (j : Nat) t, (ds.map Sl.va ++ List.replicate (N.length - ds.length) Sl.un)[j]? = some t → t.own = false ∧ SlOk ⟨K, H, F, xr⟩ F H (L2.start N vs)[j]? t := fun j t q => by
    by_cases hj : j < ds.length
    · rw [List.getElem?_append_left (by simpa using hj), List.getElem?_map] at q
      cases e : ds[j]? with
      | none => rw [e] at q; cases q
      | some d =>
        rw [e] at q
        cases q
        obtain ⟨v, hv, rv⟩ := r.get e
        refine ⟨rfl, v, ?_, rv⟩
        unfold L2.start
        rw [List.getElem?_append_left (by simp; omega), List.getElem?_map, hv]
        rfl
    · rw [List.getElem?_append_right (by simpa using hj), List.getElem?_replicate] at q
      split at q
      · cases q; exact ⟨rfl, trivial⟩
      · cases q
  refine ⟨Same.refl _, Same.refl _, s, fun b o q => .inl q, ?_, fun j t q => (noown j t q).2, fun j k t u a q1 _ w1 _ _ _ => ?_⟩
  · unfold L2.start
    simp [hl]
  · rw [(noown j t q1).1] at w1; cases w1
section
variable {P : Program} {w : World} {K : PySem.W.Frag} {mg : Str → Option Value} {base : Heap} {x qual : Str} {st : Stmt} {f : Addr} {fd : FuncData} {N ps : List Str} {k : Nat} {xr : Ex → Value → Option Addr → Hp → Prop} {m : Mo Fl}
theorem fn_ok (Fn : Fun K x qual st f fd) (S : FnScope N ps (defScope st))
    (hb : ∀ (cdv : Value) (A : Around) (outer : List Env) (s : Shared) (H F0 : Hp) (E : XK), Room k (A.deeper (envOfC qual (defScope st) s.heap.objs.size f cdv)) →
      KSs (cxOf (L2.CX P w) P w K mg base N qual (defScope st) f cdv A outer s H E) ⟨K, H, F0, xr⟩ (fun cls dd _ H' => E cls dd H') (defBody st) m) :
    FnOk P w K mg base (L2.CX P w) (k + 1) f fd ps (spOf K xr (runF N.length ps.length m)) := by
  refine Fn.okX S (fun vs H Q E ⟨F, ds, s, r, q⟩ => ?_) fun cdv A outer s H vs Q E hr ⟨F, ds, sF, r, q⟩ => ⟨_, hb cdv A outer s H F E hr, ?_⟩
  · unfold runF at q
    by_cases h : ds.length = ps.length
    · rw [r.len]; exact h
    · rw [if_neg h] at q; exact q.elim
  · refine ⟨_, F, start_holds sF r, ?_⟩
    have nw : ∀ {σ' : St} {ρ' : Rho} {F' H' : Hp}, Holds ⟨K, H, F, xr⟩ ρ' F' σ' H' → NewB F H F' := fun h b o q => h.new b o q
    unfold runF at q
    by_cases h : ds.length = ps.length
    · rw [if_pos h] at q
      cases hm : m (ds.map .va ++ List.replicate (N.length - ds.length) .un) with
      | no => rw [hm] at q; exact q.elim
      | er x ρ' => rw [hm] at q; exact fun cls dd σ' F' H' _ h' xx => q cls dd H' h'.base xx
      | ok fl ρ' =>
        rw [hm] at q
        cases fl with
        | nx => exact fun σ' F' H' s' h' => q .non F' H' h'.base s' h'.sub (nw h') .non
        | rt d => exact fun v σ' F' H' s' h' r' => q v F' H' h'.base s' h'.sub (nw h') r'
        | ro es => exact fun p us σ' F' H' s' h' f0 h0 hp r' => q p us F' H' h'.base s' h'.sub (nw h') f0 h0 hp r'
        | bk => exact q.elim
        | ct => exact q.elim
    · rw [if_neg h] at q; exact q.elim
end
end DL

set_option Elab.async false
set_option linter.all false
set_option maxRecDepth 100000
namespace DL
open PySem PySem.Spec L2
open PyProof.Rows hiding St

/-! ### sorted -/
abbrev leT : Dt → Dt → Bool := PySem.W.dataLe false (fun d : Dt => d)
def rSortD (K : PySem.W.Frag) : List V → Hp → VK → Prop := fun xs H Q => ∃ (a : Addr) (vs : List V) (ds : List Dt) (P : V → Dt → Prop), xs = [.ref a] ∧ H a = some (.lst vs) ∧ Paired P vs ds ∧ (∀ v d, d ∈ ds → P v d → Dp K H v d) ∧ PySem.W.AllAlike ds ∧ PySem.W.Sortable ds ∧ (∀ d ∈ ds, okD d = true) ∧
  ∀ p ws, H p = none → Paired P ws (ds.mergeSort leT) → Q (.ref p) (upd H p (.lst ws))
theorem each_of {X : Cx} {pins : List (Addr × Obj)} {σ : St} {H : Hp} {s : Shared} {P : V → Dt → Prop} (I : L2.Inv X pins σ H s) {ds0 : List Dt} (hP : ∀ v d, d ∈ ds0 → P v d → Dp X.K H v d) : ∀ {vs : List V} {us : List Value} {ds : List Dt}, (∀ d ∈ ds, d ∈ ds0) → Vals vs us → Paired P vs ds →
    PySem.W.EachIs (fun u d => ∃ v, RelV v u ∧ P v d) us ds ∧ PySem.W.EachIs (fun u d => ∃ as, Reads s.heap u d as) us ds
  | _, _, _, _, .nil, .nil => ⟨.nil, .nil⟩
  | _, _, _, hs, .cons r t, .cons p q => by
    obtain ⟨h1, h2⟩ := each_of I hP (fun d hd => hs d (List.mem_cons_of_mem _ hd)) t q
    exact ⟨.cons ⟨_, r, p⟩ h1, .cons (Dp.reads I _ _ _ (hP _ _ (hs _ List.mem_cons_self) p) r) h2⟩
theorem each_back {P : V → Dt → Prop} : ∀ {us : List Value} {ds : List Dt}, PySem.W.EachIs (fun u d => ∃ v, RelV v u ∧ P v d) us ds → ∃ vs, Vals vs us ∧ Paired P vs ds
  | _, _, .nil => ⟨[], .nil, .nil⟩
  | _, _, .cons ⟨v, r, p⟩ t => by
    obtain ⟨vs, h1, h2⟩ := each_back t
    exact ⟨v :: vs, .cons r h1, .cons p h2⟩
theorem cr_sortD {X : Cx} (hu : X.A.units + 64 < cLine) : CallR X (.builtin "sorted") (rSortD X.K) := by
  rintro pins s σ H xs us Q I r ⟨a, vs, ds, P, rfl, ea, hp, hP, al, so, ok, q⟩
  rw [Vals.ref1 r]
  obtain ⟨z, its, n, rv, eo⟩ := I.hok a _ ea
  obtain ⟨e1, e2⟩ := each_of I hP (fun _ h => h) rv hp
  have ld : ds.length ≤ sizeLine := by rw [← Paired.length hp]; exact z
  refine PySem.W.sorted_data (enc := fun d : Dt => d) ⟨_, eo, rfl, _, rfl⟩ e1 e2 (by rw [List.map_id']; exact al) (by rw [List.map_id']; exact so) ld (fun b hb => ?_) fun out ho h => ?_
  · have := (okN_plain 12 b (ok b hb)).2
    omega
  · obtain ⟨ws, hw, hpw⟩ := each_back h
    obtain ⟨ep, he⟩ := PyProof.Rows.sortedAll_at s.heap its out.toArray
    refine ⟨.ref _, upd H (s.heap.objs.size + 1) (.lst ws), I.laid (t' := s.toks) (fun _ _ => PyProof.Rows.sortedAll_old) (Nat.le_succ _) ⟨?_, out, ep, hw, he⟩, rfl, q _ ws (I.hok.fresh (Nat.le_succ _)) hpw⟩
    rw [Vals.length hw, ho]; exact ld
theorem rpa_paired {K : PySem.W.Frag} {F : Hp} : ∀ {vs : List V} {ds : List Dt}, RpA K F vs ds → Paired (Rp K F) vs ds
  | _, _, .nil => .nil
  | _, _, .cons a t => .cons a (rpa_paired t)
theorem paired_rpa {K : PySem.W.Frag} {F : Hp} : ∀ {vs : List V} {ds : List Dt}, Paired (Rp K F) vs ds → RpA K F vs ds
  | _, _, .nil => .nil
  | _, _, .cons a t => .cons a (paired_rpa t)
def Sorts (ds : List Dt) : Prop := PySem.W.AllAlike ds ∧ PySem.W.Sortable ds ∧ ∀ d ∈ ds, okD d = true
open Classical in
noncomputable def sortD : List Dt → Option (List Dt)
  | [.list ds] => if Sorts ds then some (ds.mergeSort leT) else none
  | _ => none
theorem sem_sort {c : Cd} : SemBF c (rSortD c.K) sortD := by
  intro ρ F σ H vs ds z Q hh rv hg q
  unfold sortD at hg
  split at hg
  · rename_i xs
    obtain ⟨v, rfl, r⟩ := pr1 rv
    by_cases hs : Sorts xs
    · rw [if_pos hs] at hg
      cases hg
      obtain ⟨a, ws, rfl, e, r⟩ := r.lst hh.sub
      exact ⟨a, ws, xs, Rp c.K F, rfl, e, rpa_paired r, fun v d hd p => (rpMono hh.sub p).dp (okN_plain _ d (hs.2.2 d hd)).1, hs.1, hs.2.1, hs.2.2, fun p us hp h => newL hh q (paired_rpa h) p hp⟩
    · rw [if_neg hs] at hg; cases hg
  · cases hg

/-! ### isinstance -/
def tyD : Dt → String
  | .none => "NoneType"
  | .bool _ => "bool"
  | .int _ => "int"
  | .str _ => "str"
  | .list _ => "list"
  | .tuple _ => "tuple"
  | .dict _ => "dict"
def isIn (T : String) (x : Dt) : Option Dt := match x with
  | .dict _ => none
  | x => (kitB (tyD x) T).map .bool
def eIsI (T : String) (m : Mo Dt) : Mo Dt := bindM m fun x => ofO (isIn T x)
theorem tyX_of {c : Cd} {F H : Hp} {v : V} {x : Dt} (nd : ∀ kvs, x ≠ .dict kvs) (s : Same F H) (r : RP c F H v x) : TyX c.K H v (.type (tyD x)) := by
  cases x with
  | none => rw [r.non]; exact .base .non
  | bool b => rw [r.bl]; exact .base (.bl _)
  | int i => rw [r.int]; exact .base (.int _)
  | str z => rw [r.str]; exact .base (.str _)
  | list xs =>
    obtain ⟨a, vs, rfl, e, _⟩ := r.lst s
    exact .base (.lst e)
  | tuple xs =>
    obtain ⟨a, vs, rfl, e, _⟩ := r.tup
    rcases sameT s e with (e | ⟨o, e⟩) | ⟨o, its, n, e, h, _⟩
    · exact .base (.tup e)
    · exact .fTuple e
    · exact .kTuple e h
  | dict kvs => exact absurd rfl (nd kvs)
theorem k_isi {X : Cx} {c : Cd} {n : Prop} {W : WX} {m : Mo Dt} {e : Expr} {T : String} {nm : Str} {p p2 pos : Pos} (hK : X.K = c.K) (hg : Gl X "isinstance") (hm : X.mg "isinstance" = none) (hgT : Gl X nm) (hmT : X.mg nm = none) (hvT : bootBuiltins nm = some (.type T)) (he : KP X c n W e m)
    (hnT : nm ≠ "__name__" := by decide) (hdT : (nm == ("__debug__" : Str)) = false := by decide)
    (s1 : starEach [e, .Name nm p2] X.env = (false, eval e X.env) :: starEach [.Name nm p2] X.env := by rfl) (s2 : starEach [.Name nm p2] X.env = (false, eval (.Name nm p2) X.env) :: starEach [] X.env := by rfl) (hpl : (backTo pos (starEach [.Name nm p2] X.env)).any (·.1) = false := by rfl) :
    KE X c n W (.Call (.Name "isinstance" p) [e, .Name nm p2] [] pos) (eIsI T m) :=
  peImp (pe_callB call_isi hg hm (by decide +kernel) (pa_cons he (pa_cons (pe_bltn (v := .ty T) hgT hmT hvT rfl hnT hdT) pa_nil s2) s1) (by decide) (by decide) s1 hpl) fun σ H Q ⟨ρ, F, h, k⟩ => by
    refine ⟨ρ, F, h, ?_⟩
    unfold eIsI bindM at k
    cases hm : m ρ with
    | no => simp only [hm] at k
    | er x ρ1 => simp only [hm] at k ⊢; exact k
    | ok x ρ1 =>
      simp only [hm] at k ⊢
      intro v F1 H1 s1 n1 h1 r1
      unfold ofO at k
      cases hi : isIn T x with
      | none => simp only [hi] at k
      | some z =>
        simp only [hi] at k
        obtain ⟨nd, b, hb, rfl⟩ : (∀ kvs, x ≠ .dict kvs) ∧ ∃ b, kitB (tyD x) T = some b ∧ z = .bool b := by
          unfold isIn at hi
          split at hi
          · cases hi
          · rename_i hn
            refine ⟨fun kvs e => hn kvs e, ?_⟩
            cases hb : kitB (tyD x) T with
            | none => rw [hb] at hi; cases hi
            | some b => rw [hb] at hi; cases hi; exact ⟨b, rfl, rfl⟩
        exact ⟨v, .ty T, _, _, b, rfl, .ty T, by rw [hK]; exact tyX_of nd h1.sub r1, kit_ty hb, k _ F1 H1 s1 n1 h1 (.bl _)⟩

/-! ### methods of texts -/
section
variable {X : Cx} {c : Cd} {n : Prop} {W : WX} {mo me : Mo Dt} {o e : Expr} {id : String} {name : Str} {apos pos : Pos} {r : V → List V → Hp → VK → Prop} {f : Str → Dt → Option Dt} {ff : Str → Dt → Option (List Dt)}
def eM1 (f : Str → Dt → Option Dt) (mo me : Mo Dt) : Mo Dt := bindM mo fun x => match x with
  | .str s => bindM me fun y => ofO (f s y)
  | _ => fun _ => .no
def eM1F (f : Str → Dt → Option (List Dt)) (mo me : Mo Dt) : Mo (List Dt) := bindM mo fun x => match x with
  | .str s => bindM me fun y => ofO (f s y)
  | _ => fun _ => .no
def SemM (c : Cd) (r : V → List V → Hp → VK → Prop) (f : Str → Dt → Option Dt) : Prop := ∀ ρ F σ H (s : Str) u y z Q, Holds c ρ F σ H → RP c F H u y → f s y = some z → (∀ w F' H', Same F F' → Kept ρ F H ρ F' H' → Holds c ρ F' σ H' → Rp c.K F' w z → Q w H') → r (.str s) [u] H Q
def SemMF (c : Cd) (r : V → List V → Hp → VK → Prop) (f : Str → Dt → Option (List Dt)) : Prop := ∀ ρ F σ H (s : Str) u y z Q, Holds c ρ F σ H → RP c F H u y → f s y = some z → NewL c ρ F σ H z Q → r (.str s) [u] H Q
theorem k_m1 (S : SemM c r f) (slot : Slot "str" name id) (hty : typeOf (.builtin id) = pure (.type "method_descriptor")) (hm : MtR X id r) (ho : KE X c n W o mo) (he : KP X c True W e me)
    (h1 : starEach [e] X.env = [(false, eval e X.env)] := by rfl) (h2 : attributeBase o name X.env (eval o X.env) = eval o X.env := by rfl) (h3 : (apos.endLine == pos.line) = true := by rfl) :
    KE X c n W (.Call (.Attribute o name apos) [e] [] pos) (eM1 f mo me) := peImp (pe_m1 slot hty hm ho he h1 h2 h3) fun σ H Q ⟨ρ, F, h, k⟩ => by
  refine ⟨ρ, F, h, ?_⟩
  unfold eM1 bindM at k
  cases ha : mo ρ with
  | no => simp only [ha] at k
  | er x ρ1 => simp only [ha] at k ⊢; exact k
  | ok x ρ1 =>
    simp only [ha] at k ⊢
    cases x with
    | str s =>
      intro v F1 H1 s1 n1 h1 r1
      cases r1
      refine ⟨⟨s, rfl⟩, ρ1, F1, h1, ?_⟩
      simp only at k
      cases hb : me ρ1 with
      | no => simp only [hb] at k
      | er x ρ1 => simp only [hb] at k ⊢; exact k.later s1
      | ok y ρ2 =>
        simp only [hb] at k ⊢
        intro u F2 H2 s2 n2 h2 r2
        have g2 := n2 trivial
        unfold ofO at k
        cases hf : f s y with
        | none => simp only [hf] at k
        | some z =>
          simp only [hf] at k
          exact S ρ2 F2 σ H2 s u y z Q h2 r2 hf fun w F3 H3 s3 g3 h3 r3 => k w F3 H3 (s1.trans (s2.trans s3)) (fun hn => (n1 hn).trans (g2.trans g3)) h3 r3
    | _ => simp only at k
theorem kf_m1 (S : SemMF c r ff) (slot : Slot "str" name id) (hty : typeOf (.builtin id) = pure (.type "method_descriptor")) (hm : MtR X id r) (ho : KE X c n W o mo) (he : KP X c True W e me)
    (h1 : starEach [e] X.env = [(false, eval e X.env)] := by rfl) (h2 : attributeBase o name X.env (eval o X.env) = eval o X.env := by rfl) (h3 : (apos.endLine == pos.line) = true := by rfl) :
    KF X c n W (.Call (.Attribute o name apos) [e] [] pos) (eM1F ff mo me) := peImp (pe_m1 slot hty hm ho he h1 h2 h3) fun σ H Q ⟨ρ, F, h, k⟩ => by
  refine ⟨ρ, F, h, ?_⟩
  unfold eM1F bindM at k
  cases ha : mo ρ with
  | no => simp only [ha] at k
  | er x ρ1 => simp only [ha] at k ⊢; exact k
  | ok x ρ1 =>
    simp only [ha] at k ⊢
    cases x with
    | str s =>
      intro v F1 H1 s1 n1 h1 r1
      cases r1
      refine ⟨⟨s, rfl⟩, ρ1, F1, h1, ?_⟩
      simp only at k
      cases hb : me ρ1 with
      | no => simp only [hb] at k
      | er x ρ1 => simp only [hb] at k ⊢; exact k.later s1
      | ok y ρ2 =>
        simp only [hb] at k ⊢
        intro u F2 H2 s2 n2 h2 r2
        have g2 := n2 trivial
        unfold ofO at k
        cases hf : ff s y with
        | none => simp only [hf] at k
        | some z =>
          simp only [hf] at k
          exact S ρ2 F2 σ H2 s u y z Q h2 r2 hf fun p vs F3 H3 s3 g3 h3 f0 h0 fr hp r3 => k p vs F3 H3 (s1.trans (s2.trans s3)) (fun hn => ⟨(n1 hn).trans (g2.trans g3.1), ((n1 hn).trans g2).sH.free g3.2⟩) h3 f0 h0 fr hp r3
    | _ => simp only at k
def strsOf : List Dt → Option (List Str)
  | [] => some []
  | .str i :: r => (strsOf r).map (i :: ·)
  | _ => none
theorem strsOf_eq : ∀ {ds : List Dt} {ns : List Str}, strsOf ds = some ns → ds = ns.map .str
  | [], ns, h => by cases h; rfl
  | d :: ds, ns, h => by
    cases d with
    | str i =>
      simp only [strsOf] at h
      cases e : strsOf ds with
      | none => rw [e] at h; cases h
      | some ms => rw [e] at h; cases h; rw [strsOf_eq e]; rfl
    | _ => simp [strsOf] at h
theorem strsOf_map : ∀ ns : List Str, strsOf (ns.map .str) = some ns
  | [] => rfl
  | n :: ns => by simp only [List.map_cons, strsOf, strsOf_map ns]; rfl
/-- sep.join(texts) -/
def joinD (s : Str) : Dt → Option Dt
  | .list ds => (strsOf ds).bind fun ys => if (ys.map fun x => x.length).sum + ys.length * s.length ≤ 16777216 then some (.str (Txt.join s ys)) else none
  | _ => none
theorem sem_join : SemM c (fun x xs H Q => ∃ a p ys, x = V.str a ∧ xs = [V.ref p] ∧ (SqL c.K H p (List.map V.str ys) ∨ SqT c.K H p (List.map V.str ys)) ∧ (List.map (fun x => x.length) ys).sum + ys.length * a.length ≤ 16777216 ∧ Q (V.str (Txt.join a ys)) H) joinD := by
  intro ρ F σ H s u y z Q hh ry hf q
  unfold joinD at hf
  split at hf
  · rename_i ds
    cases e : strsOf ds with
    | none => rw [e] at hf; cases hf
    | some ys =>
      rw [e] at hf
      simp only [Option.bind_some] at hf
      split at hf
      · rename_i hz
        cases hf
        obtain ⟨a, vs, rfl, e1, r⟩ := ry.lst hh.sub
        rw [strsOf_eq e] at r
        rw [r.strs] at e1
        exact ⟨s, a, ys, rfl, rfl, .inl (SqL.of e1), hz, flat hh q (.str _)⟩
      · cases hf
  · cases hf
theorem k_join (hK : X.K = c.K) (ho : KE X c n W o mo) (he : KP X c True W e me)
    (h1 : starEach [e] X.env = [(false, eval e X.env)] := by rfl) (h2 : attributeBase o "join" X.env (eval o X.env) = eval o X.env := by rfl) (h3 : (apos.endLine == pos.line) = true := by rfl) :
    KE X c n W (.Call (.Attribute o "join" apos) [e] [] pos) (eM1 joinD mo me) := k_m1 (S := sem_join) PySem.F.slot_str_join PySem.F.type_str_join (by rw [← hK]; exact mt_join) ho he h1 h2 h3
def countD (s : Str) : Dt → Option Dt
  | .str y => some (.int (Txt.count s y))
  | _ => none
theorem sem_count : SemM c (fun x xs H Q => ∃ a b, x = V.str a ∧ xs = [V.str b] ∧ Q (V.int (Txt.count a b)) H) countD := by
  intro ρ F σ H s u y z Q hh ry hf q
  unfold countD at hf
  split at hf
  · cases hf; exact ⟨s, _, rfl, by rw [ry.str], flat hh q (.int _)⟩
  · cases hf
theorem k_count (ho : KE X c n W o mo) (he : KP X c True W e me)
    (h1 : starEach [e] X.env = [(false, eval e X.env)] := by rfl) (h2 : attributeBase o "count" X.env (eval o X.env) = eval o X.env := by rfl) (h3 : (apos.endLine == pos.line) = true := by rfl) :
    KE X c n W (.Call (.Attribute o "count" apos) [e] [] pos) (eM1 countD mo me) := k_m1 sem_count PySem.F.slot_str_count PySem.F.type_str_count mt_count ho he h1 h2 h3
end

/-! ### list(text) -/
def listS : List Dt → Option (List Dt)
  | [.str z] => if z.length ≤ sizeLine then some (signsD z) else none
  | _ => none
def rListS : List V → Hp → VK → Prop := fun xs H Q => ∃ z, xs = [V.str z] ∧ z.length ≤ sizeLine ∧ ∀ p, H p = none → Q (.ref p) (upd H p (.lst (z.cps.toList.map fun k => V.str ⟨#[k]⟩)))
theorem cr_listS {X : Cx} (hc : X.calm = true) : CallR X (.type "list") rListS := by
  rintro pins s σ H xs us Q I r ⟨z, rfl, hz, q⟩
  obtain ⟨u, rfl, ru⟩ := r.one
  obtain ⟨t, rfl⟩ := ru
  refine call_list_str (I.ok.hd hc) z t (fun h' tk acc' c' hk ho ha => ?_) hz
  have hv : Vals (z.cps.toList.map fun k => V.str ⟨#[k]⟩) acc'.toList := by
    refine vals_of_at (by simp [ha.1]) fun j x u hx hu => ?_
    rw [List.getElem?_map] at hx
    obtain ⟨k, w, hk', rfl⟩ := ha.2 j u (by simpa using hu)
    rw [show z.cps.toList[j]? = some k by simpa using hk'] at hx
    cases hx
    exact ⟨_, rfl⟩
  refine ⟨.ref _, _, I.laid (o := .lst (z.cps.toList.map fun k => V.str ⟨#[k]⟩)) hk (Nat.le_refl _) ⟨by rw [List.length_map, Array.length_toList]; exact hz, acc'.toList, c', hv, by simpa using ho⟩, rfl, q _ (I.hok.fresh (Nat.le_refl _))⟩
theorem rpa_signs {K : PySem.W.Frag} {F : Hp} : ∀ l : List Nat, RpA K F (l.map fun k => V.str ⟨#[k]⟩) (l.map fun k => PyData.str ⟨#[k]⟩)
  | [] => .nil
  | k :: l => .cons (.str _) (rpa_signs l)
theorem sem_listS {c : Cd} : SemBF c rListS listS := by
  intro ρ F σ H vs ds z Q hh rv hg q
  unfold listS at hg
  split at hg
  · obtain ⟨v, rfl, r⟩ := pr1 rv
    split at hg
    · rename_i hz
      cases hg
      exact ⟨_, by rw [r.str], hz, newL hh q (rpa_signs _)⟩
    · cases hg
  · cases hg
end DL

set_option Elab.async false
set_option linter.all false
set_option maxRecDepth 100000
namespace DL
open PySem PySem.Spec L2
open PyProof.Rows hiding St
section
variable {X : Cx} {c : Cd} {n : Prop} {W : WX} {e : Expr} {pos : Pos} {m : Mo Dt}
/-! ### minus -/
def eNeg (m : Mo Dt) : Mo Dt := bindM m fun x => match x with
  | .int i => fun ρ => .ok (.int (-i)) ρ
  | _ => fun _ => .no
theorem neg_lift {σ : St} {H : Hp} {Q : VK} (h : lift RE c n W (eNeg m) σ H Q) : tUn (rU fun i => .int (-i)) (lift RP c n W m) σ H Q := by
  obtain ⟨ρ, F, h, k⟩ := h
  refine ⟨ρ, F, h, ?_⟩
  unfold eNeg bindM at k
  cases hm : m ρ with
  | no => simp only [hm] at k
  | er x ρ1 => simp only [hm] at k ⊢; exact k
  | ok x ρ1 =>
    simp only [hm] at k ⊢
    intro v F1 H1 s1 n1 h1 r1
    cases x with
    | int i =>
      have e := r1.int
      subst e
      exact ⟨i, rfl, k _ F1 H1 s1 n1 h1 (.int _)⟩
    | _ => simp only at k
theorem k_neg (h : KP X c n W e m) : KE X c n W (.UnaryOp .USub e pos) (eNeg m) := peImp (pe_un un_neg h) fun _ _ _ h => neg_lift h
end
theorem fn_okL {P : Program} {w : World} {K : PySem.W.Frag} {mg : Str → Option Value} {base : Heap} {x qual : Str} {st : Stmt} {f : Addr} {fd : FuncData} {N ps : List Str} {k a b : Nat} {xr : Ex → Value → Option Addr → Hp → Prop} {m : Mo Fl}
    (hN : N.length = a) (hp : ps.length = b) (Fn : Fun K x qual st f fd) (S : FnScope N ps (defScope st))
    (hb : ∀ (cdv : Value) (A : Around) (outer : List Env) (s : Shared) (H F0 : Hp) (E : XK), Room k (A.deeper (envOfC qual (defScope st) s.heap.objs.size f cdv)) →
      KSs (cxOf (L2.CX P w) P w K mg base N qual (defScope st) f cdv A outer s H E) ⟨K, H, F0, xr⟩ (fun cls dd _ H' => E cls dd H') (defBody st) m) :
    FnOk P w K mg base (L2.CX P w) (k + 1) f fd ps (spOf K xr (runF a b m)) := by
  subst hN hp
  exact fn_ok Fn S hb
noncomputable def fuelN : Nat := 2 ^ 20000
/-! ### the law's end -/
def spLaw (K : PySem.W.Frag) : Sp := fun vs H Q _ => ∃ (a : Addr) (ns : List Int), vs = [.ref a] ∧ SqL K H a (ns.map V.int) ∧ ns.length ≤ 63 ∧ ∀ H', Q (.bl true) H'
theorem law_end {P : Program} {w : World} {K : PySem.W.Frag} {mg : Str → Option Value} {base : Heap} {k : Nat} {f : Addr} {fd : FuncData} {x : Str} {xr : Ex → Value → Option Addr → Hp → Prop} {G : List Dt → Fo}
    (hG : ∀ ns : List Int, ns.length ≤ 63 → G [scr ns] = .ok (.bool true)) (h : FnOk P w K mg base (L2.CX P w) k f fd [x] (spOf K xr G)) : FnOk P w K mg base (L2.CX P w) k f fd [x] (spLaw K) :=
  h.imp fun vs H Q E ⟨a, ns, e, hS, hl, q⟩ => by
    subst e
    refine ⟨H, [scr ns], Same.refl _, .cons (.scr hS) .nil, ?_⟩
    rw [hG ns hl]
    intro v F' H' _ _ _ _ r
    cases r
    exact q H'
theorem cx_no {P : Program} {w : World} {H : Hp} {s : Shared} {e : Value} {s' : Shared} (h : L2.CX P w [] H s (fun _ _ _ => False) e s') : False := by
  obtain ⟨_, _, _, _, _, _, _, _, _, _, _, _, z⟩ := h
  exact z
end DL

set_option Elab.async false
set_option linter.all false
set_option maxRecDepth 100000
namespace DL
open PySem PySem.Spec L2
open PyProof.Rows hiding St
/-! ### own dicts -/
def keyD : Dt → Option Key
  | .int i => some (.inl i)
  | .str s => some (.inr s)
  | _ => none
def valD (kvs : List (Key × Dt)) (k : Key) : Option Dt := (kvs.find? fun kv => decide (kv.1 = k)).map (·.2)
def putD (kvs : List (Key × Dt)) (k : Key) (d : Dt) : List (Key × Dt) := if (kvs.any fun kv => decide (kv.1 = k)) = true then kvs.map (fun kv => if kv.1 = k then (kv.1, d) else kv) else kvs ++ [(k, d)]
theorem key_rp {K : PySem.W.Frag} {F : Hp} {v : V} {d : Dt} {k : Key} (r : Rp K F v d) (h : keyD d = some k) : v = kV k := by
  cases r with
  | int i => cases h; rfl
  | str s => cases h; rfl
  | _ => cases h
theorem key_RP {c : Cd} {F H : Hp} {v : V} {d : Dt} {k : Key} (r : RP c F H v d) (h : keyD d = some k) : v = kV k := by
  rcases r with r | ⟨a, vs, ds, e1, e2, e3, e4⟩
  · exact key_rp r h
  · subst e2; cases h
theorem KvAll.val {K : PySem.W.Frag} {F : Hp} : ∀ {ks : List (Key × V)} {kvs : List (Key × Dt)}, KvAll K F ks kvs → ∀ k : Key, (valV ks k = none ∧ valD kvs k = none) ∨ ∃ v d, valV ks k = some v ∧ valD kvs k = some d ∧ Rp K F v d
  | _, _, .nil, k => .inl ⟨rfl, rfl⟩
  | p :: ks, q :: kvs, .cons a t, k => by
    obtain ⟨e, r⟩ := a
    by_cases h : p.1 = k
    · exact .inr ⟨p.2, q.2, valV_pos h, by unfold valD; rw [List.find?_cons_of_pos (by rw [decide_eq_true_eq, ← e]; exact h)]; rfl, r⟩
    · have h2 : ¬ q.1 = k := by rw [← e]; exact h
      have e2 : valD (q :: kvs) k = valD kvs k := by unfold valD; rw [List.find?_cons_of_neg (by rw [decide_eq_true_eq]; exact h2)]
      rw [valV_neg h, e2]
      exact KvAll.val t k
theorem KvAll.any {K : PySem.W.Frag} {F : Hp} : ∀ {ks : List (Key × V)} {kvs : List (Key × Dt)}, KvAll K F ks kvs → ∀ k : Key, (ks.any fun kv => decide (kv.1 = k)) = kvs.any fun kv => decide (kv.1 = k)
  | _, _, .nil, k => rfl
  | p :: ks, q :: kvs, .cons a t, k => by
    rw [List.any_cons, List.any_cons, KvAll.any t k, a.1]
theorem KvAll.len {K : PySem.W.Frag} {F : Hp} {ks : List (Key × V)} {kvs : List (Key × Dt)} (h : KvAll K F ks kvs) : ks.length = kvs.length := Paired.length h
theorem KvAll.put {K : PySem.W.Frag} {F : Hp} {ks : List (Key × V)} {kvs : List (Key × Dt)} (h : KvAll K F ks kvs) (k : Key) {v : V} {d : Dt} (r : Rp K F v d) : KvAll K F (putK ks k v) (putD kvs k d) := by
  unfold putK putD
  rw [h.any k]
  by_cases g : (kvs.any fun kv => decide (kv.1 = k)) = true
  · rw [if_pos g, if_pos g]
    clear g
    induction h with
    | nil => exact .nil
    | @cons p q ks kvs a t ih =>
      rw [List.map_cons, List.map_cons]
      refine .cons ?_ ih
      by_cases e : p.1 = k
      · rw [if_pos e, if_pos (a.1 ▸ e)]; exact ⟨a.1, r⟩
      · rw [if_neg e, if_neg (a.1 ▸ e)]; exact a
  · rw [if_neg g, if_neg g]
    clear g
    induction h with
    | nil => exact .cons ⟨rfl, r⟩ .nil
    | cons a t ih => exact .cons a ih
section
variable {X : Cx} {c : Cd} {n : Prop} {W : WX} {e a o : Expr} {pos : Pos} {i : Nat} {mk me : Mo Dt}
def liftD (c : Cd) (n : Prop) (W : WX) (m : Mo (List (Key × Dt))) : TE := fun σ H Q => ∃ ρ F, Holds c ρ F σ H ∧ match m ρ with
  | .ok ds ρ' => ∀ p vs F' H', Same F F' → (n → Kept ρ F H ρ' F' H' ∧ H p = none) → Holds c ρ' F' σ H' → F' p = none → c.H0 p = none → Free ρ' σ p → H' p = some (.dK vs) → KvAll c.K F' vs ds → Q (.ref p) H'
  | .er x ρ' => Lx c W x ρ' F σ
  | .no => False
abbrev KD (X : Cx) (c : Cd) (n : Prop) (W : WX) (e : Expr) (m : Mo (List (Key × Dt))) : Prop := PE X e (liftD c n W m)
def eDNew : Mo (List (Key × Dt)) := fun ρ => .ok [] ρ
theorem kd_new : KD X c n W (.Dict [] [] pos) eDNew := peImp pe_dnewK fun σ H Q ⟨ρ, F, h, k⟩ p hp =>
  k p [] F _ (Same.refl _) (fun _ => ⟨Kept.allocN hp, hp⟩) (h.allocN hp) (h.fp hp) (h.h0 hp) (h.free hp) upd_same .nil
def sSetD (i : Nat) (m : Mo (List (Key × Dt))) : Mo Fl := bindM m fun ds ρ => .ok .nx (ρ.set i (.md ds))
theorem s_setD {x : Str} {pos' : Pos} {mf : Mo (List (Key × Dt))} (hN : X.N.Nodup) (hi : X.N[i]? = some x) (hx : Loc X.env.scope x) (he : KD X c n W e mf) (hs : swapsWith e (some (.Name x pos')) pos.line X.env = pure false := by rfl) (hf : X.fn x = true ∨ X.env.scope.names.lookup x = some .local := by first | exact .inl rfl | exact .inr rfl | assumption) :
    KS X c W (.Assign [.Name x pos'] e pos) (sSetD i mf) := psImp (ps_set hN hi hx he hs hf) fun D σ H ⟨ρ, F, h, q⟩ => by
  refine ⟨ρ, F, h, ?_⟩
  unfold sSetD bindM at q
  cases hm : mf ρ with
  | no => rw [hm] at q; exact q.elim
  | er x ρ1 => rw [hm] at q; exact LxS.lx q
  | ok ds ρ1 =>
    rw [hm] at q
    exact fun p vs F' H' s _ h' f0 h0 fr hp r => q _ F' H' s (h'.setown (s := .md ds) rfl fr ⟨p, vs, rfl, f0, h0, hp, r⟩)
def slD? (ρ : Rho) (i : Nat) : Option (List (Key × Dt)) := match ρ[i]? with
  | some (.md kvs) => some kvs
  | _ => none
/-- key in name -/
def eDIn (g : Bool → Bool) (i : Nat) (mk : Mo Dt) : Mo Dt := bindM mk fun k ρ => match keyD k, slD? ρ i with
  | some q, some kvs => .ok (.bool (g (valD kvs q).isSome)) ρ
  | _, _ => .no
theorem slD_some {ρ : Rho} {i : Nat} {kvs : List (Key × Dt)} (h : slD? ρ i = some kvs) : ρ[i]? = some (.md kvs) := by
  unfold slD? at h
  split at h
  · cases h; assumption
  · cases h
theorem din_lift {g : Bool → Bool} {σ : St} {H : Hp} {Q : VK} (h : lift RE c n W (eDIn g i mk) σ H Q) : lift RP c n W mk σ H fun y H1 => tVar i σ H1 fun x H2 => ∃ a o, x = .ref a ∧ DGet H2 a y o ∧ Q (.bl (g o.isSome)) H2 := by
  obtain ⟨ρ, F, h, k⟩ := h
  refine ⟨ρ, F, h, ?_⟩
  unfold eDIn bindM at k
  cases hm : mk ρ with
  | no => simp only [hm] at k
  | er x ρ1 => simp only [hm] at k ⊢; exact k
  | ok d ρ1 =>
    simp only [hm] at k ⊢
    intro v F1 H1 s1 n1 h1 r1
    cases hk : keyD d with
    | none => simp only [hk] at k
    | some q =>
      cases hs : slD? ρ1 i with
      | none => simp only [hk, hs] at k
      | some kvs =>
        simp only [hk, hs] at k
        obtain ⟨a, ks, e1, e2, e3, e4, e5⟩ := h1.sl i _ (slD_some hs)
        have ev := key_RP r1 hk
        subst ev
        refine ⟨_, e1, a, _, rfl, DGet.k e4, ?_⟩
        have : (valV ks q).isSome = (valD kvs q).isSome := by
          rcases e5.val q with ⟨z1, z2⟩ | ⟨v, d, z1, z2, _⟩ <;> rw [z1, z2] <;> rfl
        rw [this]
        exact k _ F1 H1 s1 n1 h1 (.bl _)
theorem k_din (hu : X.A.units + 64 < cLine) (he : KP X c n W a mk) (ho : PE X o (tVar i)) (h1 : behindInMarks .In o = false := by first | exact nobehind _ (by decide) (by decide) | rfl) : KE X c n W (.Compare a [.In] [o] pos) (eDIn id i mk) :=
  peImp (pe_cmp (pc_din (by omega) he ho) h1) fun _ _ _ h => din_lift h
theorem k_dnin (hu : X.A.units + 64 < cLine) (he : KP X c n W a mk) (ho : PE X o (tVar i)) (h1 : behindInMarks .NotIn o = false := by first | exact nobehind _ (by decide) (by decide) | rfl) : KE X c n W (.Compare a [.NotIn] [o] pos) (eDIn not i mk) :=
  peImp (pe_cmp (pc_dnotin (by omega) he ho) h1) fun _ _ _ h => din_lift h
theorem t_din (hu : X.A.units + 64 < cLine) (he : KP X c n W a mk) (ho : PE X o (tVar i)) (h1 : behindInMarks .In o = false := by first | exact nobehind _ (by decide) (by decide) | rfl) : KT X c n W (.Compare a [.In] [o] pos) (tOf (eDIn id i mk)) :=
  ptImp (pt_cmp (pc_din (by omega) he ho) h1) fun _ _ _ h => tb_lift (fun _ _ _ h => din_lift h) h
theorem t_dnin (hu : X.A.units + 64 < cLine) (he : KP X c n W a mk) (ho : PE X o (tVar i)) (h1 : behindInMarks .NotIn o = false := by first | exact nobehind _ (by decide) (by decide) | rfl) : KT X c n W (.Compare a [.NotIn] [o] pos) (tOf (eDIn not i mk)) :=
  ptImp (pt_cmp (pc_dnotin (by omega) he ho) h1) fun _ _ _ h => tb_lift (fun _ _ _ h => din_lift h) h
/-- name[key] -/
def eDGet (i : Nat) (mk : Mo Dt) : Mo Dt := fun ρ => match slD? ρ i with
  | some kvs => bindM mk (fun k ρ1 => match (keyD k).bind (valD kvs) with
    | some d => .ok d ρ1
    | none => .no) ρ
  | none => .no
theorem k_dget (hu : X.A.units + 64 < cLine) (ho : PE X o (tVar i)) (he : KE X c True W a mk) (hs : NoSl a) : KE X c n W (.Subscript o a pos) (eDGet i mk) := peImp (pe_dget (by omega) ho he hs) fun σ H Q ⟨ρ, F, h, k⟩ => by
  unfold eDGet bindM at k
  cases hs : slD? ρ i with
  | none => simp only [hs] at k
  | some kvs =>
    simp only [hs] at k
    obtain ⟨p, ks, e1, e2, e3, e4, e5⟩ := h.sl i _ (slD_some hs)
    refine ⟨_, e1, ρ, F, h, ?_⟩
    cases hm : mk ρ with
    | no => simp only [hm] at k
    | er x ρ1 => simp only [hm] at k ⊢; exact k
    | ok d ρ1 =>
      simp only [hm] at k ⊢
      intro v F1 H1 s1 n1 h1 r1
      have g1 := n1 trivial
      cases hk : keyD d with
      | none => rw [hk] at k; exact k.elim
      | some q =>
        rw [hk] at k
        have ev := key_rp r1 hk
        subst ev
        rcases e5.val q with ⟨z1, z2⟩ | ⟨v, d', z1, z2, z3⟩
        · simp only [Option.bind_some, z2] at k
        · simp only [Option.bind_some, z2] at k
          exact ⟨p, v, rfl, z1 ▸ DGet.k (g1.sH _ _ e4), k v F1 H1 s1 (fun _ => g1) h1 (rpMono s1 z3)⟩
/-- name[key] = e -/
def sDPut (i : Nat) (mk me : Mo Dt) : Mo Fl := bindM me fun d ρ1 => match slD? ρ1 i with
  | some kvs => bindM mk (fun k ρ2 => match keyD k with
    | some q => if kvs.length < sizeLine then .ok .nx (ρ2.set i (.md (putD kvs q d))) else .no
    | none => .no) ρ1
  | none => .no
theorem s_dput {pos' : Pos} (hu : X.A.units + 64 < cLine) (ho : PE X o (tVar i)) (hk : KE X c True W a mk) (he : KE X c n W e me) (hs : swapsWith e (some (.Subscript o a pos')) pos.line X.env = pure false := by rfl) :
    KS X c W (.Assign [.Subscript o a pos'] e pos) (sDPut i mk me) := psImp (ps_dput (by omega) ho hk he hs) fun D σ H ⟨ρ, F, h, q⟩ => by
  refine ⟨ρ, F, h, ?_⟩
  unfold DL.sDPut bindM at q
  cases hm : me ρ with
  | no => simp only [hm] at q; exact q.elim
  | er x ρ1 => simp only [hm] at q ⊢; exact LxS.lx q
  | ok d ρ1 =>
    simp only [hm] at q ⊢
    intro v F1 H1 s1 _ h1 r1
    cases hr : slD? ρ1 i with
    | none => simp only [hr] at q; exact q.elim
    | some kvs =>
      simp only [hr] at q
      obtain ⟨p, ks, e1, e2, e3, e4, e5⟩ := h1.sl i _ (slD_some hr)
      refine ⟨_, e1, ρ1, F1, h1, ?_⟩
      cases hk : mk ρ1 with
      | no => simp only [hk] at q; exact q.elim
      | er x ρ2 => simp only [hk] at q ⊢; exact LxS.lx (LxS.later q s1)
      | ok k ρ2 =>
        simp only [hk] at q ⊢
        intro w F2 H2 s2 n2 h2 r2
        have g2 := n2 trivial
        obtain rfl := g2.e
        cases hq : keyD k with
        | none => simp only [hq] at q; exact q.elim
        | some y =>
          simp only [hq] at q
          have ev := key_rp r2 hq
          subst ev
          by_cases hl : kvs.length < sizeLine
          · rw [if_pos hl] at q
            have e5' := KvAll.mono s2 e5
            have e2' : F2 p = none := by
              obtain ⟨a', vs', q1, q2, _⟩ := h2.sl i _ (slD_some hr)
              rw [e1] at q1; cases q1; exact q2
            exact ⟨p, _, rfl, DPut.k (g2.sH _ _ e4) (by rw [e5.len]; exact hl), q σ F2 _ (s1.trans s2) (h2.write (i := i) (slD_some hr) rfl (s' := .md (putD kvs y d)) rfl e1 ⟨p, _, rfl, e2', e3, upd_same, e5'.put y (rpMono s2 r1)⟩)⟩
          · rw [if_neg hl] at q; exact q.elim
end
end DL

set_option Elab.async false
set_option linter.all false
set_option maxRecDepth 100000
namespace DL
open PySem PySem.Spec L2
open PyProof.Rows hiding St
/-! ### max(list, default=d): the kit carries max without default -/
section
variable {prog : Program} {w : World} {A : Around} {R : Result → Shared → Prop} {I : Addr} {fp wr : List Addr} {n : Nat} {P : Nat → Value → Prop} {Z : Nat → Heap → Prop} {dk : List (Str × Value)}
theorem mx_name : (toString "max" ++ toString ".loop" : String) = "max.loop" := by decide
theorem mx_rest (V : Walks prog w A.in1 I fp wr n P Z) (bt : Nat → Nat → Bool) (hc : CmpOf prog w A.in1 .Gt P bt) (B : Addr) (nB : B ∉ fp) : ∀ (k j : Nat) (s : Shared) (u : Value) (c : Nat), n - (j + 1) = k → j + 1 ≤ n → Z (j + 1) s.heap → P (argBest bt j) u →
    s.heap.get? B = some { cls := .type "list", dict := none, data := .seq #[u, u] c, slots := #[] } → (∀ v h' tk, P (argBest bt (n - 1)) v → (∀ b o, b ∉ wr → b ≠ B → s.heap.get? b = some o → h'.get? b = some o) → R (.ok (.ret v)) { s with heap := h', toks := tk }) →
    codeAny (model prog w) A (.builtin "max.loop" ⟨[.ref I, .none, .ref B], dk⟩) R s := by
  have nW : B ∉ wr := fun h => nB (V.sub _ h)
  intro k
  induction k with
  | zero =>
    intro j s u c ek hj z pu gB fin
    have ej : j + 1 = n := by omega
    refine codeAny_builtin F.entry_max_loop ?_
    rw [Around.under_plainId F.plain_max_loop _]
    show wpAny _ A.in1 (seqItems? (.ref B) >>= _) _ _ s
    refine wpAny_bind (wpAny_seqItems gB rfl ?_)
    show wpAny _ A.in1 (tryCatch (pyNext (.ref I)) _ >>= _) _ _ s
    refine wpAny_bind (wpAny_tryCatch (V.done s _ _ (ej ▸ z) fun h' tk kp => ?_))
    have gB' := kp B _ nW gB
    show wpAny _ A.in1 (updateSeq B (fun _ => #[]) >>= _) _ _ _
    refine wpAny_bind (wpAny_updateSeq gB' rfl (wpAny_bind (wpAny_letGo (wpAny_pure ?_))))
    exact fin u _ tk (by rw [← ej]; exact pu) fun b o q1 q2 e => (Heap.get?_update_other _ _ (Ne.symm q2)).trans (kp b o q1 e)
  | succ k ih =>
    intro j s u c ek hj z pu gB fin
    have lt : j + 1 < n := by omega
    refine codeAny_builtin F.entry_max_loop ?_
    rw [Around.under_plainId F.plain_max_loop _]
    show wpAny _ A.in1 (seqItems? (.ref B) >>= _) _ _ s
    refine wpAny_bind (wpAny_seqItems gB rfl ?_)
    show wpAny _ A.in1 (tryCatch (pyNext (.ref I)) _ >>= _) _ _ s
    refine wpAny_bind (wpAny_tryCatch (V.item (j + 1) s _ _ lt z fun v h' tk pv z' kp => ?_))
    have gB' := kp B _ nW gB
    show wpAny _ A.in1 (tryCatch (holding [v, v] (richCompare .Gt v u >>= _)) _ >>= _) _ _ _
    refine wpAny_bind (wpAny_tryCatch (wpAny_holding (wpAny_bind (hc (j + 1) (argBest bt j) v u _ _ _ pv pu ?_))))
    refine wpAny_bind (wpAny_holding (wpAny_truthy_bool (wpAny_bind (wpAny_letGo (wpAny_pure ?_)))))
    cases q : bt (j + 1) (argBest bt j) with
    | true =>
      simp only [if_true]
      refine wpAny_bind (wpAny_updateSeq gB' rfl (wpAny_bind (wpAny_letGo ?_)))
      rw [mx_name]
      refine wpAny_pure ⟨plainId_quiet F.plain_max_loop _, ih (j + 1) _ v _ (by omega) lt (V.frame _ _ _ z' fun b hb o e => (Heap.get?_update_other _ _ (fun h : B = b => nB (by rw [h]; exact hb))).trans e) (by simp only [argBest, q, if_true]; exact pv) (Heap.get?_update_self _ gB' rfl) fun v' h2 tk2 p2 k2 => ?_⟩
      exact fin v' h2 tk2 p2 fun b o q1 q2 e => k2 b o q1 q2 ((Heap.get?_update_other _ _ (Ne.symm q2)).trans (kp b o q1 e))
    | false =>
      simp only [Bool.false_eq_true, if_false]
      refine wpAny_bind (wpAny_letGo ?_)
      rw [mx_name]
      exact wpAny_pure ⟨plainId_quiet F.plain_max_loop _, ih (j + 1) _ u c (by omega) lt z' (by simp only [argBest, q, Bool.false_eq_true, if_false]; exact pu) gB' fun v' h2 tk2 p2 k2 => fin v' h2 tk2 p2 fun b o q1 q2 e => k2 b o q1 q2 (kp b o q1 e)⟩
theorem mx_first (V : Walks prog w A.in1 I fp wr n P Z) (bt : Nat → Nat → Bool) (hc : CmpOf prog w A.in1 .Gt P bt) (B : Addr) (nB : B ∉ fp) {s : Shared} {c : Nat} {d : Value} (z : Z 0 s.heap)
    (gB : s.heap.get? B = some { cls := .type "list", dict := none, data := .seq #[] c, slots := #[] })
    (fin : 0 < n → ∀ v h' tk, P (argBest bt (n - 1)) v → (∀ b o, b ∉ wr → b ≠ B → s.heap.get? b = some o → h'.get? b = some o) → R (.ok (.ret v)) { s with heap := h', toks := tk })
    (fin0 : n = 0 → ∀ h' tk, (∀ b o, b ∉ wr → s.heap.get? b = some o → h'.get? b = some o) → R (.ok (.ret d)) { s with heap := h', toks := tk }) :
    codeAny (model prog w) A (.builtin "max.loop" ⟨[.ref I, .none, .ref B], [(Str.ofString "default", d)]⟩) R s := by
  have nW : B ∉ wr := fun h => nB (V.sub _ h)
  refine codeAny_builtin F.entry_max_loop ?_
  rw [Around.under_plainId F.plain_max_loop _]
  show wpAny _ A.in1 (seqItems? (.ref B) >>= _) _ _ s
  refine wpAny_bind (wpAny_seqItems gB rfl ?_)
  show wpAny _ A.in1 (tryCatch (pyNext (.ref I)) _ >>= _) _ _ s
  by_cases hn : n = 0
  · refine wpAny_bind (wpAny_tryCatch (V.done s _ _ (hn ▸ z) fun h' tk kp => ?_))
    show wpAny _ A.in1 (rule _ >>= fun _ => ret d) _ _ _
    exact wpAny_bind (wpAny_rule (wpAny_pure (fin0 hn _ tk kp)))
  · have hn : 0 < n := Nat.pos_of_ne_zero hn
    refine wpAny_bind (wpAny_tryCatch (V.item 0 s _ _ hn z fun v h' tk pv z' kp => ?_))
    have gB' := kp B _ nW gB
    show wpAny _ A.in1 (updateSeq B (fun _ => #[v, v]) >>= _) _ _ _
    refine wpAny_bind (wpAny_updateSeq gB' rfl ?_)
    rw [mx_name]
    refine wpAny_pure ⟨plainId_quiet F.plain_max_loop _, mx_rest V bt hc B nB _ 0 _ v _ rfl hn (V.frame _ _ _ z' fun b hb o e => (Heap.get?_update_other _ _ (fun h : B = b => nB (by rw [h]; exact hb))).trans e) pv (Heap.get?_update_self _ gB' rfl) fun v' h2 tk2 p2 k2 => ?_⟩
    exact fin hn v' h2 tk2 p2 fun b o q1 q2 e => k2 b o q1 q2 ((Heap.get?_update_other _ _ (Ne.symm q2)).trans (kp b o q1 e))
end
theorem args_maxd (a d : Value) : argsOk "max" ⟨[a], [(Str.ofString "default", d)]⟩ := by unfold argsOk; kernel_rfl
theorem call_kw_tree {prog : Program} {w : World} {A : Around} {E : Value → Shared → Prop} {s : Shared} {id : String} {b : Builtin} {args : List Value} {kw : List (Str × Value)} {Q : Value → Shared → Prop} (hk : builtinKind id = none) (hp : plainId id = true) (hb : entryFor table id = some b) (ha : argsOk id ⟨args, kw⟩)
    (hc : wpAny (model prog w) A.in1 (b ⟨args, kw⟩) (fun fin s' => match fin with
      | .done f => (match (Except.ok f : Result) with | .ok (.ret v) => Q v s' | .ok _ => False | .error e => E e s')
      | .again c2 => c2.quiet = true ∧ codeAny (model prog w) A c2 (fun r s2 => match r with | .ok (.ret v) => Q v s2 | .ok _ => False | .error e => E e s2) s') E s) :
    wpAny (model prog w) A (call (.builtin id) args kw) Q E s := by
  refine wpAny_call (codeAny_call_builtin hp hb ?_)
  simp only [checkBuiltinCall, hk]
  cases q : Manifest.signature? id with
  | none => exact wpAny_pure hc
  | some sig =>
    have e : Bind.checkArgs id sig ⟨args, kw⟩ = pure () := by simpa only [argsOk, q] using ha
    simp only [e]
    exact wpAny_pure hc
theorem maxd_call {prog : Program} {w : World} {A : Around} {E : Value → Shared → Prop} {s : Shared} {l : Addr} {xs : Array (Int × Tok)} {d : Value} {Q : Value → Shared → Prop} (hh : A.handled = none) (hl : s.heap.IsList l (intItems xs))
    (h1 : 0 < xs.size → ∀ v h' tk, (intItems xs)[argBest (fun i j => decide (numAt xs i > numAt xs j)) (xs.size - 1)]? = some v → (∀ b o, s.heap.get? b = some o → h'.get? b = some o) → Q v { s with heap := h', toks := tk })
    (h0 : xs.size = 0 → ∀ h' tk, (∀ b o, s.heap.get? b = some o → h'.get? b = some o) → Q d { s with heap := h', toks := tk }) :
    wpAny (model prog w) A (call (.builtin "max") [.ref l] [(Str.ofString "default", d)]) Q E s := by
  refine call_kw_tree F.kind_max F.plain_max F.entry_max (args_maxd _ _) ?_
  show wpAny _ A.in1 (Builtin.Builtins.bindParams "max" ["key", "default"] 0 ⟨[], [(Str.ofString "default", d)]⟩ >>= _) _ _ s
  refine wpAny_bind (wpAny_of_eq (show Builtin.Builtins.bindParams "max" ["key", "default"] 0 ⟨[], [(Str.ofString "default", d)]⟩ = pure [none, some d] from rfl) ?_)
  refine wpAny_bind (wpAny_pure ?_)
  refine wpAny_bind (iter_intList hl fun s2 e st hfp ne => ?_)
  subst e
  refine wpAny_bind (wpAny_newObj_type ?_)
  have V := Walks.list (prog := prog) (w := w) (A := A.in1) hh s.heap.objs.size l ne (intItems xs)
  have nB := fun hm => Nat.lt_irrefl _ (hfp _ hm)
  rw [mx_name]
  have sz : (intItems xs).size = xs.size := by simp [intItems]
  refine wpAny_pure ⟨plainId_quiet F.plain_max_loop _, mx_first V _ (CmpOf.ints_gt (numAt xs) fun _ _ => intItems_at) _ nB (V.frame _ _ _ st fun b _ o e => Heap.get?_push_of_some _ e) (Heap.get?_push_size _ rfl) (fun hn v h' tk pv kp => ?_) fun hn h' tk kp => ?_⟩
  · refine h1 (sz ▸ hn) v h' tk (by rw [← sz]; exact pv) (old_kept fun b o hb e => kp b o hb (Nat.ne_of_lt (Heap.lt_size e)) (Heap.get?_push_of_some _ e))
  · exact h0 (sz ▸ hn) h' tk (old_kept fun b o hb e => kp b o hb (Heap.get?_push_of_some _ e))
end DL

set_option Elab.async false
set_option linter.all false
set_option maxRecDepth 100000
namespace DL
open PySem PySem.Spec L2
open PyProof.Rows hiding St
section
variable {X : Cx} {c : Cd} {n : Prop} {W : WX} {mo me mf : Mo Dt} {o e f : Expr} {apos pos p kpos : Pos}
/-! ### max(list, default=d) -/
def rMaxDef (K : PySem.W.Frag) : List V → List V → Hp → VK → Prop := fun xs zs H Q => ∃ (a : Addr) (ns : List Int) (d : Int), xs = [.ref a] ∧ zs = [.int d] ∧ SqL K H a (ns.map V.int) ∧ (ns = [] → Q (.int d) H) ∧ ∀ m, m ∈ ns → (∀ y ∈ ns, y ≤ m) → Q (.int m) H
theorem cr_maxDef (hc : X.calm = true) : CallRK X (.builtin "max") [Str.ofString "default"] (rMaxDef X.K) := by
  intro pins s σ H xs zs us ws Q I r rz h
  obtain ⟨a, ns, d, rfl, rfl, hs, q0, q⟩ := h
  obtain ⟨its, rv, hl, _⟩ := I.list hs
  obtain rfl := Vals.ref1 r
  obtain ⟨w1, rfl, td, rfl⟩ := vals1 rz
  have hi := rv.ints
  obtain ⟨ys, e⟩ := hi.allInts.items
  have hn : numsOf (intItems ys).toList = ns := by rw [← e]; exact hi.numsOf
  rw [nums_intItems] at hn
  subst hn
  have hl2 := hl.isList
  rw [e] at hl2
  show wpAny _ _ (call (.builtin "max") [.ref a] [(Str.ofString "default", .int d td)]) _ _ s
  refine maxd_call (I.ok.hd hc) hl2 (fun hn v h' tk hv hk => ?_) fun hn h' tk hk => ?_
  · obtain ⟨t, rfl⟩ := intItems_at hv
    obtain ⟨h1, h2⟩ := argBest_gt (numAt ys) (ys.size - 1)
    refine ⟨.int _, H, I.kept hk, ⟨_, rfl⟩, q _ ?_ fun y hy => ?_⟩
    · rw [numAt_eq]; exact PySem.getD_mem (by rw [List.length_map, Array.length_toList]; omega)
    · obtain ⟨j, hj, rfl⟩ := mem_getD hy
      rw [List.length_map, Array.length_toList] at hj
      rw [← numAt_eq]; exact h2 j (by omega)
  · refine ⟨.int _, H, I.kept hk, ⟨_, rfl⟩, q0 ?_⟩
    have e0 : ys.toList = [] := List.length_eq_zero_iff.mp (by rw [Array.length_toList]; exact hn)
    rw [e0]; rfl
def maxDefD : Dt → Dt → Option Dt
  | .list xs, .int d => (intsOf xs).map fun ns => .int (if ns = [] then d else maxI ns)
  | _, _ => none
theorem sem_maxDef {σ : St} {H : Hp} {Q : VK} {ρ : Rho} {F : Hp} {u w : V} {x y z : Dt} (hh : Holds c ρ F σ H) (ru : RP c F H u x) (rw' : Rp c.K F w y) (hz : maxDefD x y = some z) (q : ∀ w F' H', Same F F' → Kept ρ F H ρ F' H' → Holds c ρ F' σ H' → Rp c.K F' w z → Q w H') : rMaxDef c.K [u] [w] H Q := by
  unfold maxDefD at hz
  split at hz
  · rename_i xs d
    cases hi : intsOf xs with
    | none => rw [hi] at hz; cases hz
    | some ns =>
      rw [hi] at hz
      cases hz
      obtain rfl := intsOf_eq hi
      obtain ⟨a, vs, rfl, e1, e2⟩ := ru.lst hh.sub
      rw [e2.ints] at e1
      cases rw'
      refine ⟨a, ns, d, rfl, rfl, SqL.of e1, fun e => ?_, fun m hm h => ?_⟩
      · subst e
        exact flat hh q (.int _)
      · have ne : ns ≠ [] := fun e => by subst e; cases hm
        obtain ⟨h1, h2⟩ := maxI_spec ne
        have : maxI ns = m := Int.le_antisymm (h _ h1) (h2 m hm)
        have z := flat hh q (.int _)
        rw [if_neg ne, this] at z
        exact z
  · cases hz
theorem k_maxDef (hc : X.calm = true) (hK : X.K = c.K) (hg : Gl X "max") (hm : X.mg "max" = none) (he : KP X c n W e me) (hf : KE X c True W f mf)
    (h1 : backTo pos (starEach [e] X.env) = (false, eval e X.env) :: backTo pos (starEach [] X.env) := by rfl) (h2 : (backTo pos (starEach [e] X.env)).any (·.1) = false := by rfl)
    (h3 : (backToKw pos (keywordEach [⟨some "default", f, kpos⟩] X.env)).all (·.1.isSome) = true := by rfl) (h4 : (backToKw pos (keywordEach [⟨some "default", f, kpos⟩] X.env)).any (·.1.isNone) = false := by rfl)
    (h5 : (backToKw pos (keywordEach [⟨some "default", f, kpos⟩] X.env)).filterMap (·.1) = [Str.ofString "default"] := by rfl) (h6 : starEach [e] X.env = (false, eval e X.env) :: starEach [] X.env := by rfl) :
    KE X c n W (.Call (.Name "max" p) [e] [⟨some "default", f, kpos⟩] pos) (eOp maxDefD me mf) :=
  peImp (pe_callBK (cr_maxDef hc) hg hm (by decide +kernel) (pa_cons he pa_nil h6) (pk_cons hf pk_nil) (by decide) (by decide) h1 h2 h3 h4 h5) fun σ H Q ⟨ρ, F, h, k⟩ => by
    refine ⟨ρ, F, h, ?_⟩
    unfold eOp bindM at k
    cases ha : me ρ with
    | no => simp only [ha] at k
    | er x ρ1 => simp only [ha] at k ⊢; exact k
    | ok x ρ1 =>
      simp only [ha] at k ⊢
      intro v F1 H1 s1 n1 h1 r1
      refine ⟨ρ1, F1, h1, ?_⟩
      cases hb : mf ρ1 with
      | no => simp only [hb] at k
      | er x ρ2 => simp only [hb] at k ⊢; exact k.later s1
      | ok y ρ2 =>
        simp only [hb] at k ⊢
        intro u F2 H2 s2 n2 h2 r2
        have g2 := n2 trivial
        unfold ofO at k
        cases hf : maxDefD x y with
        | none => simp only [hf] at k
        | some z =>
          simp only [hf] at k
          rw [hK]
          exact sem_maxDef h2 (r1.mono s2 g2.sH) r2 hf fun w F3 H3 s3 g3 h3 r3 => k w F3 H3 (s1.trans (s2.trans s3)) (fun hn => (n1 hn).trans (g2.trans g3)) h3 r3
/-! ### tuple.index, list.index, of texts -/
def tixD : Dt → Dt → Option Dt
  | .tuple xs, .str z => (strsOf xs).bind fun ys => (ys.findIdx? fun y => decide (y = z)).map fun j => .int j
  | _, _ => none
def lixD : Dt → Dt → Option Dt
  | .list xs, .str z => (strsOf xs).bind fun ys => (ys.findIdx? fun y => decide (y = z)).map fun j => .int j
  | _, _ => none
theorem find_is {ys : List Str} {z : Str} {j : Nat} (h : (ys.findIdx? fun y => decide (y = z)) = some j) : ys[j]? = some z ∧ ∀ m, m < j → ys[m]? ≠ some z := by
  obtain ⟨hj, h1, h2⟩ := List.findIdx?_eq_some_iff_getElem.mp h
  rw [decide_eq_true_eq] at h1
  refine ⟨by rw [List.getElem?_eq_getElem hj, h1], fun m hm e => h2 m hm ?_⟩
  have hm2 : m < ys.length := Nat.lt_trans hm hj
  rw [List.getElem?_eq_getElem hm2] at e
  rw [decide_eq_true_eq]
  exact Option.some.inj e
/-- a constant tuple's index -/
theorem tix_some {x y z : Dt} (h : tixD x y = some z) : ∃ (ys : List Str) (w : Str) (j : Nat), x = .tuple (ys.map .str) ∧ y = .str w ∧ (ys.findIdx? fun y => decide (y = w)) = some j ∧ z = .int j := by
  unfold tixD at h
  split at h
  · rename_i xs w
    cases hs : strsOf xs with
    | none => rw [hs] at h; cases h
    | some ys =>
      rw [hs] at h
      simp only [Option.bind_some] at h
      cases hj : ys.findIdx? fun y => decide (y = w) with
      | none => rw [hj] at h; cases h
      | some j => rw [hj] at h; cases h; exact ⟨ys, w, j, by rw [strsOf_eq hs], rfl, hj, rfl⟩
  · cases h
theorem lix_some {x y z : Dt} (h : lixD x y = some z) : ∃ (ys : List Str) (w : Str) (j : Nat), x = .list (ys.map .str) ∧ y = .str w ∧ (ys.findIdx? fun y => decide (y = w)) = some j ∧ z = .int j := by
  unfold lixD at h
  split at h
  · rename_i xs w
    cases hs : strsOf xs with
    | none => rw [hs] at h; cases h
    | some ys =>
      rw [hs] at h
      simp only [Option.bind_some] at h
      cases hj : ys.findIdx? fun y => decide (y = w) with
      | none => rw [hj] at h; cases h
      | some j => rw [hj] at h; cases h; exact ⟨ys, w, j, by rw [strsOf_eq hs], rfl, hj, rfl⟩
  · cases h
theorem k_tix {a : Addr} {ob : Obj} {d : Dt} (hK : X.K = c.K) (ho : PE X o (tC (.ref a))) (hl : X.K.lookup a = some ob) (hc : ob.cls = .type "tuple") (hd : ob.dict = none) (r : ∀ F, Rp c.K F (.ref a) d) (he : KE X c n W e me)
    (h1 : attributeBase o "index" X.env (eval o X.env) = eval o X.env := by rfl)
    (h2 : ((backTo pos (starEach [e] X.env)).all (fun x => !x.1) && (backToKw pos (keywordEach [] X.env)).all (fun x => x.1.isSome) && decide ([e].length + ([] : List Keyword).length + (if ([] : List Keyword).isEmpty then 0 else 1) < 30)) = true := by rfl)
    (h3 : (apos.endLine == pos.line) = true := by rfl) (h4 : starEach [e] X.env = (false, eval e X.env) :: starEach [] X.env := by rfl) (h5 : (backTo pos (starEach [] X.env)).any (·.1) = false := by rfl) :
    KE X c n W (.Call (.Attribute o "index" apos) [e] [] pos) (eOp tixD (eC d) me) :=
  peImp (pe_bm PySem.F.plainAttrs_tuple PySem.F.slot_tuple_index PySem.F.type_tuple_index mt_tup_index ho (pa_cons he pa_nil h4) h1 h2 h3 h4 h5) fun σ H Q ⟨ρ, F, h, k⟩ => by
    refine ⟨.inr (.inl ⟨rfl, ob, hl, hc, hd⟩), ρ, F, h, ?_⟩
    unfold eOp eC bindM at k
    simp only at k
    cases hb : me ρ with
    | no => simp only [hb] at k
    | er x ρ2 => simp only [hb] at k ⊢; exact k
    | ok y ρ2 =>
      simp only [hb] at k ⊢
      intro u F2 H2 s2 n2 h2 r2
      unfold ofO at k
      cases hf : tixD d y with
      | none => simp only [hf] at k
      | some z =>
        simp only [hf] at k
        obtain ⟨ys, w, j, rfl, rfl, hj, rfl⟩ := tix_some hf
        have r0 := r F2
        generalize hL : ys.map PyData.str = L at r0
        cases r0 with
        | @tup _ vs _ e1 r1 =>
          rw [← hL] at r1
          rw [r1.strs] at e1
          cases r2
          obtain ⟨q1, q2⟩ := find_is hj
          exact ⟨a, ys, w, j, rfl, rfl, by rw [hK]; exact sameT h2.sub e1, q1, q2, k _ F2 H2 s2 n2 h2 (.int _)⟩
def eLix (mo me : Mo Dt) : Mo Dt := bindM mo fun x => match x with
  | .list xs => bindM me fun y => ofO (lixD (.list xs) y)
  | _ => fun _ => .no
/-- a list's index -/
theorem k_lix (hK : X.K = c.K) (ho : KE X c n W o mo) (he : KE X c True W e me)
    (h1 : attributeBase o "index" X.env (eval o X.env) = eval o X.env := by rfl)
    (h2 : ((backTo pos (starEach [e] X.env)).all (fun x => !x.1) && (backToKw pos (keywordEach [] X.env)).all (fun x => x.1.isSome) && decide ([e].length + ([] : List Keyword).length + (if ([] : List Keyword).isEmpty then 0 else 1) < 30)) = true := by rfl)
    (h3 : (apos.endLine == pos.line) = true := by rfl) (h4 : starEach [e] X.env = (false, eval e X.env) :: starEach [] X.env := by rfl) (h5 : (backTo pos (starEach [] X.env)).any (·.1) = false := by rfl) :
    KE X c n W (.Call (.Attribute o "index" apos) [e] [] pos) (eLix mo me) :=
  peImp (pe_bm PySem.F.plainAttrs_list PySem.F.slot_list_index PySem.F.type_list_index mt_index ho (pa_cons he pa_nil h4) h1 h2 h3 h4 h5) fun σ H Q ⟨ρ, F, h, k⟩ => by
    refine ⟨ρ, F, h, ?_⟩
    unfold eLix bindM at k
    cases ha : mo ρ with
    | no => simp only [ha] at k
    | er x ρ1 => simp only [ha] at k ⊢; exact k
    | ok x ρ1 =>
      simp only [ha] at k ⊢
      intro v F1 H1 s1 n1 h1 r1
      cases x with
      | list xs =>
        simp only at k
        cases r1 with
        | @lst a vs _ e1 r1 =>
          refine ⟨.inl ⟨rfl, vs, by rw [hK]; exact SqL.of (h1.sub _ _ e1)⟩, ρ1, F1, h1, ?_⟩
          cases hb : me ρ1 with
          | no => simp only [hb] at k
          | er y ρ2 => simp only [hb] at k ⊢; exact k.later s1
          | ok y ρ2 =>
            simp only [hb] at k ⊢
            intro u F2 H2 s2 n2 h2 r2
            have g2 := n2 trivial
            unfold ofO at k
            cases hf : lixD (.list xs) y with
            | none => simp only [hf] at k
            | some z =>
              simp only [hf] at k
              obtain ⟨ys, w, j, ex, rfl, hj, rfl⟩ := lix_some hf
              cases ex
              rw [r1.strs] at e1
              cases r2
              obtain ⟨q1, q2⟩ := find_is hj
              refine ⟨a, ys.map V.str, .str w, j, .str w, rfl, rfl, SqL.of (h2.sub _ _ (s2 _ _ e1)), rfl, ?_, by rw [List.getElem?_map, q1]; rfl, by simp [eqV], fun m z' hm hz => ?_, k _ F2 H2 (s1.trans s2) (fun hn => (n1 hn).trans g2) h2 (.int _)⟩
              · rw [List.all_map, List.all_eq_true]; intro _ _; rfl
              · rw [List.getElem?_map] at hz
                cases hy : ys[m]? with
                | none => rw [hy] at hz; cases hz
                | some t =>
                  rw [hy] at hz
                  cases hz
                  have : t ≠ w := fun e => q2 m hm (by rw [hy, e])
                  simp [eqV, this]
      | _ => simp only at k
end
end DL

set_option Elab.async false
set_option linter.all false
set_option maxRecDepth 100000
namespace DL
open PySem PySem.Spec L2
open PyProof.Rows hiding St
/-! ### targets within targets -/
def tsNil : List Dt → Rho → Option Rho
  | [], ρ => some ρ
  | _ :: _, _ => none
def tsCons (T : Dt → Rho → Option Rho) (U : List Dt → Rho → Option Rho) : List Dt → Rho → Option Rho
  | [], _ => none
  | d :: ds, ρ => (T d ρ).bind (U ds)
def tgX (U : List Dt → Rho → Option Rho) : Dt → Rho → Option Rho := fun d ρ => match d with
  | .tuple ds => U ds ρ
  | _ => none
structure SemGs (c : Cd) (k : Nat) (u : TGs) (is : List Nat) (U : List Dt → Rho → Option Rho) : Prop where
  len : ∀ ds ρ ρ', U ds ρ = some ρ' → ds.length = k
  run : ∀ ρ F σ H vs ds ρ' (Q : St → Hp → Prop), Holds c ρ F σ H → RpA c.K F vs ds → U ds ρ = some ρ' → (∀ σ', Holds c ρ' F σ' H → (∀ vs : List Nat, (∀ k ∈ is, k ∈ vs) → wipe σ' vs = wipe σ vs) → Q σ' H) → u vs σ H Q
section
variable {c : Cd} {g : TG} {u : TGs} {is js : List Nat} {T : Dt → Rho → Option Rho} {U : List Dt → Rho → Option Rho} {k : Nat}
theorem sems_nil : SemGs c 0 gNil [] tsNil := by
  refine ⟨fun ds ρ ρ' h => ?_, fun ρ F σ H vs ds ρ' Q h r e q => ?_⟩
  · cases ds with
    | nil => rfl
    | cons _ _ => cases h
  · cases r with
    | nil => cases e; exact ⟨rfl, q _ h fun _ _ => rfl⟩
    | cons _ _ => cases e
theorem sems_cons (S : SemG c g is T) (Z : SemGs c k u js U) : SemGs c (k + 1) (gCons g u) (is ++ js) (tsCons T U) := by
  refine ⟨fun ds ρ ρ' h => ?_, fun ρ F σ H vs ds ρ' Q h r e q => ?_⟩
  · cases ds with
    | nil => cases h
    | cons d ds =>
      obtain ⟨ρ1, _, h2⟩ := Option.bind_eq_some_iff.mp h
      rw [List.length_cons, Z.len _ _ _ h2]
  · cases r with
    | nil => cases e
    | cons a t =>
      obtain ⟨ρ1, h1, h2⟩ := Option.bind_eq_some_iff.mp e
      refine ⟨_, _, rfl, S ρ F σ H _ _ ρ1 _ h a h1 fun σ1 hh hw => ?_⟩
      exact Z.run ρ1 F σ1 H _ _ ρ' Q hh t h2 fun σ2 h3 hw2 => q σ2 h3 fun vs hv => by
        rw [hw2 vs fun k hk => hv k (List.mem_append_right _ hk), hw vs fun k hk => hv k (List.mem_append_left _ hk)]
theorem sem_tupX (Z : SemGs c k u is U) : SemG c (gTup c.K k u) is (tgX U) := by
  intro ρ F σ H v d ρ' Q h r e q
  unfold tgX at e
  cases d with
  | tuple ds =>
    cases r with
    | tup e1 t => exact ⟨_, _, rfl, sameT h.sub e1, by rw [t.len, Z.len _ _ _ e], Z.run ρ F σ H _ _ ρ' Q h t e q⟩
  | _ => cases e
end
end DL

set_option Elab.async false
set_option linter.all false
set_option maxRecDepth 100000
namespace DL
open PySem PySem.Spec L2
open PyProof.Rows hiding St
section
variable {X : Cx} {c : Cd} {n : Prop} {W : WX} {o e : Expr} {apos pos : Pos} {mo me : Mo Dt}
theorem rpa_strs {K : PySem.W.Frag} {F : Hp} : ∀ l : List Str, RpA K F (l.map V.str) (l.map PyData.str)
  | [] => .nil
  | x :: l => .cons (.str x) (rpa_strs l)
/-- text.split(sep) -/
def splitD (s : Str) : Dt → Option (List Dt)
  | .str y => if (y.length == 0) = false ∧ s.length + 2 ≤ sizeLine then some ((Txt.split s y).map .str) else none
  | _ => none
theorem sem_split : SemMF c (fun x xs H Q => ∃ a b, x = V.str a ∧ xs = [V.str b] ∧ (b.length == 0) = false ∧ a.length + 2 ≤ sizeLine ∧ rNewStrs (Txt.split a b) H Q) splitD := by
  intro ρ F σ H s u y z Q hh ry hf q
  unfold splitD at hf
  split at hf
  · split at hf
    · rename_i hz
      cases hf
      refine ⟨s, _, rfl, by rw [ry.str], hz.1, hz.2, fun p hp => ?_⟩
      exact newL hh q (rpa_strs _) p hp
    · cases hf
  · cases hf
theorem kf_split (ho : KE X c n W o mo) (he : KP X c True W e me)
    (h1 : starEach [e] X.env = [(false, eval e X.env)] := by rfl) (h2 : attributeBase o "split" X.env (eval o X.env) = eval o X.env := by rfl) (h3 : (apos.endLine == pos.line) = true := by rfl) :
    KF X c n W (.Call (.Attribute o "split" apos) [e] [] pos) (eM1F splitD mo me) := kf_m1 sem_split PySem.F.slot_str_split PySem.F.type_str_split mt_split ho he h1 h2 h3
/-- text.index(sign) that is there -/
def sixD (s : Str) : Dt → Option Dt
  | .str y => match Builtin.Str.occurrences s y 0 s.length 1 with
    | i :: _ => some (.int (i : Nat))
    | [] => none
  | _ => none
theorem sem_six : SemM c (fun x xs H Q => ∃ a b i rest, x = V.str a ∧ xs = [V.str b] ∧ Builtin.Str.occurrences a b 0 a.length 1 = i :: rest ∧ Q (V.int (i : Nat)) H) sixD := by
  intro ρ F σ H s u y z Q hh ry hf q
  unfold sixD at hf
  split at hf
  · split at hf
    · rename_i i rest ho
      cases hf
      exact ⟨s, _, i, rest, rfl, by rw [ry.str], ho, flat hh q (.int _)⟩
    · cases hf
  · cases hf
theorem k_six (ho : KE X c n W o mo) (he : KP X c True W e me)
    (h1 : starEach [e] X.env = [(false, eval e X.env)] := by rfl) (h2 : attributeBase o "index" X.env (eval o X.env) = eval o X.env := by rfl) (h3 : (apos.endLine == pos.line) = true := by rfl) :
    KE X c n W (.Call (.Attribute o "index" apos) [e] [] pos) (eM1 sixD mo me) := k_m1 sem_six PySem.F.slot_str_index PySem.F.type_str_index mt_sindex ho he h1 h2 h3
end
end DL

set_option Elab.async false
set_option linter.all false
set_option maxRecDepth 100000
namespace DL
open PySem PySem.Spec L2
open PyProof.Rows hiding St
/-! ### what a mirror comes to -/
def Ok {α : Type} (m : Mo α) (ρ : Rho) (Q : α → Rho → Prop) (E : Ex → Rho → Prop) : Prop := match m ρ with
  | .ok a ρ' => Q a ρ'
  | .er x ρ' => E x ρ'
  | .no => False
def okO {α : Type} (o : Option α) (Q : α → Prop) : Prop := match o with
  | some a => Q a
  | none => False
def slV (o : Option Sl) (Q : Dt → Prop) : Prop := match o with
  | some (.va d) => Q d
  | _ => False
def slP (o : Option Sl) (Q : Dt → Prop) : Prop := match o with
  | some (.va d) => Q d
  | some (.ml ds) => Q (.list ds)
  | _ => False
def slZ (o : Option Sl) (Q : Dt → Prop) (R : List Dt → Prop) : Prop := match o with
  | some (.va d) => Q d
  | some (.ml ds) => R ds
  | _ => False
def slM (o : Option Sl) (R : List Dt → Prop) : Prop := match o with
  | some (.ml ds) => R ds
  | _ => False
def isB (x : Dt) (Q : Bool → Prop) : Prop := match x with
  | .bool b => Q b
  | _ => False
def isI (x : Dt) (Q : Int → Prop) : Prop := match x with
  | .int b => Q b
  | _ => False
def isS (x : Dt) (Q : Str → Prop) : Prop := match x with
  | .str b => Q b
  | _ => False
def isL (x : Dt) (Q : List Dt → Prop) : Prop := match x with
  | .list b => Q b
  | _ => False
def itO (x : Dt) (Q : List Dt → Prop) : Prop := match x with
  | .list ds => Q ds
  | .tuple ds => Q ds
  | .str z => Q (signsD z)
  | _ => False
def isVl (x : Vl) (Q : Dt → Prop) (R : List Dt → Prop) : Prop := match x with
  | .z d => Q d
  | .f ds => R ds
def nxF (fl : Fl) (P R : Prop) : Prop := match fl with
  | .nx => P
  | _ => R
def endF (fl : Fl) (Q : Dt → Prop) (QF : List Dt → Prop) : Prop := match fl with
  | .nx => Q .none
  | .rt d => Q d
  | .ro ds => QF ds
  | _ => False
def okR (fo : Fo) (Q : Dt → Prop) (QF : List Dt → Prop) (E : Ex → Prop) : Prop := match fo with
  | .ok d => Q d
  | .fr ds => QF ds
  | .er x => E x
  | .no => False
abbrev noE : Ex → Rho → Prop := fun _ _ => False
abbrev noX : Ex → Prop := fun _ => False
section
variable {α β : Type} {ρ : Rho} {E : Ex → Rho → Prop} {m ma mb mc : Mo Dt} {ms : Mo (List Dt)} {mt m1 m2 : Mo Bool} {s1 s2 : Mo Fl} {i j : Nat} {Q : Dt → Rho → Prop} {QL : List Dt → Rho → Prop} {QB : Bool → Rho → Prop} {QS : Fl → Rho → Prop}
theorem okO_some {a : α} {Q : α → Prop} : okO (some a) Q ↔ Q a := Iff.rfl
theorem slV_va {d : Dt} {Q : Dt → Prop} : slV (some (.va d)) Q ↔ Q d := Iff.rfl
theorem slP_va {d : Dt} {Q : Dt → Prop} : slP (some (.va d)) Q ↔ Q d := Iff.rfl
theorem slP_ml {d : List Dt} {Q : Dt → Prop} : slP (some (.ml d)) Q ↔ Q (.list d) := Iff.rfl
theorem slZ_va {d : Dt} {Q : Dt → Prop} {R : List Dt → Prop} : slZ (some (.va d)) Q R ↔ Q d := Iff.rfl
theorem slZ_ml {d : List Dt} {Q : Dt → Prop} {R : List Dt → Prop} : slZ (some (.ml d)) Q R ↔ R d := Iff.rfl
theorem slM_ml {d : List Dt} {R : List Dt → Prop} : slM (some (.ml d)) R ↔ R d := Iff.rfl
theorem isB_b {b : Bool} {Q : Bool → Prop} : isB (.bool b) Q ↔ Q b := Iff.rfl
theorem isI_i {b : Int} {Q : Int → Prop} : isI (.int b) Q ↔ Q b := Iff.rfl
theorem isS_s {b : Str} {Q : Str → Prop} : isS (.str b) Q ↔ Q b := Iff.rfl
theorem isL_l {b : List Dt} {Q : List Dt → Prop} : isL (.list b) Q ↔ Q b := Iff.rfl
theorem itO_l {b : List Dt} {Q : List Dt → Prop} : itO (.list b) Q ↔ Q b := Iff.rfl
theorem itO_t {b : List Dt} {Q : List Dt → Prop} : itO (.tuple b) Q ↔ Q b := Iff.rfl
theorem itO_s {b : Str} {Q : List Dt → Prop} : itO (.str b) Q ↔ Q (signsD b) := Iff.rfl
theorem isVl_z {d : Dt} {Q : Dt → Prop} {R : List Dt → Prop} : isVl (.z d) Q R ↔ Q d := Iff.rfl
theorem isVl_f {d : List Dt} {Q : Dt → Prop} {R : List Dt → Prop} : isVl (.f d) Q R ↔ R d := Iff.rfl
theorem nxF_nx {P R : Prop} : nxF .nx P R ↔ P := Iff.rfl
theorem nxF_rt {P R : Prop} {d : Dt} : nxF (.rt d) P R ↔ R := Iff.rfl
theorem nxF_ro {P R : Prop} {d : List Dt} : nxF (.ro d) P R ↔ R := Iff.rfl
theorem nxF_bk {P R : Prop} : nxF .bk P R ↔ R := Iff.rfl
theorem nxF_ct {P R : Prop} : nxF .ct P R ↔ R := Iff.rfl
theorem endF_nx {Q : Dt → Prop} {R : List Dt → Prop} : endF .nx Q R ↔ Q .none := Iff.rfl
theorem endF_rt {Q : Dt → Prop} {R : List Dt → Prop} {d : Dt} : endF (.rt d) Q R ↔ Q d := Iff.rfl
theorem endF_ro {Q : Dt → Prop} {R : List Dt → Prop} {d : List Dt} : endF (.ro d) Q R ↔ R d := Iff.rfl
theorem okR_ok {d : Dt} {Q : Dt → Prop} {R : List Dt → Prop} {E : Ex → Prop} : okR (.ok d) Q R E ↔ Q d := Iff.rfl
theorem okR_fr {d : List Dt} {Q : Dt → Prop} {R : List Dt → Prop} {E : Ex → Prop} : okR (.fr d) Q R E ↔ R d := Iff.rfl
theorem okR_er {d : Ex} {Q : Dt → Prop} {R : List Dt → Prop} {E : Ex → Prop} : okR (.er d) Q R E ↔ E d := Iff.rfl
theorem g_bind {m : Mo α} {f : α → Mo β} {Q : β → Rho → Prop} : Ok (bindM m f) ρ Q E ↔ Ok m ρ (fun a ρ' => Ok (f a) ρ' Q E) E := by
  unfold Ok bindM
  cases m ρ <;> exact Iff.rfl
theorem g_imp {m : Mo α} {Q Q' : α → Rho → Prop} {E E' : Ex → Rho → Prop} (h : Ok m ρ Q E) (k : ∀ a ρ', Q a ρ' → Q' a ρ') (kE : ∀ a ρ', E a ρ' → E' a ρ') : Ok m ρ Q' E' := by
  unfold Ok at h ⊢
  cases hm : m ρ with
  | ok a r => rw [hm] at h; exact k _ _ h
  | er a r => rw [hm] at h; exact kE _ _ h
  | no => rw [hm] at h; exact h
theorem g_ok {a : α} {Q : α → Rho → Prop} : Ok (fun ρ => .ok a ρ) ρ Q E ↔ Q a ρ := Iff.rfl
theorem g_ofO {o : Option α} {Q : α → Rho → Prop} : Ok (ofO o) ρ Q E ↔ okO o fun a => Q a ρ := by
  unfold Ok ofO okO
  cases o <;> exact Iff.rfl
theorem g_var : Ok (eVar i) ρ Q E ↔ slV ρ[i]? fun d => Q d ρ := by
  unfold Ok eVar slV
  rcases ρ[i]? with _ | (_ | _ | _ | _) <;> exact Iff.rfl
theorem g_peek : Ok (ePeek i) ρ Q E ↔ slP ρ[i]? fun d => Q d ρ := by
  unfold Ok ePeek slP
  rcases ρ[i]? with _ | (_ | _ | _ | _) <;> exact Iff.rfl
theorem g_frz : Ok (eFrz i) ρ Q E ↔ slZ ρ[i]? (fun d => Q d ρ) fun ds => Q (.list ds) (ρ.set i (.va (.list ds))) := by
  unfold Ok eFrz slZ
  rcases ρ[i]? with _ | (_ | _ | _ | _) <;> exact Iff.rfl
theorem g_C {d : Dt} : Ok (eC d) ρ Q E ↔ Q d ρ := Iff.rfl
theorem g_op {f : Dt → Dt → Option Dt} : Ok (eOp f ma mb) ρ Q E ↔ Ok ma ρ (fun x ρ1 => Ok mb ρ1 (fun y ρ2 => okO (f x y) fun z => Q z ρ2) E) E := by
  unfold eOp
  simp only [g_bind, g_ofO]
theorem g_opF {f : Dt → Dt → Option (List Dt)} : Ok (eOpF f ma mb) ρ QL E ↔ Ok ma ρ (fun x ρ1 => Ok mb ρ1 (fun y ρ2 => okO (f x y) fun z => QL z ρ2) E) E := by
  unfold eOpF
  simp only [g_bind, g_ofO]
theorem g_tOf : Ok (tOf m) ρ QB E ↔ Ok m ρ (fun x ρ' => isB x fun b => QB b ρ') E := by
  unfold tOf
  rw [g_bind]
  unfold Ok isB
  cases m ρ with
  | ok a r => cases a <;> exact Iff.rfl
  | _ => exact Iff.rfl
theorem g_B {g : List Dt → Option Dt} : Ok (eB g ms) ρ Q E ↔ Ok ms ρ (fun ds ρ' => okO (g ds) fun z => Q z ρ') E := by
  unfold eB
  simp only [g_bind, g_ofO]
theorem g_BF {g : List Dt → Option (List Dt)} : Ok (eBF g ms) ρ QL E ↔ Ok ms ρ (fun ds ρ' => okO (g ds) fun z => QL z ρ') E := by
  unfold eBF
  simp only [g_bind, g_ofO]
theorem g_nil : Ok eNil ρ QL E ↔ QL [] ρ := Iff.rfl
theorem g_cons : Ok (eCons m ms) ρ QL E ↔ Ok m ρ (fun x ρ1 => Ok ms ρ1 (fun xs ρ2 => QL (x :: xs) ρ2) E) E := by
  unfold eCons
  simp only [g_bind, g_ok]
theorem ok_ite {c : Prop} [Decidable c] {m1 m2 : Mo α} {Q : α → Rho → Prop} : Ok (if c then m1 else m2) ρ Q E ↔ if c then Ok m1 ρ Q E else Ok m2 ρ Q E := by
  by_cases h : c <;> simp [h]
theorem ok_rif {c : Prop} [Decidable c] {a : α} {Q : α → Rho → Prop} : Ok (fun ρ => if c then .ok a ρ else .no) ρ Q E ↔ c ∧ Q a ρ := by
  unfold Ok
  by_cases h : c <;> simp [h]
theorem g_tup : Ok (eTup ms) ρ Q E ↔ Ok ms ρ (fun xs ρ' => xs.length ≤ 1000 ∧ Q (.tuple xs) ρ') E := by
  unfold eTup
  simp only [g_bind, ok_rif]
theorem g_lst : Ok (eLst ms) ρ QL E ↔ Ok ms ρ (fun xs ρ' => xs.length ≤ 1000 ∧ QL xs ρ') E := by
  unfold eLst
  simp only [g_bind, ok_rif]
theorem g_fz : Ok (eFz ms) ρ Q E ↔ Ok ms ρ (fun xs ρ' => Q (.list xs) ρ') E := by
  simp only [eFz, Ok]
  cases ms ρ <;> exact Iff.rfl
theorem g_call {G : List Dt → Fo} : Ok (eCall G ms) ρ Q E ↔ Ok ms ρ (fun ds ρ' => okR (G ds) (fun d => Q d ρ') (fun es => Q (.list es) ρ') fun x => E x ρ') E := by
  unfold eCall
  rw [g_bind]
  refine iff_of_eq (congrArg (fun z => Ok ms ρ z E) ?_)
  funext ds ρ'
  unfold Ok okR
  cases G ds <;> rfl
theorem g_callF {G : List Dt → Fo} : Ok (eCallF G ms) ρ QL E ↔ Ok ms ρ (fun ds ρ' => okR (G ds) (fun d => False) (fun es => QL es ρ') fun x => E x ρ') E := by
  unfold eCallF
  rw [g_bind]
  refine iff_of_eq (congrArg (fun z => Ok ms ρ z E) ?_)
  funext ds ρ'
  unfold Ok okR
  cases G ds <;> rfl
theorem g_callV {G : List Dt → Fo} {QV : Vl → Rho → Prop} : Ok (eCallV G ms) ρ QV E ↔ Ok ms ρ (fun ds ρ' => okR (G ds) (fun d => QV (.z d) ρ') (fun es => QV (.f es) ρ') fun x => E x ρ') E := by
  unfold eCallV
  rw [g_bind]
  refine iff_of_eq (congrArg (fun z => Ok ms ρ z E) ?_)
  funext ds ρ'
  unfold Ok okR
  cases G ds <;> rfl
theorem g_callF0 {G : List Dt → Fo} : Ok (eCallF0 G) ρ QL E ↔ okR (G []) (fun d => False) (fun es => QL es ρ) fun x => False := by
  simp only [eCallF0, Ok, okR]
  cases G [] <;> exact Iff.rfl
/-! statements -/
theorem g_seq : Ok (sSeq s1 s2) ρ QS E ↔ Ok s1 ρ (fun fl ρ' => nxF fl (Ok s2 ρ' QS E) (QS fl ρ')) E := by
  simp only [sSeq, Ok, nxF]
  cases s1 ρ with
  | ok fl r => cases fl <;> exact Iff.rfl
  | _ => exact Iff.rfl
theorem g_next : Ok sNext ρ QS E ↔ QS .nx ρ := Iff.rfl
theorem g_set : Ok (sSet i m) ρ QS E ↔ Ok m ρ (fun d ρ' => QS .nx (ρ'.set i (.va d))) E := by
  unfold sSet
  exact g_bind
theorem g_setF : Ok (sSetF i ms) ρ QS E ↔ Ok ms ρ (fun d ρ' => QS .nx (ρ'.set i (.ml d))) E := by
  unfold sSetF
  exact g_bind
theorem g_setV {mv : Mo Vl} : Ok (sSetV i mv) ρ QS E ↔ Ok mv ρ (fun x ρ' => isVl x (fun d => QS .nx (ρ'.set i (.va d))) fun ds => QS .nx (ρ'.set i (.ml ds))) E := by
  unfold sSetV
  rw [g_bind]
  refine iff_of_eq (congrArg (fun z => Ok mv ρ z E) ?_)
  funext x ρ'
  cases x <;> rfl
theorem g_drop : Ok (sDrop m) ρ QS E ↔ Ok m ρ (fun _ ρ' => QS .nx ρ') E := by
  unfold sDrop
  exact g_bind
theorem g_ret : Ok (sRet m) ρ QS E ↔ Ok m ρ (fun d ρ' => QS (.rt d) ρ') E := by
  unfold sRet
  exact g_bind
theorem g_retF : Ok (sRetF ms) ρ QS E ↔ Ok ms ρ (fun d ρ' => QS (.ro d) ρ') E := by
  unfold sRetF
  exact g_bind
theorem g_retV {mv : Mo Vl} : Ok (sRetV mv) ρ QS E ↔ Ok mv ρ (fun x ρ' => isVl x (fun d => QS (.rt d) ρ') fun ds => QS (.ro ds) ρ') E := by
  unfold sRetV
  rw [g_bind]
  refine iff_of_eq (congrArg (fun z => Ok mv ρ z E) ?_)
  funext x ρ'
  cases x <;> rfl
theorem g_retO : Ok (sRetO i) ρ QS E ↔ slZ ρ[i]? (fun d => QS (.rt d) ρ) fun ds => QS (.ro ds) (ρ.set i .un) := by
  unfold Ok sRetO slZ
  rcases ρ[i]? with _ | (_ | _ | _ | _) <;> exact Iff.rfl
theorem g_if : Ok (sIf mt s1 s2) ρ QS E ↔ Ok mt ρ (fun b ρ' => if b = true then Ok s1 ρ' QS E else Ok s2 ρ' QS E) E := by
  unfold sIf
  simp only [g_bind, ok_ite]
theorem g_append : Ok (sAppend i m) ρ QS E ↔ slM ρ[i]? fun _ => Ok m ρ (fun d ρ1 => slM ρ1[i]? fun ds => ds.length < sizeLine ∧ QS .nx (ρ1.set i (.ml (ds ++ [d])))) E := by
  show Ok (fun ρ => sAppend i m ρ) ρ QS E ↔ _
  unfold sAppend
  rcases h : ρ[i]? with _ | (_ | _ | _ | _)
  · unfold Ok; simp only [h]; exact Iff.rfl
  · unfold Ok; simp only [h]; exact Iff.rfl
  · unfold Ok; simp only [h]; exact Iff.rfl
  · rw [slM_ml]
    have : ∀ f : Dt → Mo Fl, Ok (fun ρ => match ρ[i]? with | some (.ml _) => bindM m f ρ | _ => .no) ρ QS E ↔ Ok (bindM m f) ρ QS E := fun f => by unfold Ok; simp only [h]
    refine (this _).trans ?_
    rw [g_bind]
    refine iff_of_eq (congrArg (fun z => Ok m ρ z E) ?_)
    funext d ρ1
    dsimp only [Ok, slM]
    rcases ρ1[i]? with _ | (_ | _ | ds | _)
    · rfl
    · rfl
    · rfl
    · by_cases h : ds.length < sizeLine <;> simp [h]
    · rfl
  · unfold Ok; simp only [h]; exact Iff.rfl
theorem g_extend : Ok (sExtend i m) ρ QS E ↔ slM ρ[i]? fun _ => Ok m ρ (fun d ρ1 => slM ρ1[i]? fun ds => isL d fun es => ds.length + es.length ≤ sizeLine ∧ QS .nx (ρ1.set i (.ml (ds ++ es)))) E := by
  show Ok (fun ρ => sExtend i m ρ) ρ QS E ↔ _
  unfold sExtend
  rcases h : ρ[i]? with _ | (_ | _ | _ | _)
  · unfold Ok; simp only [h]; exact Iff.rfl
  · unfold Ok; simp only [h]; exact Iff.rfl
  · unfold Ok; simp only [h]; exact Iff.rfl
  · rw [slM_ml]
    have : ∀ f : Dt → Mo Fl, Ok (fun ρ => match ρ[i]? with | some (.ml _) => bindM m f ρ | _ => .no) ρ QS E ↔ Ok (bindM m f) ρ QS E := fun f => by unfold Ok; simp only [h]
    refine (this _).trans ?_
    rw [g_bind]
    refine iff_of_eq (congrArg (fun z => Ok m ρ z E) ?_)
    funext d ρ1
    dsimp only [Ok, slM]
    rcases ρ1[i]? with _ | (_ | _ | ds | _)
    · rfl
    · rfl
    · rfl
    · cases d with
      | list es => by_cases h : ds.length + es.length ≤ sizeLine <;> simp [h, isL]
      | _ => rfl
    · rfl
  · unfold Ok; simp only [h]; exact Iff.rfl
theorem g_to {T : Dt → Rho → Option Rho} : Ok (sTo T m) ρ QS E ↔ Ok m ρ (fun d ρ' => okO (T d ρ') fun ρ1 => QS .nx ρ1) E := by
  unfold sTo
  rw [g_bind]
  refine iff_of_eq (congrArg (fun z => Ok m ρ z E) ?_)
  funext d ρ'
  dsimp only [Ok, okO]
  cases T d ρ' <;> rfl
def two (ds : List Dt) (R : Dt → Dt → Prop) : Prop := match ds with
  | [a, b] => R a b
  | _ => False
theorem two_ok {a b : Dt} {R : Dt → Dt → Prop} : two [a, b] R ↔ R a b := Iff.rfl
theorem g_par : Ok (sPar i j ms) ρ QS E ↔ Ok ms ρ (fun ds ρ' => two ds fun d e => QS .nx ((ρ'.set i (.va d)).set j (.va e))) E := by
  unfold sPar
  rw [g_bind]
  refine iff_of_eq (congrArg (fun z => Ok ms ρ z E) ?_)
  funext d ρ'
  unfold Ok two
  rcases d with _ | ⟨a, _ | ⟨b, _ | _⟩⟩ <;> rfl
theorem g_aug {f : Dt → Dt → Option Dt} : Ok (sAug i f m) ρ QS E ↔ slV ρ[i]? fun x => Ok m ρ (fun y ρ1 => okO (f x y) fun z => QS .nx (ρ1.set i (.va z))) E := by
  show Ok (fun ρ => sAug i f m ρ) ρ QS E ↔ _
  unfold sAug
  rcases h : ρ[i]? with _ | (_ | x | _ | _)
  · unfold Ok; simp only [h]; exact Iff.rfl
  · unfold Ok; simp only [h]; exact Iff.rfl
  · rw [slV_va]
    have : ∀ g : Dt → Dt → Mo Fl, Ok (fun ρ => match ρ[i]? with | some (.va x) => bindM m (g x) ρ | _ => .no) ρ QS E ↔ Ok (bindM m (g x)) ρ QS E := fun g => by unfold Ok; simp only [h]
    refine (this fun x y ρ1 => match f x y with | some z => .ok .nx (ρ1.set i (.va z)) | none => .no).trans ?_
    rw [g_bind]
    refine iff_of_eq (congrArg (fun z => Ok m ρ z E) ?_)
    funext d ρ1
    dsimp only [Ok, okO]
    cases f x d <;> rfl
  · unfold Ok; simp only [h]; exact Iff.rfl
  · unfold Ok; simp only [h]; exact Iff.rfl
/-! iterators, slices, tests -/
theorem g_any : Ok (iAny m) ρ QL E ↔ Ok m ρ (fun x ρ' => itO x fun ds => QL ds ρ') E := by
  unfold iAny
  rw [g_bind]
  refine iff_of_eq (congrArg (fun z => Ok m ρ z E) ?_)
  funext x ρ'
  cases x <;> rfl
theorem g_noP {QP : Option Int → Rho → Prop} : Ok eNoP ρ QP E ↔ QP none ρ := Iff.rfl
theorem g_part {QP : Option Int → Rho → Prop} : Ok (ePart m) ρ QP E ↔ Ok m ρ (fun x ρ' => isI x fun i => QP (some i) ρ') E := by
  unfold ePart
  rw [g_bind]
  refine iff_of_eq (congrArg (fun z => Ok m ρ z E) ?_)
  funext x ρ'
  cases x <;> rfl
variable {ml mh : Mo (Option Int)}
theorem g_sl : Ok (eSl m ml mh) ρ Q E ↔ Ok m ρ (fun x ρ1 => Ok ml ρ1 (fun l ρ2 => Ok mh ρ2 (fun h ρ3 => okO (slD x l h) fun z => Q z ρ3) E) E) E := by
  unfold eSl
  simp only [g_bind, g_ofO]
theorem g_slF : Ok (eSlF m ml mh) ρ QL E ↔ Ok m ρ (fun x ρ1 => Ok ml ρ1 (fun l ρ2 => Ok mh ρ2 (fun h ρ3 => okO (slL x l h) fun z => QL z ρ3) E) E) E := by
  unfold eSlF
  simp only [g_bind, g_ofO]
theorem g_isI {T : String} : Ok (eIsI T m) ρ Q E ↔ Ok m ρ (fun x ρ' => okO (isIn T x) fun z => Q z ρ') E := by
  unfold eIsI
  simp only [g_bind, g_ofO]
theorem g_m1 {f : Str → Dt → Option Dt} : Ok (eM1 f ma mb) ρ Q E ↔ Ok ma ρ (fun x ρ1 => isS x fun s => Ok mb ρ1 (fun y ρ2 => okO (f s y) fun z => Q z ρ2) E) E := by
  unfold eM1
  rw [g_bind]
  refine iff_of_eq (congrArg (fun z => Ok ma ρ z E) ?_)
  funext x ρ'
  cases x <;> first | (refine propext ?_; exact g_bind.trans (by simp only [g_ofO]; exact Iff.rfl)) | rfl
theorem g_tAnd : Ok (tAndM m1 m2) ρ QB E ↔ Ok m1 ρ (fun b ρ' => if b = true then Ok m2 ρ' QB E else QB false ρ') E := by
  unfold tAndM
  simp only [g_bind, ok_ite, g_ok]
theorem g_tOr : Ok (tOrM m1 m2) ρ QB E ↔ Ok m1 ρ (fun b ρ' => if b = true then QB true ρ' else Ok m2 ρ' QB E) E := by
  unfold tOrM
  simp only [g_bind, ok_ite, g_ok]
theorem g_tNot : Ok (tNotM m1) ρ QB E ↔ Ok m1 ρ (fun b ρ' => QB (!b) ρ') E := by
  unfold tNotM
  simp only [g_bind, g_ok]
theorem g_and : Ok (eAndM ma mb) ρ Q E ↔ Ok ma ρ (fun x ρ' => isB x fun b => if b = true then Ok mb ρ' Q E else Q (.bool false) ρ') E := by
  unfold eAndM
  rw [g_bind]
  refine iff_of_eq (congrArg (fun z => Ok ma ρ z E) ?_)
  funext x ρ'
  cases x <;> first | (refine propext ?_; exact ok_ite) | rfl
theorem g_or : Ok (eOrM ma mb) ρ Q E ↔ Ok ma ρ (fun x ρ' => isB x fun b => if b = true then Q (.bool true) ρ' else Ok mb ρ' Q E) E := by
  unfold eOrM
  rw [g_bind]
  refine iff_of_eq (congrArg (fun z => Ok ma ρ z E) ?_)
  funext x ρ'
  cases x <;> first | (refine propext ?_; exact ok_ite) | rfl
theorem g_not : Ok (eNotM ma) ρ Q E ↔ Ok ma ρ (fun x ρ' => isB x fun b => Q (.bool (!b)) ρ') E := by
  unfold eNotM
  rw [g_bind]
  refine iff_of_eq (congrArg (fun z => Ok ma ρ z E) ?_)
  funext x ρ'
  cases x <;> rfl
theorem g_neg : Ok (eNeg ma) ρ Q E ↔ Ok ma ρ (fun x ρ' => isI x fun b => Q (.int (-b)) ρ') E := by
  unfold eNeg
  rw [g_bind]
  refine iff_of_eq (congrArg (fun z => Ok ma ρ z E) ?_)
  funext x ρ'
  cases x <;> rfl
theorem g_eif : Ok (eIf mt ma mb) ρ Q E ↔ Ok mt ρ (fun b ρ' => if b = true then Ok ma ρ' Q E else Ok mb ρ' Q E) E := by
  unfold eIf
  simp only [g_bind, ok_ite]
theorem g_tru : Ok tYesM ρ QB E ↔ QB true ρ := Iff.rfl
/-! loops -/
theorem g_for {mi : Mo (List Dt)} {T : Dt → Rho → Option Rho} {b : Mo Fl} : Ok (sFor mi T b) ρ QS E ↔ Ok mi ρ (fun ds ρ' => Ok (sLoop T b ds) ρ' QS E) E := by
  unfold sFor
  rw [g_bind]
def stepF (I : Rho → Prop) (QS : Fl → Rho → Prop) (fl : Fl) (ρ' : Rho) : Prop := match fl with
  | .nx => I ρ'
  | .ct => I ρ'
  | .bk => QS .nx ρ'
  | r => QS r ρ'
theorem stepF_nx {I : Rho → Prop} : stepF I QS .nx ρ ↔ I ρ := Iff.rfl
theorem stepF_ct {I : Rho → Prop} : stepF I QS .ct ρ ↔ I ρ := Iff.rfl
theorem stepF_bk {I : Rho → Prop} : stepF I QS .bk ρ ↔ QS .nx ρ := Iff.rfl
theorem stepF_rt {I : Rho → Prop} {d : Dt} : stepF I QS (.rt d) ρ ↔ QS (.rt d) ρ := Iff.rfl
theorem stepF_ro {I : Rho → Prop} {d : List Dt} : stepF I QS (.ro d) ρ ↔ QS (.ro d) ρ := Iff.rfl
theorem loop_inv {T : Dt → Rho → Option Rho} {b : Mo Fl} : ∀ {ds : List Dt} {ρ : Rho} (I : Nat → Rho → Prop), I 0 ρ →
    (∀ k d ρ, ds[k]? = some d → I k ρ → okO (T d ρ) fun ρ1 => Ok b ρ1 (stepF (I (k + 1)) QS) E) → (∀ ρ, I ds.length ρ → QS .nx ρ) → Ok (sLoop T b ds) ρ QS E
  | [], ρ, I, h0, _, he => he ρ h0
  | d :: ds, ρ, I, h0, hs, he => by
    have h1 := hs 0 d ρ rfl h0
    unfold okO at h1
    unfold Ok sLoop
    cases hT : T d ρ with
    | none => rw [hT] at h1; exact h1.elim
    | some ρ1 =>
      rw [hT] at h1
      simp only at h1 ⊢
      unfold Ok at h1
      have nxt : ∀ ρ2, I 1 ρ2 → Ok (sLoop T b ds) ρ2 QS E := fun ρ2 h => loop_inv (ds := ds) (fun k => I (k + 1)) h (fun k d ρ hk => hs (k + 1) d ρ (by simpa using hk)) he
      cases hb : b ρ1 with
      | no => rw [hb] at h1; exact h1.elim
      | er x ρ2 => rw [hb] at h1; simp only; exact h1
      | ok fl ρ2 =>
        rw [hb] at h1
        cases fl with
        | nx => exact nxt ρ2 h1
        | ct => exact nxt ρ2 h1
        | bk => exact h1
        | rt d => exact h1
        | ro d => exact h1
theorem g_comp {mi : Mo (List Dt)} {own : List Nat} {T : Dt → Rho → Option Rho} {t : Mo Bool} {e : Mo Dt} : Ok (eComp mi own T t e) ρ QL E ↔ Ok mi ρ (fun ds ρ' => okO (cL T t e (wipeR ρ' own) ds) fun ys => ds.length ≤ sizeLine ∧ QL ys ρ') E := by
  unfold eComp
  rw [g_bind]
  refine iff_of_eq (congrArg (fun z => Ok mi ρ z E) ?_)
  funext ds ρ'
  dsimp only [Ok, okO]
  cases cL T t e (wipeR ρ' own) ds with
  | none => rfl
  | some ys => by_cases h : ds.length ≤ sizeLine <;> simp [h]
theorem cL_filter {T : Dt → Rho → Option Rho} {t : Mo Bool} {e : Mo Dt} {f : Dt → Dt} {p : Dt → Bool} : ∀ {ds : List Dt}, (∀ d ∈ ds, okO (T d ρ) fun ρ1 => Ok t ρ1 (fun b _ => b = p d) noE ∧ (p d = true → Ok e ρ1 (fun y _ => y = f d) noE)) → cL T t e ρ ds = some ((ds.filter p).map f)
  | [], _ => rfl
  | d :: ds, h => by
    have h1 := h d List.mem_cons_self
    have ih := cL_filter (ds := ds) fun d hd => h d (List.mem_cons_of_mem _ hd)
    unfold cL
    unfold okO at h1
    cases hT : T d ρ with
    | none => rw [hT] at h1; exact h1.elim
    | some ρ1 =>
      rw [hT] at h1
      simp only at h1 ⊢
      obtain ⟨a, b⟩ := h1
      unfold Ok at a
      cases ht : t ρ1 with
      | no => rw [ht] at a; exact a.elim
      | er x ρ2 => rw [ht] at a; exact a.elim
      | ok c ρ2 =>
        rw [ht] at a
        simp only at a ⊢
        subst a
        cases hp : p d with
        | false => simp only [ih, List.filter_cons, hp]; simp
        | true =>
          have b := b hp
          unfold Ok at b
          cases he : e ρ1 with
          | no => rw [he] at b; exact b.elim
          | er x ρ2 => rw [he] at b; exact b.elim
          | ok y ρ2 =>
            rw [he] at b
            simp only at b ⊢
            subst b
            simp [ih, List.filter_cons, hp]
theorem cL_map {T : Dt → Rho → Option Rho} {t : Mo Bool} {e : Mo Dt} {f : Dt → Dt} {ds : List Dt} (h : ∀ d ∈ ds, okO (T d ρ) fun ρ1 => Ok t ρ1 (fun b _ => b = true) noE ∧ Ok e ρ1 (fun y _ => y = f d) noE) : cL T t e ρ ds = some (ds.map f) := by
  have z := cL_filter (p := fun _ => true) (f := f) (T := T) (t := t) (e := e) (ρ := ρ) (ds := ds) fun d hd => by
    have q := h d hd
    unfold okO at q ⊢
    cases hT : T d ρ with
    | none => rw [hT] at q; exact q
    | some ρ1 => rw [hT] at q; exact ⟨q.1, fun _ => q.2⟩
  rw [z, List.filter_eq_self.mpr fun _ _ => rfl]
/-! a def -/
theorem g_run {k p : Nat} {mm : Mo Fl} {ds : List Dt} {Q : Dt → Prop} {QF : List Dt → Prop} {E : Ex → Prop} : okR (runF k p mm ds) Q QF E ↔ ds.length = p ∧ Ok mm (ds.map .va ++ List.replicate (k - ds.length) .un) (fun fl _ => endF fl Q QF) fun x _ => E x := by
  unfold runF okR Ok endF
  by_cases h : ds.length = p
  · rw [if_pos h]
    simp only [h, true_and]
    cases mm (ds.map .va ++ List.replicate (k - p) .un) with
    | ok fl r => cases fl <;> exact Iff.rfl
    | _ => exact Iff.rfl
  · rw [if_neg h]
    simp [h]
theorem okR_val {fo : Fo} {P : Dt → Prop} (h : okR fo P (fun _ => False) noX) : ∃ d, fo = .ok d ∧ P d := by
  cases fo with
  | ok d => exact ⟨d, rfl, h⟩
  | _ => exact h.elim
theorem okR_lst {fo : Fo} {P : List Dt → Prop} (h : okR fo (fun _ => False) P noX) : ∃ d, fo = .fr d ∧ P d := by
  cases fo with
  | fr d => exact ⟨d, rfl, h⟩
  | _ => exact h.elim
theorem okR_eq {fo : Fo} {d : Dt} (h : okR fo (fun z => z = d) (fun _ => False) noX) : fo = .ok d := by
  obtain ⟨_, e, rfl⟩ := okR_val h
  exact e
theorem okR_eqF {fo : Fo} {d : List Dt} (h : okR fo (fun _ => False) (fun z => z = d) noX) : fo = .fr d := by
  obtain ⟨_, e, rfl⟩ := okR_lst h
  exact e
/-! data -/
theorem addInt (i j : Int) : addD (.int i) (.int j) = some (.int (i + j)) := rfl
theorem subInt (i j : Int) : subD (.int i) (.int j) = some (.int (i - j)) := rfl
theorem ltInt (i j : Int) : ltD (.int i) (.int j) = some (.bool (decide (i < j))) := rfl
theorem cmpInt (p : Int → Int → Bool) (i j : Int) : cmpI p (.int i) (.int j) = some (.bool (p i j)) := rfl
theorem mulInt {i j : Int} {Q : Dt → Prop} : okO (mulD (.int i) (.int j)) Q ↔ CMulW i j ∧ Q (.int (i * j)) := by
  unfold mulD okO; by_cases h : CMulW i j <;> simp [h]
theorem modInt {i j : Int} {Q : Dt → Prop} : okO (modD (.int i) (.int j)) Q ↔ 0 < j ∧ Q (.int (i % j)) := by
  unfold modD okO; by_cases h : 0 < j <;> simp [h]
theorem divInt {i j : Int} {Q : Dt → Prop} : okO (fdivD (.int i) (.int j)) Q ↔ CDivW i j ∧ Q (.int (i / j)) := by
  unfold fdivD okO; by_cases h : CDivW i j <;> simp [h]
theorem powInt {i j : Int} {Q : Dt → Prop} : okO (powD (.int i) (.int j)) Q ↔ CPow i j ∧ Q (.int (i ^ j.toNat)) := by
  unfold powD okO; by_cases h : CPow i j <;> simp [h]
theorem shlInt {i j : Int} {Q : Dt → Prop} : okO (shlD (.int i) (.int j)) Q ↔ CPow i j ∧ Q (.int (i * 2 ^ j.toNat)) := by
  unfold shlD okO; by_cases h : CPow i j <;> simp [h]
theorem shrInt {i j : Int} {Q : Dt → Prop} : okO (shrD (.int i) (.int j)) Q ↔ 0 ≤ j ∧ Q (.int (i / 2 ^ j.toNat)) := by
  unfold shrD okO; by_cases h : 0 ≤ j <;> simp [h]
theorem eqInt (i j : Int) : eqD (.int i) (.int j) = some (.bool (decide (i = j))) := by
  unfold eqD
  rw [if_pos ⟨rfl, rfl⟩]
  simp only [PyData.eqv]
  by_cases h : i = j <;> simp [h]
theorem neInt (i j : Int) : neD (.int i) (.int j) = some (.bool (!decide (i = j))) := by
  unfold neD
  rw [if_pos ⟨rfl, rfl⟩]
  simp only [PyData.eqv]
  by_cases h : i = j <;> simp [h]
theorem lenScr (ns : List Int) : lenD [.dict [(.none, .list (ns.map .int))]] = some (.int ns.length) := by simp [lenD]
theorem lenLst (ns : List Dt) : lenD [.list ns] = some (.int ns.length) := rfl
theorem lenTup (ns : List Dt) : lenD [.tuple ns] = some (.int ns.length) := rfl
theorem idxScr (ns : List Int) (i : Int) : idxD (.dict [(.none, .list (ns.map .int))]) (.int i) = atI (ns.map .int) i := rfl
theorem idxLst (ns : List Dt) (i : Int) : idxD (.list ns) (.int i) = atI ns i := rfl
theorem idxTup (ns : List Dt) (i : Int) : idxD (.tuple ns) (.int i) = atI ns i := rfl
end
end DL

set_option Elab.async false
set_option linter.all false
set_option maxRecDepth 100000
namespace DL
open PySem PySem.Spec L2
open PyProof.Rows hiding St
theorem atI_in {α : Type} (xs : List α) (k : Int) (h0 : 0 ≤ k) (h1 : k < xs.length) : atI xs k = xs[k.toNat]? := by
  obtain ⟨n, rfl⟩ := Int.eq_ofNat_of_zero_le h0
  have : n < xs.length := by omega
  rw [List.getElem?_eq_getElem (by simpa using this)]
  exact atI_nat (by simpa using List.getElem?_eq_getElem this)
theorem atI_ints (ns : List Int) (k : Int) (h0 : 0 ≤ k) (h1 : k < ns.length) : ∃ c, atI (ns.map PyData.int) k = some (.int c) ∧ ns[k.toNat]? = some c := by
  rw [atI_in _ k h0 (by simpa using h1)]
  have h2 : k.toNat < ns.length := by omega
  exact ⟨ns[k.toNat], by simp [h2], by simp [h2]⟩
theorem log2_le {x : Nat} {n : Nat} (h : x < 2 ^ n) (hn : 0 < n) : x.log2 < n := by
  by_cases e : x = 0
  · subst e; simpa using hn
  · exact (Nat.log2_lt e).mpr h
theorem cmul {i j : Int} (hi : i.natAbs < 2 ^ 200) (hj : j.natAbs < 2 ^ 200) : CMulW i j := by
  have a := log2_le hi (by decide)
  have b := log2_le hj (by decide)
  unfold CMulW
  omega
theorem cdiv {i j : Int} (h0 : 0 < j) (hj : j < 2 ^ 200) : CDivW i j := ⟨h0, by
  have b := log2_le (x := j.natAbs) (n := 200) (by omega) (by decide)
  omega⟩
end DL
namespace DL
open PySem PySem.Spec L2
open PyProof.Rows hiding St
theorem leT_total : PySem.W.TotalLe leT := PySem.W.sortLe_total _ _ _
theorem leT_anti {a b : Dt} (h1 : leT a b = true) (h2 : leT b a = true) : PySem.W.keyToks a = PySem.W.keyToks b := by
  unfold leT PySem.W.dataLe PySem.W.sortLe at h1 h2
  simp only [cond_false, Bool.not_eq_true'] at h1 h2
  exact (listOrd itemOrd).total _ _ h2 h1
theorem sort_perm {l1 l2 : List Dt} (h : l1.Perm l2) (inj : ∀ a ∈ l1, ∀ b ∈ l1, PySem.W.keyToks a = PySem.W.keyToks b → a = b) : l1.mergeSort leT = l2.mergeSort leT := by
  have p1 := List.mergeSort_perm l1 leT
  have p2 := List.mergeSort_perm l2 leT
  refine List.Perm.eq_of_pairwise (le := fun a b => leT a b = true) ?_ (PySem.W.sort_pairwise leT_total l1) (PySem.W.sort_pairwise leT_total l2) (p1.trans (h.trans p2.symm))
  intro a b ha hb h1 h2
  exact inj a (p1.mem_iff.mp ha) b (h.mem_iff.mpr (p2.mem_iff.mp hb)) (leT_anti h1 h2)
/-- (number, text) -/
abbrev ns2 (x : Int × Str) : Dt := .tuple [.int x.1, .str x.2]
theorem ns2_inj {x y : Int × Str} (h : PySem.W.keyToks (ns2 x) = PySem.W.keyToks (ns2 y)) : x = y := by
  obtain ⟨a, b⟩ := x
  obtain ⟨c, d⟩ := y
  simp [PySem.W.keyToks, PySem.W.keyToksAll] at h
  obtain ⟨rfl, h⟩ := h
  have : b = d := Str.ext' h
  rw [this]
theorem ns2_sorts (l : List (Int × Str)) : Sorts (l.map ns2) := by
  refine ⟨?_, .inl ?_, ?_⟩
  · intro a ha b hb
    obtain ⟨x, _, rfl⟩ := List.mem_map.mp ha
    obtain ⟨y, _, rfl⟩ := List.mem_map.mp hb
    rfl
  · intro a ha
    obtain ⟨x, _, rfl⟩ := List.mem_map.mp ha
    exact ⟨_, _, rfl⟩
  · intro a ha
    obtain ⟨x, _, rfl⟩ := List.mem_map.mp ha
    rfl
theorem sort_is {ds : List Dt} {Q : List Dt → Prop} (h : Sorts ds) : okO (sortD [.list ds]) Q ↔ Q (ds.mergeSort leT) := by
  unfold sortD okO
  simp only [h, if_true]
theorem eqv_ok {x y : Dt} (hx : okD x = true) (e : x = y) : neD x y = some (.bool false) := by
  subst e
  unfold neD
  rw [if_pos ⟨hx, hx⟩, PySem.SeqAt.eqv_refl_plain x (okN_plain _ _ hx).1]
  rfl
end DL
namespace DL
open PySem PySem.Spec L2
open PyProof.Rows hiding St
theorem okD_ints (L : List Int) : okD (.list (L.map .int)) = true := by
  show (L.map PyData.int).all (okN 11) = true
  rw [List.all_map, List.all_eq_true]
  intro x _
  rfl
theorem ne_nil (L : List Int) : neD (.list (L.map .int)) (.list []) = some (.bool (!decide (L = []))) := by
  unfold neD
  rw [if_pos ⟨okD_ints L, rfl⟩]
  cases L <;> rfl
theorem eqStr (x y : Str) : eqD (.str x) (.str y) = some (.bool (decide (x = y))) := by
  unfold eqD
  rw [if_pos ⟨rfl, rfl⟩]
  simp only [PyData.eqv]
  by_cases h : x = y <;> simp [h]
theorem sum_ints (L : List Int) : sumD [.list (L.map .int)] = some (.int L.sum) := by
  show (intsOf (L.map .int)).map _ = _
  rw [intsOf_map]; rfl
theorem cut_take {α : Type} (xs : List α) {m : Int} (h : 0 ≤ m) : DL.cutD xs none (some m) = xs.take m.toNat := by
  unfold DL.cutD
  simp only [HT.sIx, if_neg (show ¬ m < 0 by omega), Nat.sub_zero, List.drop_zero]
  by_cases q : m.toNat ≤ xs.length
  · rw [Nat.min_eq_left q]
  · rw [Nat.min_eq_right (by omega), List.take_of_length_le (by omega), List.take_of_length_le (by omega)]
theorem sl_lst (xs : List Dt) {m : Int} (h : 0 ≤ m) : slD (.list xs) none (some m) = some (.list (xs.take m.toNat)) := by
  show some (PyData.list (DL.cutD xs none (some m))) = _
  rw [cut_take xs h]
theorem ne_same {x : Dt} (hx : okD x = true) : neD x x = some (.bool false) := eqv_ok hx rfl
theorem okD_texts {l : List Dt} (h : ∀ d ∈ l, ∃ s, d = .str s) : okD (.list l) = true := by
  show l.all (okN 11) = true
  rw [List.all_eq_true]
  intro x hx
  obtain ⟨s, rfl⟩ := h x hx
  rfl
section
variable {ρ : Rho} {E : Ex → Rho → Prop} {QS : Fl → Rho → Prop} {Q : Dt → Rho → Prop} {QL : List Dt → Rho → Prop}
theorem loop_nil {T : Dt → Rho → Option Rho} {b : Mo Fl} : Ok (sLoop T b []) ρ QS E ↔ QS .nx ρ := Iff.rfl
theorem loop_cons {T : Dt → Rho → Option Rho} {b : Mo Fl} {d : Dt} {ds : List Dt} : Ok (sLoop T b (d :: ds)) ρ QS E ↔ okO (T d ρ) fun ρ1 => Ok b ρ1 (stepF (fun ρ2 => Ok (sLoop T b ds) ρ2 QS E) QS) E := by
  have e : sLoop T b (d :: ds) ρ = (match T d ρ with | none => .no | some ρ1 => match b ρ1 with | .ok .nx ρ2 => sLoop T b ds ρ2 | .ok .ct ρ2 => sLoop T b ds ρ2 | .ok .bk ρ2 => .ok .nx ρ2 | r => r) := rfl
  generalize sLoop T b ds = L at e ⊢
  unfold Ok okO
  rw [e]
  cases T d ρ with
  | none => exact Iff.rfl
  | some ρ1 =>
    dsimp only
    cases b ρ1 with
    | ok fl ρ2 => cases fl <;> exact Iff.rfl
    | _ => exact Iff.rfl
/-- a while loop, one step -/
theorem while_step {t : Mo Bool} {b : Mo Fl} {k : Nat} : Ok (sWhile t b (k + 1)) ρ QS E ↔ Ok t ρ (fun c ρ1 => if c = true then Ok b ρ1 (stepF (fun ρ2 => Ok (sWhile t b k) ρ2 QS E) QS) E else QS .nx ρ1) E := by
  have e : sWhile t b (k + 1) ρ = (match t ρ with | .ok true ρ1 => (match b ρ1 with | .ok .nx ρ2 => sWhile t b k ρ2 | .ok .ct ρ2 => sWhile t b k ρ2 | .ok .bk ρ2 => .ok .nx ρ2 | r => r) | .ok false ρ1 => .ok .nx ρ1 | .er x ρ1 => .er x ρ1 | .no => .no) := rfl
  generalize sWhile t b k = L at e ⊢
  unfold Ok
  rw [e]
  cases t ρ with
  | ok c ρ1 =>
    cases c with
    | true =>
      dsimp only
      rw [if_pos rfl]
      cases b ρ1 with
      | ok fl ρ2 => cases fl <;> exact Iff.rfl
      | _ => exact Iff.rfl
    | false => exact Iff.rfl
  | _ => exact Iff.rfl
theorem g_iseq {m : Mo Dt} : Ok (iSeq m) ρ QL E ↔ Ok m ρ (fun x ρ' => isL x fun ds => QL ds ρ') E := by
  unfold iSeq
  rw [g_bind]
  refine iff_of_eq (congrArg (fun z => Ok m ρ z E) ?_)
  funext x ρ'
  cases x <;> rfl
theorem g_chain {f f' : Dt → Dt → Option Dt} {ma mb mc : Mo Dt} : Ok (eChain f f' ma mb mc) ρ Q E ↔ Ok ma ρ (fun x ρ1 => Ok mb ρ1 (fun y ρ2 => okO (f x y) fun z => isB z fun b => if b = true then Ok mc ρ2 (fun w ρ3 => okO (f' y w) fun v => Q v ρ3) E else Q (.bool false) ρ2) E) E := by
  unfold eChain
  rw [g_bind]
  refine iff_of_eq (congrArg (fun z => Ok ma ρ z E) ?_)
  funext x ρ1
  refine propext (g_bind.trans (iff_of_eq (congrArg (fun z => Ok mb ρ1 z E) ?_)))
  funext y ρ2
  cases f x y with
  | none => rfl
  | some z =>
    cases z with
    | bool b =>
      cases b with
      | true => exact propext (g_bind.trans (by simp only [g_ofO]; exact Iff.rfl))
      | false => rfl
    | _ => rfl
end
theorem g_setIx {i : Nat} {mk me : Mo Dt} {ρ : Rho} {E : Ex → Rho → Prop} {QS : Fl → Rho → Prop} : Ok (sSetIx i mk me) ρ QS E ↔ Ok me ρ (fun d ρ1 => slM ρ1[i]? fun ds => Ok mk ρ1 (fun k ρ2 => isI k fun z => okO (ixN ds.length z) fun j => QS .nx (ρ2.set i (.ml (ds.set j d)))) E) E := by
  unfold sSetIx
  rw [g_bind]
  refine iff_of_eq (congrArg (fun z => Ok me ρ z E) ?_)
  funext d ρ1
  rcases h : ρ1[i]? with _ | (_ | _ | ds | _)
  · unfold Ok slM; simp only [h]
  · unfold Ok slM; simp only [h]
  · unfold Ok slM; simp only [h]
  · rw [slM_ml]
    have e : ∀ g : List Dt → Dt → Mo Fl, Ok (fun ρ => match ρ1[i]? with | some (.ml ds) => bindM mk (g ds) ρ1 | _ => .no) ρ1 QS E ↔ Ok (bindM mk (g ds)) ρ1 QS E := fun g => by unfold Ok; simp only [h]
    refine propext ((e fun ds k ρ2 => match k with | .int z => (match ixN ds.length z with | some j => .ok .nx (ρ2.set i (.ml (ds.set j d))) | none => .no) | _ => .no).trans (g_bind.trans (iff_of_eq (congrArg (fun z => Ok mk ρ1 z E) ?_))))
    funext k ρ2
    cases k with
    | int z =>
      unfold Ok isI okO
      dsimp only
      cases ixN ds.length z <;> rfl
    | _ => rfl
  · unfold Ok slM; simp only [h]
theorem neStr (x y : Str) : neD (.str x) (.str y) = some (.bool (!decide (x = y))) := by
  unfold neD
  rw [if_pos ⟨rfl, rfl⟩]
  simp only [PyData.eqv]
  by_cases h : x = y <;> simp [h]
/-- == [] -/
theorem eqNil {l : List Dt} (h : okD (.list l) = true) : eqD (.list l) (.list []) = some (.bool l.isEmpty) := by
  unfold eqD
  rw [if_pos ⟨h, rfl⟩]
  cases l <;> rfl
theorem neNil {l : List Dt} (h : okD (.list l) = true) : neD (.list l) (.list []) = some (.bool (!l.isEmpty)) := by
  unfold neD
  rw [if_pos ⟨h, rfl⟩]
  cases l <;> rfl
end DL

set_option Elab.async false
set_option linter.all false
set_option maxRecDepth 100000
namespace DL
open PySem PySem.Spec L2
open PyProof.Rows hiding St
/-- Ok, shut: whnf does not run the mirror -/
structure Done {α : Type} (m : Mo α) (ρ : Rho) (Q : α → Rho → Prop) (E : Ex → Rho → Prop) : Prop where
  h : Ok m ρ Q E
section
variable {ρ : Rho} {E : Ex → Rho → Prop} {QS : Fl → Rho → Prop} {Q : Dt → Rho → Prop} {QL : List Dt → Rho → Prop} {mo me ma mb : Mo Dt}
theorem g_lix : Ok (eLix mo me) ρ Q E ↔ Ok mo ρ (fun x ρ1 => isL x fun ds => Ok me ρ1 (fun y ρ2 => okO (lixD (.list ds) y) fun z => Q z ρ2) E) E := by
  unfold eLix
  rw [g_bind]
  refine iff_of_eq (congrArg (fun z => Ok mo ρ z E) ?_)
  funext x ρ'
  cases x <;> first | (refine propext ?_; exact g_bind.trans (by simp only [g_ofO]; exact Iff.rfl)) | rfl
theorem g_m1F {f : Str → Dt → Option (List Dt)} : Ok (eM1F f ma mb) ρ QL E ↔ Ok ma ρ (fun x ρ1 => isS x fun s => Ok mb ρ1 (fun y ρ2 => okO (f s y) fun z => QL z ρ2) E) E := by
  unfold eM1F
  rw [g_bind]
  refine iff_of_eq (congrArg (fun z => Ok ma ρ z E) ?_)
  funext x ρ'
  cases x <;> first | (refine propext ?_; exact g_bind.trans (by simp only [g_ofO]; exact Iff.rfl)) | rfl
theorem rg1_ok {j : Int} (h : small62 j) : rg1D [.int j] = some (rgD 0 j.toNat) := if_pos h
theorem rg1N (k : Nat) (h : k ≤ 1000000) : rg1D [.int (k : Int)] = some (rgD 0 k) := by
  rw [rg1_ok (by unfold small62; omega)]
  rfl
theorem rg2_ok {i j : Int} (h1 : small62 i) (h2 : small62 j) : rg2D [.int i, .int j] = some (rgD i (j - i).toNat) := if_pos ⟨h1, h2⟩
end
end DL

set_option Elab.async false
set_option linter.all false
set_option maxRecDepth 100000
namespace LawK19
open PySem PySem.Spec L2 DL
open PyProof.Rows hiding St
abbrev d_PADDLES : Dt := .tuple [.str "short", .str "long"]
noncomputable def l_is_wanted_1 : Mo Fl := (sIf (tAndM (tOf (eOp eqD (eVar 4) (eVar 1))) (tOrM (tOf (eChain (cmpI (fun i j => decide (i ≤ j))) (cmpI (fun i j => decide (i < j))) (eVar 5) (eVar 3) (eVar 6))) (tOf (eChain (cmpI (fun i j => decide (i < j))) (cmpI (fun i j => decide (i < j))) (eVar 2) (eVar 5) (eVar 3)))))
  (sRet (eC (.bool true)))
  sNext)
noncomputable def b_is_wanted : Mo Fl := (sSeq (sFor (iAny (eVar 0)) (tgT [4, 5, 6]) l_is_wanted_1)
  (sRet (eC (.bool false))))
noncomputable def m_is_wanted : List Dt → Fo := runF 7 4 b_is_wanted
noncomputable def b_next_down : Mo Fl := (sSeq (sSet 2 (eFz (eComp (iAny (eVar 0)) [4, 5, 6] (tgT [4, 5, 6]) (tOf (eOp geD (eVar 5) (eVar 1))) (eVar 5))))
  (sSeq (sIf (tOf (eOp eqD (eVar 2) (eFz (eLst eNil))))
  (sRet (eC .none))
  sNext)
  (sSeq (sSet 3 (eB minD (eCons (eVar 2) eNil)))
  (sRet (eTup (eCons (eVar 3) (eCons (eFz (eComp (iAny (eC d_PADDLES)) [4] (tgN 4) (tOf (eOp inD (eTup (eCons (eVar 4) (eCons (eVar 3) eNil))) (eFz (eComp (iAny (eVar 0)) [7] (tgN 7) tYesM (eSl (eVar 7) eNoP (ePart (eC (.int 2)))))))) (eVar 4))) eNil)))))))
noncomputable def m_next_down : List Dt → Fo := runF 8 2 b_next_down
noncomputable def l_sent_1 : Mo Fl := (sSeq (sTo (tgT [5, 6]) (eVar 4))
  (sSeq (sIf (tOf (eOp eqD (eB lenD (eCons (eVar 6) eNil)) (eC (.int 2))))
  (sSet 6 (eFz (eComp (iAny (eVar 6)) [9] (tgN 9) (tOf (eOp neD (eVar 9) (eVar 3))) (eVar 9))))
  sNext)
  (sSeq (sSet 3 (eOp idxD (eVar 6) (eC (.int 0))))
  (sSeq (sAppend 2 (eTup (eCons (eVar 5) (eCons (eVar 3) eNil))))
  (sSeq (sSet 7 (eOp addD (eOp addD (eVar 5) (eOp idxD (eVar 0) (eOp tixD (eC d_PADDLES) (eVar 3)))) (eOp idxD (eVar 0) (eC (.int 2)))))
  (sSeq (sSet 8 (eFz (eComp (iAny (eC d_PADDLES)) [9] (tgN 9) (tOf (eCall m_is_wanted (eCons (eVar 1) (eCons (eVar 9) (eCons (eVar 5) (eCons (eVar 7) eNil)))))) (eVar 9))))
  (sSeq (sSet 4 (eTup (eCons (eVar 7) (eCons (eVar 8) eNil))))
  (sIf (tOf (eOp eqD (eVar 8) (eFz (eLst eNil))))
  (sSet 4 (eCall m_next_down (eCons (eVar 1) (eCons (eVar 7) eNil))))
  sNext))))))))
noncomputable def b_sent : Mo Fl := (sSeq (sSetF 2 (eLst eNil))
  (sSeq (sSet 3 (eC (.str "long")))
  (sSeq (sSet 4 (eCall m_next_down (eCons (eVar 1) (eCons (eC (.int 0)) eNil))))
  (sSeq (sWhile (tOf (eOp nisD (eVar 4) (eC .none))) l_sent_1 fuelN)
  (sRetO 2)))))
noncomputable def m_sent : List Dt → Fo := runF 10 2 b_sent
noncomputable def l_stretches_sent_1 : Mo Fl := (sSeq (sIf (tOf (eOp neD (ePeek 2) (eFz (eLst eNil))))
  (sAppend 2 (eOp subD (eVar 4) (eVar 3)))
  sNext)
  (sSeq (sSet 6 (eOp idxD (eVar 0) (eOp tixD (eC d_PADDLES) (eVar 5))))
  (sSeq (sAppend 2 (eVar 6))
  (sSet 3 (eOp addD (eVar 4) (eVar 6))))))
noncomputable def b_stretches_sent : Mo Fl := (sSeq (sSetF 2 (eLst eNil))
  (sSeq (sSet 3 (eC (.int 0)))
  (sSeq (sFor (iAny (eCall m_sent (eCons (eVar 0) (eCons (eVar 1) eNil)))) (tgT [4, 5]) l_stretches_sent_1)
  (sRetO 2))))
noncomputable def m_stretches_sent : List Dt → Fo := runF 7 2 b_stretches_sent
noncomputable def b__law_cell : Mo Fl := (sSeq (sIf (tOf (eOp ltD (eVar 1) (eB lenD (eCons (eVar 0) eNil))))
  (sRet (eOp idxD (eVar 0) (eVar 1)))
  sNext)
  (sSeq (sIf (tOf (eOp eqD (eB lenD (eCons (eVar 0) eNil)) (eC (.int 0))))
  (sRet (eOp addD (eOp mulD (eC (.int 7919)) (eVar 1)) (eC (.int 101))))
  sNext)
  (sRet (eOp addD (eOp modD (eOp idxD (eVar 0) (eOp modD (eVar 1) (eB lenD (eCons (eVar 0) eNil)))) (eC (.int 1000003))) (eOp mulD (eC (.int 7919)) (eVar 1))))))
noncomputable def m__law_cell : List Dt → Fo := runF 2 2 b__law_cell
noncomputable def l__law_draws_1 : Mo Fl := (sSeq (sSet 9 (eOp mulD (eOp modD (eVar 5) (eOp idxD (eVar 4) (eOp modD (eVar 8) (eC (.int 8))))) (eOp addD (eC (.int 48271)) (eOp mulD (eOp mulD (eC (.int 2)) (eVar 8)) (eVar 8)))))
  (sSeq (sSet 9 (eOp addD (eOp addD (eVar 9) (eOp mulD (eOp mulD (eC (.int 7919)) (eOp addD (eVar 8) (eC (.int 1)))) (eOp addD (eVar 8) (eC (.int 1))))) (eOp mulD (eC (.int 104729)) (eVar 1))))
  (sSeq (sSet 9 (eOp modD (eVar 9) (eOp idxD (eVar 4) (eOp modD (eOp addD (eOp mulD (eC (.int 3)) (eVar 8)) (eVar 1)) (eC (.int 8))))))
  (sSeq (sSet 9 (eOp modD (eOp mulD (eOp mulD (eVar 9) (eVar 9)) (eVar 9)) (eOp idxD (eVar 4) (eOp modD (eOp addD (eVar 8) (eC (.int 5))) (eC (.int 8))))))
  (sSeq (sIf (tOf (eOp gtD (eVar 6) (eC (.int 0))))
  (sSet 9 (eVar 6))
  sNext)
  (sSeq (sAppend 7 (eOp modD (eVar 9) (eVar 3)))
  (sSet 6 (eOp fdivD (eVar 6) (eVar 3)))))))))
noncomputable def b__law_draws : Mo Fl := (sSeq (sSet 4 (eTup (eCons (eC (.int 2147483647)) (eCons (eC (.int 2147483629)) (eCons (eC (.int 2147483587)) (eCons (eC (.int 2147483579)) (eCons (eC (.int 2147483563)) (eCons (eC (.int 2147483549)) (eCons (eC (.int 2147483543)) (eCons (eC (.int 2147483497)) eNil))))))))))
  (sSeq (sSet 5 (eCall m__law_cell (eCons (eVar 0) (eCons (eVar 1) eNil))))
  (sSeq (sSet 6 (eC (.int 0)))
  (sSeq (sIf (tOf (eOp geD (eVar 5) (eOp powD (eC (.int 10)) (eC (.int 18)))))
  (sSet 6 (eVar 5))
  sNext)
  (sSeq (sSetF 7 (eLst eNil))
  (sSeq (sFor (eBF rg1D (eCons (eVar 2) eNil)) (tgN 8) l__law_draws_1)
  (sRetO 7)))))))
noncomputable def m__law_draws : List Dt → Fo := runF 10 4 b__law_draws
noncomputable def b__law_whole : Mo Fl := (sRet (eAndM (eIsI "int" (eVar 0)) (eNotM (eIsI "bool" (eVar 0)))))
noncomputable def m__law_whole : List Dt → Fo := runF 1 1 b__law_whole
noncomputable def b__law_form : Mo Fl := (sSeq (sSet 2 (eCall m__law_draws (eCons (eVar 0) (eCons (eVar 1) (eCons (eC (.int 6)) (eCons (eC (.int 27720)) eNil))))))
  (sSeq (sIf (tOf (eOp eqD (eOp modD (eOp idxD (eVar 2) (eC (.int 5))) (eC (.int 3))) (eC (.int 0))))
  (sRet (eTup (eCons (eC (.int 1)) (eCons (eC (.int 3)) (eCons (eC (.int 1)) (eCons (eC (.int 3)) (eCons (eC (.int 7)) eNil)))))))
  sNext)
  (sSeq (sSet 3 (eOp addD (eC (.int 1)) (eOp modD (eOp idxD (eVar 2) (eC (.int 0))) (eOp idxD (eFz (eLst (eCons (eC (.int 4)) (eCons (eC (.int 30)) eNil)))) (eOp modD (eOp fdivD (eOp idxD (eVar 2) (eC (.int 5))) (eC (.int 3))) (eC (.int 2)))))))
  (sSeq (sSet 4 (eOp addD (eC (.int 1)) (eOp modD (eOp idxD (eVar 2) (eC (.int 2))) (eC (.int 5)))))
  (sSeq (sSet 5 (eOp addD (eOp addD (eVar 4) (eC (.int 1))) (eOp modD (eOp idxD (eVar 2) (eC (.int 3))) (eOp idxD (eFz (eLst (eCons (eC (.int 3)) (eCons (eC (.int 20)) eNil)))) (eOp modD (eOp fdivD (eOp idxD (eVar 2) (eC (.int 5))) (eC (.int 6))) (eC (.int 2)))))))
  (sRet (eTup (eCons (eVar 3) (eCons (eOp addD (eOp addD (eVar 3) (eC (.int 1))) (eOp modD (eOp idxD (eVar 2) (eC (.int 1))) (eOp idxD (eFz (eLst (eCons (eC (.int 4)) (eCons (eC (.int 30)) eNil)))) (eOp modD (eOp fdivD (eOp idxD (eVar 2) (eC (.int 5))) (eC (.int 3))) (eC (.int 2)))))) (eCons (eVar 4) (eCons (eVar 5) (eCons (eOp addD (eOp addD (eVar 5) (eC (.int 1))) (eOp modD (eOp idxD (eVar 2) (eC (.int 4))) (eC (.int 9)))) eNil))))))))))))
noncomputable def m__law_form : List Dt → Fo := runF 6 2 b__law_form
noncomputable def l__law_presses_1 : Mo Fl := (sSeq (sSet 7 (eOp modD (eOp idxD (eVar 3) (eOp mulD (eC (.int 2)) (eVar 6))) (eC (.int 2))))
  (sSeq (sSet 8 (eOp addD (eOp idxD (ePeek 4) (eVar 7)) (eOp modD (eOp fdivD (eOp idxD (eVar 3) (eOp mulD (eC (.int 2)) (eVar 6))) (eC (.int 2))) (eOp idxD (eFz (eLst (eCons (eC (.int 3)) (eCons (eC (.int 12)) (eCons (eC (.int 60)) eNil))))) (eOp modD (eOp fdivD (eOp idxD (eVar 3) (eOp mulD (eC (.int 2)) (eVar 6))) (eC (.int 200))) (eC (.int 3)))))))
  (sSeq (sIf (tOf (eOp eqD (eOp modD (eOp fdivD (eOp idxD (eVar 3) (eOp mulD (eC (.int 2)) (eVar 6))) (eC (.int 24))) (eC (.int 6))) (eC (.int 0))))
  (sSet 8 (eB maxD (eCons (ePeek 4) eNil)))
  sNext)
  (sSeq (sSet 9 (eOp addD (eOp addD (eVar 8) (eC (.int 1))) (eOp modD (eOp idxD (eVar 3) (eOp addD (eOp mulD (eC (.int 2)) (eVar 6)) (eC (.int 1)))) (eOp idxD (eFz (eLst (eCons (eC (.int 2)) (eCons (eC (.int 9)) (eCons (eC (.int 90)) eNil))))) (eOp modD (eOp fdivD (eOp idxD (eVar 3) (eOp addD (eOp mulD (eC (.int 2)) (eVar 6)) (eC (.int 1)))) (eC (.int 90))) (eC (.int 3)))))))
  (sIf (tOf (eOp leD (eVar 9) (eC (.int 5000))))
  (sSeq (sAppend 5 (eTup (eCons (eOp idxD (eFz (eLst (eCons (eC (.str "short")) (eCons (eC (.str "long")) eNil)))) (eVar 7)) (eCons (eVar 8) (eCons (eVar 9) eNil)))))
  (sSetIx 4 (eVar 7) (eVar 9)))
  sNext)))))
noncomputable def b__law_presses : Mo Fl := (sSeq (sSet 2 (eCall m__law_draws (eCons (eVar 0) (eCons (eVar 1) (eCons (eC (.int 4)) (eCons (eC (.int 27720)) eNil))))))
  (sSeq (sSet 3 (eCall m__law_draws (eCons (eVar 0) (eCons (eOp addD (eVar 1) (eC (.int 1))) (eCons (eC (.int 80)) (eCons (eC (.int 27720)) eNil))))))
  (sSeq (sSetF 4 (eLst (eCons (eOp modD (eOp idxD (eVar 2) (eC (.int 0))) (eC (.int 30))) (eCons (eOp modD (eOp idxD (eVar 2) (eC (.int 1))) (eC (.int 30))) eNil))))
  (sSeq (sSetF 5 (eLst eNil))
  (sSeq (sFor (eBF rg1D (eCons (eOp idxD (eFz (eLst (eCons (eOp modD (eOp idxD (eVar 2) (eC (.int 2))) (eC (.int 41))) (eCons (eOp modD (eOp idxD (eVar 2) (eC (.int 2))) (eC (.int 9))) eNil)))) (eOp modD (eOp idxD (eVar 2) (eC (.int 3))) (eC (.int 2)))) eNil)) (tgN 6) l__law_presses_1)
  (sRetO 5))))))
noncomputable def m__law_presses : List Dt → Fo := runF 10 2 b__law_presses
noncomputable def t_law_a1 : Mo Fl := (sIf (tAndM (tOf (eOp gtD (eVar 6) (eC (.int 0)))) (tOf (eOp ltD (eOp idxD (ePeek 5) (eOp subD (eOp mulD (eC (.int 2)) (eVar 6)) (eC (.int 1)))) (eOp idxD (eVar 2) (eC (.int 2))))))
  (sRet (eC (.bool false)))
  sNext)
noncomputable def l_law_1 : Mo Fl := (sSeq (sIf (tOrM (tOf (eOp neD (eOp idxD (ePeek 5) (eOp mulD (eC (.int 2)) (eVar 6))) (eOp idxD (eVar 2) (eLix (eFz (eLst (eCons (eC (.str "short")) (eCons (eC (.str "long")) eNil)))) (eVar 8))))) (tOf (eOp neD (eB sumD (eCons (eSl (ePeek 5) eNoP (ePart (eOp mulD (eC (.int 2)) (eVar 6)))) eNil)) (eOp subD (eVar 7) (eOp idxD (eOp idxD (eVar 4) (eC (.int 0))) (eC (.int 0)))))))
  (sRet (eC (.bool false)))
  sNext)
  t_law_a1)
noncomputable def t_law_b15 : Mo Fl := (sIf (tAndM (tOf (eOp gtD (eOp addD (eOp idxD (eVar 2) (eVar 10)) (eOp idxD (eVar 2) (eC (.int 2)))) (eVar 11))) (tOf (eOp neD (eSl (eVar 14) eNoP (ePart (eNeg (eC (.int 2))))) (eSl (eVar 15) eNoP (ePart (eB lenD (eCons (eSl (eVar 14) eNoP (ePart (eNeg (eC (.int 2))))) eNil)))))))
  (sRet (eC (.bool false)))
  sNext)
noncomputable def t_law_b14 : Mo Fl := (sSeq (sIf (tOrM (tAndM (tOf (eOp gtD (eB lenD (eCons (eVar 14) eNil)) (eC (.int 1)))) (tAndM (tOf (eOp gtD (eOp addD (eOp idxD (eVar 2) (eVar 10)) (eOp idxD (eVar 2) (eC (.int 2)))) (eVar 11))) (tOf (eOp neD (eSl (eVar 14) eNoP (ePart (eC (.int 2)))) (eSl (eVar 15) eNoP (ePart (eC (.int 2)))))))) (tOf (eOp neD (eSl (eVar 14) eNoP (ePart (eC (.int 1)))) (eSl (eVar 15) eNoP (ePart (eC (.int 1)))))))
  (sRet (eC (.bool false)))
  sNext)
  t_law_b15)
noncomputable def t_law_b13 : Mo Fl := (sSeq (sSet 15 (eFz (eComp (eBF rg1D (eCons (eB lenD (eCons (eVar 14) eNil)) eNil)) [6] (tgN 6) tYesM (eOp idxD (eFz (eLst (eCons (eC (.str "short")) (eCons (eC (.str "long")) eNil)))) (eOp modD (eOp addD (eVar 10) (eVar 6)) (eC (.int 2)))))))
  t_law_b14)
noncomputable def t_law_b12 : Mo Fl := (sSeq (sIf (tOf (eOp eqD (eVar 11) (eC (.int 0))))
  (sSet 10 (eC (.int 0)))
  sNext)
  t_law_b13)
noncomputable def t_law_b11 : Mo Fl := (sSeq (sSet 14 (eFz (eComp (iAny (eCall m_sent (eCons (eVar 2) (eCons (eVar 13) eNil)))) [16, 8] (tgT [16, 8]) tYesM (eVar 8))))
  t_law_b12)
noncomputable def t_law_b10 : Mo Fl := (sSeq (sSet 13 (eFz (eLst (eCons (eTup (eCons (eC (.str "short")) (eCons (eOp addD (eVar 7) (eOp mulD (eVar 11) (eVar 10))) (eCons (eVar 12) eNil)))) (eCons (eTup (eCons (eC (.str "long")) (eCons (eOp addD (eVar 7) (eOp mulD (eVar 11) (eOp subD (eC (.int 1)) (eVar 10)))) (eCons (eVar 12) eNil)))) eNil)))))
  t_law_b11)
noncomputable def t_law_b9 : Mo Fl := (sSeq (sPar 7 12 (eCons (eOp modD (eOp idxD (eVar 9) (eC (.int 2))) (eC (.int 50))) (eCons (eOp addD (eOp addD (eOp modD (eOp idxD (eVar 9) (eC (.int 2))) (eC (.int 50))) (eC (.int 5))) (eOp modD (eOp idxD (eVar 9) (eC (.int 3))) (eC (.int 900)))) eNil)))
  t_law_b10)
noncomputable def t_law_b8 : Mo Fl := (sSeq (sTo (tgT [10, 11]) (eTup (eCons (eOp modD (eOp idxD (eVar 9) (eC (.int 0))) (eC (.int 2))) (eCons (eOp modD (eOp idxD (eVar 9) (eC (.int 1))) (eC (.int 4))) eNil))))
  t_law_b9)
noncomputable def t_law_b7 : Mo Fl := (sSeq (sSet 9 (eCall m__law_draws (eCons (eVar 0) (eCons (eOp addD (eOp mulD (eC (.int 3)) (eVar 1)) (eC (.int 2))) (eCons (eC (.int 4)) (eCons (eC (.int 27720)) eNil))))))
  t_law_b8)
noncomputable def t_law_b6 : Mo Fl := (sSeq (sAppend 5 (eC (.int 7)))
  t_law_b7)
noncomputable def t_law_b5 : Mo Fl := (sSeq (sFor (eBF en1D (eCons (eVar 4) eNil)) (tgX (tsCons (tgN 6) (tsCons (tgT [7, 8]) tsNil))) l_law_1)
  t_law_b6)
noncomputable def t_law_b4 : Mo Fl := (sSeq (sIf (tOrM (tOf (eOp neD (eB lenD (eCons (ePeek 5) eNil)) (eB maxD (eCons (eC (.int 0)) (eCons (eOp subD (eOp mulD (eC (.int 2)) (eB lenD (eCons (eVar 4) eNil))) (eC (.int 1))) eNil))))) (tOf (eOp inD (eC (.bool false)) (eFz (eComp (iSeq (ePeek 5)) [17] (tgN 17) tYesM (eCall m__law_whole (eCons (eVar 17) eNil)))))))
  (sRet (eC (.bool false)))
  sNext)
  t_law_b5)
noncomputable def t_law_b3 : Mo Fl := (sSeq (sSetV 5 (eCallV m_stretches_sent (eCons (eVar 2) (eCons (eFz (eBF listD (eCons (eVar 3) eNil))) eNil))))
  t_law_b4)
noncomputable def t_law_b2 : Mo Fl := (sSeq (sSet 4 (eCall m_sent (eCons (eVar 2) (eCons (eFz (eBF listD (eCons (eVar 3) eNil))) eNil))))
  t_law_b3)
noncomputable def t_law_b1 : Mo Fl := (sSeq (sSet 3 (eCall m__law_presses (eCons (eVar 0) (eCons (eOp addD (eOp mulD (eC (.int 3)) (eVar 1)) (eC (.int 1))) eNil))))
  t_law_b2)
noncomputable def l_law_2 : Mo Fl := (sSeq (sSet 2 (eCall m__law_form (eCons (eVar 0) (eCons (eOp mulD (eC (.int 3)) (eVar 1)) eNil))))
  t_law_b1)
noncomputable def t_law_c1 : Mo Fl := (sRet (eC (.bool true)))
noncomputable def b_law : Mo Fl := (sSeq (sFor (eBF rg1D (eCons (eC (.int 2)) eNil)) (tgN 1) l_law_2)
  t_law_c1)
noncomputable def m_law : List Dt → Fo := runF 18 1 b_law
end LawK19

set_option linter.all false
set_option maxRecDepth 100000
namespace LawK19
open PySem PySem.Spec L2 DL
open PyProof.Rows hiding St
theorem cell_ok (ns : List Int) (k : Int) (h0 : 0 ≤ k) (h1 : k < 1000) : ∃ c, m__law_cell [scr ns, .int k] = .ok (.int c) := by
  have h : okR (m__law_cell [scr ns, .int k]) (fun d => ∃ c, d = .int c) (fun _ => False) noX := by
    unfold m__law_cell b__law_cell
    simp only [g_bind, g_ok, g_ofO, g_var, g_peek, g_frz, g_C, g_op, g_opF, g_tOf, g_B, g_BF, g_nil, g_cons, ok_ite, g_tup, g_lst, g_fz, g_call, g_callF, g_callV, g_callF0, g_seq, g_next, g_set, g_setF, g_setV, g_drop, g_ret, g_retF, g_retV, g_retO, g_if, g_append, g_extend, g_to, g_par, g_aug, g_any, g_noP, g_part, g_sl, g_slF, g_isI, g_m1, g_tAnd, g_tOr, g_tNot, g_and, g_or, g_not, g_neg, g_eif, g_tru, g_for, g_comp, g_run, okO_some, slV_va, slP_va, slP_ml, slZ_va, slZ_ml, slM_ml, isB_b, isI_i, isS_s, isL_l, itO_l, itO_t, itO_s, isVl_z, isVl_f, nxF_nx, nxF_rt, nxF_ro, nxF_bk, nxF_ct, endF_nx, endF_rt, endF_ro, okR_ok, okR_fr, okR_er, two_ok, stepF_nx, stepF_ct, stepF_bk, stepF_rt, stepF_ro, List.getElem?_cons_zero, List.getElem?_cons_succ, List.set_cons_zero, List.set_cons_succ, List.length_cons, List.length_nil, List.map_cons, List.map_nil, List.replicate_succ, List.replicate_zero, List.cons_append, List.nil_append, Nat.reduceAdd, Nat.reduceSub, Nat.reduceLeDiff, decide_eq_true_eq, addInt, subInt, ltInt, mulInt, modInt, divInt, powInt, shlInt, shrInt, eqInt, neInt, cmpInt, lenScr, lenLst, lenTup, idxScr, idxLst, idxTup, true_and, tgN, wipeR, g_chain, g_iseq, g_setIx]
    split
    · obtain ⟨c, e, _⟩ := atI_ints ns k h0 (by assumption)
      rw [e]
      exact ⟨c, rfl⟩
    · split
      · exact ⟨cmul (by omega) (by omega), _, rfl⟩
      · obtain ⟨c, e, _⟩ := atI_ints ns (k % ns.length) (Int.emod_nonneg _ (by omega)) (Int.emod_lt_of_pos _ (by omega))
        rw [e]
        simp only [g_bind, g_ok, g_ofO, g_var, g_peek, g_frz, g_C, g_op, g_opF, g_tOf, g_B, g_BF, g_nil, g_cons, ok_ite, g_tup, g_lst, g_fz, g_call, g_callF, g_callV, g_callF0, g_seq, g_next, g_set, g_setF, g_setV, g_drop, g_ret, g_retF, g_retV, g_retO, g_if, g_append, g_extend, g_to, g_par, g_aug, g_any, g_noP, g_part, g_sl, g_slF, g_isI, g_m1, g_tAnd, g_tOr, g_tNot, g_and, g_or, g_not, g_neg, g_eif, g_tru, g_for, g_comp, g_run, okO_some, slV_va, slP_va, slP_ml, slZ_va, slZ_ml, slM_ml, isB_b, isI_i, isS_s, isL_l, itO_l, itO_t, itO_s, isVl_z, isVl_f, nxF_nx, nxF_rt, nxF_ro, nxF_bk, nxF_ct, endF_nx, endF_rt, endF_ro, okR_ok, okR_fr, okR_er, two_ok, stepF_nx, stepF_ct, stepF_bk, stepF_rt, stepF_ro, List.getElem?_cons_zero, List.getElem?_cons_succ, List.set_cons_zero, List.set_cons_succ, List.length_cons, List.length_nil, List.map_cons, List.map_nil, List.replicate_succ, List.replicate_zero, List.cons_append, List.nil_append, Nat.reduceAdd, Nat.reduceSub, Nat.reduceLeDiff, decide_eq_true_eq, addInt, subInt, ltInt, mulInt, modInt, divInt, powInt, shlInt, shrInt, eqInt, neInt, cmpInt, lenScr, lenLst, lenTup, idxScr, idxLst, idxTup, true_and, tgN, wipeR, g_chain, g_iseq, g_setIx]
        exact ⟨by omega, by omega, cmul (by omega) (by omega), _, rfl⟩
  obtain ⟨d, e, c, rfl⟩ := okR_val h
  exact ⟨c, e⟩
def primes : List Int := [2147483647, 2147483629, 2147483587, 2147483579, 2147483563, 2147483549, 2147483543, 2147483497]
theorem prime_at (k : Int) : ∃ p, atI (primes.map PyData.int) (k % 8) = some (.int p) ∧ 0 < p ∧ p < 2 ^ 31 := by
  obtain ⟨c, e, g⟩ := atI_ints primes (k % 8) (Int.emod_nonneg _ (by omega)) (Int.emod_lt_of_pos _ (by decide))
  refine ⟨c, e, ?_⟩
  have : ∀ x ∈ primes, 0 < x ∧ x < 2 ^ 31 := by decide
  exact this c (List.mem_of_getElem? g)
theorem draws_loop (ns : List Int) (k many base c r : Int) (dj dm : Sl) (h0 : 0 ≤ k) (h1 : k < 1000) (hm : 0 ≤ many) (hm' : many ≤ 1000) (hb : 0 < base) (hb' : base < 2 ^ 40) (Q : Fl → Rho → Prop)
    (hQ : ∀ (L : List Int) r' j' m', L.length = many.toNat → (∀ x ∈ L, 0 ≤ x ∧ x < base) → Q .nx [.va (scr ns), .va (.int k), .va (.int many), .va (.int base), .va (.tuple (primes.map .int)), .va (.int c), r', .ml (L.map .int), j', m']) :
    Ok (sLoop (tgN 8) l__law_draws_1 (rgD 0 many.toNat)) [.va (scr ns), .va (.int k), .va (.int many), .va (.int base), .va (.tuple (primes.map .int)), .va (.int c), .va (.int r), .ml [], dj, dm] Q fun x _ => noX x := by
  refine loop_inv (fun n ρ => n ≤ many.toNat ∧ ∃ (L : List Int) (r' : Int) (j' m' : Sl), L.length = n ∧ (∀ x ∈ L, 0 ≤ x ∧ x < base) ∧ ρ = [.va (scr ns), .va (.int k), .va (.int many), .va (.int base), .va (.tuple (primes.map .int)), .va (.int c), .va (.int r'), .ml (L.map .int), j', m']) ⟨Nat.zero_le _, [], r, dj, dm, rfl, by simp, rfl⟩ ?_ ?_
  · rintro n d ρ hd ⟨_, L, r', j', m', hl, hx, rfl⟩
    have hn : n < many.toNat := by
      have := (List.getElem?_eq_some_iff.mp hd).1
      simpa [rgD] using this
    have ed : d = .int n := by
      simp [rgD, hn] at hd
      exact hd.symm
    subst ed
    unfold l__law_draws_1
    obtain ⟨p1, e1, q1, q1'⟩ := prime_at n
    obtain ⟨p2, e2, q2, q2'⟩ := prime_at (3 * n + k)
    obtain ⟨p3, e3, q3, q3'⟩ := prime_at (n + 5)
    have hc := Int.emod_lt_of_pos c q1
    have hc' := Int.emod_nonneg c (b := p1) (by omega)
    simp only [g_bind, g_ok, g_ofO, g_var, g_peek, g_frz, g_C, g_op, g_opF, g_tOf, g_B, g_BF, g_nil, g_cons, ok_ite, g_tup, g_lst, g_fz, g_call, g_callF, g_callV, g_callF0, g_seq, g_next, g_set, g_setF, g_setV, g_drop, g_ret, g_retF, g_retV, g_retO, g_if, g_append, g_extend, g_to, g_par, g_aug, g_any, g_noP, g_part, g_sl, g_slF, g_isI, g_m1, g_tAnd, g_tOr, g_tNot, g_and, g_or, g_not, g_neg, g_eif, g_tru, g_for, g_comp, g_run, okO_some, slV_va, slP_va, slP_ml, slZ_va, slZ_ml, slM_ml, isB_b, isI_i, isS_s, isL_l, itO_l, itO_t, itO_s, isVl_z, isVl_f, nxF_nx, nxF_rt, nxF_ro, nxF_bk, nxF_ct, endF_nx, endF_rt, endF_ro, okR_ok, okR_fr, okR_er, two_ok, stepF_nx, stepF_ct, stepF_bk, stepF_rt, stepF_ro, List.getElem?_cons_zero, List.getElem?_cons_succ, List.set_cons_zero, List.set_cons_succ, List.length_cons, List.length_nil, List.map_cons, List.map_nil, List.replicate_succ, List.replicate_zero, List.cons_append, List.nil_append, Nat.reduceAdd, Nat.reduceSub, Nat.reduceLeDiff, decide_eq_true_eq, addInt, subInt, ltInt, mulInt, modInt, divInt, powInt, shlInt, shrInt, eqInt, neInt, cmpInt, lenScr, lenLst, lenTup, idxScr, idxLst, idxTup, true_and, tgN, wipeR, g_chain, g_iseq, g_setIx, e1, e2, e3]
    have nj : (n : Int) * n ≤ 1000 * 1000 := Int.mul_le_mul (by omega) (by omega) (by omega) (by omega)
    have nj0 : 0 ≤ (n : Int) * n := Int.mul_nonneg (by omega) (by omega)
    generalize hA : c % p1 * (48271 + 2 * n * n) = A
    generalize hB : A + 7919 * (n + 1) * (n + 1) + 104729 * k = B
    have hD := Int.emod_lt_of_pos B q2
    have hD' := Int.emod_nonneg B (b := p2) (by omega)
    generalize B % p2 = D at hD hD' ⊢
    have hDD : D * D ≤ 2 ^ 31 * 2 ^ 31 := Int.mul_le_mul (by omega) (by omega) (by omega) (by omega)
    have hDD' : 0 ≤ D * D := Int.mul_nonneg (by omega) (by omega)
    have sz : L.length < sizeLine := by unfold sizeLine; omega
    have fin : ∀ x : Int, 0 ≤ x % base ∧ x % base < base := fun x => ⟨Int.emod_nonneg _ (by omega), Int.emod_lt_of_pos _ hb⟩
    have nxt : ∀ (z : Int) (w : Dt), ∃ (L_1 : List Int) (r'_1 : Int) (j'_1 m'_1 : Sl), L_1.length = n + 1 ∧ (∀ x ∈ L_1, 0 ≤ x ∧ x < base) ∧ [Sl.va (scr ns), Sl.va (.int k), .va (.int many), .va (.int base), .va (.tuple (primes.map .int)), .va (.int c), .va (.int (r' / base)), .ml (L.map .int ++ [.int (z % base)]), .va (.int n), .va w] = [.va (scr ns), .va (.int k), .va (.int many), .va (.int base), .va (.tuple (primes.map .int)), .va (.int c), .va (.int r'_1), .ml (L_1.map .int), j'_1, m'_1] := fun z w =>
      ⟨L ++ [z % base], r' / base, _, _, by simp [hl], fun x hx' => by
        rcases List.mem_append.mp hx' with h | h
        · exact hx x h
        · simp at h; subst h; exact fin z, by simp; exact ⟨rfl, rfl⟩⟩
    have e2n : 2 * (n : Int) * n = 2 * (n * n) := Int.mul_assoc _ _ _
    refine ⟨by decide, q1, by apply cmul <;> omega, by apply cmul <;> omega, by apply cmul <;> omega, by apply cmul <;> omega, by apply cmul <;> omega, by apply cmul <;> omega, by apply cmul <;> omega, by decide, q2, by apply cmul <;> omega, by apply cmul <;> omega, by decide, q3, ?_⟩
    split
    · exact ⟨hb, by simpa using sz, cdiv hb (by omega), by omega, nxt _ _⟩
    · exact ⟨hb, by simpa using sz, cdiv hb (by omega), by omega, nxt _ _⟩
  · rintro ρ ⟨_, L, r', j', m', hl, hx, rfl⟩
    exact hQ L _ _ _ (by simpa [rgD] using hl) hx
theorem draws_ok (ns : List Int) (k many base : Int) (h0 : 0 ≤ k) (h1 : k < 1000) (hm : 0 ≤ many) (hm' : many ≤ 1000) (hb : 0 < base) (hb' : base < 2 ^ 40) :
    ∃ L : List Int, m__law_draws [scr ns, .int k, .int many, .int base] = .fr (L.map .int) ∧ L.length = many.toNat ∧ ∀ x ∈ L, 0 ≤ x ∧ x < base := by
  obtain ⟨c, ec⟩ := cell_ok ns k h0 h1
  have h : okR (m__law_draws [scr ns, .int k, .int many, .int base]) (fun _ => False) (fun ds => ∃ L : List Int, ds = L.map .int ∧ L.length = many.toNat ∧ ∀ x ∈ L, 0 ≤ x ∧ x < base) noX := by
    unfold m__law_draws b__law_draws
    have er : rg1D [.int many] = some (rgD 0 many.toNat) := if_pos (by unfold small62; omega)
    simp only [g_bind, g_ok, g_ofO, g_var, g_peek, g_frz, g_C, g_op, g_opF, g_tOf, g_B, g_BF, g_nil, g_cons, ok_ite, g_tup, g_lst, g_fz, g_call, g_callF, g_callV, g_callF0, g_seq, g_next, g_set, g_setF, g_setV, g_drop, g_ret, g_retF, g_retV, g_retO, g_if, g_append, g_extend, g_to, g_par, g_aug, g_any, g_noP, g_part, g_sl, g_slF, g_isI, g_m1, g_tAnd, g_tOr, g_tNot, g_and, g_or, g_not, g_neg, g_eif, g_tru, g_for, g_comp, g_run, okO_some, slV_va, slP_va, slP_ml, slZ_va, slZ_ml, slM_ml, isB_b, isI_i, isS_s, isL_l, itO_l, itO_t, itO_s, isVl_z, isVl_f, nxF_nx, nxF_rt, nxF_ro, nxF_bk, nxF_ct, endF_nx, endF_rt, endF_ro, okR_ok, okR_fr, okR_er, two_ok, stepF_nx, stepF_ct, stepF_bk, stepF_rt, stepF_ro, List.getElem?_cons_zero, List.getElem?_cons_succ, List.set_cons_zero, List.set_cons_succ, List.length_cons, List.length_nil, List.map_cons, List.map_nil, List.replicate_succ, List.replicate_zero, List.cons_append, List.nil_append, Nat.reduceAdd, Nat.reduceSub, Nat.reduceLeDiff, decide_eq_true_eq, addInt, subInt, ltInt, mulInt, modInt, divInt, powInt, shlInt, shrInt, eqInt, neInt, cmpInt, lenScr, lenLst, lenTup, idxScr, idxLst, idxTup, true_and, tgN, wipeR, g_chain, g_iseq, g_setIx, ec, er]
    refine ⟨by decide, ?_⟩
    have key : ∀ r : Int, Ok (sLoop (tgN 8) l__law_draws_1 (rgD 0 many.toNat)) [.va (scr ns), .va (.int k), .va (.int many), .va (.int base), .va (.tuple (primes.map .int)), .va (.int c), .va (.int r), .ml [], .un, .un] _ _ := fun r => draws_loop ns k many base c r .un .un h0 h1 hm hm' hb hb' (fun fl ρ' =>
        nxF fl (slZ ρ'[7]? (fun x => False) fun ds => ∃ L : List Int, ds = List.map PyData.int L ∧ L.length = many.toNat ∧ ∀ (x : Int), x ∈ L → 0 ≤ x ∧ x < base)
              (endF fl (fun x => False) fun ds => ∃ L, ds = List.map PyData.int L ∧ L.length = many.toNat ∧ ∀ (x : Int), x ∈ L → 0 ≤ x ∧ x < base))
        (fun L r' j' m' hl hx => by simp only [g_bind, g_ok, g_ofO, g_var, g_peek, g_frz, g_C, g_op, g_opF, g_tOf, g_B, g_BF, g_nil, g_cons, ok_ite, g_tup, g_lst, g_fz, g_call, g_callF, g_callV, g_callF0, g_seq, g_next, g_set, g_setF, g_setV, g_drop, g_ret, g_retF, g_retV, g_retO, g_if, g_append, g_extend, g_to, g_par, g_aug, g_any, g_noP, g_part, g_sl, g_slF, g_isI, g_m1, g_tAnd, g_tOr, g_tNot, g_and, g_or, g_not, g_neg, g_eif, g_tru, g_for, g_comp, g_run, okO_some, slV_va, slP_va, slP_ml, slZ_va, slZ_ml, slM_ml, isB_b, isI_i, isS_s, isL_l, itO_l, itO_t, itO_s, isVl_z, isVl_f, nxF_nx, nxF_rt, nxF_ro, nxF_bk, nxF_ct, endF_nx, endF_rt, endF_ro, okR_ok, okR_fr, okR_er, two_ok, stepF_nx, stepF_ct, stepF_bk, stepF_rt, stepF_ro, List.getElem?_cons_zero, List.getElem?_cons_succ, List.set_cons_zero, List.set_cons_succ, List.length_cons, List.length_nil, List.map_cons, List.map_nil, List.replicate_succ, List.replicate_zero, List.cons_append, List.nil_append, Nat.reduceAdd, Nat.reduceSub, Nat.reduceLeDiff, decide_eq_true_eq, addInt, subInt, ltInt, mulInt, modInt, divInt, powInt, shlInt, shrInt, eqInt, neInt, cmpInt, lenScr, lenLst, lenTup, idxScr, idxLst, idxTup, true_and, tgN, wipeR, g_chain, g_iseq, g_setIx]; exact ⟨L, rfl, hl, hx⟩)
    split <;> exact key _
  obtain ⟨d, e, L, rfl, h⟩ := okR_lst h
  exact ⟨L, e, h⟩
theorem draw_at {L : List Int} {base : Int} (hx : ∀ x ∈ L, 0 ≤ x ∧ x < base) (k : Nat) (h : k < L.length) : ∃ c, atI (L.map PyData.int) (k : Int) = some (.int c) ∧ 0 ≤ c ∧ c < base := by
  obtain ⟨c, e, g⟩ := atI_ints L k (by omega) (by omega)
  exact ⟨c, e, hx c (List.mem_of_getElem? g)⟩
theorem two_at (a b k : Int) : ∃ c, atI [PyData.int a, PyData.int b] (k % 2) = some (.int c) ∧ (c = a ∨ c = b) := by
  obtain ⟨c, e, g⟩ := atI_ints [a, b] (k % 2) (Int.emod_nonneg _ (by omega)) (Int.emod_lt_of_pos _ (by simp))
  refine ⟨c, e, ?_⟩
  have := List.mem_of_getElem? g
  simpa using this
structure FormOk (a b c d e : Int) : Prop where
  a1 : 1 ≤ a
  a2 : a ≤ 30
  b1 : a < b
  b2 : b ≤ 61
  c1 : 1 ≤ c
  c2 : c ≤ 5
  d1 : c < d
  d2 : d ≤ 30
  e1 : d < e
  e2 : e ≤ 50
theorem form_ok (ns : List Int) (k : Int) (h0 : 0 ≤ k) (h1 : k < 1000) : ∃ a b c d e : Int, m__law_form [scr ns, .int k] = .ok (.tuple [.int a, .int b, .int c, .int d, .int e]) ∧ FormOk a b c d e := by
  obtain ⟨L, eL, hl, hx⟩ := draws_ok ns k 6 27720 h0 h1 (by decide) (by decide) (by decide) (by decide)
  obtain ⟨p0, g0, i0, j0⟩ := draw_at hx 0 (by rw [hl]; decide)
  obtain ⟨p1, g1, i1, j1⟩ := draw_at hx 1 (by rw [hl]; decide)
  obtain ⟨p2, g2, i2, j2⟩ := draw_at hx 2 (by rw [hl]; decide)
  obtain ⟨p3, g3, i3, j3⟩ := draw_at hx 3 (by rw [hl]; decide)
  obtain ⟨p4, g4, i4, j4⟩ := draw_at hx 4 (by rw [hl]; decide)
  obtain ⟨p5, g5, i5, j5⟩ := draw_at hx 5 (by rw [hl]; decide)
  obtain ⟨q1, r1, s1⟩ := two_at 4 30 (p5 / 3)
  obtain ⟨q2, r2, s2⟩ := two_at 3 20 (p5 / 6)
  have h : okR (m__law_form [scr ns, .int k]) (fun d => ∃ a b c d' e : Int, d = .tuple [.int a, .int b, .int c, .int d', .int e] ∧ FormOk a b c d' e) (fun _ => False) noX := by
    unfold m__law_form b__law_form
    simp only [Int.cast_ofNat_Int] at g0 g1 g2 g3 g4 g5
    simp only [g_bind, g_ok, g_ofO, g_var, g_peek, g_frz, g_C, g_op, g_opF, g_tOf, g_B, g_BF, g_nil, g_cons, ok_ite, g_tup, g_lst, g_fz, g_call, g_callF, g_callV, g_callF0, g_seq, g_next, g_set, g_setF, g_setV, g_drop, g_ret, g_retF, g_retV, g_retO, g_if, g_append, g_extend, g_to, g_par, g_aug, g_any, g_noP, g_part, g_sl, g_slF, g_isI, g_m1, g_tAnd, g_tOr, g_tNot, g_and, g_or, g_not, g_neg, g_eif, g_tru, g_for, g_comp, g_run, okO_some, slV_va, slP_va, slP_ml, slZ_va, slZ_ml, slM_ml, isB_b, isI_i, isS_s, isL_l, itO_l, itO_t, itO_s, isVl_z, isVl_f, nxF_nx, nxF_rt, nxF_ro, nxF_bk, nxF_ct, endF_nx, endF_rt, endF_ro, okR_ok, okR_fr, okR_er, two_ok, stepF_nx, stepF_ct, stepF_bk, stepF_rt, stepF_ro, List.getElem?_cons_zero, List.getElem?_cons_succ, List.set_cons_zero, List.set_cons_succ, List.length_cons, List.length_nil, List.map_cons, List.map_nil, List.replicate_succ, List.replicate_zero, List.cons_append, List.nil_append, Nat.reduceAdd, Nat.reduceSub, Nat.reduceLeDiff, decide_eq_true_eq, addInt, subInt, ltInt, mulInt, modInt, divInt, powInt, shlInt, shrInt, eqInt, neInt, cmpInt, lenScr, lenLst, lenTup, idxScr, idxLst, idxTup, true_and, tgN, wipeR, g_chain, g_iseq, g_setIx, eL, g0, g1, g2, g3, g4, g5, r1, r2]
    refine ⟨by decide, ?_⟩
    split
    · repeat (refine And.intro (by first | decide | omega | exact cdiv (by first | decide | omega) (by first | decide | omega) | (apply cmul <;> omega) | assumption) ?_)
      exact ⟨1, 3, 1, 3, 7, rfl, by constructor <;> decide⟩
    · have z1 := Int.emod_lt_of_pos p0 (b := q1) (by omega)
      have z2 := Int.emod_lt_of_pos p1 (b := q1) (by omega)
      have z3 := Int.emod_lt_of_pos p3 (b := q2) (by omega)
      have y1 := Int.emod_nonneg p0 (b := q1) (by omega)
      have y2 := Int.emod_nonneg p1 (b := q1) (by omega)
      have y3 := Int.emod_nonneg p3 (b := q2) (by omega)
      repeat (refine And.intro (by first | decide | omega | exact cdiv (by first | decide | omega) (by first | decide | omega) | (apply cmul <;> omega) | assumption) ?_)
      refine ⟨_, _, _, _, _, rfl, ?_⟩
      constructor <;> omega
  obtain ⟨d, e, a, b, c, d', e', rfl, h⟩ := okR_val h
  exact ⟨a, b, c, d', e', e, h⟩
end LawK19
namespace LawK19
open PySem PySem.Spec L2 DL
open PyProof.Rows hiding St
/-! presses -/
def nm (b : Bool) : Str := if b = true then "long" else "short"
theorem nm_inj (a b : Bool) : decide (nm a = nm b) = (a == b) := by revert a b; decide
abbrev Pr := Bool × Int × Int
def pD (x : Pr) : Dt := .tuple [.str (nm x.1), .int x.2.1, .int x.2.2]
abbrev psD (P : List Pr) : Dt := .list (P.map pD)
/-- wanted at the end e of a sound that began at g -/
def isW (b : Bool) (g e : Int) (x : Pr) : Bool := (x.1 == b) && (decide (x.2.1 ≤ e ∧ e < x.2.2) || decide (g < x.2.1 ∧ x.2.1 < e))
def wt (P : List Pr) (b : Bool) (g e : Int) : Bool := P.any (isW b g e)
theorem okD_press {P : List Pr} : okD (psD P) = true := by
  show (P.map pD).all (okN 11) = true
  rw [List.all_map, List.all_eq_true]
  intro x _
  rfl
theorem is_wanted_ok (P : List Pr) (b : Bool) (g e : Int) : m_is_wanted [psD P, .str (nm b), .int g, .int e] = .ok (.bool (wt P b g e)) := by
  refine okR_eq ?_
  unfold m_is_wanted b_is_wanted
  simp only [g_bind, g_ok, g_ofO, g_var, g_peek, g_frz, g_C, g_op, g_opF, g_tOf, g_B, g_BF, g_nil, g_cons, ok_ite, g_tup, g_lst, g_fz, g_call, g_callF, g_callV, g_callF0, g_seq, g_next, g_set, g_setF, g_setV, g_drop, g_ret, g_retF, g_retV, g_retO, g_if, g_append, g_extend, g_to, g_par, g_aug, g_any, g_noP, g_part, g_sl, g_slF, g_isI, g_m1, g_tAnd, g_tOr, g_tNot, g_and, g_or, g_not, g_neg, g_eif, g_tru, g_for, g_comp, g_run, okO_some, slV_va, slP_va, slP_ml, slZ_va, slZ_ml, slM_ml, isB_b, isI_i, isS_s, isL_l, itO_l, itO_t, itO_s, isVl_z, isVl_f, nxF_nx, nxF_rt, nxF_ro, nxF_bk, nxF_ct, endF_nx, endF_rt, endF_ro, okR_ok, okR_fr, okR_er, two_ok, stepF_nx, stepF_ct, stepF_bk, stepF_rt, stepF_ro, List.getElem?_cons_zero, List.getElem?_cons_succ, List.set_cons_zero, List.set_cons_succ, List.length_cons, List.length_nil, List.map_cons, List.map_nil, List.replicate_succ, List.replicate_zero, List.cons_append, List.nil_append, Nat.reduceAdd, Nat.reduceSub, Nat.reduceLeDiff, decide_eq_true_eq, addInt, subInt, ltInt, mulInt, modInt, divInt, powInt, shlInt, shrInt, eqInt, neInt, cmpInt, lenScr, lenLst, lenTup, idxScr, idxLst, idxTup, true_and, tgN, wipeR, g_chain, g_iseq, g_setIx]
  refine loop_inv (fun n ρ => ∃ x4 x5 x6, ρ = [.va (psD P), .va (.str (nm b)), .va (.int g), .va (.int e), x4, x5, x6] ∧ ∀ x ∈ P.take n, isW b g e x = false) ⟨_, _, _, rfl, by simp⟩ ?_ ?_
  · rintro n d ρ hd ⟨x4, x5, x6, rfl, hn⟩
    rw [List.getElem?_map] at hd
    cases hp : P[n]? with
    | none => rw [hp] at hd; cases hd
    | some x =>
      rw [hp] at hd
      cases hd
      unfold l_is_wanted_1 pD
      simp only [g_bind, g_ok, g_ofO, g_var, g_peek, g_frz, g_C, g_op, g_opF, g_tOf, g_B, g_BF, g_nil, g_cons, ok_ite, g_tup, g_lst, g_fz, g_call, g_callF, g_callV, g_callF0, g_seq, g_next, g_set, g_setF, g_setV, g_drop, g_ret, g_retF, g_retV, g_retO, g_if, g_append, g_extend, g_to, g_par, g_aug, g_any, g_noP, g_part, g_sl, g_slF, g_isI, g_m1, g_tAnd, g_tOr, g_tNot, g_and, g_or, g_not, g_neg, g_eif, g_tru, g_for, g_comp, g_run, okO_some, slV_va, slP_va, slP_ml, slZ_va, slZ_ml, slM_ml, isB_b, isI_i, isS_s, isL_l, itO_l, itO_t, itO_s, isVl_z, isVl_f, nxF_nx, nxF_rt, nxF_ro, nxF_bk, nxF_ct, endF_nx, endF_rt, endF_ro, okR_ok, okR_fr, okR_er, two_ok, stepF_nx, stepF_ct, stepF_bk, stepF_rt, stepF_ro, List.getElem?_cons_zero, List.getElem?_cons_succ, List.set_cons_zero, List.set_cons_succ, List.length_cons, List.length_nil, List.map_cons, List.map_nil, List.replicate_succ, List.replicate_zero, List.cons_append, List.nil_append, Nat.reduceAdd, Nat.reduceSub, Nat.reduceLeDiff, decide_eq_true_eq, addInt, subInt, ltInt, mulInt, modInt, divInt, powInt, shlInt, shrInt, eqInt, neInt, cmpInt, lenScr, lenLst, lenTup, idxScr, idxLst, idxTup, true_and, tgN, wipeR, g_chain, g_iseq, g_setIx, tgT, tgL, eqStr, nm_inj]
      have yes : isW b g e x = true → PyData.bool true = PyData.bool (wt P b g e) := fun h => by
        have : wt P b g e = true := List.any_eq_true.mpr ⟨x, List.mem_of_getElem? hp, h⟩
        rw [this]
      have no : isW b g e x = false → ∃ y4 y5 y6, [Sl.va (psD P), .va (.str (nm b)), .va (.int g), .va (.int e), .va (.str (nm x.1)), .va (.int x.2.1), .va (.int x.2.2)] = [Sl.va (psD P), .va (.str (nm b)), .va (.int g), .va (.int e), y4, y5, y6] ∧ ∀ x ∈ P.take (n + 1), isW b g e x = false := fun h => ⟨_, _, _, rfl, fun y hy => by
        rw [List.take_add_one, hp] at hy
        rcases List.mem_append.mp hy with hy | hy
        · exact hn y hy
        · simp at hy; subst hy; exact h⟩
      unfold isW at yes no
      by_cases h1 : (x.1 == b) = true <;> by_cases h2 : x.2.1 ≤ e <;> by_cases h3 : e < x.2.2 <;> by_cases h4 : g < x.2.1 <;> by_cases h5 : x.2.1 < e <;> simp only [h1, h2, h3, h4, h5, if_true, if_false, Bool.false_eq_true] <;> first | exact yes (by simp [h1, h2, h3, h4, h5]) | exact no (by simp [h1, h2, h3, h4, h5])
  · rintro ρ ⟨x4, x5, x6, rfl, hn⟩
    simp only [g_bind, g_ok, g_ofO, g_var, g_peek, g_frz, g_C, g_op, g_opF, g_tOf, g_B, g_BF, g_nil, g_cons, ok_ite, g_tup, g_lst, g_fz, g_call, g_callF, g_callV, g_callF0, g_seq, g_next, g_set, g_setF, g_setV, g_drop, g_ret, g_retF, g_retV, g_retO, g_if, g_append, g_extend, g_to, g_par, g_aug, g_any, g_noP, g_part, g_sl, g_slF, g_isI, g_m1, g_tAnd, g_tOr, g_tNot, g_and, g_or, g_not, g_neg, g_eif, g_tru, g_for, g_comp, g_run, okO_some, slV_va, slP_va, slP_ml, slZ_va, slZ_ml, slM_ml, isB_b, isI_i, isS_s, isL_l, itO_l, itO_t, itO_s, isVl_z, isVl_f, nxF_nx, nxF_rt, nxF_ro, nxF_bk, nxF_ct, endF_nx, endF_rt, endF_ro, okR_ok, okR_fr, okR_er, two_ok, stepF_nx, stepF_ct, stepF_bk, stepF_rt, stepF_ro, List.getElem?_cons_zero, List.getElem?_cons_succ, List.set_cons_zero, List.set_cons_succ, List.length_cons, List.length_nil, List.map_cons, List.map_nil, List.replicate_succ, List.replicate_zero, List.cons_append, List.nil_append, Nat.reduceAdd, Nat.reduceSub, Nat.reduceLeDiff, decide_eq_true_eq, addInt, subInt, ltInt, mulInt, modInt, divInt, powInt, shlInt, shrInt, eqInt, neInt, cmpInt, lenScr, lenLst, lenTup, idxScr, idxLst, idxTup, true_and, tgN, wipeR, g_chain, g_iseq, g_setIx]
    have : wt P b g e = false := by
      rw [List.take_of_length_le (by simp)] at hn
      unfold wt
      rw [List.any_eq_false]
      exact fun x hx => by rw [hn x hx]; simp
    rw [this]
/-! the next press -/
def downs (P : List Pr) (e : Int) : List Int := (P.filter fun x => decide (e ≤ x.2.1)).map fun x => x.2.1
def nextD (P : List Pr) (e : Int) : Option Int := if downs P e = [] then none else some (minI (downs P e))
def atD (P : List Pr) (b : Bool) (f : Int) : Bool := P.any fun x => (x.1 == b) && (x.2.1 == f)
def nms (s l : Bool) : List Dt := (if s = true then [.str (nm false)] else []) ++ (if l = true then [.str (nm true)] else [])
def nextR (P : List Pr) (e : Int) : Dt := match nextD P e with
  | none => .none
  | some f => .tuple [.int f, .list (nms (atD P false f) (atD P true f))]
theorem eqv_two (a b : Bool) (i j : Int) : PyData.eqv (.tuple [.str (nm a), .int i]) (.tuple [.str (nm b), .int j]) = ((a == b) && (i == j)) := by
  simp only [PyData.eqv, PyData.eqvAll, Bool.and_true]
  rw [← nm_inj a b]
  by_cases h : nm a = nm b <;> simp [h]
def cut2 (d : Dt) : Dt := match d with
  | .tuple (a :: b :: _) => .tuple [a, b]
  | d => d
theorem in_two (P : List Pr) (b : Bool) (f : Int) : inD (.tuple [.str (nm b), .int f]) (.list ((P.map pD).map cut2)) = some (.bool (atD P b f)) := by
  have ok : okD (.list ((P.map pD).map cut2)) = true := by
    show ((P.map pD).map cut2).all (okN 11) = true
    rw [List.map_map, List.all_map, List.all_eq_true]
    intro x _
    rfl
  unfold inD
  simp only
  rw [if_pos ⟨rfl, ok⟩, List.map_map, List.any_map]
  congr 2
  unfold atD
  congr 1
  funext x
  show PyData.eqv (.tuple [.str (nm x.1), .int x.2.1]) (.tuple [.str (nm b), .int f]) = _
  rw [eqv_two]
theorem sl_two (x : Pr) : slD (pD x) none (some 2) = some (.tuple [.str (nm x.1), .int x.2.1]) := rfl
theorem filt2 {p : Dt → Bool} {s l : Bool} (h1 : p (.str (nm false)) = s) (h2 : p (.str (nm true)) = l) : [PyData.str (nm false), .str (nm true)].filter p = nms s l := by
  rw [List.filter_cons, List.filter_cons, h1, h2]
  cases s <;> cases l <;> rfl
def onB (f : Bool → Bool) (d : Dt) : Bool := match d with
  | .str z => f (decide (z = nm true))
  | _ => false
theorem onB_nm (f : Bool → Bool) (b : Bool) : onB f (.str (nm b)) = f b := by cases b <;> rfl
theorem filtB (f : Bool → Bool) : [PyData.str (Str.ofString "short"), .str (Str.ofString "long")].filter (onB f) = nms (f false) (f true) := filt2 (onB_nm f false) (onB_nm f true)
theorem short_long {d : Dt} (hd : d ∈ [PyData.str (Str.ofString "short"), .str (Str.ofString "long")]) : ∃ b, d = .str (nm b) := by
  simp at hd
  rcases hd with rfl | rfl
  · exact ⟨false, rfl⟩
  · exact ⟨true, rfl⟩
theorem nms_empty (s l : Bool) : (nms s l).isEmpty = !(s || l) := by cases s <;> cases l <;> rfl
theorem next_ok (P : List Pr) (e : Int) (hz : P.length ≤ 1000) : m_next_down [psD P, .int e] = .ok (nextR P e) := by
  refine okR_eq ?_
  unfold m_next_down b_next_down
  have hs : P.length ≤ sizeLine := by unfold sizeLine; omega
  have h2s : 2 ≤ sizeLine := by unfold sizeLine; omega
  simp only [g_bind, g_ok, g_ofO, g_var, g_peek, g_frz, g_C, g_op, g_opF, g_tOf, g_B, g_BF, g_nil, g_cons, ok_ite, g_tup, g_lst, g_fz, g_call, g_callF, g_callV, g_callF0, g_seq, g_next, g_set, g_setF, g_setV, g_drop, g_ret, g_retF, g_retV, g_retO, g_if, g_append, g_extend, g_to, g_par, g_aug, g_any, g_noP, g_part, g_sl, g_slF, g_isI, g_m1, g_tAnd, g_tOr, g_tNot, g_and, g_or, g_not, g_neg, g_eif, g_tru, g_for, g_comp, g_run, okO_some, slV_va, slP_va, slP_ml, slZ_va, slZ_ml, slM_ml, isB_b, isI_i, isS_s, isL_l, itO_l, itO_t, itO_s, isVl_z, isVl_f, nxF_nx, nxF_rt, nxF_ro, nxF_bk, nxF_ct, endF_nx, endF_rt, endF_ro, okR_ok, okR_fr, okR_er, two_ok, stepF_nx, stepF_ct, stepF_bk, stepF_rt, stepF_ro, List.getElem?_cons_zero, List.getElem?_cons_succ, List.set_cons_zero, List.set_cons_succ, List.length_cons, List.length_nil, List.map_cons, List.map_nil, List.replicate_succ, List.replicate_zero, List.cons_append, List.nil_append, Nat.reduceAdd, Nat.reduceSub, Nat.reduceLeDiff, decide_eq_true_eq, addInt, subInt, ltInt, mulInt, modInt, divInt, powInt, shlInt, shrInt, eqInt, neInt, cmpInt, lenScr, lenLst, lenTup, idxScr, idxLst, idxTup, true_and, tgN, wipeR, g_chain, g_iseq, g_setIx]
  rw [cL_filter (f := fun d => match d with | .tuple [_, d, _] => d | d => d) (p := fun d => match d with | .tuple [_, .int d, _] => decide (e ≤ d) | _ => false)]
  · have em : ((P.map pD).filter fun d => match d with | .tuple [_, .int d, _] => decide (e ≤ d) | _ => false).map (fun d => match d with | .tuple [_, d, _] => d | d => d) = (downs P e).map .int := by
      unfold downs
      rw [List.filter_map, List.map_map, List.map_map]
      rfl
    rw [em]
    simp only [okO_some, List.length_map, eqNil (okD_ints _), isB_b]
    refine ⟨hs, ?_⟩
    unfold nextR nextD
    by_cases h0 : downs P e = []
    · rw [h0]; rfl
    · have hne : ((downs P e).map PyData.int).isEmpty = false := by
        cases hd : downs P e with
        | nil => exact absurd hd h0
        | cons _ _ => rfl
      have hmin : minD [.list ((downs P e).map .int)] = some (.int (minI (downs P e))) := by
        show (intsOf ((downs P e).map .int)).bind _ = _
        rw [intsOf_map]
        exact if_neg h0
      rw [hne, if_neg Bool.false_ne_true, hmin, if_neg h0]
      simp only [okO_some]
      generalize minI (downs P e) = f
      rw [cL_filter (f := id) (p := fun d => match d with | .str s => atD P (decide (s = nm true)) f | _ => false)]
      · simp only [okO_some]
        refine ⟨h2s, ?_⟩
        show PyData.tuple [.int f, .list ((List.filter _ [PyData.str (nm false), .str (nm true)]).map id)] = _
        rw [filt2 (s := atD P false f) (l := atD P true f) rfl rfl, List.map_id]
      · intro d hd
        have : ∃ b, d = .str (nm b) := by
          simp at hd
          rcases hd with rfl | rfl
          · exact ⟨false, rfl⟩
          · exact ⟨true, rfl⟩
        obtain ⟨b, rfl⟩ := this
        simp only [g_bind, g_ok, g_ofO, g_var, g_peek, g_frz, g_C, g_op, g_opF, g_tOf, g_B, g_BF, g_nil, g_cons, ok_ite, g_tup, g_lst, g_fz, g_call, g_callF, g_callV, g_callF0, g_seq, g_next, g_set, g_setF, g_setV, g_drop, g_ret, g_retF, g_retV, g_retO, g_if, g_append, g_extend, g_to, g_par, g_aug, g_any, g_noP, g_part, g_sl, g_slF, g_isI, g_m1, g_tAnd, g_tOr, g_tNot, g_and, g_or, g_not, g_neg, g_eif, g_tru, g_for, g_comp, g_run, okO_some, slV_va, slP_va, slP_ml, slZ_va, slZ_ml, slM_ml, isB_b, isI_i, isS_s, isL_l, itO_l, itO_t, itO_s, isVl_z, isVl_f, nxF_nx, nxF_rt, nxF_ro, nxF_bk, nxF_ct, endF_nx, endF_rt, endF_ro, okR_ok, okR_fr, okR_er, two_ok, stepF_nx, stepF_ct, stepF_bk, stepF_rt, stepF_ro, List.getElem?_cons_zero, List.getElem?_cons_succ, List.set_cons_zero, List.set_cons_succ, List.length_cons, List.length_nil, List.map_cons, List.map_nil, List.replicate_succ, List.replicate_zero, List.cons_append, List.nil_append, Nat.reduceAdd, Nat.reduceSub, Nat.reduceLeDiff, decide_eq_true_eq, addInt, subInt, ltInt, mulInt, modInt, divInt, powInt, shlInt, shrInt, eqInt, neInt, cmpInt, lenScr, lenLst, lenTup, idxScr, idxLst, idxTup, true_and, tgN, wipeR, g_chain, g_iseq, g_setIx]
        rw [cL_map (f := cut2)]
        · simp only [okO_some, in_two, isB_b, List.length_map]
          refine ⟨⟨hs, ?_⟩, fun _ => rfl⟩
          cases b <;> rfl
        · intro d hd
          obtain ⟨x, _, rfl⟩ := List.mem_map.mp hd
          simp only [g_bind, g_ok, g_ofO, g_var, g_peek, g_frz, g_C, g_op, g_opF, g_tOf, g_B, g_BF, g_nil, g_cons, ok_ite, g_tup, g_lst, g_fz, g_call, g_callF, g_callV, g_callF0, g_seq, g_next, g_set, g_setF, g_setV, g_drop, g_ret, g_retF, g_retV, g_retO, g_if, g_append, g_extend, g_to, g_par, g_aug, g_any, g_noP, g_part, g_sl, g_slF, g_isI, g_m1, g_tAnd, g_tOr, g_tNot, g_and, g_or, g_not, g_neg, g_eif, g_tru, g_for, g_comp, g_run, okO_some, slV_va, slP_va, slP_ml, slZ_va, slZ_ml, slM_ml, isB_b, isI_i, isS_s, isL_l, itO_l, itO_t, itO_s, isVl_z, isVl_f, nxF_nx, nxF_rt, nxF_ro, nxF_bk, nxF_ct, endF_nx, endF_rt, endF_ro, okR_ok, okR_fr, okR_er, two_ok, stepF_nx, stepF_ct, stepF_bk, stepF_rt, stepF_ro, List.getElem?_cons_zero, List.getElem?_cons_succ, List.set_cons_zero, List.set_cons_succ, List.length_cons, List.length_nil, List.map_cons, List.map_nil, List.replicate_succ, List.replicate_zero, List.cons_append, List.nil_append, Nat.reduceAdd, Nat.reduceSub, Nat.reduceLeDiff, decide_eq_true_eq, addInt, subInt, ltInt, mulInt, modInt, divInt, powInt, shlInt, shrInt, eqInt, neInt, cmpInt, lenScr, lenLst, lenTup, idxScr, idxLst, idxTup, true_and, tgN, wipeR, g_chain, g_iseq, g_setIx, sl_two]
          rfl
  · intro d hd
    obtain ⟨x, _, rfl⟩ := List.mem_map.mp hd
    unfold pD
    simp only [g_bind, g_ok, g_ofO, g_var, g_peek, g_frz, g_C, g_op, g_opF, g_tOf, g_B, g_BF, g_nil, g_cons, ok_ite, g_tup, g_lst, g_fz, g_call, g_callF, g_callV, g_callF0, g_seq, g_next, g_set, g_setF, g_setV, g_drop, g_ret, g_retF, g_retV, g_retO, g_if, g_append, g_extend, g_to, g_par, g_aug, g_any, g_noP, g_part, g_sl, g_slF, g_isI, g_m1, g_tAnd, g_tOr, g_tNot, g_and, g_or, g_not, g_neg, g_eif, g_tru, g_for, g_comp, g_run, okO_some, slV_va, slP_va, slP_ml, slZ_va, slZ_ml, slM_ml, isB_b, isI_i, isS_s, isL_l, itO_l, itO_t, itO_s, isVl_z, isVl_f, nxF_nx, nxF_rt, nxF_ro, nxF_bk, nxF_ct, endF_nx, endF_rt, endF_ro, okR_ok, okR_fr, okR_er, two_ok, stepF_nx, stepF_ct, stepF_bk, stepF_rt, stepF_ro, List.getElem?_cons_zero, List.getElem?_cons_succ, List.set_cons_zero, List.set_cons_succ, List.length_cons, List.length_nil, List.map_cons, List.map_nil, List.replicate_succ, List.replicate_zero, List.cons_append, List.nil_append, Nat.reduceAdd, Nat.reduceSub, Nat.reduceLeDiff, decide_eq_true_eq, addInt, subInt, ltInt, mulInt, modInt, divInt, powInt, shlInt, shrInt, eqInt, neInt, cmpInt, lenScr, lenLst, lenTup, idxScr, idxLst, idxTup, true_and, tgN, wipeR, g_chain, g_iseq, g_setIx, tgT, tgL]
    exact fun _ => trivial
/-! what is sent -/
def pick (last s l : Bool) : Bool := if (s && l) = true then !last else l
def sD (x : Int × Bool) : Dt := .tuple [.int x.1, .str (nm x.2)]
def endOf (a b c g : Int) (w : Bool) : Int := g + (if w = true then b else a) + c
def run (P : List Pr) (a b c : Int) : Nat → Int → Bool → Bool → Bool → List (Int × Bool)
  | 0, _, _, _, _ => []
  | k + 1, g, s, l, last => (g, pick last s l) :: (if (wt P false g (endOf a b c g (pick last s l)) || wt P true g (endOf a b c g (pick last s l))) = true
      then run P a b c k (endOf a b c g (pick last s l)) (wt P false g (endOf a b c g (pick last s l))) (wt P true g (endOf a b c g (pick last s l))) (pick last s l)
      else match nextD P (endOf a b c g (pick last s l)) with
        | none => []
        | some f => run P a b c k f (atD P false f) (atD P true f) (pick last s l))
structure PrOk (P : List Pr) : Prop where
  len : P.length ≤ 1000
  at0 : ∀ x ∈ P, 0 ≤ x.2.1 ∧ x.2.1 < x.2.2 ∧ x.2.2 ≤ 5000
theorem wt_bound {P : List Pr} (h : PrOk P) {b : Bool} {g e : Int} (hw : wt P b g e = true) : e < 5000 ∨ g < 5000 := by
  obtain ⟨x, hx, hc⟩ := List.any_eq_true.mp hw
  unfold isW at hc
  simp only [Bool.and_eq_true, Bool.or_eq_true, decide_eq_true_eq] at hc
  have := h.at0 x hx
  rcases hc.2 with q | q
  · exact .inl (by omega)
  · exact .inr (by omega)
theorem next_some {P : List Pr} {e f : Int} (h : nextD P e = some f) : e ≤ f ∧ (∃ x ∈ P, x.2.1 = f) ∧ ∀ x ∈ P, e ≤ x.2.1 → f ≤ x.2.1 := by
  unfold nextD at h
  by_cases h0 : downs P e = []
  · rw [if_pos h0] at h; cases h
  · rw [if_neg h0] at h
    cases h
    obtain ⟨m1, m2⟩ := minI_spec h0
    obtain ⟨x, hx, hf⟩ := List.mem_map.mp m1
    obtain ⟨hx1, hx2⟩ := List.mem_filter.mp hx
    rw [decide_eq_true_eq] at hx2
    refine ⟨by omega, ⟨x, hx1, hf⟩, fun y hy he => m2 _ (List.mem_map.mpr ⟨y, List.mem_filter.mpr ⟨hy, by simpa using he⟩, rfl⟩)⟩
theorem next_none {P : List Pr} {e : Int} (h : nextD P e = none) : ∀ x ∈ P, x.2.1 < e := by
  unfold nextD at h
  by_cases h0 : downs P e = []
  · intro x hx
    have : x.2.1 ∉ downs P e := by rw [h0]; simp
    exact Int.not_le.mp fun he => this (List.mem_map.mpr ⟨x, List.mem_filter.mpr ⟨hx, by simpa using he⟩, rfl⟩)
  · rw [if_neg h0] at h; cases h
theorem at_or {P : List Pr} {e f : Int} (h : nextD P e = some f) : (atD P false f || atD P true f) = true := by
  obtain ⟨_, ⟨x, hx, hf⟩, _⟩ := next_some h
  have : atD P x.1 f = true := List.any_eq_true.mpr ⟨x, hx, by simp [hf]⟩
  cases hb : x.1 with
  | true => rw [hb] at this; simp [this]
  | false => rw [hb] at this; simp [this]
abbrev fm (a b c d e : Int) : Dt := .tuple [.int a, .int b, .int c, .int d, .int e]
def nowD (g : Int) (s l : Bool) : Dt := .tuple [.int g, .list (nms s l)]
theorem nms_ok (s l : Bool) : okD (.list (nms s l)) = true := by cases s <;> cases l <;> rfl
theorem sent_loop {P : List Pr} (hP : PrOk P) {a b c d e : Int} (f : FormOk a b c d e) (Q : Fl → Rho → Prop) : ∀ (K F : Nat) (g : Int) (s l last : Bool) (acc : List (Int × Bool)) (x5 x6 x7 x8 x9 : Sl), (6000 - g).toNat < K → K < F → 0 ≤ g → g < 5900 → (s || l) = true → acc.length + K ≤ 100000 →
    (∀ y3 y4 y5 y6 y7 y8 y9, Q .nx [.va (fm a b c d e), .va (psD P), .ml ((acc ++ run P a b c K g s l last).map sD), y3, y4, y5, y6, y7, y8, y9]) →
    Ok (sWhile (tOf (eOp nisD (eVar 4) (eC .none))) l_sent_1 F) [.va (fm a b c d e), .va (psD P), .ml (acc.map sD), .va (.str (nm last)), .va (nowD g s l), x5, x6, x7, x8, x9] Q fun x _ => noX x
  | 0, F, g, s, l, last, acc, x5, x6, x7, x8, x9, hK, hF, h0, hg, hs, hl, hQ => absurd hK (Nat.not_lt_zero _)
  | K + 1, F, g, s, l, last, acc, x5, x6, x7, x8, x9, hK, hF, h0, hg, hs, hl, hQ => by
    obtain ⟨F, rfl⟩ : ∃ G, F = G + 1 := ⟨F - 1, by omega⟩
    have ih := fun g s l last acc x5 x6 x7 x8 x9 h1 h2 => sent_loop hP f Q K F g s l last acc x5 x6 x7 x8 x9 h1 h2
    rw [while_step]
    have en : ∀ ds, nisD (.tuple ds) .none = some (.bool true) := fun _ => rfl
    have hnone : ∀ x0 x1 x2 x3 x5 x6 x7 x8 x9, Q .nx [x0, x1, x2, x3, .va .none, x5, x6, x7, x8, x9] → Ok (sWhile (tOf (eOp nisD (eVar 4) (eC .none))) l_sent_1 F) [x0, x1, x2, x3, .va .none, x5, x6, x7, x8, x9] Q fun x _ => noX x := fun x0 x1 x2 x3 x5 x6 x7 x8 x9 h => by
      obtain ⟨G, rfl⟩ : ∃ G, F = G + 1 := ⟨F - 1, by omega⟩
      rw [while_step]
      have e0 : nisD .none .none = some (.bool false) := rfl
      simp only [g_bind, g_ok, g_ofO, g_var, g_peek, g_frz, g_C, g_op, g_opF, g_tOf, g_B, g_BF, g_nil, g_cons, ok_ite, g_tup, g_lst, g_fz, g_call, g_callF, g_callV, g_callF0, g_seq, g_next, g_set, g_setF, g_setV, g_drop, g_ret, g_retF, g_retV, g_retO, g_if, g_append, g_extend, g_to, g_par, g_aug, g_any, g_noP, g_part, g_sl, g_slF, g_isI, g_m1, g_tAnd, g_tOr, g_tNot, g_and, g_or, g_not, g_neg, g_eif, g_tru, g_for, g_comp, g_run, okO_some, slV_va, slP_va, slP_ml, slZ_va, slZ_ml, slM_ml, isB_b, isI_i, isS_s, isL_l, itO_l, itO_t, itO_s, isVl_z, isVl_f, nxF_nx, nxF_rt, nxF_ro, nxF_bk, nxF_ct, endF_nx, endF_rt, endF_ro, okR_ok, okR_fr, okR_er, two_ok, stepF_nx, stepF_ct, stepF_bk, stepF_rt, stepF_ro, List.getElem?_cons_zero, List.getElem?_cons_succ, List.set_cons_zero, List.set_cons_succ, List.length_cons, List.length_nil, List.map_cons, List.map_nil, List.replicate_succ, List.replicate_zero, List.cons_append, List.nil_append, Nat.reduceAdd, Nat.reduceSub, Nat.reduceLeDiff, decide_eq_true_eq, addInt, subInt, ltInt, mulInt, modInt, divInt, powInt, shlInt, shrInt, eqInt, neInt, cmpInt, lenScr, lenLst, lenTup, idxScr, idxLst, idxTup, true_and, tgN, wipeR, g_chain, g_iseq, g_setIx, e0]
      exact h
    generalize sWhile (tOf (eOp nisD (eVar 4) (eC .none))) l_sent_1 F = W at ih hnone ⊢
    have tix : ∀ w : Bool, tixD d_PADDLES (.str (nm w)) = some (.int (if w = true then 1 else 0)) := fun w => by cases w <;> rfl
    have idx : ∀ w : Bool, idxD (fm a b c d e) (.int (if w = true then 1 else 0)) = some (.int (if w = true then b else a)) := fun w => by cases w <;> rfl
    have i2 : atI [PyData.int a, .int b, .int c, .int d, .int e] 2 = some (.int c) := rfl
    have hz : (acc.map sD).length < sizeLine := by rw [List.length_map]; unfold sizeLine; omega
    have h2s : 2 ≤ sizeLine := by unfold sizeLine; omega
    -- the one that is sent
    have tail : ∀ (w : Bool) (x6 : Sl), w = pick last s l → Ok (sSeq (sAppend 2 (eTup (eCons (eVar 5) (eCons (eVar 3) eNil)))) (sSeq (sSet 7 (eOp addD (eOp addD (eVar 5) (eOp idxD (eVar 0) (eOp tixD (eC d_PADDLES) (eVar 3)))) (eOp idxD (eVar 0) (eC (.int 2)))))
        (sSeq (sSet 8 (eFz (eComp (iAny (eC d_PADDLES)) [9] (tgN 9) (tOf (eCall m_is_wanted (eCons (eVar 1) (eCons (eVar 9) (eCons (eVar 5) (eCons (eVar 7) eNil)))))) (eVar 9))))
        (sSeq (sSet 4 (eTup (eCons (eVar 7) (eCons (eVar 8) eNil)))) (sIf (tOf (eOp eqD (eVar 8) (eFz (eLst eNil)))) (sSet 4 (eCall m_next_down (eCons (eVar 1) (eCons (eVar 7) eNil)))) sNext)))))
        [.va (fm a b c d e), .va (psD P), .ml (acc.map sD), .va (.str (nm w)), .va (nowD g s l), .va (.int g), x6, x7, x8, x9] (stepF (fun ρ2 => Ok W ρ2 Q fun x _ => noX x) Q) fun x _ => noX x := by
      intro w x6 hw
      simp only [g_bind, g_ok, g_ofO, g_var, g_peek, g_frz, g_C, g_op, g_opF, g_tOf, g_B, g_BF, g_nil, g_cons, ok_ite, g_tup, g_lst, g_fz, g_call, g_callF, g_callV, g_callF0, g_seq, g_next, g_set, g_setF, g_setV, g_drop, g_ret, g_retF, g_retV, g_retO, g_if, g_append, g_extend, g_to, g_par, g_aug, g_any, g_noP, g_part, g_sl, g_slF, g_isI, g_m1, g_tAnd, g_tOr, g_tNot, g_and, g_or, g_not, g_neg, g_eif, g_tru, g_for, g_comp, g_run, okO_some, slV_va, slP_va, slP_ml, slZ_va, slZ_ml, slM_ml, isB_b, isI_i, isS_s, isL_l, itO_l, itO_t, itO_s, isVl_z, isVl_f, nxF_nx, nxF_rt, nxF_ro, nxF_bk, nxF_ct, endF_nx, endF_rt, endF_ro, okR_ok, okR_fr, okR_er, two_ok, stepF_nx, stepF_ct, stepF_bk, stepF_rt, stepF_ro, List.getElem?_cons_zero, List.getElem?_cons_succ, List.set_cons_zero, List.set_cons_succ, List.length_cons, List.length_nil, List.map_cons, List.map_nil, List.replicate_succ, List.replicate_zero, List.cons_append, List.nil_append, Nat.reduceAdd, Nat.reduceSub, Nat.reduceLeDiff, decide_eq_true_eq, addInt, subInt, ltInt, mulInt, modInt, divInt, powInt, shlInt, shrInt, eqInt, neInt, cmpInt, lenScr, lenLst, lenTup, idxScr, idxLst, idxTup, true_and, tgN, wipeR, g_chain, g_iseq, g_setIx, tix, idx, i2]
      refine ⟨hz, ?_⟩
      rw [cL_filter (f := id) (p := onB fun q => wt P q g (endOf a b c g w))]
      · rw [filtB, List.map_id]
        have eE : g + (if w = true then b else a) + c = endOf a b c g w := rfl
        obtain ⟨E, hE⟩ : ∃ E, E = endOf a b c g w := ⟨_, rfl⟩
        have hE1 : g < E ∧ E ≤ g + 66 := by
          obtain ⟨a1, a2, b1, b2, c1, c2, d1, d2, e1, e2⟩ := f
          rw [hE]
          unfold endOf
          cases w <;> simp <;> omega
        have hrun : run P a b c (K + 1) g s l last = (g, w) :: (if (wt P false g E || wt P true g E) = true then run P a b c K E (wt P false g E) (wt P true g E) w else match nextD P E with | none => [] | some f => run P a b c K f (atD P false f) (atD P true f) w) := by
          rw [hE, hw]; rfl
        have hmap : ∀ z : Int × Bool, (acc ++ [z]).map sD = acc.map sD ++ [sD z] := fun z => by simp
        rw [eE, ← hE]
        simp only [okO_some, eqNil (nms_ok _ _), isB_b, nms_empty, next_ok P E hP.len]
        refine ⟨h2s, ?_⟩
        by_cases hb : (wt P false g E || wt P true g E) = true
        · rw [hb, Bool.not_true, if_neg Bool.false_ne_true]
          have hE2 : E < 5000 ∨ g < 5000 := by
            rcases Bool.or_eq_true_iff.mp hb with q | q
            · exact wt_bound hP q
            · exact wt_bound hP q
          have := ih E (wt P false g E) (wt P true g E) w (acc ++ [(g, w)]) (.va (.int g)) x6 (.va (.int E)) (.va (.list (nms (wt P false g E) (wt P true g E)))) x9 (by omega) (by omega) (by omega) (by omega) hb (by simp; omega) (fun y3 y4 y5 y6 y7 y8 y9 => by
            have q := hQ y3 y4 y5 y6 y7 y8 y9
            rw [hrun, if_pos hb] at q
            rw [List.append_assoc]
            exact q)
          rw [hmap] at this
          exact this
        · rw [(Bool.not_eq_true _).mp hb, Bool.not_false, if_pos rfl]
          simp only [okR_ok]
          unfold nextR
          cases hn : nextD P E with
          | none =>
            refine hnone _ _ _ _ _ _ _ _ _ ?_
            have q := hQ (.va (.str (nm w))) (.va .none) (.va (.int g)) x6 (.va (.int E)) (.va (.list (nms (wt P false g E) (wt P true g E)))) x9
            rw [hrun, if_neg hb, hn] at q
            rw [hmap] at q
            exact q
          | some f2 =>
            obtain ⟨n1, ⟨x, hx, hf2⟩, _⟩ := next_some hn
            have hx2 := hP.at0 x hx
            have := ih f2 (atD P false f2) (atD P true f2) w (acc ++ [(g, w)]) (.va (.int g)) x6 (.va (.int E)) (.va (.list (nms (wt P false g E) (wt P true g E)))) x9 (by omega) (by omega) (by omega) (by omega) (at_or hn) (by simp; omega) (fun y3 y4 y5 y6 y7 y8 y9 => by
              have q := hQ y3 y4 y5 y6 y7 y8 y9
              rw [hrun, if_neg hb, hn] at q
              rw [List.append_assoc]
              exact q)
            rw [hmap] at this
            exact this
      · intro d hd
        obtain ⟨b', rfl⟩ := short_long hd
        simp only [g_bind, g_ok, g_ofO, g_var, g_peek, g_frz, g_C, g_op, g_opF, g_tOf, g_B, g_BF, g_nil, g_cons, ok_ite, g_tup, g_lst, g_fz, g_call, g_callF, g_callV, g_callF0, g_seq, g_next, g_set, g_setF, g_setV, g_drop, g_ret, g_retF, g_retV, g_retO, g_if, g_append, g_extend, g_to, g_par, g_aug, g_any, g_noP, g_part, g_sl, g_slF, g_isI, g_m1, g_tAnd, g_tOr, g_tNot, g_and, g_or, g_not, g_neg, g_eif, g_tru, g_for, g_comp, g_run, okO_some, slV_va, slP_va, slP_ml, slZ_va, slZ_ml, slM_ml, isB_b, isI_i, isS_s, isL_l, itO_l, itO_t, itO_s, isVl_z, isVl_f, nxF_nx, nxF_rt, nxF_ro, nxF_bk, nxF_ct, endF_nx, endF_rt, endF_ro, okR_ok, okR_fr, okR_er, two_ok, stepF_nx, stepF_ct, stepF_bk, stepF_rt, stepF_ro, List.getElem?_cons_zero, List.getElem?_cons_succ, List.set_cons_zero, List.set_cons_succ, List.length_cons, List.length_nil, List.map_cons, List.map_nil, List.replicate_succ, List.replicate_zero, List.cons_append, List.nil_append, Nat.reduceAdd, Nat.reduceSub, Nat.reduceLeDiff, decide_eq_true_eq, addInt, subInt, ltInt, mulInt, modInt, divInt, powInt, shlInt, shrInt, eqInt, neInt, cmpInt, lenScr, lenLst, lenTup, idxScr, idxLst, idxTup, true_and, tgN, wipeR, g_chain, g_iseq, g_setIx, is_wanted_ok, onB_nm]
        exact ⟨rfl, fun _ => rfl⟩
    unfold l_sent_1
    generalize sSeq (sAppend 2 (eTup (eCons (eVar 5) (eCons (eVar 3) eNil)))) (sSeq (sSet 7 (eOp addD (eOp addD (eVar 5) (eOp idxD (eVar 0) (eOp tixD (eC d_PADDLES) (eVar 3)))) (eOp idxD (eVar 0) (eC (.int 2)))))
        (sSeq (sSet 8 (eFz (eComp (iAny (eC d_PADDLES)) [9] (tgN 9) (tOf (eCall m_is_wanted (eCons (eVar 1) (eCons (eVar 9) (eCons (eVar 5) (eCons (eVar 7) eNil)))))) (eVar 9))))
        (sSeq (sSet 4 (eTup (eCons (eVar 7) (eCons (eVar 8) eNil)))) (sIf (tOf (eOp eqD (eVar 8) (eFz (eLst eNil)))) (sSet 4 (eCall m_next_down (eCons (eVar 1) (eCons (eVar 7) eNil)))) sNext)))) = T at tail ⊢
    unfold nowD at tail ⊢
    simp only [g_bind, g_ok, g_ofO, g_var, g_peek, g_frz, g_C, g_op, g_opF, g_tOf, g_B, g_BF, g_nil, g_cons, ok_ite, g_tup, g_lst, g_fz, g_call, g_callF, g_callV, g_callF0, g_seq, g_next, g_set, g_setF, g_setV, g_drop, g_ret, g_retF, g_retV, g_retO, g_if, g_append, g_extend, g_to, g_par, g_aug, g_any, g_noP, g_part, g_sl, g_slF, g_isI, g_m1, g_tAnd, g_tOr, g_tNot, g_and, g_or, g_not, g_neg, g_eif, g_tru, g_for, g_comp, g_run, okO_some, slV_va, slP_va, slP_ml, slZ_va, slZ_ml, slM_ml, isB_b, isI_i, isS_s, isL_l, itO_l, itO_t, itO_s, isVl_z, isVl_f, nxF_nx, nxF_rt, nxF_ro, nxF_bk, nxF_ct, endF_nx, endF_rt, endF_ro, okR_ok, okR_fr, okR_er, two_ok, stepF_nx, stepF_ct, stepF_bk, stepF_rt, stepF_ro, List.getElem?_cons_zero, List.getElem?_cons_succ, List.set_cons_zero, List.set_cons_succ, List.length_cons, List.length_nil, List.map_cons, List.map_nil, List.replicate_succ, List.replicate_zero, List.cons_append, List.nil_append, Nat.reduceAdd, Nat.reduceSub, Nat.reduceLeDiff, decide_eq_true_eq, addInt, subInt, ltInt, mulInt, modInt, divInt, powInt, shlInt, shrInt, eqInt, neInt, cmpInt, lenScr, lenLst, lenTup, idxScr, idxLst, idxTup, true_and, tgN, wipeR, g_chain, g_iseq, g_setIx, en, tgT, tgL, if_true]
    have fin : ∀ q : Bool, atI [PyData.str (nm q)] 0 = some (.str (nm q)) := fun _ => rfl
    cases s with
    | true =>
      cases l with
      | true =>
        rw [if_pos (show ((nms true true).length : Int) = 2 from rfl), cL_filter (f := id) (p := onB fun q => !(q == last))]
        · have e1 : ((nms true true).filter (onB fun q => !(q == last))).map id = [.str (nm (!last))] := by cases last <;> rfl
          rw [e1]
          simp only [okO_some, fin]
          exact ⟨h2s, tail (!last) _ rfl⟩
        · intro x hx
          obtain ⟨b', rfl⟩ := short_long hx
          simp only [g_bind, g_ok, g_ofO, g_var, g_peek, g_frz, g_C, g_op, g_opF, g_tOf, g_B, g_BF, g_nil, g_cons, ok_ite, g_tup, g_lst, g_fz, g_call, g_callF, g_callV, g_callF0, g_seq, g_next, g_set, g_setF, g_setV, g_drop, g_ret, g_retF, g_retV, g_retO, g_if, g_append, g_extend, g_to, g_par, g_aug, g_any, g_noP, g_part, g_sl, g_slF, g_isI, g_m1, g_tAnd, g_tOr, g_tNot, g_and, g_or, g_not, g_neg, g_eif, g_tru, g_for, g_comp, g_run, okO_some, slV_va, slP_va, slP_ml, slZ_va, slZ_ml, slM_ml, isB_b, isI_i, isS_s, isL_l, itO_l, itO_t, itO_s, isVl_z, isVl_f, nxF_nx, nxF_rt, nxF_ro, nxF_bk, nxF_ct, endF_nx, endF_rt, endF_ro, okR_ok, okR_fr, okR_er, two_ok, stepF_nx, stepF_ct, stepF_bk, stepF_rt, stepF_ro, List.getElem?_cons_zero, List.getElem?_cons_succ, List.set_cons_zero, List.set_cons_succ, List.length_cons, List.length_nil, List.map_cons, List.map_nil, List.replicate_succ, List.replicate_zero, List.cons_append, List.nil_append, Nat.reduceAdd, Nat.reduceSub, Nat.reduceLeDiff, decide_eq_true_eq, addInt, subInt, ltInt, mulInt, modInt, divInt, powInt, shlInt, shrInt, eqInt, neInt, cmpInt, lenScr, lenLst, lenTup, idxScr, idxLst, idxTup, true_and, tgN, wipeR, g_chain, g_iseq, g_setIx, neStr, nm_inj, onB_nm]
          exact fun _ => rfl
      | false =>
        rw [if_neg (show ¬ ((nms true false).length : Int) = 2 by decide)]
        simp only [show atI (nms true false) 0 = some (.str (nm false)) from rfl, okO_some]
        exact tail false _ rfl
    | false =>
      cases l with
      | true =>
        rw [if_neg (show ¬ ((nms false true).length : Int) = 2 by decide)]
        simp only [show atI (nms false true) 0 = some (.str (nm true)) from rfl, okO_some]
        exact tail true _ rfl
      | false => cases hs
theorem fuel_big : 10000 < fuelN := by
  unfold fuelN
  exact Nat.lt_of_lt_of_le (show 10000 < 2 ^ 14 by decide) (Nat.pow_le_pow_right (by decide) (by decide))
/-- all that is sent -/
def sentL (P : List Pr) (a b c : Int) : List (Int × Bool) := match nextD P 0 with
  | none => []
  | some f => run P a b c 7000 f (atD P false f) (atD P true f) true
theorem sent_ok {P : List Pr} (hP : PrOk P) {a b c d e : Int} (f : FormOk a b c d e) : m_sent [fm a b c d e, psD P] = .fr ((sentL P a b c).map sD) := by
  refine okR_eqF ?_
  unfold m_sent b_sent
  simp only [g_bind, g_ok, g_ofO, g_var, g_peek, g_frz, g_C, g_op, g_opF, g_tOf, g_B, g_BF, g_nil, g_cons, ok_ite, g_tup, g_lst, g_fz, g_call, g_callF, g_callV, g_callF0, g_seq, g_next, g_set, g_setF, g_setV, g_drop, g_ret, g_retF, g_retV, g_retO, g_if, g_append, g_extend, g_to, g_par, g_aug, g_any, g_noP, g_part, g_sl, g_slF, g_isI, g_m1, g_tAnd, g_tOr, g_tNot, g_and, g_or, g_not, g_neg, g_eif, g_tru, g_for, g_comp, g_run, okO_some, slV_va, slP_va, slP_ml, slZ_va, slZ_ml, slM_ml, isB_b, isI_i, isS_s, isL_l, itO_l, itO_t, itO_s, isVl_z, isVl_f, nxF_nx, nxF_rt, nxF_ro, nxF_bk, nxF_ct, endF_nx, endF_rt, endF_ro, okR_ok, okR_fr, okR_er, two_ok, stepF_nx, stepF_ct, stepF_bk, stepF_rt, stepF_ro, List.getElem?_cons_zero, List.getElem?_cons_succ, List.set_cons_zero, List.set_cons_succ, List.length_cons, List.length_nil, List.map_cons, List.map_nil, List.replicate_succ, List.replicate_zero, List.cons_append, List.nil_append, Nat.reduceAdd, Nat.reduceSub, Nat.reduceLeDiff, decide_eq_true_eq, addInt, subInt, ltInt, mulInt, modInt, divInt, powInt, shlInt, shrInt, eqInt, neInt, cmpInt, lenScr, lenLst, lenTup, idxScr, idxLst, idxTup, true_and, tgN, wipeR, g_chain, g_iseq, g_setIx, next_ok P 0 hP.len]
  unfold sentL
  have hF := fuel_big
  unfold nextR
  cases hn : nextD P 0 with
  | none =>
    obtain ⟨G, hG⟩ : ∃ G, fuelN = G + 1 := ⟨fuelN - 1, by omega⟩
    rw [hG, while_step]
    have e0 : nisD .none .none = some (.bool false) := rfl
    simp only [g_bind, g_ok, g_ofO, g_var, g_peek, g_frz, g_C, g_op, g_opF, g_tOf, g_B, g_BF, g_nil, g_cons, ok_ite, g_tup, g_lst, g_fz, g_call, g_callF, g_callV, g_callF0, g_seq, g_next, g_set, g_setF, g_setV, g_drop, g_ret, g_retF, g_retV, g_retO, g_if, g_append, g_extend, g_to, g_par, g_aug, g_any, g_noP, g_part, g_sl, g_slF, g_isI, g_m1, g_tAnd, g_tOr, g_tNot, g_and, g_or, g_not, g_neg, g_eif, g_tru, g_for, g_comp, g_run, okO_some, slV_va, slP_va, slP_ml, slZ_va, slZ_ml, slM_ml, isB_b, isI_i, isS_s, isL_l, itO_l, itO_t, itO_s, isVl_z, isVl_f, nxF_nx, nxF_rt, nxF_ro, nxF_bk, nxF_ct, endF_nx, endF_rt, endF_ro, okR_ok, okR_fr, okR_er, two_ok, stepF_nx, stepF_ct, stepF_bk, stepF_rt, stepF_ro, List.getElem?_cons_zero, List.getElem?_cons_succ, List.set_cons_zero, List.set_cons_succ, List.length_cons, List.length_nil, List.map_cons, List.map_nil, List.replicate_succ, List.replicate_zero, List.cons_append, List.nil_append, Nat.reduceAdd, Nat.reduceSub, Nat.reduceLeDiff, decide_eq_true_eq, addInt, subInt, ltInt, mulInt, modInt, divInt, powInt, shlInt, shrInt, eqInt, neInt, cmpInt, lenScr, lenLst, lenTup, idxScr, idxLst, idxTup, true_and, tgN, wipeR, g_chain, g_iseq, g_setIx, e0]
    rw [if_neg Bool.false_ne_true]
    trivial
  | some f0 =>
    obtain ⟨n1, ⟨x, hx, hf2⟩, _⟩ := next_some hn
    have hx2 := hP.at0 x hx
    refine sent_loop hP f _ 7000 fuelN f0 (atD P false f0) (atD P true f0) true [] _ _ _ _ _ (by omega) (by omega) (by omega) (by omega) (at_or hn) (by simp) fun y3 y4 y5 y6 y7 y8 y9 => ?_
    simp only [g_bind, g_ok, g_ofO, g_var, g_peek, g_frz, g_C, g_op, g_opF, g_tOf, g_B, g_BF, g_nil, g_cons, ok_ite, g_tup, g_lst, g_fz, g_call, g_callF, g_callV, g_callF0, g_seq, g_next, g_set, g_setF, g_setV, g_drop, g_ret, g_retF, g_retV, g_retO, g_if, g_append, g_extend, g_to, g_par, g_aug, g_any, g_noP, g_part, g_sl, g_slF, g_isI, g_m1, g_tAnd, g_tOr, g_tNot, g_and, g_or, g_not, g_neg, g_eif, g_tru, g_for, g_comp, g_run, okO_some, slV_va, slP_va, slP_ml, slZ_va, slZ_ml, slM_ml, isB_b, isI_i, isS_s, isL_l, itO_l, itO_t, itO_s, isVl_z, isVl_f, nxF_nx, nxF_rt, nxF_ro, nxF_bk, nxF_ct, endF_nx, endF_rt, endF_ro, okR_ok, okR_fr, okR_er, two_ok, stepF_nx, stepF_ct, stepF_bk, stepF_rt, stepF_ro, List.getElem?_cons_zero, List.getElem?_cons_succ, List.set_cons_zero, List.set_cons_succ, List.length_cons, List.length_nil, List.map_cons, List.map_nil, List.replicate_succ, List.replicate_zero, List.cons_append, List.nil_append, Nat.reduceAdd, Nat.reduceSub, Nat.reduceLeDiff, decide_eq_true_eq, addInt, subInt, ltInt, mulInt, modInt, divInt, powInt, shlInt, shrInt, eqInt, neInt, cmpInt, lenScr, lenLst, lenTup, idxScr, idxLst, idxTup, true_and, tgN, wipeR, g_chain, g_iseq, g_setIx]
/-! the presses that the law makes -/
structure Pr0 (P : List Pr) : Prop where
  at0 : ∀ x ∈ P, 0 ≤ x.2.1 ∧ x.2.1 < x.2.2 ∧ x.2.2 ≤ 5000
theorem three_at (a b c k : Int) : ∃ z, atI [PyData.int a, PyData.int b, PyData.int c] (k % 3) = some (.int z) ∧ (z = a ∨ z = b ∨ z = c) := by
  obtain ⟨z, e, g⟩ := atI_ints [a, b, c] (k % 3) (Int.emod_nonneg _ (by omega)) (Int.emod_lt_of_pos _ (by simp))
  refine ⟨z, e, ?_⟩
  have := List.mem_of_getElem? g
  simpa using this
theorem presses_loop (v0 v1 v2 : Sl) {L : List Int} (hL : L.length = 80) (hx : ∀ x ∈ L, 0 ≤ x ∧ x < 27720) (m : Nat) (hm : m ≤ 40) (Q : Fl → Rho → Prop) (n0 n1 : Int) (z0 : 0 ≤ n0) (z1 : 0 ≤ n1) (v6 v7 v8 v9 : Sl)
    (hQ : ∀ P : List Pr, PrOk P → ∀ v4 v6 v7 v8 v9, Q .nx [v0, v1, v2, .va (.list (L.map .int)), v4, .ml (P.map pD), v6, v7, v8, v9]) :
    Ok (sLoop (tgN 6) l__law_presses_1 (rgD 0 m)) [v0, v1, v2, .va (.list (L.map .int)), .ml [.int n0, .int n1], .ml [], v6, v7, v8, v9] Q fun x _ => noX x := by
  refine loop_inv (fun n ρ => n ≤ m ∧ ∃ (P : List Pr) (n0 n1 : Int) (v6 v7 v8 v9 : Sl), P.length ≤ n ∧ Pr0 P ∧ 0 ≤ n0 ∧ 0 ≤ n1 ∧ ρ = [v0, v1, v2, .va (.list (L.map .int)), .ml [.int n0, .int n1], .ml (P.map pD), v6, v7, v8, v9]) ⟨Nat.zero_le _, [], n0, n1, v6, v7, v8, v9, by simp, ⟨by simp⟩, z0, z1, rfl⟩ ?_ ?_
  · rintro n d ρ hd ⟨_, P, n0, n1, v6, v7, v8, v9, hl, hP, z0, z1, rfl⟩
    have hn : n < m := by
      have := (List.getElem?_eq_some_iff.mp hd).1
      simpa [rgD] using this
    have ed : d = .int n := by
      simp [rgD, hn] at hd
      exact hd.symm
    subst ed
    obtain ⟨p, e1, q1, q2⟩ := draw_at hx (2 * n) (by omega)
    obtain ⟨r, e2, r1, r2⟩ := draw_at hx (2 * n + 1) (by omega)
    obtain ⟨t, e3, t1⟩ := three_at 3 12 60 (p / 200)
    obtain ⟨u, e4, u1⟩ := three_at 2 9 90 (r / 90)
    have e5 : atI [PyData.int n0, .int n1] (p % 2) = some (.int (if p % 2 = 0 then n0 else n1)) := by
      have : p % 2 = 0 ∨ p % 2 = 1 := by omega
      rcases this with h | h <;> rw [h] <;> rfl
    have e6 : ixN 2 (p % 2) = some (p % 2).toNat := by
      have : p % 2 = 0 ∨ p % 2 = 1 := by omega
      rcases this with h | h <;> rw [h] <;> rfl
    have e7 : atI [PyData.str (Str.ofString "short"), .str (Str.ofString "long")] (p % 2) = some (.str (nm (decide (p % 2 = 1)))) := by
      have : p % 2 = 0 ∨ p % 2 = 1 := by omega
      rcases this with h | h <;> rw [h] <;> rfl
    have e8 : maxD [.list [.int n0, .int n1]] = some (.int (max n0 n1)) := rfl
    have s1 : (((2 * n : Nat) : Int)) = 2 * n := by omega
    have s2 : (((2 * n + 1 : Nat) : Int)) = 2 * n + 1 := by omega
    rw [s1] at e1
    rw [s2] at e2
    unfold l__law_presses_1
    simp only [g_bind, g_ok, g_ofO, g_var, g_peek, g_frz, g_C, g_op, g_opF, g_tOf, g_B, g_BF, g_nil, g_cons, ok_ite, g_tup, g_lst, g_fz, g_call, g_callF, g_callV, g_callF0, g_seq, g_next, g_set, g_setF, g_setV, g_drop, g_ret, g_retF, g_retV, g_retO, g_if, g_append, g_extend, g_to, g_par, g_aug, g_any, g_noP, g_part, g_sl, g_slF, g_isI, g_m1, g_tAnd, g_tOr, g_tNot, g_and, g_or, g_not, g_neg, g_eif, g_tru, g_for, g_comp, g_run, okO_some, slV_va, slP_va, slP_ml, slZ_va, slZ_ml, slM_ml, isB_b, isI_i, isS_s, isL_l, itO_l, itO_t, itO_s, isVl_z, isVl_f, nxF_nx, nxF_rt, nxF_ro, nxF_bk, nxF_ct, endF_nx, endF_rt, endF_ro, okR_ok, okR_fr, okR_er, two_ok, stepF_nx, stepF_ct, stepF_bk, stepF_rt, stepF_ro, List.getElem?_cons_zero, List.getElem?_cons_succ, List.set_cons_zero, List.set_cons_succ, List.length_cons, List.length_nil, List.map_cons, List.map_nil, List.replicate_succ, List.replicate_zero, List.cons_append, List.nil_append, Nat.reduceAdd, Nat.reduceSub, Nat.reduceLeDiff, decide_eq_true_eq, addInt, subInt, ltInt, mulInt, modInt, divInt, powInt, shlInt, shrInt, eqInt, neInt, cmpInt, lenScr, lenLst, lenTup, idxScr, idxLst, idxTup, true_and, tgN, wipeR, g_chain, g_iseq, g_setIx, e1, e2, e3, e4, e5, e7, e8]
    have w1 := Int.emod_nonneg r (b := u) (by omega)
    have w2 := Int.emod_nonneg (p / 2) (b := t) (by omega)
    have hz : (P.map pD).length < sizeLine := by rw [List.length_map]; unfold sizeLine; omega
    -- a press is put
    have put : ∀ D U : Int, 0 ≤ D → D < U → U ≤ 5000 → ∀ v6 v7 v8 v9, ∃ (P1 : List Pr) (m0 m1 : Int) (y6 y7 y8 y9 : Sl), P1.length ≤ n + 1 ∧ Pr0 P1 ∧ 0 ≤ m0 ∧ 0 ≤ m1 ∧
        [v0, v1, v2, Sl.va (.list (L.map .int)), .ml ([PyData.int n0, .int n1].set (p % 2).toNat (.int U)), .ml (P.map pD ++ [.tuple [.str (nm (decide (p % 2 = 1))), .int D, .int U]]), v6, v7, v8, v9] = [v0, v1, v2, .va (.list (L.map .int)), .ml [.int m0, .int m1], .ml (P1.map pD), y6, y7, y8, y9] := by
      intro D U hD hU h5 v6 v7 v8 v9
      have hp1 : Pr0 (P ++ [(decide (p % 2 = 1), D, U)]) := ⟨fun x hx => by
        rcases List.mem_append.mp hx with h | h
        · exact hP.at0 x h
        · simp at h; subst h; exact ⟨hD, hU, h5⟩⟩
      have em : (P ++ [(decide (p % 2 = 1), D, U)]).map pD = P.map pD ++ [.tuple [.str (nm (decide (p % 2 = 1))), .int D, .int U]] := by simp; rfl
      have : p % 2 = 0 ∨ p % 2 = 1 := by omega
      rcases this with h | h
      · refine ⟨_, U, n1, v6, v7, v8, v9, by simp; omega, hp1, by omega, z1, ?_⟩
        rw [em, h]; rfl
      · refine ⟨_, n0, U, v6, v7, v8, v9, by simp; omega, hp1, z0, by omega, ?_⟩
        rw [em, h]; rfl
    have none : ∀ v6 v7 v8 v9, ∃ (P1 : List Pr) (m0 m1 : Int) (y6 y7 y8 y9 : Sl), P1.length ≤ n + 1 ∧ Pr0 P1 ∧ 0 ≤ m0 ∧ 0 ≤ m1 ∧
        [v0, v1, v2, Sl.va (.list (L.map .int)), .ml [PyData.int n0, .int n1], .ml (P.map pD), v6, v7, v8, v9] = [v0, v1, v2, .va (.list (L.map .int)), .ml [.int m0, .int m1], .ml (P1.map pD), y6, y7, y8, y9] := fun v6 v7 v8 v9 => ⟨P, n0, n1, v6, v7, v8, v9, by omega, hP, z0, z1, rfl⟩
    repeat (refine And.intro (by first | decide | omega | exact cdiv (by first | decide | omega) (by first | decide | omega) | (apply cmul <;> omega) | assumption) ?_)
    split
    · repeat (refine And.intro (by first | decide | omega | exact cdiv (by first | decide | omega) (by first | decide | omega) | (apply cmul <;> omega) | assumption) ?_)
      split
      · rw [e6, okO_some]
        exact ⟨hz, by omega, put _ _ (by omega) (by omega) (by assumption) _ _ _ _⟩
      · exact ⟨by omega, none _ _ _ _⟩
    · repeat (refine And.intro (by first | decide | omega | exact cdiv (by first | decide | omega) (by first | decide | omega) | (apply cmul <;> omega) | assumption) ?_)
      have hD : 0 ≤ (if p % 2 = 0 then n0 else n1) + p / 2 % t := by split <;> omega
      generalize (if p % 2 = 0 then n0 else n1) + p / 2 % t = D at hD ⊢
      split
      · rw [e6, okO_some]
        exact ⟨hz, by omega, put _ _ hD (by omega) (by assumption) _ _ _ _⟩
      · exact ⟨by omega, none _ _ _ _⟩
  · rintro ρ ⟨_, P, n0, n1, v6, v7, v8, v9, hl, hP, z0, z1, rfl⟩
    exact hQ P ⟨by rw [rgD_len] at hl; omega, hP.at0⟩ _ _ _ _ _
theorem presses_ok (ns : List Int) (k : Int) (h0 : 0 ≤ k) (h1 : k < 900) : ∃ P : List Pr, m__law_presses [scr ns, .int k] = .fr (P.map pD) ∧ PrOk P := by
  obtain ⟨L1, eL1, hl1, hx1⟩ := draws_ok ns k 4 27720 h0 (by omega) (by decide) (by decide) (by decide) (by decide)
  obtain ⟨L, eL, hl, hx⟩ := draws_ok ns (k + 1) 80 27720 (by omega) (by omega) (by decide) (by decide) (by decide) (by decide)
  obtain ⟨p0, g0, i0, j0⟩ := draw_at hx1 0 (by rw [hl1]; decide)
  obtain ⟨p1, g1, i1, j1⟩ := draw_at hx1 1 (by rw [hl1]; decide)
  obtain ⟨p2, g2, i2, j2⟩ := draw_at hx1 2 (by rw [hl1]; decide)
  obtain ⟨p3, g3, i3, j3⟩ := draw_at hx1 3 (by rw [hl1]; decide)
  simp only [Int.cast_ofNat_Int] at g0 g1 g2 g3
  obtain ⟨q, r, s⟩ := two_at (p2 % 41) (p2 % 9) p3
  have h : okR (m__law_presses [scr ns, .int k]) (fun _ => False) (fun ds => ∃ P : List Pr, ds = P.map pD ∧ PrOk P) noX := by
    unfold m__law_presses b__law_presses
    have er : rg1D [.int q] = some (rgD 0 q.toNat) := if_pos (by unfold small62; omega)
    simp only [g_bind, g_ok, g_ofO, g_var, g_peek, g_frz, g_C, g_op, g_opF, g_tOf, g_B, g_BF, g_nil, g_cons, ok_ite, g_tup, g_lst, g_fz, g_call, g_callF, g_callV, g_callF0, g_seq, g_next, g_set, g_setF, g_setV, g_drop, g_ret, g_retF, g_retV, g_retO, g_if, g_append, g_extend, g_to, g_par, g_aug, g_any, g_noP, g_part, g_sl, g_slF, g_isI, g_m1, g_tAnd, g_tOr, g_tNot, g_and, g_or, g_not, g_neg, g_eif, g_tru, g_for, g_comp, g_run, okO_some, slV_va, slP_va, slP_ml, slZ_va, slZ_ml, slM_ml, isB_b, isI_i, isS_s, isL_l, itO_l, itO_t, itO_s, isVl_z, isVl_f, nxF_nx, nxF_rt, nxF_ro, nxF_bk, nxF_ct, endF_nx, endF_rt, endF_ro, okR_ok, okR_fr, okR_er, two_ok, stepF_nx, stepF_ct, stepF_bk, stepF_rt, stepF_ro, List.getElem?_cons_zero, List.getElem?_cons_succ, List.set_cons_zero, List.set_cons_succ, List.length_cons, List.length_nil, List.map_cons, List.map_nil, List.replicate_succ, List.replicate_zero, List.cons_append, List.nil_append, Nat.reduceAdd, Nat.reduceSub, Nat.reduceLeDiff, decide_eq_true_eq, addInt, subInt, ltInt, mulInt, modInt, divInt, powInt, shlInt, shrInt, eqInt, neInt, cmpInt, lenScr, lenLst, lenTup, idxScr, idxLst, idxTup, true_and, tgN, wipeR, g_chain, g_iseq, g_setIx, eL1, eL, g0, g1, g2, g3, r, er]
    repeat (refine And.intro (by first | decide | omega | exact cdiv (by first | decide | omega) (by first | decide | omega) | (apply cmul <;> omega) | assumption) ?_)
    refine presses_loop _ _ _ (by rw [hl]; rfl) hx q.toNat (by omega) _ _ _ (by omega) (by omega) _ _ _ _ fun P hP v4 v6 v7 v8 v9 => ?_
    simp only [g_bind, g_ok, g_ofO, g_var, g_peek, g_frz, g_C, g_op, g_opF, g_tOf, g_B, g_BF, g_nil, g_cons, ok_ite, g_tup, g_lst, g_fz, g_call, g_callF, g_callV, g_callF0, g_seq, g_next, g_set, g_setF, g_setV, g_drop, g_ret, g_retF, g_retV, g_retO, g_if, g_append, g_extend, g_to, g_par, g_aug, g_any, g_noP, g_part, g_sl, g_slF, g_isI, g_m1, g_tAnd, g_tOr, g_tNot, g_and, g_or, g_not, g_neg, g_eif, g_tru, g_for, g_comp, g_run, okO_some, slV_va, slP_va, slP_ml, slZ_va, slZ_ml, slM_ml, isB_b, isI_i, isS_s, isL_l, itO_l, itO_t, itO_s, isVl_z, isVl_f, nxF_nx, nxF_rt, nxF_ro, nxF_bk, nxF_ct, endF_nx, endF_rt, endF_ro, okR_ok, okR_fr, okR_er, two_ok, stepF_nx, stepF_ct, stepF_bk, stepF_rt, stepF_ro, List.getElem?_cons_zero, List.getElem?_cons_succ, List.set_cons_zero, List.set_cons_succ, List.length_cons, List.length_nil, List.map_cons, List.map_nil, List.replicate_succ, List.replicate_zero, List.cons_append, List.nil_append, Nat.reduceAdd, Nat.reduceSub, Nat.reduceLeDiff, decide_eq_true_eq, addInt, subInt, ltInt, mulInt, modInt, divInt, powInt, shlInt, shrInt, eqInt, neInt, cmpInt, lenScr, lenLst, lenTup, idxScr, idxLst, idxTup, true_and, tgN, wipeR, g_chain, g_iseq, g_setIx]
    exact ⟨P, rfl, hP⟩
  obtain ⟨d, e, P, rfl, h⟩ := okR_lst h
  exact ⟨P, e, h⟩
end LawK19

set_option linter.all false
set_option maxRecDepth 100000
namespace LawK19
open PySem PySem.Spec L2 DL
open PyProof.Rows hiding St
/-! what is sent comes one behind the other -/
def tailB (P : List Pr) (a b c : Int) (K : Nat) (m : Int) (last : Bool) : List (Int × Bool) := match nextD P m with
  | none => []
  | some f => run P a b c K f (atD P false f) (atD P true f) last
def tailA (P : List Pr) (a b c : Int) (K : Nat) (g e : Int) (last : Bool) : List (Int × Bool) := if (wt P false g e || wt P true g e) = true then run P a b c K e (wt P false g e) (wt P true g e) last else tailB P a b c K e last
theorem run_tail (P : List Pr) (a b c : Int) (K : Nat) (g : Int) (s l last : Bool) : run P a b c (K + 1) g s l last = (g, pick last s l) :: tailA P a b c K g (endOf a b c g (pick last s l)) (pick last s l) := rfl
def chainOk (a b c : Int) : List (Int × Bool) → Prop
  | [] => True
  | [_] => True
  | x :: y :: r => endOf a b c x.1 x.2 ≤ y.1 ∧ chainOk a b c (y :: r)
theorem run_head (P : List Pr) (a b c : Int) (K : Nat) (g : Int) (s l last : Bool) : run P a b c K g s l last = [] ∨ ∃ r, run P a b c K g s l last = (g, pick last s l) :: r := by
  cases K with
  | zero => exact .inl rfl
  | succ K => exact .inr ⟨_, rfl⟩
theorem chain_cons {a b c : Int} {x : Int × Bool} {t : List (Int × Bool)} (h : chainOk a b c t) (hd : t = [] ∨ ∃ y r, t = y :: r ∧ endOf a b c x.1 x.2 ≤ y.1) : chainOk a b c (x :: t) := by
  rcases hd with rfl | ⟨y, r, rfl, h2⟩
  · trivial
  · exact ⟨h2, h⟩
theorem run_chain (P : List Pr) (a b c : Int) : ∀ (K : Nat) (g : Int) (s l last : Bool), chainOk a b c (run P a b c K g s l last)
  | 0, _, _, _, _ => trivial
  | K + 1, g, s, l, last => by
    rw [run_tail]
    unfold tailA tailB
    split
    · refine chain_cons (run_chain P a b c K _ _ _ _) ?_
      rcases run_head P a b c K (endOf a b c g (pick last s l)) (wt P false g (endOf a b c g (pick last s l))) (wt P true g (endOf a b c g (pick last s l))) (pick last s l) with h | ⟨r, h⟩
      · exact .inl h
      · exact .inr ⟨_, r, h, Int.le_refl _⟩
    · split
      · trivial
      · rename_i f hf
        refine chain_cons (run_chain P a b c K _ _ _ _) ?_
        rcases run_head P a b c K f (atD P false f) (atD P true f) (pick last s l) with h | ⟨r, h⟩
        · exact .inl h
        · exact .inr ⟨_, r, h, (next_some hf).1⟩
theorem sentL_chain (P : List Pr) (a b c : Int) : chainOk a b c (sentL P a b c) := by
  unfold sentL
  split
  · trivial
  · exact run_chain _ _ _ _ _ _ _ _ _
/-! stretches -/
def lenW (a b : Int) (w : Bool) : Int := if w = true then b else a
def go (a b : Int) : Option Int → List (Int × Bool) → List Int
  | _, [] => []
  | none, x :: r => lenW a b x.2 :: go a b (some (x.1 + lenW a b x.2)) r
  | some e, x :: r => (x.1 - e) :: lenW a b x.2 :: go a b (some (x.1 + lenW a b x.2)) r
theorem str_loop {a b c d e : Int} {v1 : Sl} {Q : Fl → Rho → Prop} : ∀ (R : List (Int × Bool)) (acc : List Int) (z : Int) (v4 v5 v6 : Sl), acc.length + 2 * R.length ≤ 100000 →
    (∀ v3 v4 v5 v6, Q .nx [.va (fm a b c d e), v1, .ml ((acc ++ go a b (if acc.isEmpty = true then none else some z) R).map .int), v3, v4, v5, v6]) →
    Ok (sLoop (tgT [4, 5]) l_stretches_sent_1 (R.map sD)) [.va (fm a b c d e), v1, .ml (acc.map .int), .va (.int z), v4, v5, v6] Q fun x _ => noX x
  | [], acc, z, v4, v5, v6, hl, hQ => by
    rw [List.map_nil, loop_nil]
    have := hQ (.va (.int z)) v4 v5 v6
    have e0 : ∀ o, go a b o [] = [] := fun o => by cases o <;> rfl
    rw [e0, List.append_nil] at this
    exact this
  | x :: R, acc, z, v4, v5, v6, hl, hQ => by
    rw [List.map_cons, loop_cons]
    have tix : ∀ w : Bool, tixD d_PADDLES (.str (nm w)) = some (.int (if w = true then 1 else 0)) := fun w => by cases w <;> rfl
    have idx : ∀ w : Bool, idxD (fm a b c d e) (.int (if w = true then 1 else 0)) = some (.int (lenW a b w)) := fun w => by cases w <;> rfl
    have hz : acc.length < sizeLine := by simp at hl; unfold sizeLine; omega
    have hz2 : acc.length + 1 < sizeLine := by simp at hl; unfold sizeLine; omega
    have ih := fun acc z v4 v5 v6 => str_loop (a := a) (b := b) (c := c) (d := d) (e := e) (v1 := v1) (Q := Q) R acc z v4 v5 v6
    generalize sLoop (tgT [4, 5]) l_stretches_sent_1 (R.map sD) = W at ih ⊢
    unfold l_stretches_sent_1 sD
    simp only [g_bind, g_ok, g_ofO, g_var, g_peek, g_frz, g_C, g_op, g_opF, g_tOf, g_B, g_BF, g_nil, g_cons, ok_ite, g_tup, g_lst, g_fz, g_call, g_callF, g_callV, g_callF0, g_seq, g_next, g_set, g_setF, g_setV, g_drop, g_ret, g_retF, g_retV, g_retO, g_if, g_append, g_extend, g_to, g_par, g_aug, g_any, g_noP, g_part, g_sl, g_slF, g_isI, g_m1, g_tAnd, g_tOr, g_tNot, g_and, g_or, g_not, g_neg, g_eif, g_tru, g_for, g_comp, g_run, okO_some, slV_va, slP_va, slP_ml, slZ_va, slZ_ml, slM_ml, isB_b, isI_i, isS_s, isL_l, itO_l, itO_t, itO_s, isVl_z, isVl_f, nxF_nx, nxF_rt, nxF_ro, nxF_bk, nxF_ct, endF_nx, endF_rt, endF_ro, okR_ok, okR_fr, okR_er, two_ok, stepF_nx, stepF_ct, stepF_bk, stepF_rt, stepF_ro, List.getElem?_cons_zero, List.getElem?_cons_succ, List.set_cons_zero, List.set_cons_succ, List.length_cons, List.length_nil, List.map_cons, List.map_nil, List.replicate_succ, List.replicate_zero, List.cons_append, List.nil_append, Nat.reduceAdd, Nat.reduceSub, Nat.reduceLeDiff, decide_eq_true_eq, addInt, subInt, ltInt, mulInt, modInt, divInt, powInt, shlInt, shrInt, eqInt, neInt, cmpInt, lenScr, lenLst, lenTup, idxScr, idxLst, idxTup, true_and, tgN, wipeR, g_chain, g_iseq, g_setIx, g_lix, g_m1F, Option.bind_some, tgT, tgL, neNil (okD_ints _), tix, idx]
    cases hc : acc with
    | nil =>
      subst hc
      rw [if_neg (by simp)]
      refine ⟨by simpa using hz, ?_⟩
      have := ih [lenW a b x.2] (x.1 + lenW a b x.2) (.va (.int x.1)) (.va (.str (nm x.2))) (.va (.int (lenW a b x.2))) (by simp at hl ⊢; omega) fun v3 v4 v5 v6 => by
        have := hQ v3 v4 v5 v6
        simpa [go] using this
      simpa using this
    | cons y acc' =>
      rw [← hc]
      have ne : acc.isEmpty = false := by rw [hc]; rfl
      have ne2 : (acc.map PyData.int).isEmpty = false := by rw [hc]; rfl
      rw [ne2, if_pos (by simp)]
      refine ⟨by simpa using hz, by simpa using hz2, ?_⟩
      have := ih (acc ++ [x.1 - z, lenW a b x.2]) (x.1 + lenW a b x.2) (.va (.int x.1)) (.va (.str (nm x.2))) (.va (.int (lenW a b x.2))) (by simp at hl ⊢; omega) fun v3 v4 v5 v6 => by
        have := hQ v3 v4 v5 v6
        rw [ne, if_neg Bool.false_ne_true] at this
        have e2 : (acc ++ [x.1 - z, lenW a b x.2]).isEmpty = false := by cases acc <;> rfl
        rw [e2, if_neg Bool.false_ne_true, List.append_assoc]
        exact this
      simpa using this
theorem run_len (P : List Pr) (a b c : Int) : ∀ K g s l last, (run P a b c K g s l last).length ≤ K
  | 0, _, _, _, _ => Nat.le_refl _
  | K + 1, g, s, l, last => by
    rw [run_tail, List.length_cons]
    unfold tailA tailB
    split
    · exact Nat.succ_le_succ (run_len P a b c K _ _ _ _)
    · split
      · simp
      · exact Nat.succ_le_succ (run_len P a b c K _ _ _ _)
theorem sentL_len (P : List Pr) (a b c : Int) : (sentL P a b c).length ≤ 7000 := by
  unfold sentL
  split
  · simp
  · exact run_len _ _ _ _ _ _ _ _ _
theorem stretches_ok {P : List Pr} (hP : PrOk P) {a b c d e : Int} (f : FormOk a b c d e) : m_stretches_sent [fm a b c d e, psD P] = .fr ((go a b none (sentL P a b c)).map .int) := by
  refine okR_eqF ?_
  unfold m_stretches_sent b_stretches_sent
  simp only [g_bind, g_ok, g_ofO, g_var, g_peek, g_frz, g_C, g_op, g_opF, g_tOf, g_B, g_BF, g_nil, g_cons, ok_ite, g_tup, g_lst, g_fz, g_call, g_callF, g_callV, g_callF0, g_seq, g_next, g_set, g_setF, g_setV, g_drop, g_ret, g_retF, g_retV, g_retO, g_if, g_append, g_extend, g_to, g_par, g_aug, g_any, g_noP, g_part, g_sl, g_slF, g_isI, g_m1, g_tAnd, g_tOr, g_tNot, g_and, g_or, g_not, g_neg, g_eif, g_tru, g_for, g_comp, g_run, okO_some, slV_va, slP_va, slP_ml, slZ_va, slZ_ml, slM_ml, isB_b, isI_i, isS_s, isL_l, itO_l, itO_t, itO_s, isVl_z, isVl_f, nxF_nx, nxF_rt, nxF_ro, nxF_bk, nxF_ct, endF_nx, endF_rt, endF_ro, okR_ok, okR_fr, okR_er, two_ok, stepF_nx, stepF_ct, stepF_bk, stepF_rt, stepF_ro, List.getElem?_cons_zero, List.getElem?_cons_succ, List.set_cons_zero, List.set_cons_succ, List.length_cons, List.length_nil, List.map_cons, List.map_nil, List.replicate_succ, List.replicate_zero, List.cons_append, List.nil_append, Nat.reduceAdd, Nat.reduceSub, Nat.reduceLeDiff, decide_eq_true_eq, addInt, subInt, ltInt, mulInt, modInt, divInt, powInt, shlInt, shrInt, eqInt, neInt, cmpInt, lenScr, lenLst, lenTup, idxScr, idxLst, idxTup, true_and, tgN, wipeR, g_chain, g_iseq, g_setIx, g_lix, g_m1F, Option.bind_some, sent_ok hP f]
  have hl := sentL_len P a b c
  refine str_loop (sentL P a b c) [] 0 _ _ _ (by simp; omega) fun v3 v4 v5 v6 => ?_
  simp only [g_bind, g_ok, g_ofO, g_var, g_peek, g_frz, g_C, g_op, g_opF, g_tOf, g_B, g_BF, g_nil, g_cons, ok_ite, g_tup, g_lst, g_fz, g_call, g_callF, g_callV, g_callF0, g_seq, g_next, g_set, g_setF, g_setV, g_drop, g_ret, g_retF, g_retV, g_retO, g_if, g_append, g_extend, g_to, g_par, g_aug, g_any, g_noP, g_part, g_sl, g_slF, g_isI, g_m1, g_tAnd, g_tOr, g_tNot, g_and, g_or, g_not, g_neg, g_eif, g_tru, g_for, g_comp, g_run, okO_some, slV_va, slP_va, slP_ml, slZ_va, slZ_ml, slM_ml, isB_b, isI_i, isS_s, isL_l, itO_l, itO_t, itO_s, isVl_z, isVl_f, nxF_nx, nxF_rt, nxF_ro, nxF_bk, nxF_ct, endF_nx, endF_rt, endF_ro, okR_ok, okR_fr, okR_er, two_ok, stepF_nx, stepF_ct, stepF_bk, stepF_rt, stepF_ro, List.getElem?_cons_zero, List.getElem?_cons_succ, List.set_cons_zero, List.set_cons_succ, List.length_cons, List.length_nil, List.map_cons, List.map_nil, List.replicate_succ, List.replicate_zero, List.cons_append, List.nil_append, Nat.reduceAdd, Nat.reduceSub, Nat.reduceLeDiff, decide_eq_true_eq, addInt, subInt, ltInt, mulInt, modInt, divInt, powInt, shlInt, shrInt, eqInt, neInt, cmpInt, lenScr, lenLst, lenTup, idxScr, idxLst, idxTup, true_and, tgN, wipeR, g_chain, g_iseq, g_setIx, g_lix, g_m1F, Option.bind_some]
  rfl
theorem go_len (a b : Int) : ∀ (R : List (Int × Bool)) (e : Int), (go a b (some e) R).length = 2 * R.length
  | [], _ => rfl
  | x :: R, e => by
    show (go a b (some (x.1 + lenW a b x.2)) R).length + 1 + 1 = 2 * (R.length + 1)
    rw [go_len a b R]; omega
/-- the sound k behind a beginning: its length, the sum of all ahead of it, the rest ahead of it -/
theorem go_at (a b c : Int) : ∀ (R : List (Int × Bool)) (x : Int × Bool) (k : Nat) (y : Int × Bool), chainOk a b c (x :: R) → (x :: R)[k]? = some y →
    (go a b none (x :: R))[2 * k]? = some (lenW a b y.2) ∧ ((go a b none (x :: R)).take (2 * k)).sum = y.1 - x.1 ∧ (0 < k → ∃ r, (go a b none (x :: R))[2 * k - 1]? = some r ∧ c ≤ r)
  | R, x, 0, y, _, h => by
    simp at h
    subst h
    exact ⟨rfl, by simp, fun z => absurd z (by decide)⟩
  | [], x, k + 1, y, _, h => by simp at h
  | z :: R, x, k + 1, y, hc, h => by
    obtain ⟨h1, h2⟩ := hc
    have e1 : go a b none (x :: z :: R) = lenW a b x.2 :: (z.1 - (x.1 + lenW a b x.2)) :: go a b none (z :: R) := rfl
    obtain ⟨i1, i2, i3⟩ := go_at a b c R z k y h2 (by simpa using h)
    have e2 : 2 * (k + 1) = 2 * k + 1 + 1 := by omega
    rw [e1, e2]
    refine ⟨by simpa using i1, ?_, fun _ => ?_⟩
    · rw [List.take_succ_cons, List.take_succ_cons, List.sum_cons, List.sum_cons, i2]
      omega
    · cases k with
      | zero =>
        refine ⟨_, rfl, ?_⟩
        unfold endOf at h1
        unfold lenW
        omega
      | succ k =>
        obtain ⟨r, r1, r2⟩ := i3 (by omega)
        refine ⟨r, ?_, r2⟩
        have e3 : 2 * (k + 1) + 1 + 1 - 1 = (2 * (k + 1) - 1) + 1 + 1 := by omega
        rw [e3]
        simpa using r1
/-! both paddles held -/
def alt : Bool → Nat → List Bool
  | _, 0 => []
  | w, n + 1 => w :: alt (!w) n
def two2 (s0 l0 en : Int) : List Pr := [(false, s0, en), (true, l0, en)]
theorem wt_two {s0 l0 en g e : Int} (h1 : s0 ≤ g) (h2 : l0 ≤ g) (h3 : g < e) (b : Bool) : wt (two2 s0 l0 en) b g e = decide (e < en) := by
  unfold wt two2 isW
  cases b <;> by_cases q : e < en <;> simp [q] <;> omega
theorem next_two {s0 l0 en e : Int} (h1 : s0 < e) (h2 : l0 < e) : nextD (two2 s0 l0 en) e = none := by
  unfold nextD
  rw [if_pos]
  unfold downs two2
  simp [show ¬ e ≤ s0 by omega, show ¬ e ≤ l0 by omega]
theorem run_alt {s0 l0 en a b c : Int} (hp : ∀ g w, g < endOf a b c g w) : ∀ (K : Nat) (g : Int) (s l last : Bool), s0 ≤ g → l0 ≤ g → ∃ n, (run (two2 s0 l0 en) a b c K g s l last).map (·.2) = alt (pick last s l) n
  | 0, g, s, l, last, h1, h2 => ⟨0, rfl⟩
  | K + 1, g, s, l, last, h1, h2 => by
    rw [run_tail]
    have hg := hp g (pick last s l)
    unfold tailA tailB
    rw [wt_two h1 h2 hg, wt_two h1 h2 hg, next_two (by omega) (by omega)]
    by_cases q : endOf a b c g (pick last s l) < en
    · rw [decide_eq_true q, if_pos (show (true || true) = true from rfl)]
      obtain ⟨n, hn⟩ := run_alt (s0 := s0) (l0 := l0) (en := en) hp K (endOf a b c g (pick last s l)) true true (pick last s l) (by omega) (by omega)
      refine ⟨n + 1, ?_⟩
      rw [List.map_cons, hn]
      rfl
    · rw [decide_eq_false q, if_neg (by simp)]
      exact ⟨1, rfl⟩
theorem next_first {P : List Pr} {f : Int} (h0 : 0 ≤ f) (hx : ∃ x ∈ P, x.2.1 = f) (hm : ∀ x ∈ P, f ≤ x.2.1) : nextD P 0 = some f := by
  obtain ⟨x, hx, hf⟩ := hx
  cases hn : nextD P 0 with
  | none =>
    have := next_none hn x hx
    omega
  | some g =>
    obtain ⟨n1, ⟨y, hy, hg⟩, n3⟩ := next_some hn
    have := n3 x hx (by omega)
    have := hm y hy
    exact congrArg some (by omega)
theorem wt_two2 (s0 l0 en g e : Int) (b : Bool) : wt (two2 s0 l0 en) b g e = (decide ((if b = true then l0 else s0) ≤ e ∧ e < en) || decide (g < (if b = true then l0 else s0) ∧ (if b = true then l0 else s0) < e)) := by
  cases b <;> simp [wt, two2, isW]
theorem tail_two {s0 l0 en a b c g e : Int} {w0 : Bool} (hp : ∀ g w, g < endOf a b c g w) (K : Nat) (hs : s0 < e) (hl : l0 < e) (ho : (if w0 = true then l0 else s0) = g) (ho2 : g ≤ (if w0 = true then s0 else l0)) :
    ∃ n, (tailA (two2 s0 l0 en) a b c K g e w0).map (·.2) = alt (!w0) n := by
  unfold tailA tailB
  rw [wt_two2, wt_two2, next_two hs hl]
  by_cases q : e < en
  · have h1 : s0 ≤ e := by omega
    have h2 : l0 ≤ e := by omega
    simp only [Bool.false_eq_true, if_false, if_true, h1, h2, q, and_self, decide_true, Bool.true_or]
    obtain ⟨n, hn⟩ := run_alt (s0 := s0) (l0 := l0) (en := en) hp K e true true w0 h1 h2
    exact ⟨n, by rw [hn]; cases w0 <;> rfl⟩
  · have q2 : (e < en) = False := eq_false q
    simp only [Bool.false_eq_true, if_false, if_true, q2, and_false, decide_false, Bool.false_or]
    by_cases z : g < (if w0 = true then s0 else l0)
    · cases w0 with
      | false =>
        simp only [Bool.false_eq_true, if_false] at ho z
        have z2 : ¬ g < s0 := by omega
        have z3 : g < l0 ∧ l0 < e := ⟨z, hl⟩
        rw [decide_eq_true z3, decide_eq_false (fun h : g < s0 ∧ s0 < e => z2 h.1)]
        obtain ⟨n, hn⟩ := run_alt (s0 := s0) (l0 := l0) (en := en) hp K e false true false (by omega) (by omega)
        exact ⟨n, hn⟩
      | true =>
        simp only [if_true] at ho z
        have z2 : ¬ g < l0 := by omega
        have z3 : g < s0 ∧ s0 < e := ⟨z, hs⟩
        rw [decide_eq_true z3, decide_eq_false (fun h : g < l0 ∧ l0 < e => z2 h.1)]
        obtain ⟨n, hn⟩ := run_alt (s0 := s0) (l0 := l0) (en := en) hp K e true false true (by omega) (by omega)
        exact ⟨n, hn⟩
    · refine ⟨0, ?_⟩
      have z2 : ¬ g < s0 := by cases w0 <;> simp at ho ho2 z <;> omega
      have z3 : ¬ g < l0 := by cases w0 <;> simp at ho ho2 z <;> omega
      rw [decide_eq_false (fun h : g < s0 ∧ s0 < e => z2 h.1), decide_eq_false (fun h : g < l0 ∧ l0 < e => z3 h.1)]
      rfl
theorem sent_two {begin behind en a b c : Int} {w0 : Bool} (hp : ∀ g w, g < endOf a b c g w) (hb : 0 ≤ begin) (h0 : 0 ≤ behind) (he : begin + behind < en) (hw : behind = 0 → w0 = false) :
    ∃ t, (sentL (two2 (if w0 = true then begin + behind else begin) (if w0 = true then begin else begin + behind) en) a b c).map (·.2) = w0 :: t ∧ (begin + behind < endOf a b c begin w0 → ∃ n, w0 :: t = alt w0 n) := by
  have hpk : ∀ q : Bool, pick true true q = false := by decide
  cases w0 with
  | false =>
    simp only [Bool.false_eq_true, if_false]
    have hn : nextD (two2 begin (begin + behind) en) 0 = some begin := next_first hb ⟨(false, begin, en), by simp [two2], rfl⟩ fun x hx => by
      simp [two2] at hx
      rcases hx with rfl | rfl <;> simp <;> omega
    have a1 : atD (two2 begin (begin + behind) en) false begin = true := by simp [atD, two2]
    unfold sentL
    rw [hn]
    simp only [a1]
    rw [run_tail, hpk]
    refine ⟨_, rfl, fun h => ?_⟩
    obtain ⟨n, hn⟩ := tail_two (s0 := begin) (l0 := begin + behind) (en := en) (w0 := false) (g := begin) (e := endOf a b c begin false) hp 6999 (by omega) (by omega) rfl (by simp; omega)
    exact ⟨n + 1, by rw [hn]; rfl⟩
  | true =>
    simp only [if_true]
    have hbh : 0 < behind := by
      by_cases q : behind = 0
      · have := hw q; cases this
      · omega
    have hn : nextD (two2 (begin + behind) begin en) 0 = some begin := next_first hb ⟨(true, begin, en), by simp [two2], rfl⟩ fun x hx => by
      simp [two2] at hx
      rcases hx with rfl | rfl <;> simp <;> omega
    have a1 : atD (two2 (begin + behind) begin en) true begin = true := by simp [atD, two2]
    have a2 : atD (two2 (begin + behind) begin en) false begin = false := by simp [atD, two2]; omega
    unfold sentL
    rw [hn]
    simp only [a1, a2]
    rw [run_tail]
    have hpk2 : pick true false true = true := rfl
    rw [hpk2]
    refine ⟨_, rfl, fun h => ?_⟩
    obtain ⟨n, hn⟩ := tail_two (s0 := begin + behind) (l0 := begin) (en := en) (w0 := true) (g := begin) (e := endOf a b c begin true) hp 6999 (by omega) (by omega) rfl (by simp; omega)
    exact ⟨n + 1, by rw [hn]; rfl⟩
/-! the law -/
def tx (w : Bool) : Dt := .str (nm w)
theorem tx_ok (T : List Bool) : okD (.list (T.map tx)) = true := okD_texts fun d hd => by
  obtain ⟨w, _, rfl⟩ := List.mem_map.mp hd
  exact ⟨_, rfl⟩
theorem alt_range : ∀ (n : Nat) (f : Int), alt (decide (f % 2 = 1)) n = (List.range n).map fun (i : Nat) => decide ((f + i) % 2 = 1)
  | 0, _ => rfl
  | n + 1, f => by
    have e : (!decide (f % 2 = 1)) = decide ((f + 1) % 2 = 1) := by
      by_cases h : f % 2 = 1
      · have : ¬ (f + 1) % 2 = 1 := by omega
        simp [h, this]
      · have : (f + 1) % 2 = 1 := by omega
        simp [h, this]
    show decide (f % 2 = 1) :: alt (!decide (f % 2 = 1)) n = _
    rw [e, alt_range n (f + 1), List.range_succ_eq_map, List.map_cons, List.map_map]
    congr 1
    · simp
    · refine List.map_congr_left fun i _ => ?_
      show decide ((f + 1 + (i : Int)) % 2 = 1) = decide ((f + ((i + 1 : Nat) : Int)) % 2 = 1)
      have : f + 1 + (i : Int) = f + ((i + 1 : Nat) : Int) := by omega
      rw [this]
theorem alt_len : ∀ (n : Nat) (w : Bool), (alt w n).length = n
  | 0, _ => rfl
  | n + 1, w => by simp [alt, alt_len n]
theorem atI_map {F : List Int} {i : Nat} {v : Int} (h : F[i]? = some v) {k : Int} (hk : k = (i : Int)) : atI (F.map PyData.int) k = some (.int v) := by
  subst hk
  exact atI_nat (by rw [List.getElem?_map, h]; rfl)
theorem cut_neg {α : Type} (xs : List α) : DL.cutD xs none (some (-2)) = xs.take (xs.length - 2) := by
  unfold DL.cutD
  simp only [HT.sIx, if_pos (show (-2 : Int) < 0 by decide), List.drop_zero, Nat.sub_zero]
  congr 1
  omega
theorem enD_at {ds : List Dt} {n : Nat} {d : Dt} (h : (enD 0 ds)[n]? = some d) : ∃ y, ds[n]? = some y ∧ d = .tuple [.int (n : Int), y] := by
  have hl : n < ds.length := by
    have := (List.getElem?_eq_some_iff.mp h).1
    rwa [enD_len] at this
  have := enD_get ds 0 n ds[n] (List.getElem?_eq_getElem hl)
  rw [this] at h
  cases h
  exact ⟨_, List.getElem?_eq_getElem hl, by simp⟩
theorem whole_ok (t : Int) : m__law_whole [.int t] = .ok (.bool true) := by
  refine okR_eq ?_
  unfold m__law_whole b__law_whole
  have e1 : isIn "int" (.int t) = some (.bool true) := rfl
  have e2 : isIn "bool" (.int t) = some (.bool false) := rfl
  simp only [g_bind, g_ok, g_ofO, g_var, g_peek, g_frz, g_C, g_op, g_opF, g_tOf, g_B, g_BF, g_nil, g_cons, ok_ite, g_tup, g_lst, g_fz, g_call, g_callF, g_callV, g_callF0, g_seq, g_next, g_set, g_setF, g_setV, g_drop, g_ret, g_retF, g_retV, g_retO, g_if, g_append, g_extend, g_to, g_par, g_aug, g_any, g_noP, g_part, g_sl, g_slF, g_isI, g_m1, g_tAnd, g_tOr, g_tNot, g_and, g_or, g_not, g_neg, g_eif, g_tru, g_for, g_comp, g_run, okO_some, slV_va, slP_va, slP_ml, slZ_va, slZ_ml, slM_ml, isB_b, isI_i, isS_s, isL_l, itO_l, itO_t, itO_s, isVl_z, isVl_f, nxF_nx, nxF_rt, nxF_ro, nxF_bk, nxF_ct, endF_nx, endF_rt, endF_ro, okR_ok, okR_fr, okR_er, two_ok, stepF_nx, stepF_ct, stepF_bk, stepF_rt, stepF_ro, List.getElem?_cons_zero, List.getElem?_cons_succ, List.set_cons_zero, List.set_cons_succ, List.length_cons, List.length_nil, List.map_cons, List.map_nil, List.replicate_succ, List.replicate_zero, List.cons_append, List.nil_append, Nat.reduceAdd, Nat.reduceSub, Nat.reduceLeDiff, decide_eq_true_eq, addInt, subInt, ltInt, mulInt, modInt, divInt, powInt, shlInt, shrInt, eqInt, neInt, cmpInt, lenScr, lenLst, lenTup, idxScr, idxLst, idxTup, true_and, tgN, wipeR, g_chain, g_iseq, g_setIx, g_lix, g_m1F, Option.bind_some, e1, e2]
  rfl
theorem in_none (l : List Dt) : inD (.bool false) (.list (l.map fun _ => PyData.bool true)) = some (.bool false) := by
  have ok : okD (.list (l.map fun _ => PyData.bool true)) = true := by
    show (l.map fun _ => PyData.bool true).all (okN 11) = true
    rw [List.all_map, List.all_eq_true]
    intro _ _
    rfl
  have e : ((l.map fun _ => PyData.bool true).any fun z => PyData.eqv z (.bool false)) = false := by
    rw [List.any_map, List.any_eq_false]
    intro _ _
    show ¬ (PyData.eqv (.bool true) (.bool false) = true)
    decide
  unfold inD
  simp only
  rw [if_pos ⟨rfl, ok⟩, e]
theorem go_len0 (a b : Int) (S : List (Int × Bool)) : ((go a b none S).length : Int) = max 0 (2 * (S.length : Int) - 1) := by
  cases S with
  | nil => rfl
  | cons x R =>
    show (((go a b (some (x.1 + lenW a b x.2)) R).length + 1 : Nat) : Int) = _
    rw [go_len, List.length_cons]
    omega
theorem inner_ok {a b c d e : Int} {S : List (Int × Bool)} (hc : chainOk a b c S) {v0 v1 v3 v6 v7 v8 v9 v10 v11 v12 v13 v14 v15 v16 v17 : Sl} {Q : Fl → Rho → Prop} (hS : S.length ≤ 7000)
    (hQ : ∀ v6 v7 v8, Q .nx [v0, v1, .va (fm a b c d e), v3, .va (.list (S.map sD)), .ml ((go a b none S).map .int), v6, v7, v8, v9, v10, v11, v12, v13, v14, v15, v16, v17]) :
    Ok (sLoop (tgX (tsCons (tgN 6) (tsCons (tgT [7, 8]) tsNil))) l_law_1 (enD 0 (S.map sD))) [v0, v1, .va (fm a b c d e), v3, .va (.list (S.map sD)), .ml ((go a b none S).map .int), v6, v7, v8, v9, v10, v11, v12, v13, v14, v15, v16, v17] Q fun x _ => noX x := by
  refine loop_inv (fun n ρ => ∃ v6 v7 v8, ρ = [v0, v1, .va (fm a b c d e), v3, .va (.list (S.map sD)), .ml ((go a b none S).map .int), v6, v7, v8, v9, v10, v11, v12, v13, v14, v15, v16, v17]) ⟨_, _, _, rfl⟩ ?_ ?_
  · rintro n x ρ hx ⟨v6, v7, v8, rfl⟩
    obtain ⟨y, hy, rfl⟩ := enD_at hx
    rw [List.getElem?_map] at hy
    cases hs : S[n]? with
    | none => rw [hs] at hy; cases hy
    | some y' =>
      rw [hs] at hy
      cases hy
      have hn : n < S.length := (List.getElem?_eq_some_iff.mp hs).1
      cases S with
      | nil => simp at hs
      | cons x0 R =>
        obtain ⟨g1, g2, g3⟩ := go_at a b c R x0 n y' hc hs
        generalize hF : go a b none (x0 :: R) = F at g1 g2 g3 ⊢
        have s1 : atI (F.map PyData.int) (2 * (n : Int)) = some (.int (lenW a b y'.2)) := atI_map g1 (by omega)
        have tix : ∀ w : Bool, lixD (.list [PyData.str (Str.ofString "short"), .str (Str.ofString "long")]) (.str (nm w)) = some (.int (if w = true then 1 else 0)) := fun w => by cases w <;> rfl
        have idx : ∀ w : Bool, atI [PyData.int a, .int b, .int c, .int d, .int e] (if w = true then 1 else 0) = some (.int (lenW a b w)) := fun w => by cases w <;> rfl
        have sl : slD (.list (F.map PyData.int)) none (some (2 * (n : Int))) = some (.list ((F.take (2 * n)).map .int)) := by
          rw [sl_lst _ (by omega), ← List.map_take]
          congr 4
        have i2 : atI [PyData.int a, .int b, .int c, .int d, .int e] 2 = some (.int c) := rfl
        have i0 : atI (List.map sD (x0 :: R)) 0 = some (sD x0) := atI_nat (xs := List.map sD (x0 :: R)) (j := 0) rfl
        have i00 : idxD (sD x0) (.int 0) = some (.int x0.1) := rfl
        have hT : ∀ V5, tgX (tsCons (tgN 6) (tsCons (tgT [7, 8]) tsNil)) (.tuple [.int (n : Int), sD y']) [v0, v1, .va (fm a b c d e), v3, .va (.list (List.map sD (x0 :: R))), V5, v6, v7, v8, v9, v10, v11, v12, v13, v14, v15, v16, v17] = some [v0, v1, .va (fm a b c d e), v3, .va (.list (List.map sD (x0 :: R))), V5, .va (.int n), .va (.int y'.1), .va (.str (nm y'.2)), v9, v10, v11, v12, v13, v14, v15, v16, v17] := fun _ => rfl
        have mx : CMulW 2 (n : Int) := cmul (by decide) (by simp at hn hS; omega)
        rw [hT]
        generalize hL : List.map sD (x0 :: R) = L at i0 ⊢
        unfold l_law_1 t_law_a1
        simp only [g_bind, g_ok, g_ofO, g_var, g_peek, g_frz, g_C, g_op, g_opF, g_tOf, g_B, g_BF, g_nil, g_cons, ok_ite, g_tup, g_lst, g_fz, g_call, g_callF, g_callV, g_callF0, g_seq, g_next, g_set, g_setF, g_setV, g_drop, g_ret, g_retF, g_retV, g_retO, g_if, g_append, g_extend, g_to, g_par, g_aug, g_any, g_noP, g_part, g_sl, g_slF, g_isI, g_m1, g_tAnd, g_tOr, g_tNot, g_and, g_or, g_not, g_neg, g_eif, g_tru, g_for, g_comp, g_run, okO_some, slV_va, slP_va, slP_ml, slZ_va, slZ_ml, slM_ml, isB_b, isI_i, isS_s, isL_l, itO_l, itO_t, itO_s, isVl_z, isVl_f, nxF_nx, nxF_rt, nxF_ro, nxF_bk, nxF_ct, endF_nx, endF_rt, endF_ro, okR_ok, okR_fr, okR_er, two_ok, stepF_nx, stepF_ct, stepF_bk, stepF_rt, stepF_ro, List.getElem?_cons_zero, List.getElem?_cons_succ, List.set_cons_zero, List.set_cons_succ, List.length_cons, List.length_nil, List.map_cons, List.map_nil, List.replicate_succ, List.replicate_zero, List.cons_append, List.nil_append, Nat.reduceAdd, Nat.reduceSub, Nat.reduceLeDiff, decide_eq_true_eq, addInt, subInt, ltInt, mulInt, modInt, divInt, powInt, shlInt, shrInt, eqInt, neInt, cmpInt, lenScr, lenLst, lenTup, idxScr, idxLst, idxTup, true_and, tgN, wipeR, g_chain, g_iseq, g_setIx, g_lix, g_m1F, Option.bind_some, s1, tix, idx, sl, sum_ints, g2, i0, i00, i2]
        refine ⟨mx, mx, ?_⟩
        simp only [decide_true, decide_false, Bool.not_true, Bool.not_false, Bool.false_eq_true, if_false, if_true, Bool.true_and, Bool.and_true, Bool.false_and, Bool.and_false, Bool.true_or, Bool.false_or, Bool.or_true, Bool.or_false, eq_self, true_and, and_true, bne_self_eq_false, Bool.true_eq_false]
        by_cases h0 : 0 < n
        · obtain ⟨r, r1, r2⟩ := g3 h0
          have s2 : atI (List.map PyData.int F) (2 * (n : Int) - 1) = some (.int r) := atI_map r1 (by omega)
          rw [if_pos (by omega), s2]
          simp only [g_bind, g_ok, g_ofO, g_var, g_peek, g_frz, g_C, g_op, g_opF, g_tOf, g_B, g_BF, g_nil, g_cons, ok_ite, g_tup, g_lst, g_fz, g_call, g_callF, g_callV, g_callF0, g_seq, g_next, g_set, g_setF, g_setV, g_drop, g_ret, g_retF, g_retV, g_retO, g_if, g_append, g_extend, g_to, g_par, g_aug, g_any, g_noP, g_part, g_sl, g_slF, g_isI, g_m1, g_tAnd, g_tOr, g_tNot, g_and, g_or, g_not, g_neg, g_eif, g_tru, g_for, g_comp, g_run, okO_some, slV_va, slP_va, slP_ml, slZ_va, slZ_ml, slM_ml, isB_b, isI_i, isS_s, isL_l, itO_l, itO_t, itO_s, isVl_z, isVl_f, nxF_nx, nxF_rt, nxF_ro, nxF_bk, nxF_ct, endF_nx, endF_rt, endF_ro, okR_ok, okR_fr, okR_er, two_ok, stepF_nx, stepF_ct, stepF_bk, stepF_rt, stepF_ro, List.getElem?_cons_zero, List.getElem?_cons_succ, List.set_cons_zero, List.set_cons_succ, List.length_cons, List.length_nil, List.map_cons, List.map_nil, List.replicate_succ, List.replicate_zero, List.cons_append, List.nil_append, Nat.reduceAdd, Nat.reduceSub, Nat.reduceLeDiff, decide_eq_true_eq, addInt, subInt, ltInt, mulInt, modInt, divInt, powInt, shlInt, shrInt, eqInt, neInt, cmpInt, lenScr, lenLst, lenTup, idxScr, idxLst, idxTup, true_and, tgN, wipeR, g_chain, g_iseq, g_setIx, g_lix, g_m1F, Option.bind_some]
          refine ⟨mx, ?_⟩
          rw [if_neg (by omega)]
          exact ⟨_, _, _, rfl⟩
        · rw [if_neg (by omega)]
          exact ⟨_, _, _, rfl⟩
  · rintro ρ ⟨v6, v7, v8, rfl⟩
    exact hQ _ _ _
theorem told_comp {S : List (Int × Bool)} {T : Dt → Rho → Option Rho} {e : Mo Dt} {ρ : Rho} (h : ∀ x ∈ S, okO (T (sD x) ρ) fun ρ1 => Ok e ρ1 (fun y _ => y = tx x.2) noE) : cL T tYesM e ρ (S.map sD) = some ((S.map (·.2)).map tx) := by
  rw [cL_map (f := fun d => match d with | .tuple [_, y] => y | d => d)]
  · rw [List.map_map, List.map_map]; rfl
  · intro d hd
    obtain ⟨x, hx, rfl⟩ := List.mem_map.mp hd
    have := h x hx
    unfold okO at this ⊢
    cases hT : T (sD x) ρ with
    | none => rw [hT] at this; exact this
    | some ρ1 => rw [hT] at this; exact ⟨rfl, this⟩
theorem rgD0 (n : Nat) : rgD 0 n = (List.range n).map fun (i : Nat) => PyData.int (i : Int) := by
  unfold rgD
  refine List.map_congr_left fun i _ => ?_
  simp
theorem law_tail {w0 : Bool} {t : List Bool} {f1 behind a b c d e : Int} {v0 v1 v3 v4 v5 v6 v7 v8 v9 v12 v13 v15 v16 v17 : Sl} {QS : Fl → Rho → Prop} {E : Ex → Rho → Prop} (hf1 : f1 = 0 ∨ f1 = 1) (hwf : w0 = decide (f1 % 2 = 1)) (hz : t.length + 1 ≤ 7000) (hc : c ≤ 100)
    (hal : behind < (if f1 = 0 then a else b) + c → ∃ m, w0 :: t = alt w0 m)
    (hQ : ∀ v15, QS .nx [v0, v1, .va (fm a b c d e), v3, v4, v5, v6, v7, v8, v9, .va (.int f1), .va (.int behind), v12, v13, .va (.list ((w0 :: t).map tx)), v15, v16, v17]) :
    Done t_law_b13 [v0, v1, .va (fm a b c d e), v3, v4, v5, v6, v7, v8, v9, .va (.int f1), .va (.int behind), v12, v13, .va (.list ((w0 :: t).map tx)), v15, v16, v17] QS E := by
  refine ⟨?_⟩
  have hlt : ((w0 :: t).map tx).length = t.length + 1 := by simp
  have hok := tx_ok (w0 :: t)
  have hok2 := tx_ok ((w0 :: t).take 2)
  have hok1 := tx_ok ((w0 :: t).take 1)
  have hok3 := tx_ok ((w0 :: t).take (t.length + 1 - 2))
  have h1 : (w0 :: t).take 1 = (alt w0 (t.length + 1)).take 1 := by simp [alt]
  have hfull : behind < (if f1 = 0 then a else b) + c → w0 :: t = alt w0 (t.length + 1) := fun h => by
    obtain ⟨m, hm⟩ := hal h
    have := congrArg List.length hm
    rw [alt_len] at this
    rw [hm, ← this]
    rfl
  generalize hT : (w0 :: t) = T at *
  generalize hTD : T.map tx = TD at *
  have er2 : rg1D [.int ((t.length + 1 : Nat) : Int)] = some (rgD 0 (t.length + 1)) := rg1N _ (by omega)
  unfold t_law_b13
  simp only [g_bind, g_ok, g_ofO, g_var, g_peek, g_frz, g_C, g_op, g_opF, g_tOf, g_B, g_BF, g_nil, g_cons, ok_ite, g_tup, g_lst, g_fz, g_call, g_callF, g_callV, g_callF0, g_seq, g_next, g_set, g_setF, g_setV, g_drop, g_ret, g_retF, g_retV, g_retO, g_if, g_append, g_extend, g_to, g_par, g_aug, g_any, g_noP, g_part, g_sl, g_slF, g_isI, g_m1, g_tAnd, g_tOr, g_tNot, g_and, g_or, g_not, g_neg, g_eif, g_tru, g_for, g_comp, g_run, okO_some, slV_va, slP_va, slP_ml, slZ_va, slZ_ml, slM_ml, isB_b, isI_i, isS_s, isL_l, itO_l, itO_t, itO_s, isVl_z, isVl_f, nxF_nx, nxF_rt, nxF_ro, nxF_bk, nxF_ct, endF_nx, endF_rt, endF_ro, okR_ok, okR_fr, okR_er, two_ok, stepF_nx, stepF_ct, stepF_bk, stepF_rt, stepF_ro, List.getElem?_cons_zero, List.getElem?_cons_succ, List.set_cons_zero, List.set_cons_succ, List.length_cons, List.length_nil, List.map_cons, List.map_nil, List.replicate_succ, List.replicate_zero, List.cons_append, List.nil_append, Nat.reduceAdd, Nat.reduceSub, Nat.reduceLeDiff, decide_eq_true_eq, addInt, subInt, ltInt, mulInt, modInt, divInt, powInt, shlInt, shrInt, eqInt, neInt, cmpInt, lenScr, lenLst, lenTup, idxScr, idxLst, idxTup, true_and, tgN, wipeR, g_chain, g_iseq, g_setIx, g_lix, g_m1F, Option.bind_some, hlt, er2]
  rw [cL_map (f := fun d => match d with | .int i => tx (decide ((f1 + i) % 2 = 1)) | d => d)]
  rotate_left
  · intro d hd
    rw [rgD0] at hd
    obtain ⟨i, _, rfl⟩ := List.mem_map.mp hd
    have e5 : atI [PyData.str (Str.ofString "short"), .str (Str.ofString "long")] ((f1 + (i : Int)) % 2) = some (tx (decide ((f1 + (i : Int)) % 2 = 1))) := by
      have : (f1 + (i : Int)) % 2 = 0 ∨ (f1 + (i : Int)) % 2 = 1 := by omega
      rcases this with h | h <;> rw [h] <;> rfl
    simp only [g_bind, g_ok, g_ofO, g_var, g_peek, g_frz, g_C, g_op, g_opF, g_tOf, g_B, g_BF, g_nil, g_cons, ok_ite, g_tup, g_lst, g_fz, g_call, g_callF, g_callV, g_callF0, g_seq, g_next, g_set, g_setF, g_setV, g_drop, g_ret, g_retF, g_retV, g_retO, g_if, g_append, g_extend, g_to, g_par, g_aug, g_any, g_noP, g_part, g_sl, g_slF, g_isI, g_m1, g_tAnd, g_tOr, g_tNot, g_and, g_or, g_not, g_neg, g_eif, g_tru, g_for, g_comp, g_run, okO_some, slV_va, slP_va, slP_ml, slZ_va, slZ_ml, slM_ml, isB_b, isI_i, isS_s, isL_l, itO_l, itO_t, itO_s, isVl_z, isVl_f, nxF_nx, nxF_rt, nxF_ro, nxF_bk, nxF_ct, endF_nx, endF_rt, endF_ro, okR_ok, okR_fr, okR_er, two_ok, stepF_nx, stepF_ct, stepF_bk, stepF_rt, stepF_ro, List.getElem?_cons_zero, List.getElem?_cons_succ, List.set_cons_zero, List.set_cons_succ, List.length_cons, List.length_nil, List.map_cons, List.map_nil, List.replicate_succ, List.replicate_zero, List.cons_append, List.nil_append, Nat.reduceAdd, Nat.reduceSub, Nat.reduceLeDiff, decide_eq_true_eq, addInt, subInt, ltInt, mulInt, modInt, divInt, powInt, shlInt, shrInt, eqInt, neInt, cmpInt, lenScr, lenLst, lenTup, idxScr, idxLst, idxTup, true_and, tgN, wipeR, g_chain, g_iseq, g_setIx, g_lix, g_m1F, Option.bind_some, e5]
    trivial
  have ed : (rgD 0 (t.length + 1)).map (fun d => match d with | .int i => tx (decide ((f1 + i) % 2 = 1)) | d => d) = (alt w0 (t.length + 1)).map tx := by
    rw [rgD0, hwf, alt_range, List.map_map, List.map_map]
    rfl
  rw [ed]
  have hal3 := alt_len (t.length + 1) w0
  have hQ2 := hQ (.va (.list ((alt w0 (t.length + 1)).map tx)))
  generalize alt w0 (t.length + 1) = A at *
  have fi : atI [PyData.int a, .int b, .int c, .int d, .int e] f1 = some (.int (if f1 = 0 then a else b)) := by
    rcases hf1 with rfl | rfl <;> rfl
  have ic : atI [PyData.int a, .int b, .int c, .int d, .int e] 2 = some (.int c) := rfl
  generalize (if f1 = 0 then a else b) = fa at *
  have c2 : slD (.list TD) none (some 2) = some (.list ((T.take 2).map tx)) := by rw [sl_lst _ (by decide), ← hTD, List.map_take]; rfl
  have c1 : slD (.list TD) none (some 1) = some (.list ((T.take 1).map tx)) := by rw [sl_lst _ (by decide), ← hTD, List.map_take]; rfl
  have cA2 : slD (.list (A.map tx)) none (some 2) = some (.list ((A.take 2).map tx)) := by rw [sl_lst _ (by decide), List.map_take]; rfl
  have cA1 : slD (.list (A.map tx)) none (some 1) = some (.list ((A.take 1).map tx)) := by rw [sl_lst _ (by decide), List.map_take]; rfl
  have c3 : slD (.list TD) none (some (-2)) = some (.list ((T.take (t.length + 1 - 2)).map tx)) := by
    show some (PyData.list (DL.cutD TD none (some (-2)))) = _
    rw [cut_neg, hlt, ← hTD, List.map_take]
  have l3 : ((T.take (t.length + 1 - 2)).map tx).length = t.length + 1 - 2 := by
    have : T.length = t.length + 1 := by rw [← hT]; rfl
    rw [List.length_map, List.length_take, this]
    omega
  have cA3 : slD (.list (A.map tx)) none (some ((t.length + 1 - 2 : Nat) : Int)) = some (.list ((A.take (t.length + 1 - 2)).map tx)) := by rw [sl_lst _ (by omega), List.map_take]; rfl
  have rl : (rgD 0 (t.length + 1)).length ≤ sizeLine := by rw [rgD_len]; unfold sizeLine; omega
  simp only [okO_some]
  refine ⟨rl, ?_⟩
  unfold t_law_b14
  simp only [g_bind, g_ok, g_ofO, g_var, g_peek, g_frz, g_C, g_op, g_opF, g_tOf, g_B, g_BF, g_nil, g_cons, ok_ite, g_tup, g_lst, g_fz, g_call, g_callF, g_callV, g_callF0, g_seq, g_next, g_set, g_setF, g_setV, g_drop, g_ret, g_retF, g_retV, g_retO, g_if, g_append, g_extend, g_to, g_par, g_aug, g_any, g_noP, g_part, g_sl, g_slF, g_isI, g_m1, g_tAnd, g_tOr, g_tNot, g_and, g_or, g_not, g_neg, g_eif, g_tru, g_for, g_comp, g_run, okO_some, slV_va, slP_va, slP_ml, slZ_va, slZ_ml, slM_ml, isB_b, isI_i, isS_s, isL_l, itO_l, itO_t, itO_s, isVl_z, isVl_f, nxF_nx, nxF_rt, nxF_ro, nxF_bk, nxF_ct, endF_nx, endF_rt, endF_ro, okR_ok, okR_fr, okR_er, two_ok, stepF_nx, stepF_ct, stepF_bk, stepF_rt, stepF_ro, List.getElem?_cons_zero, List.getElem?_cons_succ, List.set_cons_zero, List.set_cons_succ, List.length_cons, List.length_nil, List.map_cons, List.map_nil, List.replicate_succ, List.replicate_zero, List.cons_append, List.nil_append, Nat.reduceAdd, Nat.reduceSub, Nat.reduceLeDiff, decide_eq_true_eq, addInt, subInt, ltInt, mulInt, modInt, divInt, powInt, shlInt, shrInt, eqInt, neInt, cmpInt, lenScr, lenLst, lenTup, idxScr, idxLst, idxTup, true_and, tgN, wipeR, g_chain, g_iseq, g_setIx, g_lix, g_m1F, Option.bind_some, hlt, fi, ic, c1, c2, cA1, cA2, ne_same hok1, ← h1]
  have b15 : Ok t_law_b15 [v0, v1, .va (fm a b c d e), v3, v4, v5, v6, v7, v8, v9, .va (.int f1), .va (.int behind), v12, v13, .va (.list TD), .va (.list (A.map tx)), v16, v17] QS E := by
    unfold t_law_b15
    simp only [g_bind, g_ok, g_ofO, g_var, g_peek, g_frz, g_C, g_op, g_opF, g_tOf, g_B, g_BF, g_nil, g_cons, ok_ite, g_tup, g_lst, g_fz, g_call, g_callF, g_callV, g_callF0, g_seq, g_next, g_set, g_setF, g_setV, g_drop, g_ret, g_retF, g_retV, g_retO, g_if, g_append, g_extend, g_to, g_par, g_aug, g_any, g_noP, g_part, g_sl, g_slF, g_isI, g_m1, g_tAnd, g_tOr, g_tNot, g_and, g_or, g_not, g_neg, g_eif, g_tru, g_for, g_comp, g_run, okO_some, slV_va, slP_va, slP_ml, slZ_va, slZ_ml, slM_ml, isB_b, isI_i, isS_s, isL_l, itO_l, itO_t, itO_s, isVl_z, isVl_f, nxF_nx, nxF_rt, nxF_ro, nxF_bk, nxF_ct, endF_nx, endF_rt, endF_ro, okR_ok, okR_fr, okR_er, two_ok, stepF_nx, stepF_ct, stepF_bk, stepF_rt, stepF_ro, List.getElem?_cons_zero, List.getElem?_cons_succ, List.set_cons_zero, List.set_cons_succ, List.length_cons, List.length_nil, List.map_cons, List.map_nil, List.replicate_succ, List.replicate_zero, List.cons_append, List.nil_append, Nat.reduceAdd, Nat.reduceSub, Nat.reduceLeDiff, decide_eq_true_eq, addInt, subInt, ltInt, mulInt, modInt, divInt, powInt, shlInt, shrInt, eqInt, neInt, cmpInt, lenScr, lenLst, lenTup, idxScr, idxLst, idxTup, true_and, tgN, wipeR, g_chain, g_iseq, g_setIx, g_lix, g_m1F, Option.bind_some, fi, ic, c3, l3, cA3]
    by_cases hh : behind < fa + c
    · have hTA := hfull hh
      rw [← hTA] at hQ2
      rw [if_pos hh, ← hTA, ne_same hok3]
      simp only [okO_some, isB_b, Bool.false_eq_true, if_false]
      exact hQ2
    · rw [if_neg hh]
      exact hQ2
  have e1 : neD (.list ((T.take 1).map tx)) (.list ((A.take 1).map tx)) = some (.bool false) := by rw [← h1]; exact ne_same hok1
  by_cases hh : behind < fa + c
  · have hTA := hfull hh
    rw [← hTA]
    simp only [ne_same hok2, okO_some, isB_b, Bool.false_eq_true, if_false, ite_self]
    rw [← hTA] at b15
    exact b15
  · simp only [eq_false hh, if_false, Bool.false_eq_true, ite_self]
    exact b15
theorem law_true (ns : List Int) (h : ns.length ≤ 63) : m_law [scr ns] = .ok (.bool true) := by
  refine okR_eq ?_
  unfold m_law b_law
  have er : rg1D [.int 2] = some [.int 0, .int 1] := rfl
  simp only [g_bind, g_ok, g_ofO, g_var, g_peek, g_frz, g_C, g_op, g_opF, g_tOf, g_B, g_BF, g_nil, g_cons, ok_ite, g_tup, g_lst, g_fz, g_call, g_callF, g_callV, g_callF0, g_seq, g_next, g_set, g_setF, g_setV, g_drop, g_ret, g_retF, g_retV, g_retO, g_if, g_append, g_extend, g_to, g_par, g_aug, g_any, g_noP, g_part, g_sl, g_slF, g_isI, g_m1, g_tAnd, g_tOr, g_tNot, g_and, g_or, g_not, g_neg, g_eif, g_tru, g_for, g_comp, g_run, okO_some, slV_va, slP_va, slP_ml, slZ_va, slZ_ml, slM_ml, isB_b, isI_i, isS_s, isL_l, itO_l, itO_t, itO_s, isVl_z, isVl_f, nxF_nx, nxF_rt, nxF_ro, nxF_bk, nxF_ct, endF_nx, endF_rt, endF_ro, okR_ok, okR_fr, okR_er, two_ok, stepF_nx, stepF_ct, stepF_bk, stepF_rt, stepF_ro, List.getElem?_cons_zero, List.getElem?_cons_succ, List.set_cons_zero, List.set_cons_succ, List.length_cons, List.length_nil, List.map_cons, List.map_nil, List.replicate_succ, List.replicate_zero, List.cons_append, List.nil_append, Nat.reduceAdd, Nat.reduceSub, Nat.reduceLeDiff, decide_eq_true_eq, addInt, subInt, ltInt, mulInt, modInt, divInt, powInt, shlInt, shrInt, eqInt, neInt, cmpInt, lenScr, lenLst, lenTup, idxScr, idxLst, idxTup, true_and, tgN, wipeR, g_chain, g_iseq, g_setIx, g_lix, g_m1F, Option.bind_some, er]
  refine loop_inv (fun n ρ => n ≤ 2 ∧ ∃ v1 v2 v3 v4 v5 v6 v7 v8 v9 v10 v11 v12 v13 v14 v15 v16 v17, ρ = [.va (scr ns), v1, v2, v3, v4, v5, v6, v7, v8, v9, v10, v11, v12, v13, v14, v15, v16, v17]) ⟨by decide, _, _, _, _, _, _, _, _, _, _, _, _, _, _, _, _, _, rfl⟩ ?_ ?_
  · rintro n x ρ hn ⟨_, v1, v2, v3, v4, v5, v6, v7, v8, v9, v10, v11, v12, v13, v14, v15, v16, v17, rfl⟩
    obtain ⟨hn2, rfl⟩ : n < 2 ∧ x = .int n := by
      match n, hn with
      | 0, hn => cases hn; exact ⟨by decide, rfl⟩
      | 1, hn => cases hn; exact ⟨by decide, rfl⟩
      | n + 2, hn => simp at hn
    obtain ⟨a, b, c, d, e, ef, f⟩ := form_ok ns (3 * n) (by omega) (by omega)
    obtain ⟨P, eP, hP⟩ := presses_ok ns (3 * n + 1) (by omega) (by omega)
    obtain ⟨L, eL, hl, hx⟩ := draws_ok ns (3 * n + 2) 4 27720 (by omega) (by omega) (by decide) (by decide) (by decide) (by decide)
    obtain ⟨p0, g0, i0, j0⟩ := draw_at hx 0 (by rw [hl]; decide)
    obtain ⟨p1, g1, i1, j1⟩ := draw_at hx 1 (by rw [hl]; decide)
    obtain ⟨p2, g2, i2, j2⟩ := draw_at hx 2 (by rw [hl]; decide)
    obtain ⟨p3, g3, i3, j3⟩ := draw_at hx 3 (by rw [hl]; decide)
    simp only [Int.cast_ofNat_Int] at g0 g1 g2 g3
    have l1 : listD [psD P] = some (P.map pD) := rfl
    have hsl := sentL_len P a b c
    have hch := sentL_chain P a b c
    unfold l_law_2 t_law_b1 t_law_b2 t_law_b3
    simp only [g_bind, g_ok, g_ofO, g_var, g_peek, g_frz, g_C, g_op, g_opF, g_tOf, g_B, g_BF, g_nil, g_cons, ok_ite, g_tup, g_lst, g_fz, g_call, g_callF, g_callV, g_callF0, g_seq, g_next, g_set, g_setF, g_setV, g_drop, g_ret, g_retF, g_retV, g_retO, g_if, g_append, g_extend, g_to, g_par, g_aug, g_any, g_noP, g_part, g_sl, g_slF, g_isI, g_m1, g_tAnd, g_tOr, g_tNot, g_and, g_or, g_not, g_neg, g_eif, g_tru, g_for, g_comp, g_run, okO_some, slV_va, slP_va, slP_ml, slZ_va, slZ_ml, slM_ml, isB_b, isI_i, isS_s, isL_l, itO_l, itO_t, itO_s, isVl_z, isVl_f, nxF_nx, nxF_rt, nxF_ro, nxF_bk, nxF_ct, endF_nx, endF_rt, endF_ro, okR_ok, okR_fr, okR_er, two_ok, stepF_nx, stepF_ct, stepF_bk, stepF_rt, stepF_ro, List.getElem?_cons_zero, List.getElem?_cons_succ, List.set_cons_zero, List.set_cons_succ, List.length_cons, List.length_nil, List.map_cons, List.map_nil, List.replicate_succ, List.replicate_zero, List.cons_append, List.nil_append, Nat.reduceAdd, Nat.reduceSub, Nat.reduceLeDiff, decide_eq_true_eq, addInt, subInt, ltInt, mulInt, modInt, divInt, powInt, shlInt, shrInt, eqInt, neInt, cmpInt, lenScr, lenLst, lenTup, idxScr, idxLst, idxTup, true_and, tgN, wipeR, g_chain, g_iseq, g_setIx, g_lix, g_m1F, Option.bind_some, ef, eP, l1, sent_ok hP f, stretches_ok hP f, eL, g0, g1, g2, g3]
    generalize sentL P a b c = S at hsl hch ⊢
    refine ⟨by apply cmul <;> omega, by apply cmul <;> omega, ?_⟩
    unfold t_law_b4
    have gl := go_len0 a b S
    have mxx : maxD [.int 0, .int (2 * (S.length : Int) - 1)] = some (.int (max 0 (2 * (S.length : Int) - 1))) := by
      show some (PyData.int _) = some (PyData.int _)
      congr 2
      rw [Int.max_def]
      split <;> split <;> omega
    have en : en1D [.list (S.map sD)] = some (enD 0 (S.map sD)) := rfl
    have hG : (go a b none S).length ≤ 20000 := by omega
    have hG2 : (go a b none S).length ≤ sizeLine := by unfold sizeLine; omega
    have hG3 : (go a b none S).length < sizeLine := by unfold sizeLine; omega
    simp only [g_bind, g_ok, g_ofO, g_var, g_peek, g_frz, g_C, g_op, g_opF, g_tOf, g_B, g_BF, g_nil, g_cons, ok_ite, g_tup, g_lst, g_fz, g_call, g_callF, g_callV, g_callF0, g_seq, g_next, g_set, g_setF, g_setV, g_drop, g_ret, g_retF, g_retV, g_retO, g_if, g_append, g_extend, g_to, g_par, g_aug, g_any, g_noP, g_part, g_sl, g_slF, g_isI, g_m1, g_tAnd, g_tOr, g_tNot, g_and, g_or, g_not, g_neg, g_eif, g_tru, g_for, g_comp, g_run, okO_some, slV_va, slP_va, slP_ml, slZ_va, slZ_ml, slM_ml, isB_b, isI_i, isS_s, isL_l, itO_l, itO_t, itO_s, isVl_z, isVl_f, nxF_nx, nxF_rt, nxF_ro, nxF_bk, nxF_ct, endF_nx, endF_rt, endF_ro, okR_ok, okR_fr, okR_er, two_ok, stepF_nx, stepF_ct, stepF_bk, stepF_rt, stepF_ro, List.getElem?_cons_zero, List.getElem?_cons_succ, List.set_cons_zero, List.set_cons_succ, List.length_cons, List.length_nil, List.map_cons, List.map_nil, List.replicate_succ, List.replicate_zero, List.cons_append, List.nil_append, Nat.reduceAdd, Nat.reduceSub, Nat.reduceLeDiff, decide_eq_true_eq, addInt, subInt, ltInt, mulInt, modInt, divInt, powInt, shlInt, shrInt, eqInt, neInt, cmpInt, lenScr, lenLst, lenTup, idxScr, idxLst, idxTup, true_and, tgN, wipeR, g_chain, g_iseq, g_setIx, g_lix, g_m1F, Option.bind_some, List.length_map, mxx, gl]
    refine ⟨cmul (by decide) (by omega), ?_⟩
    rw [cL_map (f := fun _ => PyData.bool true)]
    rotate_left
    · intro d hd
      obtain ⟨x, _, rfl⟩ := List.mem_map.mp hd
      simp only [g_bind, g_ok, g_ofO, g_var, g_peek, g_frz, g_C, g_op, g_opF, g_tOf, g_B, g_BF, g_nil, g_cons, ok_ite, g_tup, g_lst, g_fz, g_call, g_callF, g_callV, g_callF0, g_seq, g_next, g_set, g_setF, g_setV, g_drop, g_ret, g_retF, g_retV, g_retO, g_if, g_append, g_extend, g_to, g_par, g_aug, g_any, g_noP, g_part, g_sl, g_slF, g_isI, g_m1, g_tAnd, g_tOr, g_tNot, g_and, g_or, g_not, g_neg, g_eif, g_tru, g_for, g_comp, g_run, okO_some, slV_va, slP_va, slP_ml, slZ_va, slZ_ml, slM_ml, isB_b, isI_i, isS_s, isL_l, itO_l, itO_t, itO_s, isVl_z, isVl_f, nxF_nx, nxF_rt, nxF_ro, nxF_bk, nxF_ct, endF_nx, endF_rt, endF_ro, okR_ok, okR_fr, okR_er, two_ok, stepF_nx, stepF_ct, stepF_bk, stepF_rt, stepF_ro, List.getElem?_cons_zero, List.getElem?_cons_succ, List.set_cons_zero, List.set_cons_succ, List.length_cons, List.length_nil, List.map_cons, List.map_nil, List.replicate_succ, List.replicate_zero, List.cons_append, List.nil_append, Nat.reduceAdd, Nat.reduceSub, Nat.reduceLeDiff, decide_eq_true_eq, addInt, subInt, ltInt, mulInt, modInt, divInt, powInt, shlInt, shrInt, eqInt, neInt, cmpInt, lenScr, lenLst, lenTup, idxScr, idxLst, idxTup, true_and, tgN, wipeR, g_chain, g_iseq, g_setIx, g_lix, g_m1F, Option.bind_some, whole_ok]
    simp only [decide_true, decide_false, Bool.not_true, Bool.not_false, Bool.false_eq_true, if_false, if_true, Bool.true_and, Bool.and_true, Bool.false_and, Bool.and_false, Bool.true_or, Bool.false_or, Bool.or_true, Bool.or_false, eq_self, true_and, and_true, bne_self_eq_false, Bool.true_eq_false, okO_some, in_none, isB_b]
    refine ⟨hG2, ?_⟩
    unfold t_law_b5
    simp only [g_bind, g_ok, g_ofO, g_var, g_peek, g_frz, g_C, g_op, g_opF, g_tOf, g_B, g_BF, g_nil, g_cons, ok_ite, g_tup, g_lst, g_fz, g_call, g_callF, g_callV, g_callF0, g_seq, g_next, g_set, g_setF, g_setV, g_drop, g_ret, g_retF, g_retV, g_retO, g_if, g_append, g_extend, g_to, g_par, g_aug, g_any, g_noP, g_part, g_sl, g_slF, g_isI, g_m1, g_tAnd, g_tOr, g_tNot, g_and, g_or, g_not, g_neg, g_eif, g_tru, g_for, g_comp, g_run, okO_some, slV_va, slP_va, slP_ml, slZ_va, slZ_ml, slM_ml, isB_b, isI_i, isS_s, isL_l, itO_l, itO_t, itO_s, isVl_z, isVl_f, nxF_nx, nxF_rt, nxF_ro, nxF_bk, nxF_ct, endF_nx, endF_rt, endF_ro, okR_ok, okR_fr, okR_er, two_ok, stepF_nx, stepF_ct, stepF_bk, stepF_rt, stepF_ro, List.getElem?_cons_zero, List.getElem?_cons_succ, List.set_cons_zero, List.set_cons_succ, List.length_cons, List.length_nil, List.map_cons, List.map_nil, List.replicate_succ, List.replicate_zero, List.cons_append, List.nil_append, Nat.reduceAdd, Nat.reduceSub, Nat.reduceLeDiff, decide_eq_true_eq, addInt, subInt, ltInt, mulInt, modInt, divInt, powInt, shlInt, shrInt, eqInt, neInt, cmpInt, lenScr, lenLst, lenTup, idxScr, idxLst, idxTup, true_and, tgN, wipeR, g_chain, g_iseq, g_setIx, g_lix, g_m1F, Option.bind_some, en]
    refine inner_ok hch hsl fun v6 v7 v8 => ?_
    simp only [g_bind, g_ok, g_ofO, g_var, g_peek, g_frz, g_C, g_op, g_opF, g_tOf, g_B, g_BF, g_nil, g_cons, ok_ite, g_tup, g_lst, g_fz, g_call, g_callF, g_callV, g_callF0, g_seq, g_next, g_set, g_setF, g_setV, g_drop, g_ret, g_retF, g_retV, g_retO, g_if, g_append, g_extend, g_to, g_par, g_aug, g_any, g_noP, g_part, g_sl, g_slF, g_isI, g_m1, g_tAnd, g_tOr, g_tNot, g_and, g_or, g_not, g_neg, g_eif, g_tru, g_for, g_comp, g_run, okO_some, slV_va, slP_va, slP_ml, slZ_va, slZ_ml, slM_ml, isB_b, isI_i, isS_s, isL_l, itO_l, itO_t, itO_s, isVl_z, isVl_f, nxF_nx, nxF_rt, nxF_ro, nxF_bk, nxF_ct, endF_nx, endF_rt, endF_ro, okR_ok, okR_fr, okR_er, two_ok, stepF_nx, stepF_ct, stepF_bk, stepF_rt, stepF_ro, List.getElem?_cons_zero, List.getElem?_cons_succ, List.set_cons_zero, List.set_cons_succ, List.length_cons, List.length_nil, List.map_cons, List.map_nil, List.replicate_succ, List.replicate_zero, List.cons_append, List.nil_append, Nat.reduceAdd, Nat.reduceSub, Nat.reduceLeDiff, decide_eq_true_eq, addInt, subInt, ltInt, mulInt, modInt, divInt, powInt, shlInt, shrInt, eqInt, neInt, cmpInt, lenScr, lenLst, lenTup, idxScr, idxLst, idxTup, true_and, tgN, wipeR, g_chain, g_iseq, g_setIx, g_lix, g_m1F, Option.bind_some]
    unfold t_law_b6 t_law_b7 t_law_b8 t_law_b9
    simp only [g_bind, g_ok, g_ofO, g_var, g_peek, g_frz, g_C, g_op, g_opF, g_tOf, g_B, g_BF, g_nil, g_cons, ok_ite, g_tup, g_lst, g_fz, g_call, g_callF, g_callV, g_callF0, g_seq, g_next, g_set, g_setF, g_setV, g_drop, g_ret, g_retF, g_retV, g_retO, g_if, g_append, g_extend, g_to, g_par, g_aug, g_any, g_noP, g_part, g_sl, g_slF, g_isI, g_m1, g_tAnd, g_tOr, g_tNot, g_and, g_or, g_not, g_neg, g_eif, g_tru, g_for, g_comp, g_run, okO_some, slV_va, slP_va, slP_ml, slZ_va, slZ_ml, slM_ml, isB_b, isI_i, isS_s, isL_l, itO_l, itO_t, itO_s, isVl_z, isVl_f, nxF_nx, nxF_rt, nxF_ro, nxF_bk, nxF_ct, endF_nx, endF_rt, endF_ro, okR_ok, okR_fr, okR_er, two_ok, stepF_nx, stepF_ct, stepF_bk, stepF_rt, stepF_ro, List.getElem?_cons_zero, List.getElem?_cons_succ, List.set_cons_zero, List.set_cons_succ, List.length_cons, List.length_nil, List.map_cons, List.map_nil, List.replicate_succ, List.replicate_zero, List.cons_append, List.nil_append, Nat.reduceAdd, Nat.reduceSub, Nat.reduceLeDiff, decide_eq_true_eq, addInt, subInt, ltInt, mulInt, modInt, divInt, powInt, shlInt, shrInt, eqInt, neInt, cmpInt, lenScr, lenLst, lenTup, idxScr, idxLst, idxTup, true_and, tgN, wipeR, g_chain, g_iseq, g_setIx, g_lix, g_m1F, Option.bind_some, List.length_map, eL, g0, g1, g2, g3, tgT, tgL]
    refine ⟨hG3, cmul (by decide) (by omega), by decide, by decide, by decide, by decide, by decide, ?_⟩
    have q0 : p0 % 2 = 0 ∨ p0 % 2 = 1 := by omega
    have q1 : 0 ≤ p1 % 4 ∧ p1 % 4 < 4 := by omega
    have q2 : 0 ≤ p2 % 50 ∧ p2 % 50 < 50 := by omega
    have q3 : 0 ≤ p3 % 900 ∧ p3 % 900 < 900 := by omega
    generalize p0 % 2 = fi at q0 ⊢
    generalize p1 % 4 = behind at q1 ⊢
    generalize p2 % 50 = begin at q2 ⊢
    generalize hen : begin + 5 + p3 % 900 = en
    generalize List.map PyData.int (go a b none S) ++ [PyData.int 7] = G7
    -- which one comes first
    have hw0 : ∃ w0 : Bool, (w0 = true ↔ (fi = 1 ∧ behind ≠ 0)) := ⟨decide (fi = 1 ∧ behind ≠ 0), by simp⟩
    obtain ⟨w0, hw0⟩ := hw0
    have hwb : behind = 0 → w0 = false := fun z => by
      cases w0 with
      | false => rfl
      | true => exact absurd z (hw0.mp rfl).2
    have hp : ∀ g w, g < endOf a b c g w := fun g w => by
      have := f.a1; have := f.b1; have := f.c1
      unfold endOf
      cases w <;> simp <;> omega
    obtain ⟨t, ht, hal⟩ := sent_two (a := a) (b := b) (c := c) (begin := begin) (behind := behind) (en := en) hp (by omega) (by omega) (by omega) hwb
    have m1 : CMulW behind fi := cmul (by omega) (by omega)
    have m2 : CMulW behind (1 - fi) := cmul (by omega) (by omega)
    have s1 : begin + behind * fi = if w0 = true then begin + behind else begin := by
      cases w0 with
      | true => have := (hw0.mp rfl).1; subst this; simp
      | false =>
        rcases q0 with rfl | rfl
        · simp
        · have : behind = 0 := by
            by_cases z : behind = 0
            · exact z
            · exact absurd (hw0.mpr ⟨rfl, z⟩) (by decide)
          subst this; simp
    have s2 : begin + behind * (1 - fi) = if w0 = true then begin else begin + behind := by
      cases w0 with
      | true => have := (hw0.mp rfl).1; subst this; simp
      | false =>
        rcases q0 with rfl | rfl
        · simp
        · have : behind = 0 := by
            by_cases z : behind = 0
            · exact z
            · exact absurd (hw0.mpr ⟨rfl, z⟩) (by decide)
          subst this; simp
    generalize hs0 : (if w0 = true then begin + behind else begin) = s0 at s1 ht
    generalize hl0 : (if w0 = true then begin else begin + behind) = l0 at s2 ht
    have b0 : 0 ≤ s0 ∧ s0 < en ∧ s0 ≤ 100 := by rw [← hs0]; split <;> omega
    have b1 : 0 ≤ l0 ∧ l0 < en ∧ l0 ≤ 100 := by rw [← hl0]; split <;> omega
    have hP2 : PrOk (two2 s0 l0 en) := ⟨by simp [two2], fun x hx => by
      simp [two2] at hx
      rcases hx with rfl | rfl <;> simp <;> omega⟩
    have eb : PyData.list [.tuple [.str (Str.ofString "short"), .int s0, .int en], .tuple [.str (Str.ofString "long"), .int l0, .int en]] = psD (two2 s0 l0 en) := rfl
    unfold t_law_b10 t_law_b11
    simp only [g_bind, g_ok, g_ofO, g_var, g_peek, g_frz, g_C, g_op, g_opF, g_tOf, g_B, g_BF, g_nil, g_cons, ok_ite, g_tup, g_lst, g_fz, g_call, g_callF, g_callV, g_callF0, g_seq, g_next, g_set, g_setF, g_setV, g_drop, g_ret, g_retF, g_retV, g_retO, g_if, g_append, g_extend, g_to, g_par, g_aug, g_any, g_noP, g_part, g_sl, g_slF, g_isI, g_m1, g_tAnd, g_tOr, g_tNot, g_and, g_or, g_not, g_neg, g_eif, g_tru, g_for, g_comp, g_run, okO_some, slV_va, slP_va, slP_ml, slZ_va, slZ_ml, slM_ml, isB_b, isI_i, isS_s, isL_l, itO_l, itO_t, itO_s, isVl_z, isVl_f, nxF_nx, nxF_rt, nxF_ro, nxF_bk, nxF_ct, endF_nx, endF_rt, endF_ro, okR_ok, okR_fr, okR_er, two_ok, stepF_nx, stepF_ct, stepF_bk, stepF_rt, stepF_ro, List.getElem?_cons_zero, List.getElem?_cons_succ, List.set_cons_zero, List.set_cons_succ, List.length_cons, List.length_nil, List.map_cons, List.map_nil, List.replicate_succ, List.replicate_zero, List.cons_append, List.nil_append, Nat.reduceAdd, Nat.reduceSub, Nat.reduceLeDiff, decide_eq_true_eq, addInt, subInt, ltInt, mulInt, modInt, divInt, powInt, shlInt, shrInt, eqInt, neInt, cmpInt, lenScr, lenLst, lenTup, idxScr, idxLst, idxTup, true_and, tgN, wipeR, g_chain, g_iseq, g_setIx, g_lix, g_m1F, Option.bind_some, m1, m2, s1, s2, eb, sent_ok hP2 f]
    have hz := sentL_len (two2 s0 l0 en) a b c
    rw [told_comp]
    rotate_left
    · intro x _
      unfold sD
      simp only [g_bind, g_ok, g_ofO, g_var, g_peek, g_frz, g_C, g_op, g_opF, g_tOf, g_B, g_BF, g_nil, g_cons, ok_ite, g_tup, g_lst, g_fz, g_call, g_callF, g_callV, g_callF0, g_seq, g_next, g_set, g_setF, g_setV, g_drop, g_ret, g_retF, g_retV, g_retO, g_if, g_append, g_extend, g_to, g_par, g_aug, g_any, g_noP, g_part, g_sl, g_slF, g_isI, g_m1, g_tAnd, g_tOr, g_tNot, g_and, g_or, g_not, g_neg, g_eif, g_tru, g_for, g_comp, g_run, okO_some, slV_va, slP_va, slP_ml, slZ_va, slZ_ml, slM_ml, isB_b, isI_i, isS_s, isL_l, itO_l, itO_t, itO_s, isVl_z, isVl_f, nxF_nx, nxF_rt, nxF_ro, nxF_bk, nxF_ct, endF_nx, endF_rt, endF_ro, okR_ok, okR_fr, okR_er, two_ok, stepF_nx, stepF_ct, stepF_bk, stepF_rt, stepF_ro, List.getElem?_cons_zero, List.getElem?_cons_succ, List.set_cons_zero, List.set_cons_succ, List.length_cons, List.length_nil, List.map_cons, List.map_nil, List.replicate_succ, List.replicate_zero, List.cons_append, List.nil_append, Nat.reduceAdd, Nat.reduceSub, Nat.reduceLeDiff, decide_eq_true_eq, addInt, subInt, ltInt, mulInt, modInt, divInt, powInt, shlInt, shrInt, eqInt, neInt, cmpInt, lenScr, lenLst, lenTup, idxScr, idxLst, idxTup, true_and, tgN, wipeR, g_chain, g_iseq, g_setIx, g_lix, g_m1F, Option.bind_some, tgT, tgL]
      rfl
    have hz3 : t.length + 1 ≤ 7000 := by
      have := congrArg List.length ht
      simp at this
      omega
    rw [ht]
    simp only [okO_some, List.length_map]
    refine ⟨by unfold sizeLine; omega, ?_⟩
    -- the first one, as the law reckons
    have hfi : ∃ f1 : Int, (f1 = 0 ∨ f1 = 1) ∧ w0 = decide (f1 % 2 = 1) ∧ (if behind = 0 then 0 else fi) = f1 := by
      by_cases z : behind = 0
      · refine ⟨0, .inl rfl, ?_, by rw [if_pos z]⟩
        rw [hwb z]; rfl
      · refine ⟨fi, q0, ?_, by rw [if_neg z]⟩
        rcases q0 with rfl | rfl
        · cases w0 with
          | false => rfl
          | true => exact absurd (hw0.mp rfl).1 (by decide)
        · rw [hw0.mpr ⟨rfl, z⟩]; rfl
    obtain ⟨f1, hf1, hwf, ef1⟩ := hfi
    unfold t_law_b12
    simp only [g_bind, g_ok, g_ofO, g_var, g_peek, g_frz, g_C, g_op, g_opF, g_tOf, g_B, g_BF, g_nil, g_cons, ok_ite, g_tup, g_lst, g_fz, g_call, g_callF, g_callV, g_callF0, g_seq, g_next, g_set, g_setF, g_setV, g_drop, g_ret, g_retF, g_retV, g_retO, g_if, g_append, g_extend, g_to, g_par, g_aug, g_any, g_noP, g_part, g_sl, g_slF, g_isI, g_m1, g_tAnd, g_tOr, g_tNot, g_and, g_or, g_not, g_neg, g_eif, g_tru, g_for, g_comp, g_run, okO_some, slV_va, slP_va, slP_ml, slZ_va, slZ_ml, slM_ml, isB_b, isI_i, isS_s, isL_l, itO_l, itO_t, itO_s, isVl_z, isVl_f, nxF_nx, nxF_rt, nxF_ro, nxF_bk, nxF_ct, endF_nx, endF_rt, endF_ro, okR_ok, okR_fr, okR_er, two_ok, stepF_nx, stepF_ct, stepF_bk, stepF_rt, stepF_ro, List.getElem?_cons_zero, List.getElem?_cons_succ, List.set_cons_zero, List.set_cons_succ, List.length_cons, List.length_nil, List.map_cons, List.map_nil, List.replicate_succ, List.replicate_zero, List.cons_append, List.nil_append, Nat.reduceAdd, Nat.reduceSub, Nat.reduceLeDiff, decide_eq_true_eq, addInt, subInt, ltInt, mulInt, modInt, divInt, powInt, shlInt, shrInt, eqInt, neInt, cmpInt, lenScr, lenLst, lenTup, idxScr, idxLst, idxTup, true_and, tgN, wipeR, g_chain, g_iseq, g_setIx, g_lix, g_m1F, Option.bind_some]
    have hh : (if w0 = true then b else a) = if f1 = 0 then a else b := by
      rw [hwf]
      rcases hf1 with rfl | rfl <;> rfl
    have hal2 : behind < (if f1 = 0 then a else b) + c → ∃ m, w0 :: t = alt w0 m := fun h => hal (by
      unfold endOf
      rw [hh]
      omega)
    by_cases hb0 : behind = 0
    · rw [if_pos hb0] at ef1
      subst ef1
      rw [if_pos hb0]
      have c100 : c ≤ 100 := by have := f.c2; omega
      rw [show tx w0 :: List.map tx t = List.map tx (w0 :: t) from rfl]
      refine Done.h ?_
      refine law_tail hf1 hwf hz3 c100 hal2 fun v15 => ?_
      rw [stepF_nx]
      exact ⟨by omega, _, _, _, _, _, _, _, _, _, _, _, _, _, _, _, _, _, rfl⟩
    · rw [if_neg hb0] at ef1
      subst ef1
      rw [if_neg hb0]
      have c100 : c ≤ 100 := by have := f.c2; omega
      rw [show tx w0 :: List.map tx t = List.map tx (w0 :: t) from rfl]
      refine Done.h ?_
      refine law_tail hf1 hwf hz3 c100 hal2 fun v15 => ?_
      rw [stepF_nx]
      exact ⟨by omega, _, _, _, _, _, _, _, _, _, _, _, _, _, _, _, _, _, rfl⟩
  · rintro ρ ⟨_, v1, v2, v3, v4, v5, v6, v7, v8, v9, v10, v11, v12, v13, v14, v15, v16, v17, rfl⟩
    unfold t_law_c1
    simp only [g_bind, g_ok, g_ofO, g_var, g_peek, g_frz, g_C, g_op, g_opF, g_tOf, g_B, g_BF, g_nil, g_cons, ok_ite, g_tup, g_lst, g_fz, g_call, g_callF, g_callV, g_callF0, g_seq, g_next, g_set, g_setF, g_setV, g_drop, g_ret, g_retF, g_retV, g_retO, g_if, g_append, g_extend, g_to, g_par, g_aug, g_any, g_noP, g_part, g_sl, g_slF, g_isI, g_m1, g_tAnd, g_tOr, g_tNot, g_and, g_or, g_not, g_neg, g_eif, g_tru, g_for, g_comp, g_run, okO_some, slV_va, slP_va, slP_ml, slZ_va, slZ_ml, slM_ml, isB_b, isI_i, isS_s, isL_l, itO_l, itO_t, itO_s, isVl_z, isVl_f, nxF_nx, nxF_rt, nxF_ro, nxF_bk, nxF_ct, endF_nx, endF_rt, endF_ro, okR_ok, okR_fr, okR_er, two_ok, stepF_nx, stepF_ct, stepF_bk, stepF_rt, stepF_ro, List.getElem?_cons_zero, List.getElem?_cons_succ, List.set_cons_zero, List.set_cons_succ, List.length_cons, List.length_nil, List.map_cons, List.map_nil, List.replicate_succ, List.replicate_zero, List.cons_append, List.nil_append, Nat.reduceAdd, Nat.reduceSub, Nat.reduceLeDiff, decide_eq_true_eq, addInt, subInt, ltInt, mulInt, modInt, divInt, powInt, shlInt, shrInt, eqInt, neInt, cmpInt, lenScr, lenLst, lenTup, idxScr, idxLst, idxTup, true_and, tgN, wipeR, g_chain, g_iseq, g_setIx, g_lix, g_m1F, Option.bind_some]
end LawK19

set_option Elab.async false
set_option linter.all false
set_option maxRecDepth 100000
set_option maxHeartbeats 4000000
namespace LawK19
open PySem PySem.Spec L2 DL
open PyProof.Rows hiding St
def topS (i : Nat) : Stmt := PySem.Challenge.pw_longshort_k19_stretches_that_are_sent.main.body.getD i (.Pass ⟨0, 0, 0, 0⟩)
abbrev s_is_wanted : Stmt := topS 2
theorem sc_is_wanted : FnScope ["presses", "paddle", "begin", "end", "own", "down", "up"] ["presses", "paddle", "begin", "end"] (defScope s_is_wanted) := ⟨rfl, rfl, rfl, by decide +kernel, rfl, by decide +kernel, by decide +kernel⟩
abbrev s_next_down : Stmt := topS 3
theorem sc_next_down : FnScope ["presses", "moment", "moments", "first", "paddle", "down", "up", "press"] ["presses", "moment"] (defScope s_next_down) := ⟨rfl, rfl, rfl, by decide +kernel, rfl, by decide +kernel, by decide +kernel⟩
abbrev s_sent : Stmt := topS 4
theorem sc_sent : FnScope ["form", "presses", "found", "last", "now", "begin", "some", "end", "wanted", "paddle"] ["form", "presses"] (defScope s_sent) := ⟨rfl, rfl, rfl, by decide +kernel, rfl, by decide +kernel, by decide +kernel⟩
abbrev s_stretches_sent : Stmt := topS 5
theorem sc_stretches_sent : FnScope ["form", "presses", "found", "end", "begin", "paddle", "long"] ["form", "presses"] (defScope s_stretches_sent) := ⟨rfl, rfl, rfl, by decide +kernel, rfl, by decide +kernel, by decide +kernel⟩
abbrev s__law_cell : Stmt := topS 7
theorem sc__law_cell : FnScope ["script", "k"] ["script", "k"] (defScope s__law_cell) := ⟨rfl, rfl, rfl, by decide +kernel, rfl, by decide +kernel, by decide +kernel⟩
abbrev s__law_draws : Stmt := topS 8
theorem sc__law_draws : FnScope ["script", "k", "many", "base", "primes", "cell", "rest", "row", "j", "mash"] ["script", "k", "many", "base"] (defScope s__law_draws) := ⟨rfl, rfl, rfl, by decide +kernel, rfl, by decide +kernel, by decide +kernel⟩
abbrev s__law_whole : Stmt := topS 9
theorem sc__law_whole : FnScope ["found"] ["found"] (defScope s__law_whole) := ⟨rfl, rfl, rfl, by decide +kernel, rfl, by decide +kernel, by decide +kernel⟩
abbrev s__law_form : Stmt := topS 10
theorem sc__law_form : FnScope ["script", "at", "plan", "short", "within", "between"] ["script", "at"] (defScope s__law_form) := ⟨rfl, rfl, rfl, by decide +kernel, rfl, by decide +kernel, by decide +kernel⟩
abbrev s__law_presses : Stmt := topS 11
theorem sc__law_presses : FnScope ["script", "at", "plan", "draws", "now", "found", "k", "which", "down", "up"] ["script", "at"] (defScope s__law_presses) := ⟨rfl, rfl, rfl, by decide +kernel, rfl, by decide +kernel, by decide +kernel⟩
abbrev s_law : Stmt := topS 12
theorem sc_law : FnScope ["script", "at", "form", "presses", "sounds", "found", "k", "begin", "paddle", "plan", "first", "behind", "end", "both", "told", "due", "moment", "number"] ["script"] (defScope s_law) := ⟨rfl, rfl, rfl, by decide +kernel, rfl, by decide +kernel, by decide +kernel⟩
structure Txt (K : PySem.W.Frag) (mg : Str → Option Value) where
  a_is_wanted : Addr
  d_is_wanted : FuncData
  F_is_wanted : Fun K "is_wanted" "is_wanted" s_is_wanted a_is_wanted d_is_wanted
  g_is_wanted : mg "is_wanted" = some (.ref a_is_wanted)
  b_is_wanted : Binds K d_is_wanted ["presses", "paddle", "begin", "end"] []
  a_next_down : Addr
  d_next_down : FuncData
  F_next_down : Fun K "next_down" "next_down" s_next_down a_next_down d_next_down
  g_next_down : mg "next_down" = some (.ref a_next_down)
  b_next_down : Binds K d_next_down ["presses", "moment"] []
  a_sent : Addr
  d_sent : FuncData
  F_sent : Fun K "sent" "sent" s_sent a_sent d_sent
  g_sent : mg "sent" = some (.ref a_sent)
  b_sent : Binds K d_sent ["form", "presses"] []
  a_stretches_sent : Addr
  d_stretches_sent : FuncData
  F_stretches_sent : Fun K "stretches_sent" "stretches_sent" s_stretches_sent a_stretches_sent d_stretches_sent
  g_stretches_sent : mg "stretches_sent" = some (.ref a_stretches_sent)
  b_stretches_sent : Binds K d_stretches_sent ["form", "presses"] []
  a__law_cell : Addr
  d__law_cell : FuncData
  F__law_cell : Fun K "_law_cell" "_law_cell" s__law_cell a__law_cell d__law_cell
  g__law_cell : mg "_law_cell" = some (.ref a__law_cell)
  b__law_cell : Binds K d__law_cell ["script", "k"] []
  a__law_draws : Addr
  d__law_draws : FuncData
  F__law_draws : Fun K "_law_draws" "_law_draws" s__law_draws a__law_draws d__law_draws
  g__law_draws : mg "_law_draws" = some (.ref a__law_draws)
  b__law_draws : Binds K d__law_draws ["script", "k", "many", "base"] []
  a__law_whole : Addr
  d__law_whole : FuncData
  F__law_whole : Fun K "_law_whole" "_law_whole" s__law_whole a__law_whole d__law_whole
  g__law_whole : mg "_law_whole" = some (.ref a__law_whole)
  b__law_whole : Binds K d__law_whole ["found"] []
  a__law_form : Addr
  d__law_form : FuncData
  F__law_form : Fun K "_law_form" "_law_form" s__law_form a__law_form d__law_form
  g__law_form : mg "_law_form" = some (.ref a__law_form)
  b__law_form : Binds K d__law_form ["script", "at"] []
  a__law_presses : Addr
  d__law_presses : FuncData
  F__law_presses : Fun K "_law_presses" "_law_presses" s__law_presses a__law_presses d__law_presses
  g__law_presses : mg "_law_presses" = some (.ref a__law_presses)
  b__law_presses : Binds K d__law_presses ["script", "at"] []
  a_law : Addr
  d_law : FuncData
  F_law : Fun K "law" "law" s_law a_law d_law
  g_law : mg "law" = some (.ref a_law)
  b_law : Binds K d_law ["script"] []
  n_bool : mg "bool" = none
  n_enumerate : mg "enumerate" = none
  n_int : mg "int" = none
  n_isinstance : mg "isinstance" = none
  n_len : mg "len" = none
  n_list : mg "list" = none
  n_max : mg "max" = none
  n_min : mg "min" = none
  n_range : mg "range" = none
  n_sum : mg "sum" = none
  a_PADDLES : Addr
  g_PADDLES : mg "PADDLES" = some (.ref a_PADDLES)
  p_PADDLES : ∀ F, Rp K F (.ref a_PADDLES) d_PADDLES
  o_PADDLES : Obj
  l_PADDLES : K.lookup a_PADDLES = some o_PADDLES
  c_PADDLES : o_PADDLES.cls = .type "tuple"
  dn_PADDLES : o_PADDLES.dict = none
section
variable {P : Program} {w : World} {K : PySem.W.Frag} {mg : Str → Option Value} {base : Heap} {xr : Ex → Value → Option Addr → Hp → Prop}
theorem Txt.r_PADDLES (T : Txt K mg) : RelV (.ref T.a_PADDLES) (.ref T.a_PADDLES) := rfl
theorem ok_is_wanted (T : Txt K mg) : FnOk P w K mg base (L2.CX P w) 1 T.a_is_wanted T.d_is_wanted ["presses", "paddle", "begin", "end"] (spOf K xr m_is_wanted) :=
  fn_okL (k := 0) (a := 7) (b := 4) (m := b_is_wanted) rfl rfl T.F_is_wanted sc_is_wanted fun cdv A outer s H F0 E hr => by
    have hu := hr.units
    have hx : ∀ σ, PassesAt (L2.CX P w) (cxOf (L2.CX P w) P w K mg base ["presses", "paddle", "begin", "end", "own", "down", "up"] "is_wanted" (defScope s_is_wanted) T.a_is_wanted cdv A outer s H E) σ (WE (fun cls dd _ H' => E cls dd H') σ) := fun σ => passAt (takes_of rfl rfl rfl rfl) σ
    exact (s_cons (s_for (n := False) (sem_tupG (is := [4, 5, 6]) (k := 3) rfl) (passes_of rfl) rfl (i_any rfl (k_var (pv 0))) (pg_tup rfl (pgs_cons (pg_name (i := 4) sc_is_wanted.nd rfl (by first | exact Or.inl rfl | exact Or.inr rfl)) (pgs_cons (pg_name (i := 5) sc_is_wanted.nd rfl (by first | exact Or.inl rfl | exact Or.inr rfl)) (pgs_cons (pg_name (i := 6) sc_is_wanted.nd rfl (by first | exact Or.inl rfl | exact Or.inr rfl)) pgs_nil))))
  (s_one (s_if (n := False) (t_bool (w_and (t_eq hu rfl (kp (k_var (pv 4))) (kp (k_var (pv 1)))) (w_one (t_bool (w_or (t_chain .le .lt (kp (k_var (pv 5))) (kp (k_var (pv 3))) (kp (k_var (pv 6)))) (w_one (t_chain .lt .lt (kp (k_var (pv 2))) (kp (k_var (pv 5))) (kp (k_var (pv 3))))))))))
  (s_one (s_ret (n := False) k_bl))
  s_nil)))
  (s_one (s_ret (n := False) k_bl)))
theorem ok_next_down (T : Txt K mg) : FnOk P w K mg base (L2.CX P w) 1 T.a_next_down T.d_next_down ["presses", "moment"] (spOf K xr m_next_down) :=
  fn_okL (k := 0) (a := 8) (b := 2) (m := b_next_down) rfl rfl T.F_next_down sc_next_down fun cdv A outer s H F0 E hr => by
    have hu := hr.units
    have hx : ∀ σ, PassesAt (L2.CX P w) (cxOf (L2.CX P w) P w K mg base ["presses", "moment", "moments", "first", "paddle", "down", "up", "press"] "next_down" (defScope s_next_down) T.a_next_down cdv A outer s H E) σ (WE (fun cls dd _ H' => E cls dd H') σ) := fun σ => passAt (takes_of rfl rfl rfl rfl) σ
    exact (s_cons (s_setLcZ (n := False) (i := 2) (own := [("paddle", 4), ("down", 5), ("up", 6)]) (sem_tupG (is := [4, 5, 6]) (k := 3) rfl) (by decide) rfl sc_next_down.nd rfl rfl (sw_true rfl rfl rfl (by decide +kernel)) (ip_of (i_any rfl (k_var (pv 0)))) (blkOk_by (N := ["presses", "moment", "moments", "first", "paddle", "down", "up", "press"]) (sc := (defScope s_next_down)) (own := [("paddle", 4), ("down", 5), ("up", 6)]) (by decide +kernel)) (fun _ _ _ _ _ => (pg_tup rfl (pgs_cons (pg_name (i := 4) sc_next_down.nd rfl (by first | exact Or.inl rfl | exact Or.inr rfl)) (pgs_cons (pg_name (i := 5) sc_next_down.nd rfl (by first | exact Or.inl rfl | exact Or.inr rfl)) (pgs_cons (pg_name (i := 6) sc_next_down.nd rfl (by first | exact Or.inl rfl | exact Or.inr rfl)) pgs_nil))))) (fun _ _ _ _ _ => (ts_one (t_ge (kp (k_var (pv 5))) (kp (k_var (pv 1)))))) (fun _ _ _ _ _ => (k_var (pv 5))))
  (s_cons (s_if (n := False) (t_eq hu rfl (kp (k_var (pv 2))) (kp (kz (kf_lst a_nil))))
  (s_one (s_ret (n := False) k_non))
  s_nil)
  (s_cons (s_set (n := False) (i := 3) sc_next_down.nd rfl (by first | exact Or.inl rfl | exact Or.inr rfl) (k_bi ((call_min2 rfl).or (cr_min rfl)) sem_min (by rfl) T.n_min (by decide +kernel) (b_cons (kp (k_var (pv 2))) b_nil)))
  (s_one (s_ret (n := False) (k_tup (a_cons (k_var (pv 3)) (a_cons (kz (kf_comp (own := [("paddle", 4)]) (sem_name (i := 4)) (by decide) rfl sc_next_down.nd (ip_of (i_any rfl (k_const (pe_glob rfl T.g_PADDLES T.r_PADDLES) (fun F => T.p_PADDLES F)))) (blkOk_by (N := ["presses", "moment", "moments", "first", "paddle", "down", "up", "press"]) (sc := (defScope s_next_down)) (own := [("paddle", 4)]) (by decide +kernel)) (fun _ _ _ _ _ => (pg_name (i := 4) sc_next_down.nd rfl (by first | exact Or.inl rfl | exact Or.inr rfl))) (fun _ _ _ _ _ => (ts_one (t_in hu rfl (by rfl) (kp (k_tup (a_cons (k_var (pv 4)) (a_cons (k_var (pv 3)) a_nil)))) (kp (kz (kf_comp (own := [("press", 7)]) (sem_name (i := 7)) (by decide) rfl sc_next_down.nd (ip_of (i_any rfl (k_var (pv 0)))) (blkOk_by (own := [("press", 7)]) (by kernel_rfl)) (fun _ _ _ _ _ => (pg_name (i := 7) sc_next_down.nd rfl (by first | exact Or.inl rfl | exact Or.inr rfl))) (fun _ _ _ _ _ => ts_nil) (fun _ _ _ _ _ => (k_sl rfl (kp (k_var (pv 7))) o_none (o_some k_int))))))))) (fun _ _ _ _ _ => (k_var (pv 4))))) a_nil))))))))
theorem ok_sent (T : Txt K mg) : FnOk P w K mg base (L2.CX P w) 2 T.a_sent T.d_sent ["form", "presses"] (spOf K xr m_sent) :=
  fn_okL (k := 1) (a := 10) (b := 2) (m := b_sent) rfl rfl T.F_sent sc_sent fun cdv A outer s H F0 E hr => by
    have hu := hr.units
    have hx : ∀ σ, PassesAt (L2.CX P w) (cxOf (L2.CX P w) P w K mg base ["form", "presses", "found", "last", "now", "begin", "some", "end", "wanted", "paddle"] "sent" (defScope s_sent) T.a_sent cdv A outer s H E) σ (WE (fun cls dd _ H' => E cls dd H') σ) := fun σ => passAt (takes_of rfl rfl rfl rfl) σ
    exact (s_cons (s_setF (n := False) (i := 2) sc_sent.nd rfl (by first | exact Or.inl rfl | exact Or.inr rfl) (kf_lst a_nil))
  (s_cons (s_set (n := False) (i := 3) sc_sent.nd rfl (by first | exact Or.inl rfl | exact Or.inr rfl) k_str)
  (s_cons (s_set (n := False) (i := 4) sc_sent.nd rfl (by first | exact Or.inl rfl | exact Or.inr rfl) (k_call (ok_next_down T) (hr.mono (by decide)) (by rfl) T.g_next_down T.F_next_down.kp T.b_next_down hx (a_cons (k_var (pv 1)) (a_cons k_int a_nil))))
  (s_cons (s_while (n := False) fuelN (passes_of rfl) (t_nis (kp (k_var (pv 4))) (kp k_non))
  (s_cons (s_to (n := False) (sem_tupG (is := [5, 6]) (k := 2) rfl) (k_var (pv 4)) (pg_tup rfl (pgs_cons (pg_name (i := 5) sc_sent.nd rfl (by first | exact Or.inl rfl | exact Or.inr rfl)) (pgs_cons (pg_name (i := 6) sc_sent.nd rfl (by first | exact Or.inl rfl | exact Or.inr rfl)) pgs_nil))))
  (s_cons (s_if (n := False) (t_eq hu rfl (kp (k_bi call_len sem_len (by rfl) T.n_len (by decide +kernel) (b_cons (kp (k_var (pv 6))) b_nil))) (kp k_int))
  (s_one (s_setLcZ (n := False) (i := 6) (own := [("paddle", 9)]) (sem_name (i := 9)) (by decide) rfl sc_sent.nd rfl rfl (sw_true rfl rfl rfl (by decide +kernel)) (ip_of (i_any rfl (k_var (pv 6)))) (blkOk_by (N := ["form", "presses", "found", "last", "now", "begin", "some", "end", "wanted", "paddle"]) (sc := (defScope s_sent)) (own := [("paddle", 9)]) (by decide +kernel)) (fun _ _ _ _ _ => (pg_name (i := 9) sc_sent.nd rfl (by first | exact Or.inl rfl | exact Or.inr rfl))) (fun _ _ _ _ _ => (ts_one (t_ne hu rfl (kp (k_var (pv 9))) (kp (k_var (pv 3)))))) (fun _ _ _ _ _ => (k_var (pv 9)))))
  s_nil)
  (s_cons (s_set (n := False) (i := 3) sc_sent.nd rfl (by first | exact Or.inl rfl | exact Or.inr rfl) (k_idx rfl (kp (k_var (pv 6))) (kp k_int) (fun _ _ => rfl)))
  (s_cons (s_append (n := False) (pv 2) (a_cons (k_tup (a_cons (k_var (pv 5)) (a_cons (k_var (pv 3)) a_nil))) a_nil) rfl)
  (s_cons (s_set (n := False) (i := 7) sc_sent.nd rfl (by first | exact Or.inl rfl | exact Or.inr rfl) (k_add (kp (k_add (kp (k_var (pv 5))) (kp (k_idx rfl (kp (k_var (pv 0))) (kp (k_tix rfl (pe_glob rfl T.g_PADDLES T.r_PADDLES) T.l_PADDLES T.c_PADDLES T.dn_PADDLES (fun F => T.p_PADDLES F) (k_var (pv 3)))) (fun _ _ => rfl))))) (kp (k_idx rfl (kp (k_var (pv 0))) (kp k_int) (fun _ _ => rfl)))))
  (s_cons (s_setLcZ (n := False) (i := 8) (own := [("paddle", 9)]) (sem_name (i := 9)) (by decide) rfl sc_sent.nd rfl rfl (sw_true rfl rfl rfl (by decide +kernel)) (ip_of (i_any rfl (k_const (pe_glob rfl T.g_PADDLES T.r_PADDLES) (fun F => T.p_PADDLES F)))) (blkOk_by (N := ["form", "presses", "found", "last", "now", "begin", "some", "end", "wanted", "paddle"]) (sc := (defScope s_sent)) (own := [("paddle", 9)]) (by decide +kernel)) (fun _ _ _ _ _ => (pg_name (i := 9) sc_sent.nd rfl (by first | exact Or.inl rfl | exact Or.inr rfl))) (fun _ _ _ _ _ => (ts_one (t_val (k_call (ok_is_wanted T) (hr.mono (by decide)) (by rfl) T.g_is_wanted T.F_is_wanted.kp T.b_is_wanted passNo (a_cons (k_var (pv 1)) (a_cons (k_var (pv 9)) (a_cons (k_var (pv 5)) (a_cons (k_var (pv 7)) a_nil)))))))) (fun _ _ _ _ _ => (k_var (pv 9))))
  (s_cons (s_set (n := False) (i := 4) sc_sent.nd rfl (by first | exact Or.inl rfl | exact Or.inr rfl) (k_tup (a_cons (k_var (pv 7)) (a_cons (k_var (pv 8)) a_nil))))
  (s_one (s_if (n := False) (t_eq hu rfl (kp (k_var (pv 8))) (kp (kz (kf_lst a_nil))))
  (s_one (s_set (n := False) (i := 4) sc_sent.nd rfl (by first | exact Or.inl rfl | exact Or.inr rfl) (k_call (ok_next_down T) (hr.mono (by decide)) (by rfl) T.g_next_down T.F_next_down.kp T.b_next_down hx (a_cons (k_var (pv 1)) (a_cons (k_var (pv 7)) a_nil)))))
  s_nil))))))))))
  (s_one (s_retO (pv 2)))))))
theorem ok_stretches_sent (T : Txt K mg) : FnOk P w K mg base (L2.CX P w) 3 T.a_stretches_sent T.d_stretches_sent ["form", "presses"] (spOf K xr m_stretches_sent) :=
  fn_okL (k := 2) (a := 7) (b := 2) (m := b_stretches_sent) rfl rfl T.F_stretches_sent sc_stretches_sent fun cdv A outer s H F0 E hr => by
    have hu := hr.units
    have hx : ∀ σ, PassesAt (L2.CX P w) (cxOf (L2.CX P w) P w K mg base ["form", "presses", "found", "end", "begin", "paddle", "long"] "stretches_sent" (defScope s_stretches_sent) T.a_stretches_sent cdv A outer s H E) σ (WE (fun cls dd _ H' => E cls dd H') σ) := fun σ => passAt (takes_of rfl rfl rfl rfl) σ
    exact (s_cons (s_setF (n := False) (i := 2) sc_stretches_sent.nd rfl (by first | exact Or.inl rfl | exact Or.inr rfl) (kf_lst a_nil))
  (s_cons (s_set (n := False) (i := 3) sc_stretches_sent.nd rfl (by first | exact Or.inl rfl | exact Or.inr rfl) k_int)
  (s_cons (s_for (n := False) (sem_tupG (is := [4, 5]) (k := 2) rfl) (passes_of rfl) rfl (i_any rfl (k_call (ok_sent T) (hr.mono (by decide)) (by rfl) T.g_sent T.F_sent.kp T.b_sent hx (a_cons (k_var (pv 0)) (a_cons (k_var (pv 1)) a_nil)))) (pg_tup rfl (pgs_cons (pg_name (i := 4) sc_stretches_sent.nd rfl (by first | exact Or.inl rfl | exact Or.inr rfl)) (pgs_cons (pg_name (i := 5) sc_stretches_sent.nd rfl (by first | exact Or.inl rfl | exact Or.inr rfl)) pgs_nil)))
  (s_cons (s_if (n := False) (t_ne hu rfl (k_peek (pv 2)) (kp (kz (kf_lst a_nil))))
  (s_one (s_append (n := False) (pv 2) (a_cons (k_sub (kp (k_var (pv 4))) (kp (k_var (pv 3)))) a_nil) rfl))
  s_nil)
  (s_cons (s_set (n := False) (i := 6) sc_stretches_sent.nd rfl (by first | exact Or.inl rfl | exact Or.inr rfl) (k_idx rfl (kp (k_var (pv 0))) (kp (k_tix rfl (pe_glob rfl T.g_PADDLES T.r_PADDLES) T.l_PADDLES T.c_PADDLES T.dn_PADDLES (fun F => T.p_PADDLES F) (k_var (pv 5)))) (fun _ _ => rfl)))
  (s_cons (s_append (n := False) (pv 2) (a_cons (k_var (pv 6)) a_nil) rfl)
  (s_one (s_set (n := False) (i := 3) sc_stretches_sent.nd rfl (by first | exact Or.inl rfl | exact Or.inr rfl) (k_add (kp (k_var (pv 4))) (kp (k_var (pv 6))))))))))
  (s_one (s_retO (pv 2))))))
theorem ok__law_cell (T : Txt K mg) : FnOk P w K mg base (L2.CX P w) 1 T.a__law_cell T.d__law_cell ["script", "k"] (spOf K xr m__law_cell) :=
  fn_okL (k := 0) (a := 2) (b := 2) (m := b__law_cell) rfl rfl T.F__law_cell sc__law_cell fun cdv A outer s H F0 E hr => by
    have hu := hr.units
    have hx : ∀ σ, PassesAt (L2.CX P w) (cxOf (L2.CX P w) P w K mg base ["script", "k"] "_law_cell" (defScope s__law_cell) T.a__law_cell cdv A outer s H E) σ (WE (fun cls dd _ H' => E cls dd H') σ) := fun σ => passAt (takes_of rfl rfl rfl rfl) σ
    exact (s_cons (s_if (n := False) (t_lt (kp (k_var (pv 1))) (kp (k_bi call_len sem_len (by rfl) T.n_len (by decide +kernel) (b_cons (kp (k_var (pv 0))) b_nil))))
  (s_one (s_ret (n := False) (k_idx rfl (kp (k_var (pv 0))) (kp (k_var (pv 1))) (fun _ _ => rfl))))
  s_nil)
  (s_cons (s_if (n := False) (t_eq hu rfl (kp (k_bi call_len sem_len (by rfl) T.n_len (by decide +kernel) (b_cons (kp (k_var (pv 0))) b_nil))) (kp k_int))
  (s_one (s_ret (n := False) (k_add (kp (k_mul (kp k_int) (kp (k_var (pv 1))))) (kp k_int))))
  s_nil)
  (s_one (s_ret (n := False) (k_add (kp (k_mod (kp (k_idx rfl (kp (k_var (pv 0))) (kp (k_mod (kp (k_var (pv 1))) (kp (k_bi call_len sem_len (by rfl) T.n_len (by decide +kernel) (b_cons (kp (k_var (pv 0))) b_nil))))) (fun _ _ => rfl))) (kp k_int))) (kp (k_mul (kp k_int) (kp (k_var (pv 1))))))))))
theorem ok__law_draws (T : Txt K mg) : FnOk P w K mg base (L2.CX P w) 2 T.a__law_draws T.d__law_draws ["script", "k", "many", "base"] (spOf K xr m__law_draws) :=
  fn_okL (k := 1) (a := 10) (b := 4) (m := b__law_draws) rfl rfl T.F__law_draws sc__law_draws fun cdv A outer s H F0 E hr => by
    have hu := hr.units
    have hx : ∀ σ, PassesAt (L2.CX P w) (cxOf (L2.CX P w) P w K mg base ["script", "k", "many", "base", "primes", "cell", "rest", "row", "j", "mash"] "_law_draws" (defScope s__law_draws) T.a__law_draws cdv A outer s H E) σ (WE (fun cls dd _ H' => E cls dd H') σ) := fun σ => passAt (takes_of rfl rfl rfl rfl) σ
    exact (s_cons (s_set (n := False) (i := 4) sc__law_draws.nd rfl (by first | exact Or.inl rfl | exact Or.inr rfl) (k_tup (a_cons k_int (a_cons k_int (a_cons k_int (a_cons k_int (a_cons k_int (a_cons k_int (a_cons k_int (a_cons k_int a_nil))))))))))
  (s_cons (s_set (n := False) (i := 5) sc__law_draws.nd rfl (by first | exact Or.inl rfl | exact Or.inr rfl) (k_call (ok__law_cell T) (hr.mono (by decide)) (by rfl) T.g__law_cell T.F__law_cell.kp T.b__law_cell hx (a_cons (k_var (pv 0)) (a_cons (k_var (pv 1)) a_nil))))
  (s_cons (s_set (n := False) (i := 6) sc__law_draws.nd rfl (by first | exact Or.inl rfl | exact Or.inr rfl) k_int)
  (s_cons (s_if (n := False) (t_ge (kp (k_var (pv 5))) (kp (k_pow (kp k_int) (kp k_int))))
  (s_one (s_set (n := False) (i := 6) sc__law_draws.nd rfl (by first | exact Or.inl rfl | exact Or.inr rfl) (k_var (pv 5))))
  s_nil)
  (s_cons (s_setF (n := False) (i := 7) sc__law_draws.nd rfl (by first | exact Or.inl rfl | exact Or.inr rfl) (kf_lst a_nil))
  (s_cons (s_for (n := False) (sem_name (i := 8)) (passes_of rfl) rfl (i_range1 (by rfl) T.n_range (a_cons (k_var (pv 2)) a_nil)) (pg_name (i := 8) sc__law_draws.nd rfl (by first | exact Or.inl rfl | exact Or.inr rfl))
  (s_cons (s_set (n := False) (i := 9) sc__law_draws.nd rfl (by first | exact Or.inl rfl | exact Or.inr rfl) (k_mul (kp (k_mod (kp (k_var (pv 5))) (kp (k_idx rfl (kp (k_var (pv 4))) (kp (k_mod (kp (k_var (pv 8))) (kp k_int))) (fun _ _ => rfl))))) (kp (k_add (kp k_int) (kp (k_mul (kp (k_mul (kp k_int) (kp (k_var (pv 8))))) (kp (k_var (pv 8)))))))))
  (s_cons (s_set (n := False) (i := 9) sc__law_draws.nd rfl (by first | exact Or.inl rfl | exact Or.inr rfl) (k_add (kp (k_add (kp (k_var (pv 9))) (kp (k_mul (kp (k_mul (kp k_int) (kp (k_add (kp (k_var (pv 8))) (kp k_int))))) (kp (k_add (kp (k_var (pv 8))) (kp k_int))))))) (kp (k_mul (kp k_int) (kp (k_var (pv 1)))))))
  (s_cons (s_set (n := False) (i := 9) sc__law_draws.nd rfl (by first | exact Or.inl rfl | exact Or.inr rfl) (k_mod (kp (k_var (pv 9))) (kp (k_idx rfl (kp (k_var (pv 4))) (kp (k_mod (kp (k_add (kp (k_mul (kp k_int) (kp (k_var (pv 8))))) (kp (k_var (pv 1))))) (kp k_int))) (fun _ _ => rfl)))))
  (s_cons (s_set (n := False) (i := 9) sc__law_draws.nd rfl (by first | exact Or.inl rfl | exact Or.inr rfl) (k_mod (kp (k_mul (kp (k_mul (kp (k_var (pv 9))) (kp (k_var (pv 9))))) (kp (k_var (pv 9))))) (kp (k_idx rfl (kp (k_var (pv 4))) (kp (k_mod (kp (k_add (kp (k_var (pv 8))) (kp k_int))) (kp k_int))) (fun _ _ => rfl)))))
  (s_cons (s_if (n := False) (t_gt (kp (k_var (pv 6))) (kp k_int))
  (s_one (s_set (n := False) (i := 9) sc__law_draws.nd rfl (by first | exact Or.inl rfl | exact Or.inr rfl) (k_var (pv 6))))
  s_nil)
  (s_cons (s_append (n := False) (pv 7) (a_cons (k_mod (kp (k_var (pv 9))) (kp (k_var (pv 3)))) a_nil) rfl)
  (s_one (s_set (n := False) (i := 6) sc__law_draws.nd rfl (by first | exact Or.inl rfl | exact Or.inr rfl) (k_fdiv (kp (k_var (pv 6))) (kp (k_var (pv 3)))))))))))))
  (s_one (s_retO (pv 7)))))))))
theorem ok__law_whole (T : Txt K mg) : FnOk P w K mg base (L2.CX P w) 1 T.a__law_whole T.d__law_whole ["found"] (spOf K xr m__law_whole) :=
  fn_okL (k := 0) (a := 1) (b := 1) (m := b__law_whole) rfl rfl T.F__law_whole sc__law_whole fun cdv A outer s H F0 E hr => by
    have hu := hr.units
    have hx : ∀ σ, PassesAt (L2.CX P w) (cxOf (L2.CX P w) P w K mg base ["found"] "_law_whole" (defScope s__law_whole) T.a__law_whole cdv A outer s H E) σ (WE (fun cls dd _ H' => E cls dd H') σ) := fun σ => passAt (takes_of rfl rfl rfl rfl) σ
    exact (s_one (s_ret (n := False) (k_and (k_isi rfl (by rfl) T.n_isinstance (by rfl) T.n_int (by decide +kernel) (kp (k_var (pv 0)))) (k_one (k_not (k_isi rfl (by rfl) T.n_isinstance (by rfl) T.n_bool (by decide +kernel) (kp (k_var (pv 0)))))))))
theorem ok__law_form (T : Txt K mg) : FnOk P w K mg base (L2.CX P w) 3 T.a__law_form T.d__law_form ["script", "at"] (spOf K xr m__law_form) :=
  fn_okL (k := 2) (a := 6) (b := 2) (m := b__law_form) rfl rfl T.F__law_form sc__law_form fun cdv A outer s H F0 E hr => by
    have hu := hr.units
    have hx : ∀ σ, PassesAt (L2.CX P w) (cxOf (L2.CX P w) P w K mg base ["script", "at", "plan", "short", "within", "between"] "_law_form" (defScope s__law_form) T.a__law_form cdv A outer s H E) σ (WE (fun cls dd _ H' => E cls dd H') σ) := fun σ => passAt (takes_of rfl rfl rfl rfl) σ
    exact (s_cons (s_set (n := False) (i := 2) sc__law_form.nd rfl (by first | exact Or.inl rfl | exact Or.inr rfl) (k_call (ok__law_draws T) (hr.mono (by decide)) (by rfl) T.g__law_draws T.F__law_draws.kp T.b__law_draws hx (a_cons (k_var (pv 0)) (a_cons (k_var (pv 1)) (a_cons k_int (a_cons k_int a_nil))))))
  (s_cons (s_if (n := False) (t_eq hu rfl (kp (k_mod (kp (k_idx rfl (kp (k_var (pv 2))) (kp k_int) (fun _ _ => rfl))) (kp k_int))) (kp k_int))
  (s_one (s_ret (n := False) (k_tup (a_cons k_int (a_cons k_int (a_cons k_int (a_cons k_int (a_cons k_int a_nil))))))))
  s_nil)
  (s_cons (s_set (n := False) (i := 3) sc__law_form.nd rfl (by first | exact Or.inl rfl | exact Or.inr rfl) (k_add (kp k_int) (kp (k_mod (kp (k_idx rfl (kp (k_var (pv 2))) (kp k_int) (fun _ _ => rfl))) (kp (k_idx rfl (kp (kz (kf_lst (a_cons k_int (a_cons k_int a_nil))))) (kp (k_mod (kp (k_fdiv (kp (k_idx rfl (kp (k_var (pv 2))) (kp k_int) (fun _ _ => rfl))) (kp k_int))) (kp k_int))) (fun _ _ => rfl)))))))
  (s_cons (s_set (n := False) (i := 4) sc__law_form.nd rfl (by first | exact Or.inl rfl | exact Or.inr rfl) (k_add (kp k_int) (kp (k_mod (kp (k_idx rfl (kp (k_var (pv 2))) (kp k_int) (fun _ _ => rfl))) (kp k_int)))))
  (s_cons (s_set (n := False) (i := 5) sc__law_form.nd rfl (by first | exact Or.inl rfl | exact Or.inr rfl) (k_add (kp (k_add (kp (k_var (pv 4))) (kp k_int))) (kp (k_mod (kp (k_idx rfl (kp (k_var (pv 2))) (kp k_int) (fun _ _ => rfl))) (kp (k_idx rfl (kp (kz (kf_lst (a_cons k_int (a_cons k_int a_nil))))) (kp (k_mod (kp (k_fdiv (kp (k_idx rfl (kp (k_var (pv 2))) (kp k_int) (fun _ _ => rfl))) (kp k_int))) (kp k_int))) (fun _ _ => rfl)))))))
  (s_one (s_ret (n := False) (k_tup (a_cons (k_var (pv 3)) (a_cons (k_add (kp (k_add (kp (k_var (pv 3))) (kp k_int))) (kp (k_mod (kp (k_idx rfl (kp (k_var (pv 2))) (kp k_int) (fun _ _ => rfl))) (kp (k_idx rfl (kp (kz (kf_lst (a_cons k_int (a_cons k_int a_nil))))) (kp (k_mod (kp (k_fdiv (kp (k_idx rfl (kp (k_var (pv 2))) (kp k_int) (fun _ _ => rfl))) (kp k_int))) (kp k_int))) (fun _ _ => rfl)))))) (a_cons (k_var (pv 4)) (a_cons (k_var (pv 5)) (a_cons (k_add (kp (k_add (kp (k_var (pv 5))) (kp k_int))) (kp (k_mod (kp (k_idx rfl (kp (k_var (pv 2))) (kp k_int) (fun _ _ => rfl))) (kp k_int)))) a_nil)))))))))))))
theorem ok__law_presses (T : Txt K mg) : FnOk P w K mg base (L2.CX P w) 3 T.a__law_presses T.d__law_presses ["script", "at"] (spOf K xr m__law_presses) :=
  fn_okL (k := 2) (a := 10) (b := 2) (m := b__law_presses) rfl rfl T.F__law_presses sc__law_presses fun cdv A outer s H F0 E hr => by
    have hu := hr.units
    have hx : ∀ σ, PassesAt (L2.CX P w) (cxOf (L2.CX P w) P w K mg base ["script", "at", "plan", "draws", "now", "found", "k", "which", "down", "up"] "_law_presses" (defScope s__law_presses) T.a__law_presses cdv A outer s H E) σ (WE (fun cls dd _ H' => E cls dd H') σ) := fun σ => passAt (takes_of rfl rfl rfl rfl) σ
    exact (s_cons (s_set (n := False) (i := 2) sc__law_presses.nd rfl (by first | exact Or.inl rfl | exact Or.inr rfl) (k_call (ok__law_draws T) (hr.mono (by decide)) (by rfl) T.g__law_draws T.F__law_draws.kp T.b__law_draws hx (a_cons (k_var (pv 0)) (a_cons (k_var (pv 1)) (a_cons k_int (a_cons k_int a_nil))))))
  (s_cons (s_set (n := False) (i := 3) sc__law_presses.nd rfl (by first | exact Or.inl rfl | exact Or.inr rfl) (k_call (ok__law_draws T) (hr.mono (by decide)) (by rfl) T.g__law_draws T.F__law_draws.kp T.b__law_draws hx (a_cons (k_var (pv 0)) (a_cons (k_add (kp (k_var (pv 1))) (kp k_int)) (a_cons k_int (a_cons k_int a_nil))))))
  (s_cons (s_setF (n := False) (i := 4) sc__law_presses.nd rfl (by first | exact Or.inl rfl | exact Or.inr rfl) (kf_lst (a_cons (k_mod (kp (k_idx rfl (kp (k_var (pv 2))) (kp k_int) (fun _ _ => rfl))) (kp k_int)) (a_cons (k_mod (kp (k_idx rfl (kp (k_var (pv 2))) (kp k_int) (fun _ _ => rfl))) (kp k_int)) a_nil))))
  (s_cons (s_setF (n := False) (i := 5) sc__law_presses.nd rfl (by first | exact Or.inl rfl | exact Or.inr rfl) (kf_lst a_nil))
  (s_cons (s_for (n := False) (sem_name (i := 6)) (passes_of rfl) rfl (i_range1 (by rfl) T.n_range (a_cons (k_idx rfl (kp (kz (kf_lst (a_cons (k_mod (kp (k_idx rfl (kp (k_var (pv 2))) (kp k_int) (fun _ _ => rfl))) (kp k_int)) (a_cons (k_mod (kp (k_idx rfl (kp (k_var (pv 2))) (kp k_int) (fun _ _ => rfl))) (kp k_int)) a_nil))))) (kp (k_mod (kp (k_idx rfl (kp (k_var (pv 2))) (kp k_int) (fun _ _ => rfl))) (kp k_int))) (fun _ _ => rfl)) a_nil)) (pg_name (i := 6) sc__law_presses.nd rfl (by first | exact Or.inl rfl | exact Or.inr rfl))
  (s_cons (s_set (n := False) (i := 7) sc__law_presses.nd rfl (by first | exact Or.inl rfl | exact Or.inr rfl) (k_mod (kp (k_idx rfl (kp (k_var (pv 3))) (kp (k_mul (kp k_int) (kp (k_var (pv 6))))) (fun _ _ => rfl))) (kp k_int)))
  (s_cons (s_set (n := False) (i := 8) sc__law_presses.nd rfl (by first | exact Or.inl rfl | exact Or.inr rfl) (k_add (kp (k_idx rfl (k_peek (pv 4)) (kp (k_var (pv 7))) (fun _ _ => rfl))) (kp (k_mod (kp (k_fdiv (kp (k_idx rfl (kp (k_var (pv 3))) (kp (k_mul (kp k_int) (kp (k_var (pv 6))))) (fun _ _ => rfl))) (kp k_int))) (kp (k_idx rfl (kp (kz (kf_lst (a_cons k_int (a_cons k_int (a_cons k_int a_nil)))))) (kp (k_mod (kp (k_fdiv (kp (k_idx rfl (kp (k_var (pv 3))) (kp (k_mul (kp k_int) (kp (k_var (pv 6))))) (fun _ _ => rfl))) (kp k_int))) (kp k_int))) (fun _ _ => rfl)))))))
  (s_cons (s_if (n := False) (t_eq hu rfl (kp (k_mod (kp (k_fdiv (kp (k_idx rfl (kp (k_var (pv 3))) (kp (k_mul (kp k_int) (kp (k_var (pv 6))))) (fun _ _ => rfl))) (kp k_int))) (kp k_int))) (kp k_int))
  (s_one (s_set (n := False) (i := 8) sc__law_presses.nd rfl (by first | exact Or.inl rfl | exact Or.inr rfl) (k_bi ((call_max2 rfl).or (cr_max rfl)) sem_max (by rfl) T.n_max (by decide +kernel) (b_cons (k_peek (pv 4)) b_nil))))
  s_nil)
  (s_cons (s_set (n := False) (i := 9) sc__law_presses.nd rfl (by first | exact Or.inl rfl | exact Or.inr rfl) (k_add (kp (k_add (kp (k_var (pv 8))) (kp k_int))) (kp (k_mod (kp (k_idx rfl (kp (k_var (pv 3))) (kp (k_add (kp (k_mul (kp k_int) (kp (k_var (pv 6))))) (kp k_int))) (fun _ _ => rfl))) (kp (k_idx rfl (kp (kz (kf_lst (a_cons k_int (a_cons k_int (a_cons k_int a_nil)))))) (kp (k_mod (kp (k_fdiv (kp (k_idx rfl (kp (k_var (pv 3))) (kp (k_add (kp (k_mul (kp k_int) (kp (k_var (pv 6))))) (kp k_int))) (fun _ _ => rfl))) (kp k_int))) (kp k_int))) (fun _ _ => rfl)))))))
  (s_one (s_if (n := False) (t_le (kp (k_var (pv 9))) (kp k_int))
  (s_cons (s_append (n := False) (pv 5) (a_cons (k_tup (a_cons (k_idx rfl (kp (kz (kf_lst (a_cons k_str (a_cons k_str a_nil))))) (kp (k_var (pv 7))) (fun _ _ => rfl)) (a_cons (k_var (pv 8)) (a_cons (k_var (pv 9)) a_nil)))) a_nil) rfl)
  (s_one (s_setIx (n := False) (pv 4) (k_var (pv 7)) (k_var (pv 9)))))
  s_nil)))))))
  (s_one (s_retO (pv 5))))))))
theorem ok_law (T : Txt K mg) : FnOk P w K mg base (L2.CX P w) 4 T.a_law T.d_law ["script"] (spOf K xr m_law) :=
  fn_okL (k := 3) (a := 18) (b := 1) (m := b_law) rfl rfl T.F_law sc_law fun cdv A outer s H F0 E hr => by
    have hu := hr.units
    have hx : ∀ σ, PassesAt (L2.CX P w) (cxOf (L2.CX P w) P w K mg base ["script", "at", "form", "presses", "sounds", "found", "k", "begin", "paddle", "plan", "first", "behind", "end", "both", "told", "due", "moment", "number"] "law" (defScope s_law) T.a_law cdv A outer s H E) σ (WE (fun cls dd _ H' => E cls dd H') σ) := fun σ => passAt (takes_of rfl rfl rfl rfl) σ
    exact (s_cons (s_for (n := False) (sem_name (i := 1)) (passes_of rfl) rfl (i_range1 (by rfl) T.n_range (a_cons k_int a_nil)) (pg_name (i := 1) sc_law.nd rfl (by first | exact Or.inl rfl | exact Or.inr rfl))
  (s_cons (s_set (n := False) (i := 2) sc_law.nd rfl (by first | exact Or.inl rfl | exact Or.inr rfl) (k_call (ok__law_form T) (hr.mono (by decide)) (by rfl) T.g__law_form T.F__law_form.kp T.b__law_form hx (a_cons (k_var (pv 0)) (a_cons (k_mul (kp k_int) (kp (k_var (pv 1)))) a_nil))))
  (s_cons (s_set (n := False) (i := 3) sc_law.nd rfl (by first | exact Or.inl rfl | exact Or.inr rfl) (k_call (ok__law_presses T) (hr.mono (by decide)) (by rfl) T.g__law_presses T.F__law_presses.kp T.b__law_presses hx (a_cons (k_var (pv 0)) (a_cons (k_add (kp (k_mul (kp k_int) (kp (k_var (pv 1))))) (kp k_int)) a_nil))))
  (s_cons (s_set (n := False) (i := 4) sc_law.nd rfl (by first | exact Or.inl rfl | exact Or.inr rfl) (k_call (ok_sent T) (hr.mono (by decide)) (by rfl) T.g_sent T.F_sent.kp T.b_sent hx (a_cons (k_var (pv 2)) (a_cons (kz (kf_ty call_list_of sem_list (by rfl) T.n_list (by decide +kernel) (b_cons (kp (k_var (pv 3))) b_nil))) a_nil))))
  (s_cons (s_setV (n := False) (i := 5) sc_law.nd rfl (by first | exact Or.inl rfl | exact Or.inr rfl) (kv_call (ok_stretches_sent T) (hr.mono (by decide)) (by rfl) T.g_stretches_sent T.F_stretches_sent.kp T.b_stretches_sent hx (a_cons (k_var (pv 2)) (a_cons (kz (kf_ty call_list_of sem_list (by rfl) T.n_list (by decide +kernel) (b_cons (kp (k_var (pv 3))) b_nil))) a_nil))))
  (s_cons (s_if (n := False) (t_bool (w_or (t_ne hu rfl (kp (k_bi call_len sem_len (by rfl) T.n_len (by decide +kernel) (b_cons (k_peek (pv 5)) b_nil))) (kp (k_bi ((call_max2 rfl).or (cr_max rfl)) sem_max (by rfl) T.n_max (by decide +kernel) (b_cons (kp k_int) (b_cons (kp (k_sub (kp (k_mul (kp k_int) (kp (k_bi call_len sem_len (by rfl) T.n_len (by decide +kernel) (b_cons (kp (k_var (pv 4))) b_nil))))) (kp k_int))) b_nil))))) (w_one (t_in hu rfl (by rfl) (kp k_bl) (kp (kz (kf_comp (own := [("number", 17)]) (sem_name (i := 17)) (by decide) rfl sc_law.nd (i_peek rfl (pv 5)) (blkOk_by (N := ["script", "at", "form", "presses", "sounds", "found", "k", "begin", "paddle", "plan", "first", "behind", "end", "both", "told", "due", "moment", "number"]) (sc := (defScope s_law)) (own := [("number", 17)]) (by decide +kernel)) (fun _ _ _ _ _ => (pg_name (i := 17) sc_law.nd rfl (by first | exact Or.inl rfl | exact Or.inr rfl))) (fun _ _ _ _ _ => ts_nil) (fun _ _ _ _ _ => (k_call (ok__law_whole T) (hr.mono (by decide)) (by rfl) T.g__law_whole T.F__law_whole.kp T.b__law_whole passNo (a_cons (k_var (pv 17)) a_nil))))))))))
  (s_one (s_ret (n := False) k_bl))
  s_nil)
  (s_cons (s_for (n := False) (sem_tupX (sems_cons (sem_name (i := 6)) (sems_cons (sem_tupG (is := [7, 8]) (k := 2) rfl) sems_nil))) (passes_of rfl) rfl (i_enum rfl (by rfl) T.n_enumerate (a_cons (k_var (pv 4)) a_nil)) (pg_tup rfl (pgs_cons (pg_name (i := 6) sc_law.nd rfl (by first | exact Or.inl rfl | exact Or.inr rfl)) (pgs_cons (pg_tup rfl (pgs_cons (pg_name (i := 7) sc_law.nd rfl (by first | exact Or.inl rfl | exact Or.inr rfl)) (pgs_cons (pg_name (i := 8) sc_law.nd rfl (by first | exact Or.inl rfl | exact Or.inr rfl)) pgs_nil))) pgs_nil)))
  (s_cons (s_if (n := False) (t_bool (w_or (t_ne hu rfl (kp (k_idx rfl (k_peek (pv 5)) (kp (k_mul (kp k_int) (kp (k_var (pv 6))))) (fun _ _ => rfl))) (kp (k_idx rfl (kp (k_var (pv 2))) (kp (k_lix rfl (kz (kf_lst (a_cons k_str (a_cons k_str a_nil)))) (k_var (pv 8)))) (fun _ _ => rfl)))) (w_one (t_ne hu rfl (kp (k_bi (cr_sum rfl) sem_sum (by rfl) T.n_sum (by decide +kernel) (b_cons (kp (k_sl rfl (k_peek (pv 5)) o_none (o_some (k_mul (kp k_int) (kp (k_var (pv 6))))))) b_nil))) (kp (k_sub (kp (k_var (pv 7))) (kp (k_idx rfl (kp (k_idx rfl (kp (k_var (pv 4))) (kp k_int) (fun _ _ => rfl))) (kp k_int) (fun _ _ => rfl)))))))))
  (s_one (s_ret (n := False) k_bl))
  s_nil)
  (s_one (s_if (n := False) (t_bool (w_and (t_gt (kp (k_var (pv 6))) (kp k_int)) (w_one (t_lt (kp (k_idx rfl (k_peek (pv 5)) (kp (k_sub (kp (k_mul (kp k_int) (kp (k_var (pv 6))))) (kp k_int))) (fun _ _ => rfl))) (kp (k_idx rfl (kp (k_var (pv 2))) (kp k_int) (fun _ _ => rfl)))))))
  (s_one (s_ret (n := False) k_bl))
  s_nil))))
  (s_cons (s_append (n := False) (pv 5) (a_cons k_int a_nil) rfl)
  (s_cons (s_set (n := False) (i := 9) sc_law.nd rfl (by first | exact Or.inl rfl | exact Or.inr rfl) (k_call (ok__law_draws T) (hr.mono (by decide)) (by rfl) T.g__law_draws T.F__law_draws.kp T.b__law_draws hx (a_cons (k_var (pv 0)) (a_cons (k_add (kp (k_mul (kp k_int) (kp (k_var (pv 1))))) (kp k_int)) (a_cons k_int (a_cons k_int a_nil))))))
  (s_cons (s_to (n := False) (sem_tupG (is := [10, 11]) (k := 2) rfl) (k_tup (a_cons (k_mod (kp (k_idx rfl (kp (k_var (pv 9))) (kp k_int) (fun _ _ => rfl))) (kp k_int)) (a_cons (k_mod (kp (k_idx rfl (kp (k_var (pv 9))) (kp k_int) (fun _ _ => rfl))) (kp k_int)) a_nil))) (pg_tup rfl (pgs_cons (pg_name (i := 10) sc_law.nd rfl (by first | exact Or.inl rfl | exact Or.inr rfl)) (pgs_cons (pg_name (i := 11) sc_law.nd rfl (by first | exact Or.inl rfl | exact Or.inr rfl)) pgs_nil))))
  (s_cons (s_par (n := False) (i := 7) (j := 12) rfl sc_law.nd rfl rfl (by decide) rfl rfl (a_cons (k_mod (kp (k_idx rfl (kp (k_var (pv 9))) (kp k_int) (fun _ _ => rfl))) (kp k_int)) (a_cons (k_add (kp (k_add (kp (k_mod (kp (k_idx rfl (kp (k_var (pv 9))) (kp k_int) (fun _ _ => rfl))) (kp k_int))) (kp k_int))) (kp (k_mod (kp (k_idx rfl (kp (k_var (pv 9))) (kp k_int) (fun _ _ => rfl))) (kp k_int)))) a_nil)) (by rfl))
  (s_cons (s_set (n := False) (i := 13) sc_law.nd rfl (by first | exact Or.inl rfl | exact Or.inr rfl) (kz (kf_lst (a_cons (k_tup (a_cons k_str (a_cons (k_add (kp (k_var (pv 7))) (kp (k_mul (kp (k_var (pv 11))) (kp (k_var (pv 10)))))) (a_cons (k_var (pv 12)) a_nil)))) (a_cons (k_tup (a_cons k_str (a_cons (k_add (kp (k_var (pv 7))) (kp (k_mul (kp (k_var (pv 11))) (kp (k_sub (kp k_int) (kp (k_var (pv 10)))))))) (a_cons (k_var (pv 12)) a_nil)))) a_nil)))))
  (s_cons (s_setLcZ (n := False) (i := 14) (own := [("moment", 16), ("paddle", 8)]) (sem_tupG (is := [16, 8]) (k := 2) rfl) (by decide) rfl sc_law.nd rfl rfl (sw_true rfl rfl rfl (by decide +kernel)) (ip_of (i_any rfl (k_call (ok_sent T) (hr.mono (by decide)) (by rfl) T.g_sent T.F_sent.kp T.b_sent hx (a_cons (k_var (pv 2)) (a_cons (k_var (pv 13)) a_nil))))) (blkOk_by (N := ["script", "at", "form", "presses", "sounds", "found", "k", "begin", "paddle", "plan", "first", "behind", "end", "both", "told", "due", "moment", "number"]) (sc := (defScope s_law)) (own := [("moment", 16), ("paddle", 8)]) (by decide +kernel)) (fun _ _ _ _ _ => (pg_tup rfl (pgs_cons (pg_name (i := 16) sc_law.nd rfl (by first | exact Or.inl rfl | exact Or.inr rfl)) (pgs_cons (pg_name (i := 8) sc_law.nd rfl (by first | exact Or.inl rfl | exact Or.inr rfl)) pgs_nil)))) (fun _ _ _ _ _ => ts_nil) (fun _ _ _ _ _ => (k_var (pv 8))))
  (s_cons (s_if (n := False) (t_eq hu rfl (kp (k_var (pv 11))) (kp k_int))
  (s_one (s_set (n := False) (i := 10) sc_law.nd rfl (by first | exact Or.inl rfl | exact Or.inr rfl) k_int))
  s_nil)
  (s_cons (s_setLcZ (n := False) (i := 15) (own := [("k", 6)]) (sem_name (i := 6)) (by decide) rfl sc_law.nd rfl rfl (sw_true rfl rfl rfl (by decide +kernel)) (ip_of (i_range1 (by rfl) T.n_range (a_cons (k_bi call_len sem_len (by rfl) T.n_len (by decide +kernel) (b_cons (kp (k_var (pv 14))) b_nil)) a_nil))) (blkOk_by (N := ["script", "at", "form", "presses", "sounds", "found", "k", "begin", "paddle", "plan", "first", "behind", "end", "both", "told", "due", "moment", "number"]) (sc := (defScope s_law)) (own := [("k", 6)]) (by decide +kernel)) (fun _ _ _ _ _ => (pg_name (i := 6) sc_law.nd rfl (by first | exact Or.inl rfl | exact Or.inr rfl))) (fun _ _ _ _ _ => ts_nil) (fun _ _ _ _ _ => (k_idx rfl (kp (kz (kf_lst (a_cons k_str (a_cons k_str a_nil))))) (kp (k_mod (kp (k_add (kp (k_var (pv 10))) (kp (k_var (pv 6))))) (kp k_int))) (fun _ _ => rfl))))
  (s_cons (s_if (n := False) (t_bool (w_or (t_bool (w_and (t_gt (kp (k_bi call_len sem_len (by rfl) T.n_len (by decide +kernel) (b_cons (kp (k_var (pv 14))) b_nil))) (kp k_int)) (w_and (t_gt (kp (k_add (kp (k_idx rfl (kp (k_var (pv 2))) (kp (k_var (pv 10))) (fun _ _ => rfl))) (kp (k_idx rfl (kp (k_var (pv 2))) (kp k_int) (fun _ _ => rfl))))) (kp (k_var (pv 11)))) (w_one (t_ne hu rfl (kp (k_sl rfl (kp (k_var (pv 14))) o_none (o_some k_int))) (kp (k_sl rfl (kp (k_var (pv 15))) o_none (o_some k_int)))))))) (w_one (t_ne hu rfl (kp (k_sl rfl (kp (k_var (pv 14))) o_none (o_some k_int))) (kp (k_sl rfl (kp (k_var (pv 15))) o_none (o_some k_int)))))))
  (s_one (s_ret (n := False) k_bl))
  s_nil)
  (s_one (s_if (n := False) (t_bool (w_and (t_gt (kp (k_add (kp (k_idx rfl (kp (k_var (pv 2))) (kp (k_var (pv 10))) (fun _ _ => rfl))) (kp (k_idx rfl (kp (k_var (pv 2))) (kp k_int) (fun _ _ => rfl))))) (kp (k_var (pv 11)))) (w_one (t_ne hu rfl (kp (k_sl rfl (kp (k_var (pv 14))) o_none (o_some (k_neg (kp k_int))))) (kp (k_sl rfl (kp (k_var (pv 15))) o_none (o_some (k_bi call_len sem_len (by rfl) T.n_len (by decide +kernel) (b_cons (kp (k_sl rfl (kp (k_var (pv 14))) o_none (o_some (k_neg (kp k_int))))) b_nil)))))))))
  (s_one (s_ret (n := False) k_bl))
  s_nil))))))))))))))))))
  (s_one (s_ret (n := False) k_bl)))
end
theorem all_mk (hT : ∀ ns : List Int, ns.length ≤ 63 → m_law [scr ns] = .ok (.bool true)) {l : PySem.W.OpenLaw} {w : World} {K : PySem.W.Frag} {h : Heap} {mg : Str → Option Value} {fa : Addr} (X : K.In h) (G : h.Ns mainGlobals mg) (hfa : mg "law" = some (.ref fa))
    {f0 : Addr} {od0 an0 : Option Addr} {sl0 : Array (Option Value)} {oc0 kV0 dc0 pm0 cd0 ct0 : Value}
    (a0 : PySem.W.nsIn K mainGlobals "is_wanted" = some (some (.ref f0))) (l0 : K.lookup f0 = some ⟨oc0, od0, .func (PySem.W.fnOf "is_wanted" "is_wanted" (defArgs s_is_wanted) (defBody s_is_wanted) (defScope s_is_wanted) .none kV0 dc0 pm0 an0 cd0 ct0), sl0⟩) (c0 : PySem.W.codeIn K cd0 "is_wanted" = true) (k0 : PySem.W.keepIn K (.ref f0) = true)
    {f1 : Addr} {od1 an1 : Option Addr} {sl1 : Array (Option Value)} {oc1 kV1 dc1 pm1 cd1 ct1 : Value}
    (a1 : PySem.W.nsIn K mainGlobals "next_down" = some (some (.ref f1))) (l1 : K.lookup f1 = some ⟨oc1, od1, .func (PySem.W.fnOf "next_down" "next_down" (defArgs s_next_down) (defBody s_next_down) (defScope s_next_down) .none kV1 dc1 pm1 an1 cd1 ct1), sl1⟩) (c1 : PySem.W.codeIn K cd1 "next_down" = true) (k1 : PySem.W.keepIn K (.ref f1) = true)
    {f2 : Addr} {od2 an2 : Option Addr} {sl2 : Array (Option Value)} {oc2 kV2 dc2 pm2 cd2 ct2 : Value}
    (a2 : PySem.W.nsIn K mainGlobals "sent" = some (some (.ref f2))) (l2 : K.lookup f2 = some ⟨oc2, od2, .func (PySem.W.fnOf "sent" "sent" (defArgs s_sent) (defBody s_sent) (defScope s_sent) .none kV2 dc2 pm2 an2 cd2 ct2), sl2⟩) (c2 : PySem.W.codeIn K cd2 "sent" = true) (k2 : PySem.W.keepIn K (.ref f2) = true)
    {f3 : Addr} {od3 an3 : Option Addr} {sl3 : Array (Option Value)} {oc3 kV3 dc3 pm3 cd3 ct3 : Value}
    (a3 : PySem.W.nsIn K mainGlobals "stretches_sent" = some (some (.ref f3))) (l3 : K.lookup f3 = some ⟨oc3, od3, .func (PySem.W.fnOf "stretches_sent" "stretches_sent" (defArgs s_stretches_sent) (defBody s_stretches_sent) (defScope s_stretches_sent) .none kV3 dc3 pm3 an3 cd3 ct3), sl3⟩) (c3 : PySem.W.codeIn K cd3 "stretches_sent" = true) (k3 : PySem.W.keepIn K (.ref f3) = true)
    {f4 : Addr} {od4 an4 : Option Addr} {sl4 : Array (Option Value)} {oc4 kV4 dc4 pm4 cd4 ct4 : Value}
    (a4 : PySem.W.nsIn K mainGlobals "_law_cell" = some (some (.ref f4))) (l4 : K.lookup f4 = some ⟨oc4, od4, .func (PySem.W.fnOf "_law_cell" "_law_cell" (defArgs s__law_cell) (defBody s__law_cell) (defScope s__law_cell) .none kV4 dc4 pm4 an4 cd4 ct4), sl4⟩) (c4 : PySem.W.codeIn K cd4 "_law_cell" = true) (k4 : PySem.W.keepIn K (.ref f4) = true)
    {f5 : Addr} {od5 an5 : Option Addr} {sl5 : Array (Option Value)} {oc5 kV5 dc5 pm5 cd5 ct5 : Value}
    (a5 : PySem.W.nsIn K mainGlobals "_law_draws" = some (some (.ref f5))) (l5 : K.lookup f5 = some ⟨oc5, od5, .func (PySem.W.fnOf "_law_draws" "_law_draws" (defArgs s__law_draws) (defBody s__law_draws) (defScope s__law_draws) .none kV5 dc5 pm5 an5 cd5 ct5), sl5⟩) (c5 : PySem.W.codeIn K cd5 "_law_draws" = true) (k5 : PySem.W.keepIn K (.ref f5) = true)
    {f6 : Addr} {od6 an6 : Option Addr} {sl6 : Array (Option Value)} {oc6 kV6 dc6 pm6 cd6 ct6 : Value}
    (a6 : PySem.W.nsIn K mainGlobals "_law_whole" = some (some (.ref f6))) (l6 : K.lookup f6 = some ⟨oc6, od6, .func (PySem.W.fnOf "_law_whole" "_law_whole" (defArgs s__law_whole) (defBody s__law_whole) (defScope s__law_whole) .none kV6 dc6 pm6 an6 cd6 ct6), sl6⟩) (c6 : PySem.W.codeIn K cd6 "_law_whole" = true) (k6 : PySem.W.keepIn K (.ref f6) = true)
    {f7 : Addr} {od7 an7 : Option Addr} {sl7 : Array (Option Value)} {oc7 kV7 dc7 pm7 cd7 ct7 : Value}
    (a7 : PySem.W.nsIn K mainGlobals "_law_form" = some (some (.ref f7))) (l7 : K.lookup f7 = some ⟨oc7, od7, .func (PySem.W.fnOf "_law_form" "_law_form" (defArgs s__law_form) (defBody s__law_form) (defScope s__law_form) .none kV7 dc7 pm7 an7 cd7 ct7), sl7⟩) (c7 : PySem.W.codeIn K cd7 "_law_form" = true) (k7 : PySem.W.keepIn K (.ref f7) = true)
    {f8 : Addr} {od8 an8 : Option Addr} {sl8 : Array (Option Value)} {oc8 kV8 dc8 pm8 cd8 ct8 : Value}
    (a8 : PySem.W.nsIn K mainGlobals "_law_presses" = some (some (.ref f8))) (l8 : K.lookup f8 = some ⟨oc8, od8, .func (PySem.W.fnOf "_law_presses" "_law_presses" (defArgs s__law_presses) (defBody s__law_presses) (defScope s__law_presses) .none kV8 dc8 pm8 an8 cd8 ct8), sl8⟩) (c8 : PySem.W.codeIn K cd8 "_law_presses" = true) (k8 : PySem.W.keepIn K (.ref f8) = true)
    {f9 : Addr} {od9 an9 : Option Addr} {sl9 : Array (Option Value)} {oc9 kV9 dc9 pm9 cd9 ct9 : Value}
    (a9 : PySem.W.nsIn K mainGlobals "law" = some (some (.ref f9))) (l9 : K.lookup f9 = some ⟨oc9, od9, .func (PySem.W.fnOf "law" "law" (defArgs s_law) (defBody s_law) (defScope s_law) .none kV9 dc9 pm9 an9 cd9 ct9), sl9⟩) (c9 : PySem.W.codeIn K cd9 "law" = true) (k9 : PySem.W.keepIn K (.ref f9) = true)
    (z_bool : PySem.W.nsIn K mainGlobals "bool" = some none)
    (z_enumerate : PySem.W.nsIn K mainGlobals "enumerate" = some none)
    (z_int : PySem.W.nsIn K mainGlobals "int" = some none)
    (z_isinstance : PySem.W.nsIn K mainGlobals "isinstance" = some none)
    (z_len : PySem.W.nsIn K mainGlobals "len" = some none)
    (z_list : PySem.W.nsIn K mainGlobals "list" = some none)
    (z_max : PySem.W.nsIn K mainGlobals "max" = some none)
    (z_min : PySem.W.nsIn K mainGlobals "min" = some none)
    (z_range : PySem.W.nsIn K mainGlobals "range" = some none)
    (z_sum : PySem.W.nsIn K mainGlobals "sum" = some none)
    {ad_PADDLES : Addr} {ob_PADDLES : Obj} {its_PADDLES : Array Value} {n_PADDLES : Nat} (y_PADDLES : PySem.W.nsIn K mainGlobals "PADDLES" = some (some (.ref ad_PADDLES))) (yo_PADDLES : K.lookup ad_PADDLES = some ob_PADDLES) (yc_PADDLES : ob_PADDLES.cls = .type "tuple") (yd_PADDLES : ob_PADDLES.data = .seq its_PADDLES n_PADDLES) (yn_PADDLES : ob_PADDLES.dict = none) (yz_PADDLES : its_PADDLES.size ≤ sizeLine) (yv_PADDLES : Vals [(.str "short" : V), (.str "long" : V)] its_PADDLES.toList)
    : ∃ fd : FuncData, (∀ (s : Shared) (v : Value), BindsTo s fd ⟨[v], []⟩ [("script", v)]) ∧ ∀ base : Heap, K.In base → base.Ns mainGlobals mg → FnOk l.prog w K mg base (L2.CX l.prog w) 4 fa fd ["script"] (spLaw K) := by
  have e := hfa.symm.trans (PySem.W.mg_of X G a9)
  cases e
  have F0 := fun_mk (st := s_is_wanted) l0 c0 k0
  have B0 := F0.binds (ps := ["presses", "paddle", "begin", "end"]) fun _ _ _ _ _ _ us hl => match us, hl with | [_, _, _, _], _ => rfl
  have F1 := fun_mk (st := s_next_down) l1 c1 k1
  have B1 := F1.binds (ps := ["presses", "moment"]) fun _ _ _ _ _ _ us hl => match us, hl with | [_, _], _ => rfl
  have F2 := fun_mk (st := s_sent) l2 c2 k2
  have B2 := F2.binds (ps := ["form", "presses"]) fun _ _ _ _ _ _ us hl => match us, hl with | [_, _], _ => rfl
  have F3 := fun_mk (st := s_stretches_sent) l3 c3 k3
  have B3 := F3.binds (ps := ["form", "presses"]) fun _ _ _ _ _ _ us hl => match us, hl with | [_, _], _ => rfl
  have F4 := fun_mk (st := s__law_cell) l4 c4 k4
  have B4 := F4.binds (ps := ["script", "k"]) fun _ _ _ _ _ _ us hl => match us, hl with | [_, _], _ => rfl
  have F5 := fun_mk (st := s__law_draws) l5 c5 k5
  have B5 := F5.binds (ps := ["script", "k", "many", "base"]) fun _ _ _ _ _ _ us hl => match us, hl with | [_, _, _, _], _ => rfl
  have F6 := fun_mk (st := s__law_whole) l6 c6 k6
  have B6 := F6.binds (ps := ["found"]) fun _ _ _ _ _ _ us hl => match us, hl with | [_], _ => rfl
  have F7 := fun_mk (st := s__law_form) l7 c7 k7
  have B7 := F7.binds (ps := ["script", "at"]) fun _ _ _ _ _ _ us hl => match us, hl with | [_, _], _ => rfl
  have F8 := fun_mk (st := s__law_presses) l8 c8 k8
  have B8 := F8.binds (ps := ["script", "at"]) fun _ _ _ _ _ _ us hl => match us, hl with | [_, _], _ => rfl
  have F9 := fun_mk (st := s_law) l9 c9 k9
  have B9 := F9.binds (ps := ["script"]) fun _ _ _ _ _ _ us hl => match us, hl with | [_], _ => rfl
  let T : Txt K mg := {
    a_is_wanted := _, d_is_wanted := _, F_is_wanted := F0, g_is_wanted := PySem.W.mg_of X G a0, b_is_wanted := B0,
    a_next_down := _, d_next_down := _, F_next_down := F1, g_next_down := PySem.W.mg_of X G a1, b_next_down := B1,
    a_sent := _, d_sent := _, F_sent := F2, g_sent := PySem.W.mg_of X G a2, b_sent := B2,
    a_stretches_sent := _, d_stretches_sent := _, F_stretches_sent := F3, g_stretches_sent := PySem.W.mg_of X G a3, b_stretches_sent := B3,
    a__law_cell := _, d__law_cell := _, F__law_cell := F4, g__law_cell := PySem.W.mg_of X G a4, b__law_cell := B4,
    a__law_draws := _, d__law_draws := _, F__law_draws := F5, g__law_draws := PySem.W.mg_of X G a5, b__law_draws := B5,
    a__law_whole := _, d__law_whole := _, F__law_whole := F6, g__law_whole := PySem.W.mg_of X G a6, b__law_whole := B6,
    a__law_form := _, d__law_form := _, F__law_form := F7, g__law_form := PySem.W.mg_of X G a7, b__law_form := B7,
    a__law_presses := _, d__law_presses := _, F__law_presses := F8, g__law_presses := PySem.W.mg_of X G a8, b__law_presses := B8,
    a_law := _, d_law := _, F_law := F9, g_law := PySem.W.mg_of X G a9, b_law := B9,
    n_bool := PySem.W.mg_none_of X G z_bool,
    n_enumerate := PySem.W.mg_none_of X G z_enumerate,
    n_int := PySem.W.mg_none_of X G z_int,
    n_isinstance := PySem.W.mg_none_of X G z_isinstance,
    n_len := PySem.W.mg_none_of X G z_len,
    n_list := PySem.W.mg_none_of X G z_list,
    n_max := PySem.W.mg_none_of X G z_max,
    n_min := PySem.W.mg_none_of X G z_min,
    n_range := PySem.W.mg_none_of X G z_range,
    n_sum := PySem.W.mg_none_of X G z_sum,
    a_PADDLES := _, g_PADDLES := PySem.W.mg_of X G y_PADDLES, p_PADDLES := fun F => .tup (.inr ⟨_, _, _, yo_PADDLES, yc_PADDLES, yd_PADDLES, yz_PADDLES, yv_PADDLES⟩) (.cons (.str _) (.cons (.str _) .nil)), o_PADDLES := _, l_PADDLES := yo_PADDLES, c_PADDLES := yc_PADDLES, dn_PADDLES := yn_PADDLES }
  exact ⟨T.d_law, fun s v => .of_eq rfl, fun base _ _ => law_end (xr := fun _ _ _ _ => False) hT (ok_law T)⟩
end LawK19

open PySem PySem.W PyProof.Rows
set_option maxHeartbeats 0 in
theorem PySem.Challenge.cw_longshort_k19_stretches_that_are_sent_holds : PySem.Challenge.rw_longshort_k19_stretches_that_are_sent.Holds := by
  w_on; o_law; k_head; (case hw => w_witness2)
  k_fill
  refine L2.walk_of (l := PySem.Challenge.rw_longshort_k19_stretches_that_are_sent) (n := 63) (k := 4) (x := "script") (CX := fun w => L2.CX (PySem.Challenge.rw_longshort_k19_stretches_that_are_sent).prog w) (sp := fun w => DL.spLaw _) rfl (by decide) rfl ⟨rfl, by decide, by decide⟩ (fun w h Y => PySem.W.kIn_of Y) ?F (fun _ _ a ns hl _ hS => ⟨a, ns, rfl, hS, hl, fun _ => rfl⟩) (fun _ _ _ _ _ h => DL.cx_no h)
  case F =>
    intro w mg fa h KX G hmg
    refine' LawK19.all_mk (fun ns hn => LawK19.law_true ns hn) KX G hmg ?a0 ?l0 ?c0 ?k0 ?a1 ?l1 ?c1 ?k1 ?a2 ?l2 ?c2 ?k2 ?a3 ?l3 ?c3 ?k3 ?a4 ?l4 ?c4 ?k4 ?a5 ?l5 ?c5 ?k5 ?a6 ?l6 ?c6 ?k6 ?a7 ?l7 ?c7 ?k7 ?a8 ?l8 ?c8 ?k8 ?a9 ?l9 ?c9 ?k9 ?z_bool ?z_enumerate ?z_int ?z_isinstance ?z_len ?z_list ?z_max ?z_min ?z_range ?z_sum ?y_PADDLES ?yo_PADDLES ?yc_PADDLES ?yd_PADDLES ?yn_PADDLES ?yz_PADDLES ?yv_PADDLES
    (case a0 => k_is); (case l0 => k_is); (case c0 => k_is); (case k0 => k_is); (case a1 => k_is); (case l1 => k_is); (case c1 => k_is); (case k1 => k_is); (case a2 => k_is); (case l2 => k_is); (case c2 => k_is); (case k2 => k_is); (case a3 => k_is); (case l3 => k_is); (case c3 => k_is); (case k3 => k_is); (case a4 => k_is); (case l4 => k_is); (case c4 => k_is); (case k4 => k_is); (case a5 => k_is); (case l5 => k_is); (case c5 => k_is); (case k5 => k_is); (case a6 => k_is); (case l6 => k_is); (case c6 => k_is); (case k6 => k_is); (case a7 => k_is); (case l7 => k_is); (case c7 => k_is); (case k7 => k_is); (case a8 => k_is); (case l8 => k_is); (case c8 => k_is); (case k8 => k_is); (case a9 => k_is); (case l9 => k_is); (case c9 => k_is); (case k9 => k_is); (case z_bool => k_is); (case z_enumerate => k_is); (case z_int => k_is); (case z_isinstance => k_is); (case z_len => k_is); (case z_list => k_is); (case z_max => k_is); (case z_min => k_is); (case z_range => k_is); (case z_sum => k_is); (case y_PADDLES => k_is); (case yo_PADDLES => k_is); (case yc_PADDLES => rfl); (case yd_PADDLES => rfl); (case yn_PADDLES => rfl); (case yz_PADDLES => decide); (case yv_PADDLES => exact (.cons ⟨_, rfl⟩ (.cons ⟨_, rfl⟩ .nil)))

