import PyProof.Rows.All
import HandS.ForMost
import HandS.IsInst
import HandS.Deep
import HandS.Flow
import HandS.Zip
import HandS.Style
import HandS.TupAny
import HandS.Wide
import KE.DataMinMax
import KE.SortData
import KE.Datum
import HandS.More
import HandS.Defaults
import HandS.HeadHook4
import HandS.Head2
import HandS.HeadEnd
import HandS.RaiseMore
import PyProof.ReprRoads
import HandS.HeadWalk
import PySem.Challenge.RW_fanrounds_k09_whole_types_and_chains
section
set_option Elab.async false
set_option linter.all false
set_option maxRecDepth 100000
namespace VE
open PySem PySem.Spec PyProof.Rows L2

/-! ### plain values -/
inductive PV where
  | non | bl (b : Bool) | int (i : Int) | str (x : Str)
  | tup (xs : List PV) | lst (xs : List PV) | dct0 | hnd | ty (n : String) | fnc (x : Str)
  | ins (c : Str) (ns : List Str) (vs : List PV)

structure Gh where
  K : PySem.W.Frag
  mg : Str → Option Value
  hO : Option Addr

mutual
inductive Rep (G : Gh) (F : Hp) : V → PV → Prop
  | non : Rep G F .non .non
  | bl (b : Bool) : Rep G F (.bl b) (.bl b)
  | int (i : Int) : Rep G F (.int i) (.int i)
  | str (x : Str) : Rep G F (.str x) (.str x)
  | ty (n : String) : Rep G F (.ty n) (.ty n)
  | hnd {a : Addr} : G.hO = some a → Rep G F (.ref a) .hnd
  | fnc {a : Addr} {x : Str} : G.mg x = some (.ref a) → Rep G F (.ref a) (.fnc x)
  | tup {a : Addr} {vs : List V} {ps : List PV} : SqT G.K F a vs → Reps G F vs ps → Rep G F (.ref a) (.tup ps)
  | lst {a : Addr} {vs : List V} {ps : List PV} : F a = some (.lst vs) → Reps G F vs ps → Rep G F (.ref a) (.lst ps)
  | dct0 {a : Addr} : F a = some (.dK []) → Rep G F (.ref a) .dct0
  | ins {a C dx : Addr} {c : Str} {fs : List (Str × V)} {ns : List Str} {ps : List PV} : G.mg c = some (.ref C) → F a = some (.ins C dx fs) → F dx = some (.own a) → fs.map (·.1) = ns → Reps G F (fs.map (·.2)) ps → Rep G F (.ref a) (.ins c ns ps)
inductive Reps (G : Gh) (F : Hp) : List V → List PV → Prop
  | nil : Reps G F [] []
  | cons {v : V} {p : PV} {vs : List V} {ps : List PV} : Rep G F v p → Reps G F vs ps → Reps G F (v :: vs) (p :: ps)
end

theorem Same.sqt {K : PySem.W.Frag} {F F' : Hp} {a : Addr} {xs : List V} (h : Same F F') (q : SqT K F a xs) : SqT K F' a xs := by
  rcases q with (q | ⟨o, q⟩) | q
  · exact .inl (.inl (h _ _ q))
  · exact .inl (.inr ⟨o, h _ _ q⟩)
  · exact .inr q

section
variable {G : Gh} {F F' : Hp}
mutual
theorem Rep.mono (hs : Same F F') : ∀ {v : V} {p : PV}, Rep G F v p → Rep G F' v p
  | _, _, .non => .non
  | _, _, .bl b => .bl b
  | _, _, .int b => .int b
  | _, _, .str b => .str b
  | _, _, .ty b => .ty b
  | _, _, .hnd h => .hnd h
  | _, _, .fnc h => .fnc h
  | _, _, .tup h r => .tup (Same.sqt hs h) (Reps.mono hs r)
  | _, _, .lst h r => .lst (hs _ _ h) (Reps.mono hs r)
  | _, _, .dct0 h => .dct0 (hs _ _ h)
  | _, _, .ins h1 h2 h3 h4 r => .ins h1 (hs _ _ h2) (hs _ _ h3) h4 (Reps.mono hs r)
theorem Reps.mono (hs : Same F F') : ∀ {vs : List V} {ps : List PV}, Reps G F vs ps → Reps G F' vs ps
  | _, _, .nil => .nil
  | _, _, .cons h r => .cons (Rep.mono hs h) (Reps.mono hs r)
end
theorem Reps.length : ∀ {vs : List V} {ps : List PV}, Reps G F vs ps → vs.length = ps.length
  | _, _, .nil => rfl
  | _, _, .cons _ r => by simp [Reps.length r]
theorem Reps.get : ∀ {vs : List V} {ps : List PV} {i : Nat} {p : PV}, Reps G F vs ps → ps[i]? = some p → ∃ v, vs[i]? = some v ∧ Rep G F v p
  | _, _, _, _, .nil, e => by simp at e
  | _, _, 0, _, .cons h _, e => by simp at e; subst e; exact ⟨_, rfl, h⟩
  | _, _, i + 1, p, .cons _ r, e => by
    obtain ⟨v, h1, h2⟩ := Reps.get (i := i) (p := p) r (by simpa using e)
    exact ⟨v, by simpa using h1, h2⟩
theorem Reps.getV : ∀ {vs : List V} {ps : List PV} {i : Nat} {v : V}, Reps G F vs ps → vs[i]? = some v → ∃ p, ps[i]? = some p ∧ Rep G F v p
  | _, _, _, _, .nil, e => by simp at e
  | _, _, 0, _, .cons h _, e => by simp at e; subst e; exact ⟨_, rfl, h⟩
  | _, _, i + 1, v, .cons _ r, e => by
    obtain ⟨p, h1, h2⟩ := Reps.getV (i := i) (v := v) r (by simpa using e)
    exact ⟨p, by simpa using h1, h2⟩
theorem Reps.append : ∀ {vs us : List V} {ps qs : List PV}, Reps G F vs ps → Reps G F us qs → Reps G F (vs ++ us) (ps ++ qs)
  | _, _, _, _, .nil, s => s
  | _, _, _, _, .cons h r, s => .cons h (Reps.append r s)
theorem Reps.take : ∀ {vs : List V} {ps : List PV} (n : Nat), Reps G F vs ps → Reps G F (vs.take n) (ps.take n)
  | _, _, 0, _ => .nil
  | _, _, _ + 1, .nil => .nil
  | _, _, n + 1, .cons h r => .cons h (Reps.take n r)
theorem Reps.drop : ∀ {vs : List V} {ps : List PV} (n : Nat), Reps G F vs ps → Reps G F (vs.drop n) (ps.drop n)
  | _, _, 0, r => r
  | _, _, _ + 1, .nil => .nil
  | _, _, n + 1, .cons _ r => Reps.drop n r
theorem Reps.set : ∀ {vs : List V} {ps : List PV} {v : V} {p : PV} (n : Nat), Reps G F vs ps → Rep G F v p → Reps G F (vs.set n v) (ps.set n p)
  | _, _, _, _, _, .nil, _ => .nil
  | _, _, _, _, 0, .cons _ r, h => .cons h r
  | _, _, _, _, n + 1, .cons h r, q => .cons h (Reps.set n r q)
theorem Reps.eraseIdx : ∀ {vs : List V} {ps : List PV} (n : Nat), Reps G F vs ps → Reps G F (vs.eraseIdx n) (ps.eraseIdx n)
  | _, _, _, .nil => .nil
  | _, _, 0, .cons _ r => r
  | _, _, n + 1, .cons h r => .cons h (Reps.eraseIdx n r)
theorem Reps.reverse {vs : List V} {ps : List PV} (h : Reps G F vs ps) : Reps G F vs.reverse ps.reverse := by
  induction vs generalizing ps with
  | nil => cases h; exact .nil
  | cons v vs ih => cases h with | cons h1 h2 => rw [List.reverse_cons, List.reverse_cons]; exact Reps.append (ih h2) (.cons h1 .nil)
theorem Reps.ints : ∀ (ns : List Int), Reps G F (ns.map V.int) (ns.map PV.int)
  | [] => .nil
  | n :: ns => .cons (.int n) (Reps.ints ns)
theorem Reps.of_ints : ∀ {ns : List Int} {vs : List V}, Reps G F vs (ns.map PV.int) → vs = ns.map V.int
  | [], _, .nil => rfl
  | n :: ns, _, .cons h r => by cases h; rw [List.map_cons, Reps.of_ints r]
theorem Reps.of_bls : ∀ {ns : List Bool} {vs : List V}, Reps G F vs (ns.map PV.bl) → vs = ns.map V.bl
  | [], _, .nil => rfl
  | n :: ns, _, .cons h r => by cases h; rw [List.map_cons, Reps.of_bls r]
end

/-! ### slots, states -/
inductive Sl where
  | no | val (p : PV) | own (xs : List PV)
def Sl.pv : Sl → PV
  | .no => .non
  | .val p => p
  | .own xs => .lst xs
abbrev Rho := List Sl

structure Own (G : Gh) (Fr F H : Hp) (a : Addr) (vs : List V) (xs : List PV) : Prop where
  at_ : H a = some (.lst vs)
  rep : Reps G F vs xs
  nF : F a = none
  nh : G.hO ≠ some a
  nFr : Fr a = none

def HandR (G : Gh) (F H : Hp) : Prop := ∀ a, G.hO = some a → F a = none ∧ ∃ (c : Addr) (cs : List Int) (i b m n : Int),
  H a = some (.lst [.ref c, .int i, .int b, .int m, .int n]) ∧ F c = some (.lst (cs.map V.int)) ∧ cs.length ≤ 63 ∧ 0 ≤ i

structure RB (G : Gh) (Fr F H : Hp) : Prop where
  sub : Same F H
  fr : ∀ b o, Fr b = some o → H b = some o ∧ F b = none ∧ G.hO ≠ some b
  hand : HandR G F H

structure Rr (G : Gh) (Fr F : Hp) (σ : L2.St) (H : Hp) (ρ : Rho) : Prop extends RB G Fr F H where
  len : ρ.length = σ.length
  val : ∀ (i : Nat) (p : PV), ρ[i]? = some (Sl.val p) → ∃ v, σ[i]? = some (some v) ∧ Rep G F v p
  own : ∀ (i : Nat) (xs : List PV), ρ[i]? = some (Sl.own xs) → ∃ a vs, σ[i]? = some (some (V.ref a)) ∧ Own G Fr F H a vs xs
  sep : ∀ (i j : Nat) (xs ys : List PV) (a : Addr), ρ[i]? = some (Sl.own xs) → ρ[j]? = some (Sl.own ys) → σ[i]? = some (some (V.ref a)) → σ[j]? = some (some (V.ref a)) → i = j

def Apart (σ : L2.St) (ρ : Rho) (a : Addr) : Prop := ∀ (i : Nat) (ys : List PV), ρ[i]? = some (Sl.own ys) → σ[i]? ≠ some (some (V.ref a))

def RO (G : Gh) (Fr F : Hp) (σ : L2.St) (H : Hp) (ρ : Rho) (v : V) : Sl → Prop
  | .no => False
  | .val p => Rep G F v p
  | .own xs => ∃ a vs, v = .ref a ∧ Own G Fr F H a vs xs ∧ Apart σ ρ a

theorem same_upd {H : Hp} {p : Addr} {o : HO} (h : H p = none) : Same H (upd H p o) := fun b x e => by
  rw [upd_ne (ne_of_none e h)]; exact e

section
variable {G : Gh} {Fr F F' F1 F2 H H' H1 : Hp} {σ : L2.St} {ρ : Rho} {a p : Addr} {v : V}

theorem RB.nF (R : RB G Fr F H) (h : H a = none) : F a = none := Same.free R.sub h

/-- freezing an owned list -/
theorem RB.freeze {vs : List V} {xs : List PV} (R : RB G Fr F H) (o : Own G Fr F H a vs xs) : RB G Fr (upd F a (.lst vs)) H where
  sub := fun b x e => by
    by_cases hb : b = a
    · subst hb; rw [upd_same] at e; cases e; exact o.at_
    · rw [upd_ne hb] at e; exact R.sub b x e
  fr := fun b x e => by
    obtain ⟨h1, h2, h3⟩ := R.fr b x e
    have hb : b ≠ a := fun z => by subst z; rw [o.nFr] at e; cases e
    exact ⟨h1, by rw [upd_ne hb]; exact h2, h3⟩
  hand := fun b e => by
    obtain ⟨h1, c, cs, i, b', m, n, e1, e2, e3, e4⟩ := R.hand b e
    have hb : b ≠ a := fun z => by subst z; exact o.nh e
    refine ⟨by rw [upd_ne hb]; exact h1, c, cs, i, b', m, n, e1, ?_, e3, e4⟩
    exact same_upd o.nF _ _ e2
theorem Own.keep {vs : List V} {xs : List PV} {b : Addr} {ob : HO} (o : Own G Fr F H b vs xs) (q : F a = none) (h : b ≠ a) : Own G Fr (upd F a ob) H b vs xs :=
  ⟨o.at_, o.rep.mono (same_upd q), by rw [upd_ne h]; exact o.nF, o.nh, o.nFr⟩
theorem Rr.freeze {vs : List V} {xs : List PV} (R : Rr G Fr F σ H ρ) (o : Own G Fr F H a vs xs) (ap : Apart σ ρ a) : Rr G Fr (upd F a (.lst vs)) σ H ρ where
  toRB := R.toRB.freeze o
  len := R.len
  val := fun i p e => by
    obtain ⟨v, h1, h2⟩ := R.val i p e
    exact ⟨v, h1, h2.mono (same_upd o.nF)⟩
  own := fun i ys e => by
    obtain ⟨b, us, h1, h2⟩ := R.own i ys e
    exact ⟨b, us, h1, h2.keep o.nF (fun z => ap i ys e (by rw [h1, z]))⟩
  sep := R.sep
/-- a result as a plain value -/
theorem RO.pv {r : Sl} (R : Rr G Fr F σ H ρ) (h : RO G Fr F σ H ρ v r) : ∃ F', Same F F' ∧ Rr G Fr F' σ H ρ ∧ Rep G F' v r.pv := by
  cases r with
  | no => exact False.elim h
  | val p => exact ⟨F, Same.refl F, R, h⟩
  | own xs =>
    obtain ⟨b, vs, rfl, o, ap⟩ := h
    exact ⟨_, same_upd o.nF, R.freeze o ap, .lst upd_same (o.rep.mono (same_upd o.nF))⟩

/-- something new is laid and kept for good -/
theorem RB.laid {o : HO} (R : RB G Fr F H) (hp : H p = none) : RB G Fr (upd F p o) (upd H p o) where
  sub := fun b x e => by
    by_cases hb : b = p
    · subst hb; rw [upd_same] at e ⊢; exact e
    · rw [upd_ne hb] at e ⊢; exact R.sub b x e
  fr := fun b x e => by
    obtain ⟨h1, h2, h3⟩ := R.fr b x e
    have hb : b ≠ p := ne_of_none h1 hp
    exact ⟨by rw [upd_ne hb]; exact h1, by rw [upd_ne hb]; exact h2, h3⟩
  hand := fun b e => by
    obtain ⟨h1, c, cs, i, b', m, n, e1, e2, e3, e4⟩ := R.hand b e
    have hb : b ≠ p := ne_of_none e1 hp
    refine ⟨by rw [upd_ne hb]; exact h1, c, cs, i, b', m, n, by rw [upd_ne hb]; exact e1, ?_, e3, e4⟩
    exact same_upd (R.nF hp) _ _ e2
theorem Own.laid {vs : List V} {xs : List PV} {b : Addr} {ob : HO} (o : Own G Fr F H b vs xs) (R : RB G Fr F H) (hp : H p = none) : Own G Fr (upd F p ob) (upd H p ob) b vs xs := by
  have hb : b ≠ p := ne_of_none o.at_ hp
  exact ⟨by rw [upd_ne hb]; exact o.at_, o.rep.mono (same_upd (R.nF hp)), by rw [upd_ne hb]; exact o.nF, o.nh, o.nFr⟩
theorem Rr.laid {o : HO} (R : Rr G Fr F σ H ρ) (hp : H p = none) : Rr G Fr (upd F p o) σ (upd H p o) ρ where
  toRB := R.toRB.laid hp
  len := R.len
  val := fun i q e => by
    obtain ⟨v, h1, h2⟩ := R.val i q e
    exact ⟨v, h1, h2.mono (same_upd (R.nF hp))⟩
  own := fun i ys e => by
    obtain ⟨b, us, h1, h2⟩ := R.own i ys e
    exact ⟨b, us, h1, h2.laid R.toRB hp⟩
  sep := R.sep
/-- a new list, not yet kept -/
theorem RB.fresh {o : HO} (R : RB G Fr F H) (hp : H p = none) : RB G Fr F (upd H p o) where
  sub := R.sub.trans (same_upd hp)
  fr := fun b x e => by
    obtain ⟨h1, h2, h3⟩ := R.fr b x e
    exact ⟨same_upd hp _ _ h1, h2, h3⟩
  hand := fun b e => by
    obtain ⟨h1, c, cs, i, b', m, n, e1, e2, e3, e4⟩ := R.hand b e
    exact ⟨h1, c, cs, i, b', m, n, same_upd hp _ _ e1, e2, e3, e4⟩
theorem Rr.fresh {o : HO} (R : Rr G Fr F σ H ρ) (hp : H p = none) : Rr G Fr F σ (upd H p o) ρ where
  toRB := R.toRB.fresh hp
  len := R.len
  val := R.val
  own := fun i ys e => by
    obtain ⟨b, us, h1, h2⟩ := R.own i ys e
    exact ⟨b, us, h1, ⟨same_upd hp _ _ h2.at_, h2.rep, h2.nF, h2.nh, h2.nFr⟩⟩
  sep := R.sep
theorem RB.notHand (R : RB G Fr F H) (hp : H p = none) : G.hO ≠ some p := fun e => by
  obtain ⟨_, c, cs, i, b', m, n, e1, _⟩ := R.hand p e
  rw [hp] at e1; cases e1
theorem RB.notFr (R : RB G Fr F H) (hp : H p = none) : Fr p = none := by
  cases q : Fr p with
  | none => rfl
  | some o => have := (R.fr p o q).1; rw [hp] at this; cases this
theorem Rr.freshOwn {vs : List V} {xs : List PV} (R : Rr G Fr F σ H ρ) (hp : H p = none) (rs : Reps G F vs xs) : RO G Fr F σ (upd H p (.lst vs)) ρ (.ref p) (.own xs) :=
  ⟨p, vs, rfl, ⟨upd_same, rs, R.nF hp, R.notHand hp, R.notFr hp⟩, fun i ys e z => by
    obtain ⟨b, us, h1, h2⟩ := R.own i ys e
    rw [h1] at z; cases z
    have := h2.at_; rw [hp] at this; cases this⟩
/-- an owned list is written -/
theorem RB.write {vs ws : List V} {xs : List PV} (R : RB G Fr F H) (o : Own G Fr F H a vs xs) : RB G Fr F (upd H a (.lst ws)) where
  sub := fun b x e => by rw [upd_ne (ne_of_none e o.nF)]; exact R.sub b x e
  fr := fun b x e => by
    obtain ⟨h1, h2, h3⟩ := R.fr b x e
    exact ⟨by rw [upd_ne (ne_of_none e o.nFr)]; exact h1, h2, h3⟩
  hand := fun b e => by
    obtain ⟨h1, c, cs, i, b', m, n, e1, e2, e3, e4⟩ := R.hand b e
    have hb : b ≠ a := fun z => by subst z; exact o.nh e
    exact ⟨h1, c, cs, i, b', m, n, by rw [upd_ne hb]; exact e1, e2, e3, e4⟩
theorem Rr.write {vs ws : List V} {xs ys : List PV} {i : Nat} (R : Rr G Fr F σ H ρ) (hi : ρ[i]? = some (Sl.own xs)) (hσ : σ[i]? = some (some (V.ref a))) (o : Own G Fr F H a vs xs) (rs : Reps G F ws ys) :
    Rr G Fr F σ (upd H a (.lst ws)) (ρ.set i (.own ys)) where
  toRB := R.toRB.write o
  len := by rw [List.length_set]; exact R.len
  val := fun j p e => by
    by_cases hj : i = j
    · subst hj
      have hl : i < ρ.length := (List.getElem?_eq_some_iff.mp hi).1
      rw [List.getElem?_set_self hl] at e; cases e
    · rw [List.getElem?_set_ne hj] at e; exact R.val j p e
  own := fun j zs e => by
    by_cases hj : i = j
    · subst hj
      have hl : i < ρ.length := (List.getElem?_eq_some_iff.mp hi).1
      rw [List.getElem?_set_self hl] at e; cases e
      exact ⟨a, ws, hσ, upd_same, rs, o.nF, o.nh, o.nFr⟩
    · rw [List.getElem?_set_ne hj] at e
      obtain ⟨b, us, h1, h2⟩ := R.own j zs e
      have hb : b ≠ a := fun z => by subst z; exact hj (R.sep i j xs zs b hi e hσ h1)
      exact ⟨b, us, h1, by rw [upd_ne hb]; exact h2.at_, h2.rep, h2.nF, h2.nh, h2.nFr⟩
  sep := fun j k zs ws b e1 e2 h1 h2 => by
    have get : ∀ {j : Nat} {zs : List PV}, (ρ.set i (.own ys))[j]? = some (Sl.own zs) → ∃ zs', ρ[j]? = some (Sl.own zs') := fun {j zs} e => by
      by_cases hj : i = j
      · subst hj; exact ⟨xs, hi⟩
      · rw [List.getElem?_set_ne hj] at e; exact ⟨zs, e⟩
    obtain ⟨z1, g1⟩ := get e1
    obtain ⟨z2, g2⟩ := get e2
    exact R.sep j k z1 z2 b g1 g2 h1 h2
/-- a slot is stored -/
theorem Rr.set0 {r : Sl} {i : Nat} (R : Rr G Fr F σ H ρ) (h : RO G Fr F σ H ρ v r) (hi : i < σ.length) : Rr G Fr F (σ.set i (some v)) H (ρ.set i r) where
  toRB := R.toRB
  len := by rw [List.length_set, List.length_set]; exact R.len
  val := fun j p e => by
    by_cases hj : i = j
    · subst hj
      rw [List.getElem?_set_self (by rw [R.len]; exact hi)] at e
      rw [List.getElem?_set_self hi]
      cases e
      exact ⟨v, rfl, h⟩
    · rw [List.getElem?_set_ne hj] at e ⊢; exact R.val j p e
  own := fun j zs e => by
    by_cases hj : i = j
    · subst hj
      rw [List.getElem?_set_self (by rw [R.len]; exact hi)] at e
      rw [List.getElem?_set_self hi]
      cases e
      obtain ⟨a, vs, rfl, o, _⟩ := h
      exact ⟨a, vs, rfl, o⟩
    · rw [List.getElem?_set_ne hj] at e ⊢; exact R.own j zs e
  sep := fun j k zs ws b e1 e2 h1 h2 => by
    have hl : i < ρ.length := by rw [R.len]; exact hi
    by_cases hj : i = j <;> by_cases hk : i = k
    · exact hj.symm.trans hk
    · subst hj
      rw [List.getElem?_set_self hl] at e1; cases e1
      rw [List.getElem?_set_self hi] at h1
      rw [List.getElem?_set_ne hk] at e2 h2
      obtain ⟨a, vs, rfl, o, ap⟩ := h
      cases h1
      exact absurd h2 (ap k ws e2)
    · subst hk
      rw [List.getElem?_set_self hl] at e2; cases e2
      rw [List.getElem?_set_self hi] at h2
      rw [List.getElem?_set_ne hj] at e1 h1
      obtain ⟨a, vs, rfl, o, ap⟩ := h
      cases h2
      exact absurd h1 (ap j zs e1)
    · rw [List.getElem?_set_ne hj] at e1 h1
      rw [List.getElem?_set_ne hk] at e2 h2
      exact R.sep j k zs ws b e1 e2 h1 h2
theorem Rr.set {r : Sl} {i : Nat} (R : Rr G Fr F σ H ρ) (h : RO G Fr F σ H ρ v r) : Rr G Fr F (σ.set i (some v)) H (ρ.set i r) := by
  by_cases hi : i < σ.length
  · exact R.set0 h hi
  · rw [List.set_eq_of_length_le (by omega), List.set_eq_of_length_le (by rw [R.len]; omega)]
    exact R
/-- forgetting about a slot -/
theorem Rr.drop {i : Nat} (R : Rr G Fr F σ H ρ) : Rr G Fr F σ H (ρ.set i .no) where
  toRB := R.toRB
  len := by rw [List.length_set]; exact R.len
  val := fun j p e => by
    by_cases hj : i = j
    · subst hj
      by_cases hl : i < ρ.length
      · rw [List.getElem?_set_self hl] at e; cases e
      · rw [List.getElem?_eq_none (by rw [List.length_set]; omega)] at e; cases e
    · rw [List.getElem?_set_ne hj] at e; exact R.val j p e
  own := fun j p e => by
    by_cases hj : i = j
    · subst hj
      by_cases hl : i < ρ.length
      · rw [List.getElem?_set_self hl] at e; cases e
      · rw [List.getElem?_eq_none (by rw [List.length_set]; omega)] at e; cases e
    · rw [List.getElem?_set_ne hj] at e; exact R.own j p e
  sep := fun j k zs ws b e1 e2 h1 h2 => by
    have get : ∀ {j : Nat} {zs : List PV}, (ρ.set i Sl.no)[j]? = some (Sl.own zs) → ρ[j]? = some (Sl.own zs) := fun {j zs} e => by
      by_cases hj : i = j
      · subst hj
        by_cases hl : i < ρ.length
        · rw [List.getElem?_set_self hl] at e; cases e
        · rw [List.getElem?_eq_none (by rw [List.length_set]; omega)] at e; cases e
      · rw [List.getElem?_set_ne hj] at e; exact e
    exact R.sep j k zs ws b (get e1) (get e2) h1 h2
/-- reading a slot: what it holds is kept for good from now on -/
theorem Rr.read {i : Nat} {r : Sl} (R : Rr G Fr F σ H ρ) (hi : ρ[i]? = some r) (hr : r ≠ .no) : ∃ v F', σ[i]? = some (some v) ∧ Same F F' ∧ Rr G Fr F' σ H (ρ.set i (.val r.pv)) ∧ Rep G F' v r.pv := by
  have hl : i < ρ.length := (List.getElem?_eq_some_iff.mp hi).1
  cases r with
  | no => exact absurd rfl hr
  | val p =>
    obtain ⟨v, h1, h2⟩ := R.val i p hi
    have e : ρ.set i (.val p) = ρ := by
      apply List.ext_getElem?
      intro j
      by_cases hj : i = j
      · subst hj; rw [List.getElem?_set_self hl, hi]
      · rw [List.getElem?_set_ne hj]
    exact ⟨v, F, h1, Same.refl F, by show Rr G Fr F σ H (ρ.set i (.val p)); rw [e]; exact R, h2⟩
  | own xs =>
    obtain ⟨a, vs, h1, o⟩ := R.own i xs hi
    have R0 : Rr G Fr F σ H (ρ.set i .no) := R.drop
    have ap : Apart σ (ρ.set i .no) a := fun j ys e z => by
      by_cases hj : i = j
      · subst hj; rw [List.getElem?_set_self hl] at e; cases e
      · rw [List.getElem?_set_ne hj] at e
        exact hj (R.sep i j xs ys a hi e h1 z)
    have R1 := R0.freeze o ap
    have rp : Rep G (upd F a (.lst vs)) (.ref a) (.lst xs) := .lst upd_same (o.rep.mono (same_upd o.nF))
    have hs : i < σ.length := by rw [← R.len]; exact hl
    have R2 := R1.set (v := .ref a) (r := .val (.lst xs)) (i := i) rp
    have e1 : σ.set i (some (V.ref a)) = σ := by
      apply List.ext_getElem?
      intro j
      by_cases hj : i = j
      · subst hj; rw [List.getElem?_set_self hs, h1]
      · rw [List.getElem?_set_ne hj]
    rw [e1, List.set_set] at R2
    exact ⟨.ref a, _, h1, same_upd o.nF, R2, rp⟩
end
end VE
end
section
set_option Elab.async false
set_option linter.all false
set_option maxRecDepth 100000
namespace VE
open PySem PySem.Spec PyProof.Rows L2

/-! ### what is asked, by values -/
abbrev WE := Rho → (Sl → Rho → Prop) → Prop
abbrev WT := Rho → (Bool → Rho → Prop) → Prop
abbrev WA := Rho → (List PV → Rho → Prop) → Prop
structure EndsV where
  nx : Rho → Prop
  rt : Sl → Prop
  bk : Rho → Prop := fun _ => False
  ct : Rho → Prop := fun _ => False
abbrev WS := EndsV → Rho → Prop

def eE (K : PySem.W.Frag) (mg : Str → Option Value) (w : WE) : TE := fun σ H Q => ∃ (hO : Option Addr) (Fr F : Hp) (ρ : Rho) (Qv : Sl → Rho → Prop),
  Rr ⟨K, mg, hO⟩ Fr F σ H ρ ∧ w ρ Qv ∧ ∀ v H' F' r ρ', Same F F' → Rr ⟨K, mg, hO⟩ Fr F' σ H' ρ' → RO ⟨K, mg, hO⟩ Fr F' σ H' ρ' v r → Qv r ρ' → Q v H'
def eT (K : PySem.W.Frag) (mg : Str → Option Value) (w : WT) : TT := fun σ H Q => ∃ (hO : Option Addr) (Fr F : Hp) (ρ : Rho) (Qv : Bool → Rho → Prop),
  Rr ⟨K, mg, hO⟩ Fr F σ H ρ ∧ w ρ Qv ∧ ∀ b H' F' ρ', Same F F' → Rr ⟨K, mg, hO⟩ Fr F' σ H' ρ' → Qv b ρ' → Q b H'
def eA (K : PySem.W.Frag) (mg : Str → Option Value) (w : WA) : TA := fun σ H Q => ∃ (hO : Option Addr) (Fr F : Hp) (ρ : Rho) (Qv : List PV → Rho → Prop),
  Rr ⟨K, mg, hO⟩ Fr F σ H ρ ∧ w ρ Qv ∧ ∀ vs H' F' ps ρ', Same F F' → Rr ⟨K, mg, hO⟩ Fr F' σ H' ρ' → Reps ⟨K, mg, hO⟩ F' vs ps → Qv ps ρ' → Q vs H'
def eS (K : PySem.W.Frag) (mg : Str → Option Value) (w : WS) : TS := fun D σ H => ∃ (hO : Option Addr) (Fr F : Hp) (ρ : Rho) (DV : EndsV),
  Rr ⟨K, mg, hO⟩ Fr F σ H ρ ∧ w DV ρ ∧
  (∀ σ' H' F' ρ', Same F F' → Rr ⟨K, mg, hO⟩ Fr F' σ' H' ρ' → DV.nx ρ' → D.nx σ' H') ∧
  (∀ v H' F' r, Same F F' → RB ⟨K, mg, hO⟩ Fr F' H' → RO ⟨K, mg, hO⟩ Fr F' [] H' [] v r → DV.rt r → D.rt v H') ∧
  (∀ σ' H' F' ρ', Same F F' → Rr ⟨K, mg, hO⟩ Fr F' σ' H' ρ' → DV.bk ρ' → D.bk σ' H') ∧
  (∀ σ' H' F' ρ', Same F F' → Rr ⟨K, mg, hO⟩ Fr F' σ' H' ρ' → DV.ct ρ' → D.ct σ' H')

abbrev VE (X : Cx) (e : Expr) (w : WE) : Prop := PE X e (eE X.K X.mg w)
abbrev VT (X : Cx) (e : Expr) (w : WT) : Prop := PT X e (eT X.K X.mg w)
abbrev VA (X : Cx) (es : List Expr) (w : WA) : Prop := PA X es (eA X.K X.mg w)
abbrev VS (X : Cx) (s : Stmt) (w : WS) : Prop := PS X s (eS X.K X.mg w)
abbrev VSs (X : Cx) (s : List Stmt) (w : WS) : Prop := PSs X s (eS X.K X.mg w)

theorem PE.imp {X : Cx} {e : Expr} {t t' : TE} (h : PE X e t) (k : ∀ σ H Q, t' σ H Q → t σ H Q) : PE X e t' := ⟨fun pins s σ H Q I q => h.run pins s σ H Q I (k _ _ _ q)⟩
theorem PT.imp {X : Cx} {e : Expr} {t t' : TT} (h : PT X e t) (k : ∀ σ H Q, t' σ H Q → t σ H Q) : PT X e t' := ⟨fun pins s σ H Q I q => h.run pins s σ H Q I (k _ _ _ q)⟩
theorem PA.imp {X : Cx} {e : List Expr} {t t' : TA} (h : PA X e t) (k : ∀ σ H Q, t' σ H Q → t σ H Q) : PA X e t' := ⟨fun pos pins s σ H Q I q => h.run pos pins s σ H Q I (k _ _ _ q)⟩
theorem PS.imp {X : Cx} {e : Stmt} {t t' : TS} (h : PS X e t) (k : ∀ D σ H, t' D σ H → t D σ H) : PS X e t' := ⟨fun pins s σ H D I q => h.run pins s σ H D I (k _ _ _ q)⟩
theorem PSs.imp {X : Cx} {e : List Stmt} {t t' : TS} (h : PSs X e t) (k : ∀ D σ H, t' D σ H → t D σ H) : PSs X e t' := ⟨fun pins s σ H D I q => h.run pins s σ H D I (k _ _ _ q)⟩

section
variable {K : PySem.W.Frag} {mg : Str → Option Value} {hO : Option Addr} {Fr F : Hp} {σ : L2.St} {H : Hp} {ρ : Rho}
/-- the first part runs, its result is kept as a plain value -/
theorem eE.pv {w : WE} {Qv : PV → Rho → Prop} {Q : VK} (R : Rr ⟨K, mg, hO⟩ Fr F σ H ρ) (h : w ρ fun r ρ' => Qv r.pv ρ')
    (k : ∀ v H' F' p ρ', Same F F' → Rr ⟨K, mg, hO⟩ Fr F' σ H' ρ' → Rep ⟨K, mg, hO⟩ F' v p → Qv p ρ' → Q v H') : eE K mg w σ H Q :=
  ⟨hO, Fr, F, ρ, _, R, h, fun v H' F' r ρ' s R' o q => by
    obtain ⟨F2, s2, R2, rp⟩ := o.pv R'
    exact k v H' F2 r.pv ρ' (s.trans s2) R2 rp q⟩
end

/-! ### names, constants -/
def look : Rho → Nat → Sl
  | [], _ => .no
  | r :: _, 0 => r
  | _ :: t, n + 1 => look t n
theorem look_get : ∀ {ρ : Rho} {i : Nat} {r : Sl}, look ρ i = r → r ≠ .no → ρ[i]? = some r
  | [], _, _, h, n => absurd h.symm n
  | r :: _, 0, _, h, _ => by subst h; rfl
  | _ :: t, i + 1, r, h, n => by simpa using look_get (ρ := t) (i := i) h n
def wVar (i : Nat) : WE := fun ρ Q => match look ρ i with
  | .no => False
  | .val p => Q (.val p) ρ
  | .own xs => Q (.val (.lst xs)) (ρ.set i (.val (.lst xs)))
def wC (p : PV) : WE := fun ρ Q => Q (.val p) ρ
section
variable {X : Cx} {pos : Pos}
theorem ve_name {i : Nat} {x : Str} (hN : X.N[i]? = some x) (hv : Vis X.env.scope x) (hd : (x == ("__debug__" : Str)) = false := by decide) (hcd : (x == ("__classdict__" : Str)) = false := by decide) : VE X (.Name x pos) (wVar i) := by
  refine PE.imp (pe_var hN hv hd hcd) ?_
  rintro σ H Q ⟨hO, Fr, F, ρ, Qv, R, h, k⟩
  unfold wVar at h
  cases q : look ρ i with
  | no => rw [q] at h; exact h.elim
  | val p =>
    rw [q] at h
    have g := look_get q (by intro z; cases z)
    obtain ⟨v, e, rp⟩ := R.val i p g
    exact ⟨v, e, k v H F (.val p) ρ (Same.refl F) R rp h⟩
  | own xs =>
    rw [q] at h
    have g := look_get q (by intro z; cases z)
    obtain ⟨v, F', e, s, R', rp⟩ := R.read g (by intro z; cases z)
    exact ⟨v, e, k v H F' (.val (.lst xs)) _ s R' rp h⟩
theorem ve_const {e : Expr} {v : V} {p : PV} (h : PE X e (tC v)) (hr : ∀ G F, Rep G F v p) : VE X e (wC p) := by
  refine PE.imp h ?_
  rintro σ H Q ⟨hO, Fr, F, ρ, Qv, R, h, k⟩
  exact k v H F (.val p) ρ (Same.refl F) R (hr _ _) h
theorem ve_int {i j pos} : VE X (.Constant (.int i) j pos) (wC (.int i)) := ve_const pe_int fun _ _ => .int i
theorem ve_bl {i j pos} : VE X (.Constant (.bool i) j pos) (wC (.bl i)) := ve_const pe_bl fun _ _ => .bl i
theorem ve_str {i j pos} : VE X (.Constant (.str i) j pos) (wC (.str i)) := ve_const pe_str fun _ _ => .str i
theorem ve_non {j pos} : VE X (.Constant .none j pos) (wC .non) := ve_const pe_non fun _ _ => .non
/-- a module's constant that is an int, a text -/
theorem ve_gint {x : Str} {i : Int} (hg : Gl X x) (hm : ∃ t, X.mg x = some (.int i t)) (hd : (x == ("__debug__" : Str)) = false := by decide) : VE X (.Name x pos) (wC (.int i)) := by
  obtain ⟨t, hm⟩ := hm
  exact ve_const (pe_glob (v := .int i) hg hm ⟨t, rfl⟩ hd) fun _ _ => .int i
theorem ve_gstr {x y : Str} (hg : Gl X x) (hm : ∃ t, X.mg x = some (.str y t)) (hd : (x == ("__debug__" : Str)) = false := by decide) : VE X (.Name x pos) (wC (.str y)) := by
  obtain ⟨t, hm⟩ := hm
  exact ve_const (pe_glob (v := .str y) hg hm ⟨t, rfl⟩ hd) fun _ _ => .str y
theorem ve_gty {x : Str} {n : String} (hg : Gl X x) (hm : X.mg x = none) (hv : bootBuiltins x = some (.type n)) (hn : x ≠ "__name__" := by decide) (hd : (x == ("__debug__" : Str)) = false := by decide) : VE X (.Name x pos) (wC (.ty n)) :=
  ve_const (pe_bltn (v := .ty n) hg hm hv rfl hn hd) fun _ _ => .ty n
theorem ve_gfn {x : Str} {f : Addr} (hg : Gl X x) (hm : X.mg x = some (.ref f)) (hd : (x == ("__debug__" : Str)) = false := by decide) : VE X (.Name x pos) (wC (.fnc x)) := by
  refine PE.imp (pe_glob (v := .ref f) hg hm rfl hd) ?_
  rintro σ H Q ⟨hO, Fr, F, ρ, Qv, R, h, k⟩
  exact k (.ref f) H F (.val (.fnc x)) ρ (Same.refl F) R (Rep.fnc hm) h
end

/-! ### operators -/
abbrev OpV := PV → PV → (Sl → Prop) → Prop
abbrev UnV := PV → (Sl → Prop) → Prop
def wBin (op : OpV) (wa wb : WE) : WE := fun ρ Q => wa ρ fun r1 ρ1 => wb ρ1 fun r2 ρ2 => op r1.pv r2.pv fun r => Q r ρ2
def wUn (op : UnV) (wa : WE) : WE := fun ρ Q => wa ρ fun r1 ρ1 => op r1.pv fun r => Q r ρ1
/-- a rule of two values is served by op -/
def Ser (K : PySem.W.Frag) (mg : Str → Option Value) (r : R2) (op : OpV) : Prop := ∀ (hO : Option Addr) (Fr F : Hp) (σ : L2.St) (H : Hp) (ρ : Rho) (x y : V) (p q : PV) (Qv : Sl → Prop) (Q : VK),
  Rr ⟨K, mg, hO⟩ Fr F σ H ρ → Rep ⟨K, mg, hO⟩ F x p → Rep ⟨K, mg, hO⟩ F y q → op p q Qv →
  (∀ v H' F' r, Same F F' → Rr ⟨K, mg, hO⟩ Fr F' σ H' ρ → RO ⟨K, mg, hO⟩ Fr F' σ H' ρ v r → Qv r → Q v H') → r x y H Q
def SerU (K : PySem.W.Frag) (mg : Str → Option Value) (r : V → Hp → VK → Prop) (op : UnV) : Prop := ∀ (hO : Option Addr) (Fr F : Hp) (σ : L2.St) (H : Hp) (ρ : Rho) (x : V) (p : PV) (Qv : Sl → Prop) (Q : VK),
  Rr ⟨K, mg, hO⟩ Fr F σ H ρ → Rep ⟨K, mg, hO⟩ F x p → op p Qv →
  (∀ v H' F' r, Same F F' → Rr ⟨K, mg, hO⟩ Fr F' σ H' ρ → RO ⟨K, mg, hO⟩ Fr F' σ H' ρ v r → Qv r → Q v H') → r x H Q
section
variable {X : Cx} {pos : Pos} {a b : Expr} {wa wb : WE}
theorem ser_pe {r : R2} {op : OpV} (hs : Ser X.K X.mg r op) : ∀ σ H Q, eE X.K X.mg (wBin op wa wb) σ H Q → tOp r (eE X.K X.mg wa) (eE X.K X.mg wb) σ H Q := by
  rintro σ H Q ⟨hO, Fr, F, ρ, Qv, R, h, k⟩
  refine eE.pv (Qv := fun p ρ1 => wb ρ1 fun r2 ρ2 => op p r2.pv fun r => Qv r ρ2) R h fun x H1 F1 p ρ1 s1 R1 rp h1 => ?_
  refine eE.pv (Qv := fun q ρ2 => op p q fun r => Qv r ρ2) R1 h1 fun y H2 F2 q ρ2 s2 R2 rq h2 => ?_
  refine hs hO Fr F2 σ H2 ρ2 x y p q _ Q R2 (rp.mono s2) rq h2 fun v H' F' r s R' o q' => ?_
  exact k v H' F' r ρ2 ((s1.trans s2).trans s) R' o q'
theorem ve_bin {op : Operator} {r : R2} {f : OpV} (ho : OpR X (binaryOp op) r) (hs : Ser X.K X.mg r f) (ha : VE X a wa) (hb : VE X b wb) : VE X (.BinOp a op b pos) (wBin f wa wb) :=
  PE.imp (pe_op ho ha hb) (ser_pe hs)
theorem ve_cmp {op : CmpOp} {r : R2} {f : OpV} (ho : OpR X (compareOp op) r) (hs : Ser X.K X.mg r f) (ha : VE X a wa) (hb : VE X b wb) (hm : behindInMarks op b = false) : VE X (.Compare a [op] [b] pos) (wBin f wa wb) :=
  PE.imp (pe_cmpR ho ha hb hm) (ser_pe hs)
theorem ve_un {op : UnaryOp} {r : V → Hp → VK → Prop} {f : UnV} (ho : UnR X (unaryOp op) r) (hs : SerU X.K X.mg r f) (ha : VE X a wa) : VE X (.UnaryOp op a pos) (wUn f wa) := by
  refine PE.imp (pe_un ho ha) ?_
  rintro σ H Q ⟨hO, Fr, F, ρ, Qv, R, h, k⟩
  refine eE.pv (Qv := fun p ρ1 => f p fun r => Qv r ρ1) R h fun x H1 F1 p ρ1 s1 R1 rp h1 => ?_
  exact hs hO Fr F1 σ H1 ρ1 x p _ Q R1 rp h1 fun v H' F' r s R' o q' => k v H' F' r ρ1 (s1.trans s) R' o q'
end

/-! ints -/
def opInt (C : Int → Int → Prop) (g : Int → Int → PV) : OpV := fun p q Q => match p, q with
  | .int i, .int j => C i j ∧ Q (.val (g i j))
  | _, _ => False
theorem ser_rI {K mg} {C : Int → Int → Prop} {g : Int → Int → V} {g' : Int → Int → PV} (hg : ∀ i j G F, Rep G F (g i j) (g' i j)) : Ser K mg (rI C g) (opInt C g') := by
  intro hO Fr F σ H ρ x y p q Qv Q R rx ry h k
  unfold opInt at h
  split at h
  · cases rx; cases ry
    exact ⟨_, _, rfl, rfl, h.1, k _ H F (.val (g' _ _)) (Same.refl F) R (hg _ _ _ _) h.2⟩
  · exact h.elim
theorem ser_rI0 {K mg} {g : Int → Int → V} {g' : Int → Int → PV} (hg : ∀ i j G F, Rep G F (g i j) (g' i j)) : Ser K mg (rI0 g) (opInt (fun _ _ => True) g') := by
  intro hO Fr F σ H ρ x y p q Qv Q R rx ry h k
  unfold opInt at h
  split at h
  · cases rx; cases ry
    exact ⟨_, _, rfl, rfl, k _ H F (.val (g' _ _)) (Same.refl F) R (hg _ _ _ _) h.2⟩
  · exact h.elim

/-- + of ints, lists, tuples, texts -/
def opAdd : OpV := fun p q Q => match p, q with
  | .int i, .int j => Q (.val (.int (i + j)))
  | .lst xs, .lst ys => xs.length + ys.length ≤ sizeLine ∧ Q (.own (xs ++ ys))
  | .tup xs, .tup ys => xs.length + ys.length ≤ sizeLine ∧ Q (.val (.tup (xs ++ ys)))
  | .str x, .str y => x.length + y.length ≤ sizeLine ∧ Q (.val (.str (x ++ y)))
  | _, _ => False
def rAddStr : R2 := fun x y H Q => ∃ i j, x = .str i ∧ y = .str j ∧ i.length + j.length ≤ sizeLine ∧ Q (.str (i ++ j)) H
def rAddA (K : PySem.W.Frag) : R2 := fun x y H Q => rI0 (fun i j => .int (i + j)) x y H Q ∨ (rCat x y H Q ∨ (rCatA K x y H Q ∨ rAddStr x y H Q))
theorem op_addA {X : Cx} : OpR X (binaryOp .Add) (rAddA X.K) := op_add.or (op_cat.or (op_catA.or op_add_str))
theorem ser_add {K mg} : Ser K mg (rAddA K) opAdd := by
  intro hO Fr F σ H ρ x y p q Qv Q R rx ry h k
  unfold opAdd at h
  split at h
  · cases rx; cases ry
    exact .inl ⟨_, _, rfl, rfl, k _ H F (.val (.int _)) (Same.refl F) R (Rep.int _) h⟩
  · rename_i xs ys
    cases rx with
    | lst ex rxs =>
      cases ry with
      | lst ey rys =>
        rename_i b us a vs
        refine .inr (.inl ⟨_, _, _, _, rfl, rfl, R.sub _ _ ex, R.sub _ _ ey, by rw [rxs.length, rys.length]; exact h.1, fun p hp => ?_⟩)
        exact k _ _ F (.own (xs ++ ys)) (Same.refl F) (R.fresh hp) (R.freshOwn hp (rxs.append rys)) h.2
  · rename_i xs ys
    cases rx with
    | tup ex rxs =>
      cases ry with
      | tup ey rys =>
        rename_i b us a vs
        have ex' := Same.sqt R.sub ex
        have ey' := Same.sqt R.sub ey
        refine .inr (.inr (.inl ⟨_, _, _, _, rfl, rfl, ex', ey', by rw [rxs.length, rys.length]; exact h.1, fun e => ?_, fun _ e => ?_, fun _ _ p hp => ?_⟩))
        · subst e
          cases rxs
          exact k _ _ F (.val (.tup ys)) (Same.refl F) R (Rep.tup ey rys) h.2
        · subst e
          cases rys
          have h2 := h.2
          rw [List.append_nil] at h2
          exact k _ _ F (.val (.tup xs)) (Same.refl F) R (Rep.tup ex rxs) h2
        · have hF := R.nF hp
          exact k _ _ _ (.val (.tup (xs ++ ys))) (same_upd hF) (R.laid hp) (Rep.tup (SqT.of upd_same) ((rxs.append rys).mono (same_upd hF))) h.2
  · cases rx; cases ry
    exact .inr (.inr (.inr ⟨_, _, rfl, rfl, h.1, k _ H F (.val (.str _)) (Same.refl F) R (Rep.str _) h.2⟩))
  · exact h.elim
section
variable {X : Cx} {pos : Pos} {a b : Expr} {wa wb : WE}
theorem ve_add (ha : VE X a wa) (hb : VE X b wb) : VE X (.BinOp a .Add b pos) (wBin opAdd wa wb) := ve_bin op_addA ser_add ha hb
def opSub : OpV := opInt (fun _ _ => True) fun i j => .int (i - j)
def opMul : OpV := fun p q Q => match p, q with
  | .int i, .int j => CMul i j ∧ Q (.val (.int (i * j)))
  | .lst xs, .int j => j < 2 ^ 62 ∧ -(2 ^ 62) < j ∧ xs.length * j.toNat ≤ sizeLine ∧ Q (.own (List.replicate j.toNat xs).flatten)
  | _, _ => False
theorem Reps.rep {G : Gh} {F : Hp} {vs : List V} {ps : List PV} (h : Reps G F vs ps) : ∀ k : Nat, Reps G F (List.replicate k vs).flatten (List.replicate k ps).flatten
  | 0 => .nil
  | k + 1 => by
    rw [List.replicate_succ, List.replicate_succ, List.flatten_cons, List.flatten_cons]
    exact Reps.append h (Reps.rep h k)
end
end VE
end
section
set_option Elab.async false
set_option linter.all false
set_option maxRecDepth 100000
namespace VE
open PySem PySem.Spec PyProof.Rows L2

section
variable {X : Cx} {pos : Pos} {a b : Expr} {wa wb : WE}
/-! ### more arithmetic -/
def rMulA : R2 := fun x y H Q => rI CMul (fun i j => .int (i * j)) x y H Q ∨ rRep x y H Q
theorem op_mulA : OpR X (binaryOp .Mult) rMulA := op_mul.or op_rep
theorem ser_mul {K mg} : Ser K mg rMulA opMul := by
  intro hO Fr F σ H ρ x y p q Qv Q R rx ry h k
  unfold opMul at h
  split at h
  · cases rx; cases ry
    exact .inl ⟨_, _, rfl, rfl, h.1, k _ H F (.val (.int _)) (Same.refl F) R (Rep.int _) h.2⟩
  · cases rx with
    | lst ex rxs =>
      cases ry
      exact .inr ⟨_, _, _, rfl, rfl, R.sub _ _ ex, by omega, by omega, by rw [rxs.length]; exact h.2.2.1, fun p hp => k _ _ F (.own _) (Same.refl F) (R.fresh hp) (R.freshOwn hp (Reps.rep rxs _)) h.2.2.2⟩
  · exact h.elim
def DivOk (i j : Int) : Prop := (j ≠ 0 ∧ j.natAbs < 1073741824) ∨ (0 < j ∧ j.natAbs.log2 < 9000)
def rFdivA : R2 := fun x y H Q => rI CDivN (fun i j => .int (i.fdiv j)) x y H Q ∨ rI CDivW (fun i j => .int (i / j)) x y H Q
theorem op_fdivA : OpR X (binaryOp .FloorDiv) rFdivA := op_fdivN.or op_fdivW
def opFdiv : OpV := opInt DivOk fun i j => .int (i.fdiv j)
theorem ser_fdiv {K mg} : Ser K mg rFdivA opFdiv := by
  intro hO Fr F σ H ρ x y p q Qv Q R rx ry h k
  unfold opFdiv opInt at h
  split at h
  · rename_i i j
    cases rx; cases ry
    rcases h.1 with c | c
    · exact .inl ⟨_, _, rfl, rfl, c, k _ H F (.val (.int _)) (Same.refl F) R (Rep.int _) h.2⟩
    · refine .inr ⟨_, _, rfl, rfl, c, k _ H F (.val (.int (i.fdiv j))) (Same.refl F) R ?_ h.2⟩
      rw [Int.fdiv_eq_ediv_of_nonneg _ (Int.le_of_lt c.1)]
      exact Rep.int _
  · exact h.elim
def opMod : OpV := opInt (fun _ j => j ≠ 0) fun i j => .int (i.fmod j)
def opPow : OpV := opInt CPow fun i j => .int (i ^ j.toNat)
theorem ve_sub (ha : VE X a wa) (hb : VE X b wb) : VE X (.BinOp a .Sub b pos) (wBin opSub wa wb) := ve_bin op_sub (ser_rI0 fun i j _ _ => Rep.int _) ha hb
theorem ve_mul (ha : VE X a wa) (hb : VE X b wb) : VE X (.BinOp a .Mult b pos) (wBin opMul wa wb) := ve_bin op_mulA ser_mul ha hb
theorem ve_fdiv (ha : VE X a wa) (hb : VE X b wb) : VE X (.BinOp a .FloorDiv b pos) (wBin opFdiv wa wb) := ve_bin op_fdivA ser_fdiv ha hb
theorem ve_mod (ha : VE X a wa) (hb : VE X b wb) : VE X (.BinOp a .Mod b pos) (wBin opMod wa wb) := ve_bin op_modN (ser_rI fun i j _ _ => Rep.int _) ha hb
theorem ve_pow (ha : VE X a wa) (hb : VE X b wb) : VE X (.BinOp a .Pow b pos) (wBin opPow wa wb) := ve_bin op_pow (ser_rI fun i j _ _ => Rep.int _) ha hb
def opNeg : UnV := fun p Q => match p with
  | .int i => Q (.val (.int (-i)))
  | _ => False
theorem ve_neg (ha : VE X a wa) : VE X (.UnaryOp .USub a pos) (wUn opNeg wa) := by
  refine ve_un un_neg ?_ ha
  intro hO Fr F σ H ρ x p Qv Q R rx h k
  unfold opNeg at h
  split at h
  · cases rx
    exact ⟨_, rfl, k _ H F (.val (.int _)) (Same.refl F) R (Rep.int _) h⟩
  · exact h.elim

/-! ### comparisons of ints -/
def opCmpI (g : Int → Int → Bool) : OpV := opInt (fun _ _ => True) fun i j => .bl (g i j)
theorem ser_cmpI {K mg} {g : Int → Int → Bool} : Ser K mg (rI0 fun i j => .bl (g i j)) (opCmpI g) := ser_rI0 fun i j _ _ => Rep.bl _
def opLt : OpV := opCmpI fun i j => decide (i < j)
def opLe : OpV := opCmpI fun i j => decide (i ≤ j)
def opGt : OpV := opCmpI fun i j => decide (j < i)
def opGe : OpV := opCmpI fun i j => decide (j ≤ i)

/-! ### data at any depth -/
mutual
def toD : PV → Option PyData
  | .non => some .none
  | .bl b => some (.bool b)
  | .int i => some (.int i)
  | .str x => some (.str x)
  | .lst xs => (toDs xs).map .list
  | .tup xs => (toDs xs).map .tuple
  | _ => none
def toDs : List PV → Option (List PyData)
  | [] => some []
  | x :: xs => match toD x, toDs xs with
    | some d, some ds => some (d :: ds)
    | _, _ => none
end
mutual
theorem dp_of {G : Gh} {F : Hp} : ∀ {p : PV} {v : V} {d : PyData}, Rep G F v p → toD p = some d → Dp G.K F v d
  | .non, _, _, .non, e => by simp [toD] at e; subst e; exact .non
  | .bl b, _, _, .bl _, e => by simp [toD] at e; subst e; exact .bl b
  | .int b, _, _, .int _, e => by simp [toD] at e; subst e; exact .int b
  | .str b, _, _, .str _, e => by simp [toD] at e; subst e; exact .str b
  | .lst xs, _, _, .lst h r, e => by
    simp only [toD, Option.map_eq_some_iff] at e
    obtain ⟨ds, e1, rfl⟩ := e
    exact .lst (.inl (.inl h)) (dps_of r e1)
  | .tup xs, _, _, .tup h r, e => by
    simp only [toD, Option.map_eq_some_iff] at e
    obtain ⟨ds, e1, rfl⟩ := e
    exact .tup h (dps_of r e1)
theorem dps_of {G : Gh} {F : Hp} : ∀ {ps : List PV} {vs : List V} {ds : List PyData}, Reps G F vs ps → toDs ps = some ds → DpAll G.K F vs ds
  | [], _, _, .nil, e => by simp [toDs] at e; subst e; exact .nil
  | p :: ps, _, _, .cons h r, e => by
    simp only [toDs] at e
    split at e
    · rename_i d ds e1 e2
      cases e
      exact .cons (dp_of h e1) (dps_of r e2)
    · cases e
end
mutual
theorem dpMono {K : PySem.W.Frag} {H H' : Hp} (s : Same H H') : ∀ {v : V} {d : PyData}, Dp K H v d → Dp K H' v d
  | _, _, .non => .non
  | _, _, .bl b => .bl b
  | _, _, .int b => .int b
  | _, _, .str b => .str b
  | _, _, .lst h r => .lst (s.seq h) (dpsMono s r)
  | _, _, .tup h r => .tup (Same.sqt s h) (dpsMono s r)
theorem dpsMono {K : PySem.W.Frag} {H H' : Hp} (s : Same H H') : ∀ {v : List V} {d : List PyData}, DpAll K H v d → DpAll K H' v d
  | _, _, .nil => .nil
  | _, _, .cons h r => .cons (dpMono s h) (dpsMono s r)
end
def shp (d : PyData) : Prop := SeqAt.shaped d = true
def opEq : OpV := fun p q Q => (∃ d e, toD p = some d ∧ toD q = some e ∧ shp d ∧ shp e ∧ Q (.val (.bl (PyData.eqv d e)))) ∨ ∃ x y, p = .str x ∧ q = .str y ∧ Q (.val (.bl (decide (x = y))))
def opNe : OpV := fun p q Q => (∃ d e, toD p = some d ∧ toD q = some e ∧ shp d ∧ shp e ∧ Q (.val (.bl (!PyData.eqv d e)))) ∨ ∃ x y, p = .str x ∧ q = .str y ∧ Q (.val (.bl (!decide (x = y))))
def rEqA (K : PySem.W.Frag) : R2 := fun x y H Q => rEqD K x y H Q ∨ rEq x y H Q
def rNeA (K : PySem.W.Frag) : R2 := fun x y H Q => rNeD K x y H Q ∨ rNe x y H Q
theorem op_eqA (hu : X.A.units + 64 < cLine) : OpR X (compareOp .Eq) (rEqA X.K) := (op_eqD hu).or op_eq
theorem op_neA (hu : X.A.units + 64 < cLine) : OpR X (compareOp .NotEq) (rNeA X.K) := (op_neD hu).or op_ne
theorem ser_eq {K mg} : Ser K mg (rEqA K) opEq := by
  intro hO Fr F σ H ρ x y p q Qv Q R rx ry h k
  rcases h with ⟨d, e, e1, e2, s1, s2, h⟩ | ⟨a, b, rfl, rfl, h⟩
  · exact .inl ⟨d, e, dpMono R.sub (dp_of rx e1), dpMono R.sub (dp_of ry e2), s1, s2, k _ H F (.val (.bl _)) (Same.refl F) R (Rep.bl _) h⟩
  · cases rx; cases ry
    refine .inr ⟨rfl, k _ H F (.val (.bl _)) (Same.refl F) R ?_ h⟩
    rw [show decide (V.str a = V.str b) = decide (a = b) from decide_eq_decide.mpr ⟨fun e => by injection e, fun e => by rw [e]⟩]
    exact Rep.bl _
theorem ser_ne {K mg} : Ser K mg (rNeA K) opNe := by
  intro hO Fr F σ H ρ x y p q Qv Q R rx ry h k
  rcases h with ⟨d, e, e1, e2, s1, s2, h⟩ | ⟨a, b, rfl, rfl, h⟩
  · exact .inl ⟨d, e, dpMono R.sub (dp_of rx e1), dpMono R.sub (dp_of ry e2), s1, s2, k _ H F (.val (.bl _)) (Same.refl F) R (Rep.bl _) h⟩
  · cases rx; cases ry
    refine .inr ⟨rfl, k _ H F (.val (.bl _)) (Same.refl F) R ?_ h⟩
    rw [show decide (V.str a = V.str b) = decide (a = b) from decide_eq_decide.mpr ⟨fun e => by injection e, fun e => by rw [e]⟩]
    exact Rep.bl _
/-- x is None -/
def opIs : OpV := fun p q Q => q = .non ∧ Q (.val (.bl (match p with | .non => true | _ => false)))
def opIsNot : OpV := fun p q Q => q = .non ∧ Q (.val (.bl (match p with | .non => false | _ => true)))
theorem ser_is {K mg} : Ser K mg (fun x y H Q => y = .non ∧ Q (.bl (decide (x = .non))) H) opIs := by
  intro hO Fr F σ H ρ x y p q Qv Q R rx ry h k
  obtain ⟨rfl, h⟩ := h
  cases ry
  refine ⟨rfl, ?_⟩
  cases rx <;> exact k _ H F (.val (.bl _)) (Same.refl F) R (Rep.bl _) h
theorem ser_isnot {K mg} : Ser K mg (fun x y H Q => y = .non ∧ Q (.bl (!decide (x = .non))) H) opIsNot := by
  intro hO Fr F σ H ρ x y p q Qv Q R rx ry h k
  obtain ⟨rfl, h⟩ := h
  cases ry
  refine ⟨rfl, ?_⟩
  cases rx <;> exact k _ H F (.val (.bl _)) (Same.refl F) R (Rep.bl _) h
/-- x in a list of data -/
def opIn : OpV := fun p q Q => ∃ d ds xs, toD p = some d ∧ q = .lst xs ∧ toDs xs = some ds ∧ shp d ∧ shp (.list ds) ∧ Q (.val (.bl (ds.any fun z => PyData.eqv z d)))
def opNotIn : OpV := fun p q Q => ∃ d ds xs, toD p = some d ∧ q = .lst xs ∧ toDs xs = some ds ∧ shp d ∧ shp (.list ds) ∧ Q (.val (.bl (!ds.any fun z => PyData.eqv z d)))
theorem toD_lst {xs : List PV} {ds : List PyData} (h : toDs xs = some ds) : toD (.lst xs) = some (.list ds) := by simp [toD, h]
theorem toD_tup {xs : List PV} {ds : List PyData} (h : toDs xs = some ds) : toD (.tup xs) = some (.tuple ds) := by simp [toD, h]
theorem ser_in {K mg} : Ser K mg (rInD K) opIn := by
  intro hO Fr F σ H ρ x y p q Qv Q R rx ry h k
  obtain ⟨d, ds, xs, e1, rfl, e2, s1, s2, h⟩ := h
  exact ⟨d, ds, dpMono R.sub (dp_of rx e1), dpMono R.sub (dp_of ry (toD_lst e2)), s1, s2, k _ H F (.val (.bl _)) (Same.refl F) R (Rep.bl _) h⟩
theorem ser_notin {K mg} : Ser K mg (rNotInD K) opNotIn := by
  intro hO Fr F σ H ρ x y p q Qv Q R rx ry h k
  obtain ⟨d, ds, xs, e1, rfl, e2, s1, s2, h⟩ := h
  exact ⟨d, ds, dpMono R.sub (dp_of rx e1), dpMono R.sub (dp_of ry (toD_lst e2)), s1, s2, k _ H F (.val (.bl _)) (Same.refl F) R (Rep.bl _) h⟩

theorem ve_lt (ha : VE X a wa) (hb : VE X b wb) : VE X (.Compare a [.Lt] [b] pos) (wBin opLt wa wb) := ve_cmp op_lt ser_cmpI ha hb (nomark _)
theorem ve_le (ha : VE X a wa) (hb : VE X b wb) : VE X (.Compare a [.LtE] [b] pos) (wBin opLe wa wb) := ve_cmp op_le ser_cmpI ha hb (nomark _)
theorem ve_gt (ha : VE X a wa) (hb : VE X b wb) : VE X (.Compare a [.Gt] [b] pos) (wBin opGt wa wb) := ve_cmp op_gt ser_cmpI ha hb (nomark _)
theorem ve_ge (ha : VE X a wa) (hb : VE X b wb) : VE X (.Compare a [.GtE] [b] pos) (wBin opGe wa wb) := ve_cmp op_ge ser_cmpI ha hb (nomark _)
theorem ve_eq (hu : X.A.units + 64 < cLine) (ha : VE X a wa) (hb : VE X b wb) : VE X (.Compare a [.Eq] [b] pos) (wBin opEq wa wb) := ve_cmp (op_eqA hu) ser_eq ha hb (nomark _)
theorem ve_ne (hu : X.A.units + 64 < cLine) (ha : VE X a wa) (hb : VE X b wb) : VE X (.Compare a [.NotEq] [b] pos) (wBin opNe wa wb) := ve_cmp (op_neA hu) ser_ne ha hb (nomark _)
theorem ve_is (ha : VE X a wa) (hb : VE X b wb) : VE X (.Compare a [.Is] [b] pos) (wBin opIs wa wb) := ve_cmp op_isN ser_is ha hb (nomark _)
theorem ve_isnot (ha : VE X a wa) (hb : VE X b wb) : VE X (.Compare a [.IsNot] [b] pos) (wBin opIsNot wa wb) := ve_cmp op_notN ser_isnot ha hb (nomark _)
theorem ve_in (hu : X.A.units + 65 < cLine) (ha : VE X a wa) (hb : VE X b wb) (hm : behindInMarks .In b = false) : VE X (.Compare a [.In] [b] pos) (wBin opIn wa wb) := ve_cmp (op_inD hu) ser_in ha hb hm
theorem ve_notin (hu : X.A.units + 65 < cLine) (ha : VE X a wa) (hb : VE X b wb) (hm : behindInMarks .NotIn b = false) : VE X (.Compare a [.NotIn] [b] pos) (wBin opNotIn wa wb) := ve_cmp (op_notInD hu) ser_notin ha hb hm

/-! ### chains of two comparisons -/
def wChain (f g : OpV) (wa wb wc : WE) : WE := fun ρ Q => wa ρ fun r1 ρ1 => wb ρ1 fun r2 ρ2 => f r1.pv r2.pv fun r => match r with
  | .val (.bl k) => if k = true then wc ρ2 fun r3 ρ3 => g r2.pv r3.pv fun r' => Q r' ρ3 else Q (.val (.bl false)) ρ2
  | _ => False
theorem chain_read {K mg} {r r' : R2} {f g : OpV} {wa wb wc : WE} (hs : Ser K mg r f) (hs' : Ser K mg r' g) : ∀ σ H Q, eE K mg (wChain f g wa wb wc) σ H Q → tChain r r' (eE K mg wa) (eE K mg wb) (eE K mg wc) σ H Q := by
  rintro σ H Q ⟨hO, Fr, F, ρ, Qv, R, h, k⟩
  refine eE.pv (Qv := fun p ρ1 => wb ρ1 fun r2 ρ2 => f p r2.pv fun r => match r with
    | .val (.bl k) => if k = true then wc ρ2 fun r3 ρ3 => g r2.pv r3.pv fun r' => Qv r' ρ3 else Qv (.val (.bl false)) ρ2
    | _ => False) R h fun x H1 F1 p ρ1 s1 R1 rp h1 => ?_
  refine eE.pv (Qv := fun q ρ2 => f p q fun r => match r with
    | .val (.bl k) => if k = true then wc ρ2 fun r3 ρ3 => g q r3.pv fun r' => Qv r' ρ3 else Qv (.val (.bl false)) ρ2
    | _ => False) R1 h1 fun y H2 F2 q ρ2 s2 R2 rq h2 => ?_
  refine hs hO Fr F2 σ H2 ρ2 x y p q _ _ R2 (rp.mono s2) rq h2 fun v H3 F3 r3 s3 R3 o q3 => ?_
  split at q3
  · rename_i kk
    cases o
    refine ⟨kk, rfl, ?_⟩
    cases kk with
    | false =>
      rw [if_neg Bool.false_ne_true] at q3 ⊢
      exact k _ H3 F3 (.val (.bl false)) ρ2 ((s1.trans s2).trans s3) R3 (Rep.bl _) q3
    | true =>
      rw [if_pos rfl] at q3 ⊢
      refine eE.pv (Qv := fun z ρ3 => g q z fun r' => Qv r' ρ3) R3 q3 fun z H4 F4 pz ρ4 s4 R4 rz h4 => ?_
      refine hs' hO Fr F4 σ H4 ρ4 y z q pz _ Q R4 ((rq.mono s3).mono s4) rz h4 fun v H5 F5 r5 s5 R5 o5 q5 => ?_
      exact k v H5 F5 r5 ρ4 ((((s1.trans s2).trans s3).trans s4).trans s5) R5 o5 q5
  · exact q3.elim
theorem ve_chain {op op' : CmpOp} {r r' : R2} {f g : OpV} {c : Expr} {wc : WE} (ho : OpR X (compareOp op) r) (ho' : OpR X (compareOp op') r') (hs : Ser X.K X.mg r f) (hs' : Ser X.K X.mg r' g) (ha : VE X a wa) (hb : VE X b wb) (hc : VE X c wc)
    (hm : lastMarks [op, op'] [b, c] = false := by with_unfolding_all rfl) : VE X (.Compare a [op, op'] [b, c] pos) (wChain f g wa wb wc) := PE.imp (pe_chain ho ho' ha hb hc hm) (chain_read hs hs')
end
end VE
end
section
set_option Elab.async false
set_option linter.all false
set_option maxRecDepth 100000
namespace VE
open PySem PySem.Spec PyProof.Rows L2

section
variable {X : Cx} {pos : Pos} {a b c : Expr} {wa wb : WE}
/-! ### tests -/
def wTst (w : WE) : WT := fun ρ Q => w ρ fun r ρ1 => match r with
  | .val (.bl k) => Q k ρ1
  | _ => False
theorem tst_t {t : TE} {w : WE} (h : ∀ σ H Q, eE X.K X.mg w σ H Q → t σ H Q) : ∀ σ H Q, eT X.K X.mg (wTst w) σ H Q → tTest t σ H Q := by
  rintro σ H Q ⟨hO, Fr, F, ρ, Qv, R, hw, k⟩
  refine h σ H _ ⟨hO, Fr, F, ρ, _, R, hw, fun v H' F' r ρ' s R' o q => ?_⟩
  split at q
  · cases o
    exact ⟨_, rfl, k _ H' F' ρ' s R' q⟩
  · exact q.elim
theorem vt_cmp {op : CmpOp} {r : R2} {f : OpV} (ho : OpR X (compareOp op) r) (hs : Ser X.K X.mg r f) (ha : VE X a wa) (hb : VE X b wb) (hm : behindInMarks op b = false) : VT X (.Compare a [op] [b] pos) (wTst (wBin f wa wb)) :=
  PT.imp (pt_cmpR ho ha hb hm) (tst_t (ser_pe hs))
theorem vt_val {e : Expr} {w : WE} (h : VE X e w) (he : ∀ whole, isTrue e X.env whole = (do let v ← whole; standAt e.pos; holding [v] (truthy v)) := by intro _; rfl) : VT X e (wTst w) :=
  PT.imp (pt_val h he) fun σ H Q q => tst_t (t := eE X.K X.mg w) (fun _ _ _ z => z) σ H Q q
theorem vt_lt (ha : VE X a wa) (hb : VE X b wb) : VT X (.Compare a [.Lt] [b] pos) (wTst (wBin opLt wa wb)) := vt_cmp op_lt ser_cmpI ha hb (nomark _)
theorem vt_le (ha : VE X a wa) (hb : VE X b wb) : VT X (.Compare a [.LtE] [b] pos) (wTst (wBin opLe wa wb)) := vt_cmp op_le ser_cmpI ha hb (nomark _)
theorem vt_gt (ha : VE X a wa) (hb : VE X b wb) : VT X (.Compare a [.Gt] [b] pos) (wTst (wBin opGt wa wb)) := vt_cmp op_gt ser_cmpI ha hb (nomark _)
theorem vt_ge (ha : VE X a wa) (hb : VE X b wb) : VT X (.Compare a [.GtE] [b] pos) (wTst (wBin opGe wa wb)) := vt_cmp op_ge ser_cmpI ha hb (nomark _)
theorem vt_eq (hu : X.A.units + 64 < cLine) (ha : VE X a wa) (hb : VE X b wb) : VT X (.Compare a [.Eq] [b] pos) (wTst (wBin opEq wa wb)) := vt_cmp (op_eqA hu) ser_eq ha hb (nomark _)
theorem vt_ne (hu : X.A.units + 64 < cLine) (ha : VE X a wa) (hb : VE X b wb) : VT X (.Compare a [.NotEq] [b] pos) (wTst (wBin opNe wa wb)) := vt_cmp (op_neA hu) ser_ne ha hb (nomark _)
theorem vt_is (ha : VE X a wa) (hb : VE X b wb) : VT X (.Compare a [.Is] [b] pos) (wTst (wBin opIs wa wb)) := vt_cmp op_isN ser_is ha hb (nomark _)
theorem vt_isnot (ha : VE X a wa) (hb : VE X b wb) : VT X (.Compare a [.IsNot] [b] pos) (wTst (wBin opIsNot wa wb)) := vt_cmp op_notN ser_isnot ha hb (nomark _)
theorem vt_in (hu : X.A.units + 65 < cLine) (ha : VE X a wa) (hb : VE X b wb) (hm : behindInMarks .In b = false) : VT X (.Compare a [.In] [b] pos) (wTst (wBin opIn wa wb)) := vt_cmp (op_inD hu) ser_in ha hb hm
theorem vt_notin (hu : X.A.units + 65 < cLine) (ha : VE X a wa) (hb : VE X b wb) (hm : behindInMarks .NotIn b = false) : VT X (.Compare a [.NotIn] [b] pos) (wTst (wBin opNotIn wa wb)) := vt_cmp (op_notInD hu) ser_notin ha hb hm
theorem vt_chain {op op' : CmpOp} {r r' : R2} {f g : OpV} {wc : WE} (ho : OpR X (compareOp op) r) (ho' : OpR X (compareOp op') r') (hs : Ser X.K X.mg r f) (hs' : Ser X.K X.mg r' g) (ha : VE X a wa) (hb : VE X b wb) (hc : VE X c wc)
    (hm : lastMarks [op, op'] [b, c] = false := by with_unfolding_all rfl) : VT X (.Compare a [op, op'] [b, c] pos) (wTst (wChain f g wa wb wc)) :=
  PT.imp (pt_chain ho ho' ha hb hc hm) (tst_t (chain_read hs hs'))

def wAndT (t u : WT) : WT := fun ρ Q => t ρ fun k ρ1 => if k = true then u ρ1 Q else Q false ρ1
def wOrT (t u : WT) : WT := fun ρ Q => t ρ fun k ρ1 => if k = true then Q true ρ1 else u ρ1 Q
def wNotT (t : WT) : WT := fun ρ Q => t ρ fun k ρ1 => Q (!k) ρ1
abbrev VW (X : Cx) (e : Expr) (w : WT) : Prop := PW X e (eT X.K X.mg w)
theorem PW.imp {X : Cx} {e : Expr} {t t' : TT} (h : PW X e t) (k : ∀ σ H Q, t' σ H Q → t σ H Q) : PW X e t' := ⟨fun wh pins s σ H Q I q => h.run wh pins s σ H Q I (k _ _ _ q)⟩
section
variable {K : PySem.W.Frag} {mg : Str → Option Value} {hO : Option Addr} {Fr F : Hp} {σ : L2.St} {H : Hp} {ρ : Rho}
theorem eT.mk {w : WT} {Qv : Bool → Rho → Prop} {Q : Bool → Hp → Prop} (R : Rr ⟨K, mg, hO⟩ Fr F σ H ρ) (h : w ρ Qv)
    (k : ∀ b H' F' ρ', Same F F' → Rr ⟨K, mg, hO⟩ Fr F' σ H' ρ' → Qv b ρ' → Q b H') : eT K mg w σ H Q := ⟨hO, Fr, F, ρ, Qv, R, h, k⟩
end
variable {t u : WT} {rest : List Expr}
theorem vw_and1 (ha : VT X a t) : VW X (.BoolOp .And [a] pos) t := pw_and1 ha
theorem vw_or1 (ha : VT X a t) : VW X (.BoolOp .Or [a] pos) t := pw_or1 ha
theorem vw_and (ha : VT X a t) (hb : VW X (.BoolOp .And (b :: rest) pos) u) : VW X (.BoolOp .And (a :: b :: rest) pos) (wAndT t u) := by
  refine PW.imp (pw_and ha hb) ?_
  rintro σ H Q ⟨hO, Fr, F, ρ, Qv, R, h, k⟩
  refine eT.mk R h fun d H1 F1 ρ1 s1 R1 q1 => ?_
  cases d with
  | true => exact eT.mk R1 (by simpa using q1) fun d H2 F2 ρ2 s2 R2 q2 => k d H2 F2 ρ2 (s1.trans s2) R2 q2
  | false => exact k false H1 F1 ρ1 s1 R1 (by simpa using q1)
theorem vw_or (ha : VT X a t) (hb : VW X (.BoolOp .Or (b :: rest) pos) u) : VW X (.BoolOp .Or (a :: b :: rest) pos) (wOrT t u) := by
  refine PW.imp (pw_or ha hb) ?_
  rintro σ H Q ⟨hO, Fr, F, ρ, Qv, R, h, k⟩
  refine eT.mk R h fun d H1 F1 ρ1 s1 R1 q1 => ?_
  cases d with
  | false => exact eT.mk R1 (by simpa using q1) fun d H2 F2 ρ2 s2 R2 q2 => k d H2 F2 ρ2 (s1.trans s2) R2 q2
  | true => exact k true H1 F1 ρ1 s1 R1 (by simpa using q1)
theorem vt_bool {e : Expr} (h : VW X e t) : VT X e t := PW.pt h
theorem vt_not (ha : VT X a t) : VT X (.UnaryOp .Not a pos) (wNotT t) := by
  refine PT.imp (pt_not ha) ?_
  rintro σ H Q ⟨hO, Fr, F, ρ, Qv, R, h, k⟩
  exact eT.mk R h fun d H1 F1 ρ1 s1 R1 q1 => k (!d) H1 F1 ρ1 s1 R1 q1
/-! as values -/
def wAndV (wa wb : WE) : WE := fun ρ Q => wa ρ fun r ρ1 => match r with
  | .val (.bl k) => if k = true then wb ρ1 Q else Q (.val (.bl false)) ρ1
  | _ => False
def wOrV (wa wb : WE) : WE := fun ρ Q => wa ρ fun r ρ1 => match r with
  | .val (.bl k) => if k = true then Q (.val (.bl true)) ρ1 else wb ρ1 Q
  | _ => False
def wNotV (wa : WE) : WE := fun ρ Q => wa ρ fun r ρ1 => match r with
  | .val (.bl k) => Q (.val (.bl (!k))) ρ1
  | _ => False
theorem ve_one {op} (h : VE X a wa) : VE X (.BoolOp op [a] pos) wa := pe_one h
theorem ve_and (ha : VE X a wa) (hb : VE X (.BoolOp .And (b :: rest) pos) wb) : VE X (.BoolOp .And (a :: b :: rest) pos) (wAndV wa wb) := by
  refine PE.imp (pe_and ha hb) ?_
  rintro σ H Q ⟨hO, Fr, F, ρ, Qv, R, h, k⟩
  refine ⟨hO, Fr, F, ρ, _, R, h, fun v H1 F1 r ρ1 s1 R1 o q1 => ?_⟩
  split at q1
  · rename_i d
    cases o
    refine ⟨d, rfl, ?_⟩
    cases d with
    | true => exact ⟨hO, Fr, F1, ρ1, Qv, R1, by simpa using q1, fun v H2 F2 r ρ2 s2 R2 o q2 => k v H2 F2 r ρ2 (s1.trans s2) R2 o q2⟩
    | false => exact k _ H1 F1 (.val (.bl false)) ρ1 s1 R1 (Rep.bl _) (by simpa using q1)
  · exact q1.elim
theorem ve_or (ha : VE X a wa) (hb : VE X (.BoolOp .Or (b :: rest) pos) wb) : VE X (.BoolOp .Or (a :: b :: rest) pos) (wOrV wa wb) := by
  refine PE.imp (pe_or ha hb) ?_
  rintro σ H Q ⟨hO, Fr, F, ρ, Qv, R, h, k⟩
  refine ⟨hO, Fr, F, ρ, _, R, h, fun v H1 F1 r ρ1 s1 R1 o q1 => ?_⟩
  split at q1
  · rename_i d
    cases o
    refine ⟨d, rfl, ?_⟩
    cases d with
    | false => exact ⟨hO, Fr, F1, ρ1, Qv, R1, by simpa using q1, fun v H2 F2 r ρ2 s2 R2 o q2 => k v H2 F2 r ρ2 (s1.trans s2) R2 o q2⟩
    | true => exact k _ H1 F1 (.val (.bl true)) ρ1 s1 R1 (Rep.bl _) (by simpa using q1)
  · exact q1.elim
theorem ve_not (ha : VE X a wa) : VE X (.UnaryOp .Not a pos) (wNotV wa) := by
  refine PE.imp (pe_not ha) ?_
  rintro σ H Q ⟨hO, Fr, F, ρ, Qv, R, h, k⟩
  refine ⟨hO, Fr, F, ρ, _, R, h, fun v H1 F1 r ρ1 s1 R1 o q1 => ?_⟩
  split at q1
  · cases o
    exact ⟨_, rfl, k _ H1 F1 (.val (.bl _)) ρ1 s1 R1 (Rep.bl _) q1⟩
  · exact q1.elim
def wIf (t : WT) (wa wb : WE) : WE := fun ρ Q => t ρ fun k ρ1 => if k = true then wa ρ1 Q else wb ρ1 Q
theorem ve_ifexp (hc : VT X c t) (ha : VE X a wa) (hb : VE X b wb) : VE X (.IfExp c a b pos) (wIf t wa wb) := by
  refine PE.imp (pe_ifExp hc ha hb) ?_
  rintro σ H Q ⟨hO, Fr, F, ρ, Qv, R, h, k⟩
  refine eT.mk R h fun d H1 F1 ρ1 s1 R1 q1 => ?_
  cases d with
  | true => exact ⟨hO, Fr, F1, ρ1, Qv, R1, by simpa using q1, fun v H2 F2 r ρ2 s2 R2 o q2 => k v H2 F2 r ρ2 (s1.trans s2) R2 o q2⟩
  | false => exact ⟨hO, Fr, F1, ρ1, Qv, R1, by simpa using q1, fun v H2 F2 r ρ2 s2 R2 o q2 => k v H2 F2 r ρ2 (s1.trans s2) R2 o q2⟩

/-! ### argument lists, displays -/
def wNil : WA := fun ρ Q => Q [] ρ
def wCons (wa : WE) (wr : WA) : WA := fun ρ Q => wa ρ fun r ρ1 => wr ρ1 fun ps ρ2 => Q (r.pv :: ps) ρ2
theorem va_nil : VA X [] wNil := by
  refine PA.imp pa_nil ?_
  rintro σ H Q ⟨hO, Fr, F, ρ, Qv, R, h, k⟩
  exact k [] H F [] ρ (Same.refl F) R .nil h
theorem va_cons {e : Expr} {es : List Expr} {we : WE} {wr : WA} (ha : VE X e we) (hr : VA X es wr) (hs : starEach (e :: es) X.env = (false, eval e X.env) :: starEach es X.env := by rfl) : VA X (e :: es) (wCons we wr) := by
  refine PA.imp (pa_cons ha hr hs) ?_
  rintro σ H Q ⟨hO, Fr, F, ρ, Qv, R, h, k⟩
  refine eE.pv (Qv := fun p ρ1 => wr ρ1 fun ps ρ2 => Qv (p :: ps) ρ2) R h fun x H1 F1 p ρ1 s1 R1 rp h1 => ?_
  exact ⟨hO, Fr, F1, ρ1, _, R1, h1, fun vs H2 F2 ps ρ2 s2 R2 rs q => k (x :: vs) H2 F2 (p :: ps) ρ2 (s1.trans s2) R2 (.cons (rp.mono s2) rs) q⟩
def wTup (w : WA) : WE := fun ρ Q => w ρ fun ps ρ1 => ps.length ≤ sizeLine ∧ Q (.val (.tup ps)) ρ1
def wLst (w : WA) : WE := fun ρ Q => w ρ fun ps ρ1 => ps.length ≤ sizeLine ∧ Q (.own ps) ρ1
theorem ve_tup {es : List Expr} {w : WA} {x1} (h : VA X es w) : VE X (.Tuple es x1 pos) (wTup w) := by
  refine PE.imp (pe_tup h) ?_
  rintro σ H Q ⟨hO, Fr, F, ρ, Qv, R, h, k⟩
  refine ⟨hO, Fr, F, ρ, _, R, h, fun vs H1 F1 ps ρ1 s1 R1 rs q => ⟨by rw [rs.length]; exact q.1, fun p hp => ?_⟩⟩
  have hF := R1.nF hp
  exact k _ _ _ (.val (.tup ps)) ρ1 (s1.trans (same_upd hF)) (R1.laid hp) (Rep.tup (SqT.of upd_same) (rs.mono (same_upd hF))) q.2
theorem ve_lst {es : List Expr} {w : WA} (h : VA X es w) : VE X (.List es pos) (wLst w) := by
  refine PE.imp (pe_lst h) ?_
  rintro σ H Q ⟨hO, Fr, F, ρ, Qv, R, h, k⟩
  refine ⟨hO, Fr, F, ρ, _, R, h, fun vs H1 F1 ps ρ1 s1 R1 rs q => ⟨by rw [rs.length]; exact q.1, fun p hp => ?_⟩⟩
  exact k _ _ F1 (.own ps) ρ1 s1 (R1.fresh hp) (R1.freshOwn hp rs) q.2
theorem ve_dict0 : VE X (.Dict [] [] pos) (wC .dct0) := by
  refine PE.imp pe_dnewK ?_
  rintro σ H Q ⟨hO, Fr, F, ρ, Qv, R, h, k⟩
  intro p hp
  have hF := R.nF hp
  exact k _ _ _ (.val .dct0) ρ (same_upd hF) (R.laid hp) (Rep.dct0 upd_same) h

/-! ### index, slices -/
/-- a place of a list, a tuple -/
def opIx : OpV := fun p q Q => match p, q with
  | .tup xs, .int i => ∃ x, atI xs i = some x ∧ Q (.val x)
  | .lst xs, .int i => ∃ x, atI xs i = some x ∧ Q (.val x)
  | _, _ => False
def rIxLT (K : PySem.W.Frag) : R2 := fun x y H Q => rIxL K x y H Q ∨ rIxT K x y H Q
theorem ix_lt : IxR X (rIxLT X.K) := ix_list.or ix_tup
theorem Reps.atI {G : Gh} {F : Hp} {vs : List V} {ps : List PV} {i : Int} {p : PV} (r : Reps G F vs ps) (h : atI ps i = some p) : ∃ v, L2.atI vs i = some v ∧ Rep G F v p := by
  unfold L2.atI at h ⊢
  rw [← r.length] at h
  cases q : ixN vs.length i with
  | none => rw [q] at h; cases h
  | some j =>
    rw [q] at h
    exact r.get h
theorem ser_ix {K mg} : Ser K mg (rIxLT K) opIx := by
  intro hO Fr F σ H ρ x y p q Qv Q R rx ry h k
  unfold opIx at h
  split at h
  · cases rx with
    | tup e rs =>
      cases ry
      obtain ⟨z, e1, h⟩ := h
      obtain ⟨v, e2, rv⟩ := rs.atI e1
      exact .inr ⟨_, _, _, v, rfl, rfl, Same.sqt R.sub e, e2, k v H F (.val z) (Same.refl F) R rv h⟩
  · cases rx with
    | lst e rs =>
      cases ry
      obtain ⟨z, e1, h⟩ := h
      obtain ⟨v, e2, rv⟩ := rs.atI e1
      exact .inl ⟨_, _, _, v, rfl, rfl, .inl (.inl (R.sub _ _ e)), e2, k v H F (.val z) (Same.refl F) R rv h⟩
  · exact h.elim
theorem ve_ix (ha : VE X a wa) (hb : VE X b wb) (hs : PlainIx b := by intro _ _; rfl) : VE X (.Subscript a b pos) (wBin opIx wa wb) :=
  PE.imp (pe_ix ix_lt ha hb hs) (ser_pe ser_ix)
abbrev WO := Rho → (Option Int → Rho → Prop) → Prop
def eO (K : PySem.W.Frag) (mg : Str → Option Value) (w : WO) : TO := fun σ H Q => ∃ (hO : Option Addr) (Fr F : Hp) (ρ : Rho) (Qv : Option Int → Rho → Prop),
  Rr ⟨K, mg, hO⟩ Fr F σ H ρ ∧ w ρ Qv ∧ ∀ b H' F' ρ', Same F F' → Rr ⟨K, mg, hO⟩ Fr F' σ H' ρ' → Qv b ρ' → Q b H'
abbrev VO (X : Cx) (e : Option Expr) (w : WO) : Prop := PO X e (eO X.K X.mg w)
def wNoPart : WO := fun ρ Q => Q none ρ
def wPart (w : WE) : WO := fun ρ Q => w ρ fun r ρ1 => match r.pv with
  | .int i => Q (some i) ρ1
  | _ => False
theorem vo_none : VO X none wNoPart := ⟨fun pins s σ H Q I ⟨hO, Fr, F, ρ, Qv, R, h, k⟩ => po_none.run pins s σ H Q I (k none H F ρ (Same.refl F) R h)⟩
theorem vo_some {e : Expr} {w : WE} (h : VE X e w) : VO X (some e) (wPart w) := ⟨fun pins s σ H Q I ⟨hO, Fr, F, ρ, Qv, R, hw, k⟩ => (po_some h).run pins s σ H Q I (by
  refine eE.pv (Qv := fun p ρ1 => match p with | .int i => Qv (some i) ρ1 | _ => False) R hw fun v H' F' p ρ' s' R' rp q => ?_
  split at q
  · cases rp
    exact ⟨_, rfl, k _ H' F' ρ' s' R' q⟩
  · exact q.elim)⟩
def cutP {α : Type} (xs : List α) (lo hi : Option Int) : List α := (xs.drop (HT.sIx xs.length 0 lo)).take (HT.sIx xs.length xs.length hi - HT.sIx xs.length 0 lo)
def opSl (p : PV) (lo hi : Option Int) (Q : Sl → Prop) : Prop := match p with
  | .tup xs => Q (.val (.tup (cutP xs lo hi)))
  | .lst xs => Q (.own (cutP xs lo hi))
  | _ => False
def wSl (wa : WE) (wl wh : WO) : WE := fun ρ Q => wa ρ fun r ρ1 => wl ρ1 fun lo ρ2 => wh ρ2 fun hi ρ3 => opSl r.pv lo hi fun z => Q z ρ3
theorem Reps.cut {G : Gh} {F : Hp} {vs : List V} {ps : List PV} (r : Reps G F vs ps) (lo hi : Option Int) : Reps G F (cutV vs lo hi) (cutP ps lo hi) := by
  unfold cutV cutP
  rw [r.length]
  exact Reps.take _ (Reps.drop _ r)
theorem cutP_whole {α : Type} {xs : List α} {lo hi : Option Int} (h : HT.sIx xs.length 0 lo = 0 ∧ HT.sIx xs.length xs.length hi = xs.length) : cutP xs lo hi = xs := by
  unfold cutP
  rw [h.1, h.2]; simp
theorem ve_slice {e : Expr} {we : WE} {lo hi : Option Expr} {wl wh : WO} {p2 : Pos} (he : VE X e we) (hl : VO X lo wl) (hu : VO X hi wh) : VE X (.Subscript e (.Slice lo hi none p2) pos) (wSl we wl wh) := by
  refine PE.imp (pe_slice (sl_list.or sl_tupA) he hl hu) ?_
  rintro σ H Q ⟨hO, Fr, F, ρ, Qv, R, h, k⟩
  refine eE.pv (Qv := fun p ρ1 => wl ρ1 fun lo ρ2 => wh ρ2 fun hi ρ3 => opSl p lo hi fun z => Qv z ρ3) R h fun x H1 F1 p ρ1 s1 R1 rp h1 => ?_
  refine ⟨hO, Fr, F1, ρ1, _, R1, h1, fun l H2 F2 ρ2 s2 R2 h2 => ?_⟩
  refine ⟨hO, Fr, F2, ρ2, _, R2, h2, fun u H3 F3 ρ3 s3 R3 h3 => ?_⟩
  have rp3 := (rp.mono s2).mono s3
  have s := (s1.trans s2).trans s3
  unfold opSl at h3
  split at h3
  · cases rp3 with
    | tup e rs =>
      refine .inr ⟨_, _, rfl, Same.sqt R3.sub e, fun hw => ?_, fun _ q hq => ?_⟩
      · rw [rs.length] at hw
        have hc := cutP_whole hw
        rw [hc] at h3
        exact k _ H3 F3 (.val (.tup _)) ρ3 s R3 (Rep.tup e rs) h3
      · have hF := R3.nF hq
        exact k _ _ _ (.val (.tup _)) ρ3 (s.trans (same_upd hF)) (R3.laid hq) (Rep.tup (SqT.of upd_same) ((rs.cut l u).mono (same_upd hF))) h3
  · cases rp3 with
    | lst e rs =>
      refine .inl ⟨_, _, rfl, .inl (.inl (R3.sub _ _ e)), fun q hq => ?_⟩
      exact k _ _ F3 (.own _) ρ3 s (R3.fresh hq) (R3.freshOwn hq (rs.cut l u)) h3
  · exact h3.elim
end
end VE
end
section
set_option Elab.async false
set_option linter.all false
set_option maxRecDepth 100000
namespace VE
open PySem PySem.Spec PyProof.Rows L2

/-! ### a def's promise -/
abbrev SpV := List PV → (Sl → Prop) → Prop
def vsp (K : PySem.W.Frag) (mg : Str → Option Value) (n : Nat) (S : SpV) : Sp := fun vs H Q _ => vs.length = n ∧ ∃ (hO : Option Addr) (Fr F : Hp) (ps : List PV) (Qv : Sl → Prop),
  RB ⟨K, mg, hO⟩ Fr F H ∧ Reps ⟨K, mg, hO⟩ F vs ps ∧ S ps Qv ∧ ∀ v H' F' r, Same F F' → RB ⟨K, mg, hO⟩ Fr F' H' → RO ⟨K, mg, hO⟩ Fr F' [] H' [] v r → Qv r → Q v H'
/-- room for calls, and nothing is being shown (repr) -/
structure RoomG (k : Nat) (A : Around) : Prop where
  room : Room k A
  gd : A.guards = some []
theorem RoomG.mono {j k : Nat} {A : Around} (r : RoomG k A) (h : j ≤ k) : RoomG j A := ⟨r.room.mono h, r.gd⟩
theorem RoomG.units {k : Nat} {A : Around} (r : RoomG k A) : A.units + 64 < cLine := r.room.units
theorem RoomG.un {k : Nat} {A : Around} (r : RoomG k A) : A.units + 16 * k + 200 < cLine := r.room.un
/-- a def's promise, where nothing is being shown -/
structure FnG (P : Program) (w : World) (K : PySem.W.Frag) (mg : Str → Option Value) (base : Heap) (k : Nat) (f : Addr) (fd : FuncData) (prs : List Str) (sp : Sp) : Prop where
  len : ∀ vs H Q E, sp vs H Q E → vs.length = prs.length
  go : ∀ (A : Around) (outer : List Env) (s : Shared) (H : Hp) (args : Args) (us : List Value) (vs : List V) (Q : VK), RoomG k A → Env0 P w K mg base A outer s H → BindsTo s fd args (prs.zip us) → Vals vs us → sp vs H Q E0 →
    codeAny (model P w) A (.call (.ref f) args) (CR CX0 outer P w H s Q E0) s
theorem FnG.mono {P w K mg base j k f fd prs sp} (F : FnG P w K mg base j f fd prs sp) (h : j ≤ k) : FnG P w K mg base k f fd prs sp :=
  ⟨F.len, fun A outer s H args us vs Q hr => F.go A outer s H args us vs Q (hr.mono h)⟩
theorem FnG.imp {P w K mg base k f fd prs} {sp sp' : Sp} (F : FnG P w K mg base k f fd prs sp) (h : ∀ vs H Q E, sp' vs H Q E → sp vs H Q E) : FnG P w K mg base k f fd prs sp' :=
  ⟨fun vs H Q E q => F.len vs H Q E (h _ _ _ _ q), fun A outer s H args us vs Q hr e b v q => F.go A outer s H args us vs Q hr e b v (h _ _ _ _ q)⟩
section
variable {X : Cx} {k : Nat} {f : Addr} {fd : FuncData} {prs : List Str} {sp : Sp} {x : Str} {p pos : Pos} {e : Expr} {es : List Expr} {t : TA}
theorem goG {pins : List (Addr × Obj)} {σ : L2.St} {H : Hp} {s : Shared} {Q : VK} {us : List Value} {vs : List V} (F : FnG X.prog X.w X.K X.mg X.base k f fd prs sp) (hr : RoomG k X.A) (hb : Binds X.K fd prs [])
    (I : Inv X pins σ H s) (r : Vals vs us) (h : sp vs H Q E0) : wpAny (model X.prog X.w) X.A (call (.ref f) us) (EP X pins σ Q) X.xe s := by
  have lu : (us ++ []).length = prs.length := by rw [List.append_nil, ← r.length]; exact F.len vs H Q E0 h
  have bd := hb s us I.kIn lu
  rw [List.append_nil] at bd
  refine wpAny_call (codeAny_mono (F.go X.A X.stack s H _ us vs Q hr I.env0 bd r h) ?_)
  intro r s' hq
  match r, hq with
  | .ok (.ret _), hq => exact I.after hq
  | .ok .next, hq => exact hq.elim
  | .ok .brk, hq => exact hq.elim
  | .ok .cont, hq => exact hq.elim
  | .error _, hq => exact False.elim hq
theorem pe_callG (F : FnG X.prog X.w X.K X.mg X.base k f fd prs sp) (hr : RoomG k X.A) (hg : Gl X x) (hm : X.mg x = some (.ref f)) (hk : PySem.W.keepIn X.K (.ref f) = true) (hb : Binds X.K fd prs [])
    (ha : PA X (e :: es) t) (hdb : (x == ("__debug__" : Str)) = false) (he : starEach (e :: es) X.env = (false, eval e X.env) :: starEach es X.env) (hpl : (backTo pos (starEach es X.env)).any (·.1) = false) :
    PE X (.Call (.Name x p) (e :: es) [] pos) (fun σ H Q => t σ H fun vs H1 => sp vs H1 Q E0) := ⟨fun pins s σ H Q I hw => by
  have step : wpAny (model X.prog X.w) X.A (spliced (backTo pos (starEach (e :: es) X.env))) (fun us s1 => X.K.In s1.heap ∧ wpAny (model X.prog X.w) X.A (call (.ref f) us) (EP X pins σ Q) X.xe s1) X.xe s :=
    thn (ha.run pos pins s σ H _ I hw) fun us s1 ⟨vs, H1, I1, r1, q1⟩ => ⟨I1.kIn, goG F hr hb I1 r1 q1⟩
  exact wpAny_Call_Name_kw (ld_glob I hg hm (PySem.W.callWith_K (h₀ := X.base) I.ok.mod.kin hk step he hpl) hdb)⟩
theorem pe_callG0 (F : FnG X.prog X.w X.K X.mg X.base k f fd prs sp) (hr : RoomG k X.A) (hg : Gl X x) (hm : X.mg x = some (.ref f)) (hk : PySem.W.keepIn X.K (.ref f) = true) (hb : Binds X.K fd prs [])
    (hdb : (x == ("__debug__" : Str)) = false) : PE X (.Call (.Name x p) [] [] pos) (fun σ H Q => sp [] H Q E0) := ⟨fun pins s σ H Q I hw =>
  wpAny_Call_Name_kw (ld_glob I hg hm (PySem.W.callWith_K0 I.kIn hk (goG (us := []) F hr hb I .nil hw)) hdb)⟩
end
section
variable {P : Program} {w : World} {K : PySem.W.Frag} {mg : Str → Option Value} {base : Heap} {k : Nat} {f : Addr} {name qual : Str} {params : Arguments} {body : List Stmt} {scope : Scope} {dV kV doc pm cdv ct oc : Value} {an od : Option Addr} {osl : Array (Option Value)} {N prs : List Str} {sp : Sp}
/-- a body that keeps the promise gives the def's -/
theorem fnG_of (lk : K.lookup f = some ⟨oc, od, .func (PySem.W.fnOf name qual params body scope dV kV doc pm an cdv ct), osl⟩) (hcd : PySem.W.codeIn K cdv qual = true) (S : FnScope N prs scope) (len : ∀ vs H Q E, sp vs H Q E → vs.length = prs.length)
    (hbody : ∀ (A : Around) (outer : List Env) (s : Shared) (H : Hp) (vs : List V) (Q : VK), RoomG k (A.deeper (envOfC qual scope s.heap.objs.size f cdv)) → sp vs H Q E0 →
      ∃ t, PSs (cxOf CX0 P w K mg base N qual scope f cdv A outer s H E0) body t ∧ t { nx := fun _ H' => Q .non H', rt := Q } (L2.start N vs) H) :
    FnG P w K mg base (k + 1) f (PySem.W.fnOf name qual params body scope dV kV doc pm an cdv ct) prs sp := by
  constructor
  · exact len
  intro A outer s H args us vs Q hr e0 hb r hsp
  have lv : vs.length = prs.length := len vs H Q E0 hsp
  have keep0 : ∀ b o, base.get? b = some o → s.heap.get? b = some o := fun b o z => (e0.bs b o z).1
  have KX : K.In s.heap := e0.mod.kin.keeps keep0
  have hcells : ∀ y ∈ prs.zip us, scope.names.lookup y.1 = some .local ∨ (scope.names.lookup y.1 = some .cell ∧ ((cellsFrom (s.heap.objs.size + 1) scope.names []).lookup y.1).isSome = true) := by
    intro y hy
    have hm : y.1 ∈ prs := (List.of_mem_zip (a := y.1) (b := y.2) hy).1
    exact (S.par y.1 hm).imp id fun q => ⟨q, PySem.W.cellsFrom_some _ _ _ (.inl q)⟩
  refine codeAny_call_function hr.room.depth (KX _ _ lk) rfl S.co S.gen rfl (PySem.W.codeRec_of KX hcd) (hb _ _ _ _ (wpAny_newFunctionEnv_cells S.kind hcells ?_))
  intro env he s1 x
  subst he
  have lim : s.heap.NoLimit := e0.mod.nolimit.keeps keep0
  refine ⟨lim.keeps x.toInCall.keep, codeAny_func ?_⟩
  obtain ⟨t, ht, hq⟩ := hbody A outer s H vs Q ⟨hr.room.deeper _, hr.gd⟩ hsp
  have I0 : Inv (cxOf CX0 P w K mg base N qual scope f cdv A outer s H E0) [] (L2.start N vs) H s1 := inv_start S hr.room.hd e0 lv r x
  refine wpAny_mono (ht.run [] s1 _ H _ I0 hq) ?_ fun _ _ z => z
  intro fl s' hs
  match fl, hs with
  | .ret _, ⟨v, _, H', J, rv, q⟩ => exact ⟨v, H', J.os, J.bare, J.base, J.hok, rv, q⟩
  | .next, ⟨_, H', J, q⟩ => exact ⟨V.non, H', J.os, J.bare, J.base, J.hok, rfl, q⟩
  | .brk, ⟨_, _, _, q⟩ => exact q.elim
  | .cont, ⟨_, _, _, q⟩ => exact q.elim
end
/-- the def of that name keeps the promise -/
def Cal (P : Program) (w : World) (K : PySem.W.Frag) (mg : Str → Option Value) (base : Heap) (x : Str) (n k : Nat) (S : SpV) : Prop :=
  ∃ f fd ps, FnG P w K mg base k f fd ps (vsp K mg n S) ∧ mg x = some (.ref f) ∧ PySem.W.keepIn K (.ref f) = true ∧ Binds K fd ps []
theorem Cal.mono {P w K mg base x n j k S} (h : Cal P w K mg base x n j S) (l : j ≤ k) : Cal P w K mg base x n k S := by
  obtain ⟨f, fd, ps, h1, h2⟩ := h
  exact ⟨f, fd, ps, h1.mono l, h2⟩
theorem Cal.imp {P w K mg base x n k S S'} (h : Cal P w K mg base x n k S) (l : ∀ ps Q, S' ps Q → S ps Q) : Cal P w K mg base x n k S' := by
  obtain ⟨f, fd, ps, h1, h2⟩ := h
  exact ⟨f, fd, ps, h1.imp fun vs H Q E ⟨e, hO, Fr, F, qs, Qv, R, r, s, q⟩ => ⟨e, hO, Fr, F, qs, Qv, R, r, l _ _ s, q⟩, h2⟩

open Classical in
noncomputable def frm (Fr H : Hp) (σ : L2.St) (ρ : Rho) : Hp := fun b =>
  if (Fr b).isSome then Fr b else if ∃ (i : Nat) (xs : List PV), ρ[i]? = some (Sl.own xs) ∧ σ[i]? = some (some (V.ref b)) then H b else none
section
variable {G : Gh} {Fr F F' H H' : Hp} {σ : L2.St} {ρ : Rho} {v : V}
theorem frm_fr {b : Addr} {o : HO} (h : Fr b = some o) : frm Fr H σ ρ b = some o := by
  unfold frm; rw [if_pos (by rw [h]; rfl)]; exact h
theorem frm_own {b : Addr} {i : Nat} {xs : List PV} (R : Rr G Fr F σ H ρ) (h1 : ρ[i]? = some (Sl.own xs)) (h2 : σ[i]? = some (some (V.ref b))) : frm Fr H σ ρ b = H b := by
  obtain ⟨a, vs, e, o⟩ := R.own i xs h1
  rw [h2] at e; cases e
  unfold frm
  rw [if_neg (by rw [o.nFr]; decide), if_pos ⟨i, xs, h1, h2⟩]
theorem Rr.toFrm (R : Rr G Fr F σ H ρ) : RB G (frm Fr H σ ρ) F H where
  sub := R.sub
  fr := fun b o e => by
    unfold frm at e
    split at e
    · exact R.fr b o e
    · split at e
      · rename_i h
        obtain ⟨i, xs, h1, h2⟩ := h
        obtain ⟨a, vs, e1, ow⟩ := R.own i xs h1
        rw [h2] at e1; cases e1
        exact ⟨e, ow.nF, ow.nh⟩
      · cases e
  hand := R.hand
theorem Rr.ofFrm (R : Rr G Fr F σ H ρ) (s : Same F F') (B : RB G (frm Fr H σ ρ) F' H') : Rr G Fr F' σ H' ρ where
  sub := B.sub
  fr := fun b o e => B.fr b o (frm_fr e)
  hand := B.hand
  len := R.len
  val := fun i p e => by
    obtain ⟨v, h1, h2⟩ := R.val i p e
    exact ⟨v, h1, h2.mono s⟩
  own := fun i xs e => by
    obtain ⟨a, vs, h1, o⟩ := R.own i xs e
    obtain ⟨g1, g2, g3⟩ := B.fr a (.lst vs) (by rw [frm_own R e h1]; exact o.at_)
    exact ⟨a, vs, h1, g1, o.rep.mono s, g2, g3, o.nFr⟩
  sep := R.sep
theorem RO.ofFrm {r : Sl} (R : Rr G Fr F σ H ρ) (o : RO G (frm Fr H σ ρ) F' [] H' [] v r) : RO G Fr F' σ H' ρ v r := by
  cases r with
  | no => exact o
  | val p => exact o
  | own xs =>
    obtain ⟨a, vs, rfl, ow, _⟩ := o
    refine ⟨a, vs, rfl, ⟨ow.at_, ow.rep, ow.nF, ow.nh, ?_⟩, fun i ys e1 e2 => ?_⟩
    · cases q : Fr a with
      | none => rfl
      | some o => have := ow.nFr; rw [frm_fr q] at this; cases this
    · obtain ⟨b, us, g1, g2⟩ := R.own i ys e1
      rw [e2] at g1; cases g1
      have := ow.nFr
      rw [frm_own R e1 e2, g2.at_] at this; cases this
end

def wCall (S : SpV) (wa : WA) : WE := fun ρ Q => wa ρ fun ps ρ1 => S ps fun r => Q r ρ1
def wCallN (n : Nat) (S : SpV) (wa : WA) : WE := fun ρ Q => wa ρ fun ps ρ1 => ps.length = n ∧ S ps fun r => Q r ρ1
section
variable {X : Cx} {pos : Pos}
theorem ve_call {x : Str} {n k : Nat} {S : SpV} {e : Expr} {es : List Expr} {wa : WA} {p : Pos} (C : Cal X.prog X.w X.K X.mg X.base x n k S) (hr : RoomG k X.A) (hg : Gl X x) (ha : VA X (e :: es) wa)
    (hdb : (x == ("__debug__" : Str)) = false := by decide) (he : starEach (e :: es) X.env = (false, eval e X.env) :: starEach es X.env := by rfl) (hpl : (backTo pos (starEach es X.env)).any (·.1) = false := by rfl) :
    VE X (.Call (.Name x p) (e :: es) [] pos) (wCallN n S wa) := by
  obtain ⟨f, fd, prs, F, hm, hk, hb⟩ := C
  refine PE.imp (pe_callG F hr hg hm hk hb ha hdb he hpl) ?_
  rintro σ H Q ⟨hO, Fr, F, ρ, Qv, R, h, k⟩
  refine ⟨hO, Fr, F, ρ, _, R, h, fun vs H1 F1 ps ρ1 s1 R1 rs q => ?_⟩
  obtain ⟨ql, q⟩ := q
  refine ⟨by rw [rs.length]; exact ql, hO, frm Fr H1 σ ρ1, F1, ps, _, R1.toFrm, rs, q, fun v H' F' r s B o q' => ?_⟩
  exact k v H' F' r ρ1 (s1.trans s) (R1.ofFrm s B) (RO.ofFrm R1 o) q'
theorem ve_call0 {x : Str} {k : Nat} {S : SpV} {p : Pos} (C : Cal X.prog X.w X.K X.mg X.base x 0 k S) (hr : RoomG k X.A) (hg : Gl X x)
    (hdb : (x == ("__debug__" : Str)) = false := by decide) : VE X (.Call (.Name x p) [] [] pos) (wCall S wNil) := by
  obtain ⟨f, fd, prs, F, hm, hk, hb⟩ := C
  refine PE.imp (pe_callG0 F hr hg hm hk hb hdb) ?_
  rintro σ H Q ⟨hO, Fr, F, ρ, Qv, R, h, k⟩
  refine ⟨rfl, hO, frm Fr H σ ρ, F, [], _, R.toFrm, .nil, h, fun v H' F' r s B o q' => ?_⟩
  exact k v H' F' r ρ s (R.ofFrm s B) (RO.ofFrm R o) q'

/-! ### calls of built-ins -/
def SerC (K : PySem.W.Frag) (mg : Str → Option Value) (r : List V → Hp → VK → Prop) (op : SpV) : Prop := ∀ (hO : Option Addr) (Fr F : Hp) (σ : L2.St) (H : Hp) (ρ : Rho) (vs : List V) (ps : List PV) (Qv : Sl → Prop) (Q : VK),
  Rr ⟨K, mg, hO⟩ Fr F σ H ρ → Reps ⟨K, mg, hO⟩ F vs ps → op ps Qv → (∀ v H' F' r, Same F F' → Rr ⟨K, mg, hO⟩ Fr F' σ H' ρ → RO ⟨K, mg, hO⟩ Fr F' σ H' ρ v r → Qv r → Q v H') → r vs H Q
def serc {K mg} {r : List V → Hp → VK → Prop} {op : SpV} {wa : WA} (hs : SerC K mg r op) : ∀ σ H Q, eE K mg (wCall op wa) σ H Q → tCB r (eA K mg wa) σ H Q := by
  rintro σ H Q ⟨hO, Fr, F, ρ, Qv, R, h, k⟩
  refine ⟨hO, Fr, F, ρ, _, R, h, fun vs H1 F1 ps ρ1 s1 R1 rs q => ?_⟩
  exact hs hO Fr F1 σ H1 ρ1 vs ps _ Q R1 rs q fun v H' F' r s R' o q' => k v H' F' r ρ1 (s1.trans s) R' o q'
theorem ve_callB {x : Str} {id : String} {r : List V → Hp → VK → Prop} {op : SpV} {e : Expr} {es : List Expr} {wa : WA} {p : Pos} (hc : CallR X (.builtin id) r) (hs : SerC X.K X.mg r op) (hg : Gl X x) (hm : X.mg x = none) (hv : bootBuiltins x = some (.builtin id)) (ha : VA X (e :: es) wa)
    (hn : x ≠ "__name__" := by decide) (hdb : (x == ("__debug__" : Str)) = false := by decide) (he : starEach (e :: es) X.env = (false, eval e X.env) :: starEach es X.env := by rfl) (hpl : (backTo pos (starEach es X.env)).any (·.1) = false := by rfl) :
    VE X (.Call (.Name x p) (e :: es) [] pos) (wCall op wa) := PE.imp (pe_callB hc hg hm hv ha hn hdb he hpl) (serc hs)
theorem ve_callTy {x : Str} {T : String} {r : List V → Hp → VK → Prop} {op : SpV} {e : Expr} {es : List Expr} {wa : WA} {p : Pos} (hc : CallR X (.type T) r) (hs : SerC X.K X.mg r op) (hg : Gl X x) (hm : X.mg x = none) (hv : bootBuiltins x = some (.type T)) (ha : VA X (e :: es) wa)
    (hn : x ≠ "__name__" := by decide) (hdb : (x == ("__debug__" : Str)) = false := by decide) (he : starEach (e :: es) X.env = (false, eval e X.env) :: starEach es X.env := by rfl) (hpl : (backTo pos (starEach es X.env)).any (·.1) = false := by rfl) :
    VE X (.Call (.Name x p) (e :: es) [] pos) (wCall op wa) := PE.imp (pe_callTy hc hg hm hv ha hn hdb he hpl) (serc hs)
/-- len -/
def opLen : SpV := fun ps Q => match ps with
  | [.lst xs] => Q (.val (.int xs.length))
  | [.tup xs] => Q (.val (.int xs.length))
  | [.hnd] => Q (.val (.int 5))
  | [.str x] => x.length ≤ sizeLine ∧ Q (.val (.int x.length))
  | _ => False
def rLenA (K : PySem.W.Frag) : List V → Hp → VK → Prop := fun xs H Q => (∃ p ys, xs = [.ref p] ∧ (SqL K H p ys ∨ SqT K H p ys) ∧ Q (.int ys.length) H) ∨ (∃ z, xs = [.str z] ∧ z.length ≤ sizeLine ∧ Q (.int z.length) H)
theorem call_lenA : CallR X (.builtin "len") (rLenA X.K) := call_len_seq.or call_len_str
theorem ser_len {K mg} : SerC K mg (rLenA K) opLen := by
  intro hO Fr F σ H ρ vs ps Qv Q R rs h k
  unfold opLen at h
  split at h
  · cases rs with
    | cons r rn =>
      cases rn
      cases r with
      | lst e rs' => exact .inl ⟨_, _, rfl, .inl (.inl (.inl (R.sub _ _ e))), by rw [rs'.length]; exact k _ H F (.val (.int _)) (Same.refl F) R (Rep.int _) h⟩
  · cases rs with
    | cons r rn =>
      cases rn
      cases r with
      | tup e rs' => exact .inl ⟨_, _, rfl, .inr (Same.sqt R.sub e), by rw [rs'.length]; exact k _ H F (.val (.int _)) (Same.refl F) R (Rep.int _) h⟩
  · cases rs with
    | cons r rn =>
      cases rn
      cases r with
      | hnd e =>
        obtain ⟨_, c, cs, i, b, m, n, e1, _⟩ := R.hand _ e
        exact .inl ⟨_, _, rfl, .inl (.inl (.inl e1)), k _ H F (.val (.int _)) (Same.refl F) R (Rep.int _) h⟩
  · cases rs with
    | cons r rn =>
      cases rn
      cases r
      exact .inr ⟨_, rfl, h.1, k _ H F (.val (.int _)) (Same.refl F) R (Rep.int _) h.2⟩
  · exact h.elim
/-- abs, int -/
def opAbs : SpV := fun ps Q => match ps with
  | [.int i] => Q (.val (.int (if i < 0 then -i else i)))
  | _ => False
theorem ser_abs {K mg} : SerC K mg (fun xs H Q => ∃ i, xs = [.int i] ∧ Q (.int (if i < 0 then -i else i)) H) opAbs := by
  intro hO Fr F σ H ρ vs ps Qv Q R rs h k
  unfold opAbs at h
  split at h
  · cases rs with
    | cons r rn =>
      cases rn; cases r
      exact ⟨_, rfl, k _ H F (.val (.int _)) (Same.refl F) R (Rep.int _) h⟩
  · exact h.elim
def opIntC : SpV := fun ps Q => match ps with
  | [.int i] => Q (.val (.int i))
  | [.bl b] => Q (.val (.int (if b then 1 else 0)))
  | _ => False
theorem ser_intC {K mg} : SerC K mg (fun xs H Q => (∃ i, xs = [.int i] ∧ Q (.int i) H) ∨ ∃ k, xs = [.bl k] ∧ Q (.int (if k then 1 else 0)) H) opIntC := by
  intro hO Fr F σ H ρ vs ps Qv Q R rs h k
  unfold opIntC at h
  split at h
  · cases rs with
    | cons r rn =>
      cases rn; cases r
      exact .inl ⟨_, rfl, k _ H F (.val (.int _)) (Same.refl F) R (Rep.int _) h⟩
  · cases rs with
    | cons r rn =>
      cases rn; cases r
      exact .inr ⟨_, rfl, k _ H F (.val (.int _)) (Same.refl F) R (Rep.int _) h⟩
  · exact h.elim
/-- max, min of two ints -/
def opMax2 : SpV := fun ps Q => match ps with
  | [.int i, .int j] => Q (.val (.int (if j > i then j else i)))
  | _ => False
def opMin2 : SpV := fun ps Q => match ps with
  | [.int i, .int j] => Q (.val (.int (if j < i then j else i)))
  | _ => False
theorem ser_max2 {K mg} : SerC K mg (fun xs H Q => ∃ i j, xs = [.int i, .int j] ∧ Q (.int (if j > i then j else i)) H) opMax2 := by
  intro hO Fr F σ H ρ vs ps Qv Q R rs h k
  unfold opMax2 at h
  split at h
  · cases rs with
    | cons r rn =>
      cases rn with
      | cons r' rn =>
        cases rn; cases r; cases r'
        exact ⟨_, _, rfl, k _ H F (.val (.int _)) (Same.refl F) R (Rep.int _) h⟩
  · exact h.elim
theorem ser_min2 {K mg} : SerC K mg (fun xs H Q => ∃ i j, xs = [.int i, .int j] ∧ Q (.int (if j < i then j else i)) H) opMin2 := by
  intro hO Fr F σ H ρ vs ps Qv Q R rs h k
  unfold opMin2 at h
  split at h
  · cases rs with
    | cons r rn =>
      cases rn with
      | cons r' rn =>
        cases rn; cases r; cases r'
        exact ⟨_, _, rfl, k _ H F (.val (.int _)) (Same.refl F) R (Rep.int _) h⟩
  · exact h.elim
/-- all, any, sum of a list -/
def opAll : SpV := fun ps Q => ∃ bs : List Bool, ps = [.lst (bs.map PV.bl)] ∧ Q (.val (.bl (bs.all id)))
def opAny : SpV := fun ps Q => ∃ bs : List Bool, ps = [.lst (bs.map PV.bl)] ∧ Q (.val (.bl (bs.any id)))
def opSum : SpV := fun ps Q => ∃ bs : List Int, ps = [.lst (bs.map PV.int)] ∧ Q (.val (.int bs.sum))
theorem ser_all {K mg} : SerC K mg (rAll K) opAll := by
  intro hO Fr F σ H ρ vs ps Qv Q R rs h k
  obtain ⟨bs, rfl, h⟩ := h
  cases rs with
  | cons r rn =>
    cases rn
    cases r with
    | lst e rs' =>
      rw [rs'.of_bls] at e
      exact ⟨_, bs, rfl, .inl (.inl (R.sub _ _ e)), k _ H F (.val (.bl _)) (Same.refl F) R (Rep.bl _) h⟩
theorem ser_any {K mg} : SerC K mg (rAny K) opAny := by
  intro hO Fr F σ H ρ vs ps Qv Q R rs h k
  obtain ⟨bs, rfl, h⟩ := h
  cases rs with
  | cons r rn =>
    cases rn
    cases r with
    | lst e rs' =>
      rw [rs'.of_bls] at e
      exact ⟨_, bs, rfl, .inl (.inl (R.sub _ _ e)), k _ H F (.val (.bl _)) (Same.refl F) R (Rep.bl _) h⟩
theorem ser_sum {K mg} : SerC K mg (rSum K) opSum := by
  intro hO Fr F σ H ρ vs ps Qv Q R rs h k
  obtain ⟨bs, rfl, h⟩ := h
  cases rs with
  | cons r rn =>
    cases rn
    cases r with
    | lst e rs' =>
      rw [rs'.of_ints] at e
      exact ⟨_, bs, rfl, .inl (.inl (R.sub _ _ e)), k _ H F (.val (.int _)) (Same.refl F) R (Rep.int _) h⟩
/-- list(..), tuple(..) -/
def opList : SpV := fun ps Q => match ps with
  | [.lst xs] => Q (.own xs)
  | [.tup xs] => Q (.own xs)
  | _ => False
def opTuple : SpV := fun ps Q => match ps with
  | [.lst xs] => Q (.val (.tup xs))
  | [.tup xs] => Q (.val (.tup xs))
  | _ => False
theorem ser_list {K mg} : SerC K mg (fun xs H Q => ∃ p ys, xs = [.ref p] ∧ (SqL K H p ys ∨ SqT K H p ys) ∧ ∀ l, H l = none → Q (.ref l) (upd H l (.lst ys))) opList := by
  intro hO Fr F σ H ρ vs ps Qv Q R rs h k
  unfold opList at h
  split at h
  · cases rs with
    | cons r rn =>
      cases rn
      cases r with
      | lst e rs' => exact ⟨_, _, rfl, .inl (.inl (.inl (R.sub _ _ e))), fun l hl => k _ _ F (.own _) (Same.refl F) (R.fresh hl) (R.freshOwn hl rs') h⟩
  · cases rs with
    | cons r rn =>
      cases rn
      cases r with
      | tup e rs' => exact ⟨_, _, rfl, .inr (Same.sqt R.sub e), fun l hl => k _ _ F (.own _) (Same.refl F) (R.fresh hl) (R.freshOwn hl rs') h⟩
  · exact h.elim
theorem ser_tuple {K mg} : SerC K mg (fun xs H Q => ∃ p ys, xs = [.ref p] ∧ ((SqL K H p ys ∧ ∀ l, H l = none → Q (.ref l) (upd H l (.tup ys))) ∨ (SqT K H p ys ∧ Q (.ref p) H))) opTuple := by
  intro hO Fr F σ H ρ vs ps Qv Q R rs h k
  unfold opTuple at h
  split at h
  · cases rs with
    | cons r rn =>
      cases rn
      cases r with
      | lst e rs' =>
        refine ⟨_, _, rfl, .inl ⟨.inl (.inl (R.sub _ _ e)), fun l hl => ?_⟩⟩
        have hF := R.nF hl
        exact k _ _ _ (.val (.tup _)) (same_upd hF) (R.laid hl) (Rep.tup (SqT.of upd_same) (rs'.mono (same_upd hF))) h
  · cases rs with
    | cons r rn =>
      cases rn
      cases r with
      | tup e rs' => exact ⟨_, _, rfl, .inr ⟨Same.sqt R.sub e, k _ H F (.val (.tup _)) (Same.refl F) R (Rep.tup e rs') h⟩⟩
  · exact h.elim
/-- isinstance of a plain value and a built-in class -/
def kindOf : PV → Option String
  | .non => some "NoneType"
  | .bl _ => some "bool"
  | .int _ => some "int"
  | .str _ => some "str"
  | .tup _ => some "tuple"
  | .lst _ => some "list"
  | .hnd => some "list"
  | .dct0 => some "dict"
  | _ => none
def opIsi : SpV := fun ps Q => match ps with
  | [p, .ty n] => ∃ k b, kindOf p = some k ∧ kitB k n = some b ∧ Q (.val (.bl b))
  | _ => False
theorem ser_isi {K mg} : SerC K mg (rIsi K) opIsi := by
  intro hO Fr F σ H ρ vs ps Qv Q R rs h k
  unfold opIsi at h
  split at h
  · cases rs with
    | cons r rn =>
      cases rn with
      | cons r' rn =>
        cases rn
        cases r'
        obtain ⟨kd, b, e1, e2, h⟩ := h
        have fin := k (.bl b) H F (.val (.bl b)) (Same.refl F) R (Rep.bl _) h
        cases r with
        | non => simp only [kindOf, Option.some.injEq] at e1; subst e1; exact ⟨_, _, _, _, b, rfl, .ty _, .base .non, kit_ty e2, fin⟩
        | bl => simp only [kindOf, Option.some.injEq] at e1; subst e1; exact ⟨_, _, _, _, b, rfl, .ty _, .base (.bl _), kit_ty e2, fin⟩
        | int => simp only [kindOf, Option.some.injEq] at e1; subst e1; exact ⟨_, _, _, _, b, rfl, .ty _, .base (.int _), kit_ty e2, fin⟩
        | str => simp only [kindOf, Option.some.injEq] at e1; subst e1; exact ⟨_, _, _, _, b, rfl, .ty _, .base (.str _), kit_ty e2, fin⟩
        | tup e rs' =>
          simp only [kindOf, Option.some.injEq] at e1; subst e1
          have e' := Same.sqt R.sub e
          rcases e' with (e' | ⟨o, e'⟩) | ⟨o, its, n, e', ec, _⟩
          · exact ⟨_, _, _, _, b, rfl, .ty _, .base (.tup e'), kit_ty e2, fin⟩
          · exact ⟨_, _, _, _, b, rfl, .ty _, .fTuple e', kit_ty e2, fin⟩
          · exact ⟨_, _, _, _, b, rfl, .ty _, .kTuple e' ec, kit_ty e2, fin⟩
        | lst e rs' => simp only [kindOf, Option.some.injEq] at e1; subst e1; exact ⟨_, _, _, _, b, rfl, .ty _, .base (.lst (R.sub _ _ e)), kit_ty e2, fin⟩
        | dct0 e => simp only [kindOf, Option.some.injEq] at e1; subst e1; exact ⟨_, _, _, _, b, rfl, .ty _, .base (.dK (R.sub _ _ e)), kit_ty e2, fin⟩
        | hnd e =>
          simp only [kindOf, Option.some.injEq] at e1; subst e1
          obtain ⟨_, c, cs, i, b', m, n, e3, _⟩ := R.hand _ e
          exact ⟨_, _, _, _, b, rfl, .ty _, .base (.lst e3), kit_ty e2, fin⟩
        | ty | fnc | ins => simp [kindOf] at e1
  · exact h.elim
end
end VE
end
section
set_option Elab.async false
set_option linter.all false
set_option maxRecDepth 100000
namespace VE
open PySem PySem.Spec PyProof.Rows L2

section
variable {X : Cx} {pos : Pos}
section
variable {K : PySem.W.Frag} {mg : Str → Option Value} {hO : Option Addr} {Fr F : Hp} {σ : L2.St} {H : Hp} {ρ : Rho}
theorem RO.none {G : Gh} {v : V} {r : Sl} (o : RO G Fr F σ H ρ v r) : RO G Fr F [] H [] v r := by
  cases r with
  | no => exact o
  | val p => exact o
  | own xs =>
    obtain ⟨a, vs, e, ow, _⟩ := o
    exact ⟨a, vs, e, ow, fun i ys e1 _ => by simp at e1⟩
end
/-! ### small statements -/
def wNext : WS := fun D ρ => D.nx ρ
def wSeq (a b : WS) : WS := fun D ρ => a { D with nx := fun ρ1 => b D ρ1 } ρ
theorem vss_nil : VSs X [] wNext := by
  refine PSs.imp pss_nil ?_
  rintro D σ H ⟨hO, Fr, F, ρ, DV, R, h, k1, k2, k3, k4⟩
  exact k1 σ H F ρ (Same.refl F) R h
theorem vss_cons {st : Stmt} {rest : List Stmt} {a b : WS} (h1 : VS X st a) (h2 : VSs X rest b) : VSs X (st :: rest) (wSeq a b) := by
  refine PSs.imp (pss_cons h1 h2) ?_
  rintro D σ H ⟨hO, Fr, F, ρ, DV, R, h, k1, k2, k3, k4⟩
  refine ⟨hO, Fr, F, ρ, _, R, h, fun σ1 H1 F1 ρ1 s1 R1 q1 => ?_, k2, k3, k4⟩
  exact ⟨hO, Fr, F1, ρ1, DV, R1, q1, fun σ2 H2 F2 ρ2 s2 R2 q => k1 σ2 H2 F2 ρ2 (s1.trans s2) R2 q, fun v H2 F2 r s2 B o q => k2 v H2 F2 r (s1.trans s2) B o q,
    fun σ2 H2 F2 ρ2 s2 R2 q => k3 σ2 H2 F2 ρ2 (s1.trans s2) R2 q, fun σ2 H2 F2 ρ2 s2 R2 q => k4 σ2 H2 F2 ρ2 (s1.trans s2) R2 q⟩
theorem vss_one {st : Stmt} {a : WS} (h1 : VS X st a) : VSs X [st] a := pss_one h1
def wBreak : WS := fun D ρ => D.bk ρ
def wCont : WS := fun D ρ => D.ct ρ
def wNever : WS := fun _ _ => False
theorem vs_pass : VS X (.Pass pos) wNext := by
  refine PS.imp ps_pass ?_
  rintro D σ H ⟨hO, Fr, F, ρ, DV, R, h, k1, k2, k3, k4⟩
  exact k1 σ H F ρ (Same.refl F) R h
theorem vs_break : VS X (.Break pos) wBreak := by
  refine PS.imp ps_break ?_
  rintro D σ H ⟨hO, Fr, F, ρ, DV, R, h, k1, k2, k3, k4⟩
  exact k3 σ H F ρ (Same.refl F) R h
theorem vs_cont : VS X (.Continue pos) wCont := by
  refine PS.imp ps_continue ?_
  rintro D σ H ⟨hO, Fr, F, ρ, DV, R, h, k1, k2, k3, k4⟩
  exact k4 σ H F ρ (Same.refl F) R h
theorem vs_never {st : Stmt} : VS X st wNever := by
  refine PS.imp ps_never ?_
  rintro D σ H ⟨hO, Fr, F, ρ, DV, R, h, k1, k2, k3, k4⟩
  exact h.elim
def wRet (w : WE) : WS := fun D ρ => w ρ fun r _ => D.rt r
def wRetN (i : Nat) : WS := fun D ρ => match look ρ i with
  | .no => False
  | .val p => D.rt (.val p)
  | .own xs => D.rt (.own xs)
def wRet0 : WS := fun D ρ => D.rt (.val .non)
theorem vs_ret {e : Expr} {w : WE} (he : VE X e w) : VS X (.Return (some e) pos) (wRet w) := by
  refine PS.imp (ps_ret he) ?_
  rintro D σ H ⟨hO, Fr, F, ρ, DV, R, h, k1, k2, k3, k4⟩
  exact ⟨hO, Fr, F, ρ, _, R, h, fun v H' F' r ρ' s R' o q => k2 v H' F' r s R'.toRB o.none q⟩
theorem vs_ret0 : VS X (.Return none pos) wRet0 := by
  refine PS.imp ps_retN ?_
  rintro D σ H ⟨hO, Fr, F, ρ, DV, R, h, k1, k2, k3, k4⟩
  exact k2 _ H F (.val .non) (Same.refl F) R.toRB Rep.non h
theorem vs_retN {i : Nat} {x : Str} {p : Pos} (hN : X.N[i]? = some x) (hv : Vis X.env.scope x) (hd : (x == ("__debug__" : Str)) = false := by decide) (hcd : (x == ("__classdict__" : Str)) = false := by decide) : VS X (.Return (some (.Name x p)) pos) (wRetN i) := by
  refine PS.imp (ps_ret (pe_var hN hv hd hcd)) ?_
  rintro D σ H ⟨hO, Fr, F, ρ, DV, R, h, k1, k2, k3, k4⟩
  unfold wRetN at h
  cases q : look ρ i with
  | no => rw [q] at h; exact h.elim
  | val p =>
    rw [q] at h
    obtain ⟨v, e, rp⟩ := R.val i p (look_get q (by intro z; cases z))
    exact ⟨v, e, k2 v H F (.val p) (Same.refl F) R.toRB rp h⟩
  | own xs =>
    rw [q] at h
    obtain ⟨a, vs, e, o⟩ := R.own i xs (look_get q (by intro z; cases z))
    exact ⟨_, e, k2 _ H F (.own xs) (Same.refl F) R.toRB ⟨a, vs, rfl, o, fun i ys e1 _ => by simp at e1⟩ h⟩
def wIfS (t : WT) (a b : WS) : WS := fun D ρ => t ρ fun k ρ1 => if k = true then a D ρ1 else b D ρ1
theorem vs_if {c : Expr} {p q : List Stmt} {t : WT} {a b : WS} (hc : VT X c t) (ha : VSs X p a) (hb : VSs X q b) : VS X (.If c p q pos) (wIfS t a b) := by
  refine PS.imp (ps_if hc ha hb) ?_
  rintro D σ H ⟨hO, Fr, F, ρ, DV, R, h, k1, k2, k3, k4⟩
  refine eT.mk R h fun d H1 F1 ρ1 s1 R1 q1 => ?_
  cases d with
  | true => exact ⟨hO, Fr, F1, ρ1, DV, R1, by simpa using q1, fun σ2 H2 F2 ρ2 s2 R2 q => k1 σ2 H2 F2 ρ2 (s1.trans s2) R2 q, fun v H2 F2 r s2 B o q => k2 v H2 F2 r (s1.trans s2) B o q,
    fun σ2 H2 F2 ρ2 s2 R2 q => k3 σ2 H2 F2 ρ2 (s1.trans s2) R2 q, fun σ2 H2 F2 ρ2 s2 R2 q => k4 σ2 H2 F2 ρ2 (s1.trans s2) R2 q⟩
  | false => exact ⟨hO, Fr, F1, ρ1, DV, R1, by simpa using q1, fun σ2 H2 F2 ρ2 s2 R2 q => k1 σ2 H2 F2 ρ2 (s1.trans s2) R2 q, fun v H2 F2 r s2 B o q => k2 v H2 F2 r (s1.trans s2) B o q,
    fun σ2 H2 F2 ρ2 s2 R2 q => k3 σ2 H2 F2 ρ2 (s1.trans s2) R2 q, fun σ2 H2 F2 ρ2 s2 R2 q => k4 σ2 H2 F2 ρ2 (s1.trans s2) R2 q⟩
def wDrop (w : WE) : WS := fun D ρ => w ρ fun _ ρ1 => D.nx ρ1
theorem vs_expr {e : Expr} {w : WE} (he : VE X e w) (hs : swapsWith e none pos.line X.env = pure false := by rfl) : VS X (.Expr e pos) (wDrop w) := by
  refine PS.imp (ps_expr he hs) ?_
  rintro D σ H ⟨hO, Fr, F, ρ, DV, R, h, k1, k2, k3, k4⟩
  exact ⟨hO, Fr, F, ρ, _, R, h, fun v H' F' r ρ' s R' o q => k1 σ H' F' ρ' s R' q⟩
/-! ### stores -/
def wSet (i : Nat) (w : WE) : WS := fun D ρ => w ρ fun r ρ1 => D.nx (ρ1.set i r)
theorem vs_set {i : Nat} {x : Str} {e : Expr} {w : WE} {pos' : Pos} (hN : X.N.Nodup) (hi : X.N[i]? = some x) (hx : Loc X.env.scope x) (he : VE X e w) (hs : swapsWith e (some (.Name x pos')) pos.line X.env = pure false := by rfl) (hf : X.fn x = true ∨ X.env.scope.names.lookup x = some .local := by first | exact .inl rfl | exact .inr rfl | assumption) :
    VS X (.Assign [.Name x pos'] e pos) (wSet i w) := by
  refine PS.imp (ps_set hN hi hx he hs hf) ?_
  rintro D σ H ⟨hO, Fr, F, ρ, DV, R, h, k1, k2, k3, k4⟩
  exact ⟨hO, Fr, F, ρ, _, R, h, fun v H' F' r ρ' s R' o q => k1 _ H' F' _ s (R'.set o) q⟩
def wPar (i j : Nat) (w : WA) : WS := fun D ρ => w ρ fun ps ρ1 => ∃ p q, ps = [p, q] ∧ D.nx ((ρ1.set i (.val p)).set j (.val q))
theorem vs_par {i j : Nat} {x y : Str} {a b : Expr} {w : WA} {px py pt : Pos} {kt k2 pt2} (hc : X.calm = true) (hN : X.N.Nodup) (hi : X.N[i]? = some x) (hj : X.N[j]? = some y) (hij : i ≠ j)
    (hx : X.env.scope.names.lookup x = some .local) (hy : X.env.scope.names.lookup y = some .local) (ha : VA X [a, b] w)
    (hw : swappedStores [.Tuple [.Name x px, .Name y py] kt pt] (.Tuple [a, b] k2 pt2) X.env = pure (some [x, y]))
    (hs : swapsWithSole [.Tuple [.Name x px, .Name y py] kt pt] (.Tuple [a, b] k2 pt2) pos.line X.env = pure false := by rfl) :
    VS X (.Assign [.Tuple [.Name x px, .Name y py] kt pt] (.Tuple [a, b] k2 pt2) pos) (wPar i j w) := by
  refine PS.imp (ps_par hc hN hi hj hij hx hy ha hw hs) ?_
  rintro D σ H ⟨hO, Fr, F, ρ, DV, R, h, k1, k2, k3, k4⟩
  refine ⟨hO, Fr, F, ρ, _, R, h, fun vs H' F' ps ρ' s R' rs ⟨p, q, e, hq⟩ => ?_⟩
  subst e
  cases rs with
  | cons r1 rs =>
    cases rs with
    | cons r2 rs =>
      cases rs
      refine ⟨_, _, rfl, k1 _ H' F' _ s ?_ hq⟩
      have R1 := R'.set (i := i) (r := .val p) r1
      exact R1.set (i := j) (r := .val q) r2
def wPar3 (i j l : Nat) (w : WA) : WS := fun D ρ => w ρ fun ps ρ1 => ∃ p q r, ps = [p, q, r] ∧ D.nx (((ρ1.set i (.val p)).set j (.val q)).set l (.val r))
theorem vs_par3 {i j l : Nat} {x y z : Str} {st : Stmt} {ta : TA} {w : WA} (h : PS X st (tPar3 i j l (eA X.K X.mg w))) : VS X st (wPar3 i j l w) := by
  refine PS.imp h ?_
  rintro D σ H ⟨hO, Fr, F, ρ, DV, R, h, k1, k2, k3, k4⟩
  refine ⟨hO, Fr, F, ρ, _, R, h, fun vs H' F' ps ρ' s R' rs ⟨p, q, r, e, hq⟩ => ?_⟩
  subst e
  cases rs with
  | cons r1 rs =>
    cases rs with
    | cons r2 rs =>
      cases rs with
      | cons r3 rs =>
        cases rs
        refine ⟨_, _, _, rfl, k1 _ H' F' _ s ?_ hq⟩
        have R1 := R'.set (i := i) (r := .val p) r1
        have R2 := R1.set (i := j) (r := .val q) r2
        exact R2.set (i := l) (r := .val r) r3
/-! targets -/
abbrev WG := PV → Rho → (Rho → Prop) → Prop
abbrev WGs := List PV → Rho → (Rho → Prop) → Prop
/-- only the slots vs change -/
def Chg (vs : List Nat) (σ σ' : L2.St) : Prop := σ'.length = σ.length ∧ ∀ j, j ∉ vs → σ'[j]? = σ[j]?
theorem Chg.refl {vs : List Nat} {σ : L2.St} : Chg vs σ σ := ⟨rfl, fun _ _ => rfl⟩
theorem Chg.set {i : Nat} {σ : L2.St} {v : Option V} : Chg [i] σ (σ.set i v) := ⟨by simp, fun j h => by
  rw [List.getElem?_set_ne (fun e => h (by simp [e]))]⟩
theorem Chg.app {vs us : List Nat} {σ σ1 σ2 : L2.St} (a : Chg vs σ σ1) (b : Chg us σ1 σ2) : Chg (vs ++ us) σ σ2 := ⟨b.1.trans a.1, fun j h => by
  rw [List.mem_append, not_or] at h
  exact (b.2 j h.2).trans (a.2 j h.1)⟩
def eG (K : PySem.W.Frag) (mg : Str → Option Value) (vs : List Nat) (w : WG) : TG := fun v σ H Q => ∃ (hO : Option Addr) (Fr F : Hp) (ρ : Rho) (p : PV) (Qv : Rho → Prop),
  Rr ⟨K, mg, hO⟩ Fr F σ H ρ ∧ Rep ⟨K, mg, hO⟩ F v p ∧ w p ρ Qv ∧ ∀ σ' H' F' ρ', Same F F' → Rr ⟨K, mg, hO⟩ Fr F' σ' H' ρ' → Chg vs σ σ' → Qv ρ' → Q σ' H'
def eGs (K : PySem.W.Frag) (mg : Str → Option Value) (us : List Nat) (w : WGs) : TGs := fun vs σ H Q => ∃ (hO : Option Addr) (Fr F : Hp) (ρ : Rho) (ps : List PV) (Qv : Rho → Prop),
  Rr ⟨K, mg, hO⟩ Fr F σ H ρ ∧ Reps ⟨K, mg, hO⟩ F vs ps ∧ w ps ρ Qv ∧ ∀ σ' H' F' ρ', Same F F' → Rr ⟨K, mg, hO⟩ Fr F' σ' H' ρ' → Chg us σ σ' → Qv ρ' → Q σ' H'
abbrev VG (X : Cx) (e : Expr) (vs : List Nat) (w : WG) : Prop := PG X e (eG X.K X.mg vs w)
abbrev VGs (X : Cx) (e : List Expr) (vs : List Nat) (w : WGs) : Prop := PGs X e (eGs X.K X.mg vs w)
theorem PG.imp {X : Cx} {e : Expr} {t t' : TG} (h : PG X e t) (k : ∀ v σ H Q, t' v σ H Q → t v σ H Q) : PG X e t' := ⟨fun pins s σ H v u Q I r q => h.run pins s σ H v u Q I r (k _ _ _ _ q)⟩
theorem PGs.imp {X : Cx} {e : List Expr} {t t' : TGs} (h : PGs X e t) (k : ∀ v σ H Q, t' v σ H Q → t v σ H Q) : PGs X e t' := ⟨fun pins s σ H v u Q I r q => h.run pins s σ H v u Q I r (k _ _ _ _ q)⟩
def wgName (i : Nat) : WG := fun p ρ Q => Q (ρ.set i (.val p))
theorem vg_name {i : Nat} {x : Str} (hN : X.N.Nodup) (hi : X.N[i]? = some x) (hx : Loc X.env.scope x) (hf : X.fn x = true ∨ X.env.scope.names.lookup x = some .local := by first | exact .inl rfl | exact .inr rfl | assumption) : VG X (.Name x pos) [i] (wgName i) := by
  refine PG.imp (pg_name hN hi hx hf) ?_
  rintro v σ H Q ⟨hO, Fr, F, ρ, p, Qv, R, rp, h, k⟩
  exact k _ H F _ (Same.refl F) (R.set (r := .val p) rp) Chg.set h
def wgNil : WGs := fun ps ρ Q => ps = [] ∧ Q ρ
def wgCons (a : WG) (b : WGs) : WGs := fun ps ρ Q => match ps with
  | p :: ps => a p ρ fun ρ1 => b ps ρ1 Q
  | [] => False
theorem vgs_nil : VGs X [] [] wgNil := by
  refine PGs.imp pgs_nil ?_
  rintro v σ H Q ⟨hO, Fr, F, ρ, ps, Qv, R, rs, ⟨e, h⟩, k⟩
  subst e
  cases rs
  exact ⟨rfl, k _ H F _ (Same.refl F) R Chg.refl h⟩
theorem vgs_cons {e : Expr} {es : List Expr} {a : WG} {b : WGs} {v1 v2 : List Nat} (h1 : VG X e v1 a) (h2 : VGs X es v2 b)
    (hs : (assignEach (e :: es) X.env).map (·.2) = assign e X.env :: (assignEach es X.env).map (·.2) := by rfl) : VGs X (e :: es) (v1 ++ v2) (wgCons a b) := by
  refine PGs.imp (pgs_cons h1 h2 hs) ?_
  rintro v σ H Q ⟨hO, Fr, F, ρ, ps, Qv, R, rs, h, k⟩
  cases rs with
  | nil => exact h.elim
  | cons r rs =>
    refine ⟨_, _, rfl, hO, Fr, F, ρ, _, _, R, r, h, fun σ1 H1 F1 ρ1 s1 R1 c1 q1 => ?_⟩
    exact ⟨hO, Fr, F1, ρ1, _, Qv, R1, rs.mono s1, q1, fun σ2 H2 F2 ρ2 s2 R2 c2 q2 => k σ2 H2 F2 ρ2 (s1.trans s2) R2 (c1.app c2) q2⟩
def wgTup (n : Nat) (b : WGs) : WG := fun p ρ Q => match p with
  | .tup ps => ps.length = n ∧ b ps ρ Q
  | _ => False
theorem vg_tup {es : List Expr} {k : Nat} {t : WGs} {n : Nat} {vs : List Nat} (hc : X.calm = true) (h : VGs X es vs t)
    (hn : (assignEach es X.env).length = n := by rfl) (hst : (assignEach es X.env).findIdx? (·.1) = none := by rfl) : VG X (.Tuple es k pos) vs (wgTup n t) := by
  refine PG.imp (pg_tup hc h hn hst) ?_
  rintro v σ H Q ⟨hO, Fr, F, ρ, p, Qv, R, rp, h, k⟩
  unfold wgTup at h
  split at h
  · cases rp with
    | tup e rs =>
      refine ⟨_, _, rfl, Same.sqt R.sub e, by rw [rs.length]; exact h.1, ?_⟩
      exact ⟨hO, Fr, F, ρ, _, Qv, R, rs, h.2, k⟩
  · exact h.elim
/-- an owned list's place -/
def wgIx (i : Nat) (wi : WE) : WG := fun p ρ Q => (∃ xs, look ρ i = .own xs) ∧ wi ρ fun q ρ1 => match q.pv with
  | .int k => match look ρ1 i with
    | .own xs => ∃ j, ixN xs.length k = some j ∧ Q (ρ1.set i (.own (xs.set j p)))
    | _ => False
  | _ => False
theorem vg_ix {i : Nat} {x : Str} {p1 : Pos} {e : Expr} {wi : WE} (hN : X.N[i]? = some x) (hv : Vis X.env.scope x) (hd : (x == ("__debug__" : Str)) = false := by decide) (hcd : (x == ("__classdict__" : Str)) = false := by decide) (he : VE X e wi)
    (ha : ∀ v, assign (.Subscript (.Name x p1) e pos) X.env v = (do
      let ov ← holding [v] (eval (.Name x p1) X.env)
      let iv ← holding [v, ov] (eval e X.env)
      standAt pos
      holding [v, ov, iv] (setItem ov iv v)
      release [v, ov, iv] []) := by intro _; rfl) : VG X (.Subscript (.Name x p1) e pos) [] (wgIx i wi) := by
  refine PG.imp (pg_sub (pe_var hN hv hd hcd) he set_list ha) ?_
  rintro v σ H Q ⟨hO, Fr, F, ρ, p, Qv, R, rp, ⟨⟨xs0, hx0⟩, h⟩, k⟩
  obtain ⟨a, vs0, e0, o0⟩ := R.own i xs0 (look_get hx0 (by intro z; cases z))
  refine ⟨.ref a, e0, ?_⟩
  refine eE.pv (Qv := fun q ρ1 => match q with
    | .int k => match look ρ1 i with
      | .own xs => ∃ j, ixN xs.length k = some j ∧ Qv (ρ1.set i (.own (xs.set j p)))
      | _ => False
    | _ => False) R h fun y H1 F1 q ρ1 s1 R1 rq h1 => ?_
  split at h1
  · cases rq
    split at h1
    · rename_i kk xs hx
      obtain ⟨j, hj, hq⟩ := h1
      have g := look_get hx (by intro z; cases z)
      obtain ⟨a', vs, e1, o⟩ := R1.own i xs g
      rw [e0] at e1; cases e1
      refine ⟨a, vs, _, j, rfl, rfl, o.at_, by rw [o.rep.length]; exact hj, ?_⟩
      exact k _ _ F1 _ s1 (R1.write g e0 o (Reps.set j o.rep (rp.mono s1))) Chg.refl hq
    · exact h1.elim
  · exact h1.elim
def wAsg (w : WE) (g : WG) : WS := fun D ρ => w ρ fun r ρ1 => g r.pv ρ1 D.nx
theorem vs_asg {tg e : Expr} {w : WE} {g : WG} {vs : List Nat} (he : VE X e w) (hg : VG X tg vs g) (hs : swapsWithSole [tg] e pos.line X.env = pure false := by rfl) (hw : swappedStores [tg] e X.env = pure none := by rfl)
    (h1 : (assignEach [tg] X.env).map (·.2) = [assign tg X.env] := by rfl) : VS X (.Assign [tg] e pos) (wAsg w g) := by
  refine PS.imp (ps_asg he hg hs hw h1) ?_
  rintro D σ H ⟨hO, Fr, F, ρ, DV, R, h, k1, k2, k3, k4⟩
  refine eE.pv (Qv := fun p ρ1 => g p ρ1 DV.nx) R h fun x H1 F1 p ρ1 s1 R1 rp h1 => ?_
  exact ⟨hO, Fr, F1, ρ1, p, DV.nx, R1, rp, h1, fun σ2 H2 F2 ρ2 s2 R2 _ q => k1 σ2 H2 F2 ρ2 (s1.trans s2) R2 q⟩
/-- name += e, -= e -/
def wAug (i : Nat) (g : Int → Int → Int) (w : WE) : WS := fun D ρ => match look ρ i with
  | .val (.int a) => w ρ fun r ρ1 => match r.pv with
    | .int b => D.nx (ρ1.set i (.val (.int (g a b))))
    | _ => False
  | _ => False
theorem vs_aug {i : Nat} {x : Str} {e : Expr} {w : WE} {op : Operator} {g : Int → Int → Int} {pos' : Pos} (hN : X.N.Nodup) (hi : X.N[i]? = some x) (hx : Loc X.env.scope x) (he : VE X e w) (ho : PIp X op (ipI g)) (hf : X.fn x = true ∨ X.env.scope.names.lookup x = some .local := by first | exact .inl rfl | exact .inr rfl | assumption) :
    VS X (.AugAssign (.Name x pos') op e pos) (wAug i g w) := by
  refine PS.imp (ps_aug hN hi hx he ho hf) ?_
  rintro D σ H ⟨hO, Fr, F, ρ, DV, R, h, k1, k2, k3, k4⟩
  unfold wAug at h
  split at h
  · rename_i a hx
    obtain ⟨v, e1, rv⟩ := R.val i _ (look_get hx (by intro z; cases z))
    cases rv
    refine ⟨_, e1, ?_⟩
    refine eE.pv (Qv := fun p ρ1 => match p with | .int b => DV.nx (ρ1.set i (.val (.int (g a b)))) | _ => False) R h fun y H1 F1 p ρ1 s1 R1 rp h1 => ?_
    split at h1
    · cases rp
      exact ⟨_, _, rfl, rfl, k1 _ H1 F1 _ s1 (R1.set (r := .val (.int _)) (Rep.int _)) h1⟩
    · exact h1.elim
  · exact h.elim
/-! ### x.append(e), x.insert(i, e) -/
def wAppend (i : Nat) (w : WE) : WS := fun D ρ => (∃ xs, look ρ i = .own xs) ∧ w ρ fun r ρ1 => match look ρ1 i with
  | .own xs => xs.length < sizeLine ∧ D.nx (ρ1.set i (.own (xs ++ [r.pv])))
  | _ => False
theorem vs_append {i : Nat} {x : Str} {e : Expr} {w : WE} {p1 p2 p3 : Pos} (hN : X.N[i]? = some x) (hv : Vis X.env.scope x) (he : VE X e w)
    (hp : PE X (.Call (.Attribute (.Name x p1) "append" p2) [e] [] p3) (tBM X.K "list" rAppend (tVar i) (tCons (eE X.K X.mg w) tNil))) (hs : swapsWith (.Call (.Attribute (.Name x p1) "append" p2) [e] [] p3) none pos.line X.env = pure false := by rfl) :
    VS X (.Expr (.Call (.Attribute (.Name x p1) "append" p2) [e] [] p3) pos) (wAppend i w) := by
  refine PS.imp (ps_expr hp hs) ?_
  rintro D σ H ⟨hO, Fr, F, ρ, DV, R, ⟨⟨xs0, hx0⟩, h⟩, k1, k2, k3, k4⟩
  obtain ⟨a, vs0, e0, o0⟩ := R.own i xs0 (look_get hx0 (by intro z; cases z))
  refine ⟨.ref a, e0, .inl ⟨rfl, _, .inl (.inl o0.at_)⟩, ?_⟩
  refine eE.pv (Qv := fun p ρ1 => match look ρ1 i with
    | .own xs => xs.length < sizeLine ∧ DV.nx (ρ1.set i (.own (xs ++ [p])))
    | _ => False) R h fun y H1 F1 p ρ1 s1 R1 rp h1 => ?_
  split at h1
  · rename_i xs hx
    have g := look_get hx (by intro z; cases z)
    obtain ⟨a', vs, e1, o⟩ := R1.own i xs g
    rw [e0] at e1; cases e1
    refine ⟨a, vs, y, rfl, rfl, o.at_, by rw [o.rep.length]; exact h1.1, ?_⟩
    exact k1 _ _ F1 _ s1 (R1.write g e0 o (Reps.append o.rep (.cons rp .nil))) h1.2
  · exact h1.elim
def wInsert (i : Nat) (wi we : WE) : WS := fun D ρ => (∃ xs, look ρ i = .own xs) ∧ wi ρ fun q ρ1 => we ρ1 fun r ρ2 => match q.pv with
  | .int k => match look ρ2 i with
    | .own xs => xs.length < sizeLine ∧ 0 ≤ k ∧ k < 2 ^ 63 ∧ D.nx (ρ2.set i (.own (xs.take k.toNat ++ [r.pv] ++ xs.drop k.toNat)))
    | _ => False
  | _ => False
def rInsert : V → List V → Hp → VK → Prop := fun x vs H Q => ∃ (l : Addr) (xs : List V) (i : Int) (y : V), x = .ref l ∧ vs = [.int i, y] ∧ H l = some (.lst xs) ∧ xs.length < sizeLine ∧ 0 ≤ i ∧ i < 2 ^ 63 ∧
    Q .non (upd H l (.lst (xs.take i.toNat ++ [y] ++ xs.drop i.toNat)))
theorem vs_insert {i : Nat} {x : Str} {e1 e : Expr} {w1 w : WE} {p1 p2 p3 : Pos} (hN : X.N[i]? = some x) (hv : Vis X.env.scope x) 
    (hp : PE X (.Call (.Attribute (.Name x p1) "insert" p2) [e1, e] [] p3) (tBM X.K "list" rInsert (tVar i) (tCons (eE X.K X.mg w1) (tCons (eE X.K X.mg w) tNil)))) (hs : swapsWith (.Call (.Attribute (.Name x p1) "insert" p2) [e1, e] [] p3) none pos.line X.env = pure false := by rfl) :
    VS X (.Expr (.Call (.Attribute (.Name x p1) "insert" p2) [e1, e] [] p3) pos) (wInsert i w1 w) := by
  refine PS.imp (ps_expr hp hs) ?_
  rintro D σ H ⟨hO, Fr, F, ρ, DV, R, ⟨⟨xs0, hx0⟩, h⟩, k1, k2, k3, k4⟩
  obtain ⟨a, vs0, e0, o0⟩ := R.own i xs0 (look_get hx0 (by intro z; cases z))
  refine ⟨.ref a, e0, .inl ⟨rfl, _, .inl (.inl o0.at_)⟩, ?_⟩
  refine eE.pv (Qv := fun q ρ1 => w ρ1 fun r ρ2 => match q with
    | .int k => match look ρ2 i with
      | .own xs => xs.length < sizeLine ∧ 0 ≤ k ∧ k < 2 ^ 63 ∧ DV.nx (ρ2.set i (.own (xs.take k.toNat ++ [r.pv] ++ xs.drop k.toNat)))
      | _ => False
    | _ => False) R h fun y1 H0 F0 q ρ0 s0 R0 rq h0 => ?_
  refine eE.pv (Qv := fun p ρ2 => match (generalizing := false) q with
    | .int k => match look ρ2 i with
      | .own xs => xs.length < sizeLine ∧ 0 ≤ k ∧ k < 2 ^ 63 ∧ DV.nx (ρ2.set i (.own (xs.take k.toNat ++ [p] ++ xs.drop k.toNat)))
      | _ => False
    | _ => False) R0 h0 fun y H1 F1 p ρ1 s1 R1 rp h1 => ?_
  split at h1
  · cases rq
    split at h1
    · rename_i kk xs hx
      have g := look_get hx (by intro z; cases z)
      obtain ⟨a', vs, e1, o⟩ := R1.own i xs g
      rw [e0] at e1; cases e1
      refine ⟨a, vs, _, y, rfl, rfl, o.at_, by rw [o.rep.length]; exact h1.1, h1.2.1, h1.2.2.1, ?_⟩
      exact k1 _ _ F1 _ (s0.trans s1) (R1.write g e0 o (Reps.append (Reps.append (Reps.take _ o.rep) (.cons rp .nil)) (Reps.drop _ o.rep))) h1.2.2.2
    · exact h1.elim
  · exact h1.elim
end
end VE
end
section
set_option Elab.async false
set_option linter.all false
set_option maxRecDepth 100000
namespace VE
open PySem PySem.Spec PyProof.Rows L2

/-! ### what is walked -/
def ItOk (G : Gh) (J : It) (F : Hp) (ps : List PV) : Prop := ∀ (Fr F' : Hp) (σ : L2.St) (ρ : Rho) (i : Nat) (H' : Hp), Same F F' → Rr G Fr F' σ H' ρ →
  (ps.length ≤ i → J.stop i H') ∧ ∀ p, ps[i]? = some p → J.go i H' ∧ ∀ x H'', J.yld i H' x H'' → ∃ F'', Same F' F'' ∧ Rr G Fr F'' σ H'' ρ ∧ Rep G F'' x p
abbrev WI := Rho → (List PV → Rho → Prop) → Prop
def eI (K : PySem.W.Frag) (mg : Str → Option Value) (w : WI) : TI := fun σ H Q => ∃ (hO : Option Addr) (Fr F : Hp) (ρ : Rho) (Qv : List PV → Rho → Prop),
  Rr ⟨K, mg, hO⟩ Fr F σ H ρ ∧ w ρ Qv ∧ ∀ J H' F' ps ρ', Same F F' → Rr ⟨K, mg, hO⟩ Fr F' σ H' ρ' → ItOk ⟨K, mg, hO⟩ J F' ps → Qv ps ρ' → Q J H'
abbrev VI (X : Cx) (tg e : Expr) (w : WI) : Prop := PI X tg e (eI X.K X.mg w)
theorem PI.imp {X : Cx} {tg e : Expr} {t t' : TI} (h : PI X tg e t) (k : ∀ σ H Q, t' σ H Q → t σ H Q) : PI X tg e t' := ⟨fun pins s σ H R I q => h.run pins s σ H R I (k _ _ _ q)⟩
section
variable {X : Cx} {pos : Pos} {tg : Expr}
/-- a list, a tuple -/
def wiSeq (w : WE) : WI := fun ρ Q => w ρ fun r ρ1 => match r.pv with
  | .lst xs => Q xs ρ1
  | .tup xs => Q xs ρ1
  | _ => False
theorem itok_list {G : Gh} {F : Hp} {a : Addr} {vs : List V} {ps : List PV} (e : F a = some (.lst vs)) (r : Reps G F vs ps) : ItOk G (Itl G.K a) F ps := by
  intro Fr F' σ ρ i H' s R
  have q : SqL G.K H' a vs := .inl (.inl (R.sub _ _ (s _ _ e)))
  refine ⟨fun h => ⟨vs, q, by rw [r.length]; exact h⟩, fun p hp => ?_⟩
  obtain ⟨v, e1, rv⟩ := r.get hp
  refine ⟨⟨vs, v, q, e1⟩, fun x H'' y => ?_⟩
  obtain ⟨rfl, y⟩ := y
  have e2 := y vs q
  rw [e1] at e2; cases e2
  exact ⟨F', Same.refl F', R, rv.mono s⟩
theorem itok_tup {G : Gh} {F : Hp} {a : Addr} {vs : List V} {ps : List PV} (e : SqT G.K F a vs) (r : Reps G F vs ps) : ItOk G (Itt G.K a) F ps := by
  intro Fr F' σ ρ i H' s R
  have q : SqT G.K H' a vs := Same.sqt R.sub (Same.sqt s e)
  refine ⟨fun h => ⟨vs, q, by rw [r.length]; exact h⟩, fun p hp => ?_⟩
  obtain ⟨v, e1, rv⟩ := r.get hp
  refine ⟨⟨vs, v, q, e1⟩, fun x H'' y => ?_⟩
  obtain ⟨rfl, y⟩ := y
  have e2 := y vs q
  rw [e1] at e2; cases e2
  exact ⟨F', Same.refl F', R, rv.mono s⟩
/-- a list or a tuple that is walked: by what it turns out to be -/
theorem pi_or {l : Expr} {t1 t2 : TI} (h1 : PI X tg l t1) (h2 : PI X tg l t2) : PI X tg l (fun σ H R => t1 σ H R ∨ t2 σ H R) := ⟨fun pins s σ H R I h => h.elim (h1.run pins s σ H R I) (h2.run pins s σ H R I)⟩
/-- one reading for both -/
theorem pi_seq {l : Expr} {tl : TE} (hl : PE X l tl) : PI X tg l (fun σ H R => tl σ H fun x H1 => ∃ a, x = .ref a ∧ (((∃ xs, SqL X.K H1 a xs) ∧ R (Itl X.K a) H1) ∨ ((∃ xs, SqT X.K H1 a xs) ∧ R (Itt X.K a) H1))) := by
  refine ⟨fun pins s σ H R I h => ?_⟩
  refine thn (hl.run pins s σ H _ I h) fun v s1 ⟨x, H1, I1, r1, q1⟩ => ?_
  obtain ⟨a, e, q⟩ := q1
  subst e
  cases r1
  rcases q with ⟨⟨xs, hq⟩, q⟩ | ⟨⟨xs, hq⟩, q⟩
  · obtain ⟨its, rv, p, hz⟩ := I1.list hq
    refine wpAny_pyIter_list p.isList ?_
    refine ⟨s1.heap.objs.size, [s1.heap.objs.size], _, _, H1, rfl, I1.kept (t' := s1.toks) fun b o e => Heap.get?_push_of_some _ e, turn_list a _, ⟨_, Heap.get?_push_size _ rfl, rfl, rfl⟩, fun b hb => ?_, q⟩
    have e : b = s1.heap.objs.size := by simpa using hb
    subst e
    exact I1.fpOk (Nat.le_refl _) (I1.hok.fresh (Nat.le_refl _))
  · obtain ⟨its, rv, p, hz⟩ := I1.tuple hq
    refine wpAny_pyIter_tuple (show s1.heap.IsTuple a its.toArray from p) ?_
    refine ⟨s1.heap.objs.size, [s1.heap.objs.size], _, _, H1, rfl, I1.kept (t' := s1.toks) fun b o e => Heap.get?_push_of_some _ e, turn_tuple a _, ⟨_, Heap.get?_push_size _ rfl, rfl, rfl⟩, fun b hb => ?_, q⟩
    have e : b = s1.heap.objs.size := by simpa using hb
    subst e
    exact I1.fpOk (Nat.le_refl _) (I1.hok.fresh (Nat.le_refl _))
theorem vi_seq {l : Expr} {w : WE} (hl : VE X l w) : VI X tg l (wiSeq w) := by
  refine PI.imp (pi_seq hl) ?_
  rintro σ H Q ⟨hO, Fr, F, ρ, Qv, R, h, k⟩
  refine eE.pv (Qv := fun p ρ1 => match p with | .lst xs => Qv xs ρ1 | .tup xs => Qv xs ρ1 | _ => False) R h fun x H1 F1 p ρ1 s1 R1 rp h1 => ?_
  split at h1
  · cases rp with
    | lst e rs => exact ⟨_, rfl, .inl ⟨⟨_, .inl (.inl (R1.sub _ _ e))⟩, k _ H1 F1 _ ρ1 s1 R1 (itok_list e rs) h1⟩⟩
  · cases rp with
    | tup e rs => exact ⟨_, rfl, .inr ⟨⟨_, Same.sqt R1.sub e⟩, k _ H1 F1 _ ρ1 s1 R1 (itok_tup e rs) h1⟩⟩
  · exact h1.elim
/-- a range -/
def rangeP (lo : Int) (n : Nat) : List PV := (List.range n).map fun (i : Nat) => PV.int (lo + (i : Int))
theorem itok_range {G : Gh} {F : Hp} {lo : Int} {n : Nat} : ItOk G (Itr lo n) F (rangeP lo n) := by
  intro Fr F' σ ρ i H' s R
  refine ⟨fun h => (show n ≤ i by simpa [rangeP] using h), fun p hp => ?_⟩
  have hi : i < n := by
    have := (List.getElem?_eq_some_iff.mp hp).1
    simpa [rangeP] using this
  refine ⟨hi, fun x H'' y => ?_⟩
  obtain ⟨rfl, rfl⟩ := y
  refine ⟨F', Same.refl F', R, ?_⟩
  have e : (rangeP lo n)[i]? = some (.int (lo + (i : Int))) := by simp [rangeP, hi]
  rw [e] at hp; cases hp
  exact Rep.int _
def wiRng1 (w : WA) : WI := fun ρ Q => w ρ fun ps ρ1 => match ps with
  | [.int j] => j < 2 ^ 61 ∧ -(2 ^ 61) < j ∧ Q (rangeP 0 j.toNat) ρ1
  | _ => False
def wiRng2 (w : WA) : WI := fun ρ Q => w ρ fun ps ρ1 => match ps with
  | [.int i, .int j] => (j < 2 ^ 61 ∧ -(2 ^ 61) < j ∧ i < 2 ^ 61 ∧ -(2 ^ 61) < i) ∧ Q (rangeP i (j - i).toNat) ρ1
  | _ => False
theorem vi_rng1 {a : Expr} {w : WA} {p : Pos} (hg : Gl X "range") (hm : X.mg "range" = none) (ha : VA X [a] w) (hs : starEach [a] X.env = [(false, eval a X.env)] := by rfl) : VI X tg (.Call (.Name "range" p) [a] [] pos) (wiRng1 w) := by
  refine PI.imp (pi_range1 hg hm ha hs) ?_
  rintro σ H Q ⟨hO, Fr, F, ρ, Qv, R, h, k⟩
  refine ⟨hO, Fr, F, ρ, _, R, h, fun vs H' F' ps ρ' s R' rs q => ?_⟩
  split at q
  · cases rs with
    | cons r rs =>
      cases rs; cases r
      exact ⟨_, rfl, by omega, by omega, k _ H' F' _ ρ' s R' itok_range q.2.2⟩
  · exact q.elim
theorem vi_rng2 {a b : Expr} {w : WA} {p : Pos} (hg : Gl X "range") (hm : X.mg "range" = none) (ha : VA X [a, b] w) (hs : starEach [a, b] X.env = [(false, eval a X.env), (false, eval b X.env)] := by rfl) (hs2 : starEach [b] X.env = [(false, eval b X.env)] := by rfl) : VI X tg (.Call (.Name "range" p) [a, b] [] pos) (wiRng2 w) := by
  refine PI.imp (pi_range2 hg hm ha hs hs2) ?_
  rintro σ H Q ⟨hO, Fr, F, ρ, Qv, R, h, k⟩
  refine ⟨hO, Fr, F, ρ, _, R, h, fun vs H' F' ps ρ' s R' rs q => ?_⟩
  split at q
  · cases rs with
    | cons r rs =>
      cases rs with
      | cons r' rs =>
        cases rs; cases r; cases r'
        exact ⟨_, _, rfl, by omega, k _ H' F' _ ρ' s R' itok_range q.2⟩
  · exact q.elim
/-- zip of two lists, of two tuples -/
def zipP (xs ys : List PV) : List PV := (xs.zip ys).map fun z => PV.tup [z.1, z.2]
def wiZip (w : WA) : WI := fun ρ Q => w ρ fun ps ρ1 => match ps with
  | [.lst xs, .lst ys] => Q (zipP xs ys) ρ1
  | [.tup xs, .tup ys] => Q (zipP xs ys) ρ1
  | _ => False
theorem zip_step {G : Gh} {Fr F F' H' H'' : Hp} {σ : L2.St} {ρ : Rho} {T : Addr} {x y : V} {xs ys : List PV} {vs us : List V} {i : Nat} {p : PV} (s : Same F F') (R : Rr G Fr F' σ H' ρ) (rx : Reps G F vs xs) (ry : Reps G F us ys) (hp : (zipP xs ys)[i]? = some p)
    (hT : H' T = none) (e : H'' = upd H' T (.tup [x, y])) (h1 : vs[i]? = some x) (h2 : us[i]? = some y) : ∃ F'', Same F' F'' ∧ Rr G Fr F'' σ H'' ρ ∧ Rep G F'' (.ref T) p := by
  subst e
  have hF := R.nF hT
  obtain ⟨px, e1, r1⟩ := rx.getV h1
  obtain ⟨py, e2, r2⟩ := ry.getV h2
  have e3 : (zipP xs ys)[i]? = some (.tup [px, py]) := by
    unfold zipP
    have e4 : (xs.zip ys)[i]? = some (px, py) := List.getElem?_zip_eq_some.mpr ⟨e1, e2⟩
    rw [List.getElem?_map, e4]; rfl
  rw [e3] at hp; cases hp
  exact ⟨_, same_upd hF, R.laid hT, Rep.tup (SqT.of upd_same) (.cons ((r1.mono s).mono (same_upd hF)) (.cons ((r2.mono s).mono (same_upd hF)) .nil))⟩
theorem zip_at {xs ys : List PV} {i : Nat} {p : PV} (hp : (zipP xs ys)[i]? = some p) : ∃ x y, xs[i]? = some x ∧ ys[i]? = some y := by
  unfold zipP at hp
  rw [List.getElem?_map, Option.map_eq_some_iff] at hp
  obtain ⟨⟨x, y⟩, e, _⟩ := hp
  exact ⟨x, y, List.getElem?_zip_eq_some.mp e⟩
theorem zip_len {xs ys : List PV} {i : Nat} (h : (zipP xs ys).length ≤ i) : xs.length ≤ i ∨ ys.length ≤ i := by
  unfold zipP at h
  rw [List.length_map, List.length_zip] at h
  omega
theorem itok_zipL {G : Gh} {F : Hp} {a b : Addr} {vs us : List V} {xs ys : List PV} (e1 : F a = some (.lst vs)) (r1 : Reps G F vs xs) (e2 : F b = some (.lst us)) (r2 : Reps G F us ys) : ItOk G (Itz G.K a b) F (zipP xs ys) := by
  intro Fr F' σ ρ i H' s R
  have q1 : SqL G.K H' a vs := .inl (.inl (R.sub _ _ (s _ _ e1)))
  have q2 : SqL G.K H' b us := .inl (.inl (R.sub _ _ (s _ _ e2)))
  refine ⟨fun h => ⟨vs, us, q1, q2, ?_⟩, fun p hp => ?_⟩
  · rw [r1.length, r2.length]; exact zip_len h
  · obtain ⟨x, y, g1, g2⟩ := zip_at hp
    obtain ⟨v, g3, _⟩ := r1.get g1
    obtain ⟨u, g4, _⟩ := r2.get g2
    refine ⟨⟨vs, us, v, u, q1, q2, g3, g4⟩, fun z H'' yl => ?_⟩
    obtain ⟨T, x', y', rfl, hT, e, f1, f2⟩ := yl
    exact zip_step s R r1 r2 hp hT e (f1 vs q1) (f2 us q2)
theorem itok_zipT {G : Gh} {F : Hp} {a b : Addr} {vs us : List V} {xs ys : List PV} (e1 : SqT G.K F a vs) (r1 : Reps G F vs xs) (e2 : SqT G.K F b us) (r2 : Reps G F us ys) : ItOk G (RZ.ItzT G.K a b) F (zipP xs ys) := by
  intro Fr F' σ ρ i H' s R
  have q1 : SqT G.K H' a vs := Same.sqt R.sub (Same.sqt s e1)
  have q2 : SqT G.K H' b us := Same.sqt R.sub (Same.sqt s e2)
  refine ⟨fun h => ⟨vs, us, q1, q2, ?_⟩, fun p hp => ?_⟩
  · rw [r1.length, r2.length]; exact zip_len h
  · obtain ⟨x, y, g1, g2⟩ := zip_at hp
    obtain ⟨v, g3, _⟩ := r1.get g1
    obtain ⟨u, g4, _⟩ := r2.get g2
    refine ⟨⟨vs, us, v, u, q1, q2, g3, g4⟩, fun z H'' yl => ?_⟩
    obtain ⟨T, x', y', rfl, hT, e, f1, f2⟩ := yl
    exact zip_step s R r1 r2 hp hT e (f1 vs q1) (f2 us q2)
theorem vi_zip {e e2 : Expr} {w : WA} {p tpos : Pos} {elts : List Expr} {kk : Nat} (hg : Gl X "zip") (hm : X.mg "zip" = none) (ha : VA X [e, e2] w)
    (hp : PI X (.Tuple elts kk tpos) (.Call (.Name "zip" p) [e, e2] [] pos) (RZ.iZipA X.K (eA X.K X.mg w))) : VI X (.Tuple elts kk tpos) (.Call (.Name "zip" p) [e, e2] [] pos) (wiZip w) := by
  refine PI.imp hp ?_
  rintro σ H Q ⟨hO, Fr, F, ρ, Qv, R, h, k⟩
  refine ⟨hO, Fr, F, ρ, _, R, h, fun vs H' F' ps ρ' s R' rs q => ?_⟩
  split at q
  · cases rs with
    | cons r rs =>
      cases rs with
      | cons r' rs =>
        cases rs
        cases r with
        | lst e1 r1 =>
          cases r' with
          | lst e2 r2 => exact ⟨_, _, _, _, rfl, .inl ⟨.inl (.inl (R'.sub _ _ e1)), .inl (.inl (R'.sub _ _ e2)), k _ H' F' _ ρ' s R' (itok_zipL e1 r1 e2 r2) q⟩⟩
  · cases rs with
    | cons r rs =>
      cases rs with
      | cons r' rs =>
        cases rs
        cases r with
        | tup e1 r1 =>
          cases r' with
          | tup e2 r2 => exact ⟨_, _, _, _, rfl, .inr ⟨Same.sqt R'.sub e1, Same.sqt R'.sub e2, k _ H' F' _ ρ' s R' (itok_zipT e1 r1 e2 r2) q⟩⟩
  · exact q.elim
/-- enumerate of a list -/
def enumP (n : Nat) : List PV → List PV
  | [] => []
  | x :: xs => PV.tup [.int n, x] :: enumP (n + 1) xs
theorem enumP_len : ∀ (n : Nat) (xs : List PV), (enumP n xs).length = xs.length
  | _, [] => rfl
  | n, x :: xs => by simp [enumP, enumP_len (n + 1) xs]
theorem enumP_get : ∀ (n : Nat) (xs : List PV) (i : Nat), (enumP n xs)[i]? = xs[i]?.map fun x => PV.tup [.int ((n + i : Nat) : Int), x]
  | _, [], _ => rfl
  | n, x :: xs, 0 => by simp [enumP]
  | n, x :: xs, i + 1 => by
    rw [enumP, List.getElem?_cons_succ, List.getElem?_cons_succ, enumP_get (n + 1) xs i]
    rw [show n + 1 + i = n + (i + 1) by omega]
def wiEnum (w : WA) : WI := fun ρ Q => w ρ fun ps ρ1 => match ps with
  | [.lst xs] => Q (enumP 0 xs) ρ1
  | _ => False
theorem itok_enum {G : Gh} {F : Hp} {a : Addr} {vs : List V} {xs : List PV} (e1 : F a = some (.lst vs)) (r1 : Reps G F vs xs) : ItOk G (Ite G.K a) F (enumP 0 xs) := by
  intro Fr F' σ ρ i H' s R
  have q1 : SqL G.K H' a vs := .inl (.inl (R.sub _ _ (s _ _ e1)))
  refine ⟨fun h => ⟨vs, q1, by rw [enumP_len] at h; rw [r1.length]; exact h⟩, fun p hp => ?_⟩
  rw [enumP_get, Option.map_eq_some_iff] at hp
  obtain ⟨x, g1, rfl⟩ := hp
  obtain ⟨v, g3, rv⟩ := r1.get g1
  refine ⟨⟨vs, v, q1, g3⟩, fun z H'' yl => ?_⟩
  obtain ⟨T, x', rfl, hT, e, f1⟩ := yl
  subst e
  have hF := R.nF hT
  have f2 := f1 vs q1
  rw [g3] at f2; cases f2
  rw [Nat.zero_add]
  exact ⟨_, same_upd hF, R.laid hT, Rep.tup (SqT.of upd_same) (.cons (Rep.int _) (.cons ((rv.mono s).mono (same_upd hF)) .nil))⟩
theorem vi_enum {e : Expr} {w : WA} {p tpos : Pos} {elts : List Expr} {kk : Nat} (ha : VA X [e] w)
    (hp : PI X (.Tuple elts kk tpos) (.Call (.Name "enumerate" p) [e] [] pos) (iEnum X.K (eA X.K X.mg w))) : VI X (.Tuple elts kk tpos) (.Call (.Name "enumerate" p) [e] [] pos) (wiEnum w) := by
  refine PI.imp hp ?_
  rintro σ H Q ⟨hO, Fr, F, ρ, Qv, R, h, k⟩
  refine ⟨hO, Fr, F, ρ, _, R, h, fun vs H' F' ps ρ' s R' rs q => ?_⟩
  split at q
  · cases rs with
    | cons r rs =>
      cases rs
      cases r with
      | lst e1 r1 => exact ⟨_, _, rfl, .inl (.inl (R'.sub _ _ e1)), k _ H' F' _ ρ' s R' (itok_enum e1 r1) q⟩
  · exact q.elim

/-! ### for -/
def forL (g : WG) (wb : WS) : List PV → EndsV → Rho → Prop
  | [], D, ρ => D.nx ρ
  | p :: ps, D, ρ => g p ρ fun ρ1 => wb { D with nx := fun ρ2 => forL g wb ps D ρ2, ct := fun ρ2 => forL g wb ps D ρ2, bk := D.nx } ρ1
def wFor (wi : WI) (g : WG) (wb : WS) : WS := fun D ρ => wi ρ fun ps ρ1 => forL g wb ps D ρ1
theorem vs_for {iter : Expr} {body : List Stmt} {wi : WI} {g : WG} {wb : WS} {gvs : List Nat} (hp : PassesOwn (model X.prog X.w) X.A X.env X.xe) (hc : X.calm = true) (hi : VI X tg iter wi) (hg : VG X tg gvs g) (hb : VSs X body wb)
    (hs : ∀ x, foldedSetIterable iter X.env x = pure x := by intro _; rfl) : VS X (.For tg iter body [] pos) (wFor wi g wb) := by
  refine PS.imp (ps_for hp hc hi hg hb hs) ?_
  rintro D σ H ⟨hO, Fr, F, ρ, DV, R, h, k1, k2, k3, k4⟩
  refine ⟨hO, Fr, F, ρ, _, R, h, fun J H1 F1 ps ρ1 s1 R1 ok q => ?_⟩
  refine ⟨fun i m σ2 H2 => ∃ F2 ρ2, Same F1 F2 ∧ Rr ⟨X.K, X.mg, hO⟩ Fr F2 σ2 H2 ρ2 ∧ m = ps.length - i ∧ i ≤ ps.length ∧ forL g wb (ps.drop i) DV ρ2, ⟨ps.length, F1, ρ1, Same.refl F1, R1, by simp, Nat.zero_le _, by simpa using q⟩, ?_⟩
  rintro i m σ2 H2 ⟨F2, ρ2, s2, R2, rfl, hi, q2⟩
  obtain ⟨st, go⟩ := ok Fr F2 σ2 ρ2 i H2 s2 R2
  by_cases hlt : i < ps.length
  · have e : ps[i]? = some ps[i] := List.getElem?_eq_getElem hlt
    have ed : ps.drop i = ps[i] :: ps.drop (i + 1) := List.drop_eq_getElem_cons hlt
    rw [ed] at q2
    obtain ⟨g1, g2⟩ := go _ e
    refine .inr ⟨g1, fun σ3 H3 => ∃ F3 ρ3, Same F1 F3 ∧ Rr ⟨X.K, X.mg, hO⟩ Fr F3 σ3 H3 ρ3 ∧ forL g wb (ps.drop (i + 1)) DV ρ3, fun σ' H' ⟨F3, ρ3, s3, R3, q3⟩ => ⟨ps.length - (i + 1), by omega, F3, ρ3, s3, R3, rfl, hlt, q3⟩, fun x H' y => ?_⟩
    obtain ⟨F3, s3, R3, rx⟩ := g2 x H' y
    refine ⟨hO, Fr, F3, ρ2, _, _, R3, rx, q2, fun σ4 H4 F4 ρ4 s4 R4 _ q4 => ?_⟩
    have s24 := (s2.trans s3).trans s4
    have s04 := s1.trans s24
    refine ⟨hO, Fr, F4, ρ4, _, R4, q4, fun σ5 H5 F5 ρ5 s5 R5 q5 => ⟨F5, ρ5, s24.trans s5, R5, q5⟩, fun v H5 F5 r s5 B o q5 => k2 v H5 F5 r (s04.trans s5) B o q5,
      fun σ5 H5 F5 ρ5 s5 R5 q5 => k1 σ5 H5 F5 ρ5 (s04.trans s5) R5 q5, fun σ5 H5 F5 ρ5 s5 R5 q5 => ⟨F5, ρ5, s24.trans s5, R5, q5⟩⟩
  · have e : i = ps.length := by omega
    subst e
    rw [List.drop_length] at q2
    exact .inl ⟨st (Nat.le_refl _), k1 σ2 H2 F2 ρ2 (s1.trans s2) R2 q2⟩
/-! ### while -/
def whileN (t : WT) (wb : WS) : Nat → EndsV → Rho → Prop
  | 0, _, _ => False
  | n + 1, D, ρ => t ρ fun k ρ1 => if k = true then wb { D with nx := fun ρ2 => whileN t wb n D ρ2, ct := fun ρ2 => whileN t wb n D ρ2, bk := D.nx } ρ1 else D.nx ρ1
def wWhile (t : WT) (wb : WS) : WS := fun D ρ => ∃ n, whileN t wb n D ρ
theorem vs_while {c : Expr} {body : List Stmt} {t : WT} {wb : WS} (hp : PassesOwn (model X.prog X.w) X.A X.env X.xe) (hc : VT X c t) (hb : VSs X body wb) : VS X (.While c body [] pos) (wWhile t wb) := by
  refine PS.imp (ps_while hp hc hb) ?_
  rintro D σ H ⟨hO, Fr, F, ρ, DV, R, ⟨n, h⟩, k1, k2, k3, k4⟩
  refine ⟨fun m σ1 H1 => ∃ F1 ρ1, Same F F1 ∧ Rr ⟨X.K, X.mg, hO⟩ Fr F1 σ1 H1 ρ1 ∧ whileN t wb m DV ρ1, ⟨n, F, ρ, Same.refl F, R, h⟩, ?_⟩
  rintro m σ1 H1 ⟨F1, ρ1, s1, R1, q1⟩
  cases m with
  | zero => exact q1.elim
  | succ m =>
    refine eT.mk R1 q1 fun b H2 F2 ρ2 s2 R2 q2 => ?_
    have s02 := s1.trans s2
    cases b with
    | true =>
      rw [if_pos rfl] at q2 ⊢
      refine ⟨fun σ3 H3 => ∃ F3 ρ3, Same F F3 ∧ Rr ⟨X.K, X.mg, hO⟩ Fr F3 σ3 H3 ρ3 ∧ whileN t wb m DV ρ3, fun σ' H' q => ⟨m, Nat.lt_succ_self _, q⟩, ?_⟩
      exact ⟨hO, Fr, F2, ρ2, _, R2, q2, fun σ5 H5 F5 ρ5 s5 R5 q5 => ⟨F5, ρ5, s02.trans s5, R5, q5⟩, fun v H5 F5 r s5 B o q5 => k2 v H5 F5 r (s02.trans s5) B o q5,
        fun σ5 H5 F5 ρ5 s5 R5 q5 => k1 σ5 H5 F5 ρ5 (s02.trans s5) R5 q5, fun σ5 H5 F5 ρ5 s5 R5 q5 => ⟨F5, ρ5, s02.trans s5, R5, q5⟩⟩
    | false =>
      rw [if_neg Bool.false_ne_true] at q2 ⊢
      exact k1 σ1 H2 F2 ρ2 s02 R2 q2
end
end VE
end
section
set_option Elab.async false
set_option linter.all false
set_option maxRecDepth 100000
namespace VE
open PySem PySem.Spec PyProof.Rows L2
/-! ### list comprehensions -/
def wipeR (ρ : Rho) : List Nat → Rho
  | [] => ρ
  | v :: vs => (wipeR ρ vs).set v .no
/-- behind a block: the block's own names as they stood ahead of it -/
def backR (ρ0 ρ : Rho) : List Nat → Rho
  | [] => ρ
  | v :: vs => (backR ρ0 ρ vs).set v (look ρ0 v)
def NoOwn (ρ : Rho) (vs : List Nat) : Prop := ∀ i ∈ vs, ∀ xs, ρ[i]? ≠ some (Sl.own xs)
section
variable {G : Gh} {Fr F F' H H' : Hp} {σ : L2.St} {ρ ρ0 : Rho}
theorem wipeR_get : ∀ {vs : List Nat} {i : Nat} {r : Sl}, (wipeR ρ vs)[i]? = some r → r ≠ .no → ρ[i]? = some r ∧ i ∉ vs
  | [], _, _, h, _ => ⟨h, by simp⟩
  | v :: vs, i, r, h, n => by
    unfold wipeR at h
    by_cases hi : v = i
    · subst hi
      by_cases hl : v < (wipeR ρ vs).length
      · rw [List.getElem?_set_self hl] at h; cases h; exact absurd rfl n
      · rw [List.getElem?_eq_none (by rw [List.length_set]; omega)] at h; cases h
    · rw [List.getElem?_set_ne hi] at h
      obtain ⟨h1, h2⟩ := wipeR_get h n
      exact ⟨h1, by simp only [List.mem_cons, not_or]; exact ⟨fun e => hi e.symm, h2⟩⟩
theorem wipeR_len : ∀ (vs : List Nat), (wipeR ρ vs).length = ρ.length
  | [] => rfl
  | v :: vs => by unfold wipeR; rw [List.length_set, wipeR_len vs]
theorem wipe_get : ∀ {vs : List Nat} {i : Nat}, i ∉ vs → (wipe σ vs)[i]? = σ[i]?
  | [], _, _ => rfl
  | v :: vs, i, h => by
    simp only [List.mem_cons, not_or] at h
    unfold wipe
    rw [List.getElem?_set_ne (fun e => h.1 e.symm)]
    exact wipe_get h.2
/-- into the block -/
theorem Rr.wipe (R : Rr G Fr F σ H ρ) (vs : List Nat) : Rr G Fr F (wipe σ vs) H (wipeR ρ vs) where
  toRB := R.toRB
  len := by rw [wipeR_len, wipe_length]; exact R.len
  val := fun i p e => by
    obtain ⟨e1, n⟩ := wipeR_get e (by intro z; cases z)
    rw [wipe_get n]; exact R.val i p e1
  own := fun i p e => by
    obtain ⟨e1, n⟩ := wipeR_get e (by intro z; cases z)
    rw [wipe_get n]; exact R.own i p e1
  sep := fun i j xs ys a e1 e2 h1 h2 => by
    obtain ⟨e1, n1⟩ := wipeR_get e1 (by intro z; cases z)
    obtain ⟨e2, n2⟩ := wipeR_get e2 (by intro z; cases z)
    rw [wipe_get n1] at h1
    rw [wipe_get n2] at h2
    exact R.sep i j xs ys a e1 e2 h1 h2
theorem backR_len : ∀ (vs : List Nat), (backR ρ0 ρ vs).length = ρ.length
  | [] => rfl
  | v :: vs => by unfold backR; rw [List.length_set, backR_len vs]
theorem backR_in : ∀ {vs : List Nat} {i : Nat} {r : Sl}, i ∈ vs → (backR ρ0 ρ vs)[i]? = some r → r = look ρ0 i
  | [], _, _, h, _ => by simp at h
  | v :: vs, i, r, h, e => by
    unfold backR at e
    by_cases hi : v = i
    · subst hi
      have hl := (List.getElem?_eq_some_iff.mp e).1
      rw [List.getElem?_set_self (by simpa using hl)] at e
      cases e; rfl
    · rw [List.getElem?_set_ne hi] at e
      rcases List.mem_cons.mp h with z | z
      · exact absurd z.symm hi
      · exact backR_in z e
theorem backR_out : ∀ {vs : List Nat} {i : Nat}, i ∉ vs → (backR ρ0 ρ vs)[i]? = ρ[i]?
  | [], _, _ => rfl
  | v :: vs, i, h => by
    simp only [List.mem_cons, not_or] at h
    unfold backR
    rw [List.getElem?_set_ne (fun e => h.1 e.symm)]
    exact backR_out h.2
/-- out of it: what the block's own names hid comes back -/
theorem Rr.back {vs : List Nat} (R0 : Rr G Fr F σ H ρ0) (s : Same F F') (no : NoOwn ρ0 vs) (R : Rr G Fr F' (L2.wipe σ vs) H' ρ) : Rr G Fr F' σ H' (backR ρ0 ρ vs) where
  toRB := R.toRB
  len := by rw [backR_len, R.len, wipe_length]
  val := fun i p e => by
    by_cases hi : i ∈ vs
    · have q := look_get (backR_in hi e).symm (by intro z; cases z)
      obtain ⟨v, h1, h2⟩ := R0.val i p q
      exact ⟨v, h1, h2.mono s⟩
    · rw [backR_out hi] at e
      obtain ⟨v, h1, h2⟩ := R.val i p e
      exact ⟨v, (wipe_some h1).1, h2⟩
  own := fun i p e => by
    by_cases hi : i ∈ vs
    · exact absurd (look_get (backR_in hi e).symm (by intro z; cases z)) (no i hi p)
    · rw [backR_out hi] at e
      obtain ⟨a, us, h1, h2⟩ := R.own i p e
      exact ⟨a, us, (wipe_some h1).1, h2⟩
  sep := fun i j xs ys a e1 e2 h1 h2 => by
    have out : ∀ {i : Nat} {xs : List PV}, (backR ρ0 ρ vs)[i]? = some (Sl.own xs) → i ∉ vs ∧ ρ[i]? = some (Sl.own xs) := fun {i xs} e => by
      by_cases hi : i ∈ vs
      · exact absurd (look_get (backR_in hi e).symm (by intro z; cases z)) (no i hi xs)
      · rw [backR_out hi] at e; exact ⟨hi, e⟩
    obtain ⟨n1, g1⟩ := out e1
    obtain ⟨n2, g2⟩ := out e2
    exact R.sep i j xs ys a g1 g2 (by rw [wipe_get n1]; exact h1) (by rw [wipe_get n2]; exact h2)
theorem Own.write {a p : Addr} {vs us ws : List V} {xs ys : List PV} (o : Own G Fr F H a vs xs) (op : Own G Fr F H p us ys) (h : a ≠ p) : Own G Fr F (upd H p (.lst ws)) a vs xs :=
  ⟨by rw [upd_ne h]; exact o.at_, o.rep, o.nF, o.nh, o.nFr⟩
/-- a list that no slot holds is written -/
theorem Rr.writeFree {p : Addr} {us ws : List V} {ys : List PV} (R : Rr G Fr F σ H ρ) (o : Own G Fr F H p us ys) (ap : Apart σ ρ p) : Rr G Fr F σ (upd H p (.lst ws)) ρ where
  toRB := R.toRB.write o
  len := R.len
  val := R.val
  own := fun i xs e => by
    obtain ⟨a, vs, h1, h2⟩ := R.own i xs e
    exact ⟨a, vs, h1, h2.write o fun z => ap i xs e (by rw [h1, z])⟩
  sep := R.sep
end

/-- the list being made: acc so far -/
structure Mk (G : Gh) (Fr F H : Hp) (σ : L2.St) (ρ : Rho) (D : Addr) (acc : List PV) : Prop where
  ex : ∃ vs, Own G Fr F H D vs acc ∧ Apart σ ρ D

def compL (g : WG) (wt : WT) (we : WE) (vs : List Nat) : List PV → List PV → Rho → (List PV → Rho → Prop) → Prop
  | [], acc, ρ, Q => Q acc ρ
  | p :: ps, acc, ρ, Q => g p ρ fun ρ1 => wt ρ1 fun b ρ2 =>
      if b = true then we ρ2 fun r ρ3 => acc.length < sizeLine ∧ compL g wt we vs ps (acc ++ [r.pv]) (wipeR ρ3 vs) Q else compL g wt we vs ps acc (wipeR ρ2 vs) Q
def wComp (wi : WI) (g : WG) (wt : WT) (we : WE) (vs : List Nat) : WE := fun ρ Q => wi ρ fun ps ρ1 => NoOwn ρ1 vs ∧ compL g wt we vs ps [] (wipeR ρ1 vs) fun acc ρ2 => Q (.own acc) (backR ρ1 ρ2 vs)
abbrev VTs (X : Cx) (es : List Expr) (w : WT) : Prop := PTs X es (eT X.K X.mg w)
def wYes : WT := fun ρ Q => Q true ρ
theorem vts_nil {X : Cx} : VTs X [] wYes := ⟨fun pins s σ H Q I ⟨hO, Fr, F, ρ, Qv, R, h, k⟩ => pts_nil.run pins s σ H Q I (k true H F ρ (Same.refl F) R h)⟩
theorem vts_one {X : Cx} {c : Expr} {t : WT} (h : VT X c t) : VTs X [c] t := pts_one h

theorem wipe_chg {vs us : List Nat} {σ σ2 : L2.St} (c : Chg us σ σ2) (h : ∀ j ∈ us, j ∈ vs) : wipe σ2 vs = wipe σ vs := by
  have inn : ∀ (vs : List Nat) (σ : L2.St) (i : Nat), i ∈ vs → i < σ.length → (wipe σ vs)[i]? = some none := by
    intro vs
    induction vs with
    | nil => intro σ i h; simp at h
    | cons v vs ih =>
      intro σ i h hl
      unfold wipe
      by_cases hi : v = i
      · subst hi; rw [List.getElem?_set_self (by rw [wipe_length]; exact hl)]
      · rw [List.getElem?_set_ne hi]
        rcases List.mem_cons.mp h with z | z
        · exact absurd z.symm hi
        · exact ih σ i z hl
  apply List.ext_getElem?
  intro i
  by_cases hi : i ∈ vs
  · by_cases hl : i < σ.length
    · rw [inn vs σ2 i hi (by rw [c.1]; exact hl), inn vs σ i hi hl]
    · rw [List.getElem?_eq_none (by rw [wipe_length, c.1]; omega), List.getElem?_eq_none (by rw [wipe_length]; omega)]
  · rw [wipe_get hi, wipe_get hi]
    exact c.2 i fun z => hi (h i z)
section
variable {X : Cx} {pos : Pos}
theorem comp_run {K : PySem.W.Frag} {mg : Str → Option Value} {wi : WI} {g : WG} {wt : WT} {we : WE} {vs us : List Nat} (hu : ∀ j ∈ us, j ∈ vs) :
    ∀ σ H Q, eE K mg (wComp wi g wt we vs) σ H Q → tLc (eI K mg wi) (eG K mg us g) (eT K mg wt) (eE K mg we) vs σ H Q := by
  rintro σ H Q ⟨hO, Fr, F, ρ, Qv, R, h, k⟩
  refine ⟨hO, Fr, F, ρ, _, R, h, fun J H1 F1 ps ρ1 s1 R1 ok ⟨no, q⟩ => ?_⟩
  intro D hD
  have o0 := (R1.freshOwn (vs := []) (xs := []) hD .nil)
  obtain ⟨D', _, eD, ow0, ap0⟩ := o0
  cases eD
  -- the invariant
  refine ⟨fun i m H2 => ∃ F2 ρ2 acc, Same F1 F2 ∧ Rr ⟨K, mg, hO⟩ Fr F2 (wipe σ vs) H2 ρ2 ∧ Mk ⟨K, mg, hO⟩ Fr F2 H2 (wipe σ vs) ρ2 D acc ∧ m = ps.length - i ∧ i ≤ ps.length ∧
      compL g wt we vs (ps.drop i) acc ρ2 (fun acc ρ2 => Qv (.own acc) (backR ρ1 ρ2 vs)), ⟨ps.length, F1, wipeR ρ1 vs, [], Same.refl F1, (R1.wipe vs).fresh hD, ⟨⟨_, ow0, fun i ys e1 e2 => ?_⟩⟩, by simp, Nat.zero_le _, by simpa using q⟩, ?_⟩
  · obtain ⟨e3, n⟩ := wipeR_get e1 (by intro z; cases z)
    rw [wipe_get n] at e2
    exact ap0 i ys e3 e2
  rintro i m H2 ⟨F2, ρ2, acc, s2, R2, mk, rfl, hi, q2⟩
  obtain ⟨st, go⟩ := ok Fr F2 (wipe σ vs) ρ2 i H2 s2 R2
  by_cases hlt : i < ps.length
  · have e : ps[i]? = some ps[i] := List.getElem?_eq_getElem hlt
    have ed : ps.drop i = ps[i] :: ps.drop (i + 1) := List.drop_eq_getElem_cons hlt
    rw [ed] at q2
    -- D is put aside while the turn runs
    obtain ⟨vsD, owD, apD⟩ := mk.ex
    have RD : Rr ⟨K, mg, hO⟩ (frm Fr H2 (wipe σ vs) ρ2) F2 (wipe σ vs) H2 ρ2 → True := fun _ => trivial
    have addF : ∀ {H' F' : Hp} {σ' : L2.St} {ρ' : Rho} {us : List V} {xs : List PV}, Rr ⟨K, mg, hO⟩ Fr F' σ' H' ρ' → Own ⟨K, mg, hO⟩ Fr F' H' D us xs → Apart σ' ρ' D → Rr ⟨K, mg, hO⟩ (upd Fr D (.lst us)) F' σ' H' ρ' := by
      intro H' F' σ' ρ' us xs R' o ap
      refine ⟨⟨R'.sub, fun b x e => ?_, R'.hand⟩, R'.len, R'.val, fun j ys e => ?_, R'.sep⟩
      · by_cases hb : b = D
        · subst hb; rw [upd_same] at e; cases e; exact ⟨o.at_, o.nF, o.nh⟩
        · rw [upd_ne hb] at e; exact R'.fr b x e
      · obtain ⟨a, ws, h1, h2⟩ := R'.own j ys e
        refine ⟨a, ws, h1, h2.at_, h2.rep, h2.nF, h2.nh, ?_⟩
        rw [upd_ne (fun z => ap j ys e (by rw [h1, z]))]
        exact h2.nFr
    have delF : ∀ {H' F' : Hp} {σ' : L2.St} {ρ' : Rho} {us : List V} {xs : List PV}, Rr ⟨K, mg, hO⟩ (upd Fr D (.lst us)) F' σ' H' ρ' → Reps ⟨K, mg, hO⟩ F' us xs → Fr D = none → Rr ⟨K, mg, hO⟩ Fr F' σ' H' ρ' ∧ Own ⟨K, mg, hO⟩ Fr F' H' D us xs ∧ Apart σ' ρ' D := by
      intro H' F' σ' ρ' us xs R' rs nFr
      obtain ⟨g1, g2, g3⟩ := R'.fr D (.lst us) upd_same
      refine ⟨⟨⟨R'.sub, fun b x e => R'.fr b x ?_, R'.hand⟩, R'.len, R'.val, fun j ys e => ?_, R'.sep⟩, ⟨g1, rs, g2, g3, nFr⟩, fun j ys e1 e2 => ?_⟩
      · rw [upd_ne (ne_of_none e nFr)]; exact e
      · obtain ⟨a, ws, h1, h2⟩ := R'.own j ys e
        refine ⟨a, ws, h1, h2.at_, h2.rep, h2.nF, h2.nh, ?_⟩
        have := h2.nFr
        by_cases ha : a = D
        · subst ha; exact nFr
        · rw [upd_ne ha] at this; exact this
      · obtain ⟨a, ws, h1, h2⟩ := R'.own j ys e1
        rw [e2] at h1; cases h1
        have := h2.nFr
        rw [upd_same] at this; cases this
    have R2' := addF R2 owD apD
    obtain ⟨_, go'⟩ := ok _ F2 (wipe σ vs) ρ2 i H2 s2 R2'
    obtain ⟨g1, g2⟩ := go' _ e
    refine .inr ⟨g1, fun H3 => ∃ F3 ρ3 acc, Same F1 F3 ∧ Rr ⟨K, mg, hO⟩ Fr F3 (wipe σ vs) H3 ρ3 ∧ Mk ⟨K, mg, hO⟩ Fr F3 H3 (wipe σ vs) ρ3 D acc ∧ compL g wt we vs (ps.drop (i + 1)) acc ρ3 (fun acc ρ2 => Qv (.own acc) (backR ρ1 ρ2 vs)),
      fun H' ⟨F3, ρ3, acc, s3, R3, mk3, q3⟩ => ⟨ps.length - (i + 1), by omega, F3, ρ3, acc, s3, R3, mk3, rfl, hlt, q3⟩, fun x H' y => ?_⟩
    obtain ⟨F3, s3, R3, rx⟩ := g2 x H' y
    refine ⟨hO, _, F3, ρ2, _, _, R3, rx, q2, fun σ4 H4 F4 ρ4 s4 R4 c4 q4 => ⟨?_, ?_⟩⟩
    · rw [wipe_chg c4 hu]
      apply List.ext_getElem?
      intro j
      by_cases hj : j ∈ vs
      · have : ∀ (vs : List Nat) (σ : L2.St), wipe (wipe σ vs) vs = wipe σ vs := by
          intro vs σ
          apply wipe_chg (us := vs) _ fun _ z => z
          exact ⟨wipe_length σ vs, fun j hj => wipe_get hj⟩
        rw [this]
      · rw [wipe_get hj]
    · refine eT.mk R4 q4 fun b H5 F5 ρ5 s5 R5 q5 => ?_
      have s25 := (s3.trans s4).trans s5
      have hc : Chg vs (wipe σ vs) σ4 := ⟨c4.1, fun j hj => c4.2 j fun z => hj (hu j z)⟩
      have hw : wipe σ4 vs = wipe σ vs := by
        rw [wipe_chg hc fun _ z => z]
        exact wipe_chg (us := vs) ⟨wipe_length σ vs, fun j hj => wipe_get hj⟩ fun _ z => z
      cases b with
      | false =>
        rw [if_neg Bool.false_ne_true] at q5 ⊢
        obtain ⟨Ra, oa, aa⟩ := delF R5 (owD.rep.mono s25) owD.nFr
        have Rw := Ra.wipe vs
        rw [hw] at Rw
        refine ⟨F5, wipeR ρ5 vs, acc, s2.trans s25, Rw, ⟨⟨_, oa, fun j ys e1 e2 => ?_⟩⟩, q5⟩
        obtain ⟨e3, n⟩ := wipeR_get e1 (by intro z; cases z)
        rw [← hw, wipe_get n] at e2
        exact aa j ys e3 e2
      | true =>
        rw [if_pos rfl] at q5 ⊢
        refine eE.pv (Qv := fun r ρ3 => acc.length < sizeLine ∧ compL g wt we vs (ps.drop (i + 1)) (acc ++ [r]) (wipeR ρ3 vs) (fun acc ρ2 => Qv (.own acc) (backR ρ1 ρ2 vs))) R5 q5 fun v H6 F6 p ρ6 s6 R6 rp q6 => ?_
        have s26 := s25.trans s6
        obtain ⟨Ra, oa, aa⟩ := delF R6 (owD.rep.mono s26) owD.nFr
        refine ⟨vsD, oa.at_, by rw [oa.rep.length]; exact q6.1, ?_⟩
        have rs := Reps.append oa.rep (.cons rp .nil)
        have Rw := (Ra.writeFree oa aa (ws := vsD ++ [v])).wipe vs
        rw [hw] at Rw
        refine ⟨F6, wipeR ρ6 vs, acc ++ [p], s2.trans s26, Rw, ⟨⟨vsD ++ [v], ⟨upd_same, rs, oa.nF, oa.nh, oa.nFr⟩, fun j ys e1 e2 => ?_⟩⟩, q6.2⟩
        obtain ⟨e3, n⟩ := wipeR_get e1 (by intro z; cases z)
        rw [← hw, wipe_get n] at e2
        exact aa j ys e3 e2
  · have e : i = ps.length := by omega
    subst e
    rw [List.drop_length] at q2
    obtain ⟨vsD, owD, apD⟩ := mk.ex
    refine .inl ⟨st (Nat.le_refl _), ?_⟩
    have Rb := R1.back s2 no R2
    refine k _ H2 F2 (.own acc) _ (s1.trans s2) Rb ⟨D, vsD, rfl, owD, fun j ys e1 e2 => ?_⟩ q2
    by_cases hj : j ∈ vs
    · exact absurd (look_get (backR_in hj e1).symm (by intro z; cases z)) (no j hj ys)
    · rw [backR_out hj] at e1
      refine apD j ys e1 ?_
      rw [wipe_get hj]; exact e2
theorem ve_comp {elt tg iter : Expr} {ifs : List Expr} {scope : Scope} {own : List (Str × Nat)} {wi : WI} {g : WG} {wt : WT} {we : WE} {us : List Nat} (hc : X.calm = true) (hN : X.N.Nodup) (hi : VI X tg iter wi) (ok : BlkOk X.N X.env.scope scope own)
    (hg : ∀ (s : Shared) (H : Hp) (C : Addr) (cl : List (Str × Addr)) (fp : List Addr), VG (X.blk s H scope (compEnvC scope cl C X.env) fp) tg us g) (ht : ∀ (s : Shared) (H : Hp) (C : Addr) (cl : List (Str × Addr)) (fp : List Addr), VTs (X.blk s H scope (compEnvC scope cl C X.env) fp) ifs wt)
    (he : ∀ (s : Shared) (H : Hp) (C : Addr) (cl : List (Str × Addr)) (fp : List Addr), VE (X.blk s H scope (compEnvC scope cl C X.env) fp) elt we) (hu : ∀ j ∈ us, j ∈ own.map (·.2)) (hs : ∀ x, foldedSetIterable iter X.env x = pure x := by intro _; rfl) :
    VE X (.ListComp elt [⟨tg, iter, ifs, 0⟩] scope pos) (wComp wi g wt we (own.map (·.2))) :=
  PE.imp (pe_lc hc hN hi ok hg ht he hs) (comp_run hu)
theorem vs_setLc {i : Nat} {y : Str} {py : Pos} {elt tg iter : Expr} {ifs : List Expr} {scope : Scope} {own : List (Str × Nat)} {spos : Pos} {wi : WI} {g : WG} {wt : WT} {we : WE} {us : List Nat} (hc : X.calm = true) (hN : X.N.Nodup) (hy : X.N[i]? = some y) (hyl : X.env.scope.names.lookup y = some .local)
    (hsw : swapsWith (.ListComp elt [⟨tg, iter, ifs, 0⟩] scope pos) (some (.Name y py)) spos.line X.env = pure true) (hi : VI X tg iter wi) (ok : BlkOk X.N X.env.scope scope own)
    (hg : ∀ (s : Shared) (H : Hp) (C : Addr) (cl : List (Str × Addr)) (fp : List Addr), VG (X.blk s H scope (compEnvC scope cl C X.env) fp) tg us g) (ht : ∀ (s : Shared) (H : Hp) (C : Addr) (cl : List (Str × Addr)) (fp : List Addr), VTs (X.blk s H scope (compEnvC scope cl C X.env) fp) ifs wt)
    (he : ∀ (s : Shared) (H : Hp) (C : Addr) (cl : List (Str × Addr)) (fp : List Addr), VE (X.blk s H scope (compEnvC scope cl C X.env) fp) elt we) (hu : ∀ j ∈ us, j ∈ own.map (·.2)) (hs : ∀ x, foldedSetIterable iter X.env x = pure x := by intro _; rfl) :
    VS X (.Assign [.Name y py] (.ListComp elt [⟨tg, iter, ifs, 0⟩] scope pos) spos) (wSet i (wComp wi g wt we (own.map (·.2)))) := by
  refine PS.imp (ps_setLc (wi := eI X.K X.mg wi) (g := eG X.K X.mg us g) (tt := eT X.K X.mg wt) (te := eE X.K X.mg we) hc hN hy hyl hsw hi ok hg ht he hs) ?_
  rintro D σ H ⟨hO, Fr, F, ρ, DV, R, h, k1, k2, k3, k4⟩
  refine comp_run hu σ H _ ⟨hO, Fr, F, ρ, _, R, h, fun v H' F' r ρ' s R' o q => ?_⟩
  exact k1 _ H' F' _ s (R'.set o) q
end
end VE
end
section
set_option Elab.async false
set_option linter.all false
set_option maxRecDepth 100000
namespace VE
open PySem PySem.Spec PyProof.Rows L2

def visB (sc : Scope) (x : Str) : Bool := match sc.names.lookup x with
  | some .local => true
  | some .cell => true
  | some .free => true
  | _ => false
def locB (sc : Scope) (x : Str) : Bool := match sc.names.lookup x with
  | some .local => true
  | some .cell => true
  | _ => false
def lclB (sc : Scope) (x : Str) : Bool := match sc.names.lookup x with
  | some .local => true
  | _ => false
def glB (sc : Scope) (x : Str) : Bool := match sc.names.lookup x with
  | some .globalImplicit => true
  | _ => false
theorem vis_by {sc : Scope} {x : Str} (h : visB sc x = true) : Vis sc x := by
  unfold visB at h
  unfold Vis
  split at h <;> simp_all
theorem loc_by {sc : Scope} {x : Str} (h : locB sc x = true) : L2.Loc sc x := by
  unfold locB at h
  unfold L2.Loc
  split at h <;> simp_all
theorem lcl_by {sc : Scope} {x : Str} (h : lclB sc x = true) : sc.names.lookup x = some .local := by
  unfold lclB at h
  split at h <;> simp_all
theorem gl_by' {sc : Scope} {x : Str} (h : glB sc x = true) : sc.names.lookup x = some .globalImplicit := by
  unfold glB at h
  split at h <;> simp_all
theorem gl_by {X : Cx} {x : Str} (sc : Scope) (e : X.env.scope = sc := by rfl) (h : glB sc x = true := by decide +kernel) : Gl X x := by
  subst e; exact gl_by' h
theorem hu64 {k : Nat} {A : Around} (r : RoomG k A) : A.units + 64 < cLine := r.units
theorem hu65 {k : Nat} {A : Around} (r : RoomG k A) : A.units + 65 < cLine := by have := r.un; omega

def startR (n : Nat) (ps : List PV) : Rho := ps.map Sl.val ++ List.replicate (n - ps.length) .no
theorem rr_start {G : Gh} {Fr F H : Hp} {N : List Str} {vs : List V} {ps : List PV} (R : RB G Fr F H) (r : Reps G F vs ps) : Rr G Fr F (L2.start N vs) H (startR N.length ps) where
  toRB := R
  len := by unfold startR L2.start; simp [r.length]
  val := fun i p e => by
    unfold startR at e
    unfold L2.start
    by_cases hi : i < ps.length
    · rw [List.getElem?_append_left (by simpa using hi), List.getElem?_map] at e
      rw [List.getElem?_append_left (by simpa [r.length] using hi), List.getElem?_map]
      cases q : ps[i]? with
      | none => rw [q] at e; cases e
      | some p' =>
        rw [q] at e; cases e
        obtain ⟨v, h1, h2⟩ := r.get q
        exact ⟨v, by rw [h1]; rfl, h2⟩
    · rw [List.getElem?_append_right (by simpa using hi), List.getElem?_replicate] at e
      split at e <;> cases e
  own := fun i p e => by
    unfold startR at e
    by_cases hi : i < ps.length
    · rw [List.getElem?_append_left (by simpa using hi), List.getElem?_map] at e
      cases q : ps[i]? with
      | none => rw [q] at e; cases e
      | some p' => rw [q] at e; cases e
    · rw [List.getElem?_append_right (by simpa using hi), List.getElem?_replicate] at e
      split at e <;> cases e
  sep := fun i j xs ys a e _ _ _ => by
    unfold startR at e
    by_cases hi : i < ps.length
    · rw [List.getElem?_append_left (by simpa using hi), List.getElem?_map] at e
      cases q : ps[i]? with
      | none => rw [q] at e; cases e
      | some p' => rw [q] at e; cases e
    · rw [List.getElem?_append_right (by simpa using hi), List.getElem?_replicate] at e
      split at e <;> cases e

section
variable {P : Program} {w : World} {K : PySem.W.Frag} {mg : Str → Option Value} {base : Heap} {x qual : Str} {params : Arguments} {body : List Stmt} {scope : Scope} {f : Addr} {fd : FuncData}
/-- THE RULE for a def: the derivation of its body, and that the promise gives what the derivation asks -/
theorem cal_of {N prs : List Str} {n k : Nat} {S : SpV} {wb : WS} (F : FunD K x qual params body scope [] [] f fd) (hg : mg x = some (.ref f)) (Sc : FnScope N prs scope) (hn : prs.length = n)
    (hb : ∀ (kV doc pm : Value) (an : Option Addr) (cdv ct : Value) (us : List Value), us.length = prs.length → bindArgs (PySem.W.fnOf x qual params body scope .none kV doc pm an cdv ct) ⟨us, []⟩ = pure (prs.zip us))
    (hd : ∀ (cdv : Value) (A : Around) (outer : List Env) (s : Shared) (H : Hp), RoomG k (A.deeper (envOfC qual scope s.heap.objs.size f cdv)) → VSs (cxOf CX0 P w K mg base N qual scope f cdv A outer s H E0).nox body wb)
    (hv : ∀ (ps : List PV) (Q : Sl → Prop), ps.length = n → S ps Q → wb { nx := fun _ => Q (.val .non), rt := Q } (startR N.length ps)) : Cal P w K mg base x n (k + 1) S := by
  obtain ⟨oc, od, dV, kV, doc, pm, an, cdv, ct, osl, e, lk, hcd, _, _⟩ := F.ex
  have bd := F.bindsN hb
  have kp := F.kp
  subst e
  refine ⟨f, _, prs, fnG_of lk hcd Sc (fun vs H Q E h => h.1.trans hn.symm) (fun A outer s H vs Q hr h => ?_), hg, kp, bd⟩
  obtain ⟨hl, hO, Fr, G, ps, Qv, R, rs, hS, q⟩ := h
  refine ⟨_, PSs.nox (hd cdv A outer s H hr), ?_⟩
  refine ⟨hO, Fr, G, _, _, rr_start (N := N) R rs, hv ps Qv (by rw [← rs.length]; exact hl) hS, ?_, ?_, ?_, ?_⟩
  · intro σ' H' F' ρ' s' R' q'
    exact q .non H' F' (.val .non) s' R'.toRB Rep.non q'
  · intro v H' F' r s' B o q'
    exact q v H' F' r s' B o q'
  · intro σ' H' F' ρ' s' R' q'
    exact q'.elim
  · intro σ' H' F' ρ' s' R' q'
    exact q'.elim
end
end VE
end
section
set_option Elab.async false
set_option linter.all false
set_option maxRecDepth 100000
namespace VE
open PySem PySem.Spec PyProof.Rows L2 PySem.W
section
variable {X : Cx}
/-! ### min, max of data -/
def rMinD (K : PySem.W.Frag) : List V → Hp → VK → Prop := fun vs H Q => ∃ (a : Addr) (xs : List V) (d : PyData) (ds : List PyData), vs = [.ref a] ∧ (SqL K H a xs ∨ SqT K H a xs) ∧ DpAll K H xs (d :: ds) ∧ AlikeAll (d :: ds) ∧ PyData.depthAll (d :: ds) ≤ 64 ∧
  ∀ (i : Nat) (v : V) (e : PyData), xs[i]? = some v → (d :: ds)[i]? = some e → e = minD d ds → Q v H
theorem minD_mem : ∀ (ds : List PyData) (d : PyData), minD d ds ∈ d :: ds := by
  intro ds
  induction ds with
  | nil => intro d; exact List.mem_cons_self
  | cons e ds ih =>
    intro d
    unfold minD
    rw [List.foldl_cons]
    have h := ih (if dataLt e d = true then e else d)
    unfold minD at h
    rcases List.mem_cons.mp h with z | z
    · rw [z]
      split
      · exact List.mem_cons_of_mem _ List.mem_cons_self
      · exact List.mem_cons_self
    · exact List.mem_cons_of_mem _ (List.mem_cons_of_mem _ z)
theorem maxD_mem : ∀ (ds : List PyData) (d : PyData), maxD d ds ∈ d :: ds := by
  intro ds
  induction ds with
  | nil => intro d; exact List.mem_cons_self
  | cons e ds ih =>
    intro d
    unfold maxD
    rw [List.foldl_cons]
    have h := ih (if dataLt d e = true then e else d)
    unfold maxD at h
    rcases List.mem_cons.mp h with z | z
    · rw [z]
      split
      · exact List.mem_cons_of_mem _ List.mem_cons_self
      · exact List.mem_cons_self
    · exact List.mem_cons_of_mem _ (List.mem_cons_of_mem _ z)
/-- the i-th item reads as the i-th datum -/
theorem readsAll_ith {h : Heap} : ∀ {us : List Value} {ds : List PyData} {as : List Addr}, ReadsAll h us ds as → ∀ (i : Nat) (u : Value), us[i]? = some u → ∃ e bs, ds[i]? = some e ∧ Reads h u e bs
  | _, _, _, .nil, i, u, q => by simp at q
  | _, _, _, .cons r1 r2, 0, u, q => by simp at q; subst q; exact ⟨_, _, rfl, r1⟩
  | _, _, _, .cons r1 r2, i + 1, u, q => by
    obtain ⟨e, bs, h1, h2⟩ := readsAll_ith r2 i u (by simpa using q)
    exact ⟨e, bs, by simpa using h1, h2⟩
theorem vals_ith {xs : List V} {us : List Value} (r : Vals xs us) {i : Nat} {u : Value} (h : us[i]? = some u) : ∃ x, xs[i]? = some x ∧ RelV x u := by
  cases q : xs[i]? with
  | none => rw [r.none_of q] at h; cases h
  | some x =>
    obtain ⟨u', h1, h2⟩ := r.get q
    rw [h] at h1; cases h1
    exact ⟨x, rfl, h2⟩
theorem call_minD (hc : X.calm = true) {k : Nat} (hr : RoomG k X.A) : CallR X (.builtin "min") (rMinD X.K) := by
  intro pins s σ H vs us Q I r h
  obtain ⟨a, xs, d, ds, rfl, hs, hd, hal, hdep, q⟩ := h
  cases r with
  | cons ra rn =>
    cases rn
    cases ra
    have hu : X.A.units + 1 + PyData.depthAll (d :: ds) < cLine := by have := hr.un; omega
    have fin : ∀ {its : List Value} {as : List Addr} (rv : Vals xs its) (hra : ReadsAll s.heap its (d :: ds) as) (i : Nat) (v : Value) (h' : Heap) (tk : Tok) (bs : List Addr), its.toArray[i]? = some v → Reads h' v (minD d ds) bs →
        (∀ b o, s.heap.get? b = some o → h'.get? b = some o) → EP X pins σ Q v { s with heap := h', toks := tk } := by
      intro its as rv hra i v h' tk bs hi rd keep
      have hi' : its[i]? = some v := by simpa using hi
      obtain ⟨e, bs2, e1, r2⟩ := readsAll_ith hra i v hi'
      obtain ⟨x, e2, rx⟩ := vals_ith rv hi'
      have hmem : e ∈ d :: ds := List.mem_of_getElem? e1
      have eq : e = minD d ds := alike_unique e (minD d ds) v bs2 bs (hal.1 e hmem _ (minD_mem ds d)) (Reads.keeps keep r2) rd
      exact ⟨x, H, I.kept keep, rx, q i x e e2 e1 eq⟩
    rcases hs with hs | hs
    · obtain ⟨its, rv, hp, _⟩ := I.list hs
      obtain ⟨as, hra⟩ := Dp.readsAll I (d :: ds) xs its hd rv
      exact min_list_data (hr.room.hd) hp.isList (by simpa using hra) hal hu (fun i v h' tk bs => fin rv hra i v h' tk bs)
    · obtain ⟨its, rv, hp, _⟩ := I.tuple hs
      obtain ⟨as, hra⟩ := Dp.readsAll I (d :: ds) xs its hd rv
      exact min_tuple_data (hr.room.hd) hp (by simpa using hra) hal hu (fun i v h' tk bs => fin rv hra i v h' tk bs)
def opMinD : SpV := fun ps Q => ∃ (xs : List PV) (d : PyData) (ds : List PyData), (ps = [.lst xs] ∨ ps = [.tup xs]) ∧ toDs xs = some (d :: ds) ∧ AlikeAll (d :: ds) ∧ PyData.depthAll (d :: ds) ≤ 64 ∧ ∀ p, p ∈ xs → toD p = some (minD d ds) → Q (.val p)
theorem toDs_ith : ∀ {xs : List PV} {ds : List PyData} {i : Nat} {p : PV}, toDs xs = some ds → xs[i]? = some p → ∃ e, ds[i]? = some e ∧ toD p = some e
  | [], _, _, _, _, h => by simp at h
  | x :: xs, ds, i, p, h, e => by
    simp only [toDs] at h
    split at h
    · rename_i d ds' e1 e2
      cases h
      cases i with
      | zero => simp at e; subst e; exact ⟨d, rfl, e1⟩
      | succ i =>
        obtain ⟨z, h1, h2⟩ := toDs_ith (i := i) e2 (by simpa using e)
        exact ⟨z, by simpa using h1, h2⟩
    · cases h
theorem ser_minD {K mg} : SerC K mg (rMinD K) opMinD := by
  intro hO Fr F σ H ρ vs ps Qv Q R rs h k
  obtain ⟨xs, d, ds, hp, e1, hal, hdep, h⟩ := h
  have fin : ∀ {us : List V}, Reps ⟨K, mg, hO⟩ F us xs → ∀ (i : Nat) (v : V) (e : PyData), us[i]? = some v → (d :: ds)[i]? = some e → e = minD d ds → Q v H := fun {us} rs' i v e h1 h2 h3 => by
    obtain ⟨p, h4, rp⟩ := rs'.getV h1
    obtain ⟨e', h5, h6⟩ := toDs_ith e1 h4
    rw [h2] at h5; cases h5
    exact k v H F (.val p) (Same.refl F) R rp (h p (List.mem_of_getElem? h4) (by rw [h6, h3]))
  rcases hp with rfl | rfl
  · cases rs with
    | cons r rn =>
      cases rn
      cases r with
      | lst e rs' => exact ⟨_, _, d, ds, rfl, .inl (.inl (.inl (R.sub _ _ e))), dpsMono R.sub (dps_of rs' e1), hal, hdep, fin rs'⟩
  · cases rs with
    | cons r rn =>
      cases rn
      cases r with
      | tup e rs' => exact ⟨_, _, d, ds, rfl, .inr (Same.sqt R.sub e), dpsMono R.sub (dps_of rs' e1), hal, hdep, fin rs'⟩
def rMaxD (K : PySem.W.Frag) : List V → Hp → VK → Prop := fun vs H Q => ∃ (a : Addr) (xs : List V) (d : PyData) (ds : List PyData), vs = [.ref a] ∧ (SqL K H a xs ∨ SqT K H a xs) ∧ DpAll K H xs (d :: ds) ∧ AlikeAll (d :: ds) ∧ PyData.depthAll (d :: ds) ≤ 64 ∧
  ∀ (i : Nat) (v : V) (e : PyData), xs[i]? = some v → (d :: ds)[i]? = some e → e = maxD d ds → Q v H
theorem call_maxD (hc : X.calm = true) {k : Nat} (hr : RoomG k X.A) : CallR X (.builtin "max") (rMaxD X.K) := by
  intro pins s σ H vs us Q I r h
  obtain ⟨a, xs, d, ds, rfl, hs, hd, hal, hdep, q⟩ := h
  cases r with
  | cons ra rn =>
    cases rn
    cases ra
    have hu : X.A.units + 1 + PyData.depthAll (d :: ds) < cLine := by have := hr.un; omega
    have fin : ∀ {its : List Value} {as : List Addr} (rv : Vals xs its) (hra : ReadsAll s.heap its (d :: ds) as) (i : Nat) (v : Value) (h' : Heap) (tk : Tok) (bs : List Addr), its.toArray[i]? = some v → Reads h' v (maxD d ds) bs →
        (∀ b o, s.heap.get? b = some o → h'.get? b = some o) → EP X pins σ Q v { s with heap := h', toks := tk } := by
      intro its as rv hra i v h' tk bs hi rd keep
      have hi' : its[i]? = some v := by simpa using hi
      obtain ⟨e, bs2, e1, r2⟩ := readsAll_ith hra i v hi'
      obtain ⟨x, e2, rx⟩ := vals_ith rv hi'
      have hmem : e ∈ d :: ds := List.mem_of_getElem? e1
      have eq : e = maxD d ds := alike_unique e (maxD d ds) v bs2 bs (hal.1 e hmem _ (maxD_mem ds d)) (Reads.keeps keep r2) rd
      exact ⟨x, H, I.kept keep, rx, q i x e e2 e1 eq⟩
    rcases hs with hs | hs
    · obtain ⟨its, rv, hp, _⟩ := I.list hs
      obtain ⟨as, hra⟩ := Dp.readsAll I (d :: ds) xs its hd rv
      exact max_list_data (hr.room.hd) hp.isList (by simpa using hra) hal hu (fun i v h' tk bs => fin rv hra i v h' tk bs)
    · obtain ⟨its, rv, hp, _⟩ := I.tuple hs
      obtain ⟨as, hra⟩ := Dp.readsAll I (d :: ds) xs its hd rv
      exact max_tuple_data (hr.room.hd) hp (by simpa using hra) hal hu (fun i v h' tk bs => fin rv hra i v h' tk bs)
def opMaxD : SpV := fun ps Q => ∃ (xs : List PV) (d : PyData) (ds : List PyData), (ps = [.lst xs] ∨ ps = [.tup xs]) ∧ toDs xs = some (d :: ds) ∧ AlikeAll (d :: ds) ∧ PyData.depthAll (d :: ds) ≤ 64 ∧ ∀ p, p ∈ xs → toD p = some (maxD d ds) → Q (.val p)
theorem ser_maxD {K mg} : SerC K mg (rMaxD K) opMaxD := by
  intro hO Fr F σ H ρ vs ps Qv Q R rs h k
  obtain ⟨xs, d, ds, hp, e1, hal, hdep, h⟩ := h
  have fin : ∀ {us : List V}, Reps ⟨K, mg, hO⟩ F us xs → ∀ (i : Nat) (v : V) (e : PyData), us[i]? = some v → (d :: ds)[i]? = some e → e = maxD d ds → Q v H := fun {us} rs' i v e h1 h2 h3 => by
    obtain ⟨p, h4, rp⟩ := rs'.getV h1
    obtain ⟨e', h5, h6⟩ := toDs_ith e1 h4
    rw [h2] at h5; cases h5
    exact k v H F (.val p) (Same.refl F) R rp (h p (List.mem_of_getElem? h4) (by rw [h6, h3]))
  rcases hp with rfl | rfl
  · cases rs with
    | cons r rn =>
      cases rn
      cases r with
      | lst e rs' => exact ⟨_, _, d, ds, rfl, .inl (.inl (.inl (R.sub _ _ e))), dpsMono R.sub (dps_of rs' e1), hal, hdep, fin rs'⟩
  · cases rs with
    | cons r rn =>
      cases rn
      cases r with
      | tup e rs' => exact ⟨_, _, d, ds, rfl, .inr (Same.sqt R.sub e), dpsMono R.sub (dps_of rs' e1), hal, hdep, fin rs'⟩
/-! ### str of an int -/
def opStr : SpV := fun ps Q => match ps with
  | [.int i] => i.natAbs.log2 < 1920 ∧ Q (.val (.str (toString i)))
  | _ => False
theorem ser_str {K mg} : SerC K mg (fun xs H Q => ∃ i, xs = [.int i] ∧ i.natAbs.log2 < 1920 ∧ Q (.str (toString i)) H) opStr := by
  intro hO Fr F σ H ρ vs ps Qv Q R rs h k
  unfold opStr at h
  split at h
  · cases rs with
    | cons r rn =>
      cases rn; cases r
      exact ⟨_, rfl, h.1, k _ H F (.val (.str _)) (Same.refl F) R (Rep.str _) h.2⟩
  · exact h.elim
end
end VE
end
section
set_option Elab.async false
set_option linter.all false
set_option maxRecDepth 100000
namespace VE
open PySem PySem.Spec PyProof.Rows L2
/-! ### the hand: the two defs that know what it holds -/
abbrev rIntC : List V → Hp → VK → Prop := fun xs H Q => (∃ i, xs = [.int i] ∧ Q (.int i) H) ∨ ∃ k, xs = [.bl k] ∧ Q (.int (if k then 1 else 0)) H
abbrev rLenS (K : PySem.W.Frag) : List V → Hp → VK → Prop := fun xs H Q => ∃ p ys, xs = [.ref p] ∧ (SqL K H p ys ∨ SqT K H p ys) ∧ Q (.int ys.length) H
abbrev hx (K : PySem.W.Frag) (j : Int) : TE := tOp (rIxL K) (tVar 0) (tC (.int j))
abbrev hset (j : Int) (te : TE) : TS := tAsg te (gSub (tVar 0) (tC (.int j)) rSetL)
abbrev tInt (te : TE) : TE := tCB rIntC (tCons te tNil)
abbrev tAddI (a b : TE) : TE := tOp (rI0 fun i j => .int (i + j)) a b
abbrev tMulI (a b : TE) : TE := tOp (rI CMul fun i j => .int (i * j)) a b
abbrev tModI (a b : TE) : TE := tOp (rI (fun _ j => 0 < j) fun i j => .int (i % j)) a b
abbrev tDivI (a b : TE) : TE := tOp (rI CDiv fun i j => .int (i / j)) a b
abbrev cI (j : Int) : TE := tC (.int j)
def t_draw1 (K : PySem.W.Frag) : TS := tIfS (tAnd (tTest (tOp rEq (hx K 2) (cI 0))) (tTest (tOp (rI0 fun i j => .bl (decide (i < j))) (hx K 1) (tCB (rLenS K) (tCons (hx K 0) tNil)))))
  (tSeq (tAsg (tOp (rIxL K) (hx K 0) (hx K 1)) (gName 2)) (tSeq (hset 1 (tAddI (hx K 1) (cI 1)))
    (tSeq (hset 3 (tModI (tInt (tAddI (tAddI (tMulI (hx K 3) (cI 69621)) (tMulI (tVar 2) (cI 48271))) (cI 17))) (cI 2147483629)))
      (tIfS (tTest (tOp (rI0 fun i j => .bl (decide (j ≤ i))) (tVar 2) (tOp (rI CPow fun i j => .int (i ^ j.toNat)) (cI 10) (cI 18)))) (hset 2 (tVar 2)) tNext)))) tNext
def t_draw2 (K : PySem.W.Frag) : TS := tIfS (tTest (tOp (rI0 fun i j => .bl (decide (j < i))) (hx K 2) (cI 0)))
  (tSeq (tAsg (tModI (tInt (hx K 2)) (tVar 1)) (gName 3)) (tSeq (hset 2 (tDivI (hx K 2) (tVar 1))) (tRet (tVar 3)))) tNext
def t_d3d : TS := tRet (tModI (tInt (tDivI (tVar 4) (cI 16))) (tVar 1))
def t_d3c : TS := tSeq (tAsg (tModI (tInt (tMulI (tVar 4) (tAddI (tDivI (tVar 4) (cI 2003)) (cI 40014)))) (cI 2147483563)) (gName 4)) t_d3d
def t_d3b : TS := tSeq (tAsg (tModI (tInt (tMulI (tVar 4) (tAddI (tDivI (tVar 4) (cI 1009)) (cI 69621)))) (cI 2147483647)) (gName 4)) t_d3c
def t_draw3 (K : PySem.W.Frag) : TS := tSeq (hset 4 (tAddI (hx K 4) (cI 1)))
  (tSeq (tAsg (tModI (tInt (tMulI (tInt (tAddI (hx K 3) (tMulI (cI 7919) (hx K 4)))) (cI 40692))) (cI 2147483647)) (gName 4)) t_d3b)
def t_draw (K : PySem.W.Frag) : TS := tSeq (t_draw1 K) (tSeq (t_draw2 K) (t_draw3 K))
/-- what is known of the hand at a -/
def HndAt (F H : Hp) (a : Addr) (i b m n : Int) : Prop := ∃ (c : Addr) (cs : List Int), H a = some (.lst [.ref c, .int i, .int b, .int m, .int n]) ∧ H c = some (.lst (cs.map V.int)) ∧ F c = some (.lst (cs.map V.int)) ∧ c ≠ a ∧ cs.length ≤ 63 ∧ 0 ≤ i
section
variable {K : PySem.W.Frag} {mg : Str → Option Value} {hO : Option Addr} {Fr F H : Hp} {a : Addr}
theorem hand_step {G : Gh} {Fr F H : Hp} {a c : Addr} {cs : List Int} {vs ws : List V} {i b m n : Int} (R : RB G Fr F H) (hO : G.hO = some a) (h0 : 0 ≤ i) (e : ws = [.ref c, .int i, .int b, .int m, .int n]) (hc : F c = some (.lst (cs.map V.int))) (hl : cs.length ≤ 63) : RB G Fr F (upd H a (.lst ws)) where
  sub := fun d x e' => by
    have hd : d ≠ a := fun z => by subst z; have := (R.hand d hO).1; rw [this] at e'; cases e'
    rw [upd_ne hd]; exact R.sub d x e'
  fr := fun d x e' => by
    obtain ⟨h1, h2, h3⟩ := R.fr d x e'
    have hd : d ≠ a := fun z => by subst z; exact h3 hO
    exact ⟨by rw [upd_ne hd]; exact h1, h2, h3⟩
  hand := fun d e' => by
    rw [hO] at e'; cases e'
    exact ⟨(R.hand a hO).1, c, cs, i, b, m, n, by rw [upd_same, e], hc, hl, h0⟩
end
theorem d3d_read {x0 x2 x3 : Option V} {z many : Int} {D : Ends} {H : Hp} (hm : 0 < many) (q : ∀ r, 0 ≤ r → r < many → D.rt (.int r) H) : t_d3d D [x0, some (.int many), x2, x3, some (.int z)] H :=
  ⟨.int z, rfl, z, 16, rfl, rfl, ⟨by decide, by decide⟩, .inl ⟨_, rfl, .int many, rfl, z / 16, many, rfl, rfl, hm, q _ (Int.emod_nonneg _ (by omega)) (Int.emod_lt_of_pos _ hm)⟩⟩
theorem d3c_read {x0 x2 x3 : Option V} {z many : Int} {D : Ends} {H : Hp} (hm : 0 < many) (h1 : 0 ≤ z) (h2 : z < 2147483647) (q : ∀ r, 0 ≤ r → r < many → D.rt (.int r) H) : t_d3c D [x0, some (.int many), x2, x3, some (.int z)] H :=
  ⟨.int z, rfl, .int z, rfl, z, 2003, rfl, rfl, ⟨by decide, by decide⟩, z / 2003, 40014, rfl, rfl, z, z / 2003 + 40014, rfl, rfl, .inl (by omega), .inl ⟨_, rfl, z * (z / 2003 + 40014), 2147483563, rfl, rfl, by omega, d3d_read (z := z * (z / 2003 + 40014) % 2147483563) hm q⟩⟩
theorem d3b_read {x0 x2 x3 : Option V} {z many : Int} {D : Ends} {H : Hp} (hm : 0 < many) (h1 : 0 ≤ z) (h2 : z < 2147483647) (q : ∀ r, 0 ≤ r → r < many → D.rt (.int r) H) : t_d3b D [x0, some (.int many), x2, x3, some (.int z)] H :=
  ⟨.int z, rfl, .int z, rfl, z, 1009, rfl, rfl, ⟨by decide, by decide⟩, z / 1009, 69621, rfl, rfl, z, z / 1009 + 69621, rfl, rfl, .inl (by omega), .inl ⟨_, rfl, z * (z / 1009 + 69621), 2147483647, rfl, rfl, by omega, d3c_read (z := z * (z / 1009 + 69621) % 2147483647) hm (Int.emod_nonneg _ (by omega)) (Int.emod_lt_of_pos _ (by omega)) q⟩⟩
/-- the slots: hand, many, cell, digit, number -/
theorem draw3_read {K : PySem.W.Frag} {G : Gh} {Fr F H : Hp} {a c : Addr} {cs : List Int} {i b m n many : Int} {x2 x3 x4 : Option V} {D : Ends} (R : RB G Fr F H) (hO : G.hO = some a) (hH : H a = some (.lst [.ref c, .int i, .int b, .int m, .int n])) (hc : F c = some (.lst (cs.map V.int))) (hl : cs.length ≤ 63) (h0 : 0 ≤ i)
    (hm : 0 < many) (q : ∀ r H', 0 ≤ r → r < many → RB G Fr F H' → D.rt (.int r) H') : t_draw3 K D [some (.ref a), some (.int many), x2, x3, x4] H := by
  refine ⟨.ref a, rfl, a, _, 4, _, rfl, rfl, SqL.of hH, rfl, _, _, rfl, rfl, .ref a, rfl, a, _, 4, 4, rfl, rfl, hH, rfl, ?_⟩
  have R2 := hand_step (H := H) (vs := []) (ws := [.ref c, .int i, .int b, .int m, .int (n + 1)]) R hO h0 rfl hc hl
  have h2 : (upd H a (.lst ([V.ref c, .int i, .int b, .int m, .int n].set 4 (.int (n + 1))))) a = some (.lst [.ref c, .int i, .int b, .int m, .int (n + 1)]) := upd_same
  refine ⟨.ref a, rfl, a, _, 3, _, rfl, rfl, SqL.of h2, rfl, .ref a, rfl, a, _, 4, _, rfl, rfl, SqL.of h2, rfl, 7919, n + 1, rfl, rfl, .inl (by omega), m, 7919 * (n + 1), rfl, rfl, .inl ⟨_, rfl, m + 7919 * (n + 1), 40692, rfl, rfl, .inr (by omega), .inl ⟨_, rfl, (m + 7919 * (n + 1)) * 40692, 2147483647, rfl, rfl, by omega, ?_⟩⟩⟩
  exact d3b_read (z := (m + 7919 * (n + 1)) * 40692 % 2147483647) hm (Int.emod_nonneg _ (by omega)) (Int.emod_lt_of_pos _ (by omega)) fun r r0 rm => q r _ r0 rm R2
theorem draw2_read {K : PySem.W.Frag} {G : Gh} {Fr F H : Hp} {a c : Addr} {cs : List Int} {i b m n many : Int} {x2 x3 x4 : Option V} {D : Ends} (R : RB G Fr F H) (hO : G.hO = some a) (hH : H a = some (.lst [.ref c, .int i, .int b, .int m, .int n])) (hc : F c = some (.lst (cs.map V.int))) (hl : cs.length ≤ 63) (h0 : 0 ≤ i)
    (hm : 0 < many) (hm2 : many < 1073741824) (q : ∀ r H', 0 ≤ r → r < many → RB G Fr F H' → D.rt (.int r) H') : tSeq (t_draw2 K) (t_draw3 K) D [some (.ref a), some (.int many), x2, x3, x4] H := by
  refine ⟨.ref a, rfl, a, _, 2, _, rfl, rfl, SqL.of hH, rfl, _, _, rfl, rfl, _, rfl, ?_⟩
  by_cases hb : 0 < b
  · rw [decide_eq_true hb]
    refine iteT ⟨.ref a, rfl, a, _, 2, _, rfl, rfl, SqL.of hH, rfl, .inl ⟨_, rfl, .int many, rfl, b, many, rfl, rfl, hm, ?_⟩⟩
    refine ⟨.ref a, rfl, a, _, 2, _, rfl, rfl, SqL.of hH, rfl, .int many, rfl, b, many, rfl, rfl, ⟨hm, hm2⟩, .ref a, rfl, a, _, 2, 2, rfl, rfl, hH, rfl, ?_⟩
    exact ⟨.int (b % many), rfl, q _ _ (Int.emod_nonneg _ (by omega)) (Int.emod_lt_of_pos _ hm) (hand_step (vs := []) R hO h0 rfl hc hl)⟩
  · rw [decide_eq_false hb]
    exact iteF (draw3_read R hO hH hc hl h0 hm q)
theorem draw_read {K : PySem.W.Frag} {G : Gh} {Fr F H : Hp} {a c : Addr} {cs : List Int} {i b m n many : Int} {x2 x3 x4 : Option V} {D : Ends} (R : RB G Fr F H) (hO : G.hO = some a) (hH : H a = some (.lst [.ref c, .int i, .int b, .int m, .int n])) (hc : F c = some (.lst (cs.map V.int))) (hl : cs.length ≤ 63) (h0 : 0 ≤ i)
    (hm : 0 < many) (hm2 : many < 1073741824) (q : ∀ r H', 0 ≤ r → r < many → RB G Fr F H' → D.rt (.int r) H') : t_draw K D [some (.ref a), some (.int many), x2, x3, x4] H := by
  have hcH : H c = some (.lst (cs.map V.int)) := R.sub _ _ hc
  have hca : c ≠ a := fun z => by subst z; rw [(R.hand c hO).1] at hc; cases hc
  have e2 : decide (V.int b = V.int 0) = decide (b = 0) := by
    by_cases h : b = 0
    · subst h; rfl
    · rw [decide_eq_false h, decide_eq_false (fun z => h (V.int.inj z))]
  refine ⟨.ref a, rfl, a, _, 2, _, rfl, rfl, SqL.of hH, rfl, rfl, _, rfl, ?_⟩
  rw [e2]
  by_cases hb : b = 0
  · rw [decide_eq_true hb]
    refine iteT ⟨.ref a, rfl, a, _, 1, _, rfl, rfl, SqL.of hH, rfl, .ref a, rfl, a, _, 0, _, rfl, rfl, SqL.of hH, rfl, c, _, rfl, .inl (SqL.of hcH), _, _, rfl, rfl, _, rfl, ?_⟩
    by_cases hi : i < ((cs.map V.int).length : Int)
    · rw [decide_eq_true hi]
      refine iteT ?_
      obtain ⟨j, rfl⟩ : ∃ j : Nat, i = j := ⟨i.toNat, by omega⟩
      have hj : j < cs.length := by simpa using hi
      have hat : L2.atI (cs.map V.int) (j : Int) = some (.int cs[j]) := atI_nat (by rw [List.getElem?_map, List.getElem?_eq_getElem hj]; rfl)
      refine ⟨.ref a, rfl, a, _, 0, _, rfl, rfl, SqL.of hH, rfl, .ref a, rfl, a, _, 1, _, rfl, rfl, SqL.of hH, rfl, c, _, (j : Int), .int cs[j], rfl, rfl, SqL.of hcH, hat, ?_⟩
      refine ⟨.ref a, rfl, a, _, 1, _, rfl, rfl, SqL.of hH, rfl, (j : Int), 1, rfl, rfl, .ref a, rfl, a, _, 1, 1, rfl, rfl, hH, rfl, ?_⟩
      have R2 := hand_step (H := H) (vs := []) (ws := [V.ref c, .int (j + 1 : Int), .int b, .int m, .int n]) R hO (by omega) rfl hc hl
      have h2 : (upd H a (.lst ([V.ref c, .int (j : Int), .int b, .int m, .int n].set 1 (.int ((j : Int) + 1))))) a = some (.lst [.ref c, .int ((j : Int) + 1), .int b, .int m, .int n]) := upd_same
      refine ⟨.ref a, rfl, a, _, 3, _, rfl, rfl, SqL.of h2, rfl, m, 69621, rfl, rfl, .inr (by omega), .int cs[j], rfl, cs[j], 48271, rfl, rfl, .inr (by omega), m * 69621, cs[j] * 48271, rfl, rfl, m * 69621 + cs[j] * 48271, 17, rfl, rfl, .inl ⟨_, rfl, m * 69621 + cs[j] * 48271 + 17, 2147483629, rfl, rfl, by omega, .ref a, rfl, a, _, 3, 3, rfl, rfl, h2, rfl, ?_⟩⟩
      have R3 := hand_step (H := upd H a (.lst [V.ref c, .int (j + 1 : Int), .int b, .int m, .int n])) (vs := []) (ws := [V.ref c, .int (j + 1 : Int), .int b, .int ((m * 69621 + cs[j] * 48271 + 17) % 2147483629), .int n]) R2 hO (by omega) rfl hc hl
      have h3 : (upd (upd H a (.lst ([V.ref c, .int (j : Int), .int b, .int m, .int n].set 1 (.int ((j : Int) + 1))))) a (.lst ([V.ref c, .int ((j : Int) + 1), .int b, .int m, .int n].set 3 (.int ((m * 69621 + cs[j] * 48271 + 17) % 2147483629))))) a = some (.lst [.ref c, .int ((j : Int) + 1), .int b, .int ((m * 69621 + cs[j] * 48271 + 17) % 2147483629), .int n]) := upd_same
      refine ⟨.int cs[j], rfl, 10, 18, rfl, rfl, ⟨by decide, by decide, by decide⟩, cs[j], (10 : Int) ^ 18, rfl, rfl, _, rfl, ?_⟩
      by_cases hg : (10 : Int) ^ 18 ≤ cs[j]
      · rw [decide_eq_true hg]
        refine iteT ⟨.int cs[j], rfl, .ref a, rfl, a, _, 2, 2, rfl, rfl, h3, rfl, ?_⟩
        exact draw2_read (hand_step (vs := []) R3 hO (by omega) rfl hc hl) hO upd_same hc hl (by omega) hm hm2 q
      · rw [decide_eq_false hg]
        exact iteF (draw2_read R3 hO h3 hc hl (by omega) hm hm2 q)
    · rw [decide_eq_false hi]
      exact iteF (draw2_read R hO hH hc hl h0 hm hm2 q)
  · rw [decide_eq_false hb]
    exact iteF (iteF (draw2_read R hO hH hc hl h0 hm hm2 q))
/-- a draw: any number below many -/
def S__law_draw : SpV := fun ps Q => ∃ m : Int, ps = [.hnd, .int m] ∧ 0 < m ∧ m < 1073741824 ∧ ∀ r : Int, 0 ≤ r → r < m → Q (.val (.int r))
theorem draw_body {K : PySem.W.Frag} {mg : Str → Option Value} {vs : List V} {H : Hp} {Q : VK} {E : XK} (h : vsp K mg 2 S__law_draw vs H Q E) : t_draw K { nx := fun _ H' => Q .non H', rt := Q } (L2.start ["hand", "many", "cell", "digit", "number"] vs) H := by
  obtain ⟨_, hO, Fr, F, ps, Qv, R, rs, ⟨m, rfl, m1, m2, hq⟩, k⟩ := h
  cases rs with
  | cons r1 rs =>
    cases rs with
    | cons r2 rs =>
      cases rs
      cases r1 with
      | hnd e =>
        cases r2
        obtain ⟨hF, c, cs, i, b, mm, n, e1, e2, e3, e4⟩ := R.hand _ e
        exact draw_read (G := ⟨K, mg, hO⟩) R e e1 e2 e3 e4 m1 m2 fun r H' r0 rm R' => k (.int r) H' F (.val (.int r)) (Same.refl F) R' (Rep.int r) (hq r r0 rm)
end VE
end
section
set_option Elab.async false
set_option linter.all false
set_option maxRecDepth 100000
namespace VE
open PySem PySem.Spec PyProof.Rows L2
abbrev rAbs : List V → Hp → VK → Prop := fun xs H Q => ∃ i, xs = [.int i] ∧ Q (.int (if i < 0 then -i else i)) H
def t_hand (K : PySem.W.Frag) (c : Int) : TS := tSeq (tAsg (tLc (iList K (tSl (rSlL K) (tVar 0) tNoPart (tPart (cI 63)))) (gName 2) tYes (tCB rAbs (tCons (tInt (tVar 2)) tNil)) [2]) (gName 1))
  (tRet (tLst (tCons (tVar 1) (tCons (cI 0) (tCons (cI 0) (tCons (tAddI (cI c) (tMulI (cI 61) (tCB (rLenS K) (tCons (tVar 1) tNil)))) (tCons (cI 0) tNil)))))))
def spHand (K : PySem.W.Frag) : Sp := fun vs H Q _ => ∃ (a : Addr) (ns : List Int), vs = [.ref a] ∧ SqL K H a (ns.map V.int) ∧ ns.length ≤ 63 ∧
  ∀ (H' : Hp) (p c : Addr) (cs : List Int) (m : Int), Same H H' → H p = none → p ≠ c → H' p = some (.lst [.ref c, .int 0, .int 0, .int m, .int 0]) → H' c = some (.lst (cs.map V.int)) → cs.length ≤ 63 → Q (.ref p) H'
theorem cutV_map (ns : List Int) (lo hi : Option Int) : ∃ ms : List Int, cutV (ns.map V.int) lo hi = ms.map V.int ∧ ms.length ≤ ns.length := by
  refine ⟨(ns.drop (HT.sIx ns.length 0 lo)).take (HT.sIx ns.length ns.length hi - HT.sIx ns.length 0 lo), ?_, ?_⟩
  · unfold cutV
    rw [List.length_map, List.map_take, List.map_drop]
  · rw [List.length_take, List.length_drop]; omega
theorem hand_body {K : PySem.W.Frag} {c : Int} {vs : List V} {H : Hp} {Q : VK} {E : XK} (h : spHand K vs H Q E) : t_hand K c { nx := fun _ H' => Q .non H', rt := Q } (L2.start ["script", "cells", "cell"] vs) H := by
  obtain ⟨a, ns, rfl, hS, hl, q⟩ := h
  refine ⟨.ref a, rfl, 63, rfl, a, _, rfl, hS, fun d hd => ?_⟩
  obtain ⟨ms, em, hm⟩ := cutV_map ns none (some 63)
  rw [em]
  refine ⟨d, rfl, ⟨_, SqL.of upd_same⟩, fun D hD => ?_⟩
  have nDd : D ≠ d := fun z => by subst z; rw [upd_same] at hD; cases hD
  have HD : H D = none := by rw [upd_ne nDd] at hD; exact hD
  refine lc_list (K := K) (a := d) (xs := ms.map V.int) (fun i H2 => Same H H2 ∧ H2 d = some (.lst (ms.map V.int)) ∧ ∃ cs : List Int, cs.length = i ∧ H2 D = some (.lst (cs.map V.int))) ⟨(same_upd hd).trans (same_upd hD), ?_, [], rfl, upd_same⟩ (fun i H2 _ p => SqL.of p.2.1) ?_ ?_
  · rw [upd_ne nDd.symm, upd_same]
  · rintro i x H2 hx ⟨s2, e2, cs, hc, hD2⟩
    refine ⟨rfl, ?_⟩
    dsimp only [tYes]
    rw [if_pos rfl]
    rw [List.getElem?_map, Option.map_eq_some_iff] at hx
    obtain ⟨n, hn, rfl⟩ := hx
    have hi : i < ms.length := (List.getElem?_eq_some_iff.mp hn).1
    refine ⟨.int n, rfl, .inl ⟨n, rfl, n, rfl, cs.map V.int, hD2, ?_, ?_⟩⟩
    · rw [List.length_map, sizeLine_eq]; omega
    · refine ⟨fun b o e => ?_, ?_, cs ++ [if n < 0 then -n else n], ?_, ?_⟩
      · have hb : b ≠ D := ne_of_none e HD
        rw [upd_ne hb]; exact s2 b o e
      · rw [upd_ne nDd.symm]; exact e2
      · rw [List.length_append, hc]; rfl
      · rw [upd_same, List.map_append]; rfl
  · rintro H2 ⟨s2, e2, cs, hc, hD2⟩
    rw [List.length_map] at hc
    refine ⟨.ref D, rfl, .ref D, rfl, D, _, rfl, .inl (SqL.of hD2), 61, ((cs.map V.int).length : Int), rfl, rfl, .inl (by omega), c, 61 * ((cs.map V.int).length : Int), rfl, rfl, ?_, fun p hp => ?_⟩
    · show 5 ≤ sizeLine
      rw [sizeLine_eq]; omega
    · have HpD : p ≠ D := fun z => by subst z; rw [hD2] at hp; cases hp
      have Hp0 : H p = none := Same.free s2 hp
      exact q _ p D cs _ (s2.trans (same_upd hp)) Hp0 HpD upd_same (by rw [upd_ne HpD.symm]; exact hD2) (by omega)
/-! ### the law -/
def spLaw (K : PySem.W.Frag) : Sp := fun vs H Q _ => ∃ (a : Addr) (ns : List Int), vs = [.ref a] ∧ SqL K H a (ns.map V.int) ∧ ns.length ≤ 63 ∧ ∀ H', Q (.bl true) H'
def startL (n : Nat) : Rho := (List.replicate n Sl.no).set 1 (.val .hnd)
section
variable {P : Program} {w : World} {K : PySem.W.Frag} {mg : Str → Option Value} {base : Heap} {qual : Str} {params : Arguments} {st : Stmt} {rest : List Stmt} {scope : Scope} {f fH : Addr} {fd fdH : FuncData}
theorem fnG_hand {c : Int} {body : List Stmt} (F : FunD K "_law_hand" "_law_hand" params body scope [] [] f fd) (Sc : FnScope ["script", "cells", "cell"] ["script"] scope)
    (hd : ∀ (cdv : Value) (A : Around) (outer : List Env) (s : Shared) (H : Hp), PSs (cxOf CX0 P w K mg base ["script", "cells", "cell"] "_law_hand" scope f cdv A outer s H E0).nox body (t_hand K c)) : FnG P w K mg base 1 f fd ["script"] (spHand K) := by
  obtain ⟨oc, od, dV, kV, doc, pm, an, cdv, ct, osl, e, lk, hcd, _, _⟩ := F.ex
  subst e
  exact fnG_of lk hcd Sc (fun vs H Q E ⟨a, ns, e, _⟩ => by rw [e]; rfl) fun A outer s H vs Q _ h => ⟨_, PSs.nox (hd cdv A outer s H), hand_body h⟩
theorem fnG_draw {body : List Stmt} (F : FunD K "_law_draw" "_law_draw" params body scope [] [] f fd) (Sc : FnScope ["hand", "many", "cell", "digit", "number"] ["hand", "many"] scope)
    (hd : ∀ (cdv : Value) (A : Around) (outer : List Env) (s : Shared) (H : Hp), PSs (cxOf CX0 P w K mg base ["hand", "many", "cell", "digit", "number"] "_law_draw" scope f cdv A outer s H E0).nox body (t_draw K)) : FnG P w K mg base 1 f fd ["hand", "many"] (vsp K mg 2 S__law_draw) := by
  obtain ⟨oc, od, dV, kV, doc, pm, an, cdv, ct, osl, e, lk, hcd, _, _⟩ := F.ex
  subst e
  exact fnG_of lk hcd Sc (fun vs H Q E h => h.1) fun A outer s H vs Q _ h => ⟨_, PSs.nox (hd cdv A outer s H), draw_body h⟩
theorem fnG_law {N : List Str} {k : Nat} {wr : WS} (F : FunD K "law" "law" params (st :: rest) scope [] [] f fd) (Sc : FnScope N ["script"] scope) (hN2 : 2 ≤ N.length)
    (H1 : FnG P w K mg base k fH fdH ["script"] (spHand K))
    (hst : ∀ (cdv : Value) (A : Around) (outer : List Env) (s : Shared) (H : Hp), RoomG k (A.deeper (envOfC "law" scope s.heap.objs.size f cdv)) → PS (cxOf CX0 P w K mg base N "law" scope f cdv A outer s H E0).nox st (tAsg (fun σ H Q => tCons (tVar 0) tNil σ H fun vs H1 => spHand K vs H1 Q E0) (gName 1)))
    (hd : ∀ (cdv : Value) (A : Around) (outer : List Env) (s : Shared) (H : Hp), RoomG k (A.deeper (envOfC "law" scope s.heap.objs.size f cdv)) → VSs (cxOf CX0 P w K mg base N "law" scope f cdv A outer s H E0).nox rest wr)
    (hv : wr { nx := fun _ => False, rt := fun r => r = .val (.bl true) } (startL N.length)) : FnG P w K mg base (k + 1) f fd ["script"] (spLaw K) := by
  obtain ⟨oc, od, dV, kV, doc, pm, an, cdv, ct, osl, e, lk, hcd, _, _⟩ := F.ex
  subst e
  refine fnG_of lk hcd Sc (fun vs H Q E ⟨a, ns, e, _⟩ => by rw [e]; rfl) fun A outer s H vs Q hr h => ⟨_, PSs.nox (pss_cons (hst cdv A outer s H hr) (hd cdv A outer s H hr)), ?_⟩
  obtain ⟨a, ns, rfl, hS, hl, q⟩ := h
  have e0 : (L2.start N [V.ref a])[0]? = some (some (V.ref a)) := by unfold L2.start; simp
  refine ⟨.ref a, e0, a, ns, rfl, hS, hl, fun H' p c cs m s1 hp npc e1 e2 hl2 => ?_⟩
  have hF : ∀ b, b ≠ c → upd (fun _ => none) c (.lst (cs.map V.int)) b = none := fun b hb => by rw [upd_ne hb]
  refine ⟨some p, fun _ => none, upd (fun _ => none) c (.lst (cs.map V.int)), startL N.length, _, ⟨⟨fun b x e => ?_, fun b o e => (nomatch e), fun b e => ?_⟩, ?_, fun i pv e => ?_, fun i xs e => ?_, fun i j xs ys a' e _ _ _ => ?_⟩, hv, ?_, ?_, ?_, ?_⟩
  · by_cases hb : b = c
    · subst hb; rw [upd_same] at e; cases e; exact e2
    · rw [hF b hb] at e; cases e
  · cases e
    exact ⟨hF p npc, c, cs, 0, 0, m, 0, e1, upd_same, hl2, Int.le_refl 0⟩
  · unfold startL L2.start; simp; omega
  · have : i = 1 ∧ pv = .hnd := by
      unfold startL at e
      by_cases hi : 1 = i
      · subst hi
        rw [List.getElem?_set_self (by simp; omega)] at e
        cases e; exact ⟨rfl, rfl⟩
      · rw [List.getElem?_set_ne hi, List.getElem?_replicate] at e
        split at e <;> cases e
    obtain ⟨rfl, rfl⟩ := this
    refine ⟨.ref p, ?_, Rep.hnd rfl⟩
    rw [List.getElem?_set_self]
    unfold L2.start; simp; omega
  · unfold startL at e
    by_cases hi : 1 = i
    · subst hi
      rw [List.getElem?_set_self (by simp; omega)] at e
      cases e
    · rw [List.getElem?_set_ne hi, List.getElem?_replicate] at e
      split at e <;> cases e
  · unfold startL at e
    by_cases hi : 1 = i
    · subst hi
      rw [List.getElem?_set_self (by simp; omega)] at e
      cases e
    · rw [List.getElem?_set_ne hi, List.getElem?_replicate] at e
      split at e <;> cases e
  · intro σ' H' F' ρ' _ _ z; exact z.elim
  · intro v H' F' r _ _ o z
    subst z
    cases o
    exact q H'
  · intro σ' H' F' ρ' _ _ z; exact z.elim
  · intro σ' H' F' ρ' _ _ z; exact z.elim
end
end VE
end
section
set_option Elab.async false
set_option linter.all false
set_option maxRecDepth 100000
namespace VE
open PySem PySem.Spec PyProof.Rows L2
abbrev LawEnd (s₁ : Shared) (r : Result) (s' : Shared) : Prop := r = .ok (.ret (.bool true)) ∧ OldK s₁.heap s'.heap ∧ s'.os = s₁.os ∧ AllBare s'.gens
section
variable {P : Program} {w : World} {K : PySem.W.Frag} {mg mb : Str → Option Value} {k : Nat} {fa a : Addr} {fd : FuncData} {x : Str} {s₁ : Shared} {vs : List Value} {ns : List Int}
/-- the call, from an abstract heap that tracks the script at most -/
theorem law_from (KX : K.In s₁.heap) (hns : s₁.heap.Ns mainGlobals mg) (hb : s₁.heap.Ns builtinsNs mb) (hbb : ∀ x : Str, x ≠ "__name__" → mb x = bootBuiltins x) (hlim : s₁.heap.NoLimit) (hg : s₁.gens = #[])
    (ha : s₁.heap.get? a = some { cls := .type "list", data := .seq vs.toArray }) (hr : RoomG k callerA) (F : ∀ base : Heap, K.In base → base.Ns mainGlobals mg → FnG P w K mg base k fa fd [x] (spLaw K))
    (hbind : ∀ (s : Shared) (u : Value), BindsTo s fd ⟨[u], []⟩ [(x, u)]) (H : Hp) (hO : Only H) (hS : SqL K H a (ns.map V.int)) (hl : ns.length ≤ 63) (hok : HOk P w H s₁.heap) (one : ∀ b, H b ≠ none → b = a ∧ K.lookup a = none) :
    codeAny (model P w) callerA (.call (.ref fa) ⟨[.ref a], []⟩) (LawEnd s₁) s₁ := by
  -- whatever is no list is untracked
  have free : ∀ {b : Addr} {o : Obj}, s₁.heap.get? b = some o → (∀ its n, o.data ≠ .seq its n) → H b = none := by
    intro b o e nd
    cases q : H b with
    | none => rfl
    | some u =>
      obtain ⟨z, _⟩ := one b (by rw [q]; intro z; cases z)
      subst z
      rw [ha] at e
      cases e
      exact absurd rfl (nd _ _)
  have space : ∀ {b : Addr} {m : Str → Option Value}, s₁.heap.Ns b m → (hidT s₁.heap H).Ns b m := by
    rintro b m ⟨o, es, ep, e, d, r⟩
    exact ⟨o, es, ep, hidT_get e (free e fun its n z => by rw [d] at z; cases z), d, r⟩
  have KB : K.In (hidT s₁.heap H) := by
    intro b o e
    refine hidT_get (KX b o e) ?_
    cases q : H b with
    | none => rfl
    | some u =>
      obtain ⟨z, z2⟩ := one b (by rw [q]; intro z; cases z)
      subst z
      rw [z2] at e; cases e
  obtain ⟨mc, l1, l2⟩ := hlim
  have M : Mod K mg (hidT s₁.heap H) := { kin := KB, glob := space hns, blt := ⟨mb, space hb, hbb⟩, nolimit := ⟨mc, space l1, l2⟩ }
  have E : Env0 P w K mg (hidT s₁.heap H) callerA [] s₁ H := { frames := rfl, mod := M, bs := fun b o e => of_hidT e, bsz := by rw [hidT_size]; exact Nat.le_refl _, funs := trivial, frf := fun b z => (by cases z), hok := hok, bare := .of_eq hg }
  have run := (F _ KB (space hns)).go callerA [] s₁ H ⟨[.ref a], []⟩ [.ref a] [.ref a] (fun v _ => v = .bl true) hr E (hbind s₁ (.ref a)) (.cons rfl .nil) ⟨a, ns, rfl, hS, hl, fun _ => rfl⟩
  refine codeAny_mono run ?_
  intro r s' h
  match r, h with
  | .ok (.ret u), ⟨v, H', os, bare, un, hok', rv, q⟩ =>
    cases (show v = .bl true from q)
    cases (show u = Value.bool true from rv)
    refine ⟨rfl, OldK.of_keep fun b o e => ?_, os, bare⟩
    rcases hO b with q | ⟨ob, ys, q⟩
    · exact un.keep b o e q (by intro z; cases z) (by intro z; cases z)
    · have e1 := (hok b _ q).1
      rw [e] at e1
      cases e1
      exact (hok' b _ (un.frzs b o _ q)).1
  | .ok .next, h => exact h.elim
  | .ok .brk, h => exact h.elim
  | .ok .cont, h => exact h.elim
  | .error _, h => exact False.elim h
theorem law_go (KX : K.In s₁.heap) (hns : s₁.heap.Ns mainGlobals mg) (hb : s₁.heap.Ns builtinsNs mb) (hbb : ∀ x : Str, x ≠ "__name__" → mb x = bootBuiltins x) (hlim : s₁.heap.NoLimit) (hg : s₁.gens = #[])
    (ha : s₁.heap.get? a = some { cls := .type "list", data := .seq vs.toArray }) (hi : IntsAre vs ns) (hl : ns.length ≤ 63) (hr : RoomG k callerA) (F : ∀ base : Heap, K.In base → base.Ns mainGlobals mg → FnG P w K mg base k fa fd [x] (spLaw K))
    (hbind : ∀ (s : Shared) (u : Value), BindsTo s fd ⟨[u], []⟩ [(x, u)]) : codeAny (model P w) callerA (.call (.ref fa) ⟨[.ref a], []⟩) (LawEnd s₁) s₁ := by
  have rv : Vals (ns.map V.int) vs := vals_of_ints hi
  have le : ns.length ≤ sizeLine := by rw [sizeLine_eq]; omega
  by_cases hk : K.lookup a = none
  · refine law_from KX hns hb hbb hlim hg ha hr F hbind (upd (fun _ => none) a (.frz { cls := .type "list", data := .seq vs.toArray } (.lst (ns.map V.int)))) (fun b => ?_) (.inl (.inr ⟨_, upd_same⟩)) hl (fun b u z => ?_) fun b z => ?_
    · by_cases hb' : b = a
      · subst hb'; exact .inr ⟨_, _, upd_same⟩
      · exact .inl (upd_ne hb')
    · by_cases hb' : b = a
      · subst hb'
        rw [upd_same] at z; cases z
        exact ⟨ha, by rw [List.length_map]; exact le, vs, _, rv, ha⟩
      · rw [upd_ne hb'] at z; cases z
    · by_cases hb' : b = a
      · exact ⟨hb', hk⟩
      · exact absurd (upd_ne hb') z
  · obtain ⟨o, e⟩ := Option.ne_none_iff_exists'.mp hk
    have e2 := KX a o e
    rw [ha] at e2
    cases e2
    have hz : vs.toArray.size ≤ sizeLine := by rw [List.size_toArray, ← rv.length, List.length_map]; exact le
    refine law_from KX hns hb hbb hlim hg ha hr F hbind (fun _ => none) (fun b => .inl rfl) (.inr ⟨_, vs.toArray, _, e, rfl, rfl, rfl, hz, rv⟩) hl (fun b u z => (nomatch z)) fun b z => absurd rfl z
end
/-- the end of a law -/
theorem walkG {l : PySem.W.OpenLaw} {k : Nat} {q : Program} {loose : List Str} {XP : (Str → Option Value) → Heap → Prop} {YP : World → Heap → Prop} {d : DefRec} {x : Str} (hn : l.most = some 63) (hdf : d.params.defaults = []) (hr : RoomG k callerA)
    (F : ∀ (w : World) (mg : Str → Option Value) (fa : Addr) (h : Heap), YP w h → h.Ns mainGlobals mg → mg d.name = some (.ref fa) →
      ∃ (K : PySem.W.Frag) (fd : FuncData), K.In h ∧ (∀ (s : Shared) (u : Value), BindsTo s fd ⟨[u], []⟩ [(x, u)]) ∧ ∀ base : Heap, K.In base → base.Ns mainGlobals mg → FnG l.prog w K mg base k fa fd [x] (spLaw K)) :
    PySem.W.WalkO q loose XP YP l.row.toRowW d [] (fun f vs => PySem.call f vs) := by
  refine Att.attach_call hn hdf ?_
  intro w s₀ s₁ mg mb fa o pm cd doc a vs ns G Y ho hd hcd hmg hobj hints hlen hg
  obtain ⟨K, fd, KX, hb, hF⟩ := F w mg fa s₁.heap Y G.T.g hmg
  exact law_go KX G.T.g G.T.b G.T.builtins G.T.nolimit hg hobj hints hlen hr hF hb
end VE
end
section
set_option Elab.async false
set_option linter.all false
set_option maxRecDepth 100000
namespace VE
open PySem PySem.Spec PyProof.Rows L2 PySem.W
section
variable {X : Cx}
/-! ### repr of data -/
def rReprD (K : PySem.W.Frag) : List V → Hp → VK → Prop := fun vs H Q => ∃ x, vs = [x] ∧ ((∃ d, Dp K H x d ∧ d.showable = true ∧ d.hasDict = false ∧ d.depth ≤ 64 ∧ d.shown.length ≤ sizeLine ∧ Q (.str d.shown) H) ∨ (∃ a, x = .ref a ∧ H a = some (.dK []) ∧ Q (.str (PyData.shown (.dict []))) H))
theorem call_reprD (hc : X.calm = true) {k : Nat} (hr : RoomG k X.A) : CallR X (.builtin "repr") (rReprD X.K) := by
  intro pins s σ H vs us Q I r h
  obtain ⟨x, rfl, h⟩ := h
  cases r with
  | cons ra rn =>
    rename_i u _
    cases rn
    rcases h with ⟨d, hd, hs, hdi, hdep, hz, q⟩ | ⟨a, rfl, ha, q⟩
    · obtain ⟨as, rd⟩ := Dp.reads I d x u hd ra
      have ref : ∀ {a : Addr}, u = .ref a → wpAny (model X.prog X.w) X.A (call (.builtin "repr") [u]) (EP X pins σ Q) X.xe s := by
        intro a e
        subst e
        refine repr_of_reads' rd hs (fun z => by rw [hdi] at z; cases z) hr.gd (by have := hr.un; omega) (fun _ _ e => e) (fun h' u tk keep => ?_) hz
        exact ⟨.str _, H, I.kept keep, ⟨u, rfl⟩, q⟩
      cases hd with
      | non => cases ra; exact PySem.P.repr_of_none ⟨.str _, H, I.tok _, ⟨_, rfl⟩, q⟩
      | bl b => cases ra; exact PySem.P.repr_of_bool ⟨.str _, H, I.tok _, ⟨_, rfl⟩, q⟩
      | int i => obtain ⟨t, rfl⟩ := ra; exact PySem.P.repr_of_int (by simpa [PyData.showable] using hs) ⟨.str _, H, I.tok _, ⟨_, rfl⟩, q⟩
      | str y => obtain ⟨t, rfl⟩ := ra; exact PySem.P.repr_of_str ⟨.str _, H, I.tok _, ⟨_, rfl⟩, q⟩ hz
      | lst _ _ => cases ra; exact ref rfl
      | tup _ _ => cases ra; exact ref rfl
    · cases ra
      obtain ⟨_, hsys, vs, kv, ob, es, ep, e1, e2, e3, e4, e5, e6⟩ := (show ObjOk X.prog X.w H s.heap a (.dK []) from I.hok a _ ha)
      cases kv
      have he : es.toList = [] := by
        have := e5
        generalize es.toList = l at this
        cases this
        rfl
      have rd : Reads s.heap (.ref a) (.dict []) (a :: [] ++ []) := Reads.dict (kvs := []) e1 e2.1 e3 (by rw [he]; exact .nil) (by rw [he]; exact .nil)
      refine repr_of_reads' rd (by rfl) (fun _ => ?_) hr.gd (by have := hr.un; show X.A.units + (0 + 1 + 1) < cLine; omega) (fun _ _ e => e) (fun h' u tk keep => ?_) (by decide +kernel)
      · intro z
        have e : sysModules = a := by simpa using z
        rw [← e] at hsys; simp at hsys
      · exact ⟨.str _, H, I.kept keep, ⟨u, rfl⟩, q⟩
def opRepr : SpV := fun ps Q => ∃ p, ps = [p] ∧ ((∃ d, toD p = some d ∧ d.showable = true ∧ d.depth ≤ 64 ∧ d.shown.length ≤ sizeLine ∧ Q (.val (.str d.shown))) ∨ (p = .dct0 ∧ Q (.val (.str (PyData.shown (.dict []))))))
mutual
theorem toD_noDict : ∀ {p : PV} {d : PyData}, toD p = some d → d.hasDict = false
  | .non, _, e => by simp [toD] at e; subst e; rfl
  | .bl b, _, e => by simp [toD] at e; subst e; rfl
  | .int b, _, e => by simp [toD] at e; subst e; rfl
  | .str b, _, e => by simp [toD] at e; subst e; rfl
  | .lst xs, _, e => by
    simp only [toD, Option.map_eq_some_iff] at e
    obtain ⟨ds, e1, rfl⟩ := e
    simp only [PyData.hasDict]
    exact toDs_noDict e1
  | .tup xs, _, e => by
    simp only [toD, Option.map_eq_some_iff] at e
    obtain ⟨ds, e1, rfl⟩ := e
    simp only [PyData.hasDict]
    exact toDs_noDict e1
  | .dct0, _, e => by simp [toD] at e
  | .hnd, _, e => by simp [toD] at e
  | .ty _, _, e => by simp [toD] at e
  | .fnc _, _, e => by simp [toD] at e
  | .ins _ _ _, _, e => by simp [toD] at e
theorem toDs_noDict : ∀ {ps : List PV} {ds : List PyData}, toDs ps = some ds → PyData.hasDictAll ds = false
  | [], _, e => by simp [toDs] at e; subst e; rfl
  | p :: ps, _, e => by
    simp only [toDs] at e
    split at e
    · rename_i d ds e1 e2
      cases e
      simp only [PyData.hasDictAll, toD_noDict e1, toDs_noDict e2, Bool.or_self]
    · cases e
end
theorem ser_repr {K mg} : SerC K mg (rReprD K) opRepr := by
  intro hO Fr F σ H ρ vs ps Qv Q R rs h k
  obtain ⟨p, rfl, h⟩ := h
  cases rs with
  | cons r rn =>
    cases rn
    rcases h with ⟨d, e1, e2, e3, e4, h⟩ | ⟨rfl, h⟩
    · exact ⟨_, rfl, .inl ⟨d, dpMono R.sub (dp_of r e1), e2, toD_noDict e1, e3, e4, k _ H F (.val (.str _)) (Same.refl F) R (Rep.str _) h⟩⟩
    · cases r with
      | dct0 e => exact ⟨_, rfl, .inr ⟨_, rfl, R.sub _ _ e, k _ H F (.val (.str _)) (Same.refl F) R (Rep.str _) h⟩⟩
end
end VE
end
section
set_option Elab.async false
set_option linter.all false
set_option maxRecDepth 100000
namespace VE
open PySem PySem.Spec PyProof.Rows L2
/-! ### several values at once, owned lists kept -/
inductive ROs (G : Gh) (Fr F : Hp) (σ : L2.St) (H : Hp) (ρ : Rho) : List V → List Sl → Prop
  | nil : ROs G Fr F σ H ρ [] []
  | cons {v : V} {r : Sl} {vs : List V} {rs : List Sl} : RO G Fr F σ H ρ v r → ROs G Fr F σ H ρ vs rs → (∀ a xs, r = .own xs → v = .ref a → ∀ (i : Nat) ys, rs[i]? = some (.own ys) → vs[i]? ≠ some (.ref a)) → ROs G Fr F σ H ρ (v :: vs) (r :: rs)
abbrev WB := Rho → (List Sl → Rho → Prop) → Prop
def eB (K : PySem.W.Frag) (mg : Str → Option Value) (w : WB) : TA := fun σ H Q => ∃ (hO : Option Addr) (Fr F : Hp) (ρ : Rho) (Qv : List Sl → Rho → Prop),
  Rr ⟨K, mg, hO⟩ Fr F σ H ρ ∧ w ρ Qv ∧ ∀ vs H' F' rs ρ', Same F F' → Rr ⟨K, mg, hO⟩ Fr F' σ H' ρ' → ROs ⟨K, mg, hO⟩ Fr F' σ H' ρ' vs rs → Qv rs ρ' → Q vs H'
abbrev VB (X : Cx) (es : List Expr) (w : WB) : Prop := PA X es (eB X.K X.mg w)
def frA (Fr H : Hp) : Sl → V → Hp
  | .own _, .ref a => fun b => if b = a then H a else Fr b
  | _, _ => Fr
section
variable {G : Gh} {Fr F F' H H' : Hp} {σ : L2.St} {ρ ρ' : Rho} {v : V} {r : Sl}
theorem RO.toFr (R : Rr G Fr F σ H ρ) (o : RO G Fr F σ H ρ v r) : Rr G (frA Fr H r v) F σ H ρ := by
  cases r with
  | no => exact o.elim
  | val p => exact R
  | own xs =>
    obtain ⟨a, vs, rfl, ow, ap⟩ := o
    refine { R with fr := fun b o e => ?_, own := fun i ys e => ?_ }
    · simp only [frA] at e
      split at e
      · rename_i hb; subst hb
        exact ⟨e, ow.nF, ow.nh⟩
      · exact R.fr b o e
    · obtain ⟨b, us, e1, ob⟩ := R.own i ys e
      refine ⟨b, us, e1, ⟨ob.at_, ob.rep, ob.nF, ob.nh, ?_⟩⟩
      have hb : b ≠ a := fun h => ap i ys e (by rw [e1, h])
      simp only [frA, if_neg hb]
      exact ob.nFr
theorem frA_sub {b : Addr} (h : frA Fr H r v b = none) (o : RO G Fr F σ H ρ v r) : Fr b = none := by
  cases r with
  | no => exact o.elim
  | val p => exact h
  | own xs =>
    obtain ⟨a, vs, rfl, ow, ap⟩ := o
    simp only [frA] at h
    split at h
    · rename_i hb; subst hb; exact ow.nFr
    · exact h
theorem RO.ofFr (R : Rr G Fr F σ H ρ) (o : RO G Fr F σ H ρ v r) (s : Same F F') (R' : Rr G (frA Fr H r v) F' σ H' ρ') : Rr G Fr F' σ H' ρ' ∧ RO G Fr F' σ H' ρ' v r ∧
    ∀ {us : List V} {rs : List Sl}, ROs G (frA Fr H r v) F' σ H' ρ' us rs → ROs G Fr F' σ H' ρ' (v :: us) (r :: rs) := by
  have R2 : Rr G Fr F' σ H' ρ' := by
    refine { R' with fr := fun b ob e => ?_, own := fun i ys e => ?_ }
    · cases r with
      | no => exact o.elim
      | val p => exact R'.fr b ob e
      | own xs =>
        obtain ⟨a, vs, rfl, ow, ap⟩ := o
        have hb : b ≠ a := fun h => by rw [h, ow.nFr] at e; cases e
        exact R'.fr b ob (by simp only [frA, if_neg hb]; exact e)
    · obtain ⟨b, us, e1, ob⟩ := R'.own i ys e
      exact ⟨b, us, e1, ⟨ob.at_, ob.rep, ob.nF, ob.nh, frA_sub ob.nFr o⟩⟩
  have o2 : RO G Fr F' σ H' ρ' v r := by
    cases r with
    | no => exact o.elim
    | val p => exact Rep.mono s o
    | own xs =>
      obtain ⟨a, vs, rfl, ow, ap⟩ := o
      obtain ⟨g1, g2, g3⟩ := R'.fr a (.lst vs) (by simp only [frA, if_true]; exact ow.at_)
      refine ⟨a, vs, rfl, ⟨g1, ow.rep.mono s, g2, g3, ow.nFr⟩, fun i ys e1 e2 => ?_⟩
      obtain ⟨b, us, e3, ob⟩ := R'.own i ys e1
      rw [e2] at e3; cases e3
      have := ob.nFr
      simp only [frA, if_true] at this
      rw [ow.at_] at this; cases this
  refine ⟨R2, o2, fun {us rs} os => ?_⟩
  have conv : ∀ {u : V} {q : Sl}, RO G (frA Fr H r v) F' σ H' ρ' u q → RO G Fr F' σ H' ρ' u q := fun {u q} x => by
    cases q with
    | no => exact x
    | val p => exact x
    | own xs =>
      obtain ⟨a, vs, e, ow, ap⟩ := x
      exact ⟨a, vs, e, ⟨ow.at_, ow.rep, ow.nF, ow.nh, frA_sub ow.nFr o⟩, ap⟩
  have all : ∀ {us : List V} {rs : List Sl}, ROs G (frA Fr H r v) F' σ H' ρ' us rs → ROs G Fr F' σ H' ρ' us rs := fun {us rs} os => by
    induction os with
    | nil => exact .nil
    | cons x _ d ih => exact .cons (conv x) ih d
  have get : ∀ {us : List V} {rs : List Sl}, ROs G (frA Fr H r v) F' σ H' ρ' us rs → ∀ (i : Nat) ys, rs[i]? = some (.own ys) → ∃ a, us[i]? = some (.ref a) ∧ frA Fr H r v a = Option.none := fun {us rs} os => by
    induction os with
    | nil => intro i ys e; simp at e
    | cons x _ d ih =>
      intro i ys e
      cases i with
      | zero =>
        simp at e; subst e
        obtain ⟨a, vs, e, ow, ap⟩ := x
        exact ⟨a, by simp [e], ow.nFr⟩
      | succ i => simpa using ih i ys (by simpa using e)
  refine .cons o2 (all os) fun a xs e1 e2 i ys e3 e4 => ?_
  subst e1; subst e2
  obtain ⟨b, h1, h2⟩ := get os i ys e3
  rw [e4] at h1; cases h1
  obtain ⟨a', vs, e, ow, ap⟩ := o
  cases e
  simp only [frA, if_true] at h2
  rw [ow.at_] at h2; cases h2
theorem ROs.length {vs : List V} {rs : List Sl} (h : ROs G Fr F σ H ρ vs rs) : vs.length = rs.length := by
  induction h with
  | nil => rfl
  | cons _ _ _ ih => simp [ih]
theorem ROs.set {i : Nat} {vs : List V} {rs : List Sl} (o : RO G Fr F σ H ρ v r) (d : ∀ a xs, r = .own xs → v = .ref a → ∀ (i : Nat) ys, rs[i]? = some (.own ys) → vs[i]? ≠ some (.ref a)) (h : ROs G Fr F σ H ρ vs rs) (hl : ρ.length = σ.length) :
    ROs G Fr F (σ.set i (some v)) H (ρ.set i r) vs rs := by
  induction h with
  | nil => exact .nil
  | @cons u q us qs x _ d2 ih =>
    refine .cons ?_ (ih fun a xs e1 e2 k ys e3 => by have := d a xs e1 e2 (k + 1) ys; simpa using this (by simpa using e3)) d2
    cases q with
    | no => exact x
    | val p => exact x
    | own xs =>
      obtain ⟨a, ws, rfl, ow, ap⟩ := x
      refine ⟨a, ws, rfl, ow, fun k ys e1 e2 => ?_⟩
      by_cases hk : i = k
      · subst hk
        have hi : i < ρ.length := by
          have := (List.getElem?_eq_some_iff.mp e1).1
          simpa using this
        rw [List.getElem?_set_self hi] at e1
        rw [List.getElem?_set_self (by omega)] at e2
        simp only [Option.some.injEq] at e1 e2
        exact d a ys e1 e2 0 xs rfl rfl
      · rw [List.getElem?_set_ne hk] at e1 e2
        exact ap k ys e1 e2
theorem ROs.freshT {vs : List V} {rs : List Sl} {p : Addr} {ob : HO} (hp : H p = none) (h : ROs G Fr F σ H ρ vs rs) : ROs G Fr F σ (upd H p ob) ρ vs rs := by
  induction h with
  | nil => exact .nil
  | @cons u q us qs x _ d2 ih =>
    refine .cons ?_ ih d2
    cases q with
    | no => exact x
    | val p => exact x
    | own xs =>
      obtain ⟨a, ws, rfl, ow, ap⟩ := x
      exact ⟨a, ws, rfl, ⟨by rw [upd_ne (ne_of_none ow.at_ hp)]; exact ow.at_, ow.rep, ow.nF, ow.nh, ow.nFr⟩, ap⟩
end
def bNil : WB := fun ρ Q => Q [] ρ
def bCons (wa : WE) (wr : WB) : WB := fun ρ Q => wa ρ fun r ρ1 => wr ρ1 fun rs ρ2 => Q (r :: rs) ρ2
section
variable {X : Cx} {pos : Pos}
theorem vb_nil : VB X [] bNil := by
  refine PA.imp pa_nil ?_
  rintro σ H Q ⟨hO, Fr, F, ρ, Qv, R, h, k⟩
  exact k [] H F [] ρ (Same.refl F) R .nil h
theorem vb_cons {e : Expr} {es : List Expr} {wa : WE} {wr : WB} (he : VE X e wa) (hr : VB X es wr) (hs : starEach (e :: es) X.env = (false, eval e X.env) :: starEach es X.env := by rfl) : VB X (e :: es) (bCons wa wr) := by
  refine PA.imp (pa_cons he hr hs) ?_
  rintro σ H Q ⟨hO, Fr, F, ρ, Qv, R, h, k⟩
  refine ⟨hO, Fr, F, ρ, _, R, h, fun v H1 F1 r ρ1 s1 R1 o h1 => ?_⟩
  refine ⟨hO, _, F1, ρ1, _, RO.toFr R1 o, h1, fun vs H2 F2 rs ρ2 s2 R2 os h2 => ?_⟩
  obtain ⟨R3, _, m⟩ := RO.ofFr R1 o s2 R2
  exact k (v :: vs) H2 F2 (r :: rs) ρ2 (s1.trans s2) R3 (m os) h2
def wParB (i j : Nat) (w : WB) : WS := fun D ρ => w ρ fun rs ρ1 => ∃ p q, rs = [p, q] ∧ D.nx ((ρ1.set i p).set j q)
theorem vs_parB {i j : Nat} {x y : Str} {a b : Expr} {w : WB} {px py pt : Pos} {kt k2 pt2} (hc : X.calm = true) (hN : X.N.Nodup) (hi : X.N[i]? = some x) (hj : X.N[j]? = some y) (hij : i ≠ j)
    (hx : X.env.scope.names.lookup x = some .local) (hy : X.env.scope.names.lookup y = some .local) (ha : VB X [a, b] w)
    (hw : swappedStores [.Tuple [.Name x px, .Name y py] kt pt] (.Tuple [a, b] k2 pt2) X.env = pure (some [x, y]))
    (hs : swapsWithSole [.Tuple [.Name x px, .Name y py] kt pt] (.Tuple [a, b] k2 pt2) pos.line X.env = pure false := by rfl) :
    VS X (.Assign [.Tuple [.Name x px, .Name y py] kt pt] (.Tuple [a, b] k2 pt2) pos) (wParB i j w) := by
  refine PS.imp (ps_par hc hN hi hj hij hx hy ha hw hs) ?_
  rintro D σ H ⟨hO, Fr, F, ρ, DV, R, h, k1, k2, k3, k4⟩
  refine ⟨hO, Fr, F, ρ, _, R, h, fun vs H' F' ps ρ' s R' rs ⟨p, q, e, hq⟩ => ?_⟩
  subst e
  cases rs with
  | cons r1 rs d1 =>
    cases rs with
    | cons r2 rs d2 =>
      cases rs
      refine ⟨_, _, rfl, k1 _ H' F' _ s ?_ hq⟩
      have rest := ROs.set (i := i) r1 d1 (.cons r2 .nil d2) R'.len
      cases rest with
      | cons r2' _ _ => exact (R'.set r1).set r2'
def wParB3 (i j l : Nat) (w : WB) : WS := fun D ρ => w ρ fun rs ρ1 => ∃ p q r, rs = [p, q, r] ∧ D.nx (((ρ1.set i p).set j q).set l r)
theorem vs_parB3 {i j l : Nat} {st : Stmt} {w : WB} (h : PS X st (tPar3 i j l (eB X.K X.mg w))) : VS X st (wParB3 i j l w) := by
  refine PS.imp h ?_
  rintro D σ H ⟨hO, Fr, F, ρ, DV, R, h, k1, k2, k3, k4⟩
  refine ⟨hO, Fr, F, ρ, _, R, h, fun vs H' F' ps ρ' s R' rs ⟨p, q, r, e, hq⟩ => ?_⟩
  subst e
  cases rs with
  | cons r1 rs d1 =>
    have rest := ROs.set (i := i) r1 d1 rs R'.len
    have R1 := R'.set (i := i) r1
    cases rest with
    | cons r2 rs d2 =>
      have rest2 := ROs.set (i := j) r2 d2 rs R1.len
      have R2 := R1.set (i := j) r2
      cases rest2 with
      | cons r3 rs d3 =>
        cases rs
        exact ⟨_, _, _, rfl, k1 _ H' F' _ s (R2.set (i := l) r3) hq⟩
/-- names of a tuple display's items, cells among them -/
inductive NmT (X : Cx) : List Expr → List Nat → TGs → Prop
  | nil : NmT X [] [] gNil
  | cons {x : Str} {p : Pos} {i : Nat} {es : List Expr} {is : List Nat} {t : TGs} : NmT X es is t → NmT X (.Name x p :: es) (i :: is) (gCons (gName i) t)
def sets (ρ : Rho) : List Nat → List Sl → Rho
  | i :: is, r :: rs => sets (ρ.set i r) is rs
  | _, _ => ρ
theorem nm_read {K : PySem.W.Frag} {mg : Str → Option Value} {hO : Option Addr} {Fr F H : Hp} {es : List Expr} {is : List Nat} {t : TGs} (h : NmT X es is t) : ∀ {σ : L2.St} {ρ : Rho} {vs : List V} {rs : List Sl} {Q : L2.St → Hp → Prop},
    Rr ⟨K, mg, hO⟩ Fr F σ H ρ → ROs ⟨K, mg, hO⟩ Fr F σ H ρ vs rs → rs.length = is.length → (∀ σ', Rr ⟨K, mg, hO⟩ Fr F σ' H (sets ρ is rs) → Q σ' H) → t vs σ H Q := by
  induction h with
  | nil =>
    intro σ ρ vs rs Q R os hl k
    cases os with
    | nil => exact ⟨rfl, k σ R⟩
    | cons => simp at hl
  | @cons x p i es is t _ ih =>
    intro σ ρ vs rs Q R os hl k
    cases os with
    | nil => simp at hl
    | @cons v r vs rs o os d =>
      refine ⟨v, vs, rfl, ?_⟩
      exact ih (R.set o) (ROs.set o d os R.len) (by simpa using hl) k
def wAsgB (is : List Nat) (w : WB) : WS := fun D ρ => w ρ fun rs ρ1 => rs.length = is.length ∧ rs.length ≤ sizeLine ∧ D.nx (sets ρ1 is rs)
theorem vs_asgB {es tg : List Expr} {is : List Nat} {t : TGs} {w : WB} {kt k2 : Nat} {pt pt2 : Pos} (hc : X.calm = true) (he : VB X es w) (hn : NmT X tg is t) (hg : PGs X tg t)
    (hl : (assignEach tg X.env).length = is.length := by rfl) (hst : (assignEach tg X.env).findIdx? (·.1) = none := by rfl)
    (hs : swapsWithSole [.Tuple tg kt pt] (.Tuple es k2 pt2) pos.line X.env = pure false := by rfl) (hw : swappedStores [.Tuple tg kt pt] (.Tuple es k2 pt2) X.env = pure none := by rfl)
    (h1 : (assignEach [.Tuple tg kt pt] X.env).map (·.2) = [assign (.Tuple tg kt pt) X.env] := by rfl) : VS X (.Assign [.Tuple tg kt pt] (.Tuple es k2 pt2) pos) (wAsgB is w) := by
  refine PS.imp (ps_asg (pe_tup he) (pg_tup hc hg hl hst) hs hw h1) ?_
  rintro D σ H ⟨hO, Fr, F, ρ, DV, R, h, k1, k2, k3, k4⟩
  refine ⟨hO, Fr, F, ρ, _, R, h, fun vs H1 F1 rs ρ1 s1 R1 os ⟨h2, h3, h4⟩ => ?_⟩
  have hlen := os.length
  refine ⟨by rw [hlen]; exact h3, fun p hp => ?_⟩
  refine ⟨p, vs, rfl, SqT.of upd_same, by rw [hlen]; exact h2, ?_⟩
  exact nm_read hn (R1.fresh hp) (os.freshT hp) h2 fun σ' R' => k1 σ' _ F1 _ s1 R' h4
end
end VE
end
section
set_option Elab.async false
set_option linter.all false
set_option maxRecDepth 100000
namespace VE
open PySem PySem.Spec PyProof.Rows L2
section
variable {P : Program} {w : World} {K : PySem.W.Frag} {mg : Str → Option Value} {base : Heap} {x qual : Str} {params : Arguments} {body : List Stmt} {scope : Scope} {f : Addr} {fd : FuncData}
/-- a def of which nothing is promised -/
theorem cal_none {prs : List Str} {n k : Nat} (F : FunD K x qual params body scope [] [] f fd) (hg : mg x = some (.ref f))
    (hb : ∀ (kV doc pm : Value) (an : Option Addr) (cdv ct : Value) (us : List Value), us.length = prs.length → bindArgs (PySem.W.fnOf x qual params body scope .none kV doc pm an cdv ct) ⟨us, []⟩ = pure (prs.zip us)) : Cal P w K mg base x n k (fun _ _ => False) :=
  ⟨f, fd, prs, ⟨fun vs H Q E h => by obtain ⟨_, _, _, _, _, _, _, _, h, _⟩ := h; exact h.elim, fun A outer s H args us vs Q _ _ _ _ h => by obtain ⟨_, _, _, _, _, _, _, _, h, _⟩ := h; exact h.elim⟩, hg, F.kp, F.bindsN hb⟩
end
end VE
end
section
set_option Elab.async false
set_option linter.all false
set_option maxRecDepth 100000
namespace VE
open PySem PySem.Spec PyProof.Rows L2
/-! ### from behind -/
theorem fm_congr {α β : Type} {f g : α → Option β} : ∀ {l : List α}, (∀ x ∈ l, f x = g x) → l.filterMap f = l.filterMap g
  | [], _ => rfl
  | x :: l, h => by
    rw [List.filterMap_cons, List.filterMap_cons, h x List.mem_cons_self, fm_congr fun y hy => h y (List.mem_cons_of_mem _ hy)]
theorem back_pick (xs : Array Value) : ((List.range xs.size).filterMap fun (k : Nat) => xs[(((xs.size : Int) - 1) + (k : Int) * (-1)).toNat]?).toArray = xs.toList.reverse.toArray := by
  obtain ⟨l⟩ := xs
  have h := HT.pick_gen l.reverse.toArray 0 l.length
  have e : ∀ k ∈ List.range l.length, l.toArray[(((l.toArray.size : Int) - 1) + (k : Int) * (-1)).toNat]? = (l.reverse.toArray)[(((0 : Nat) : Int) + (k : Int) * 1).toNat]? := fun k hk => by
    have hk' := List.mem_range.mp hk
    have e1 : (((l.toArray.size : Int) - 1) + (k : Int) * (-1)).toNat = l.length - 1 - k := by rw [List.size_toArray]; omega
    have e2 : (((0 : Nat) : Int) + (k : Int) * 1).toNat = k := by omega
    rw [e1, e2, List.getElem?_toArray, List.getElem?_toArray, List.getElem?_reverse hk']
  have h2 := congrArg List.toArray (fm_congr e)
  refine h2.trans (h.trans ?_)
  simp
  exact List.take_of_length_le (by simp)
theorem back_parts (n : Nat) : Builtin.Slice.sliceAdjust none none (-1) (n : Int) = ((n : Int) - 1, -1) := by
  unfold Builtin.Slice.sliceAdjust
  simp
theorem back_many (n : Nat) : Builtin.Slice.slicePlaces ((n : Int) - 1) (-1) (-1) = n := by
  unfold Builtin.Slice.slicePlaces
  simp
  try omega
section
variable {prog : Program} {w : World} {A : Around} {E : Value → Shared → Prop} {s : Shared}
theorem back_applied {sl : Addr} {t : Tok} {n : Nat} {Q : Int × Int × Nat → Shared → Prop} (hs : s.heap.IsSliceOf sl .none .none (.int (-1) t)) (h : Q ((n : Int) - 1, -1, n) s) :
    wpAny (model prog w) A (Builtin.Slice.sliceApplied (.ref sl) (pure (n : Int))) Q E s := by
  obtain ⟨ob, o1, o2, o3⟩ := id hs
  unfold Builtin.Slice.sliceApplied Builtin.Slice.sliceFields
  refine wpAny_bind (wpAny_bind (wpAny_field o1 o3 (x := .none) rfl (wpAny_bind (wpAny_field o1 o3 (x := .none) rfl (wpAny_bind (wpAny_field o1 o3 (x := .int (-1) t) rfl (wpAny_pure ?_)))))))
  refine wpAny_bind (HT.slicePart_ (IsPart.int (-1) t) ?_)
  show wpAny _ _ (if ((-1 : Int) == 0) = true then _ else _) _ _ s
  rw [if_neg (by decide : ¬ ((-1 : Int) == 0) = true)]
  refine wpAny_bind (HT.slicePart_ IsPart.none (wpAny_bind (HT.slicePart_ IsPart.none (wpAny_bind (wpAny_pure ?_)))))
  show wpAny _ _ (match Builtin.Slice.sliceAdjust none none (-1) (n : Int) with | (a, b) => pure (a, (-1 : Int), Builtin.Slice.slicePlaces a b (-1))) _ _ s
  rw [back_parts]
  show wpAny _ _ (pure ((n : Int) - 1, (-1 : Int), Builtin.Slice.slicePlaces ((n : Int) - 1) (-1) (-1))) _ _ s
  rw [back_many]
  exact wpAny_pure h
theorem tup_back {t sl : Addr} {tk : Tok} {its : Array Value} {Q : Value → Shared → Prop} (it : IsTup s.heap t its) (hs : s.heap.IsSliceOf sl .none .none (.int (-1) tk))
    (h : Q (.ref s.heap.objs.size) { s with heap := s.heap.push { cls := .type "tuple", data := .seq its.toList.reverse.toArray } }) (hz : its.size ≤ sizeLine) : wpAny (model prog w) A (getItem (.ref t) (.ref sl)) Q E s := by
  have fit : sizeOk (.seq its.toList.reverse.toArray) := by
    show its.toList.reverse.toArray.size ≤ sizeLine
    simpa using hz
  obtain ⟨ob, o1, o2, o3⟩ := id hs
  have ty : s.TypeIs (.ref sl) "slice" := ⟨ob, o1, o2⟩
  unfold getItem
  try with_reducible refine wpAny_holding ?_
  first | refine wpAny_bind (wpAny_pure ?_) | skip
  refine wpAny_bind (wpAny_sequenceKey it.typeIs (by decide) ?_)
  refine wpAny_bind (wpAny_callSpecial?_slot (name := Str.ofString "__getitem__") it.typeIs PyProof.Rows.slot_tuple_getitem (wpAny_call_entry PyProof.Rows.slot_tuple_getitem it.typeIs entry_tuple_getitem ?_ (args_tuple_getitem _ _)))
  show wpAny _ _ (Builtin.Tuple.tupleItemsOf (.ref t) >>= _) _ _ s; refine wpAny_bind (tupleItemsOf_ it ?_)
  refine wpAny_bind (wpAny_typeOf ty ?_)
  rw [if_pos (by decide)]
  refine wpAny_bind (back_applied hs ?_)
  show wpAny _ _ (if (((its.size : Int) - 1) == 0 && (-1 : Int) == 1 && its.size == its.size) = true then _ else _) _ _ s
  rw [if_neg (by simp), back_pick]
  first
    | exact wpAny_bind (m := Builtin.Tuple.tupleExact _) (wpAny_newObj_type (wpAny_pure ⟨_, rfl, wpAny_pure h⟩) fit)
    | exact wpAny_bind (m := Builtin.Tuple.tupleExact _) (wpAny_newObj_type (wpAny_bind (wpAny_pure (wpAny_pure ⟨_, rfl, wpAny_pure h⟩))) fit)
    | exact wpAny_bind (wpAny_bind (m := Builtin.Tuple.tupleExact _) (wpAny_newObj_type (wpAny_pure (wpAny_pure ⟨_, rfl, wpAny_pure h⟩)) fit))
    | exact wpAny_bind (wpAny_bind (m := Builtin.Tuple.tupleExact _) (wpAny_newObj_type (wpAny_pure ⟨_, rfl, wpAny_pure h⟩) fit))
end
section
variable {X : Cx}
/-- from behind: a list, a tuple -/
def tBack (K : PySem.W.Frag) (te : TE) : TE := fun σ H Q => te σ H fun x H1 => ∃ a xs, x = .ref a ∧ ((SqL K H1 a xs ∧ ∀ p, H1 p = none → Q (.ref p) (upd H1 p (.lst xs.reverse))) ∨ (SqT K H1 a xs ∧ ∀ p, H1 p = none → Q (.ref p) (upd H1 p (.tup xs.reverse))))
theorem pe_back {e : Expr} {te : TE} {k : Nat} {p1 p2 p3 pos : Pos} (he : PE X e te) : PE X (.Subscript e (.Slice none none (some (.UnaryOp .USub (.Constant (.int 1) k p1) p2)) p3) pos) (tBack X.K te) := by
  constructor
  intro pins s σ H Q I h
  refine Subscript_ (thn (he.run pins s σ H _ I h) fun v sa ⟨x, Ha, Ia, rx, qx⟩ => ?_)
  obtain ⟨a, xs, ex, hx⟩ := qx
  subst ex
  cases rx
  have hst : PO X (some (.UnaryOp .USub (.Constant (.int 1) k p1) p2)) (tPart (tUn (rU fun i => .int (-i)) (tC (.int 1)))) := po_some (pe_un un_neg pe_int)
  refine wpAny_Slice (thn (po_none.run pins sa σ Ha (fun o H2 => o = none ∧ H2 = Ha) Ia ⟨rfl, rfl⟩) fun vl sb ⟨l, Hb, Ib, pl, el, eb⟩ => ?_)
  subst el eb
  refine thn (po_none.run pins sb σ Hb (fun o H3 => o = none ∧ H3 = Hb) Ib ⟨rfl, rfl⟩) fun vu sc ⟨u, Hc, Ic, pu, eu, ec⟩ => ?_
  subst eu ec
  refine thn (hst.run pins sc σ Hc (fun o H4 => o = some (-1) ∧ H4 = Hc) Ic ⟨1, rfl, -1, rfl, rfl, rfl⟩) fun vs sd ⟨o, Hd, Id, ps, eo, ed⟩ => ?_
  subst eo ed
  have Ie : Inv X pins σ Hd { sd with heap := sd.heap.push { cls := .type "slice", data := .fields #[vl, vu, vs] } } := Id.kept (t' := sd.toks) fun b ob z => Heap.get?_push_of_some _ z
  show wpAny (model X.prog X.w) X.A (subscriptTail e (.Slice none none (some (.UnaryOp .USub (.Constant (.int 1) k p1) p2)) p3) (.ref a) (.ref sd.heap.objs.size)) (EP X pins σ Q) X.xe { sd with heap := sd.heap.push { cls := .type "slice", data := .fields #[vl, vu, vs] } }
  rcases hx with ⟨hx, q⟩ | ⟨hx, q⟩
  · obtain ⟨its, r, it, hz⟩ := Ie.list hx
    have hlen := r.length
    refine tail_any (ops := [.ref a, .ref sd.heap.objs.size]) it.isList.typeIs (PySem.slot_list_getitem.lookup) ?_ (by with_unfolding_all rfl)
    refine wpAny_getItem_list_slice it.isList (Heap.IsSliceOf.new _ vl vu vs) pl pu ps (by decide) ?_ (by rw [List.size_toArray]; omega)
    rw [PySem.W.krv_pick]
    refine ⟨.ref _, _, Ie.laid (t' := sd.toks) (o := .lst xs.reverse) (fun b ob z => Heap.get?_push_of_some _ z) (Nat.le_refl _) ?_, rfl, q _ (Ie.hok.fresh (Nat.le_refl _))⟩
    exact ⟨by rw [List.length_reverse]; exact hz, _, 0, r.reverse, Heap.get?_push_size _ rfl⟩
  · obtain ⟨its, r, it, hz⟩ := Ie.tuple hx
    cases pl
    cases pu
    cases ps with
    | int _ tk =>
      have hlen := r.length
      refine tail_any (ops := [.ref a, .ref sd.heap.objs.size]) it.typeIs (PyProof.Rows.slot_tuple_getitem.lookup) ?_ (by with_unfolding_all rfl)
      refine tup_back it (Heap.IsSliceOf.new _ .none .none (.int (-1) tk)) ?_ (by rw [List.size_toArray]; omega)
      refine ⟨.ref _, _, Ie.laid (t' := sd.toks) (o := .tup xs.reverse) (fun b ob z => Heap.get?_push_of_some _ z) (Nat.le_refl _) ?_, rfl, q _ (Ie.hok.fresh (Nat.le_refl _))⟩
      exact ⟨by rw [List.length_reverse]; exact hz, _, r.reverse, IsTup.new _ _⟩
def opBack : UnV := fun p Q => match p with
  | .tup xs => Q (.val (.tup xs.reverse))
  | .lst xs => Q (.own xs.reverse)
  | _ => False
theorem ve_back {e : Expr} {we : WE} {k : Nat} {p1 p2 p3 pos : Pos} (he : VE X e we) : VE X (.Subscript e (.Slice none none (some (.UnaryOp .USub (.Constant (.int 1) k p1) p2)) p3) pos) (wUn opBack we) := by
  refine PE.imp (pe_back he) ?_
  rintro σ H Q ⟨hO, Fr, F, ρ, Qv, R, h, k⟩
  refine eE.pv (Qv := fun p ρ1 => opBack p fun r => Qv r ρ1) R h fun x H1 F1 p ρ1 s1 R1 rp h1 => ?_
  unfold opBack at h1
  split at h1
  · cases rp with
    | tup e rs =>
      refine ⟨_, _, rfl, .inr ⟨Same.sqt R1.sub e, fun q hq => ?_⟩⟩
      have hF := R1.nF hq
      exact k _ _ _ (.val (.tup _)) ρ1 (s1.trans (same_upd hF)) (R1.laid hq) (Rep.tup (SqT.of upd_same) (rs.reverse.mono (same_upd hF))) h1
  · cases rp with
    | lst e rs =>
      exact ⟨_, _, rfl, .inl ⟨.inl (.inl (R1.sub _ _ e)), fun q hq => k _ _ F1 (.own _) ρ1 s1 (R1.fresh hq) (R1.freshOwn hq rs.reverse) h1⟩⟩
  · exact h1.elim
end
end VE
end
section
set_option Elab.async false
set_option linter.all false
set_option maxRecDepth 100000
namespace VE
open PySem PySem.Spec PyProof.Rows L2
/-! ### looks at an owned list that leave it owned -/
def wIxN (i : Nat) (wi : WE) : WE := fun ρ Q => match look ρ i with
  | .own _ => wi ρ fun r ρ1 => match r.pv with
    | .int k => match look ρ1 i with
      | .own xs => ∃ x, atI xs k = some x ∧ Q (.val x) ρ1
      | _ => False
    | _ => False
  | _ => wBin opIx (wVar i) wi ρ Q
def wLenN (i : Nat) : WE := fun ρ Q => match look ρ i with
  | .own xs => Q (.val (.int xs.length)) ρ
  | _ => wCall opLen (wCons (wVar i) wNil) ρ Q
section
variable {X : Cx} {pos : Pos}
theorem ve_ixN {i : Nat} {x : Str} {p : Pos} {b : Expr} {wi : WE} (hN : X.N[i]? = some x) (hv : Vis X.env.scope x) (hb : VE X b wi) (hd : (x == ("__debug__" : Str)) = false := by decide) (hcd : (x == ("__classdict__" : Str)) = false := by decide)
    (hs : PlainIx b := by intro _ _; rfl) : VE X (.Subscript (.Name x p) b pos) (wIxN i wi) := by
  constructor
  intro pins s σ H Q I h
  obtain ⟨hO, Fr, F, ρ, Qv, R, h, k⟩ := h
  unfold wIxN at h
  split at h
  · rename_i xs0 hx
    refine (pe_ix (X := X) (pos := pos) ix_lt (pe_var hN hv hd hcd) hb hs).run pins s σ H Q I ?_
    obtain ⟨a, vs0, e0, o0⟩ := R.own i xs0 (look_get hx (by intro z; cases z))
    refine ⟨_, e0, ?_⟩
    refine eE.pv (Qv := fun q ρ1 => match q with
      | .int k => match look ρ1 i with
        | .own xs => ∃ y, atI xs k = some y ∧ Qv (.val y) ρ1
        | _ => False
      | _ => False) R h fun y H1 F1 q ρ1 s1 R1 rq h1 => ?_
    split at h1
    · cases rq
      split at h1
      · rename_i kk xs hx1
        obtain ⟨z, hz, hq⟩ := h1
        obtain ⟨a', vs, e1, o⟩ := R1.own i xs (look_get hx1 (by intro z; cases z))
        rw [e0] at e1; cases e1
        obtain ⟨v, e2, rv⟩ := o.rep.atI hz
        exact .inl ⟨_, _, _, v, rfl, rfl, .inl (.inl o.at_), e2, k v H1 F1 (.val z) ρ1 s1 R1 rv hq⟩
      · exact h1.elim
    · exact h1.elim
  · exact (ve_ix (X := X) (pos := pos) (ve_name hN hv hd hcd) hb hs).run pins s σ H Q I ⟨hO, Fr, F, ρ, Qv, R, h, k⟩
theorem ve_lenN {i : Nat} {x : Str} {p p2 : Pos} (hN : X.N[i]? = some x) (hv : Vis X.env.scope x) (hg : Gl X "len") (hm : X.mg "len" = none) (hd : (x == ("__debug__" : Str)) = false := by decide) (hcd : (x == ("__classdict__" : Str)) = false := by decide) :
    VE X (.Call (.Name "len" p) [.Name x p2] [] pos) (wLenN i) := by
  constructor
  intro pins s σ H Q I h
  obtain ⟨hO, Fr, F, ρ, Qv, R, h, k⟩ := h
  unfold wLenN at h
  split at h
  · rename_i xs hx
    refine (pe_callB call_lenA hg hm boot_len (pa_cons (pe_var hN hv hd hcd) pa_nil)).run pins s σ H Q I ?_
    obtain ⟨a, vs, e, o⟩ := R.own i xs (look_get hx (by intro z; cases z))
    exact ⟨_, e, .inl ⟨_, _, rfl, .inl (.inl (.inl o.at_)), by rw [o.rep.length]; exact k _ H F (.val (.int _)) ρ (Same.refl F) R (Rep.int _) h⟩⟩
  · exact (ve_callB call_lenA ser_len hg hm boot_len (va_cons (ve_name hN hv hd hcd) va_nil)).run pins s σ H Q I ⟨hO, Fr, F, ρ, Qv, R, h, k⟩
end
end VE
end
section
set_option Elab.async false
set_option linter.all false
set_option maxRecDepth 100000
set_option maxHeartbeats 4000000
open PySem PySem.Spec PyProof.Rows L2 VE
local macro_rules | `(tactic| walk_at "vx") => `(tactic| simp (config := {decide := false}) only [wVar, wC, wBin, wUn, wTst, wAndT, wOrT, wNotT, wAndV, wOrV, wNotV, wIf, wNil, wCons, wTup, wLst, wSl, wNoPart, wPart, wCall, wCallN, wNext, wSeq, wBreak, wCont, wNever, wRet, wRetN, wRet0, wIfS, wDrop, wSet, wPar, wPar3, wgName, wgNil, wgCons, wgTup, wgIx, wAsg, wAug, wAppend, wInsert, bNil, bCons, wParB, wParB3, wAsgB, sets, VM.exB2, VM.exB3, VM.zipP_cons, VM.zipP_nil, VM.compL_cons, VM.compL_nil, wiSeq, wiRng1, wiRng2, wiZip, wiEnum, wFor, wYes, wComp, wChain, wipeR, backR, look, VM.ex2, VM.ex3, VM.pv_val, VM.pv_own, VM.noOwn_eq, VM.noOwnB, List.all_cons, List.all_nil, Bool.and_self, opInt, opSub, opMod, opFdiv, opPow, opCmpI, opLt, opLe, opGt, opGe, opAdd, opMul, opNeg, opLen, opAbs, opIntC, opMax2, opMin2, opList, opTuple, opSl, opBack, wIxN, wLenN, startR,
  List.set_cons_zero, List.set_cons_succ, List.length_cons, List.length_nil, List.map_cons, List.map_nil, List.replicate_succ, List.replicate_zero, List.nil_append, List.cons_append, Nat.zero_add, Nat.reduceAdd, Nat.reduceSub, if_true, if_false, true_and, and_true, Bool.false_eq_true, ite_true, ite_false, List.cons.injEq, PV.int.injEq, PV.bl.injEq, exists_eq_left, exists_eq_left', exists_and_left, and_self, reduceCtorEq, Bool.not_true, Bool.not_false, ite_self])

namespace VM
theorem ex2 {A B : PV} {C : PV → PV → Prop} : (∃ p q, (A = p ∧ B = q) ∧ C p q) = C A B := by
  apply propext; constructor
  · rintro ⟨_, _, ⟨rfl, rfl⟩, h⟩; exact h
  · intro h; exact ⟨_, _, ⟨rfl, rfl⟩, h⟩
theorem ex3 {A B D : PV} {C : PV → PV → PV → Prop} : (∃ p q r, (A = p ∧ B = q ∧ D = r) ∧ C p q r) = C A B D := by
  apply propext; constructor
  · rintro ⟨_, _, _, ⟨rfl, rfl, rfl⟩, h⟩; exact h
  · intro h; exact ⟨_, _, _, ⟨rfl, rfl, rfl⟩, h⟩
theorem zipP_cons {x y : PV} {xs ys : List PV} : zipP (x :: xs) (y :: ys) = .tup [x, y] :: zipP xs ys := rfl
theorem zipP_nil {ys : List PV} : zipP [] ys = [] := rfl
theorem zipP_nil' {ys : List PV} : zipP ys [] = [] := by cases ys <;> rfl
theorem compL_nil {g : WG} {wt : WT} {we : WE} {vs : List Nat} {acc : List PV} {ρ : Rho} {Q : List PV → Rho → Prop} : compL g wt we vs [] acc ρ Q = Q acc ρ := rfl
theorem compL_cons {g : WG} {wt : WT} {we : WE} {vs : List Nat} {p : PV} {ps acc : List PV} {ρ : Rho} {Q : List PV → Rho → Prop} : compL g wt we vs (p :: ps) acc ρ Q = g p ρ fun ρ1 => wt ρ1 fun b ρ2 =>
      if b = true then we ρ2 fun r ρ3 => acc.length < sizeLine ∧ compL g wt we vs ps (acc ++ [r.pv]) (wipeR ρ3 vs) Q else compL g wt we vs ps acc (wipeR ρ2 vs) Q := rfl
theorem exB2 {A B : Sl} {C : Sl → Sl → Prop} : (∃ p q, (A = p ∧ B = q) ∧ C p q) = C A B := by
  apply propext; constructor
  · rintro ⟨_, _, ⟨rfl, rfl⟩, h⟩; exact h
  · intro h; exact ⟨_, _, ⟨rfl, rfl⟩, h⟩
theorem exB3 {A B D : Sl} {C : Sl → Sl → Sl → Prop} : (∃ p q r, (A = p ∧ B = q ∧ D = r) ∧ C p q r) = C A B D := by
  apply propext; constructor
  · rintro ⟨_, _, _, ⟨rfl, rfl, rfl⟩, h⟩; exact h
  · intro h; exact ⟨_, _, _, ⟨rfl, rfl, rfl⟩, h⟩
theorem pv_val {p : PV} : (Sl.val p).pv = p := rfl
theorem pv_own {xs : List PV} : (Sl.own xs).pv = .lst xs := rfl
def noOwnB (ρ : Rho) (vs : List Nat) : Bool := vs.all fun i => match look ρ i with | .own _ => false | _ => true
theorem look_of : ∀ {ρ : Rho} {i : Nat} {r : Sl}, ρ[i]? = some r → look ρ i = r
  | [], _, _, h => by simp at h
  | r :: _, 0, _, h => by simpa [look] using h
  | _ :: t, i + 1, r, h => by simp [look]; exact look_of (by simpa using h)
theorem noOwn_eq {ρ : Rho} {vs : List Nat} : NoOwn ρ vs = (noOwnB ρ vs = true) := by
  apply propext
  unfold noOwnB NoOwn
  rw [List.all_eq_true]
  constructor
  · intro h i hi
    split
    · rename_i xs e
      exact absurd (look_get e (by intro z; cases z)) (h i hi xs)
    · rfl
  · intro h i hi xs e
    have := h i hi
    rw [look_of e] at this
    cases this
/-! ### loops -/
theorem compL_ind {g : WG} {wt : WT} {we : WE} {vs : List Nat} {Q : List PV → Rho → Prop} {J : List PV → List PV → Rho → Prop}
    (hs : ∀ x xs acc ρ, J (x :: xs) acc ρ → ∀ N : List PV → Rho → Prop, (∀ acc' ρ', J xs acc' ρ' → N acc' ρ') → g x ρ fun ρ1 => wt ρ1 fun b ρ2 => if b = true then we ρ2 fun r ρ3 => acc.length < sizeLine ∧ N (acc ++ [r.pv]) (wipeR ρ3 vs) else N acc (wipeR ρ2 vs))
    (he : ∀ acc ρ, J [] acc ρ → Q acc ρ) : ∀ xs acc ρ, J xs acc ρ → compL g wt we vs xs acc ρ Q
  | [], acc, ρ, h => he acc ρ h
  | x :: xs, acc, ρ, h => hs x xs acc ρ h (fun acc' ρ' => compL g wt we vs xs acc' ρ' Q) fun acc' ρ' h' => compL_ind hs he xs acc' ρ' h'
theorem forL_ind {g : WG} {wb : WS} {D : EndsV} {J : List PV → Rho → Prop}
    (hs : ∀ x xs ρ, J (x :: xs) ρ → ∀ N : Rho → Prop, (∀ ρ', J xs ρ' → N ρ') → g x ρ fun ρ1 => wb { D with nx := N, ct := N, bk := D.nx } ρ1)
    (he : ∀ ρ, J [] ρ → D.nx ρ) : ∀ xs ρ, J xs ρ → forL g wb xs D ρ
  | [], ρ, h => he ρ h
  | x :: xs, ρ, h => hs x xs ρ h (fun ρ' => forL g wb xs D ρ') fun ρ' h' => forL_ind hs he xs ρ' h'
theorem whileN_ind {t : WT} {wb : WS} {D : EndsV} {J : Nat → Rho → Prop}
    (hs : ∀ n ρ, J n ρ → ∀ N : Rho → Prop, (∀ m ρ', m < n → J m ρ' → N ρ') → t ρ fun k ρ1 => if k = true then wb { D with nx := N, ct := N, bk := D.nx } ρ1 else D.nx ρ1) :
    ∀ n m ρ, m ≤ n → J m ρ → whileN t wb (n + 1) D ρ
  | 0, m, ρ, hm, h => hs m ρ h _ fun m' ρ' l _ => absurd l (by omega)
  | n + 1, m, ρ, hm, h => hs m ρ h _ fun m' ρ' l h' => whileN_ind hs n m' ρ' (by omega) h'
theorem wWhile_ind {t : WT} {wb : WS} {D : EndsV} (J : Nat → Rho → Prop) {ρ : Rho} (n : Nat) (h : J n ρ)
    (hs : ∀ n ρ, J n ρ → ∀ N : Rho → Prop, (∀ m ρ', m < n → J m ρ' → N ρ') → t ρ fun k ρ1 => if k = true then wb { D with nx := N, ct := N, bk := D.nx } ρ1 else D.nx ρ1) : wWhile t wb D ρ :=
  ⟨n + 1, whileN_ind hs n n ρ (Nat.le_refl _) h⟩
/-- each item to one item, the slots staying -/
theorem compL_map {α : Type} {g : WG} {we : WE} {vs : List Nat} {Q : List PV → Rho → Prop} {ρ : Rho} (emb f : α → PV) (ys : List α) (hl : ys.length ≤ 1000000)
    (h : ∀ y ∈ ys, ∀ (k : Prop) (N : PV → Rho → Prop), k → N (f y) ρ → g (emb y) ρ fun ρ1 => wYes ρ1 fun b ρ2 => if b = true then we ρ2 fun r ρ3 => k ∧ N r.pv (wipeR ρ3 vs) else False)
    (q : Q (ys.map f) ρ) : compL g wYes we vs (ys.map emb) [] ρ Q := by
  suffices H : ∀ (zs acc : List α), acc ++ zs = ys → compL g wYes we vs (zs.map emb) (acc.map f) ρ Q from H ys [] rfl
  intro zs
  induction zs with
  | nil => intro acc e; rw [List.append_nil] at e; subst e; exact q
  | cons z zs ih =>
    intro acc e
    have hz : z ∈ ys := by rw [← e]; simp
    have hk : (acc.map f).length < sizeLine := by
      rw [List.length_map, sizeLine_eq]
      have := congrArg List.length e
      simp at this; omega
    have := h z hz ((acc.map f).length < sizeLine) (fun p ρ' => compL g wYes we vs (zs.map emb) (acc.map f ++ [p]) ρ' Q) hk (by
      have := ih (acc ++ [z]) (by simpa using e)
      simpa using this)
    exact this

/-! ### kinds -/
def dat (p : PV) : Prop := VE.kindOf p ≠ none
def kI : PV → Bool | .int _ => true | .bl _ => true | _ => false
def kB : PV → Bool | .bl _ => true | _ => false
def kT : PV → Bool | .tup _ => true | _ => false
def kL : PV → Bool | .lst _ => true | .hnd => true | _ => false
def kS : PV → Bool | .str _ => true | _ => false
theorem isi_mk {p : PV} {n : String} {f : Bool} {Q : Sl → Prop} (h : dat p) (hf : ∀ k, VE.kindOf p = some k → kitB k n = some f) : opIsi [p, .ty n] Q = Q (.val (.bl f)) := by
  unfold dat at h
  obtain ⟨k, hk⟩ := Option.ne_none_iff_exists'.mp h
  apply propext
  show (∃ k b, VE.kindOf p = some k ∧ kitB k n = some b ∧ Q (.val (.bl b))) ↔ _
  constructor
  · rintro ⟨k', b, e1, e2, q⟩
    rw [hf k' e1] at e2; cases e2; exact q
  · intro q
    exact ⟨k, f, hk, hf k hk, q⟩
theorem isi_int {p : PV} {Q : Sl → Prop} (h : dat p) : opIsi [p, .ty "int"] Q = Q (.val (.bl (kI p))) := isi_mk h (by intro k e; cases p <;> (first | cases e | skip) <;> rfl)
theorem isi_bool {p : PV} {Q : Sl → Prop} (h : dat p) : opIsi [p, .ty "bool"] Q = Q (.val (.bl (kB p))) := isi_mk h (by intro k e; cases p <;> (first | cases e | skip) <;> rfl)
theorem isi_tuple {p : PV} {Q : Sl → Prop} (h : dat p) : opIsi [p, .ty "tuple"] Q = Q (.val (.bl (kT p))) := isi_mk h (by intro k e; cases p <;> (first | cases e | skip) <;> rfl)
theorem isi_list {p : PV} {Q : Sl → Prop} (h : dat p) : opIsi [p, .ty "list"] Q = Q (.val (.bl (kL p))) := isi_mk h (by intro k e; cases p <;> (first | cases e | skip) <;> rfl)
theorem isi_str {p : PV} {Q : Sl → Prop} (h : dat p) : opIsi [p, .ty "str"] Q = Q (.val (.bl (kS p))) := isi_mk h (by intro k e; cases p <;> (first | cases e | skip) <;> rfl)
theorem dat_int {i : Int} : dat (.int i) := by intro h; cases h
theorem dat_bl {i : Bool} : dat (.bl i) := by intro h; cases h
theorem dat_str {i : Str} : dat (.str i) := by intro h; cases h
theorem dat_tup {i : List PV} : dat (.tup i) := by intro h; cases h
theorem dat_lst {i : List PV} : dat (.lst i) := by intro h; cases h
theorem dat_non : dat .non := by intro h; cases h
theorem dat_dct : dat .dct0 := by intro h; cases h

/-! ### data with a Lean type -/
class Dm (α : Type) [DecidableEq α] where
  emb : α → PV
  dd : α → PyData
  toD_emb : ∀ a, toD (emb a) = some (dd a)
  can : ∀ a, (dd a).canLay0 = true
  dep : Nat
  dep_le : ∀ a, (dd a).depth ≤ dep
  eqv : ∀ a b, PyData.eqv (dd a) (dd b) = decide (a = b)
instance : Dm Int where
  emb := .int
  dd := .int
  toD_emb _ := rfl
  can _ := rfl
  dep := 0
  dep_le _ := Nat.le_refl _
  eqv a b := by simp only [PyData.eqv]; exact PySem.W.beq_decide a b
instance : Dm Bool where
  emb := .bl
  dd := .bool
  toD_emb _ := rfl
  can _ := rfl
  dep := 0
  dep_le _ := Nat.le_refl _
  eqv a b := by simp only [PyData.eqv]; exact PySem.W.beq_decide a b
section
variable {α β : Type} [DecidableEq α] [Dm α] [DecidableEq β] [Dm β]
theorem toDs_map : ∀ l : List α, toDs (l.map Dm.emb) = some (l.map Dm.dd)
  | [] => rfl
  | a :: l => by
    simp only [List.map_cons, toDs, Dm.toD_emb, toDs_map l]
theorem canAll_map : ∀ l : List α, PyData.canLayAll0 (l.map Dm.dd) = true
  | [] => rfl
  | a :: l => by simp only [List.map_cons, PyData.canLayAll0, Dm.can a, canAll_map l, Bool.and_self]
theorem depAll_map : ∀ l : List α, PyData.depthAll (l.map Dm.dd) ≤ Dm.dep α
  | [] => Nat.zero_le _
  | a :: l => by
    rw [List.map_cons, PyData.depthAll]
    exact Nat.max_le.mpr ⟨Dm.dep_le a, depAll_map l⟩
theorem eqvAll_map : ∀ xs ys : List α, PyData.eqvAll (xs.map Dm.dd) (ys.map Dm.dd) = decide (xs = ys)
  | [], [] => by simp [PyData.eqvAll]
  | [], _ :: _ => by simp [PyData.eqvAll]
  | _ :: _, [] => by simp [PyData.eqvAll]
  | x :: xs, y :: ys => by
    simp only [List.map_cons, PyData.eqvAll, Dm.eqv, eqvAll_map xs ys, List.cons.injEq]
    by_cases h1 : x = y <;> by_cases h2 : xs = ys <;> simp [h1, h2]
instance : Dm (List α) where
  emb l := .lst (l.map Dm.emb)
  dd l := .list (l.map Dm.dd)
  toD_emb l := toD_lst (toDs_map l)
  can l := by simp only [PyData.canLay0]; exact canAll_map l
  dep := Dm.dep α + 1
  dep_le l := by simp only [PyData.depth]; exact Nat.succ_le_succ (depAll_map l)
  eqv a b := by simp only [PyData.eqv]; exact eqvAll_map a b
/-- a tuple of any length, its items of one type -/
structure Tp (α : Type) where
  l : List α
  deriving DecidableEq
instance : Dm (Tp α) where
  emb t := .tup (t.l.map Dm.emb)
  dd t := .tuple (t.l.map Dm.dd)
  toD_emb t := toD_tup (toDs_map t.l)
  can t := by simp only [PyData.canLay0]; exact canAll_map t.l
  dep := Dm.dep α + 1
  dep_le t := by simp only [PyData.depth]; exact Nat.succ_le_succ (depAll_map t.l)
  eqv a b := by
    simp only [PyData.eqv]
    rw [eqvAll_map]
    exact decide_eq_decide.mpr ⟨fun e => by cases a; cases b; exact congrArg Tp.mk e, fun e => by rw [e]⟩
instance : Dm (α × β) where
  emb p := .tup [Dm.emb p.1, Dm.emb p.2]
  dd p := .tuple [Dm.dd p.1, Dm.dd p.2]
  toD_emb p := by simp only [toD, toDs, Dm.toD_emb, Option.map_some]
  can p := by simp only [PyData.canLay0, PyData.canLayAll0, Dm.can, Bool.and_self]
  dep := max (Dm.dep α) (Dm.dep β) + 1
  dep_le p := by
    simp only [PyData.depth, PyData.depthAll]
    have h1 := Dm.dep_le p.1
    have h2 := Dm.dep_le p.2
    omega
  eqv p q := by
    simp only [PyData.eqv, PyData.eqvAll, Dm.eqv, Bool.and_true]
    by_cases h1 : p.1 = q.1 <;> by_cases h2 : p.2 = q.2 <;> simp [h1, h2, Prod.ext_iff]
theorem shp_dm (a : α) (h : Dm.dep α ≤ 64) : shp (Dm.dd a) := by
  have := Dm.dep_le a
  unfold shp SeqAt.shaped
  rw [Dm.can a, decide_eq_true (Nat.le_trans this h)]; rfl
theorem eqv_str (x y : Str) : PyData.eqv (.str x) (.str y) = decide (x = y) := by simp only [PyData.eqv]; exact PySem.W.beq_decide x y
theorem toD_str_inv {p : PV} {x : Str} (h : p = .str x) {d : PyData} (e : toD p = some d) : d = .str x := by subst h; simp [toD] at e; exact e.symm
theorem eq_dm {a b : α} {Q : Sl → Prop} (h : Dm.dep α ≤ 64) : opEq (Dm.emb a) (Dm.emb b) Q = Q (.val (.bl (decide (a = b)))) := by
  apply propext
  constructor
  · rintro (⟨d, e, h1, h2, _, _, q⟩ | ⟨x, y, h1, h2, q⟩)
    · rw [Dm.toD_emb] at h1 h2; cases h1; cases h2
      rw [Dm.eqv] at q; exact q
    · have e1 := toD_str_inv h1 (Dm.toD_emb a)
      have e2 := toD_str_inv h2 (Dm.toD_emb b)
      rw [← eqv_str, ← e1, ← e2, Dm.eqv] at q; exact q
  · intro q
    exact .inl ⟨_, _, Dm.toD_emb a, Dm.toD_emb b, shp_dm a h, shp_dm b h, by rw [Dm.eqv]; exact q⟩
theorem ne_dm {a b : α} {Q : Sl → Prop} (h : Dm.dep α ≤ 64) : opNe (Dm.emb a) (Dm.emb b) Q = Q (.val (.bl (!decide (a = b)))) := by
  apply propext
  constructor
  · rintro (⟨d, e, h1, h2, _, _, q⟩ | ⟨x, y, h1, h2, q⟩)
    · rw [Dm.toD_emb] at h1 h2; cases h1; cases h2
      rw [Dm.eqv] at q; exact q
    · have e1 := toD_str_inv h1 (Dm.toD_emb a)
      have e2 := toD_str_inv h2 (Dm.toD_emb b)
      rw [← eqv_str, ← e1, ← e2, Dm.eqv] at q; exact q
  · intro q
    exact .inl ⟨_, _, Dm.toD_emb a, Dm.toD_emb b, shp_dm a h, shp_dm b h, by rw [Dm.eqv]; exact q⟩
theorem any_dm (x : α) : ∀ l : List α, ((l.map Dm.dd).any fun z => PyData.eqv z (Dm.dd x)) = decide (x ∈ l)
  | [] => by simp
  | a :: l => by
    simp only [List.map_cons, List.any_cons, Dm.eqv, any_dm x l, List.mem_cons]
    by_cases h1 : x = a
    · simp [h1]
    · have h2 : ¬ a = x := fun e => h1 e.symm
      simp [h1, h2]
theorem in_dm {x : α} {l : List α} {Q : Sl → Prop} (h : Dm.dep α ≤ 63) : opIn (Dm.emb x) (.lst (l.map Dm.emb)) Q = Q (.val (.bl (decide (x ∈ l)))) := by
  apply propext
  constructor
  · rintro ⟨d, ds, xs, h1, h2, h3, _, _, q⟩
    cases h2
    rw [Dm.toD_emb] at h1; cases h1
    rw [toDs_map] at h3; cases h3
    rw [any_dm] at q; exact q
  · intro q
    refine ⟨_, _, _, Dm.toD_emb x, rfl, toDs_map l, shp_dm x (by omega), ?_, by rw [any_dm]; exact q⟩
    exact shp_dm l (show Dm.dep α + 1 ≤ 64 by omega)
theorem notin_dm {x : α} {l : List α} {Q : Sl → Prop} (h : Dm.dep α ≤ 63) : opNotIn (Dm.emb x) (.lst (l.map Dm.emb)) Q = Q (.val (.bl (!decide (x ∈ l)))) := by
  apply propext
  constructor
  · rintro ⟨d, ds, xs, h1, h2, h3, _, _, q⟩
    cases h2
    rw [Dm.toD_emb] at h1; cases h1
    rw [toDs_map] at h3; cases h3
    rw [any_dm] at q; exact q
  · intro q
    refine ⟨_, _, _, Dm.toD_emb x, rfl, toDs_map l, shp_dm x (by omega), ?_, by rw [any_dm]; exact q⟩
    exact shp_dm l (show Dm.dep α + 1 ≤ 64 by omega)
end
/-! ### dots -/
abbrev Pt := Int × Int
def pt (p : Pt) : PV := .tup [.int p.1, .int p.2]
theorem pt_emb (p : Pt) : pt p = Dm.emb p := rfl
theorem pt_mk (a b : Int) : PV.tup [.int a, .int b] = pt (a, b) := rfl
theorem map_pt (l : List Pt) : l.map pt = l.map Dm.emb := List.map_congr_left fun _ _ => rfl
theorem eq_int {a b : Int} {Q : Sl → Prop} : opEq (.int a) (.int b) Q = Q (.val (.bl (decide (a = b)))) := eq_dm (α := Int) (by decide)
theorem ne_int {a b : Int} {Q : Sl → Prop} : opNe (.int a) (.int b) Q = Q (.val (.bl (!decide (a = b)))) := ne_dm (α := Int) (by decide)
theorem eq_bl {a b : Bool} {Q : Sl → Prop} : opEq (.bl a) (.bl b) Q = Q (.val (.bl (decide (a = b)))) := eq_dm (α := Bool) (by decide)
theorem ne_bl {a b : Bool} {Q : Sl → Prop} : opNe (.bl a) (.bl b) Q = Q (.val (.bl (!decide (a = b)))) := ne_dm (α := Bool) (by decide)
theorem eq_pt {a b : Pt} {Q : Sl → Prop} : opEq (pt a) (pt b) Q = Q (.val (.bl (decide (a = b)))) := eq_dm (α := Pt) (by decide)
theorem ne_pt {a b : Pt} {Q : Sl → Prop} : opNe (pt a) (pt b) Q = Q (.val (.bl (!decide (a = b)))) := ne_dm (α := Pt) (by decide)
theorem eq_lpt {a b : List Pt} {Q : Sl → Prop} : opEq (.lst (a.map pt)) (.lst (b.map pt)) Q = Q (.val (.bl (decide (a = b)))) := eq_dm (α := List Pt) (by decide)
theorem ne_lpt {a b : List Pt} {Q : Sl → Prop} : opNe (.lst (a.map pt)) (.lst (b.map pt)) Q = Q (.val (.bl (!decide (a = b)))) := ne_dm (α := List Pt) (by decide)
theorem eq_tpt {a b : List Pt} {Q : Sl → Prop} : opEq (.tup (a.map pt)) (.tup (b.map pt)) Q = Q (.val (.bl (decide (a = b)))) := by
  have h := eq_dm (α := Tp Pt) (a := ⟨a⟩) (b := ⟨b⟩) (Q := Q) (by decide)
  simp only [Tp.mk.injEq] at h; exact h
theorem ne_tpt {a b : List Pt} {Q : Sl → Prop} : opNe (.tup (a.map pt)) (.tup (b.map pt)) Q = Q (.val (.bl (!decide (a = b)))) := by
  have h := ne_dm (α := Tp Pt) (a := ⟨a⟩) (b := ⟨b⟩) (Q := Q) (by decide)
  simp only [Tp.mk.injEq] at h; exact h
theorem eq_str {a b : Str} {Q : Sl → Prop} : opEq (.str a) (.str b) Q = Q (.val (.bl (decide (a = b)))) := by
  apply propext
  constructor
  · rintro (⟨d, e, h1, h2, _, _, q⟩ | ⟨x, y, h1, h2, q⟩)
    · cases h1; cases h2; rw [eqv_str] at q; exact q
    · cases h1; cases h2; exact q
  · intro q; exact .inr ⟨_, _, rfl, rfl, q⟩
theorem ne_str {a b : Str} {Q : Sl → Prop} : opNe (.str a) (.str b) Q = Q (.val (.bl (!decide (a = b)))) := by
  apply propext
  constructor
  · rintro (⟨d, e, h1, h2, _, _, q⟩ | ⟨x, y, h1, h2, q⟩)
    · cases h1; cases h2; rw [eqv_str] at q; exact q
    · cases h1; cases h2; exact q
  · intro q; exact .inr ⟨_, _, rfl, rfl, q⟩
theorem in_pt {a : Pt} {l : List Pt} {Q : Sl → Prop} : opIn (pt a) (.lst (l.map pt)) Q = Q (.val (.bl (decide (a ∈ l)))) := by rw [map_pt, pt_emb]; exact (in_dm (α := Pt) (by decide)).trans (by congr)
theorem notin_pt {a : Pt} {l : List Pt} {Q : Sl → Prop} : opNotIn (pt a) (.lst (l.map pt)) Q = Q (.val (.bl (!decide (a ∈ l)))) := by rw [map_pt, pt_emb]; exact (notin_dm (α := Pt) (by decide)).trans (by congr)
theorem ix_tup' {xs : List PV} {i : Int} {x : PV} {Q : Sl → Prop} (h : L2.atI xs i = some x) : opIx (.tup xs) (.int i) Q = Q (.val x) := by
  apply propext
  show (∃ y, L2.atI xs i = some y ∧ Q (.val y)) ↔ _
  rw [h]; simp
theorem ix_lst' {xs : List PV} {i : Int} {x : PV} {Q : Sl → Prop} (h : L2.atI xs i = some x) : opIx (.lst xs) (.int i) Q = Q (.val x) := by
  apply propext
  show (∃ y, L2.atI xs i = some y ∧ Q (.val y)) ↔ _
  rw [h]; simp
theorem ix_pt0 {p : Pt} {Q : Sl → Prop} : opIx (pt p) (.int 0) Q = Q (.val (.int p.1)) := ix_tup' rfl
theorem ix_pt1 {p : Pt} {Q : Sl → Prop} : opIx (pt p) (.int 1) Q = Q (.val (.int p.2)) := ix_tup' rfl
theorem atI_nat {xs : List PV} {n : Nat} {x : PV} (h : xs[n]? = some x) : L2.atI xs (n : Int) = some x := by
  have hn : n < xs.length := (List.getElem?_eq_some_iff.mp h).1
  unfold L2.atI L2.ixN
  simp [hn]
  exact (List.getElem?_eq_some_iff.mp h).2
theorem ix_t0 {x : PV} {xs : List PV} {Q : Sl → Prop} : opIx (.tup (x :: xs)) (.int 0) Q = Q (.val x) := ix_tup' (atI_nat (n := 0) rfl)
theorem ix_t1 {x y : PV} {xs : List PV} {Q : Sl → Prop} : opIx (.tup (x :: y :: xs)) (.int 1) Q = Q (.val y) := ix_tup' (atI_nat (n := 1) rfl)
theorem ix_t2 {x y z : PV} {xs : List PV} {Q : Sl → Prop} : opIx (.tup (x :: y :: z :: xs)) (.int 2) Q = Q (.val z) := ix_tup' (atI_nat (n := 2) rfl)
theorem ix_l0 {x : PV} {xs : List PV} {Q : Sl → Prop} : opIx (.lst (x :: xs)) (.int 0) Q = Q (.val x) := ix_lst' (atI_nat (n := 0) rfl)
theorem ix_l1 {x y : PV} {xs : List PV} {Q : Sl → Prop} : opIx (.lst (x :: y :: xs)) (.int 1) Q = Q (.val y) := ix_lst' (atI_nat (n := 1) rfl)
theorem ix_l2 {x y z : PV} {xs : List PV} {Q : Sl → Prop} : opIx (.lst (x :: y :: z :: xs)) (.int 2) Q = Q (.val z) := ix_lst' (atI_nat (n := 2) rfl)
theorem len_pt {p : Pt} {Q : Sl → Prop} : opLen [pt p] Q = Q (.val (.int 2)) := rfl
theorem kT_pt {p : Pt} : kT (pt p) = true := rfl
theorem kL_pt {p : Pt} : kL (pt p) = false := rfl
theorem kI_pt {p : Pt} : kI (pt p) = false := rfl
theorem kB_pt {p : Pt} : kB (pt p) = false := rfl
theorem dat_pt {p : Pt} : dat (pt p) := dat_tup
theorem is_non {p : PV} {Q : Sl → Prop} : opIs p .non Q = Q (.val (.bl (match p with | .non => true | _ => false))) := by
  apply propext; unfold opIs; cases p <;> simp [opIs]
theorem isnot_non {p : PV} {Q : Sl → Prop} : opIsNot p .non Q = Q (.val (.bl (match p with | .non => false | _ => true))) := by
  apply propext; unfold opIsNot; cases p <;> simp [opIsNot]
theorem all_bl {bs : List Bool} {Q : Sl → Prop} : opAll [.lst (bs.map PV.bl)] Q = Q (.val (.bl (bs.all id))) := by
  apply propext
  constructor
  · rintro ⟨cs, e, q⟩
    have : bs.map PV.bl = cs.map PV.bl := by injection e with e; injection e
    have e2 : bs = cs := by
      have inj : ∀ (a b : List Bool), a.map PV.bl = b.map PV.bl → a = b := by
        intro a
        induction a with
        | nil => intro b h; cases b with | nil => rfl | cons _ _ => cases h
        | cons x a ih => intro b h; cases b with | nil => cases h | cons y b => injection h with h1 h2; injection h1 with h1; rw [h1, ih b h2]
      exact inj _ _ this
    rw [e2]; exact q
  · intro q; exact ⟨bs, rfl, q⟩
theorem any_bl {bs : List Bool} {Q : Sl → Prop} (q : Q (.val (.bl (bs.any id)))) : opAny [.lst (bs.map PV.bl)] Q := ⟨bs, rfl, q⟩
theorem sum_int {bs : List Int} {Q : Sl → Prop} (q : Q (.val (.int bs.sum))) : opSum [.lst (bs.map PV.int)] Q := ⟨bs, rfl, q⟩
theorem sz {n : Nat} (h : n ≤ 1000000) : n ≤ sizeLine := by rw [sizeLine_eq]; omega
theorem szb {n : Nat} (h : Nat.ble n 1000000 = true) : n ≤ sizeLine := by have := Nat.le_of_ble_eq_true h; rw [sizeLine_eq]; omega
theorem szlb {n : Nat} (h : Nat.ble (n + 1) 1000000 = true) : n < sizeLine := by have := Nat.le_of_ble_eq_true h; rw [sizeLine_eq]; omega
theorem szl {n : Nat} (h : n ≤ 1000000) : n < sizeLine := by rw [sizeLine_eq]; omega
theorem divok {i j : Int} (h : j ≠ 0) (h1 : -1073741824 < j) (h2 : j < 1073741824) : DivOk i j := .inl ⟨h, by omega⟩
theorem cmul_l {a b : Int} (h1 : -1000000000000000000 < a) (h2 : a < 1000000000000000000) : CMul a b := .inl ⟨by omega, by omega⟩
theorem cmul_r {a b : Int} (h1 : -1000000000000000000 < b) (h2 : b < 1000000000000000000) : CMul a b := .inr ⟨by omega, by omega⟩
end VM
end
section
set_option Elab.async false
set_option linter.all false
set_option maxRecDepth 100000
set_option maxHeartbeats 4000000
open PySem PySem.Spec PyProof.Rows L2 VE
local macro_rules | `(tactic| walk_at "vx") => `(tactic| simp (config := {decide := false}) only [wVar, wC, wBin, wUn, wTst, wAndT, wOrT, wNotT, wAndV, wOrV, wNotV, wIf, wNil, wCons, wTup, wLst, wSl, wNoPart, wPart, wCall, wCallN, wNext, wSeq, wBreak, wCont, wNever, wRet, wRetN, wRet0, wIfS, wDrop, wSet, wPar, wPar3, wgName, wgNil, wgCons, wgTup, wgIx, wAsg, wAug, wAppend, wInsert, bNil, bCons, wParB, wParB3, wAsgB, sets, VM.exB2, VM.exB3, VM.zipP_cons, VM.zipP_nil, VM.compL_cons, VM.compL_nil, wiSeq, wiRng1, wiRng2, wiZip, wiEnum, wFor, wYes, wComp, wChain, wipeR, backR, look, VM.ex2, VM.ex3, VM.eq_int, VM.ne_int, VM.ix_t0, VM.ix_t1, VM.ix_t2, VM.ix_l0, VM.ix_l1, VM.ix_l2, VM.ix_pt0, VM.ix_pt1, VM.eq_bl, VM.ne_bl, VM.eq_str, VM.ne_str, VM.is_non, VM.isnot_non, decide_true, decide_false, decide_eq_true_eq, eq_self, VM.pv_val, VM.pv_own, VM.noOwn_eq, VM.noOwnB, List.all_cons, List.all_nil, Bool.and_self, opInt, opSub, opMod, opFdiv, opPow, opCmpI, opLt, opLe, opGt, opGe, opAdd, opMul, opNeg, opLen, opAbs, opIntC, opMax2, opMin2, opList, opTuple, opSl, opBack, wIxN, wLenN, startR,
  List.set_cons_zero, List.set_cons_succ, List.length_cons, List.length_nil, List.map_cons, List.map_nil, List.replicate_succ, List.replicate_zero, List.nil_append, List.cons_append, Nat.zero_add, Nat.reduceAdd, Nat.reduceSub, if_true, if_false, true_and, and_true, Bool.false_eq_true, ite_true, ite_false, List.cons.injEq, PV.int.injEq, PV.bl.injEq, exists_eq_left, exists_eq_left', exists_and_left, and_self, reduceCtorEq, Bool.not_true, Bool.not_false, ite_self])
local macro_rules | `(tactic| walk_at "vc") => `(tactic| repeat (with_reducible refine And.intro ?_ ?_; focus first | omega | with_reducible rfl | exact VM.szb rfl | exact VM.szlb rfl | exact VM.cmul_l (by omega) (by omega) | exact VM.cmul_r (by omega) (by omega) | exact VM.divok (by omega) (by omega) (by omega) | omega))

namespace VM
def isI : PV → Bool | .int _ => true | _ => false
theorem isI_eq {p : PV} : (if kI p = true then !kB p else false) = isI p := by cases p <;> rfl
def within (a b : Int) : PV → Bool | .int i => decide (a ≤ i) && decide (i ≤ b) | _ => false
def isDot : PV → Bool | .tup [x, y] => within (-10000) 10000 x && within (-10000) 10000 y | _ => false
def dat2 : PV → Prop | .tup xs => ∀ x ∈ xs, dat x | p => dat p
theorem dat2_dat {p : PV} (h : dat2 p) : dat p := by cases p <;> first | exact h | exact dat_tup
theorem dat2_pt {p : Pt} : dat2 (pt p) := by
  intro x hx
  rcases List.mem_cons.mp hx with rfl | hx
  · exact dat_int
  · rw [List.mem_singleton.mp hx]; exact dat_int
def okPt (p : Pt) : Bool := (decide (-10000 ≤ p.1) && decide (p.1 ≤ 10000)) && (decide (-10000 ≤ p.2) && decide (p.2 ≤ 10000))
theorem isDot_pt {p : Pt} : isDot (pt p) = okPt p := rfl
theorem okPt_iff {p : Pt} : okPt p = true ↔ -10000 ≤ p.1 ∧ p.1 ≤ 10000 ∧ -10000 ≤ p.2 ∧ p.2 ≤ 10000 := by
  unfold okPt; simp only [Bool.and_eq_true, decide_eq_true_eq, and_assoc]
theorem isDot_ex {p : PV} (h : isDot p = true) : ∃ q : Pt, p = pt q ∧ okPt q = true := by
  unfold isDot at h
  split at h
  · rename_i x y
    have e := h
    rw [Bool.and_eq_true] at h
    cases x with
    | int i => cases y with
      | int j => exact ⟨(i, j), rfl, e⟩
      | _ => exact absurd h.2 Bool.false_ne_true
    | _ => exact absurd h.1 Bool.false_ne_true
  · cases h
abbrev SV (w : WS) (n : Nat) (S : SpV) (m : Nat) : Prop := ∀ (ps : List PV) (Q : Sl → Prop), ps.length = m → S ps Q → w { nx := fun _ => Q (.val .non), rt := Q } (startR n ps)
def S_is_integer : SpV := fun ps Q => ∃ p, ps = [p] ∧ dat p ∧ Q (.val (.bl (isI p)))
def w_is_integer : WS := (wRet (wAndV (wCall opIsi (wCons (wVar 0) (wCons (wC (.ty "int")) wNil))) (wNotV (wCall opIsi (wCons (wVar 0) (wCons (wC (.ty "bool")) wNil))))))
theorem v_is_integer : SV w_is_integer 1 S_is_integer 1 := by
  rintro ps Q - ⟨p, rfl, hd, q⟩
  unfold w_is_integer
  walk_at "vx"
  simp only [isi_int hd, isi_bool hd]
  rw [← isI_eq] at q
  revert q; cases kI p <;> simp
def S_is_within : SpV := fun ps Q => ∃ p a b, ps = [p, .int a, .int b] ∧ dat p ∧ Q (.val (.bl (within a b p)))
def w_is_within (S_is_integer : SpV) : WS := (wRet (wAndV (wCallN 1 S_is_integer (wCons (wVar 0) wNil)) (wChain opLe opLe (wVar 1) (wVar 0) (wVar 2))))
theorem v_is_within : SV (w_is_within S_is_integer) 3 S_is_within 3 := by
  rintro ps Q - ⟨p, a, b, rfl, hd, q⟩
  unfold w_is_within
  walk_at "vx"
  refine ⟨p, rfl, hd, ?_⟩
  cases p with
  | int i =>
    simp only [isI, within] at q ⊢
    by_cases h1 : a ≤ i <;> simp [h1] at q ⊢ <;> exact q
  | _ => exact q
def S_is_dot : SpV := fun ps Q => ∃ p, ps = [p] ∧ dat2 p ∧ Q (.val (.bl (isDot p)))
def w_is_dot (S_is_within : SpV) : WS := (wSeq (wIfS (wOrT (wNotT (wTst (wCall opIsi (wCons (wVar 0) (wCons (wC (.ty "tuple")) wNil))))) (wTst (wBin opNe (wCall opLen (wCons (wVar 0) wNil)) (wC (.int 2))))) (wRet (wC (.bl false))) wNext) (wRet (wCall opAll (wCons (wComp (wiSeq (wVar 0)) (wgName 1) wYes (wCallN 3 S_is_within (wCons (wVar 1) (wCons (wUn opNeg (wC (.int 10000))) (wCons (wC (.int 10000)) wNil)))) [1]) wNil))))
theorem v_is_dot : SV (w_is_dot S_is_within) 2 S_is_dot 1 := by
  rintro ps Q - ⟨p, rfl, hd, q⟩
  unfold w_is_dot
  walk_at "vx"
  simp only [isi_tuple (dat2_dat hd)]
  cases p with
  | tup xs =>
    simp only [kT, ne_int]
    walk_at "vx"
    match xs, hd, q with
    | [x, y], hd, q =>
      simp only [compL]
      walk_at "vx"
      rw [if_neg (by decide)]
      refine ⟨x, _, _, rfl, hd x (by simp), szl (by decide), y, _, _, rfl, hd y (by simp), szl (by decide), ?_⟩
      exact ⟨[within (-10000) 10000 x, within (-10000) 10000 y], rfl, by simpa [isDot] using q⟩
    | [], hd, q => exact q
    | [x], hd, q => exact q
    | x :: y :: z :: xs, hd, q =>
      have e : ¬ ((xs.length : Int) + 1 + 1 + 1 = 2) := by omega
      simp [e]
      exact q
  | _ => exact q
/-! ### the greatest divisor -/
theorem gcd_step {a b : Int} : Int.gcd b (a.fmod b) = Int.gcd a b := by
  have e : a.fmod b = a - b * (a.fdiv b) := Int.fmod_def a b
  rw [e, Int.gcd_comm, Int.sub_eq_add_neg, ← Int.mul_neg, Int.gcd_add_mul_left_left]
def S_common_divisor : SpV := fun ps Q => ∃ a b : Int, ps = [.int a, .int b] ∧ Q (.val (.int (Int.gcd a b)))
def w_common_divisor : WS := (wSeq (wPar 0 1 (wCons (wCall opAbs (wCons (wVar 0) wNil)) (wCons (wCall opAbs (wCons (wVar 1) wNil)) wNil))) (wSeq (wWhile (wTst (wBin opGt (wVar 1) (wC (.int 0)))) (wPar 0 1 (wCons (wVar 1) (wCons (wBin opMod (wVar 0) (wVar 1)) wNil)))) (wRetN 0)))
theorem abs_nn (a : Int) : 0 ≤ (if a < 0 then -a else a) := by split <;> omega
theorem gcd_abs (a b : Int) : Int.gcd (if a < 0 then -a else a) (if b < 0 then -b else b) = Int.gcd a b := by
  split <;> split <;> simp
theorem v_common_divisor : SV w_common_divisor 2 S_common_divisor 2 := by
  rintro ps Q - ⟨a, b, rfl, q⟩
  unfold w_common_divisor
  walk_at "vx"
  refine wWhile_ind (fun n ρ => ∃ x y : Int, ρ = [.val (.int x), .val (.int y)] ∧ 0 ≤ x ∧ 0 ≤ y ∧ y.toNat = n ∧ Int.gcd x y = Int.gcd a b) _ ⟨_, _, rfl, abs_nn _, abs_nn _, rfl, gcd_abs a b⟩ ?_
  rintro n ρ ⟨x, y, rfl, hx, hy, rfl, hg⟩ N hN
  walk_at "vx"
  by_cases h : 0 < y
  · simp only [h, decide_true, if_true]
    refine ⟨by omega, hN (x.fmod y).toNat _ ?_ ⟨_, _, rfl, hy, ?_, rfl, gcd_step.trans hg⟩⟩
    · have := Int.fmod_lt_of_pos x h; have := Int.fmod_nonneg_of_pos x h; omega
    · exact Int.fmod_nonneg_of_pos x h
  · have : y = 0 := by omega
    subst this
    simp
    rw [Int.gcd_zero_right] at hg
    have : x = (Int.gcd a b : Int) := by omega
    rw [this]; exact q
def okRay (p : Pt) : Bool := okPt p && decide (Int.gcd p.1 p.2 = 1)
def isRay : PV → Bool | .tup [.int a, .int b] => okRay (a, b) | _ => false
theorem isRay_pt {p : Pt} : isRay (pt p) = okRay p := rfl
theorem isRay_ex {p : PV} (h : isRay p = true) : ∃ q : Pt, p = pt q ∧ okRay q = true := by
  unfold isRay at h
  split at h
  · exact ⟨_, rfl, h⟩
  · cases h
def S_is_ray : SpV := fun ps Q => ∃ p, ps = [p] ∧ dat2 p ∧ Q (.val (.bl (isRay p)))
def w_is_ray (S_common_divisor : SpV) (S_is_dot : SpV) : WS := (wRet (wAndV (wCallN 1 S_is_dot (wCons (wVar 0) wNil)) (wBin opEq (wCallN 2 S_common_divisor (wCons (wBin opIx (wVar 0) (wC (.int 0))) (wCons (wBin opIx (wVar 0) (wC (.int 1))) wNil))) (wC (.int 1)))))
theorem v_is_ray : SV (w_is_ray S_common_divisor S_is_dot) 1 S_is_ray 1 := by
  rintro ps Q - ⟨p, rfl, hd, q⟩
  unfold w_is_ray
  walk_at "vx"
  refine ⟨p, rfl, hd, ?_⟩
  by_cases hp : isDot p = true
  · obtain ⟨z, rfl, hz⟩ := isDot_ex hp
    rw [isDot_pt, hz]
    simp only [ix_pt0, ix_pt1]
    walk_at "vx"
    refine ⟨_, _, rfl, ?_⟩
    show opEq (.int _) (.int 1) _
    rw [eq_int]
    rw [isRay_pt] at q
    have e : okRay z = decide ((Int.gcd z.1 z.2 : Int) = 1) := by
      unfold okRay; rw [hz, Bool.true_and]; exact decide_eq_decide.mpr (by omega)
    rw [e] at q; exact q
  · rw [Bool.not_eq_true] at hp
    rw [hp]
    have e : isRay p = false := by
      cases h : isRay p with
      | false => rfl
      | true =>
        obtain ⟨z, rfl, hz⟩ := isRay_ex h
        rw [isDot_pt] at hp
        unfold okRay at hz; rw [hp] at hz; cases hz
    rw [e] at q; simpa using q
def S_check_dot : SpV := fun ps Q => ∃ p, ps = [pt p] ∧ okPt p = true ∧ Q (.val .non)
def w_check_dot (S_is_dot : SpV) : WS := (wIfS (wNotT (wTst (wCallN 1 S_is_dot (wCons (wVar 0) wNil)))) wNever wNext)
theorem v_check_dot : SV (w_check_dot S_is_dot) 1 S_check_dot 1 := by
  rintro ps Q - ⟨p, rfl, hd, q⟩
  unfold w_check_dot
  walk_at "vx"
  refine ⟨_, rfl, dat2_pt, ?_⟩
  rw [isDot_pt, hd]; simpa using q
def S_check_ray : SpV := fun ps Q => ∃ p, ps = [pt p] ∧ okRay p = true ∧ Q (.val .non)
def w_check_ray (S_is_ray : SpV) : WS := (wIfS (wNotT (wTst (wCallN 1 S_is_ray (wCons (wVar 0) wNil)))) wNever wNext)
theorem v_check_ray : SV (w_check_ray S_is_ray) 1 S_check_ray 1 := by
  rintro ps Q - ⟨p, rfl, hd, q⟩
  unfold w_check_ray
  walk_at "vx"
  refine ⟨_, rfl, dat2_pt, ?_⟩
  rw [isRay_pt, hd]; simpa using q
/-- a dot's ray -/
def rayP (p : Pt) : Pt := (p.1 / (Int.gcd p.1 p.2 : Int), p.2 / (Int.gcd p.1 p.2 : Int))
def smP (p : Pt) : Prop := -1000000000 < p.1 ∧ p.1 < 1000000000 ∧ -1000000000 < p.2 ∧ p.2 < 1000000000
theorem smP_of {p : Pt} (h : okPt p = true) : smP p := by
  have := okPt_iff.mp h
  unfold smP; omega
theorem gcd_pos {p : Pt} (h : p ≠ (0, 0)) : 0 < Int.gcd p.1 p.2 := by
  rcases Nat.eq_zero_or_pos (Int.gcd p.1 p.2) with e | e
  · rw [Int.gcd_eq_zero_iff] at e
    exact absurd (Prod.ext e.1 e.2) h
  · exact e
theorem gcd_le_l {a b : Int} (h : a ≠ 0) : Int.gcd a b ≤ a.natAbs := Nat.le_of_dvd (by omega) (Int.gcd_dvd_natAbs_left a b)
theorem gcd_lt {p : Pt} (h : smP p) : (Int.gcd p.1 p.2 : Int) < 1000000000 := by
  obtain ⟨h1, h2, h3, h4⟩ := h
  by_cases e : p.1 = 0
  · rw [e, Int.gcd_zero_left]; omega
  · have := gcd_le_l (b := p.2) e; omega
theorem fdiv_nn {a : Int} {n : Nat} : a.fdiv (n : Int) = a / (n : Int) := Int.fdiv_eq_ediv_of_nonneg _ (by omega)
def S_raw_ray : SpV := fun ps Q => ∃ p, ps = [pt p] ∧ p ≠ (0, 0) ∧ smP p ∧ Q (.val (pt (rayP p)))
def w_raw_ray (S_common_divisor : SpV) : WS := (wSeq (wSet 1 (wCallN 2 S_common_divisor (wCons (wBin opIx (wVar 0) (wC (.int 0))) (wCons (wBin opIx (wVar 0) (wC (.int 1))) wNil)))) (wRet (wTup (wCons (wBin opFdiv (wBin opIx (wVar 0) (wC (.int 0))) (wVar 1)) (wCons (wBin opFdiv (wBin opIx (wVar 0) (wC (.int 1))) (wVar 1)) wNil)))))
theorem v_raw_ray : SV (w_raw_ray S_common_divisor) 2 S_raw_ray 1 := by
  rintro ps Q - ⟨p, rfl, h0, hs, q⟩
  unfold w_raw_ray
  walk_at "vx"
  refine ⟨_, _, rfl, ?_⟩
  walk_at "vx"
  have h1 := gcd_pos h0
  have h2 := gcd_lt hs
  refine ⟨divok (by omega) (by omega) (by omega), divok (by omega) (by omega) (by omega), sz (by decide), ?_⟩
  rw [fdiv_nn, fdiv_nn]; exact q
theorem zero_pt : PV.tup [.int 0, .int 0] = pt (0, 0) := rfl
def S_ray_of : SpV := fun ps Q => ∃ p, ps = [pt p] ∧ p ≠ (0, 0) ∧ okPt p = true ∧ Q (.val (pt (rayP p)))
def w_ray_of (S_is_dot : SpV) (S_raw_ray : SpV) : WS := (wSeq (wIfS (wOrT (wNotT (wTst (wCallN 1 S_is_dot (wCons (wVar 0) wNil)))) (wTst (wBin opEq (wVar 0) (wTup (wCons (wC (.int 0)) (wCons (wC (.int 0)) wNil)))))) wNever wNext) (wRet (wCallN 1 S_raw_ray (wCons (wVar 0) wNil))))
theorem v_ray_of : SV (w_ray_of S_is_dot S_raw_ray) 1 S_ray_of 1 := by
  rintro ps Q - ⟨p, rfl, h0, hs, q⟩
  unfold w_ray_of
  walk_at "vx"
  refine ⟨_, rfl, dat2_pt, ?_⟩
  rw [isDot_pt, hs, pt_mk, eq_pt, decide_eq_false h0]
  simp only [Bool.not_true, Bool.false_eq_true, if_false]
  exact ⟨sz (by decide), p, rfl, h0, smP_of hs, q⟩
def turn (p q : Pt) : Int := p.1 * q.2 - p.2 * q.1
def lgP (p : Pt) : Prop := -1000000000000000000 < p.1 ∧ p.1 < 1000000000000000000 ∧ -1000000000000000000 < p.2 ∧ p.2 < 1000000000000000000
theorem lgP_of {p : Pt} (h : smP p) : lgP p := by obtain ⟨h1, h2, h3, h4⟩ := h; unfold lgP; omega
/-- one of the two is no greater than 10 ^ 18 -/
def S_raw_turn : SpV := fun ps Q => ∃ p q, ps = [pt p, pt q] ∧ (lgP p ∨ lgP q) ∧ Q (.val (.int (turn p q)))
def w_raw_turn : WS := (wRet (wBin opSub (wBin opMul (wBin opIx (wVar 0) (wC (.int 0))) (wBin opIx (wVar 1) (wC (.int 1)))) (wBin opMul (wBin opIx (wVar 0) (wC (.int 1))) (wBin opIx (wVar 1) (wC (.int 0))))))
theorem v_raw_turn : SV w_raw_turn 2 S_raw_turn 2 := by
  rintro ps Q - ⟨p, r, rfl, hl, q⟩
  unfold w_raw_turn
  walk_at "vx"
  have h : CMul p.1 r.2 ∧ CMul p.2 r.1 := by
    rcases hl with ⟨h1, h2, h3, h4⟩ | ⟨h1, h2, h3, h4⟩
    · exact ⟨cmul_l h1 h2, cmul_l h3 h4⟩
    · exact ⟨cmul_r h3 h4, cmul_r h1 h2⟩
  exact ⟨h.1, h.2, q⟩
def S_turn_of : SpV := fun ps Q => ∃ p q, ps = [pt p, pt q] ∧ okPt p = true ∧ okPt q = true ∧ Q (.val (.int (turn p q)))
def w_turn_of (S_check_dot : SpV) (S_raw_turn : SpV) : WS := (wSeq (wDrop (wCallN 1 S_check_dot (wCons (wVar 0) wNil))) (wSeq (wDrop (wCallN 1 S_check_dot (wCons (wVar 1) wNil))) (wRet (wCallN 2 S_raw_turn (wCons (wVar 0) (wCons (wVar 1) wNil))))))
theorem v_turn_of : SV (w_turn_of S_check_dot S_raw_turn) 2 S_turn_of 2 := by
  rintro ps Q - ⟨p, r, rfl, hp, hr, q⟩
  unfold w_turn_of
  walk_at "vx"
  exact ⟨_, rfl, hp, _, rfl, hr, _, _, rfl, .inl (lgP_of (smP_of hp)), q⟩
end VM
end
section
set_option Elab.async false
set_option linter.all false
set_option maxRecDepth 100000
set_option maxHeartbeats 4000000
open PySem PySem.Spec PyProof.Rows L2 VE PySem.W
local macro_rules | `(tactic| walk_at "vx") => `(tactic| simp (config := {decide := false}) only [wVar, wC, wBin, wUn, wTst, wAndT, wOrT, wNotT, wAndV, wOrV, wNotV, wIf, wNil, wCons, wTup, wLst, wSl, wNoPart, wPart, wCall, wCallN, wNext, wSeq, wBreak, wCont, wNever, wRet, wRetN, wRet0, wIfS, wDrop, wSet, wPar, wPar3, wgName, wgNil, wgCons, wgTup, wgIx, wAsg, wAug, wAppend, wInsert, wiSeq, wiRng1, wiRng2, wiZip, wiEnum, wFor, wYes, wComp, wChain, wipeR, backR, look, VM.ex2, VM.ex3, VM.eq_int, VM.ne_int, VM.eq_bl, VM.ne_bl, VM.is_non, VM.isnot_non, decide_true, decide_false, decide_eq_true_eq, eq_self, VM.pv_val, VM.pv_own, VM.noOwn_eq, VM.noOwnB, List.all_cons, List.all_nil, Bool.and_self, opInt, opSub, opMod, opFdiv, opPow, opCmpI, opLt, opLe, opGt, opGe, opAdd, opMul, opNeg, opLen, opAbs, opIntC, opMax2, opMin2, opList, opTuple, opSl, startR,
  List.set_cons_zero, List.set_cons_succ, List.length_cons, List.length_nil, List.map_cons, List.map_nil, List.replicate_succ, List.replicate_zero, List.nil_append, List.cons_append, Nat.zero_add, Nat.reduceAdd, Nat.reduceSub, if_true, if_false, true_and, and_true, Bool.false_eq_true, ite_true, ite_false, List.cons.injEq, PV.int.injEq, PV.bl.injEq, exists_eq_left, exists_eq_left', exists_and_left, and_self, reduceCtorEq, Bool.not_true, Bool.not_false, ite_self])
namespace VM
section
variable {α β : Type}
/-- data in an order -/
class Do (α : Type) [DecidableEq α] [Dm α] where
  ltb : α → α → Bool
  alk : ∀ a b : α, alike (Dm.dd a) (Dm.dd b) = true
  nn : ∀ a : α, Dm.dd a ≠ PyData.none
  lt_eq : ∀ a b : α, dataLt (Dm.dd a) (Dm.dd b) = ltb a b
  irr : ∀ a : α, ltb a a = false
  trn : ∀ a b c : α, ltb a b = true → ltb b c = true → ltb a c = true
  tot : ∀ a b : α, ltb a b = false → ltb b a = false → a = b
instance : Do Int where
  ltb a b := decide (a < b)
  alk a b := rfl
  nn a := fun h => nomatch h
  lt_eq a b := dataLt_int a b
  irr a := by simp
  trn a b c h1 h2 := by simp at *; omega
  tot a b h1 h2 := by simp at *; omega
variable [DecidableEq α] [Dm α] [Do α] [DecidableEq β] [Dm β] [Do β]
instance : Do (α × β) where
  ltb p q := Do.ltb p.1 q.1 || (decide (p.1 = q.1) && Do.ltb p.2 q.2)
  alk p q := by
    show alike (.tuple [_, _]) (.tuple [_, _]) = true
    simp [alike, alikeAll, Do.alk]
  nn p := fun h => nomatch h
  lt_eq p q := by
    show dataLt (.tuple [_, _]) (.tuple [_, _]) = _
    rw [dataLt_pair (Do.alk _ _) (Do.alk _ _), Dm.eqv, Dm.eqv, Do.lt_eq, Do.lt_eq]
    by_cases h1 : p.1 = q.1
    · by_cases h2 : p.2 = q.2
      · simp [h1, h2, Do.irr]
      · simp [h1, h2, Do.irr]
    · simp [h1]
  irr p := by simp [Do.irr]
  trn p q r h1 h2 := by
    simp only [Bool.or_eq_true, Bool.and_eq_true, decide_eq_true_eq] at *
    rcases h1 with h1 | ⟨h1, h1'⟩ <;> rcases h2 with h2 | ⟨h2, h2'⟩
    · exact .inl (Do.trn _ _ _ h1 h2)
    · exact .inl (by rw [← h2]; exact h1)
    · exact .inl (by rw [h1]; exact h2)
    · exact .inr ⟨h1.trans h2, Do.trn _ _ _ h1' h2'⟩
  tot p q h1 h2 := by
    simp only [Bool.or_eq_false_iff] at *
    have e : p.1 = q.1 := Do.tot _ _ h1.1 h2.1
    have h3 := h1.2
    have h4 := h2.2
    simp only [e, decide_true, Bool.true_and] at h3 h4
    exact Prod.ext e (Do.tot _ _ h3 h4)
theorem Do.le_trans {a b c : α} (h1 : Do.ltb b a = false) (h2 : Do.ltb c b = false) : Do.ltb c a = false := by
  cases h : Do.ltb c a with
  | false => rfl
  | true =>
    cases h3 : Do.ltb a b with
    | true => rw [Do.trn _ _ _ h h3] at h2; cases h2
    | false =>
      have e := Do.tot a b h3 h1
      rw [e, h2] at h; cases h
theorem Dm.dd_inj {a b : α} (h : Dm.dd a = Dm.dd b) : a = b := by
  have h1 := Dm.eqv a b
  have h2 := Dm.eqv b b
  rw [h, h2] at h1
  exact of_decide_eq_true (by rw [← h1]; simp)
def minL (d : α) (l : List α) : α := l.foldl (fun a y => if Do.ltb y a then y else a) d
theorem minD_eq (d : α) (l : List α) : minD (Dm.dd d) (l.map Dm.dd) = Dm.dd (minL d l) := by
  unfold minD minL
  induction l generalizing d with
  | nil => rfl
  | cons x l ih =>
    simp only [List.map_cons, List.foldl_cons, Do.lt_eq]
    rw [← ih]
    congr 1
    split <;> rfl
theorem minL_spec (d : α) (l : List α) : minL d l ∈ d :: l ∧ ∀ y ∈ d :: l, Do.ltb y (minL d l) = false := by
  unfold minL
  induction l generalizing d with
  | nil => simp [Do.irr]
  | cons x l ih =>
    simp only [List.foldl_cons]
    cases h : Do.ltb x d with
    | true =>
      obtain ⟨h1, h2⟩ := ih x
      simp only [if_true]
      refine ⟨List.mem_cons_of_mem _ h1, fun y hy => ?_⟩
      rcases List.mem_cons.mp hy with rfl | hy
      · refine Do.le_trans (h2 x List.mem_cons_self) ?_
        cases h3 : Do.ltb y x with
        | false => rfl
        | true => have := Do.trn _ _ _ h h3; rw [Do.irr] at this; cases this
      · exact h2 y hy
    | false =>
      obtain ⟨h1, h2⟩ := ih d
      simp only [Bool.false_eq_true, if_false]
      refine ⟨?_, fun y hy => ?_⟩
      · rcases List.mem_cons.mp h1 with h1 | h1
        · rw [h1]; exact List.mem_cons_self
        · exact List.mem_cons_of_mem _ (List.mem_cons_of_mem _ h1)
      · rcases List.mem_cons.mp hy with rfl | hy
        · exact h2 y List.mem_cons_self
        · rcases List.mem_cons.mp hy with rfl | hy
          · exact Do.le_trans (h2 d List.mem_cons_self) h
          · exact h2 y (List.mem_cons_of_mem _ hy)
theorem min_dm {l : List α} {Q : Sl → Prop} (hn : l ≠ []) (hd : Dm.dep α ≤ 64) (q : ∀ m ∈ l, (∀ y ∈ l, Do.ltb y m = false) → Q (.val (Dm.emb m))) : opMinD [.lst (l.map Dm.emb)] Q := by
  cases l with
  | nil => exact absurd rfl hn
  | cons d l =>
    refine ⟨_, Dm.dd d, l.map Dm.dd, .inl rfl, toDs_map (d :: l), ⟨fun x hx y hy => ?_, fun x hx => ?_⟩, ?_, fun p hp e => ?_⟩
    · obtain ⟨a, _, rfl⟩ := List.mem_map.mp (show x ∈ (d :: l).map Dm.dd from hx)
      obtain ⟨b, _, rfl⟩ := List.mem_map.mp (show y ∈ (d :: l).map Dm.dd from hy)
      exact Do.alk a b
    · obtain ⟨a, _, rfl⟩ := List.mem_map.mp (show x ∈ (d :: l).map Dm.dd from hx)
      exact Do.nn a
    · exact Nat.le_trans (depAll_map (d :: l)) hd
    · obtain ⟨a, ha, rfl⟩ := List.mem_map.mp hp
      rw [Dm.toD_emb, minD_eq] at e
      have e2 : a = minL d l := Dm.dd_inj (by injection e)
      obtain ⟨h1, h2⟩ := minL_spec d l
      rw [e2]
      exact q _ h1 h2
end
def rangeI (lo : Int) (n : Nat) : List Int := (List.range n).map fun (i : Nat) => lo + (i : Int)
theorem rangeP_I (lo : Int) (n : Nat) : rangeP lo n = (rangeI lo n).map PV.int := by unfold rangeP rangeI; rw [List.map_map]; rfl
theorem mem_rangeI {lo : Int} {n : Nat} {t : Int} : t ∈ rangeI lo n ↔ lo ≤ t ∧ t < lo + n := by
  unfold rangeI
  rw [List.mem_map]
  constructor
  · rintro ⟨i, hi, rfl⟩; rw [List.mem_range] at hi; omega
  · intro h; exact ⟨(t - lo).toNat, List.mem_range.mpr (by omega), by omega⟩
theorem rangeI_len {lo : Int} {n : Nat} : (rangeI lo n).length = n := by unfold rangeI; simp
/-- a for over typed items -/
theorem forL_typed {α : Type} {g : WG} {wb : WS} {D : EndsV} {ρ : Rho} (emb : α → PV) {ys : List α} (J : List α → Rho → Prop) (h0 : J [] ρ)
    (hs : ∀ done y, (y ∈ ys ∧ done.length < ys.length) → ∀ ρ, J done ρ → ∀ N : Rho → Prop, (∀ ρ', J (done ++ [y]) ρ' → N ρ') → g (emb y) ρ fun ρ1 => wb { D with nx := N, ct := N, bk := D.nx } ρ1)
    (he : ∀ ρ, J ys ρ → D.nx ρ) : forL g wb (ys.map emb) D ρ := by
  refine forL_ind (J := fun rest ρ => ∃ done zs, rest = zs.map emb ∧ done ++ zs = ys ∧ J done ρ) ?_ ?_ _ _ ⟨[], ys, rfl, rfl, h0⟩
  · rintro x xs ρ ⟨done, zs, e, rfl, h⟩ N hN
    cases zs with
    | nil => cases e
    | cons z zs =>
      cases e
      exact hs done z ⟨by simp, by simp⟩ ρ h N fun ρ' h' => hN ρ' ⟨done ++ [z], zs, rfl, by simp, h'⟩
  · rintro ρ ⟨done, zs, e, rfl, h⟩
    cases zs with
    | nil => rw [List.append_nil] at he; exact he ρ h
    | cons z zs => cases e
end VM
end
section
set_option Elab.async false
set_option linter.all false
set_option maxRecDepth 100000
set_option maxHeartbeats 4000000
open PySem PySem.Spec PyProof.Rows L2 VE
local macro_rules | `(tactic| walk_at "vx") => `(tactic| simp (config := {decide := false}) only [wVar, wC, wBin, wUn, wTst, wAndT, wOrT, wNotT, wAndV, wOrV, wNotV, wIf, wNil, wCons, wTup, wLst, wSl, wNoPart, wPart, wCall, wCallN, wNext, wSeq, wBreak, wCont, wNever, wRet, wRetN, wRet0, wIfS, wDrop, wSet, wPar, wPar3, wgName, wgNil, wgCons, wgTup, wgIx, wAsg, wAug, wAppend, wInsert, bNil, bCons, wParB, wParB3, wAsgB, sets, VM.exB2, VM.exB3, VM.zipP_cons, VM.zipP_nil, VM.compL_cons, VM.compL_nil, wiSeq, wiRng1, wiRng2, wiZip, wiEnum, wFor, wYes, wComp, wChain, wipeR, backR, look, VM.ex2, VM.ex3, VM.eq_int, VM.ne_int, VM.ix_t0, VM.ix_t1, VM.ix_t2, VM.ix_l0, VM.ix_l1, VM.ix_l2, VM.ix_pt0, VM.ix_pt1, VM.eq_bl, VM.ne_bl, VM.eq_str, VM.ne_str, VM.is_non, VM.isnot_non, decide_true, decide_false, decide_eq_true_eq, eq_self, VM.pv_val, VM.pv_own, VM.noOwn_eq, VM.noOwnB, List.all_cons, List.all_nil, Bool.and_self, opInt, opSub, opMod, opFdiv, opPow, opCmpI, opLt, opLe, opGt, opGe, opAdd, opMul, opNeg, opLen, opAbs, opIntC, opMax2, opMin2, opList, opTuple, opSl, opBack, wIxN, wLenN, startR,
  List.set_cons_zero, List.set_cons_succ, List.length_cons, List.length_nil, List.map_cons, List.map_nil, List.replicate_succ, List.replicate_zero, List.nil_append, List.cons_append, Nat.zero_add, Nat.reduceAdd, Nat.reduceSub, if_true, if_false, true_and, and_true, Bool.false_eq_true, ite_true, ite_false, List.cons.injEq, PV.int.injEq, PV.bl.injEq, exists_eq_left, exists_eq_left', exists_and_left, and_self, reduceCtorEq, Bool.not_true, Bool.not_false, ite_self])
local macro_rules | `(tactic| walk_at "vc") => `(tactic| repeat (with_reducible refine And.intro ?_ ?_; focus first | omega | with_reducible rfl | exact VM.szb rfl | exact VM.szlb rfl | exact VM.cmul_l (by omega) (by omega) | exact VM.cmul_r (by omega) (by omega) | exact VM.divok (by omega) (by omega) (by omega) | omega))

namespace VM
namespace Tn
theorem sq_ge (b : Int) : b ≤ b * b ∧ -b ≤ b * b ∧ 0 ≤ b * b := by
  rcases Int.lt_trichotomy b 0 with h | h | h
  · have := Int.mul_nonneg (show 0 ≤ -b by omega) (show 0 ≤ -b - 1 by omega)
    have := Int.mul_nonneg (show 0 ≤ -b by omega) (show 0 ≤ -b by omega)
    grind
  · subst h; decide
  · have := Int.mul_nonneg (show 0 ≤ b by omega) (show 0 ≤ b - 1 by omega)
    have := Int.mul_nonneg (show 0 ≤ b by omega) (show 0 ≤ b by omega)
    grind
theorem e1 (a b x y : Int) (h : a * y - b * x = 1) : x * (a * a + b * b) = a * (a * x + b * y) - b := by grind
theorem e2 (a b x y : Int) (h : a * y - b * x = 1) : y * (a * a + b * b) = b * (a * x + b * y) + a := by grind
theorem e3 (a b x y : Int) (h : a * y - b * x = 1) (ha : 0 < a) (hT : a * a + b * b ≤ a * x + b * y) : a ≤ x := by
  apply Int.not_lt.mp; intro hx
  have s1 := sq_ge a
  have s2 := sq_ge b
  have h1 := Int.mul_nonneg (show 0 ≤ a - 1 - x by omega) (show 0 ≤ a * a + b * b by omega)
  have h2 := Int.mul_nonneg (show 0 ≤ a by omega) (show 0 ≤ (a * x + b * y) - (a * a + b * b) by omega)
  have := e1 a b x y h
  grind
theorem e3' (a b x y : Int) (h : a * y - b * x = 1) (ha : a < 0) (hT : a * a + b * b ≤ a * x + b * y) : x ≤ a := by
  apply Int.not_lt.mp; intro hx
  have s1 := sq_ge a
  have s2 := sq_ge b
  have h1 := Int.mul_nonneg (show 0 ≤ x - a - 1 by omega) (show 0 ≤ a * a + b * b by omega)
  have h2 := Int.mul_nonneg (show 0 ≤ -a by omega) (show 0 ≤ (a * x + b * y) - (a * a + b * b) by omega)
  have := e1 a b x y h
  grind
theorem e4 (a b x y : Int) (h : a * y - b * x = 1) (ha : 0 < b) (hT : a * a + b * b ≤ a * x + b * y) : b ≤ y := by
  apply Int.not_lt.mp; intro hx
  have s1 := sq_ge a
  have s2 := sq_ge b
  have h1 := Int.mul_nonneg (show 0 ≤ b - 1 - y by omega) (show 0 ≤ a * a + b * b by omega)
  have h2 := Int.mul_nonneg (show 0 ≤ b by omega) (show 0 ≤ (a * x + b * y) - (a * a + b * b) by omega)
  have := e2 a b x y h
  grind
theorem e4' (a b x y : Int) (h : a * y - b * x = 1) (ha : b < 0) (hT : a * a + b * b ≤ a * x + b * y) : y ≤ b := by
  apply Int.not_lt.mp; intro hx
  have s1 := sq_ge a
  have s2 := sq_ge b
  have h1 := Int.mul_nonneg (show 0 ≤ y - b - 1 by omega) (show 0 ≤ a * a + b * b by omega)
  have h2 := Int.mul_nonneg (show 0 ≤ -b by omega) (show 0 ≤ (a * x + b * y) - (a * a + b * b) by omega)
  have := e2 a b x y h
  grind
def ab (a : Int) : Int := if a < 0 then -a else a
theorem down (a b x y : Int) (h : a * y - b * x = 1) (hT : a * a + b * b ≤ a * x + b * y) : ab (x - a) + ab (y - b) < ab x + ab y := by
  have nz : a ≠ 0 ∨ b ≠ 0 := by
    apply Decidable.not_and_iff_not_or_not.mp
    rintro ⟨rfl, rfl⟩; omega
  have h1 : 0 < a → a ≤ x := fun ha => e3 a b x y h ha hT
  have h2 : a < 0 → x ≤ a := fun ha => e3' a b x y h ha hT
  have h3 : 0 < b → b ≤ y := fun ha => e4 a b x y h ha hT
  have h4 : b < 0 → y ≤ b := fun ha => e4' a b x y h ha hT
  clear h hT
  unfold ab
  omega
theorem up (a b x y : Int) (h : a * y - b * x = 1) (hT : a * x + b * y ≤ -(a * a + b * b)) : ab (x + a) + ab (y + b) < ab x + ab y := by
  have := down (-a) b x (-y) (by grind) (by grind)
  have e1 : x - -a = x + a := by omega
  have e2 : -y - b = -(y + b) := by omega
  have e3 : ∀ z, ab (-z) = ab z := by intro z; unfold ab; omega
  rw [e1, e2, e3, e3] at this
  exact this
theorem other (a b x y fx fy : Int) (h : a * y - b * x = 1) (h' : a * fy - b * fx = 1) : ∃ t, x = fx + t * a ∧ y = fy + t * b :=
  ⟨(x - fx) * fy - (y - fy) * fx, by grind, by grind⟩
theorem near_win {a b fx fy t n : Int} (hw : 0 < a * a + b * b) (hn : n = (-(fx * a + fy * b)).fdiv (a * a + b * b)) (h1 : a * (fx + t * a) + b * (fy + t * b) < a * a + b * b) (h2 : -(a * a + b * b) < a * (fx + t * a) + b * (fy + t * b)) : n ≤ t ∧ t ≤ n + 1 := by
  have e1 : (-(fx * a + fy * b)).fmod (a * a + b * b) = -(fx * a + fy * b) - (a * a + b * b) * n := by rw [hn]; exact Int.fmod_def _ _
  have l1 := Int.fmod_nonneg_of_pos (-(fx * a + fy * b)) hw
  have l2 := Int.fmod_lt_of_pos (-(fx * a + fy * b)) hw
  rw [e1] at l1 l2
  constructor
  · apply Int.not_lt.mp; intro hx
    have := Int.mul_nonneg (show 0 ≤ n - t - 1 by omega) (Int.le_of_lt hw)
    grind
  · apply Int.not_lt.mp; intro hx
    have := Int.mul_nonneg (show 0 ≤ t - n - 2 by omega) (Int.le_of_lt hw)
    grind
theorem mark_win {a b dx dy t : Int} (ha : a ≠ 0) (h : a * (dy + t * b) - b * (dx + t * a) = 1) (h1 : a * (dx + t * a) + b * (dy + t * b) < a * a + b * b) (h2 : -(a * a + b * b) < a * (dx + t * a) + b * (dy + t * b)) : 0 - dx.fdiv a - 1 ≤ t ∧ t ≤ 0 - dx.fdiv a + 1 := by
  have sa := sq_ge a
  have sb := sq_ge b
  have e1 : dx.fmod a = dx - a * dx.fdiv a := Int.fmod_def _ _
  generalize dx.fdiv a = m at *
  have ex : dx + t * a = dx.fmod a + (t + m) * a := by grind
  generalize hx : dx + t * a = x at *
  generalize hy : dy + t * b = y at *
  generalize hk : t + m = k at *
  have xw : x * (a * a + b * b) = a * (a * x + b * y) - b := by grind
  rcases Int.lt_or_gt_of_ne ha with ha | ha
  · have l1 : dx.fmod a ≤ 0 ∧ a < dx.fmod a := by
      have e : dx.fmod a = -((-dx).fmod (-a)) := by
        have := Int.neg_fmod_neg dx a
        omega
      have := Int.fmod_nonneg_of_pos (-dx) (show 0 < -a by omega)
      have := Int.fmod_lt_of_pos (-dx) (show 0 < -a by omega)
      omega
    have x1 : x ≤ -a := by
      apply Int.not_lt.mp; intro hx
      have p1 := Int.mul_nonneg (show 0 ≤ x + a - 1 by omega) (show 0 ≤ a * a + b * b by omega)
      have p2 := Int.mul_nonneg (show 0 ≤ -a by omega) (show 0 ≤ a * x + b * y + (a * a + b * b) - 1 by omega)
      grind
    have x2 : a ≤ x := by
      apply Int.not_lt.mp; intro hx
      have p1 := Int.mul_nonneg (show 0 ≤ a - 1 - x by omega) (show 0 ≤ a * a + b * b by omega)
      have p2 := Int.mul_nonneg (show 0 ≤ -a by omega) (show 0 ≤ (a * a + b * b) - 1 - (a * x + b * y) by omega)
      grind
    have k1 : k ≤ 1 := by
      apply Int.not_lt.mp; intro hx
      have := Int.mul_nonneg (show 0 ≤ k - 2 by omega) (show 0 ≤ -a by omega)
      grind
    have k2 : -1 ≤ k := by
      apply Int.not_lt.mp; intro hx
      have := Int.mul_nonneg (show 0 ≤ -2 - k by omega) (show 0 ≤ -a by omega)
      grind
    omega
  · have l1 := Int.fmod_nonneg_of_pos dx ha
    have l2 := Int.fmod_lt_of_pos dx ha
    have x1 : x ≤ a := by
      apply Int.not_lt.mp; intro hx
      have p1 := Int.mul_nonneg (show 0 ≤ x - a - 1 by omega) (show 0 ≤ a * a + b * b by omega)
      have p2 := Int.mul_nonneg (show 0 ≤ a by omega) (show 0 ≤ (a * a + b * b) - 1 - (a * x + b * y) by omega)
      grind
    have x2 : -a ≤ x := by
      apply Int.not_lt.mp; intro hx
      have p1 := Int.mul_nonneg (show 0 ≤ -a - 1 - x by omega) (show 0 ≤ a * a + b * b by omega)
      have p2 := Int.mul_nonneg (show 0 ≤ a by omega) (show 0 ≤ (a * x + b * y) + (a * a + b * b) - 1 by omega)
      grind
    have k1 : k ≤ 1 := by
      apply Int.not_lt.mp; intro hx
      have := Int.mul_nonneg (show 0 ≤ k - 2 by omega) (show 0 ≤ a by omega)
      grind
    have k2 : -1 ≤ k := by
      apply Int.not_lt.mp; intro hx
      have := Int.mul_nonneg (show 0 ≤ -2 - k by omega) (show 0 ≤ a by omega)
      grind
    omega
theorem mark_win2 {a b dx dy t : Int} (hb : b ≠ 0) (h : a * (dy + t * b) - b * (dx + t * a) = 1) (h1 : a * (dx + t * a) + b * (dy + t * b) < a * a + b * b) (h2 : -(a * a + b * b) < a * (dx + t * a) + b * (dy + t * b)) : 0 - dy.fdiv b - 1 ≤ t ∧ t ≤ 0 - dy.fdiv b + 1 := by
  have := mark_win (a := b) (b := -a) (dx := dy) (dy := -dx) (t := t) hb (by grind) (by grind) (by grind)
  exact this
theorem gcd_step' {a b : Int} : Int.gcd b (a - a.fdiv b * b) = Int.gcd a b := by
  rw [Int.mul_comm, Int.gcd_comm, Int.sub_eq_add_neg, ← Int.mul_neg, Int.gcd_add_mul_left_left]
def fC : Nat := 10000000000000
/-- what stands along Euclid's way -/
structure FI (A B s t u v a b : Int) : Prop where
  e1 : s * A + t * B = a
  e2 : u * A + v * B = b
  g : Int.gcd a b = Int.gcd A B
  la : a.natAbs ≤ 10000
  lb : b.natAbs ≤ 10000
  c : (s = 1 ∧ t = 0 ∧ u = 0 ∧ v = 1) ∨ ∃ (x y m : Nat), 0 < x ∧ ((a = x ∧ b = y) ∨ (a = -x ∧ b = -y)) ∧ s.natAbs ≤ m ∧ t.natAbs ≤ m ∧ u.natAbs ≤ m ∧ v.natAbs ≤ m ∧ m * (x * y) ≤ fC ∧ m ≤ 2 * fC
theorem sgn_step {a b : Int} (x y : Nat) (hx : 0 < x) (hy : 0 < y) (h : (a = x ∧ b = y) ∨ (a = -x ∧ b = -y)) :
    a.fdiv b = (x / y : Nat) ∧ ((b = y ∧ a - a.fdiv b * b = (x % y : Nat)) ∨ (b = -y ∧ a - a.fdiv b * b = -(x % y : Nat))) := by
  have e : a.fdiv b = (x / y : Nat) := by
    rcases h with ⟨rfl, rfl⟩ | ⟨rfl, rfl⟩
    · rw [Int.fdiv_eq_ediv_of_nonneg _ (by omega)]; rfl
    · rw [Int.neg_fdiv_neg, Int.fdiv_eq_ediv_of_nonneg _ (by omega)]; rfl
  refine ⟨e, ?_⟩
  have d := Nat.div_add_mod x y
  have d2 : (y : Int) * (x / y : Nat) + (x % y : Nat) = x := by exact_mod_cast d
  rw [e]
  rcases h with ⟨rfl, rfl⟩ | ⟨rfl, rfl⟩
  · left; exact ⟨rfl, by grind⟩
  · right; exact ⟨rfl, by grind⟩
theorem nabs_sub_mul (s u : Int) (p m : Nat) (hs : s.natAbs ≤ m) (hu : u.natAbs ≤ m) : (s - (p : Int) * u).natAbs ≤ (p + 1) * m := by
  have h1 : (s - (p : Int) * u).natAbs ≤ s.natAbs + ((p : Int) * u).natAbs := Int.natAbs_sub_le _ _
  rw [Int.natAbs_mul, Int.natAbs_natCast] at h1
  have := Nat.mul_le_mul_left p hu
  rw [Nat.add_mul]; omega
theorem FI.step {A B s t u v a b : Int} (h : FI A B s t u v a b) (hb : b ≠ 0) : FI A B u v (s - a.fdiv b * u) (t - a.fdiv b * v) b (a - a.fdiv b * b) ∧ (a - a.fdiv b * b).natAbs < b.natAbs ∧ (a.fdiv b).natAbs ≤ 20000 := by
  have em : a.fmod b = a - a.fdiv b * b := by rw [Int.fmod_def, Int.mul_comm]
  have lt : (a - a.fdiv b * b).natAbs < b.natAbs := by
    rw [← em]
    rcases Int.lt_or_gt_of_ne hb with h | h
    · have e : a.fmod b = -((-a).fmod (-b)) := by have := Int.neg_fmod_neg a b; omega
      have := Int.fmod_nonneg_of_pos (-a) (show 0 < -b by omega)
      have := Int.fmod_lt_of_pos (-a) (show 0 < -b by omega)
      omega
    · have := Int.fmod_nonneg_of_pos a h
      have := Int.fmod_lt_of_pos a h
      omega
  have pl : (a.fdiv b).natAbs ≤ 20000 := by
    have h1 : (a.fdiv b * b).natAbs ≤ 20000 := by have := h.la; have := h.lb; omega
    rw [Int.natAbs_mul] at h1
    have := Nat.le_mul_of_pos_right (a.fdiv b).natAbs (show 0 < b.natAbs by omega)
    omega
  refine ⟨⟨h.e2, by have := h.e1; have := h.e2; grind, by rw [gcd_step']; exact h.g, h.lb, by have := h.lb; omega, .inr ?_⟩, lt, pl⟩
  have lb := h.lb
  rcases h.c with ⟨rfl, rfl, rfl, rfl⟩ | ⟨x, y, m, hx, hs, b1, b2, b3, b4, b5, b6⟩
  · have y0 : 0 < b.natAbs := by omega
    refine ⟨b.natAbs, (a.fmod b).natAbs, 20001, y0, ?_, by simp, by omega, by simp, by simp; omega, ?_, by decide⟩
    · rw [← em]
      rcases Int.lt_or_gt_of_ne hb with h | h
      · right
        have e : a.fmod b = -((-a).fmod (-b)) := by have := Int.neg_fmod_neg a b; omega
        have := Int.fmod_nonneg_of_pos (-a) (show 0 < -b by omega)
        omega
      · left
        have := Int.fmod_nonneg_of_pos a h
        omega
    · rw [em]
      have l2 : b.natAbs * (a - a.fdiv b * b).natAbs ≤ 10000 * 10000 := Nat.mul_le_mul lb (by omega)
      unfold fC
      omega
  · have y0 : 0 < y := by omega
    obtain ⟨ep, hr⟩ := sgn_step x y hx y0 hs
    refine ⟨y, x % y, (x / y + 1) * m, y0, hr, ?_, ?_, ?_, ?_, ?_, ?_⟩
    · rw [Nat.add_mul]; omega
    · rw [Nat.add_mul]; omega
    · rw [ep]; exact nabs_sub_mul s u _ m b1 b3
    · rw [ep]; exact nabs_sub_mul t v _ m b2 b4
    · refine Nat.le_trans ?_ b5
      have k : (x / y + 1) * (y * (x % y)) ≤ x * y := by
        have d := Nat.div_add_mod x y
        have r1 : (x / y) * (x % y) ≤ (x / y) * y := Nat.mul_le_mul_left _ (Nat.le_of_lt (Nat.mod_lt _ y0))
        have r2 : ((x / y) * (x % y) + x % y) * y ≤ x * y := Nat.mul_le_mul_right y (by rw [Nat.mul_comm y] at d; omega)
        grind
      have := Nat.mul_le_mul_left m k
      grind
    · have k : (x / y + 1) ≤ 2 * x * y := by
        have d : x / y ≤ x := Nat.div_le_self _ _
        have := Nat.le_mul_of_pos_right x y0
        have e : 2 * x * y = 2 * (x * y) := by grind
        omega
      have := Nat.mul_le_mul_right m k
      have e : 2 * x * y * m = 2 * (m * (x * y)) := by grind
      omega
theorem FI.start {A B : Int} (h1 : A.natAbs ≤ 10000) (h2 : B.natAbs ≤ 10000) : FI A B 1 0 0 1 A B := ⟨by omega, by omega, rfl, h1, h2, .inl ⟨rfl, rfl, rfl, rfl⟩⟩
theorem FI.bd {A B s t u v a b : Int} (h : FI A B s t u v a b) : s.natAbs ≤ 2 * fC ∧ t.natAbs ≤ 2 * fC := by
  rcases h.c with ⟨rfl, rfl, rfl, rfl⟩ | ⟨x, y, m, _, _, b1, b2, b3, b4, b5, b6⟩
  · exact ⟨by decide, by decide⟩
  · omega
theorem FI.fin {A B s t u v a : Int} (h : FI A B s t u v a 0) : (0 < a → s * A + t * B = Int.gcd A B) ∧ (¬ 0 < a → -s * A + -t * B = Int.gcd A B) := by
  have g := h.g
  rw [Int.gcd_zero_right] at g
  have := h.e1
  constructor
  · intro ha; omega
  · intro ha; grind

end Tn
open Tn
/-! ### the least dot with turn 1 -/
def sz1 (r : Pt) : Int := ab r.1 + ab r.2
def key (r : Pt) : Int × Pt := (sz1 r, r)
def Best (p r : Pt) : Prop := turn p r = 1 ∧ ∀ r', turn p r' = 1 → Do.ltb (key r') (key r) = false
theorem best_one {p r r' : Pt} (h : Best p r) (h' : Best p r') : r = r' := by
  have := Do.tot (key r) (key r') (h'.2 r h.1) (h.2 r' h'.1)
  exact congrArg Prod.snd this
/-- close to the right angle -/
def Close (p r : Pt) : Prop := p.1 * r.1 + p.2 * r.2 < p.1 * p.1 + p.2 * p.2 ∧ -(p.1 * p.1 + p.2 * p.2) < p.1 * r.1 + p.2 * r.2
theorem key_lt {r r' : Pt} (h : sz1 r' < sz1 r) : Do.ltb (key r) (key r') = false := by
  have h1 : ¬ sz1 r < sz1 r' := by omega
  have h2 : sz1 r ≠ sz1 r' := by omega
  show (decide (sz1 r < sz1 r') || (decide (sz1 r = sz1 r') && _)) = false
  simp [h1, h2]
theorem sz1_nn (r : Pt) : 0 ≤ sz1 r := by unfold sz1 ab; omega
theorem to_close (p : Pt) : ∀ (n : Nat) (r : Pt), (sz1 r).toNat ≤ n → turn p r = 1 → ∃ r', turn p r' = 1 ∧ Close p r' ∧ Do.ltb (key r) (key r') = false
  | n, r, hn, ht => by
    by_cases h1 : p.1 * r.1 + p.2 * r.2 < p.1 * p.1 + p.2 * p.2
    · by_cases h2 : -(p.1 * p.1 + p.2 * p.2) < p.1 * r.1 + p.2 * r.2
      · exact ⟨r, ht, ⟨h1, h2⟩, Do.irr _⟩
      · have l : sz1 (r.1 + p.1, r.2 + p.2) < sz1 r := up p.1 p.2 r.1 r.2 ht (by omega)
        have h0 := sz1_nn (r.1 + p.1, r.2 + p.2)
        cases n with
        | zero => omega
        | succ n =>
          obtain ⟨r', a1, a2, a3⟩ := to_close p n (r.1 + p.1, r.2 + p.2) (by omega) (by unfold turn at ht ⊢; grind)
          exact ⟨r', a1, a2, Do.le_trans a3 (key_lt l)⟩
    · have l : sz1 (r.1 - p.1, r.2 - p.2) < sz1 r := down p.1 p.2 r.1 r.2 ht (by omega)
      have h0 := sz1_nn (r.1 - p.1, r.2 - p.2)
      cases n with
      | zero => omega
      | succ n =>
        obtain ⟨r', a1, a2, a3⟩ := to_close p n (r.1 - p.1, r.2 - p.2) (by omega) (by unfold turn at ht ⊢; grind)
        exact ⟨r', a1, a2, Do.le_trans a3 (key_lt l)⟩
/-- the least of some that have all close ones -/
theorem best_of {p : Pt} {l : List Pt} (h1 : ∀ r ∈ l, turn p r = 1) (h2 : ∀ r, turn p r = 1 → Close p r → r ∈ l) {m : Int × Pt} (hm : m ∈ l.map key) (hl : ∀ y ∈ l.map key, Do.ltb y m = false) : Best p m.2 := by
  obtain ⟨r, hr, rfl⟩ := List.mem_map.mp hm
  refine ⟨h1 r hr, fun r' hr' => ?_⟩
  obtain ⟨q, q1, q2, q3⟩ := to_close p _ r' (Nat.le_refl _) hr'
  exact Do.le_trans (hl _ (List.mem_map_of_mem (h2 q q1 q2))) q3
theorem emb_key (r : Pt) : Dm.emb (key r) = PV.tup [.int (sz1 r), pt r] := rfl

/-! ### the code -/
def S_factors : SpV := fun ps Q => ∃ A B : Int, ps = [.int A, .int B] ∧ A.natAbs ≤ 10000 ∧ B.natAbs ≤ 10000 ∧ ∀ s t : Int, s * A + t * B = Int.gcd A B → s.natAbs ≤ 2 * fC → t.natAbs ≤ 2 * fC → Q (.val (pt (s, t)))
def w_factors : WS := (wSeq (wAsg (wTup (wCons (wC (.int 1)) (wCons (wC (.int 0)) (wCons (wC (.int 0)) (wCons (wC (.int 1)) wNil))))) (wgTup 4 (wgCons (wgName 2) (wgCons (wgName 3) (wgCons (wgName 4) (wgCons (wgName 5) wgNil)))))) (wSeq (wPar 6 7 (wCons (wVar 0) (wCons (wVar 1) wNil))) (wSeq (wWhile (wTst (wBin opNe (wVar 7) (wC (.int 0)))) (wSeq (wSet 8 (wBin opFdiv (wVar 6) (wVar 7))) (wSeq (wPar 6 7 (wCons (wVar 7) (wCons (wBin opSub (wVar 6) (wBin opMul (wVar 8) (wVar 7))) wNil))) (wAsg (wTup (wCons (wVar 4) (wCons (wVar 5) (wCons (wBin opSub (wVar 2) (wBin opMul (wVar 8) (wVar 4))) (wCons (wBin opSub (wVar 3) (wBin opMul (wVar 8) (wVar 5))) wNil))))) (wgTup 4 (wgCons (wgName 2) (wgCons (wgName 3) (wgCons (wgName 4) (wgCons (wgName 5) wgNil))))))))) (wRet (wIf (wTst (wBin opGt (wVar 6) (wC (.int 0)))) (wTup (wCons (wVar 2) (wCons (wVar 3) wNil))) (wTup (wCons (wUn opNeg (wVar 2)) (wCons (wUn opNeg (wVar 3)) wNil))))))))
theorem v_factors : SV w_factors 9 S_factors 2 := by
  rintro ps Q - ⟨A, B, rfl, hA, hB, q⟩
  unfold w_factors
  walk_at "vx"
  refine ⟨sz (by decide), ?_⟩
  refine wWhile_ind (fun n ρ => ∃ (s t u v a b : Int) (z : Sl), ρ = [.val (.int A), .val (.int B), .val (.int s), .val (.int t), .val (.int u), .val (.int v), .val (.int a), .val (.int b), z] ∧ FI A B s t u v a b ∧ b.natAbs = n) _
    ⟨1, 0, 0, 1, A, B, _, rfl, FI.start hA hB, rfl⟩ ?_
  rintro n ρ ⟨s, t, u, v, a, b, z, rfl, F, rfl⟩ N hN
  walk_at "vx"
  by_cases h : b = 0
  · subst h
    simp only [decide_true, Bool.not_true, Bool.false_eq_true, if_false]
    have bd := F.bd
    by_cases ha : 0 < a
    · simp only [ha, if_true]
      exact ⟨sz (by decide), q s t (F.fin.1 ha) bd.1 bd.2⟩
    · simp only [ha, if_false]
      exact ⟨sz (by decide), q (-s) (-t) (F.fin.2 ha) (by omega) (by omega)⟩
  · simp only [h, decide_false, Bool.not_false, if_true]
    obtain ⟨F', l, pl⟩ := F.step h
    have lb := F.lb
    refine ⟨divok h (by omega) (by omega), cmul_l (by omega) (by omega), cmul_l (by omega) (by omega), cmul_l (by omega) (by omega), sz (by decide), ?_⟩
    exact hN _ _ l ⟨_, _, _, _, _, _, _, rfl, F', rfl⟩
def S_any_with_turn : SpV := fun ps Q => ∃ p, ps = [pt p] ∧ okRay p = true ∧ ∀ r, turn p r = 1 → r.1.natAbs ≤ 2 * fC → r.2.natAbs ≤ 2 * fC → Q (.val (pt r))
def w_any_with_turn (S_factors : SpV) : WS := (wSeq (wAsg (wCallN 2 S_factors (wCons (wBin opIx (wVar 0) (wC (.int 0))) (wCons (wBin opIx (wVar 0) (wC (.int 1))) wNil))) (wgTup 2 (wgCons (wgName 1) (wgCons (wgName 2) wgNil)))) (wRet (wTup (wCons (wUn opNeg (wVar 2)) (wCons (wVar 1) wNil)))))
theorem okRay_iff {p : Pt} : okRay p = true ↔ (-10000 ≤ p.1 ∧ p.1 ≤ 10000 ∧ -10000 ≤ p.2 ∧ p.2 ≤ 10000) ∧ Int.gcd p.1 p.2 = 1 := by
  unfold okRay; rw [Bool.and_eq_true, okPt_iff, decide_eq_true_eq]
theorem v_any_with_turn : SV (w_any_with_turn S_factors) 3 S_any_with_turn 1 := by
  rintro ps Q - ⟨p, rfl, hp, q⟩
  have h := okRay_iff.mp hp
  unfold w_any_with_turn
  walk_at "vx"
  refine ⟨_, _, rfl, by omega, by omega, fun s t e b1 b2 => ?_⟩
  simp only [pt]
  walk_at "vx"
  refine ⟨sz (by decide), q (-t, s) ?_ (by simpa using b2) (by simpa using b1)⟩
  rw [h.2] at e
  unfold turn
  grind
/-- with_turn's dot -/
def S_raw_with_turn : SpV := fun ps Q => ∃ p, ps = [pt p] ∧ okRay p = true ∧ ∀ r, Best p r → Q (.val (pt r))
def w_raw_with_turn (S_any_with_turn : SpV) : WS := (wSeq (wSet 1 (wCallN 1 S_any_with_turn (wCons (wVar 0) wNil))) (wSeq (wSet 2 (wBin opAdd (wBin opMul (wBin opIx (wVar 0) (wC (.int 0))) (wBin opIx (wVar 0) (wC (.int 0)))) (wBin opMul (wBin opIx (wVar 0) (wC (.int 1))) (wBin opIx (wVar 0) (wC (.int 1)))))) (wSeq (wSet 3 (wBin opFdiv (wUn opNeg (wBin opAdd (wBin opMul (wBin opIx (wVar 1) (wC (.int 0))) (wBin opIx (wVar 0) (wC (.int 0)))) (wBin opMul (wBin opIx (wVar 1) (wC (.int 1))) (wBin opIx (wVar 0) (wC (.int 1)))))) (wVar 2))) (wSeq (wSet 4 (wLst wNil)) (wSeq (wFor (wiRng2 (wCons (wBin opSub (wVar 3) (wC (.int 2))) (wCons (wBin opAdd (wVar 3) (wC (.int 4))) wNil))) (wgName 5) (wSeq (wPar 6 7 (wCons (wBin opAdd (wBin opIx (wVar 1) (wC (.int 0))) (wBin opMul (wVar 5) (wBin opIx (wVar 0) (wC (.int 0))))) (wCons (wBin opAdd (wBin opIx (wVar 1) (wC (.int 1))) (wBin opMul (wVar 5) (wBin opIx (wVar 0) (wC (.int 1))))) wNil))) (wAppend 4 (wTup (wCons (wBin opAdd (wCall opAbs (wCons (wVar 6) wNil)) (wCall opAbs (wCons (wVar 7) wNil))) (wCons (wTup (wCons (wVar 6) (wCons (wVar 7) wNil))) wNil)))))) (wRet (wBin opIx (wCall opMinD (wCons (wVar 4) wNil)) (wC (.int 1)))))))))
theorem pos_sq {a : Int} (h : a ≠ 0) : 0 < a * a := by
  rcases Int.lt_or_gt_of_ne h with h | h
  · exact Int.mul_pos_of_neg_of_neg h h
  · exact Int.mul_pos h h
theorem natAbs_mul_le {a b : Int} {m n : Nat} (h1 : a.natAbs ≤ m) (h2 : b.natAbs ≤ n) : (a * b).natAbs ≤ m * n := by
  rw [Int.natAbs_mul]; exact Nat.mul_le_mul h1 h2
theorem fdiv_abs {a b : Int} (h : 0 < b) : (a.fdiv b).natAbs ≤ a.natAbs + 1 := by
  have e := Int.fmod_def a b
  have l1 := Int.fmod_nonneg_of_pos a h
  have l2 := Int.fmod_lt_of_pos a h
  generalize a.fdiv b = q at *
  by_cases hq : 0 ≤ q
  · have := Int.mul_nonneg (show 0 ≤ b - 1 by omega) hq
    have : b * q - q = (b - 1) * q := by grind
    omega
  · have := Int.mul_nonneg (show 0 ≤ b - 1 by omega) (show 0 ≤ -q - 1 by omega)
    have e2 : -(b * q) - b + q + 1 = (b - 1) * (-q - 1) := by grind
    omega
theorem lex_key (x y : Int) : PV.tup [.int (ab x + ab y), .tup [.int x, .int y]] = Dm.emb (key (x, y)) := rfl
theorem v_raw_with_turn : SV (w_raw_with_turn S_any_with_turn) 8 S_raw_with_turn 1 := by
  rintro ps Q - ⟨p, rfl, hp, q⟩
  have h := (okRay_iff.mp hp).1
  have hw : 0 < p.1 * p.1 + p.2 * p.2 := by
    have s1 := sq_ge p.1
    have s2 := sq_ge p.2
    have g := (okRay_iff.mp hp).2
    by_cases e : p.1 = 0
    · by_cases e2 : p.2 = 0
      · rw [e, e2] at g; cases g
      · have := pos_sq e2 ; omega
    · have := pos_sq e; omega
  unfold w_raw_with_turn
  walk_at "vx"
  refine ⟨p, rfl, hp, fun f hf b1 b2 => ?_⟩
  walk_at "vx"
  have c1 : CMul f.1 p.1 ∧ CMul f.2 p.2 := ⟨cmul_r (by omega) (by omega), cmul_r (by omega) (by omega)⟩
  have sq : p.1 * p.1 + p.2 * p.2 ≤ 200000000 := by
    have := natAbs_mul_le (a := p.1) (b := p.1) (m := 10000) (n := 10000) (by omega) (by omega)
    have := natAbs_mul_le (a := p.2) (b := p.2) (m := 10000) (n := 10000) (by omega) (by omega)
    omega
  refine ⟨cmul_l (by omega) (by omega), cmul_l (by omega) (by omega), c1.1, c1.2, divok (by omega) (by omega) (by omega), sz (by decide), ?_⟩
  generalize hn : (-(f.1 * p.1 + f.2 * p.2)).fdiv (p.1 * p.1 + p.2 * p.2) = near
  have nb : near.natAbs ≤ 1000000000000000000 := by
    have := fdiv_abs (a := -(f.1 * p.1 + f.2 * p.2)) hw
    have := natAbs_mul_le (n := 10000) b1 (show p.1.natAbs ≤ 10000 by omega)
    have := natAbs_mul_le (n := 10000) b2 (show p.2.natAbs ≤ 10000 by omega)
    unfold fC at *
    omega
  refine ⟨by omega, ?_⟩
  rw [rangeP_I, show (near + 4 - (near - 2)).toNat = 6 by omega]
  refine forL_typed PV.int (fun done ρ => ∃ a b c : Sl, ρ = [.val (pt p), .val (pt f), .val (.int (p.1 * p.1 + p.2 * p.2)), .val (.int near), .own ((done.map fun t => key (f.1 + t * p.1, f.2 + t * p.2)).map Dm.emb), a, b, c]) ⟨_, _, _, rfl⟩ ?_ ?_
  · rintro done t ht ρ ⟨a, b, c, rfl⟩ N hN
    have tb := mem_rangeI.mp ht.1
    walk_at "vx"
    refine ⟨cmul_r (by omega) (by omega), cmul_r (by omega) (by omega), ⟨_, rfl⟩, sz (by decide), sz (by decide), ?_⟩
    refine ⟨szl ?_, hN _ ?_⟩
    · have := ht.2; rw [rangeI_len] at this; simp; omega
    · refine ⟨.val (.int t), .val (.int (f.1 + t * p.1)), .val (.int (f.2 + t * p.2)), ?_⟩
      rw [List.map_append, List.map_append]
      rfl
  · rintro ρ ⟨a, b, c, rfl⟩
    walk_at "vx"
    have hm := min_dm (α := Int × Pt) (l := ((rangeI (near - 2) 6).map fun t => (f.1 + t * p.1, f.2 + t * p.2)).map key) (Q := fun r => opIx r.pv (.int 1) Q) (by simp [rangeI]) (by decide) (fun m hm hl => ?_)
    · rw [List.map_map] at hm
      exact hm
    · show opIx (.tup [.int m.1, pt m.2]) (.int 1) Q
      rw [ix_tup' (i := 1) (xs := [.int m.1, pt m.2]) (x := pt m.2) rfl]
      refine q _ (best_of ?_ ?_ hm hl)
      · intro r hr
        obtain ⟨t, _, rfl⟩ := List.mem_map.mp hr
        unfold turn at hf ⊢
        grind
      · intro r hr hc
        obtain ⟨t, e1, e2⟩ := other p.1 p.2 r.1 r.2 f.1 f.2 hr hf
        refine List.mem_map.mpr ⟨t, mem_rangeI.mpr ?_, Prod.ext e1.symm e2.symm⟩
        obtain ⟨c1, c2⟩ := hc
        rw [e1, e2] at c1 c2
        have := near_win (t := t) hw hn.symm c1 c2
        omega
def S_with_turn : SpV := S_raw_with_turn
def w_with_turn (S_check_ray : SpV) (S_raw_with_turn : SpV) : WS := (wSeq (wDrop (wCallN 1 S_check_ray (wCons (wVar 0) wNil))) (wRet (wCallN 1 S_raw_with_turn (wCons (wVar 0) wNil))))
theorem v_with_turn : SV (w_with_turn S_check_ray S_raw_with_turn) 1 S_with_turn 1 := by
  rintro ps Q - ⟨p, rfl, hp, q⟩
  unfold w_with_turn
  walk_at "vx"
  exact ⟨p, rfl, hp, p, rfl, hp, q⟩
end VM
end
section
set_option Elab.async false
set_option linter.all false
set_option maxRecDepth 100000
set_option maxHeartbeats 4000000
open PySem PySem.Spec PyProof.Rows L2 VE
local macro_rules | `(tactic| walk_at "vx") => `(tactic| simp (config := {decide := false}) only [wVar, wC, wBin, wUn, wTst, wAndT, wOrT, wNotT, wAndV, wOrV, wNotV, wIf, wNil, wCons, wTup, wLst, wSl, wNoPart, wPart, wCall, wCallN, wNext, wSeq, wBreak, wCont, wNever, wRet, wRetN, wRet0, wIfS, wDrop, wSet, wPar, wPar3, wgName, wgNil, wgCons, wgTup, wgIx, wAsg, wAug, wAppend, wInsert, bNil, bCons, wParB, wParB3, wAsgB, sets, VM.exB2, VM.exB3, VM.zipP_cons, VM.zipP_nil, VM.compL_cons, VM.compL_nil, wiSeq, wiRng1, wiRng2, wiZip, wiEnum, wFor, wYes, wComp, wChain, wipeR, backR, look, VM.ex2, VM.ex3, VM.eq_int, VM.ne_int, VM.ix_t0, VM.ix_t1, VM.ix_t2, VM.ix_l0, VM.ix_l1, VM.ix_l2, VM.ix_pt0, VM.ix_pt1, VM.eq_bl, VM.ne_bl, VM.eq_str, VM.ne_str, VM.is_non, VM.isnot_non, decide_true, decide_false, decide_eq_true_eq, eq_self, VM.pv_val, VM.pv_own, VM.noOwn_eq, VM.noOwnB, List.all_cons, List.all_nil, Bool.and_self, opInt, opSub, opMod, opFdiv, opPow, opCmpI, opLt, opLe, opGt, opGe, opAdd, opMul, opNeg, opLen, opAbs, opIntC, opMax2, opMin2, opList, opTuple, opSl, opBack, wIxN, wLenN, startR,
  List.set_cons_zero, List.set_cons_succ, List.length_cons, List.length_nil, List.map_cons, List.map_nil, List.replicate_succ, List.replicate_zero, List.nil_append, List.cons_append, Nat.zero_add, Nat.reduceAdd, Nat.reduceSub, if_true, if_false, true_and, and_true, Bool.false_eq_true, ite_true, ite_false, List.cons.injEq, PV.int.injEq, PV.bl.injEq, exists_eq_left, exists_eq_left', exists_and_left, and_self, reduceCtorEq, Bool.not_true, Bool.not_false, ite_self])
local macro_rules | `(tactic| walk_at "vc") => `(tactic| repeat (with_reducible refine And.intro ?_ ?_; focus first | omega | with_reducible rfl | exact VM.szb rfl | exact VM.szlb rfl | exact VM.cmul_l (by omega) (by omega) | exact VM.cmul_r (by omega) (by omega) | exact VM.divok (by omega) (by omega) (by omega) | omega))

namespace VM
theorem atI_get {xs : List PV} {i : Int} {n : Nat} (h : i = n) (hn : n < xs.length) : L2.atI xs i = some xs[n] := by
  subst h
  unfold L2.atI L2.ixN
  simp [hn]
/-- one of a list, whichever -/
def S__law_any : SpV := fun ps Q => ∃ xs, (ps = [.hnd, .lst xs] ∨ ps = [.hnd, .tup xs]) ∧ 0 < xs.length ∧ xs.length < 1000000 ∧ ∀ x ∈ xs, Q (.val x)
def w__law_any (S__law_draw : SpV) : WS := (wRet (wBin opIx (wVar 1) (wCallN 2 S__law_draw (wCons (wVar 0) (wCons (wCall opLen (wCons (wVar 1) wNil)) wNil)))))
theorem v__law_any : SV (w__law_any S__law_draw) 2 S__law_any 2 := by
  rintro ps Q - ⟨xs, rfl | rfl, h0, h1, q⟩
  · unfold w__law_any
    walk_at "vx"
    refine ⟨_, rfl, by omega, by omega, fun r r0 r1 => ?_⟩
    have hr : r.toNat < xs.length := by omega
    exact ⟨xs[r.toNat], atI_get (by omega) hr, q _ (List.getElem_mem hr)⟩
  · unfold w__law_any
    walk_at "vx"
    refine ⟨_, rfl, by omega, by omega, fun r r0 r1 => ?_⟩
    have hr : r.toNat < xs.length := by omega
    exact ⟨xs[r.toNat], atI_get (by omega) hr, q _ (List.getElem_mem hr)⟩
/-- data that is compared with its own like, at most n deep -/
def sameOk : Nat → PV → Prop
  | _, .non => True
  | _, .bl _ => True
  | _, .int _ => True
  | _, .str _ => True
  | n + 1, .tup xs => xs.length ≤ 1000000 ∧ ∀ x ∈ xs, sameOk n x
  | n + 1, .lst xs => xs.length ≤ 1000000 ∧ ∀ x ∈ xs, sameOk n x
  | _, _ => False
theorem sameOk_int {n : Nat} {i : Int} : sameOk n (.int i) := by cases n <;> exact True.intro
theorem sameOk_bl {n : Nat} {i : Bool} : sameOk n (.bl i) := by cases n <;> exact True.intro
theorem sameOk_non {n : Nat} : sameOk n .non := by cases n <;> exact True.intro
theorem sameOk_str {n : Nat} {i : Str} : sameOk n (.str i) := by cases n <;> exact True.intro
theorem sameOk_pt {n : Nat} {p : Pt} : sameOk (n + 1) (pt p) := ⟨by simp, fun x hx => by
  rcases List.mem_cons.mp hx with rfl | hx
  · exact sameOk_int
  · rw [List.mem_singleton.mp hx]; exact sameOk_int⟩
theorem sameOk_lst {α : Type} {n : Nat} {l : List α} {f : α → PV} (h : l.length ≤ 1000000) (hf : ∀ a ∈ l, sameOk n (f a)) : sameOk (n + 1) (.lst (l.map f)) := ⟨by rw [List.length_map]; exact h, fun x hx => by
  obtain ⟨a, ha, rfl⟩ := List.mem_map.mp hx
  exact hf a ha⟩
theorem sameOk_tup {α : Type} {n : Nat} {l : List α} {f : α → PV} (h : l.length ≤ 1000000) (hf : ∀ a ∈ l, sameOk n (f a)) : sameOk (n + 1) (.tup (l.map f)) := ⟨by rw [List.length_map]; exact h, fun x hx => by
  obtain ⟨a, ha, rfl⟩ := List.mem_map.mp hx
  exact hf a ha⟩
theorem sameOk_dat {n : Nat} {p : PV} (h : sameOk n p) : dat p := by
  cases p <;> first | exact dat_int | exact dat_bl | exact dat_str | exact dat_tup | exact dat_lst | exact dat_non | (cases n <;> exact h.elim)
/-- a thing and its like: true -/
def S__law_same (n : Nat) : SpV := fun ps Q => ∃ p, ps = [p, p] ∧ sameOk n p ∧ Q (.val (.bl true))
/-- the calls behind n levels -/
def S_same' : Nat → SpV
  | 0 => fun _ _ => False
  | n + 1 => S__law_same n
def w__law_same (S__law_same : SpV) : WS := (wSeq (wIfS (wOrT (wTst (wCall opIsi (wCons (wVar 1) (wCons (wC (.ty "tuple")) wNil)))) (wTst (wCall opIsi (wCons (wVar 1) (wCons (wC (.ty "list")) wNil))))) (wSeq (wIfS (wOrT (wTst (wBin opNe (wCall opIsi (wCons (wVar 0) (wCons (wC (.ty "tuple")) wNil))) (wCall opIsi (wCons (wVar 1) (wCons (wC (.ty "tuple")) wNil))))) (wTst (wBin opNe (wCall opIsi (wCons (wVar 0) (wCons (wC (.ty "list")) wNil))) (wCall opIsi (wCons (wVar 1) (wCons (wC (.ty "list")) wNil)))))) (wRet (wC (.bl false))) wNext) (wRet (wAndV (wBin opEq (wCall opLen (wCons (wVar 0) wNil)) (wCall opLen (wCons (wVar 1) wNil))) (wCall opAll (wCons (wComp (wiZip (wCons (wVar 0) (wCons (wVar 1) wNil))) (wgTup 2 (wgCons (wgName 2) (wgCons (wgName 3) wgNil))) wYes (wCallN 2 S__law_same (wCons (wVar 2) (wCons (wVar 3) wNil))) [2, 3]) wNil))))) wNext) (wSeq (wIfS (wOrT (wTst (wBin opNe (wCall opIsi (wCons (wVar 0) (wCons (wC (.ty "bool")) wNil))) (wCall opIsi (wCons (wVar 1) (wCons (wC (.ty "bool")) wNil))))) (wTst (wBin opNe (wBin opIs (wVar 0) (wC .non)) (wBin opIs (wVar 1) (wC .non))))) (wRet (wC (.bl false))) wNext) (wRet (wAndV (wBin opEq (wCall opIsi (wCons (wVar 0) (wCons (wC (.ty "int")) wNil))) (wCall opIsi (wCons (wVar 1) (wCons (wC (.ty "int")) wNil)))) (wBin opEq (wVar 0) (wVar 1))))))
theorem zipP_self (xs : List PV) : zipP xs xs = xs.map fun x => PV.tup [x, x] := by
  unfold zipP
  induction xs with
  | nil => rfl
  | cons x xs ih => simp [ih]
theorem all_true {α : Type} {l : List α} : (l.map fun _ => PV.bl true) = (l.map fun _ => true).map PV.bl := by simp
theorem all_tt {α : Type} {l : List α} : (l.map fun _ => true).all id = true := by
  induction l with
  | nil => rfl
  | cons _ _ ih => rw [List.map_cons, List.all_cons, ih]; rfl
theorem v__law_same (n : Nat) : SV (w__law_same (S_same' n)) 4 (S__law_same n) 2 := by
  rintro ps Q - ⟨p, rfl, hp, q⟩
  have hd := sameOk_dat hp
  unfold w__law_same
  walk_at "vx"
  simp only [isi_tuple hd, isi_list hd, isi_int hd, isi_bool hd, is_non, eq_bl, ne_bl, decide_true]
  have deep : ∀ (xs : List PV), xs.length ≤ 1000000 → (∀ x ∈ xs, ∀ R : Sl → Prop, R (.val (.bl true)) → S_same' n [x, x] R) → ∀ (ρ : Rho) (R : List PV → Rho → Prop), (∀ x, ρ = wipeR [.val x, .val x, .no, .no] [2, 3] → R (xs.map fun _ => .bl true) ρ) → True := fun _ _ _ _ _ _ => trivial
  cases p with
  | tup xs =>
    simp only [kT, kL]
    walk_at "vx"
    cases n with
    | zero => exact hp.elim
    | succ n =>
      rw [zipP_self]
      refine compL_map (fun x => PV.tup [x, x]) (fun _ => .bl true) xs hp.1 (fun y hy k N hk hN => ?_) ?_
      · walk_at "vx"
        exact ⟨y, rfl, hp.2 y hy, hk, hN⟩
      · show opAll [.lst _] _
        rw [all_true, all_bl, all_tt]
        exact q
  | lst xs =>
    simp only [kT, kL]
    walk_at "vx"
    cases n with
    | zero => exact hp.elim
    | succ n =>
      rw [zipP_self]
      refine compL_map (fun x => PV.tup [x, x]) (fun _ => .bl true) xs hp.1 (fun y hy k N hk hN => ?_) ?_
      · walk_at "vx"
        exact ⟨y, rfl, hp.2 y hy, hk, hN⟩
      · show opAll [.lst _] _
        rw [all_true, all_bl, all_tt]
        exact q
  | int i =>
    simp only [kT, kL]
    walk_at "vx"
    exact q
  | bl i =>
    simp only [kT, kL]
    walk_at "vx"
    exact q
  | non =>
    simp only [kT, kL]
    walk_at "vx"
    exact .inl ⟨_, _, rfl, rfl, rfl, rfl, q⟩
  | str x =>
    simp only [kT, kL]
    walk_at "vx"
    exact q
  | _ => cases n <;> exact hp.elim
/-- a thing in n tuples and lists of one -/
inductive Nest (p : PV) : Nat → PV → Prop
  | nil : Nest p 0 p
  | tup {n x} : Nest p n x → Nest p (n + 1) (.tup [x])
  | lst {n x} : Nest p n x → Nest p (n + 1) (.lst [x])
def S__law_deep : SpV := fun ps Q => ∃ p, ps = [.hnd, p] ∧ ∀ n y, 5 ≤ n → n < 50 → Nest p n y → Q (.val y)
def w__law_deep (S__law_any : SpV) (S__law_draw : SpV) : WS := (wSeq (wFor (wiRng1 (wCons (wBin opAdd (wC (.int 5)) (wCallN 2 S__law_draw (wCons (wVar 0) (wCons (wC (.int 45)) wNil)))) wNil)) (wgName 2) (wSet 1 (wCallN 2 S__law_any (wCons (wVar 0) (wCons (wLst (wCons (wTup (wCons (wVar 1) wNil)) (wCons (wLst (wCons (wVar 1) wNil)) wNil))) wNil))))) (wRetN 1))
theorem rangeP_len {a : Int} {n : Nat} : (rangeP a n).length = n := by unfold rangeP; simp
theorem v__law_deep : SV (w__law_deep S__law_any S__law_draw) 3 S__law_deep 2 := by
  rintro ps Q - ⟨p, rfl, q⟩
  unfold w__law_deep
  walk_at "vx"
  refine ⟨_, rfl, by omega, by omega, fun r r0 r1 => ?_⟩
  refine ⟨by omega, by omega, ?_⟩
  refine forL_ind (J := fun rest ρ => ∃ n x l, ρ = [.val .hnd, .val x, l] ∧ Nest p n x ∧ n + rest.length = (5 + r).toNat ∧ ∀ ys, l ≠ .own ys) ?_ ?_ _ _ ⟨0, p, .no, rfl, .nil, by rw [rangeP_len]; omega, fun _ h => nomatch h⟩
  · rintro z zs ρ ⟨n, x, l, rfl, hn, hl, _⟩ N hN
    walk_at "vx"
    refine ⟨sz (by decide), sz (by decide), sz (by decide), _, .inl rfl, by simp, by simp, fun y hy => hN _ ?_⟩
    rw [List.length_cons] at hl
    rcases List.mem_cons.mp hy with rfl | hy
    · exact ⟨n + 1, _, _, rfl, .tup hn, by omega, fun _ h => nomatch h⟩
    · rw [List.mem_singleton.mp hy]
      exact ⟨n + 1, _, _, rfl, .lst hn, by omega, fun _ h => nomatch h⟩
  · rintro ρ ⟨n, x, l, rfl, hn, hl, _⟩
    walk_at "vx"
    exact q n x (by rw [List.length_nil] at hl; omega) (by rw [List.length_nil] at hl; omega) hn
def S__law_is_integer : SpV := S_is_integer
def w__law_is_integer : WS := (wRet (wAndV (wCall opIsi (wCons (wVar 0) (wCons (wC (.ty "int")) wNil))) (wNotV (wCall opIsi (wCons (wVar 0) (wCons (wC (.ty "bool")) wNil))))))
theorem v__law_is_integer : SV w__law_is_integer 1 S__law_is_integer 1 := v_is_integer
def S__law_common : SpV := S_common_divisor
def w__law_common : WS := (wSeq (wPar 0 1 (wCons (wCall opAbs (wCons (wVar 0) wNil)) (wCons (wCall opAbs (wCons (wVar 1) wNil)) wNil))) (wSeq (wWhile (wTst (wBin opGt (wVar 1) (wC (.int 0)))) (wPar 0 1 (wCons (wVar 1) (wCons (wBin opMod (wCall opIntC (wCons (wVar 0) wNil)) (wVar 1)) wNil)))) (wRetN 0)))
theorem v__law_common : SV w__law_common 2 S__law_common 2 := by
  rintro ps Q - ⟨a, b, rfl, q⟩
  unfold w__law_common
  walk_at "vx"
  refine wWhile_ind (fun n ρ => ∃ x y : Int, ρ = [.val (.int x), .val (.int y)] ∧ 0 ≤ x ∧ 0 ≤ y ∧ y.toNat = n ∧ Int.gcd x y = Int.gcd a b) _ ⟨_, _, rfl, abs_nn _, abs_nn _, rfl, gcd_abs a b⟩ ?_
  rintro n ρ ⟨x, y, rfl, hx, hy, rfl, hg⟩ N hN
  walk_at "vx"
  by_cases h : 0 < y
  · simp only [h, decide_true, if_true]
    refine ⟨by omega, hN (x.fmod y).toNat _ ?_ ⟨_, _, rfl, hy, ?_, rfl, gcd_step.trans hg⟩⟩
    · have := Int.fmod_lt_of_pos x h; have := Int.fmod_nonneg_of_pos x h; omega
    · exact Int.fmod_nonneg_of_pos x h
  · have : y = 0 := by omega
    subst this
    simp
    rw [Int.gcd_zero_right] at hg
    have : x = (Int.gcd a b : Int) := by omega
    rw [this]; exact q
def S__law_turn : SpV := S_raw_turn
def w__law_turn : WS := (wRet (wBin opSub (wBin opMul (wBin opIx (wVar 0) (wC (.int 0))) (wBin opIx (wVar 1) (wC (.int 1)))) (wBin opMul (wBin opIx (wVar 0) (wC (.int 1))) (wBin opIx (wVar 1) (wC (.int 0))))))
theorem v__law_turn : SV w__law_turn 2 S__law_turn 2 := v_raw_turn
/-- a ray with numbers to most -/
def S__law_ray : SpV := fun ps Q => ∃ most : Int, ps = [.hnd, .int most] ∧ 1 ≤ most ∧ most ≤ 100000000 ∧ ∀ p : Pt, Int.gcd p.1 p.2 = 1 → -most ≤ p.1 → p.1 ≤ most → -most ≤ p.2 → p.2 ≤ most → Q (.val (pt p))
def w__law_ray (S__law_common : SpV) (S__law_draw : SpV) : WS := (wSeq (wPar 2 3 (wCons (wBin opSub (wCallN 2 S__law_draw (wCons (wVar 0) (wCons (wBin opAdd (wBin opMul (wC (.int 2)) (wVar 1)) (wC (.int 1))) wNil))) (wVar 1)) (wCons (wBin opSub (wCallN 2 S__law_draw (wCons (wVar 0) (wCons (wBin opAdd (wBin opMul (wC (.int 2)) (wVar 1)) (wC (.int 1))) wNil))) (wVar 1)) wNil))) (wSeq (wSet 4 (wCallN 2 S__law_common (wCons (wVar 2) (wCons (wVar 3) wNil)))) (wRet (wIf (wTst (wBin opGt (wVar 4) (wC (.int 0)))) (wTup (wCons (wBin opFdiv (wVar 2) (wVar 4)) (wCons (wBin opFdiv (wVar 3) (wVar 4)) wNil))) (wTup (wCons (wC (.int 1)) (wCons (wC (.int 0)) wNil)))))))
theorem ediv_bd {a m : Int} {g : Nat} (h1 : -m ≤ a) (h2 : a ≤ m) : -m ≤ a / (g : Int) ∧ a / (g : Int) ≤ m := by
  have := Int.natAbs_ediv_le_natAbs a g
  omega
theorem v__law_ray : SV (w__law_ray S__law_common S__law_draw) 5 S__law_ray 2 := by
  rintro ps Q - ⟨m, rfl, m1, m2, q⟩
  unfold w__law_ray
  walk_at "vx"
  refine ⟨cmul_l (by omega) (by omega), _, rfl, by omega, by omega, fun r r0 r1 => ?_⟩
  walk_at "vx"
  refine ⟨cmul_l (by omega) (by omega), _, rfl, by omega, by omega, fun s s0 s1 => ?_⟩
  walk_at "vx"
  refine ⟨_, _, rfl, ?_⟩
  walk_at "vx"
  have hs : smP (r - m, s - m) := ⟨by show _ < r - m; omega, by show r - m < _; omega, by show _ < s - m; omega, by show s - m < _; omega⟩
  by_cases h : 0 < Int.gcd (r - m) (s - m)
  · have h2 := gcd_lt hs
    dsimp only at h2
    rw [if_pos (by simpa using (by omega : (0 : Int) < (Int.gcd (r - m) (s - m) : Int)))]
    refine ⟨divok (by omega) (by omega) (by omega), divok (by omega) (by omega) (by omega), sz (by decide), ?_⟩
    rw [fdiv_nn, fdiv_nn]
    have b1 := ediv_bd (g := Int.gcd (r - m) (s - m)) (show -m ≤ r - m by omega) (show r - m ≤ m by omega)
    have b2 := ediv_bd (g := Int.gcd (r - m) (s - m)) (show -m ≤ s - m by omega) (show s - m ≤ m by omega)
    exact q (_, _) (Int.gcd_ediv_gcd_ediv_gcd h) b1.1 b1.2 b2.1 b2.2
  · rw [if_neg (by simpa using (by omega : ¬ (0 : Int) < (Int.gcd (r - m) (s - m) : Int)))]
    exact ⟨sz (by decide), q (1, 0) (by decide) (by show -m ≤ 1; omega) (by show 1 ≤ m; omega) (by show -m ≤ 0; omega) (by show 0 ≤ m; omega)⟩
end VM
end
section
set_option Elab.async false
set_option linter.all false
set_option maxRecDepth 100000
set_option maxHeartbeats 4000000
open PySem PySem.Spec PyProof.Rows L2 VE
local macro_rules | `(tactic| walk_at "vx") => `(tactic| simp (config := {decide := false}) only [wVar, wC, wBin, wUn, wTst, wAndT, wOrT, wNotT, wAndV, wOrV, wNotV, wIf, wNil, wCons, wTup, wLst, wSl, wNoPart, wPart, wCall, wCallN, wNext, wSeq, wBreak, wCont, wNever, wRet, wRetN, wRet0, wIfS, wDrop, wSet, wPar, wPar3, wgName, wgNil, wgCons, wgTup, wgIx, wAsg, wAug, wAppend, wInsert, bNil, bCons, wParB, wParB3, wAsgB, sets, VM.exB2, VM.exB3, VM.zipP_cons, VM.zipP_nil, VM.compL_cons, VM.compL_nil, wiSeq, wiRng1, wiRng2, wiZip, wiEnum, wFor, wYes, wComp, wChain, wipeR, backR, look, VM.ex2, VM.ex3, VM.eq_int, VM.ne_int, VM.ix_t0, VM.ix_t1, VM.ix_t2, VM.ix_l0, VM.ix_l1, VM.ix_l2, VM.ix_pt0, VM.ix_pt1, VM.eq_bl, VM.ne_bl, VM.eq_str, VM.ne_str, VM.is_non, VM.isnot_non, decide_true, decide_false, decide_eq_true_eq, eq_self, VM.pv_val, VM.pv_own, VM.noOwn_eq, VM.noOwnB, List.all_cons, List.all_nil, Bool.and_self, opInt, opSub, opMod, opFdiv, opPow, opCmpI, opLt, opLe, opGt, opGe, opAdd, opMul, opNeg, opLen, opAbs, opIntC, opMax2, opMin2, opList, opTuple, opSl, opBack, wIxN, wLenN, startR,
  List.set_cons_zero, List.set_cons_succ, List.length_cons, List.length_nil, List.map_cons, List.map_nil, List.replicate_succ, List.replicate_zero, List.nil_append, List.cons_append, Nat.zero_add, Nat.reduceAdd, Nat.reduceSub, if_true, if_false, true_and, and_true, Bool.false_eq_true, ite_true, ite_false, List.cons.injEq, PV.int.injEq, PV.bl.injEq, exists_eq_left, exists_eq_left', exists_and_left, and_self, reduceCtorEq, Bool.not_true, Bool.not_false, ite_self])
local macro_rules | `(tactic| walk_at "vc") => `(tactic| repeat (with_reducible refine And.intro ?_ ?_; focus first | omega | with_reducible rfl | exact VM.szb rfl | exact VM.szlb rfl | exact VM.cmul_l (by omega) (by omega) | exact VM.cmul_r (by omega) (by omega) | exact VM.divok (by omega) (by omega) (by omega) | omega))

namespace VM
/-! ### things that are shown -/
structure ShD (d : PyData) (n w : Nat) : Prop where
  sh : d.showable = true
  dep : d.depth ≤ n
  lf : d.leavesShort 40 = true
  wt : d.weight ≤ w
structure ShDs (ds : List PyData) (n w : Nat) : Prop where
  sh : PyData.showableAll ds = true
  dep : PyData.depthAll ds ≤ n
  lf : PyData.leavesShortAll 40 ds = true
  wt : PyData.weightAll ds ≤ w
/-- shown, at most n deep, of that weight -/
def Sh (p : PV) (n w : Nat) : Prop := ∃ d, toD p = some d ∧ ShD d n w
def Shs (ps : List PV) (n w : Nat) : Prop := ∃ ds, toDs ps = some ds ∧ ShDs ds n w
theorem sh_non : Sh .non 0 0 := ⟨_, rfl, rfl, Nat.le_refl _, rfl, Nat.le_refl _⟩
theorem sh_bl {b : Bool} : Sh (.bl b) 0 0 := ⟨_, rfl, rfl, Nat.le_refl _, rfl, Nat.le_refl _⟩
theorem log2_lt_128 {i : Int} (h : i.natAbs < 10 ^ 32) : i.natAbs.log2 < 128 := by
  by_cases h0 : i.natAbs = 0
  · rw [h0]; decide
  · exact (Nat.log2_lt h0).mpr (Nat.lt_trans h (by decide))
theorem sh_int {i : Int} (h : i.natAbs < 10 ^ 32) : Sh (.int i) 0 128 := by
  have l := log2_lt_128 h
  refine ⟨_, rfl, ?_, Nat.le_refl _, ?_, ?_⟩
  · simp only [PyData.showable, decide_eq_true_eq]; omega
  · simp only [PyData.leavesShort, decide_eq_true_eq, PyData.shown]
    have e := int_text_length_le10 (a := i) (k := 32) (by decide) h
    have : (Str.ofString (toString i)).length ≤ 40 := by rw [PySem.ofString_length]; omega
    exact decide_eq_true this
  · simp only [PyData.weight]
    split <;> omega
theorem shs_nil : Shs [] 0 0 := ⟨[], rfl, rfl, Nat.le_refl _, rfl, Nat.le_refl _⟩
theorem shs_cons {p : PV} {ps : List PV} {a b m n : Nat} (h : Sh p a m) (h' : Shs ps b n) : Shs (p :: ps) (max a b) (m + 1 + n) := by
  obtain ⟨d, e, h⟩ := h
  obtain ⟨ds, e', h'⟩ := h'
  refine ⟨d :: ds, by simp only [toDs, e, e'], ?_, ?_, ?_, ?_⟩
  · simp only [PyData.showableAll, h.sh, h'.sh, Bool.and_self]
  · have := h.dep; have := h'.dep; simp only [PyData.depthAll]; omega
  · simp only [PyData.leavesShortAll, h.lf, h'.lf, Bool.and_self]
  · have := h.wt; have := h'.wt; simp only [PyData.weightAll]; omega
theorem sh_tup {ps : List PV} {n w : Nat} (h : Shs ps n w) : Sh (.tup ps) (n + 1) w := by
  obtain ⟨ds, e, h⟩ := h
  refine ⟨.tuple ds, toD_tup e, ?_, ?_, ?_, ?_⟩
  · simp only [PyData.showable]; exact h.sh
  · simp only [PyData.depth]; exact Nat.succ_le_succ h.dep
  · simp only [PyData.leavesShort]; exact h.lf
  · simp only [PyData.weight]; exact h.wt
theorem sh_lst {ps : List PV} {n w : Nat} (h : Shs ps n w) : Sh (.lst ps) (n + 1) w := by
  obtain ⟨ds, e, h⟩ := h
  refine ⟨.list ds, toD_lst e, ?_, ?_, ?_, ?_⟩
  · simp only [PyData.showable]; exact h.sh
  · simp only [PyData.depth]; exact Nat.succ_le_succ h.dep
  · simp only [PyData.leavesShort]; exact h.lf
  · simp only [PyData.weight]; exact h.wt
theorem sh_str {x : Str} {w : Nat} (h : (x.cps.toList.all fun c => decide (c < 16 ^ 8)) = true) (hw : x.cps.size ≤ w) : Sh (.str x) 0 w := by
  refine ⟨_, rfl, rfl, Nat.le_refl _, ?_, ?_⟩
  · simp only [PyData.leavesShort]; exact h
  · simp only [PyData.weight]; exact hw
theorem Sh.up {p : PV} {n w n' w' : Nat} (h : Sh p n w) (h1 : n ≤ n') (h2 : w ≤ w') : Sh p n' w' := by
  obtain ⟨d, e, h⟩ := h
  exact ⟨d, e, h.sh, Nat.le_trans h.dep h1, h.lf, Nat.le_trans h.wt h2⟩
theorem sh_nest {p y : PV} {n a w : Nat} (h : Sh p a w) (hn : Nest p n y) : Sh y (a + n) (w + n) := by
  induction hn with
  | nil => exact h
  | tup _ ih => exact (sh_tup (shs_cons ih shs_nil)).up (by omega) (by omega)
  | lst _ ih => exact (sh_lst (shs_cons ih shs_nil)).up (by omega) (by omega)
theorem sh_chars {x : Str} (h : ∀ c ∈ x.cps.toList, c < 1114112) : (x.cps.toList.all fun c => decide (c < 16 ^ 8)) = true := by
  rw [List.all_eq_true]
  intro c hc
  have := h c hc
  exact decide_eq_true (by omega)
theorem chars_of (s : String) : ∀ c ∈ (Str.ofString s).cps.toList, c < 1114112 := by
  intro c hc
  have e : (Str.ofString s).cps.toList = s.toList.map Char.toNat := by rw [Str.ofString_eq_toList]
  rw [e] at hc
  obtain ⟨ch, _, rfl⟩ := List.mem_map.mp hc
  have := ch.valid
  unfold UInt32.isValidChar Nat.isValidChar at this
  show ch.val.toNat < _
  omega
theorem sh_text {i : Int} (h : i.natAbs < 10 ^ 32) : Sh (.str (toString i)) 0 40 := by
  refine sh_str (sh_chars (chars_of _)) ?_
  have e := int_text_length_le10 (a := i) (k := 32) (by decide) h
  have : (Str.ofString (toString i)).length ≤ 40 := by rw [PySem.ofString_length]; omega
  exact this
/-- what is shown of it, if it can be shown: any text -/
def Shown (p : PV) : Prop := (∃ n w, n ≤ 64 ∧ w ≤ 10000 ∧ Sh p n w) ∨ p = .dct0
theorem repr_of {p : PV} (h : Shown p) : ∃ x, ∀ Q : Sl → Prop, Q (.val (.str x)) → opRepr [p] Q := by
  rcases h with ⟨n, w, hn, hw, d, e, h⟩ | rfl
  · refine ⟨d.shown, fun Q q => ⟨p, rfl, .inl ⟨d, e, h.sh, Nat.le_trans h.dep hn, ?_, q⟩⟩⟩
    have h1 := PyData.shown_le 40 (by omega) d h.lf
    have h2 := h.wt
    have : 42 * d.weight ≤ 42 * 10000 := Nat.mul_le_mul_left 42 (by omega)
    rw [sizeLine_eq]; omega
  · exact ⟨_, fun Q q => ⟨.dct0, rfl, .inr ⟨rfl, q⟩⟩⟩
end VM
end
section
set_option Elab.async false
set_option linter.all false
namespace VM
namespace Ch
/-- the chain of n over q -/
def hjN : Nat → Int → Int → List Int
  | 0, _, _ => []
  | k + 1, n, q => if 0 < q then (n + q - 1) / q :: hjN k q ((n + q - 1) / q * q - n) else []
theorem up_div {n q : Int} (hq : 0 < q) : 0 ≤ (n + q - 1) / q * q - n ∧ (n + q - 1) / q * q - n < q := by
  have h1 := Int.emod_nonneg (n + q - 1) (show q ≠ 0 by omega)
  have h2 := Int.emod_lt_of_pos (n + q - 1) hq
  have h3 := Int.mul_ediv_add_emod (n + q - 1) q
  rw [Int.mul_comm] at h3
  omega
theorem hjN_stop : ∀ (k j : Nat) (n q : Int), q.toNat ≤ k → q.toNat ≤ j → hjN k n q = hjN j n q
  | 0, 0, _, _, _, _ => rfl
  | 0, j + 1, n, q, h, _ => by unfold hjN; rw [if_neg (by omega)]
  | k + 1, 0, n, q, _, h => by unfold hjN; rw [if_neg (by omega)]
  | k + 1, j + 1, n, q, h1, h2 => by
    unfold hjN
    by_cases hq : 0 < q
    · rw [if_pos hq, if_pos hq, hjN_stop k j _ _ (by have := up_div (n := n) hq; omega) (by have := up_div (n := n) hq; omega)]
    · rw [if_neg hq, if_neg hq]
def hj (n q : Int) : List Int := hjN q.toNat n q
theorem hj_zero {n q : Int} (h : ¬ 0 < q) : hj n q = [] := by
  unfold hj
  rw [show q.toNat = 0 by omega]; rfl
theorem hj_step {n q : Int} (h : 0 < q) : hj n q = (n + q - 1) / q :: hj q ((n + q - 1) / q * q - n) := by
  have u := up_div (n := n) h
  unfold hj
  rw [show q.toNat = (q.toNat - 1) + 1 by omega]
  rw [hjN, if_pos h, hjN_stop _ _ _ _ (by omega) (Nat.le_refl _)]
/-- a row's number -/
def bc : List Int → Int × Int
  | [] => (1, 0)
  | c :: r => (c * (bc r).1 - (bc r).2, (bc r).1)
theorem gcd_up {n q p : Int} : Int.gcd q (p * q - n) = Int.gcd n q := by
  rw [show p * q - n = -(n - q * p) by grind, Int.gcd_neg, Int.gcd_comm, Int.sub_eq_add_neg, ← Int.mul_neg, Int.gcd_add_mul_left_left]
theorem bc_hj : ∀ (k : Nat) (n q : Int), q.toNat ≤ k → 0 ≤ q → 0 < n → Int.gcd n q = 1 → bc (hj n q) = (n, q)
  | k, n, q, hk, h0, hn, hg => by
    by_cases hq : 0 < q
    · have u := up_div (n := n) hq
      rw [hj_step hq]
      cases k with
      | zero => omega
      | succ k =>
        have ih := bc_hj k q ((n + q - 1) / q * q - n) (by omega) u.1 hq (by rw [gcd_up]; exact hg)
        unfold bc
        rw [ih]
        exact Prod.ext (by show _ * q - _ = n; omega) rfl
    · have : q = 0 := by omega
      subst this
      rw [hj_zero hq, Int.gcd_zero_right] at *
      have : n = 1 := by omega
      subst this; rfl
theorem hj_two : ∀ (k : Nat) (n q : Int), q.toNat ≤ k → 0 ≤ q → q < n → ∀ c ∈ hj n q, 2 ≤ c ∧ c ≤ n
  | k, n, q, hk, h0, hn, c, hc => by
    by_cases hq : 0 < q
    · have u := up_div (n := n) hq
      rw [hj_step hq] at hc
      have p2 : 2 ≤ (n + q - 1) / q := by
        apply Int.not_lt.mp; intro hp
        have := Int.mul_nonneg (show 0 ≤ 1 - (n + q - 1) / q by omega) (show 0 ≤ q by omega)
        grind
      have pn : (n + q - 1) / q ≤ n := by
        apply Int.not_lt.mp; intro hp
        have := Int.mul_nonneg (show 0 ≤ (n + q - 1) / q - n - 1 by omega) (show 0 ≤ q by omega)
        have := Int.mul_nonneg (show 0 ≤ n by omega) (show 0 ≤ q - 1 by omega)
        grind
      rcases List.mem_cons.mp hc with rfl | hc
      · exact ⟨p2, pn⟩
      · cases k with
        | zero => omega
        | succ k =>
          have := hj_two k q _ (by omega) u.1 u.2 c hc
          omega
    · rw [hj_zero hq] at hc; cases hc
/-- rows of numbers from 2 on -/
theorem bc_row : ∀ r : List Int, (∀ c ∈ r, 2 ≤ c) → 0 ≤ (bc r).2 ∧ (bc r).2 < (bc r).1 ∧ Int.gcd (bc r).1 (bc r).2 = 1 ∧ hj (bc r).1 (bc r).2 = r ∧ (r ≠ [] → 0 < (bc r).2)
  | [], _ => ⟨by decide, by decide, by decide, by rw [hj_zero (by decide)], fun h => absurd rfl h⟩
  | c :: r, h => by
    obtain ⟨a1, a2, a3, a4, _⟩ := bc_row r fun d hd => h d (List.mem_cons_of_mem _ hd)
    have c2 := h c List.mem_cons_self
    show 0 ≤ (bc r).1 ∧ (bc r).1 < c * (bc r).1 - (bc r).2 ∧ Int.gcd (c * (bc r).1 - (bc r).2) (bc r).1 = 1 ∧ hj (c * (bc r).1 - (bc r).2) (bc r).1 = c :: r ∧ (_ → 0 < (bc r).1)
    generalize bc r = z at *
    have m := Int.mul_nonneg (show 0 ≤ c - 2 by omega) (show 0 ≤ z.1 by omega)
    have e : c * z.1 = 2 * z.1 + (c - 2) * z.1 := by grind
    have hp : (c * z.1 - z.2 + z.1 - 1) / z.1 = c := by
      have e2 : c * z.1 - z.2 + z.1 - 1 = (z.1 - 1 - z.2) + c * z.1 := by grind
      rw [e2, Int.add_mul_ediv_right _ _ (by omega), Int.ediv_eq_zero_of_lt (by omega) (by omega)]; omega
    refine ⟨by omega, by omega, ?_, ?_, fun _ => by omega⟩
    · rw [Int.gcd_comm]
      have := gcd_up (n := z.2) (q := z.1) (p := c)
      rw [this, Int.gcd_comm]; exact a3
    · rw [hj_step (by omega), hp]
      rw [show c * z.1 - (c * z.1 - z.2) = z.2 by omega, a4]
/-- the row's table -/
def tb : List Int → Int × Int × Int × Int
  | [] => (1, 0, 0, 1)
  | c :: r => (c * (tb r).1 - (tb r).2.2.1, c * (tb r).2.1 - (tb r).2.2.2, (tb r).1, (tb r).2.1)
theorem tb_bc : ∀ r : List Int, (tb r).1 = (bc r).1 ∧ (tb r).2.2.1 = (bc r).2
  | [] => ⟨rfl, rfl⟩
  | c :: r => by
    obtain ⟨h1, h2⟩ := tb_bc r
    exact ⟨by show c * (tb r).1 - (tb r).2.2.1 = c * (bc r).1 - (bc r).2; rw [h1, h2], h1⟩
theorem tb_det : ∀ r : List Int, (tb r).1 * (tb r).2.2.2 - (tb r).2.1 * (tb r).2.2.1 = 1
  | [] => rfl
  | c :: r => by
    have := tb_det r
    show (c * (tb r).1 - (tb r).2.2.1) * (tb r).2.1 - (c * (tb r).2.1 - (tb r).2.2.2) * (tb r).1 = 1
    grind
theorem tb_snoc : ∀ (r : List Int) (c : Int), tb (r ++ [c]) = ((tb r).1 * c + (tb r).2.1, -(tb r).1, (tb r).2.2.1 * c + (tb r).2.2.2, -(tb r).2.2.1)
  | [], c => by show (c * 1 - 0, c * 0 - 1, (1 : Int), (0 : Int)) = _; simp [tb]
  | d :: r, c => by
    have := tb_snoc r c
    show (d * (tb (r ++ [c])).1 - (tb (r ++ [c])).2.2.1, d * (tb (r ++ [c])).2.1 - (tb (r ++ [c])).2.2.2, (tb (r ++ [c])).1, (tb (r ++ [c])).2.1) = _
    rw [this]
    exact Prod.ext (by simp only [tb]; grind) (Prod.ext (by simp only [tb]; grind) (Prod.ext (by simp only [tb]) (by simp only [tb])))
theorem tb_rev : ∀ r : List Int, tb r.reverse = ((tb r).1, -(tb r).2.2.1, -(tb r).2.1, (tb r).2.2.2)
  | [] => rfl
  | c :: r => by
    rw [List.reverse_cons, tb_snoc, tb_rev r]
    exact Prod.ext (by simp only [tb]; grind) (Prod.ext (by simp only [tb]) (Prod.ext (by simp only [tb]; grind) (by simp only [tb]; grind)))
theorem bc_rev (r : List Int) : (bc r.reverse).1 = (bc r).1 ∧ ∃ u, (bc r).2 * (bc r.reverse).2 = 1 + (bc r).1 * u := by
  have h1 := tb_bc r
  have h2 := tb_bc r.reverse
  have h3 := tb_rev r
  have h4 := tb_det r
  have e1 : (tb r.reverse).1 = (tb r).1 := by rw [h3]
  have e2 : (tb r.reverse).2.2.1 = -(tb r).2.1 := by rw [h3]
  refine ⟨by rw [← h2.1, e1, h1.1], -(tb r).2.2.2, ?_⟩
  rw [← h2.2, e2, ← h1.1, ← h1.2]
  grind
end Ch
end VM
end
section
set_option Elab.async false
set_option linter.all false
set_option maxRecDepth 100000
set_option maxHeartbeats 4000000
open PySem PySem.Spec PyProof.Rows L2 VE
local macro_rules | `(tactic| walk_at "vx") => `(tactic| simp (config := {decide := false}) only [wVar, wC, wBin, wUn, wTst, wAndT, wOrT, wNotT, wAndV, wOrV, wNotV, wIf, wNil, wCons, wTup, wLst, wSl, wNoPart, wPart, wCall, wCallN, wNext, wSeq, wBreak, wCont, wNever, wRet, wRetN, wRet0, wIfS, wDrop, wSet, wPar, wPar3, wgName, wgNil, wgCons, wgTup, wgIx, wAsg, wAug, wAppend, wInsert, bNil, bCons, wParB, wParB3, wAsgB, sets, VM.exB2, VM.exB3, VM.zipP_cons, VM.zipP_nil, VM.compL_cons, VM.compL_nil, wiSeq, wiRng1, wiRng2, wiZip, wiEnum, wFor, wYes, wComp, wChain, wipeR, backR, look, VM.ex2, VM.ex3, VM.eq_int, VM.ne_int, VM.ix_t0, VM.ix_t1, VM.ix_t2, VM.ix_l0, VM.ix_l1, VM.ix_l2, VM.ix_pt0, VM.ix_pt1, VM.eq_bl, VM.ne_bl, VM.eq_str, VM.ne_str, VM.is_non, VM.isnot_non, decide_true, decide_false, decide_eq_true_eq, eq_self, VM.pv_val, VM.pv_own, VM.noOwn_eq, VM.noOwnB, List.all_cons, List.all_nil, Bool.and_self, opInt, opSub, opMod, opFdiv, opPow, opCmpI, opLt, opLe, opGt, opGe, opAdd, opMul, opNeg, opLen, opAbs, opIntC, opMax2, opMin2, opList, opTuple, opSl, opBack, wIxN, wLenN, startR,
  List.set_cons_zero, List.set_cons_succ, List.length_cons, List.length_nil, List.map_cons, List.map_nil, List.replicate_succ, List.replicate_zero, List.nil_append, List.cons_append, Nat.zero_add, Nat.reduceAdd, Nat.reduceSub, if_true, if_false, true_and, and_true, Bool.false_eq_true, ite_true, ite_false, List.cons.injEq, PV.int.injEq, PV.bl.injEq, exists_eq_left, exists_eq_left', exists_and_left, and_self, reduceCtorEq, Bool.not_true, Bool.not_false, ite_self])
local macro_rules | `(tactic| walk_at "vc") => `(tactic| repeat (with_reducible refine And.intro ?_ ?_; focus first | omega | with_reducible rfl | exact VM.szb rfl | exact VM.szlb rfl | exact VM.cmul_l (by omega) (by omega) | exact VM.cmul_r (by omega) (by omega) | exact VM.divok (by omega) (by omega) (by omega) | omega))

namespace VM
open Tn Ch
/-! ### corners, types -/
def S_check_corner : SpV := fun ps Q => ∃ p o, ps = [pt p, pt o] ∧ okRay p = true ∧ okRay o = true ∧ 0 < turn p o ∧ Q (.val .non)
def w_check_corner (S_check_ray : SpV) (S_raw_turn : SpV) : WS := (wSeq (wDrop (wCallN 1 S_check_ray (wCons (wVar 0) wNil))) (wSeq (wDrop (wCallN 1 S_check_ray (wCons (wVar 1) wNil))) (wIfS (wTst (wBin opLe (wCallN 2 S_raw_turn (wCons (wVar 0) (wCons (wVar 1) wNil))) (wC (.int 0)))) wNever wNext)))
theorem okRay_ok {p : Pt} (h : okRay p = true) : okPt p = true := by unfold okRay at h; rw [Bool.and_eq_true] at h; exact h.1
theorem okRay_lg {p : Pt} (h : okRay p = true) : lgP p := lgP_of (smP_of (okRay_ok h))
theorem v_check_corner : SV (w_check_corner S_check_ray S_raw_turn) 2 S_check_corner 2 := by
  rintro ps Q - ⟨p, o, rfl, hp, ho, ht, q⟩
  unfold w_check_corner
  walk_at "vx"
  refine ⟨p, rfl, hp, o, rfl, ho, p, o, rfl, .inl (okRay_lg hp), ?_⟩
  walk_at "vx"
  rw [if_neg (by omega)]
  exact q
/-- q is the corner's number -/
def IsT (p o : Pt) (q : Int) : Prop := 0 ≤ q ∧ q < turn p o ∧ ∃ x y, o.1 - q * p.1 = turn p o * x ∧ o.2 - q * p.2 = turn p o * y
def S_raw_type : SpV := fun ps Q => ∃ p o, ps = [pt p, pt o] ∧ okRay p = true ∧ okRay o = true ∧ 0 < turn p o ∧ ∀ q, IsT p o q → Q (.val (pt (turn p o, q)))
def w_raw_type (S_any_with_turn : SpV) (S_raw_turn : SpV) : WS := (wSeq (wPar 2 3 (wCons (wCallN 2 S_raw_turn (wCons (wVar 0) (wCons (wVar 1) wNil))) (wCons (wCallN 1 S_any_with_turn (wCons (wVar 0) wNil)) wNil))) (wRet (wTup (wCons (wVar 2) (wCons (wBin opMod (wCallN 2 S_raw_turn (wCons (wVar 1) (wCons (wVar 3) wNil))) (wVar 2)) wNil)))))
theorem isT_of {p o b : Pt} (hb : turn p b = 1) (ht : 0 < turn p o) : IsT p o ((turn o b).fmod (turn p o)) := by
  refine ⟨Int.fmod_nonneg_of_pos _ ht, Int.fmod_lt_of_pos _ ht, (turn o b).fdiv (turn p o) * p.1 + b.1, (turn o b).fdiv (turn p o) * p.2 + b.2, ?_, ?_⟩
  · rw [Int.fmod_def]
    generalize (turn o b).fdiv (turn p o) = z
    unfold turn at *
    grind
  · rw [Int.fmod_def]
    generalize (turn o b).fdiv (turn p o) = z
    unfold turn at *
    grind
theorem v_raw_type : SV (w_raw_type S_any_with_turn S_raw_turn) 4 S_raw_type 2 := by
  rintro ps Q - ⟨p, o, rfl, hp, ho, ht, q⟩
  unfold w_raw_type
  walk_at "vx"
  refine ⟨p, o, rfl, .inl (okRay_lg hp), p, rfl, hp, fun b hb _ _ => ?_⟩
  walk_at "vx"
  refine ⟨o, b, rfl, .inl (okRay_lg ho), ?_⟩
  walk_at "vx"
  refine ⟨by omega, szb rfl, ?_⟩
  exact q _ (isT_of hb ht)
def S_type_of : SpV := S_raw_type
def w_type_of (S_check_corner : SpV) (S_raw_type : SpV) : WS := (wSeq (wDrop (wCallN 2 S_check_corner (wCons (wVar 0) (wCons (wVar 1) wNil)))) (wRet (wCallN 2 S_raw_type (wCons (wVar 0) (wCons (wVar 1) wNil)))))
theorem v_type_of : SV (w_type_of S_check_corner S_raw_type) 2 S_type_of 2 := by
  rintro ps Q - ⟨p, o, rfl, hp, ho, ht, q⟩
  unfold w_type_of
  walk_at "vx"
  exact ⟨p, o, rfl, hp, ho, ht, p, o, rfl, hp, ho, ht, q⟩
/-! ### chains -/
def S_raw_chain : SpV := fun ps Q => ∃ n q : Int, ps = [.int n, .int q] ∧ 0 ≤ q ∧ q < 1000000 ∧ Q (.own ((hj n q).map PV.int))
def w_raw_chain : WS := (wSeq (wSet 2 (wLst wNil)) (wSeq (wWhile (wTst (wBin opGt (wVar 1) (wC (.int 0)))) (wSeq (wSet 3 (wBin opFdiv (wBin opSub (wBin opAdd (wVar 0) (wVar 1)) (wC (.int 1))) (wVar 1))) (wSeq (wAppend 2 (wVar 3)) (wPar 0 1 (wCons (wVar 1) (wCons (wBin opSub (wBin opMul (wVar 3) (wVar 1)) (wVar 0)) wNil)))))) (wRetN 2)))
theorem v_raw_chain : SV w_raw_chain 4 S_raw_chain 2 := by
  rintro ps Q - ⟨n, q, rfl, h0, h1, k⟩
  unfold w_raw_chain
  walk_at "vx"
  walk_at "vc"
  refine wWhile_ind (fun m ρ => ∃ (a b : Int) (acc : List Int) (z : Sl), ρ = [.val (.int a), .val (.int b), .own (acc.map PV.int), z] ∧ 0 ≤ b ∧ b.toNat = m ∧ acc ++ hj a b = hj n q ∧ acc.length + b.toNat ≤ 1000000 ∧ b < 1000000) q.toNat
    ⟨n, q, [], .no, rfl, h0, rfl, rfl, by simp; omega, h1⟩ ?_
  rintro m ρ ⟨a, b, acc, z, rfl, hb, rfl, he, hl, hb2⟩ N hN
  walk_at "vx"
  by_cases h : 0 < b
  · rw [if_pos h]
    have u := up_div (n := a) h
    rw [hj_step h] at he
    have ef : (a + b - 1).fdiv b = (a + b - 1) / b := Int.fdiv_eq_ediv_of_nonneg _ (by omega)
    refine ⟨divok (by omega) (by omega) (by omega), ⟨_, rfl⟩, szl (by rw [List.length_map]; omega), cmul_r (by omega) (by omega), ?_⟩
    rw [ef]
    refine hN _ _ ?_ ⟨_, _, acc ++ [(a + b - 1) / b], _, by rw [List.map_append]; rfl, u.1, rfl, by simpa using he, ?_, ?_⟩
    · omega
    · rw [List.length_append, List.length_singleton]; omega
    · omega
  · rw [if_neg h]
    rw [hj_zero h, List.append_nil] at he
    rw [he]; exact k
def S_chain : SpV := fun ps Q => ∃ n q : Int, ps = [.int n, .int q] ∧ 2 ≤ n ∧ n ≤ 10000 ∧ 1 ≤ q ∧ q < n ∧ Int.gcd n q = 1 ∧ Q (.val (.tup ((hj n q).map PV.int)))
def w_chain (S_common_divisor : SpV) (S_is_within : SpV) (S_raw_chain : SpV) : WS := (wSeq (wIfS (wOrT (wNotT (wTst (wCallN 3 S_is_within (wCons (wVar 0) (wCons (wC (.int 2)) (wCons (wC (.int 10000)) wNil)))))) (wNotT (wTst (wCallN 3 S_is_within (wCons (wVar 1) (wCons (wC (.int 1)) (wCons (wBin opSub (wVar 0) (wC (.int 1))) wNil))))))) wNever wNext) (wSeq (wIfS (wTst (wBin opGt (wCallN 2 S_common_divisor (wCons (wVar 0) (wCons (wVar 1) wNil))) (wC (.int 1)))) wNever wNext) (wRet (wCall opTuple (wCons (wCallN 2 S_raw_chain (wCons (wVar 0) (wCons (wVar 1) wNil))) wNil)))))
theorem v_chain : SV (w_chain S_common_divisor S_is_within S_raw_chain) 2 S_chain 2 := by
  rintro ps Q - ⟨n, q, rfl, h1, h2, h3, h4, hg, k⟩
  unfold w_chain
  walk_at "vx"
  refine ⟨_, _, _, rfl, dat_int, ?_⟩
  have e1 : within 2 10000 (.int n) = true := by simp only [within, Bool.and_eq_true, decide_eq_true_eq]; omega
  have e2 : within 1 (n - 1) (.int q) = true := by simp only [within, Bool.and_eq_true, decide_eq_true_eq]; omega
  rw [e1]
  walk_at "vx"
  refine ⟨_, _, _, rfl, dat_int, ?_⟩
  rw [e2]
  walk_at "vx"
  refine ⟨_, _, rfl, ?_⟩
  walk_at "vx"
  rw [hg, if_neg (by decide)]
  refine ⟨_, _, rfl, by omega, by omega, ?_⟩
  exact k
end VM
end
section
set_option Elab.async false
set_option linter.all false
set_option maxRecDepth 100000
set_option maxHeartbeats 4000000
open PySem PySem.Spec PyProof.Rows L2 VE
local macro_rules | `(tactic| walk_at "vx") => `(tactic| simp (config := {decide := false}) only [wVar, wC, wBin, wUn, wTst, wAndT, wOrT, wNotT, wAndV, wOrV, wNotV, wIf, wNil, wCons, wTup, wLst, wSl, wNoPart, wPart, wCall, wCallN, wNext, wSeq, wBreak, wCont, wNever, wRet, wRetN, wRet0, wIfS, wDrop, wSet, wPar, wPar3, wgName, wgNil, wgCons, wgTup, wgIx, wAsg, wAug, wAppend, wInsert, bNil, bCons, wParB, wParB3, wAsgB, sets, VM.exB2, VM.exB3, VM.zipP_cons, VM.zipP_nil, VM.compL_cons, VM.compL_nil, wiSeq, wiRng1, wiRng2, wiZip, wiEnum, wFor, wYes, wComp, wChain, wipeR, backR, look, VM.ex2, VM.ex3, VM.eq_int, VM.ne_int, VM.ix_t0, VM.ix_t1, VM.ix_t2, VM.ix_l0, VM.ix_l1, VM.ix_l2, VM.ix_pt0, VM.ix_pt1, VM.eq_bl, VM.ne_bl, VM.eq_str, VM.ne_str, VM.is_non, VM.isnot_non, decide_true, decide_false, decide_eq_true_eq, eq_self, VM.pv_val, VM.pv_own, VM.noOwn_eq, VM.noOwnB, List.all_cons, List.all_nil, Bool.and_self, opInt, opSub, opMod, opFdiv, opPow, opCmpI, opLt, opLe, opGt, opGe, opAdd, opMul, opNeg, opLen, opAbs, opIntC, opMax2, opMin2, opList, opTuple, opSl, startR,
  List.set_cons_zero, List.set_cons_succ, List.length_cons, List.length_nil, List.map_cons, List.map_nil, List.replicate_succ, List.replicate_zero, List.nil_append, List.cons_append, Nat.zero_add, Nat.reduceAdd, Nat.reduceSub, if_true, if_false, true_and, and_true, Bool.false_eq_true, ite_true, ite_false, List.cons.injEq, PV.int.injEq, PV.bl.injEq, exists_eq_left, exists_eq_left', exists_and_left, and_self, reduceCtorEq, Bool.not_true, Bool.not_false, ite_self])
local macro_rules | `(tactic| walk_at "vc") => `(tactic| repeat (with_reducible refine And.intro ?_ ?_; focus first | rfl | exact VM.szb rfl | exact VM.szlb rfl | exact VM.cmul_l (by omega) (by omega) | exact VM.cmul_r (by omega) (by omega) | exact VM.divok (by omega) (by omega) (by omega) | omega))

namespace VM
open Tn
def S__law_some : SpV := fun ps Q => ∃ A B : Int, ps = [.int A, .int B] ∧ A.natAbs ≤ 10000 ∧ B.natAbs ≤ 10000 ∧ ∀ a s t : Int, s * A + t * B = a → a.natAbs = Int.gcd A B → s.natAbs ≤ 2 * fC → t.natAbs ≤ 2 * fC → Q (.val (.tup [.int a, .int s, .int t]))
def w__law_some : WS := (wSeq (wSet 2 (wLst (wCons (wTup (wCons (wVar 0) (wCons (wC (.int 1)) (wCons (wC (.int 0)) wNil)))) (wCons (wTup (wCons (wVar 1) (wCons (wC (.int 0)) (wCons (wC (.int 1)) wNil)))) wNil)))) (wSeq (wWhile (wTst (wBin opNe (wBin opIx (wBin opIx (wVar 2) (wC (.int 1))) (wC (.int 0))) (wC (.int 0)))) (wSeq (wSet 3 (wBin opFdiv (wBin opIx (wBin opIx (wVar 2) (wC (.int 0))) (wC (.int 0))) (wBin opIx (wBin opIx (wVar 2) (wC (.int 1))) (wC (.int 0))))) (wSet 2 (wLst (wCons (wBin opIx (wVar 2) (wC (.int 1))) (wCons (wCall opTuple (wCons (wComp (wiZip (wCons (wBin opIx (wVar 2) (wC (.int 0))) (wCons (wBin opIx (wVar 2) (wC (.int 1))) wNil))) (wgTup 2 (wgCons (wgName 4) (wgCons (wgName 5) wgNil))) wYes (wBin opSub (wVar 4) (wBin opMul (wVar 3) (wVar 5))) [4, 5]) wNil)) wNil)))))) (wRet (wBin opIx (wVar 2) (wC (.int 0))))))
theorem v__law_some : SV w__law_some 6 S__law_some 2 := by
  rintro ps Q - ⟨A, B, rfl, hA, hB, q⟩
  unfold w__law_some
  walk_at "vx"
  refine ⟨sz (by decide), sz (by decide), sz (by decide), ?_⟩
  refine wWhile_ind (fun n ρ => ∃ (s t u v a b : Int) (z : Sl), ρ = [.val (.int A), .val (.int B), .own [.tup [.int a, .int s, .int t], .tup [.int b, .int u, .int v]], z, .no, .no] ∧ FI A B s t u v a b ∧ b.natAbs = n) _
    ⟨1, 0, 0, 1, A, B, _, rfl, FI.start hA hB, rfl⟩ ?_
  rintro n ρ ⟨s, t, u, v, a, b, z, rfl, F, rfl⟩ N hN
  walk_at "vx"
  by_cases h : b = 0
  · subst h
    simp only [decide_true, Bool.not_true, Bool.false_eq_true, if_false]
    have bd := F.bd
    have g := F.g
    rw [Int.gcd_zero_right] at g
    exact q a s t F.e1 g bd.1 bd.2
  · simp only [h, decide_false, Bool.not_false, if_true]
    obtain ⟨F', l, pl⟩ := F.step h
    have lb := F.lb
    walk_at "vc"
    exact hN _ _ l ⟨_, _, _, _, _, _, _, rfl, F', rfl⟩
theorem fdiv_abs' {a b : Int} (h : b ≠ 0) : (a.fdiv b).natAbs ≤ a.natAbs + 1 := by
  rcases Int.lt_or_gt_of_ne h with h | h
  · have e := Int.neg_fdiv_neg a b
    have := fdiv_abs (a := -a) (b := -b) (by omega)
    rw [e] at this; omega
  · exact fdiv_abs h
def S__law_with_turn : SpV := S_raw_with_turn
def w_lwt_in : WS := (wSeq (wSet 10 (wTup (wCons (wBin opAdd (wBin opIx (wVar 4) (wC (.int 0))) (wBin opMul (wVar 9) (wBin opIx (wVar 0) (wC (.int 0))))) (wCons (wBin opAdd (wBin opIx (wVar 4) (wC (.int 1))) (wBin opMul (wVar 9) (wBin opIx (wVar 0) (wC (.int 1))))) wNil)))) (wAppend 5 (wTup (wCons (wBin opAdd (wCall opAbs (wCons (wBin opIx (wVar 10) (wC (.int 0))) wNil)) (wCall opAbs (wCons (wBin opIx (wVar 10) (wC (.int 1))) wNil))) (wCons (wVar 10) wNil)))))
def w_lwt_out : WS := (wFor (wiRng2 (wCons (wBin opSub (wVar 8) (wC (.int 2))) (wCons (wBin opAdd (wVar 8) (wC (.int 3))) wNil))) (wgName 9) w_lwt_in)
def w__law_with_turn (S__law_some : SpV) : WS := (wSeq (wAsg (wCallN 2 S__law_some (wCons (wBin opIx (wVar 0) (wC (.int 0))) (wCons (wBin opSub (wC (.int 0)) (wBin opIx (wVar 0) (wC (.int 1)))) wNil))) (wgTup 3 (wgCons (wgName 1) (wgCons (wgName 2) (wgCons (wgName 3) wgNil))))) (wSeq (wAsgB [4, 5] (bCons (wTup (wCons (wBin opMul (wVar 3) (wVar 1)) (wCons (wBin opMul (wVar 2) (wVar 1)) wNil))) (bCons (wLst wNil) bNil))) (wSeq (wSet 6 (wComp (wiSeq (wTup (wCons (wC (.int 0)) (wCons (wC (.int 1)) wNil)))) (wgName 7) (wTst (wBin opNe (wBin opIx (wVar 0) (wVar 7)) (wC (.int 0)))) (wBin opSub (wC (.int 0)) (wBin opFdiv (wBin opIx (wVar 4) (wVar 7)) (wBin opIx (wVar 0) (wVar 7)))) [7])) (wSeq (wFor (wiSeq (wVar 6)) (wgName 8) w_lwt_out) (wRet (wBin opIx (wCall opMinD (wCons (wVar 5) wNil)) (wC (.int 1))))))))
def dotT (d p : Pt) (t : Int) : Pt := (d.1 + t * p.1, d.2 + t * p.2)
theorem turn_dotT {d p : Pt} {t : Int} (h : turn p d = 1) : turn p (dotT d p t) = 1 := by unfold turn dotT at *; grind
theorem lwt_in {d p : Pt} {m : Int} {L : List Pt} {a b c : Sl} {D : EndsV} {s2 s3 s1 s6 : Sl} {j j9 j10 : Sl} (hb : -10000 ≤ p.1 ∧ p.1 ≤ 10000 ∧ -10000 ≤ p.2 ∧ p.2 ≤ 10000) (hL : L.length ≤ 1000)
    (he : ∀ x y, D.nx [.val (pt p), s1, s2, s3, .val (pt d), .own (((L ++ (rangeI (m - 2) 5).map (dotT d p)).map key).map Dm.emb), s6, j, .val (.int m), x, y]) :
    forL (wgName 9) w_lwt_in ((rangeI (m - 2) 5).map PV.int) D [.val (pt p), s1, s2, s3, .val (pt d), .own ((L.map key).map Dm.emb), s6, j, .val (.int m), j9, j10] := by
  refine forL_typed PV.int (fun done ρ => ∃ x y, ρ = [.val (pt p), s1, s2, s3, .val (pt d), .own (((L ++ done.map (dotT d p)).map key).map Dm.emb), s6, j, .val (.int m), x, y]) ⟨j9, j10, by simp⟩ ?_ ?_
  · rintro done t ht ρ ⟨x, y, rfl⟩ N hN
    unfold w_lwt_in
    walk_at "vx"
    walk_at "vc"
    refine ⟨⟨_, rfl⟩, ?_⟩
    walk_at "vc"
    refine ⟨szl ?_, hN _ ⟨.val (.int t), .val (pt (dotT d p t)), ?_⟩⟩
    · have := ht.2; rw [rangeI_len] at this; simp; omega
    · simp only [List.map_append, List.map_cons, List.map_nil, List.append_assoc]
      rfl
  · rintro ρ ⟨x, y, rfl⟩
    exact he x y
theorem lwt_out {d p : Pt} {ms : List Int} {D : EndsV} {s2 s3 s1 s6 j8 j9 j10 j : Sl} (hb : -10000 ≤ p.1 ∧ p.1 ≤ 10000 ∧ -10000 ≤ p.2 ∧ p.2 ≤ 10000) (hl : ms.length ≤ 2) (hm : ∀ m ∈ ms, m.natAbs ≤ 3 * fC) (hd : turn p d = 1)
    (he : ∀ (L : List Pt) (x y z : Sl), (∀ r ∈ L, turn p r = 1) → (∀ m ∈ ms, ∀ t, m - 2 ≤ t → t < m + 3 → dotT d p t ∈ L) → D.nx [.val (pt p), s1, s2, s3, .val (pt d), .own ((L.map key).map Dm.emb), s6, j, x, y, z]) :
    forL (wgName 8) w_lwt_out (ms.map PV.int) D [.val (pt p), s1, s2, s3, .val (pt d), .own [], s6, j, j8, j9, j10] := by
  refine forL_typed PV.int (fun done ρ => ∃ (L : List Pt) (x y z : Sl), ρ = [.val (pt p), s1, s2, s3, .val (pt d), .own ((L.map key).map Dm.emb), s6, j, x, y, z] ∧ L.length = 5 * done.length ∧ (∀ r ∈ L, turn p r = 1) ∧ (∀ m ∈ done, ∀ t, m - 2 ≤ t → t < m + 3 → dotT d p t ∈ L)) ⟨[], j8, j9, j10, rfl, rfl, by simp, by simp⟩ ?_ ?_
  · rintro done m ht ρ ⟨L, x, y, z, rfl, l1, l2, l3⟩ N hN
    have mb := hm m ht.1
    unfold fC at mb
    unfold w_lwt_out
    walk_at "vx"
    refine ⟨by omega, ?_⟩
    rw [rangeP_I, show (m + 3 - (m - 2)).toNat = 5 by omega]
    refine lwt_in (a := s1) (b := s1) (c := s1) hb (by omega) fun x' y' => hN _ ⟨_, _, _, _, rfl, ?_, ?_, ?_⟩
    · rw [List.length_append, List.length_map, rangeI_len, List.length_append, l1, List.length_singleton]; omega
    · intro r hr
      rcases List.mem_append.mp hr with hr | hr
      · exact l2 r hr
      · obtain ⟨t, _, rfl⟩ := List.mem_map.mp hr
        exact turn_dotT hd
    · intro m' hm' t t1 t2
      rcases List.mem_append.mp hm' with hm' | hm'
      · exact List.mem_append_left _ (l3 m' hm' t t1 t2)
      · rw [List.mem_singleton.mp hm'] at t1 t2
        exact List.mem_append_right _ (List.mem_map.mpr ⟨t, mem_rangeI.mpr ⟨t1, by omega⟩, rfl⟩)
  · rintro ρ ⟨L, x, y, z, rfl, l1, l2, l3⟩
    exact he L x y z l2 l3
theorem best_pick {p : Pt} {L : List Pt} {Q : Sl → Prop} (hL : ∀ r ∈ L, turn p r = 1) (hc : ∀ r, turn p r = 1 → Close p r → r ∈ L) (h0 : ∃ r, turn p r = 1) (q : ∀ r, Best p r → Q (.val (pt r))) :
    opMinD [.lst ((L.map key).map Dm.emb)] fun r => opIx r.pv (.int 1) fun r => Q r := by
  refine min_dm (α := Int × Pt) (Q := fun r => opIx r.pv (.int 1) Q) ?_ (by decide) fun m hm hl => ?_
  · obtain ⟨r, hr⟩ := h0
    obtain ⟨r', h1, h2, _⟩ := to_close p _ r (Nat.le_refl _) hr
    intro e
    have := hc r' h1 h2
    rw [List.map_eq_nil_iff.mp e] at this
    cases this
  · show opIx (.tup [.int m.1, pt m.2]) (.int 1) Q
    rw [ix_t1]
    exact q _ (best_of hL hc hm hl)
theorem v__law_with_turn : SV (w__law_with_turn S__law_some) 11 S__law_with_turn 1 := by
  rintro ps Q - ⟨p, rfl, hp, q⟩
  obtain ⟨hb, hg⟩ := okRay_iff.mp hp
  unfold w__law_with_turn
  walk_at "vx"
  refine ⟨_, _, rfl, by omega, by omega, fun a s t e1 e2 b1 b2 => ?_⟩
  walk_at "vx"
  have ha : a = 1 ∨ a = -1 := by
    have e3 : Int.gcd p.1 (0 - p.2) = 1 := by
      rw [show (0 : Int) - p.2 = -p.2 by omega, Int.gcd_neg]; exact hg
    rw [e3] at e2; omega
  walk_at "vc"
  have hd : turn p (t * a, s * a) = 1 := by
    have aa : a * a = 1 := by rcases ha with rfl | rfl <;> rfl
    unfold turn
    have : s * p.1 - t * p.2 = a := by grind
    grind
  have db : (t * a).natAbs ≤ 2 * fC ∧ (s * a).natAbs ≤ 2 * fC := by
    rw [Int.natAbs_mul, Int.natAbs_mul]
    have : a.natAbs = 1 := by omega
    rw [this]; omega
  rw [pt_mk]
  generalize t * a = d1 at hd db ⊢
  generalize s * a = d2 at hd db ⊢
  obtain ⟨d, hdd⟩ : ∃ d : Pt, d = (d1, d2) := ⟨_, rfl⟩
  have ed1 : d1 = d.1 := by rw [hdd]
  have ed2 : d2 = d.2 := by rw [hdd]
  rw [← hdd] at hd ⊢
  rw [ed1, ed2] at db ⊢
  clear hdd ed1 ed2 d1 d2
  have fin : ∀ (ms : List Int), (∀ r, turn p r = 1 → Close p r → ∃ t, r = dotT d p t ∧ ∃ m ∈ ms, m - 2 ≤ t ∧ t < m + 3) → ∀ L : List Pt, (∀ r ∈ L, turn p r = 1) → (∀ m ∈ ms, ∀ t, m - 2 ≤ t → t < m + 3 → dotT d p t ∈ L) →
      opMinD [.lst ((L.map key).map Dm.emb)] fun r => opIx r.pv (.int 1) fun r => Q r := fun ms h L h1 h2 => best_pick h1 (fun r hr hc => by
    obtain ⟨t, rfl, m, hm, t1, t2⟩ := h r hr hc
    exact h2 m hm t t1 t2) ⟨d, hd⟩ q
  have mk : ∀ r, turn p r = 1 → Close p r → ∃ t, r = dotT d p t ∧ (p.1 ≠ 0 → 0 - d.1.fdiv p.1 - 2 ≤ t ∧ t < 0 - d.1.fdiv p.1 + 3) ∧ (p.2 ≠ 0 → 0 - d.2.fdiv p.2 - 2 ≤ t ∧ t < 0 - d.2.fdiv p.2 + 3) := by
    intro r hr hc
    obtain ⟨t, e1, e2⟩ := other p.1 p.2 r.1 r.2 d.1 d.2 hr hd
    refine ⟨t, Prod.ext e1 e2, fun h => ?_, fun h => ?_⟩
    · obtain ⟨c1, c2⟩ := hc
      unfold turn at hr
      rw [e1, e2] at hr c1 c2
      have := mark_win h hr c1 c2
      omega
    · obtain ⟨c1, c2⟩ := hc
      unfold turn at hr
      rw [e1, e2] at hr c1 c2
      have := mark_win2 h hr c1 c2
      omega
  have m1 : p.1 ≠ 0 → (0 - d.1.fdiv p.1).natAbs ≤ 3 * fC := fun h => by have := fdiv_abs' (a := d.1) h; unfold fC at *; omega
  have m2 : p.2 ≠ 0 → (0 - d.2.fdiv p.2).natAbs ≤ 3 * fC := fun h => by have := fdiv_abs' (a := d.2) h; unfold fC at *; omega
  by_cases h1 : p.1 = 0
  · by_cases h2 : p.2 = 0
    · rw [h1, h2] at hg; cases hg
    · rw [if_neg (by simp [h1]), if_pos (by simp [h2])]
      refine ⟨divok h2 (by omega) (by omega), szlb rfl, ?_⟩
      refine lwt_out (ms := [0 - d.2.fdiv p.2]) hb (Nat.le_of_ble_eq_true rfl) (by simpa using m2 h2) hd fun L x y z l1 l2 => ?_
      refine fin _ ?_ L l1 l2
      intro r hr hc
      obtain ⟨t, e, _, g⟩ := mk r hr hc
      exact ⟨t, e, _, List.mem_singleton.mpr rfl, g h2⟩
  · by_cases h2 : p.2 = 0
    · rw [if_pos (by simp [h1]), if_neg (by simp [h2])]
      refine ⟨divok h1 (by omega) (by omega), szlb rfl, ?_⟩
      refine lwt_out (ms := [0 - d.1.fdiv p.1]) hb (Nat.le_of_ble_eq_true rfl) (by simpa using m1 h1) hd fun L x y z l1 l2 => ?_
      refine fin _ ?_ L l1 l2
      intro r hr hc
      obtain ⟨t, e, g, _⟩ := mk r hr hc
      exact ⟨t, e, _, List.mem_singleton.mpr rfl, g h1⟩
    · rw [if_pos (by simp [h1]), if_pos (by simp [h2])]
      refine ⟨divok h1 (by omega) (by omega), szlb rfl, divok h2 (by omega) (by omega), szlb rfl, ?_⟩
      refine lwt_out (ms := [0 - d.1.fdiv p.1, 0 - d.2.fdiv p.2]) hb (Nat.le_of_ble_eq_true rfl) ?_ hd fun L x y z l1 l2 => ?_
      · intro m hm
        rcases List.mem_cons.mp hm with rfl | hm
        · exact m1 h1
        · rw [List.mem_singleton.mp hm]; exact m2 h2
      refine fin _ ?_ L l1 l2
      intro r hr hc
      obtain ⟨t, e, g, _⟩ := mk r hr hc
      exact ⟨t, e, _, List.mem_cons_self, g h1⟩
end VM
end
section
set_option Elab.async false
set_option linter.all false
set_option maxRecDepth 100000
set_option maxHeartbeats 4000000
open PySem PySem.Spec PyProof.Rows L2 VE
local macro_rules | `(tactic| walk_at "vx") => `(tactic| simp (config := {decide := false}) only [wVar, wC, wBin, wUn, wTst, wAndT, wOrT, wNotT, wAndV, wOrV, wNotV, wIf, wNil, wCons, wTup, wLst, wSl, wNoPart, wPart, wCall, wCallN, wNext, wSeq, wBreak, wCont, wNever, wRet, wRetN, wRet0, wIfS, wDrop, wSet, wPar, wPar3, wgName, wgNil, wgCons, wgTup, wgIx, wAsg, wAug, wAppend, wInsert, bNil, bCons, wParB, wParB3, wAsgB, sets, VM.exB2, VM.exB3, VM.zipP_cons, VM.zipP_nil, VM.compL_cons, VM.compL_nil, wiSeq, wiRng1, wiRng2, wiZip, wiEnum, wFor, wYes, wComp, wChain, wipeR, backR, look, VM.ex2, VM.ex3, VM.eq_int, VM.ne_int, VM.ix_t0, VM.ix_t1, VM.ix_t2, VM.ix_l0, VM.ix_l1, VM.ix_l2, VM.ix_pt0, VM.ix_pt1, VM.eq_bl, VM.ne_bl, VM.eq_str, VM.ne_str, VM.is_non, VM.isnot_non, decide_true, decide_false, decide_eq_true_eq, eq_self, VM.pv_val, VM.pv_own, VM.noOwn_eq, VM.noOwnB, List.all_cons, List.all_nil, Bool.and_self, opInt, opSub, opMod, opFdiv, opPow, opCmpI, opLt, opLe, opGt, opGe, opAdd, opMul, opNeg, opLen, opAbs, opIntC, opMax2, opMin2, opList, opTuple, opSl, startR,
  List.set_cons_zero, List.set_cons_succ, List.length_cons, List.length_nil, List.map_cons, List.map_nil, List.replicate_succ, List.replicate_zero, List.nil_append, List.cons_append, Nat.zero_add, Nat.reduceAdd, Nat.reduceSub, if_true, if_false, true_and, and_true, Bool.false_eq_true, ite_true, ite_false, List.cons.injEq, PV.int.injEq, PV.bl.injEq, exists_eq_left, exists_eq_left', exists_and_left, and_self, reduceCtorEq, Bool.not_true, Bool.not_false, ite_self])
local macro_rules | `(tactic| walk_at "vc") => `(tactic| repeat (with_reducible refine And.intro ?_ ?_; focus first | omega | with_reducible rfl | exact VM.szb rfl | exact VM.szlb rfl | exact VM.cmul_l (by omega) (by omega) | exact VM.cmul_r (by omega) (by omega) | exact VM.divok (by omega) (by omega) (by omega) | omega))

namespace VM
open Tn
/-! ### drawn things -/
def Th (p : PV) : Prop := dat2 p ∧ Shown p
theorem shown_of {p : PV} {n w : Nat} (h : Sh p n w) (h1 : Nat.ble n 64 = true) (h2 : Nat.ble w 10000 = true) : Shown p := .inl ⟨n, w, Nat.le_of_ble_eq_true h1, Nat.le_of_ble_eq_true h2, h⟩
theorem alln {P : PV → Prop} : ∀ x ∈ ([] : List PV), P x := fun x h => nomatch h
theorem allc {P : PV → Prop} {x : PV} {xs : List PV} (h : P x) (h' : ∀ y ∈ xs, P y) : ∀ y ∈ x :: xs, P y := fun y hy => by
  rcases List.mem_cons.mp hy with rfl | hy
  · exact h
  · exact h' y hy
theorem alla {P : PV → Prop} {xs ys : List PV} (h : ∀ y ∈ xs, P y) (h' : ∀ y ∈ ys, P y) : ∀ y ∈ xs ++ ys, P y := fun y hy => by
  rcases List.mem_append.mp hy with hy | hy
  · exact h y hy
  · exact h' y hy
theorem compL_any {g : WG} {we : WE} {vs : List Nat} {Q : List PV → Rho → Prop} {ρ : Rho} (P : PV → Prop) (xs : List PV) (hl : xs.length ≤ 1000000)
    (h : ∀ x ∈ xs, ∀ (k : Prop) (N : PV → Rho → Prop), k → (∀ y, P y → N y ρ) → g x ρ fun ρ1 => wYes ρ1 fun b ρ2 => if b = true then we ρ2 fun r ρ3 => k ∧ N r.pv (wipeR ρ3 vs) else False)
    (q : ∀ ys, ys.length = xs.length → (∀ y ∈ ys, P y) → Q ys ρ) : compL g wYes we vs xs [] ρ Q := by
  suffices H : ∀ (zs acc : List PV), acc.length + zs.length = xs.length → (∀ z ∈ zs, z ∈ xs) → (∀ y ∈ acc, P y) → compL g wYes we vs zs acc ρ Q from H xs [] (by simp) (fun _ h => h) alln
  intro zs
  induction zs with
  | nil => intro acc e _ hP; exact q acc (by simpa using e) hP
  | cons z zs ih =>
    intro acc e hm hP
    rw [List.length_cons] at e
    exact h z (hm z List.mem_cons_self) (acc.length < sizeLine) (fun p ρ' => compL g wYes we vs zs (acc ++ [p]) ρ' Q) (szl (by omega)) fun y hy =>
      ih (acc ++ [y]) (by rw [List.length_append, List.length_singleton]; omega) (fun z' h' => hm z' (List.mem_cons_of_mem _ h')) (alla hP (allc hy alln))
theorem th_non : Th .non := ⟨dat_non, shown_of sh_non rfl rfl⟩
theorem th_int {i : Int} (h : i.natAbs < 10 ^ 32) : Th (.int i) := ⟨dat_int, shown_of (sh_int h) rfl rfl⟩
theorem th_str {x : Str} (h : (x.cps.toList.all fun c => decide (c < 16 ^ 8)) = true) (hw : Nat.ble x.cps.size 100 = true) : Th (.str x) := ⟨dat_str, shown_of (sh_str h (Nat.le_of_ble_eq_true hw)) rfl rfl⟩
theorem th_tup {ps : List PV} {n w : Nat} (h : Shs ps n w) (hd : ∀ x ∈ ps, dat x) (h1 : Nat.ble (n + 1) 64 = true) (h2 : Nat.ble w 10000 = true) : Th (.tup ps) := ⟨hd, shown_of (sh_tup h) h1 h2⟩
theorem th_lst {ps : List PV} {n w : Nat} (h : Shs ps n w) (h1 : Nat.ble (n + 1) 64 = true) (h2 : Nat.ble w 10000 = true) : Th (.lst ps) := ⟨dat_lst, shown_of (sh_lst h) h1 h2⟩
theorem th_dct : Th .dct0 := ⟨dat_dct, .inr rfl⟩
theorem th_pt {p : Pt} (h1 : p.1.natAbs < 10 ^ 32) (h2 : p.2.natAbs < 10 ^ 32) : Th (pt p) := th_tup (shs_cons (sh_int h1) (shs_cons (sh_int h2) shs_nil)) (allc dat_int (allc dat_int alln)) rfl rfl
theorem nest_dat {p y : PV} {n : Nat} (h : Nest p n y) (hp : dat p) : dat y := by
  cases h <;> first | exact hp | exact dat_tup | exact dat_lst
theorem th_nest {y : PV} {n : Nat} (hn : n < 50) (h : Nest (.int 1) n y) : Th y := by
  refine ⟨?_, .inl ⟨_, _, ?_, ?_, sh_nest (sh_int (i := 1) (by decide)) h⟩⟩
  · cases h with
    | nil => exact dat_int
    | tup h => exact allc (nest_dat h dat_int) alln
    | lst h => exact dat_lst
  · omega
  · omega
def S__law_no_dot : SpV := fun ps Q => ps = [.hnd] ∧ ∀ y, Th y → Q (.val y)
def w__law_no_dot (S__law_any : SpV) (S__law_deep : SpV) : WS := (wSeq (wSet 1 (wLst (wCons (wC .non) (wCons (wC (.int 0)) (wCons (wTup wNil) (wCons (wTup (wCons (wC (.int 1)) wNil)) (wCons (wTup (wCons (wC (.int 1)) (wCons (wC (.int 2)) (wCons (wC (.int 3)) wNil)))) (wCons (wLst (wCons (wC (.int 1)) (wCons (wC (.int 2)) wNil))) (wCons (wTup (wCons (wC (.int 10001)) (wCons (wC (.int 0)) wNil))) (wCons (wTup (wCons (wC (.int 0)) (wCons (wUn opNeg (wC (.int 10001))) wNil))) (wCons (wTup (wCons (wC (.bl true)) (wCons (wC (.int 2)) wNil))) (wCons (wTup (wCons (wC (.str "1")) (wCons (wC (.int 2)) wNil))) (wCons (wTup (wCons (wC (.int 1)) (wCons (wC .non) wNil))) (wCons (wC .dct0) (wCons (wC (.str "12")) (wCons (wTup (wCons (wTup (wCons (wC (.int 1)) (wCons (wC (.int 2)) wNil))) wNil)) wNil)))))))))))))))) (wRet (wCallN 2 S__law_any (wCons (wVar 0) (wCons (wBin opAdd (wVar 1) (wLst (wCons (wTup (wCons (wC (.int 1)) (wCons (wBin opPow (wC (.int 10)) (wC (.int 30))) wNil))) (wCons (wCallN 2 S__law_deep (wCons (wVar 0) (wCons (wC (.int 1)) wNil))) wNil)))) wNil)))))
theorem v__law_no_dot : SV (w__law_no_dot S__law_any S__law_deep) 2 S__law_no_dot 1 := by
  rintro ps Q - ⟨rfl, q⟩
  unfold w__law_no_dot
  walk_at "vx"
  walk_at "vc"
  refine ⟨⟨by decide, by decide, by decide⟩, szb rfl, _, rfl, fun n y h1 h2 hn => ?_⟩
  walk_at "vx"
  walk_at "vc"
  refine ⟨_, .inl rfl, by simp, by simp, fun x hx => q x ?_⟩
  revert x
  refine allc th_non (allc (th_int (by decide)) (allc (th_tup shs_nil alln rfl rfl) (allc (th_tup (shs_cons (sh_int (by decide)) shs_nil) (allc dat_int alln) rfl rfl) (allc (th_tup (shs_cons (sh_int (by decide)) (shs_cons (sh_int (by decide)) (shs_cons (sh_int (by decide)) shs_nil))) (allc dat_int (allc dat_int (allc dat_int alln))) rfl rfl) ?_))))
  refine allc (th_lst (shs_cons (sh_int (by decide)) (shs_cons (sh_int (by decide)) shs_nil)) rfl rfl) (allc (th_pt (p := (10001, 0)) (by decide) (by decide)) (allc (th_pt (p := (0, -10001)) (by decide) (by decide)) ?_))
  refine allc (th_tup (shs_cons sh_bl (shs_cons (sh_int (by decide)) shs_nil)) (allc dat_bl (allc dat_int alln)) rfl rfl) (allc (th_tup (shs_cons (sh_str (w := 100) (by decide +kernel) (by decide)) (shs_cons (sh_int (by decide)) shs_nil)) (allc dat_str (allc dat_int alln)) rfl rfl) ?_)
  refine allc (th_tup (shs_cons (sh_int (by decide)) (shs_cons sh_non shs_nil)) (allc dat_int (allc dat_non alln)) rfl rfl) (allc th_dct (allc (th_str (by decide +kernel) (by decide +kernel)) ?_))
  refine allc (th_tup (shs_cons (sh_tup (shs_cons (sh_int (by decide)) (shs_cons (sh_int (by decide)) shs_nil))) shs_nil) (allc dat_tup alln) rfl rfl) ?_
  exact allc (th_tup (shs_cons (sh_int (by decide)) (shs_cons (sh_int (by decide)) shs_nil)) (allc dat_int (allc dat_int alln)) rfl rfl) (allc (th_nest h2 hn) alln)
def S__law_no_ray : SpV := S__law_no_dot
def w__law_no_ray (S__law_any : SpV) (S__law_no_dot : SpV) : WS := (wRet (wCallN 2 S__law_any (wCons (wVar 0) (wCons (wBin opAdd (wLst (wCons (wTup (wCons (wC (.int 0)) (wCons (wC (.int 0)) wNil))) (wCons (wTup (wCons (wC (.int 2)) (wCons (wC (.int 4)) wNil))) (wCons (wTup (wCons (wC (.int 0)) (wCons (wC (.int 2)) wNil))) (wCons (wTup (wCons (wUn opNeg (wC (.int 3))) (wCons (wC (.int 0)) wNil))) (wCons (wTup (wCons (wC (.int 6)) (wCons (wUn opNeg (wC (.int 9))) wNil))) wNil)))))) (wComp (wiRng1 (wCons (wC (.int 4)) wNil)) (wgName 1) wYes (wCallN 1 S__law_no_dot (wCons (wVar 0) wNil)) [1])) wNil))))
theorem no_ray_aux {S T : SpV} (hT : ∀ N : Sl → Prop, (∀ y, Th y → N (.val y)) → T [.hnd] N) (hS : ∀ (xs : List PV) (N : Sl → Prop), 0 < xs.length → xs.length < 1000000 → (∀ x ∈ xs, N (.val x)) → S [.hnd, .lst xs] N)
    {Q : Sl → Prop} (q : ∀ y, Th y → Q (.val y)) : w__law_no_ray S T { nx := fun _ => Q (.val .non), rt := Q } [.val .hnd, .no] := by
  unfold w__law_no_ray
  walk_at "vx"
  refine ⟨szb rfl, szb rfl, szb rfl, szb rfl, szb rfl, szb rfl, by omega, by omega, ?_⟩
  refine compL_any Th _ ?_ (fun x hx k N hk hN => ?_) fun ys hl hy => ?_
  · rw [rangeP_len]; exact Nat.le_of_ble_eq_true rfl
  · walk_at "vx"
    exact hT _ fun y hy => ⟨hk, hN y hy⟩
  · rw [rangeP_len] at hl
    have hl4 : ys.length = 4 := hl
    refine ⟨sz (by omega), hS _ _ (by simp) (by simp; omega) fun x hx => q x ?_⟩
    revert x
    refine allc (th_pt (p := (0, 0)) (by decide) (by decide)) (allc (th_pt (p := (2, 4)) (by decide) (by decide)) (allc (th_pt (p := (0, 2)) (by decide) (by decide)) (allc (th_pt (p := (-3, 0)) (by decide) (by decide)) (allc (th_pt (p := (6, -9)) (by decide) (by decide)) hy))))
theorem v__law_no_ray : SV (w__law_no_ray S__law_any S__law_no_dot) 2 S__law_no_ray 1 := by
  rintro ps Q - ⟨rfl, q⟩
  exact no_ray_aux (fun N h => ⟨rfl, h⟩) (fun xs N h1 h2 h3 => ⟨xs, .inl rfl, h1, h2, h3⟩) q
theorem isRay_len {xs : List PV} (h : xs.length ≠ 2) : isRay (.tup xs) = false := by
  unfold isRay
  split
  · rename_i e
    cases e
    exact absurd rfl h
  · rfl
def S__law_is_ray : SpV := S_is_ray
def w__law_is_ray (S__law_common : SpV) (S__law_is_integer : SpV) : WS := (wSeq (wIfS (wOrT (wNotT (wTst (wCall opIsi (wCons (wVar 0) (wCons (wC (.ty "tuple")) wNil))))) (wOrT (wTst (wBin opNe (wCall opLen (wCons (wVar 0) wNil)) (wC (.int 2)))) (wNotT (wTst (wCall opAll (wCons (wComp (wiSeq (wVar 0)) (wgName 1) wYes (wAndV (wCallN 1 S__law_is_integer (wCons (wVar 1) wNil)) (wBin opLe (wCall opAbs (wCons (wVar 1) wNil)) (wC (.int 10000)))) [1]) wNil)))))) (wRet (wC (.bl false))) wNext) (wRet (wBin opEq (wCallN 2 S__law_common (wCons (wBin opIx (wVar 0) (wC (.int 0))) (wCons (wBin opIx (wVar 0) (wC (.int 1))) wNil))) (wC (.int 1)))))
theorem v__law_is_ray : SV (w__law_is_ray S__law_common S__law_is_integer) 2 S__law_is_ray 1 := by
  rintro ps Q - ⟨p, rfl, hd, q⟩
  unfold w__law_is_ray
  walk_at "vx"
  simp only [isi_tuple (dat2_dat hd)]
  cases p with
  | tup xs =>
    simp only [kT]
    walk_at "vx"
    match xs, hd, q with
    | [x, y], hd, q =>
      rw [if_neg (by simp)]
      refine compL_map (fun x => x) (fun x => .bl (within (-10000) 10000 x)) [x, y] (Nat.le_of_ble_eq_true rfl) (fun z hz k N hk hN => ?_) ?_
      · walk_at "vx"
        refine ⟨z, rfl, hd z hz, ?_⟩
        cases z with
        | int i =>
          simp only [isI, if_true]
          refine ⟨hk, ?_⟩
          have e : decide ((if i < 0 then -i else i) ≤ 10000) = within (-10000) 10000 (.int i) := by
            simp only [within, ← Bool.decide_and]
            exact decide_eq_decide.mpr (by omega)
          rw [e]; exact hN
        | _ => exact ⟨hk, hN⟩
      · show opAll [.lst ([within (-10000) 10000 x, within (-10000) 10000 y].map PV.bl)] _
        rw [all_bl]
        walk_at "vx"
        simp only [id, Bool.and_true]
        cases hx : within (-10000) 10000 x && within (-10000) 10000 y with
        | false =>
          have e : isRay (.tup [x, y]) = false := by
            cases h : isRay (.tup [x, y]) with
            | false => rfl
            | true =>
              obtain ⟨z, ez, hz⟩ := isRay_ex h
              cases ez
              unfold okRay at hz
              rw [Bool.and_eq_true] at hz
              rw [← isDot_pt] at hz
              exact absurd (hz.1.symm.trans hx) (by decide)
          rw [e] at q
          simpa using q
        | true =>
          obtain ⟨z, ez, hz⟩ := isDot_ex (p := .tup [x, y]) hx
          cases ez
          simp only [Bool.not_true, Bool.false_eq_true, if_false]
          refine ⟨_, _, rfl, ?_⟩
          walk_at "vx"
          have e : isRay (.tup [.int z.1, .int z.2]) = decide ((Int.gcd z.1 z.2 : Int) = 1) := by
            show okRay z = _
            unfold okRay; rw [hz, Bool.true_and]; exact decide_eq_decide.mpr (by omega)
          rw [e] at q; exact q
    | [], hd, q => exact q
    | [x], hd, q =>
      rw [isRay_len (by simp)] at q
      exact q
    | x :: y :: z :: xs, hd, q =>
      rw [isRay_len (by simp)] at q
      have e : ¬ ((xs.length : Int) + 1 + 1 + 1 = 2) := by omega
      simp [e]
      exact q
  | _ => exact q
theorem cut1 {a b : PV} : cutP [a, b] none (some 1) = [a] := rfl
theorem okb {p : Pt} (h : okPt p = true) : p.1.natAbs ≤ 10000 ∧ p.2.natAbs ≤ 10000 := by have := okPt_iff.mp h; omega
def S__law_near : SpV := fun ps Q => ∃ p, ps = [.hnd, pt p] ∧ okPt p = true ∧ ∀ y, Th y → Q (.val y)
def w__law_near (S__law_any : SpV) (S__law_no_ray : SpV) : WS := (wSeq (wSet 2 (wCallN 2 S__law_any (wCons (wVar 0) (wCons (wLst (wCons (wC (.int 2)) (wCons (wC (.int 3)) (wCons (wUn opNeg (wC (.int 1))) (wCons (wUn opNeg (wC (.int 2))) wNil))))) wNil)))) (wSeq (wSet 3 (wLst (wCons (wTup (wCons (wBin opMul (wVar 2) (wBin opIx (wVar 1) (wC (.int 0)))) (wCons (wBin opMul (wVar 2) (wBin opIx (wVar 1) (wC (.int 1)))) wNil))) (wCons (wCall opList (wCons (wVar 1) wNil)) (wCons (wBin opAdd (wVar 1) (wTup (wCons (wC (.int 0)) wNil))) (wCons (wSl (wVar 1) wNoPart (wPart (wC (.int 1)))) (wCons (wTup (wCons (wBin opIx (wVar 1) (wC (.int 0))) (wCons (wC (.int 0)) wNil))) (wCons (wTup (wCons (wC (.int 0)) (wCons (wBin opIx (wVar 1) (wC (.int 1))) wNil))) (wCons (wTup (wCons (wCall opStr (wCons (wBin opIx (wVar 1) (wC (.int 0))) wNil)) (wCons (wBin opIx (wVar 1) (wC (.int 1))) wNil))) (wCons (wTup (wCons (wBin opAdd (wBin opIx (wVar 1) (wC (.int 0))) (wC (.int 1))) (wCons (wBin opIx (wVar 1) (wC (.int 1))) wNil))) (wCons (wTup (wCons (wC (.int 10001)) (wCons (wBin opIx (wVar 1) (wC (.int 1))) wNil))) wNil))))))))))) (wRet (wCallN 2 S__law_any (wCons (wVar 0) (wCons (wBin opAdd (wVar 3) (wLst (wCons (wTup (wCons (wC (.bl true)) (wCons (wBin opIx (wVar 1) (wC (.int 1))) wNil))) (wCons (wTup (wCons (wBin opIx (wVar 1) (wC (.int 0))) (wCons (wC .non) wNil))) (wCons (wC .non) (wCons (wCallN 1 S__law_no_ray (wCons (wVar 0) wNil)) (wCons (wCallN 1 S__law_no_ray (wCons (wVar 0) wNil)) wNil))))))) wNil))))))
theorem near_aux {S T : SpV} (hT : ∀ N : Sl → Prop, (∀ y, Th y → N (.val y)) → T [.hnd] N) (hS : ∀ (xs : List PV) (N : Sl → Prop), 0 < xs.length → xs.length < 1000000 → (∀ x ∈ xs, N (.val x)) → S [.hnd, .lst xs] N)
    {p : Pt} {Q : Sl → Prop} (hp : okPt p = true) (q : ∀ y, Th y → Q (.val y)) : w__law_near S T { nx := fun _ => Q (.val .non), rt := Q } [.val .hnd, .val (pt p), .no, .no] := by
  have hb := okb hp
  unfold w__law_near
  simp only [pt]
  walk_at "vx"
  refine ⟨szb rfl, hS _ _ (by simp) (by simp) fun x hx => ?_⟩
  have hx2 : ∃ b : Int, x = .int b ∧ -3 ≤ b ∧ b ≤ 3 := by
    revert x
    exact allc ⟨2, rfl, by decide, by decide⟩ (allc ⟨3, rfl, by decide, by decide⟩ (allc ⟨-1, rfl, by decide, by decide⟩ (allc ⟨-2, rfl, by decide, by decide⟩ alln)))
  obtain ⟨b, rfl, b1, b2⟩ := hx2
  clear hx
  walk_at "vx"
  simp only [opStr, cut1]
  walk_at "vx"
  refine ⟨cmul_l (by omega) (by omega), cmul_l (by omega) (by omega), szb rfl, szb rfl, ?_⟩
  walk_at "vc"
  have p1 : p.1.natAbs < 10 ^ 32 := Nat.lt_of_le_of_lt hb.1 (by decide)
  have p2 : p.2.natAbs < 10 ^ 32 := Nat.lt_of_le_of_lt hb.2 (by decide)
  refine ⟨Nat.lt_trans (log2_lt_128 p1) (by decide), ?_⟩
  walk_at "vc"
  refine hT _ fun y1 h1 => hT _ fun y2 h2 => ⟨szb rfl, szb rfl, hS _ _ (Nat.le_of_ble_eq_true rfl) (Nat.le_of_ble_eq_true rfl) fun x hx => q x ?_⟩
  revert x
  have m1 : (b * p.1).natAbs < 10 ^ 32 := Nat.lt_of_le_of_lt (natAbs_mul_le (m := 3) (by omega) hb.1) (by decide)
  have m2 : (b * p.2).natAbs < 10 ^ 32 := Nat.lt_of_le_of_lt (natAbs_mul_le (m := 3) (by omega) hb.2) (by decide)
  have m3 : (p.1 + 1).natAbs < 10 ^ 32 := Nat.lt_of_le_of_lt (show _ ≤ 20000 by omega) (by decide)
  have i2 : ∀ {a c : Int}, a.natAbs < 10 ^ 32 → c.natAbs < 10 ^ 32 → Th (.tup [.int a, .int c]) := fun {a c} ha hc => th_pt (p := (a, c)) ha hc
  refine allc (i2 m1 m2) (allc (th_lst (shs_cons (sh_int p1) (shs_cons (sh_int p2) shs_nil)) rfl rfl) ?_)
  refine allc (th_tup (shs_cons (sh_int p1) (shs_cons (sh_int p2) (shs_cons (sh_int (by decide)) shs_nil))) (allc dat_int (allc dat_int (allc dat_int alln))) rfl rfl) ?_
  refine allc (th_tup (shs_cons (sh_int p1) shs_nil) (allc dat_int alln) rfl rfl) (allc (i2 p1 (by decide)) (allc (i2 (by decide) p2) ?_))
  refine allc (th_tup (shs_cons (sh_text p1) (shs_cons (sh_int p2) shs_nil)) (allc dat_str (allc dat_int alln)) rfl rfl) (allc (i2 m3 p2) (allc (i2 (by decide) p2) ?_))
  refine allc (th_tup (shs_cons sh_bl (shs_cons (sh_int p2) shs_nil)) (allc dat_bl (allc dat_int alln)) rfl rfl) (allc (th_tup (shs_cons (sh_int p1) (shs_cons sh_non shs_nil)) (allc dat_int (allc dat_non alln)) rfl rfl) ?_)
  exact allc th_non (allc h1 (allc h2 alln))
theorem v__law_near : SV (w__law_near S__law_any S__law_no_ray) 4 S__law_near 2 := by
  rintro ps Q - ⟨p, rfl, hp, q⟩
  exact near_aux (fun N h => ⟨rfl, h⟩) (fun xs N h1 h2 h3 => ⟨xs, .inl rfl, h1, h2, h3⟩) hp q
/-! ### the least dot is in reach -/
theorem best_close {p r : Pt} (h : Best p r) : Close p r := by
  obtain ⟨r', h1, h2, h3⟩ := to_close p _ r (Nat.le_refl _) h.1
  have e := Do.tot _ _ h3 (h.2 r' h1)
  have : r = r' := congrArg Prod.snd e
  rw [this]; exact h2
theorem close_bd {a b x y m : Int} (h : a * y - b * x = 1) (h1 : a * x + b * y < a * a + b * b) (h2 : -(a * a + b * b) < a * x + b * y) (ha : -m ≤ a) (ha2 : a ≤ m) (hm : 1 ≤ m) : -m ≤ x ∧ x ≤ m := by
  have sa := sq_ge a
  have sb := sq_ge b
  have xw : x * (a * a + b * b) = a * (a * x + b * y) - b := e1 a b x y h
  by_cases a0 : a = 0
  · subst a0
    have e : b * x = -1 := by grind
    have : (b * x).natAbs = 1 := by rw [e]; rfl
    rw [Int.natAbs_mul] at this
    have : x.natAbs = 1 := Nat.eq_one_of_mul_eq_one_left this
    omega
  · rcases Int.lt_or_gt_of_ne a0 with a1 | a1
    · constructor
      · refine Int.le_trans (show -m ≤ a by omega) ?_
        apply Int.not_lt.mp; intro hx
        have p1 := Int.mul_nonneg (show 0 ≤ a - 1 - x by omega) (show 0 ≤ a * a + b * b by omega)
        have p2 := Int.mul_nonneg (show 0 ≤ -a by omega) (show 0 ≤ (a * a + b * b) - 1 - (a * x + b * y) by omega)
        grind
      · refine Int.le_trans ?_ (show -a ≤ m by omega)
        apply Int.not_lt.mp; intro hx
        have p1 := Int.mul_nonneg (show 0 ≤ x + a - 1 by omega) (show 0 ≤ a * a + b * b by omega)
        have p2 := Int.mul_nonneg (show 0 ≤ -a by omega) (show 0 ≤ a * x + b * y + (a * a + b * b) - 1 by omega)
        grind
    · constructor
      · refine Int.le_trans (show -m ≤ -a by omega) ?_
        apply Int.not_lt.mp; intro hx
        have p1 := Int.mul_nonneg (show 0 ≤ -a - 1 - x by omega) (show 0 ≤ a * a + b * b by omega)
        have p2 := Int.mul_nonneg (show 0 ≤ a by omega) (show 0 ≤ (a * x + b * y) + (a * a + b * b) - 1 by omega)
        grind
      · refine Int.le_trans ?_ ha2
        apply Int.not_lt.mp; intro hx
        have p1 := Int.mul_nonneg (show 0 ≤ x - a - 1 by omega) (show 0 ≤ a * a + b * b by omega)
        have p2 := Int.mul_nonneg (show 0 ≤ a by omega) (show 0 ≤ (a * a + b * b) - 1 - (a * x + b * y) by omega)
        grind
theorem best_ok {p r : Pt} (hp : okPt p = true) (h : Best p r) : okPt r = true := by
  have hb := okPt_iff.mp hp
  obtain ⟨c1, c2⟩ := best_close h
  have t := h.1
  unfold turn at t
  have b1 := close_bd (m := 10000) t c1 c2 hb.1 hb.2.1 (by decide)
  have b2 := close_bd (a := p.2) (b := -p.1) (x := r.2) (y := -r.1) (m := 10000) (by grind) (by grind) (by grind) hb.2.2.1 hb.2.2.2 (by decide)
  exact okPt_iff.mpr ⟨b1.1, b1.2, b2.1, b2.2⟩
/-- the least dot, where one that turns it is known -/
theorem best_near {p f : Pt} (hf : turn p f = 1) : Best p (minL (key (dotT f p ((-(f.1 * p.1 + f.2 * p.2)).fdiv (p.1 * p.1 + p.2 * p.2)))) [key (dotT f p ((-(f.1 * p.1 + f.2 * p.2)).fdiv (p.1 * p.1 + p.2 * p.2) + 1))]).2 := by
  have hw : 0 < p.1 * p.1 + p.2 * p.2 := by
    have s1 := sq_ge p.1
    have s2 := sq_ge p.2
    by_cases e : p.1 = 0
    · by_cases e2 : p.2 = 0
      · unfold turn at hf; rw [e, e2] at hf; omega
      · have := pos_sq e2; omega
    · have := pos_sq e; omega
  generalize hn : (-(f.1 * p.1 + f.2 * p.2)).fdiv (p.1 * p.1 + p.2 * p.2) = n
  obtain ⟨m1, m2⟩ := minL_spec (key (dotT f p n)) [key (dotT f p (n + 1))]
  refine best_of (l := [dotT f p n, dotT f p (n + 1)]) ?_ ?_ m1 m2
  · intro r hr
    rcases List.mem_cons.mp hr with rfl | hr
    · exact turn_dotT hf
    · rw [List.mem_singleton.mp hr]; exact turn_dotT hf
  · intro r hr hc
    obtain ⟨t, e1, e2⟩ := other p.1 p.2 r.1 r.2 f.1 f.2 hr hf
    obtain ⟨c1, c2⟩ := hc
    rw [e1, e2] at c1 c2
    have := near_win (t := t) hw hn.symm c1 c2
    have er : r = dotT f p t := Prod.ext e1 e2
    rw [er]
    rcases (show t = n ∨ t = n + 1 by omega) with rfl | rfl
    · exact List.mem_cons_self
    · exact List.mem_cons_of_mem _ List.mem_cons_self
def S__law_is_right : SpV := fun ps Q => ∃ m : Int, ps = [.hnd, .int m] ∧ 1 ≤ m ∧ m ≤ 10000 ∧ Q (.val (.bl true))
def w_lir_loop (S__law_is_ray : SpV) (S__law_same : SpV) (S_is_ray : SpV) : WS := (wSeq (wPar 9 10 (wCons (wCall opRepr (wCons (wVar 7) wNil)) (wCons (wCallN 1 S__law_is_ray (wCons (wVar 7) wNil)) wNil))) (wIfS (wOrT (wNotT (wTst (wCallN 2 S__law_same (wCons (wCallN 1 S_is_ray (wCons (wVar 7) wNil)) (wCons (wVar 10) wNil))))) (wTst (wBin opNe (wCall opRepr (wCons (wVar 7) wNil)) (wVar 9)))) (wRet (wC (.bl false))) wNext))
def w__law_is_right (S__law_draw : SpV) (S__law_is_ray : SpV) (S__law_near : SpV) (S__law_ray : SpV) (S__law_same : SpV) (S__law_turn : SpV) (S__law_with_turn : SpV) (S_is_ray : SpV) (S_ray_of : SpV) (S_turn_of : SpV) (S_with_turn : SpV) : WS := (wSeq (wAsg (wTup (wCons (wCallN 2 S__law_ray (wCons (wVar 0) (wCons (wVar 1) wNil))) (wCons (wCallN 2 S__law_ray (wCons (wVar 0) (wCons (wVar 1) wNil))) wNil))) (wgTup 2 (wgCons (wgName 2) (wgCons (wgName 3) wgNil)))) (wSeq (wSet 4 (wBin opAdd (wC (.int 1)) (wCallN 2 S__law_draw (wCons (wVar 0) (wCons (wBin opFdiv (wC (.int 10000)) (wCall opMax2 (wCons (wCall opAbs (wCons (wBin opIx (wVar 2) (wC (.int 0))) wNil)) (wCons (wCall opAbs (wCons (wBin opIx (wVar 2) (wC (.int 1))) wNil)) wNil)))) wNil))))) (wSeq (wSet 5 (wTup (wCons (wBin opMul (wVar 4) (wBin opIx (wVar 2) (wC (.int 0)))) (wCons (wBin opMul (wVar 4) (wBin opIx (wVar 2) (wC (.int 1)))) wNil)))) (wSeq (wIfS (wNotT (wTst (wCallN 2 S__law_same (wCons (wLst (wCons (wCallN 1 S_ray_of (wCons (wVar 5) wNil)) (wCons (wCallN 1 S_ray_of (wCons (wVar 2) wNil)) (wCons (wCallN 2 S_turn_of (wCons (wVar 2) (wCons (wVar 3) wNil))) (wCons (wCallN 2 S_turn_of (wCons (wVar 3) (wCons (wVar 2) wNil))) wNil))))) (wCons (wLst (wCons (wVar 2) (wCons (wVar 2) (wCons (wCallN 2 S__law_turn (wCons (wVar 2) (wCons (wVar 3) wNil))) (wCons (wCallN 2 S__law_turn (wCons (wVar 3) (wCons (wVar 2) wNil))) wNil))))) wNil))))) (wRet (wC (.bl false))) wNext) (wSeq (wIfS (wOrT (wTst (wBin opNe (wCallN 2 S_turn_of (wCons (wVar 2) (wCons (wVar 5) wNil))) (wC (.int 0)))) (wOrT (wTst (wBin opNe (wCallN 2 S_turn_of (wCons (wVar 5) (wCons (wVar 3) wNil))) (wBin opMul (wVar 4) (wCallN 2 S_turn_of (wCons (wVar 2) (wCons (wVar 3) wNil)))))) (wTst (wBin opNe (wCallN 2 S_turn_of (wCons (wTup (wCons (wC (.int 0)) (wCons (wC (.int 0)) wNil))) (wCons (wVar 5) wNil))) (wC (.int 0)))))) (wRet (wC (.bl false))) wNext) (wSeq (wSet 6 (wCallN 1 S_with_turn (wCons (wVar 2) wNil))) (wSeq (wIfS (wOrT (wNotT (wTst (wCallN 2 S__law_same (wCons (wVar 6) (wCons (wCallN 1 S__law_with_turn (wCons (wVar 2) wNil)) wNil))))) (wTst (wBin opNe (wCallN 2 S_turn_of (wCons (wVar 2) (wCons (wVar 6) wNil))) (wC (.int 1))))) (wRet (wC (.bl false))) wNext) (wSeq (wFor (wiSeq (wBin opAdd (wLst (wCons (wVar 2) (wCons (wVar 5) wNil))) (wComp (wiRng1 (wCons (wC (.int 5)) wNil)) (wgName 8) wYes (wCallN 2 S__law_near (wCons (wVar 0) (wCons (wVar 2) wNil))) [8]))) (wgName 7) (w_lir_loop S__law_is_ray S__law_same S_is_ray)) (wRet (wC (.bl true)))))))))))
theorem same_true {n : Nat} {p : PV} {Q : Sl → Prop} (h : sameOk n p) (q : Q (.val (.bl true))) : S__law_same n [p, p] Q := ⟨p, rfl, h, q⟩
theorem lir_loop {ys : List PV} {D : EndsV} {s0 s1 s2 s3 s4 s5 s6 s7 s8 s9 s10 : Sl} (hy : ∀ y ∈ ys, Th y) (he : ∀ a b c, D.nx [s0, s1, s2, s3, s4, s5, s6, a, s8, b, c]) :
    forL (wgName 7) (w_lir_loop S__law_is_ray (S__law_same 9) S_is_ray) ys D [s0, s1, s2, s3, s4, s5, s6, s7, s8, s9, s10] := by
  refine forL_ind (J := fun rest ρ => (∀ y ∈ rest, Th y) ∧ ∃ a b c, ρ = [s0, s1, s2, s3, s4, s5, s6, a, s8, b, c]) ?_ ?_ _ _ ⟨hy, _, _, _, rfl⟩
  · rintro x xs ρ ⟨hx, a, b, c, rfl⟩ N hN
    obtain ⟨t1, t2⟩ := hx x List.mem_cons_self
    obtain ⟨z, hz⟩ := repr_of t2
    unfold w_lir_loop
    walk_at "vx"
    refine hz _ ?_
    walk_at "vx"
    refine ⟨x, rfl, t1, ?_⟩
    walk_at "vx"
    refine ⟨x, rfl, t1, same_true sameOk_bl ?_⟩
    walk_at "vx"
    refine hz _ ?_
    walk_at "vx"
    exact hN _ ⟨fun y h => hx y (List.mem_cons_of_mem _ h), _, _, _, rfl⟩
  · rintro ρ ⟨_, a, b, c, rfl⟩
    exact he a b c
theorem rayP_mul {p : Pt} {b : Int} (hb : 0 < b) (hg : Int.gcd p.1 p.2 = 1) : rayP (b * p.1, b * p.2) = p := by
  unfold rayP
  have e : (Int.gcd (b * p.1) (b * p.2) : Int) = b := by
    rw [Int.gcd_mul_left, hg]; omega
  rw [e]
  exact Prod.ext (Int.mul_ediv_cancel_left _ (by omega)) (Int.mul_ediv_cancel_left _ (by omega))
theorem rayP_self {p : Pt} (hg : Int.gcd p.1 p.2 = 1) : rayP p = p := by
  have := rayP_mul (b := 1) (by decide) hg
  simpa using this
theorem v__law_is_right : SV (w__law_is_right S__law_draw S__law_is_ray S__law_near S__law_ray (S__law_same 9) S__law_turn S__law_with_turn S_is_ray S_ray_of S_turn_of S_with_turn) 11 S__law_is_right 2 := by
  rintro ps Q - ⟨m, rfl, m1, m2, q⟩
  unfold w__law_is_right
  walk_at "vx"
  refine ⟨m, rfl, m1, by omega, fun p gp a1 a2 a3 a4 => ?_⟩
  walk_at "vx"
  refine ⟨m, rfl, m1, by omega, fun o go b1 b2 b3 b4 => ?_⟩
  walk_at "vx"
  refine ⟨szb rfl, ?_⟩
  have nz : p.1 ≠ 0 ∨ p.2 ≠ 0 := by
    by_cases e : p.1 = 0
    · right; intro e2; rw [e, e2] at gp; cases gp
    · exact .inl e
  have hp : okPt p = true := okPt_iff.mpr ⟨by omega, by omega, by omega, by omega⟩
  have ho : okPt o = true := okPt_iff.mpr ⟨by omega, by omega, by omega, by omega⟩
  have rp : okRay p = true := by unfold okRay; rw [hp, gp]; rfl
  have p0 : p ≠ (0, 0) := by intro e; rw [e] at nz; simp at nz
  generalize hM : (if (if p.2 < 0 then -p.2 else p.2) > if p.1 < 0 then -p.1 else p.1 then if p.2 < 0 then -p.2 else p.2 else if p.1 < 0 then -p.1 else p.1) = M
  have M1 : 1 ≤ M := by omega
  have M2 : M ≤ 10000 := by omega
  have M3 : (p.1.natAbs : Int) ≤ M := by omega
  have M4 : (p.2.natAbs : Int) ≤ M := by omega
  clear hM
  refine ⟨divok (by omega) (by omega) (by omega), ?_⟩
  have ed : Int.fdiv 10000 M = 10000 / M := Int.fdiv_eq_ediv_of_nonneg _ (by omega)
  have e1 : 10000 / M * M ≤ 10000 := Int.ediv_mul_le _ (by omega)
  have e2 : 1 ≤ 10000 / M := by
    have := Int.le_ediv_of_mul_le (a := 1) (b := 10000) (c := M) (by omega) (by omega)
    exact this
  have e3 : 10000 / M ≤ 10000 := by
    have := Int.mul_nonneg (show 0 ≤ 10000 / M by omega) (show 0 ≤ M - 1 by omega)
    grind
  rw [ed]
  refine ⟨_, rfl, by omega, by omega, fun r r0 r1 => ?_⟩
  walk_at "vx"
  generalize hb : 1 + r = b
  have bb : 1 ≤ b := by omega
  have bM : b * M ≤ 10000 := by
    have := Int.mul_nonneg (show 0 ≤ 10000 / M - b by omega) (show 0 ≤ M by omega)
    grind
  have q1 : (b * p.1).natAbs ≤ 10000 := by
    have k := Int.mul_nonneg (show 0 ≤ b by omega) (show 0 ≤ M - p.1.natAbs by omega)
    have e : ((b * p.1).natAbs : Int) = b * p.1.natAbs := by rw [Int.natAbs_mul, Int.natCast_mul, show (b.natAbs : Int) = b by omega]
    have : b * (M - p.1.natAbs) = b * M - b * p.1.natAbs := by grind
    omega
  have q2 : (b * p.2).natAbs ≤ 10000 := by
    have k := Int.mul_nonneg (show 0 ≤ b by omega) (show 0 ≤ M - p.2.natAbs by omega)
    have e : ((b * p.2).natAbs : Int) = b * p.2.natAbs := by rw [Int.natAbs_mul, Int.natCast_mul, show (b.natAbs : Int) = b by omega]
    have : b * (M - p.2.natAbs) = b * M - b * p.2.natAbs := by grind
    omega
  have bb2 : b ≤ 10000 := by omega
  clear e1 e2 e3 ed r0 r1 hb bM
  refine ⟨cmul_r (by omega) (by omega), cmul_r (by omega) (by omega), szb rfl, ?_⟩
  rw [pt_mk]
  have hd : okPt (b * p.1, b * p.2) = true := okPt_iff.mpr ⟨by omega, by omega, by omega, by omega⟩
  have d0 : ((b * p.1, b * p.2) : Pt) ≠ (0, 0) := by
    intro e
    have x1 : b * p.1 = 0 := congrArg Prod.fst e
    have x2 : b * p.2 = 0 := congrArg Prod.snd e
    rcases nz with h | h
    · rcases Int.mul_eq_zero.mp x1 with z | z <;> omega
    · rcases Int.mul_eq_zero.mp x2 with z | z <;> omega
  have hr : rayP (b * p.1, b * p.2) = p := rayP_mul (by omega) gp
  have t1 : turn p (b * p.1, b * p.2) = 0 := by unfold turn; grind
  have t2 : turn (b * p.1, b * p.2) o = b * turn p o := by unfold turn; grind
  have t3 : turn (0, 0) (b * p.1, b * p.2) = 0 := by unfold turn; grind
  have thd : Th (pt (b * p.1, b * p.2)) := th_pt (Nat.lt_of_le_of_lt q1 (by decide)) (Nat.lt_of_le_of_lt q2 (by decide))
  have hpb := okb hp
  have thp : Th (pt p) := th_pt (Nat.lt_of_le_of_lt hpb.1 (by decide)) (Nat.lt_of_le_of_lt hpb.2 (by decide))
  generalize ((b * p.1, b * p.2) : Pt) = d at *
  refine ⟨d, rfl, d0, hd, p, rfl, p0, hp, p, o, rfl, hp, ho, o, p, rfl, ho, hp, szb rfl, p, o, rfl, .inl (lgP_of (smP_of hp)), o, p, rfl, .inl (lgP_of (smP_of ho)), szb rfl, ?_⟩
  rw [hr, rayP_self gp]
  refine same_true ⟨Nat.le_of_ble_eq_true rfl, allc sameOk_pt (allc sameOk_pt (allc sameOk_int (allc sameOk_int alln)))⟩ ?_
  walk_at "vx"
  refine ⟨p, d, rfl, hp, hd, ?_⟩
  rw [t1]
  walk_at "vx"
  refine ⟨d, o, rfl, hd, ho, p, o, rfl, hp, ho, ?_⟩
  rw [t2]
  walk_at "vx"
  refine ⟨cmul_l (by omega) (by omega), szb rfl, (0, 0), d, rfl, rfl, hd, ?_⟩
  rw [t3]
  walk_at "vx"
  refine ⟨p, rfl, rp, fun w hw => ?_⟩
  walk_at "vx"
  refine ⟨p, rfl, rp, fun w' hw' => ?_⟩
  rw [best_one hw' hw]
  refine same_true sameOk_pt ?_
  walk_at "vx"
  refine ⟨p, w, rfl, hp, best_ok hp hw, ?_⟩
  rw [hw.1]
  walk_at "vx"
  refine ⟨szb rfl, by omega, by omega, ?_⟩
  refine compL_any Th _ ?_ (fun x hx k N hk hN => ?_) fun ys hl hy => ?_
  · rw [rangeP_len]; exact Nat.le_of_ble_eq_true rfl
  · walk_at "vx"
    exact ⟨p, rfl, hp, fun y hy => ⟨hk, hN y hy⟩⟩
  · rw [rangeP_len] at hl
    have hl5 : ys.length = 5 := hl
    walk_at "vx"
    refine ⟨sz (by omega), ?_⟩
    exact lir_loop (allc thp (allc thd hy)) fun a b c => q
def w_law_rest (S__law_any : SpV) (S__law_is_right : SpV) (S__law_same : SpV) (S_ray_of : SpV) (S_turn_of : SpV) (S_with_turn : SpV) : WS := (wSeq (wSet 2 (wLst (wCons (wCallN 1 S_ray_of (wCons (wTup (wCons (wC (.int 6)) (wCons (wUn opNeg (wC (.int 4))) wNil))) wNil)) (wCons (wCallN 2 S_turn_of (wCons (wTup (wCons (wC (.int 2)) (wCons (wC (.int 1)) wNil))) (wCons (wTup (wCons (wC (.int 1)) (wCons (wC (.int 3)) wNil))) wNil))) (wCons (wCallN 1 S_with_turn (wCons (wTup (wCons (wC (.int 1)) (wCons (wC (.int 0)) wNil))) wNil)) (wCons (wCallN 1 S_with_turn (wCons (wTup (wCons (wC (.int 0)) (wCons (wC (.int 1)) wNil))) wNil)) (wCons (wCallN 1 S_with_turn (wCons (wTup (wCons (wC (.int 1)) (wCons (wC (.int 1)) wNil))) wNil)) (wCons (wCallN 1 S_with_turn (wCons (wTup (wCons (wC (.int 2)) (wCons (wC (.int 5)) wNil))) wNil)) (wCons (wCallN 1 S_with_turn (wCons (wTup (wCons (wUn opNeg (wC (.int 3))) (wCons (wC (.int 1)) wNil))) wNil)) wNil))))))))) (wSeq (wIfS (wNotT (wTst (wCallN 2 S__law_same (wCons (wVar 2) (wCons (wLst (wCons (wTup (wCons (wC (.int 3)) (wCons (wUn opNeg (wC (.int 2))) wNil))) (wCons (wC (.int 5)) (wCons (wTup (wCons (wC (.int 0)) (wCons (wC (.int 1)) wNil))) (wCons (wTup (wCons (wUn opNeg (wC (.int 1))) (wCons (wC (.int 0)) wNil))) (wCons (wTup (wCons (wUn opNeg (wC (.int 1))) (wCons (wC (.int 0)) wNil))) (wCons (wTup (wCons (wUn opNeg (wC (.int 1))) (wCons (wUn opNeg (wC (.int 2))) wNil))) (wCons (wTup (wCons (wUn opNeg (wC (.int 1))) (wCons (wC (.int 0)) wNil))) wNil)))))))) wNil))))) (wRet (wC (.bl false))) wNext) (wRet (wCall opAll (wCons (wComp (wiRng1 (wCons (wC (.int 8)) wNil)) (wgName 3) wYes (wCallN 2 S__law_is_right (wCons (wVar 1) (wCons (wCallN 2 S__law_any (wCons (wVar 1) (wCons (wLst (wCons (wC (.int 2)) (wCons (wC (.int 5)) (wCons (wC (.int 20)) (wCons (wC (.int 300)) (wCons (wC (.int 10000)) wNil)))))) wNil))) wNil))) [3]) wNil)))))
theorem best_is {p f r r' : Pt} (h : Best p r) (hf : turn p f = 1) (e : (minL (key (dotT f p ((-(f.1 * p.1 + f.2 * p.2)).fdiv (p.1 * p.1 + p.2 * p.2)))) [key (dotT f p ((-(f.1 * p.1 + f.2 * p.2)).fdiv (p.1 * p.1 + p.2 * p.2) + 1))]).2 = r') : r = r' := by
  have := best_one h (best_near hf)
  rw [this, e]
theorem v_law_rest : w_law_rest S__law_any S__law_is_right (S__law_same 9) S_ray_of S_turn_of S_with_turn { nx := fun _ => False, rt := fun r => r = .val (.bl true) } (startL 4) := by
  unfold w_law_rest startL
  walk_at "vx"
  refine ⟨szb rfl, (6, -4), rfl, by decide, by decide, ?_⟩
  refine ⟨szb rfl, szb rfl, (2, 1), (1, 3), rfl, by decide, by decide, ?_⟩
  refine ⟨szb rfl, (1, 0), rfl, by decide, fun r1 h1 => ?_⟩
  rw [best_is (f := (0, 1)) (r' := (0, 1)) h1 (by decide) (by decide)]
  refine ⟨szb rfl, (0, 1), rfl, by decide, fun r2 h2 => ?_⟩
  rw [best_is (f := (-1, 0)) (r' := (-1, 0)) h2 (by decide) (by decide)]
  refine ⟨szb rfl, (1, 1), rfl, by decide, fun r3 h3 => ?_⟩
  rw [best_is (f := (0, 1)) (r' := (-1, 0)) h3 (by decide) (by decide)]
  refine ⟨szb rfl, (2, 5), rfl, by decide, fun r4 h4 => ?_⟩
  rw [best_is (f := (1, 3)) (r' := (-1, -2)) h4 (by decide) (by decide)]
  refine ⟨szb rfl, (-3, 1), rfl, by decide, fun r5 h5 => ?_⟩
  rw [best_is (f := (-1, 0)) (r' := (-1, 0)) h5 (by decide) (by decide)]
  walk_at "vx"
  walk_at "vc"
  refine ⟨_, rfl, ?_, ?_⟩
  · exact ⟨Nat.le_of_ble_eq_true rfl, allc (sameOk_pt (p := (3, -2))) (allc sameOk_int (allc (sameOk_pt (p := (0, 1))) (allc (sameOk_pt (p := (-1, 0))) (allc (sameOk_pt (p := (-1, 0))) (allc (sameOk_pt (p := (-1, -2))) (allc (sameOk_pt (p := (-1, 0))) alln))))))⟩
  walk_at "vx"
  refine ⟨by omega, by omega, ?_⟩
  rw [rangeP_I]
  refine compL_map PV.int (fun _ => .bl true) _ (by rw [rangeI_len]; exact Nat.le_of_ble_eq_true rfl) (fun y hy k N hk hN => ?_) ?_
  · walk_at "vx"
    refine ⟨szb rfl, _, .inl rfl, Nat.le_of_ble_eq_true rfl, Nat.le_of_ble_eq_true rfl, ?_⟩
    have ok : ∀ m : Int, 1 ≤ m → m ≤ 10000 → S__law_is_right [.hnd, .int m] fun r => k ∧ N r.pv [.no, .val .hnd, .val (.lst [pt (rayP (6, -4)), .int (turn (2, 1) (1, 3)), pt (0, 1), pt (-1, 0), pt (-1, 0), pt (-1, -2), pt (-1, 0)]), .no] := fun m h1 h2 => ⟨m, rfl, h1, h2, hk, hN⟩
    exact allc (ok 2 (by decide) (by decide)) (allc (ok 5 (by decide) (by decide)) (allc (ok 20 (by decide) (by decide)) (allc (ok 300 (by decide) (by decide)) (allc (ok 10000 (by decide) (by decide)) alln))))
  · show opAll [.lst _] _
    rw [all_true, all_bl, all_tt]
end VM
end
section
set_option Elab.async false
set_option linter.all false
set_option maxRecDepth 100000
set_option maxHeartbeats 4000000
open PySem PySem.Spec PyProof.Rows L2 VE
local macro_rules | `(tactic| walk_at "vx") => `(tactic| simp (config := {decide := false}) only [wVar, wC, wBin, wUn, wTst, wAndT, wOrT, wNotT, wAndV, wOrV, wNotV, wIf, wNil, wCons, wTup, wLst, wSl, wNoPart, wPart, wCall, wCallN, wNext, wSeq, wBreak, wCont, wNever, wRet, wRetN, wRet0, wIfS, wDrop, wSet, wPar, wPar3, wgName, wgNil, wgCons, wgTup, wgIx, wAsg, wAug, wAppend, wInsert, bNil, bCons, wParB, wParB3, wAsgB, sets, VM.exB2, VM.exB3, VM.zipP_cons, VM.zipP_nil, VM.compL_cons, VM.compL_nil, wiSeq, wiRng1, wiRng2, wiZip, wiEnum, wFor, wYes, wComp, wChain, wipeR, backR, look, VM.ex2, VM.ex3, VM.eq_int, VM.ne_int, VM.ix_t0, VM.ix_t1, VM.ix_t2, VM.ix_l0, VM.ix_l1, VM.ix_l2, VM.ix_pt0, VM.ix_pt1, VM.eq_bl, VM.ne_bl, VM.eq_str, VM.ne_str, VM.is_non, VM.isnot_non, decide_true, decide_false, decide_eq_true_eq, eq_self, VM.pv_val, VM.pv_own, VM.noOwn_eq, VM.noOwnB, List.all_cons, List.all_nil, Bool.and_self, opInt, opSub, opMod, opFdiv, opPow, opCmpI, opLt, opLe, opGt, opGe, opAdd, opMul, opNeg, opLen, opAbs, opIntC, opMax2, opMin2, opList, opTuple, opSl, opBack, wIxN, wLenN, startR,
  List.set_cons_zero, List.set_cons_succ, List.length_cons, List.length_nil, List.map_cons, List.map_nil, List.replicate_succ, List.replicate_zero, List.nil_append, List.cons_append, Nat.zero_add, Nat.reduceAdd, Nat.reduceSub, if_true, if_false, true_and, and_true, Bool.false_eq_true, ite_true, ite_false, List.cons.injEq, PV.int.injEq, PV.bl.injEq, exists_eq_left, exists_eq_left', exists_and_left, and_self, reduceCtorEq, Bool.not_true, Bool.not_false, ite_self])
local macro_rules | `(tactic| walk_at "vc") => `(tactic| repeat (with_reducible refine And.intro ?_ ?_; focus first | omega | with_reducible rfl | exact VM.szb rfl | exact VM.szlb rfl | exact VM.cmul_l (by omega) (by omega) | exact VM.cmul_r (by omega) (by omega) | exact VM.divok (by omega) (by omega) (by omega) | omega))

namespace VM
open Tn Ch
def S_by_chain : SpV := fun ps Q => ∃ r : List Int, ps = [.tup (r.map PV.int)] ∧ r ≠ [] ∧ r.length ≤ 20 ∧ (∀ c ∈ r, 2 ≤ c ∧ c ≤ 1000) ∧ Q (.val (pt (bc r)))
def w_by_chain (S_is_within : SpV) : WS := (wSeq (wIfS (wOrT (wNotT (wTst (wCall opIsi (wCons (wVar 0) (wCons (wC (.ty "tuple")) wNil))))) (wNotT (wTst (wChain opLe opLe (wC (.int 1)) (wCall opLen (wCons (wVar 0) wNil)) (wC (.int 20)))))) wNever wNext) (wSeq (wIfS (wNotT (wTst (wCall opAll (wCons (wComp (wiSeq (wVar 0)) (wgName 1) wYes (wCallN 3 S_is_within (wCons (wVar 1) (wCons (wC (.int 2)) (wCons (wC (.int 1000)) wNil)))) [1]) wNil)))) wNever wNext) (wSeq (wAsg (wTup (wCons (wC (.int 1)) (wCons (wC (.int 0)) wNil))) (wgTup 2 (wgCons (wgName 2) (wgCons (wgName 3) wgNil)))) (wSeq (wFor (wiSeq (wUn opBack (wVar 0))) (wgName 4) (wPar 2 3 (wCons (wBin opSub (wBin opMul (wVar 4) (wVar 2)) (wVar 3)) (wCons (wVar 2) wNil)))) (wRet (wTup (wCons (wVar 2) (wCons (wVar 3) wNil))))))))
theorem bc_foldr (r : List Int) : bc r = r.foldr (fun c z => (c * z.1 - z.2, z.1)) (1, 0) := by
  induction r with
  | nil => rfl
  | cons c r ih => rw [List.foldr_cons, ← ih]; rfl
theorem bc_back (r : List Int) : bc r = r.reverse.foldl (fun z c => (c * z.1 - z.2, z.1)) (1, 0) := by rw [bc_foldr, List.foldl_reverse]
theorem v_by_chain : SV (w_by_chain S_is_within) 5 S_by_chain 1 := by
  rintro ps Q - ⟨r, rfl, r0, r1, hr, k⟩
  unfold w_by_chain
  walk_at "vx"
  simp only [isi_tuple dat_tup, kT]
  simp only [Bool.not_true, Bool.false_eq_true, if_false]
  have l0 : 1 ≤ r.length := by cases r with | nil => exact absurd rfl r0 | cons _ _ => simp
  rw [List.length_map, if_pos (by omega)]

  rw [if_neg (by simp; omega)]
  refine compL_map PV.int (fun _ => .bl true) r (by omega) (fun c hc k N hk hN => ?_) ?_
  · walk_at "vx"
    refine ⟨_, _, _, rfl, dat_int, ?_⟩
    have e : within 2 1000 (.int c) = true := by have := hr c hc; simp only [within, Bool.and_eq_true, decide_eq_true_eq]; omega
    rw [e]; exact ⟨hk, hN⟩
  · show opAll [.lst _] _
    rw [all_true, all_bl, all_tt]
    walk_at "vx"
    refine ⟨szb rfl, ?_⟩
    rw [← List.map_reverse]
    refine forL_typed PV.int (fun done ρ => ∃ z : Sl, ρ = [.val (.tup (r.map PV.int)), .no, .val (.int (done.foldl (fun z c => (c * z.1 - z.2, z.1)) ((1 : Int), (0 : Int))).1), .val (.int (done.foldl (fun z c => (c * z.1 - z.2, z.1)) ((1 : Int), (0 : Int))).2), z]) ⟨_, rfl⟩ ?_ ?_
    · rintro done c ⟨hc, _⟩ ρ ⟨z, rfl⟩ N hN
      have hc2 := hr c (List.mem_reverse.mp hc)
      walk_at "vx"
      refine ⟨cmul_l (by omega) (by omega), hN _ ⟨.val (.int c), ?_⟩⟩
      rw [List.foldl_append]; rfl
    · rintro ρ ⟨z, rfl⟩
      walk_at "vx"
      rw [bc_back] at k
      exact ⟨szb rfl, k⟩
theorem atI_last {xs : List PV} {x : PV} : L2.atI (xs ++ [x]) (-1) = some x := by
  unfold L2.atI L2.ixN
  rw [if_neg (by decide), if_pos (by rw [List.length_append, List.length_singleton]; omega)]
  show (xs ++ [x])[((-1 : Int) + ((xs ++ [x]).length : Int)).toNat]? = _
  rw [List.length_append, List.length_singleton, show ((-1 : Int) + ((xs.length + 1 : Nat) : Int)).toNat = xs.length by omega]
  simp
def S__law_chain : SpV := S_raw_chain
def w__law_chain : WS := (wSeq (wSet 2 (wLst wNil)) (wSeq (wWhile (wTst (wBin opGt (wVar 1) (wC (.int 0)))) (wSeq (wAppend 2 (wBin opSub (wC (.int 0)) (wBin opFdiv (wBin opSub (wC (.int 0)) (wVar 0)) (wVar 1)))) (wPar 0 1 (wCons (wVar 1) (wCons (wBin opSub (wBin opMul (wIxN 2 (wUn opNeg (wC (.int 1)))) (wVar 1)) (wVar 0)) wNil))))) (wRetN 2)))
theorem v__law_chain : SV w__law_chain 3 S__law_chain 2 := by
  rintro ps Q - ⟨n, q, rfl, h0, h1, k⟩
  unfold w__law_chain
  walk_at "vx"
  walk_at "vc"
  refine wWhile_ind (fun m ρ => ∃ (a b : Int) (acc : List Int), ρ = [.val (.int a), .val (.int b), .own (acc.map PV.int)] ∧ 0 ≤ b ∧ b.toNat = m ∧ acc ++ hj a b = hj n q ∧ acc.length + b.toNat ≤ 1000000 ∧ b < 1000000) q.toNat
    ⟨n, q, [], rfl, h0, rfl, rfl, by simp; omega, h1⟩ ?_
  rintro m ρ ⟨a, b, acc, rfl, hb, rfl, he, hl, hb2⟩ N hN
  walk_at "vx"
  by_cases h : 0 < b
  · rw [if_pos h]
    have u := up_div (n := a) h
    rw [hj_step h] at he
    have ef : 0 - (0 - a).fdiv b = (a + b - 1) / b := by
      rw [Int.fdiv_eq_ediv_of_nonneg _ (by omega)]
      have x1 := Int.mul_ediv_add_emod (0 - a) b
      have x2 := Int.emod_nonneg (0 - a) (show b ≠ 0 by omega)
      have x3 := Int.emod_lt_of_pos (0 - a) h
      generalize (0 - a) / b = z at *
      generalize (a + b - 1) / b = y at *
      have e : (y + z) * b = y * b + b * z := by grind
      have e1 : y + z = 0 := by
        rcases Int.lt_trichotomy (y + z) 0 with g | g | g
        · have := Int.mul_nonneg (show 0 ≤ -(y + z) - 1 by omega) (show 0 ≤ b by omega)
          have : (-(y + z) - 1) * b = -((y + z) * b) - b := by grind
          omega
        · exact g
        · have := Int.mul_nonneg (show 0 ≤ y + z - 1 by omega) (show 0 ≤ b by omega)
          have : (y + z - 1) * b = (y + z) * b - b := by grind
          omega
      omega
    refine ⟨⟨_, rfl⟩, divok (by omega) (by omega) (by omega), szl (by rw [List.length_map]; omega), ?_⟩
    rw [ef]
    refine ⟨_, atI_last, ?_⟩
    refine ⟨cmul_r (by omega) (by omega), hN _ _ ?_ ⟨_, _, acc ++ [(a + b - 1) / b], by rw [List.map_append]; rfl, u.1, rfl, by simpa using he, ?_, ?_⟩⟩
    · omega
    · rw [List.length_append, List.length_singleton]; omega
    · omega
  · rw [if_neg h]
    rw [hj_zero h, List.append_nil] at he
    rw [he]; exact k
def S__law_by_chain : SpV := fun ps Q => ∃ r : List Int, ps = [.tup (r.map PV.int)] ∧ r ≠ [] ∧ r.length ≤ 100000 ∧ (∀ c ∈ r, 2 ≤ c ∧ c ≤ 1000000) ∧ Q (.val (pt (bc r)))
def w__law_by_chain : WS := (wSeq (wPar 1 2 (wCons (wBin opIx (wVar 0) (wUn opNeg (wC (.int 1)))) (wCons (wC (.int 1)) wNil))) (wSeq (wFor (wiSeq (wUn opBack (wSl (wVar 0) wNoPart (wPart (wUn opNeg (wC (.int 1))))))) (wgName 3) (wPar 1 2 (wCons (wBin opSub (wBin opMul (wVar 3) (wVar 1)) (wVar 2)) (wCons (wVar 1) wNil)))) (wRet (wTup (wCons (wVar 1) (wCons (wVar 2) wNil))))))
theorem cut_init {xs : List PV} {x : PV} : cutP (xs ++ [x]) none (some (-1)) = xs := by
  unfold cutP
  have e1 : HT.sIx (xs ++ [x]).length 0 none = 0 := rfl
  have e2 : HT.sIx (xs ++ [x]).length (xs ++ [x]).length (some (-1)) = xs.length := by
    rw [List.length_append, List.length_singleton]
    simp only [HT.sIx]
    rw [if_pos (by decide)]
    omega
  rw [e1, e2]; simp
theorem v__law_by_chain : SV w__law_by_chain 4 S__law_by_chain 1 := by
  rintro ps Q - ⟨r, rfl, r0, r1, hr, k⟩
  obtain ⟨r', c, rfl⟩ : ∃ r' c, r = r' ++ [c] := ⟨r.dropLast, r.getLast r0, (List.dropLast_concat_getLast r0).symm⟩
  unfold w__law_by_chain
  walk_at "vx"
  rw [List.map_append, List.map_singleton, ix_tup' atI_last, cut_init, ← List.map_reverse]
  refine forL_typed PV.int (fun done ρ => ∃ z : Sl, ρ = [.val (.tup (r'.map PV.int ++ [.int c])), .val (.int (done.foldl (fun z c => (c * z.1 - z.2, z.1)) ((c : Int), (1 : Int))).1), .val (.int (done.foldl (fun z c => (c * z.1 - z.2, z.1)) ((c : Int), (1 : Int))).2), z]) ⟨_, rfl⟩ ?_ ?_
  · rintro done d ⟨hc, _⟩ ρ ⟨z, rfl⟩ N hN
    have hc2 := hr d (List.mem_append_left _ (List.mem_reverse.mp hc))
    walk_at "vx"
    refine ⟨cmul_l (by omega) (by omega), hN _ ⟨.val (.int d), ?_⟩⟩
    rw [List.foldl_append]; rfl
  · rintro ρ ⟨z, rfl⟩
    walk_at "vx"
    rw [bc_back, List.reverse_append, List.reverse_singleton, List.foldl_append] at k
    simp only [List.foldl_cons, List.foldl_nil, Int.mul_one, Int.sub_zero] at k
    exact ⟨szb rfl, k⟩
end VM
end
section
set_option Elab.async false
set_option linter.all false
set_option maxRecDepth 100000
set_option maxHeartbeats 4000000
open PySem PySem.Spec PyProof.Rows L2 VE
local macro_rules | `(tactic| walk_at "vx") => `(tactic| simp (config := {decide := false}) only [wVar, wC, wBin, wUn, wTst, wAndT, wOrT, wNotT, wAndV, wOrV, wNotV, wIf, wNil, wCons, wTup, wLst, wSl, wNoPart, wPart, wCall, wCallN, wNext, wSeq, wBreak, wCont, wNever, wRet, wRetN, wRet0, wIfS, wDrop, wSet, wPar, wPar3, wgName, wgNil, wgCons, wgTup, wgIx, wAsg, wAug, wAppend, wInsert, bNil, bCons, wParB, wParB3, wAsgB, sets, VM.exB2, VM.exB3, VM.zipP_cons, VM.zipP_nil, VM.compL_cons, VM.compL_nil, wiSeq, wiRng1, wiRng2, wiZip, wiEnum, wFor, wYes, wComp, wChain, wipeR, backR, look, VM.ex2, VM.ex3, VM.eq_int, VM.ne_int, VM.ix_t0, VM.ix_t1, VM.ix_t2, VM.ix_l0, VM.ix_l1, VM.ix_l2, VM.ix_pt0, VM.ix_pt1, VM.eq_bl, VM.ne_bl, VM.eq_str, VM.ne_str, VM.is_non, VM.isnot_non, decide_true, decide_false, decide_eq_true_eq, eq_self, VM.pv_val, VM.pv_own, VM.noOwn_eq, VM.noOwnB, List.all_cons, List.all_nil, Bool.and_self, opInt, opSub, opMod, opFdiv, opPow, opCmpI, opLt, opLe, opGt, opGe, opAdd, opMul, opNeg, opLen, opAbs, opIntC, opMax2, opMin2, opList, opTuple, opSl, opBack, wIxN, wLenN, startR,
  List.set_cons_zero, List.set_cons_succ, List.length_cons, List.length_nil, List.map_cons, List.map_nil, List.replicate_succ, List.replicate_zero, List.nil_append, List.cons_append, Nat.zero_add, Nat.reduceAdd, Nat.reduceSub, if_true, if_false, true_and, and_true, Bool.false_eq_true, ite_true, ite_false, List.cons.injEq, PV.int.injEq, PV.bl.injEq, exists_eq_left, exists_eq_left', exists_and_left, and_self, reduceCtorEq, Bool.not_true, Bool.not_false, ite_self])
local macro_rules | `(tactic| walk_at "vc") => `(tactic| repeat (with_reducible refine And.intro ?_ ?_; focus first | omega | with_reducible rfl | exact VM.szb rfl | exact VM.szlb rfl | exact VM.cmul_l (by omega) (by omega) | exact VM.cmul_r (by omega) (by omega) | exact VM.divok (by omega) (by omega) (by omega) | omega))

namespace VM
open Tn Ch
/-! ### tables, corners, types by own look -/
abbrev T4 := Int × Int × Int × Int
def t4 (t : T4) : PV := .tup [.int t.1, .int t.2.1, .int t.2.2.1, .int t.2.2.2]
def smT (m : Int) (t : T4) : Prop := (-m ≤ t.1 ∧ t.1 ≤ m) ∧ (-m ≤ t.2.1 ∧ t.2.1 ≤ m) ∧ (-m ≤ t.2.2.1 ∧ t.2.2.1 ≤ m) ∧ (-m ≤ t.2.2.2 ∧ t.2.2.2 ≤ m)
def det (t : T4) : Int := t.1 * t.2.2.2 - t.2.1 * t.2.2.1
def led (t : T4) (p : Pt) : Pt := (t.1 * p.1 + t.2.1 * p.2, t.2.2.1 * p.1 + t.2.2.2 * p.2)
def S__law_led : SpV := fun ps Q => ∃ t p, ps = [t4 t, pt p] ∧ smT 1000000 t ∧ Q (.val (pt (led t p)))
def w__law_led : WS := (wRet (wTup (wCons (wBin opAdd (wBin opMul (wBin opIx (wVar 0) (wC (.int 0))) (wBin opIx (wVar 1) (wC (.int 0)))) (wBin opMul (wBin opIx (wVar 0) (wC (.int 1))) (wBin opIx (wVar 1) (wC (.int 1))))) (wCons (wBin opAdd (wBin opMul (wBin opIx (wVar 0) (wC (.int 2))) (wBin opIx (wVar 1) (wC (.int 0)))) (wBin opMul (wBin opIx (wVar 0) (wC (.int 3))) (wBin opIx (wVar 1) (wC (.int 1))))) wNil))))
theorem v__law_led : SV w__law_led 2 S__law_led 2 := by
  rintro ps Q - ⟨t, p, rfl, ⟨h1, h2, h3, h4⟩, q⟩
  unfold w__law_led
  simp only [t4]
  walk_at "vx"
  rw [ix_tup' (i := 3) (x := .int t.2.2.2) (atI_nat (n := 3) rfl)]
  walk_at "vx"
  refine ⟨cmul_l (by omega) (by omega), cmul_l (by omega) (by omega), cmul_l (by omega) (by omega), cmul_l (by omega) (by omega), szb rfl, q⟩
def S__law_table : SpV := fun ps Q => ps = [.hnd] ∧ ∀ t : T4, smT 9 t → (det t = 1 ∨ det t = -1) → Q (.val (t4 t))
def w__law_table (S__law_any : SpV) (S__law_draw : SpV) : WS := (wSeq (wAsg (wCallN 2 S__law_any (wCons (wVar 0) (wCons (wLst (wCons (wTup (wCons (wC (.int 1)) (wCons (wC (.int 0)) (wCons (wC (.int 0)) (wCons (wC (.int 1)) wNil))))) (wCons (wTup (wCons (wC (.int 1)) (wCons (wC (.int 0)) (wCons (wC (.int 0)) (wCons (wC (.int 1)) wNil))))) (wCons (wTup (wCons (wC (.int 0)) (wCons (wUn opNeg (wC (.int 1))) (wCons (wC (.int 1)) (wCons (wC (.int 0)) wNil))))) (wCons (wTup (wCons (wC (.int 1)) (wCons (wC (.int 0)) (wCons (wC (.int 0)) (wCons (wUn opNeg (wC (.int 1))) wNil))))) (wCons (wTup (wCons (wUn opNeg (wC (.int 1))) (wCons (wC (.int 0)) (wCons (wC (.int 0)) (wCons (wUn opNeg (wC (.int 1))) wNil))))) wNil)))))) wNil))) (wgTup 4 (wgCons (wgName 1) (wgCons (wgName 2) (wgCons (wgName 3) (wgCons (wgName 4) wgNil)))))) (wSeq (wFor (wiRng1 (wCons (wCallN 2 S__law_draw (wCons (wVar 0) (wCons (wC (.int 3)) wNil))) wNil)) (wgName 5) (wSeq (wSet 6 (wBin opSub (wCallN 2 S__law_draw (wCons (wVar 0) (wCons (wC (.int 5)) wNil))) (wC (.int 2)))) (wAsg (wIf (wTst (wBin opEq (wCallN 2 S__law_draw (wCons (wVar 0) (wCons (wC (.int 2)) wNil))) (wC (.int 0)))) (wTup (wCons (wBin opAdd (wVar 1) (wBin opMul (wVar 6) (wVar 3))) (wCons (wBin opAdd (wVar 2) (wBin opMul (wVar 6) (wVar 4))) (wCons (wVar 3) (wCons (wVar 4) wNil))))) (wTup (wCons (wVar 1) (wCons (wVar 2) (wCons (wBin opAdd (wVar 3) (wBin opMul (wVar 6) (wVar 1))) (wCons (wBin opAdd (wVar 4) (wBin opMul (wVar 6) (wVar 2))) wNil)))))) (wgTup 4 (wgCons (wgName 1) (wgCons (wgName 2) (wgCons (wgName 3) (wgCons (wgName 4) wgNil)))))))) (wRet (wTup (wCons (wVar 1) (wCons (wVar 2) (wCons (wVar 3) (wCons (wVar 4) wNil))))))))
theorem t4_mk {a b c d : Int} : PV.tup [.int a, .int b, .int c, .int d] = t4 (a, b, c, d) := rfl
theorem table_aux {S D : SpV} (hS : ∀ (xs : List PV) (N : Sl → Prop), 0 < xs.length → xs.length < 1000000 → (∀ x ∈ xs, N (.val x)) → S [.hnd, .lst xs] N)
    (hD : ∀ (m : Int) (N : Sl → Prop), 0 < m → m < 1073741824 → (∀ r : Int, 0 ≤ r → r < m → N (.val (.int r))) → D [.hnd, .int m] N) {Q : Sl → Prop} (q : ∀ t : T4, smT 9 t → (det t = 1 ∨ det t = -1) → Q (.val (t4 t))) :
    w__law_table S D { nx := fun _ => Q (.val .non), rt := Q } [.val .hnd, .no, .no, .no, .no, .no, .no] := by
  unfold w__law_table
  walk_at "vx"
  walk_at "vc"
  refine hS _ _ (Nat.le_of_ble_eq_true rfl) (Nat.le_of_ble_eq_true rfl) fun x hx => ?_
  have hx2 : ∃ t : T4, x = t4 t ∧ smT 1 t ∧ (det t = 1 ∨ det t = -1) := by
    revert x
    exact allc ⟨(1, 0, 0, 1), rfl, by unfold smT; decide, by decide⟩ (allc ⟨(1, 0, 0, 1), rfl, by unfold smT; decide, by decide⟩ (allc ⟨(0, -1, 1, 0), rfl, by unfold smT; decide, by decide⟩ (allc ⟨(1, 0, 0, -1), rfl, by unfold smT; decide, by decide⟩ (allc ⟨(-1, 0, 0, -1), rfl, by unfold smT; decide, by decide⟩ alln))))
  obtain ⟨t, rfl, hs, hd⟩ := hx2
  clear hx
  simp only [t4]
  walk_at "vx"
  refine hD _ _ (by omega) (by omega) fun r r0 r1 => ?_
  walk_at "vx"
  refine ⟨by omega, by omega, ?_⟩
  rw [rangeP_I]
  refine forL_typed PV.int (fun done ρ => ∃ (u : T4) (a b : Sl), ρ = [.val .hnd, .val (.int u.1), .val (.int u.2.1), .val (.int u.2.2.1), .val (.int u.2.2.2), a, b] ∧ smT (3 ^ done.length) u ∧ (det u = 1 ∨ det u = -1)) ⟨t, _, _, rfl, by simpa using hs, hd⟩ ?_ ?_
  · rintro done y ⟨_, hl⟩ ρ ⟨u, a, b, rfl, ⟨⟨h1, h2⟩, ⟨h3, h4⟩, ⟨h5, h6⟩, h7, h8⟩, he⟩ N hN
    rw [rangeI_len] at hl
    have hlt : done.length = 0 ∨ done.length = 1 := by omega
    walk_at "vx"
    refine hD _ _ (by omega) (by omega) fun z z0 z1 => ?_
    walk_at "vx"
    refine hD _ _ (by omega) (by omega) fun w w0 w1 => ?_
    walk_at "vx"
    generalize hm : (3 : Int) ^ done.length = m at *
    have hm3 : (3 : Int) ^ (done ++ [y]).length = 3 * m := by rw [List.length_append, List.length_singleton, Int.pow_succ, hm]; omega
    have m1 : 1 ≤ m ∧ m ≤ 3 := by
      rcases hlt with e | e
      · rw [e] at hm; rw [← hm]; decide
      · rw [e] at hm; rw [← hm]; decide
    have by2 : z - 2 = -2 ∨ z - 2 = -1 ∨ z - 2 = 0 ∨ z - 2 = 1 ∨ z - 2 = 2 := by omega
    generalize z - 2 = k at *
    by_cases h : w = 0
    · rw [if_pos h]
      refine ⟨cmul_l (by omega) (by omega), cmul_l (by omega) (by omega), szb rfl, ?_⟩
      refine hN _ ⟨(u.1 + k * u.2.2.1, u.2.1 + k * u.2.2.2, u.2.2.1, u.2.2.2), .val (.int y), .val (.int k), rfl, ?_, ?_⟩
      · rw [hm3]
        unfold smT
        dsimp only
        rcases by2 with rfl | rfl | rfl | rfl | rfl <;> omega
      · unfold det at *
        dsimp only
        grind
    · rw [if_neg h]
      refine ⟨cmul_l (by omega) (by omega), cmul_l (by omega) (by omega), szb rfl, ?_⟩
      refine hN _ ⟨(u.1, u.2.1, u.2.2.1 + k * u.1, u.2.2.2 + k * u.2.1), .val (.int y), .val (.int k), rfl, ?_, ?_⟩
      · rw [hm3]
        unfold smT
        dsimp only
        rcases by2 with rfl | rfl | rfl | rfl | rfl <;> omega
      · unfold det at *
        dsimp only
        grind
  · rintro ρ ⟨u, a, b, rfl, hu, he⟩
    walk_at "vx"
    refine ⟨szb rfl, q u ?_ he⟩
    rw [rangeI_len] at hu
    have m9 : (3 : Int) ^ r.toNat ≤ 9 := by
      rcases (show r.toNat = 0 ∨ r.toNat = 1 ∨ r.toNat = 2 by omega) with e | e | e <;> rw [e] <;> decide
    obtain ⟨⟨h1, h2⟩, ⟨h3, h4⟩, ⟨h5, h6⟩, h7, h8⟩ := hu
    exact ⟨by omega, by omega, by omega, by omega⟩
theorem v__law_table : SV (w__law_table S__law_any S__law_draw) 7 S__law_table 1 := by
  rintro ps Q - ⟨rfl, q⟩
  exact table_aux (fun xs N h1 h2 h3 => ⟨xs, .inl rfl, h1, h2, h3⟩) (fun m N h1 h2 h3 => ⟨m, rfl, h1, h2, h3⟩) q
def S__law_corner : SpV := fun ps Q => ∃ m : Int, ps = [.hnd, .int m] ∧ 1 ≤ m ∧ m ≤ 10000 ∧ ∀ p o : Pt, okRay p = true → okRay o = true → (-m ≤ p.1 ∧ p.1 ≤ m ∧ -m ≤ p.2 ∧ p.2 ≤ m) → (-m ≤ o.1 ∧ o.1 ≤ m ∧ -m ≤ o.2 ∧ o.2 ≤ m) → 0 < turn p o → Q (.val (.tup [pt p, pt o]))
def w__law_corner (S__law_ray : SpV) (S__law_turn : SpV) : WS := (wSeq (wPar 2 3 (wCons (wCallN 2 S__law_ray (wCons (wVar 0) (wCons (wVar 1) wNil))) (wCons (wCallN 2 S__law_ray (wCons (wVar 0) (wCons (wVar 1) wNil))) wNil))) (wSeq (wSet 4 (wCallN 2 S__law_turn (wCons (wVar 2) (wCons (wVar 3) wNil)))) (wSeq (wIfS (wTst (wBin opEq (wVar 4) (wC (.int 0)))) (wRet (wTup (wCons (wVar 2) (wCons (wTup (wCons (wBin opSub (wC (.int 0)) (wBin opIx (wVar 2) (wC (.int 1)))) (wCons (wBin opIx (wVar 2) (wC (.int 0))) wNil))) wNil)))) wNext) (wRet (wIf (wTst (wBin opGt (wVar 4) (wC (.int 0)))) (wTup (wCons (wVar 2) (wCons (wVar 3) wNil))) (wTup (wCons (wVar 3) (wCons (wVar 2) wNil))))))))
theorem okRay_mk {p : Pt} {m : Int} (hg : Int.gcd p.1 p.2 = 1) (h : -m ≤ p.1 ∧ p.1 ≤ m ∧ -m ≤ p.2 ∧ p.2 ≤ m) (hm : m ≤ 10000) : okRay p = true := okRay_iff.mpr ⟨⟨by omega, by omega, by omega, by omega⟩, hg⟩
theorem v__law_corner : SV (w__law_corner S__law_ray S__law_turn) 5 S__law_corner 2 := by
  rintro ps Q - ⟨m, rfl, m1, m2, q⟩
  unfold w__law_corner
  walk_at "vx"
  refine ⟨m, rfl, m1, by omega, fun p gp a1 a2 a3 a4 => ?_⟩
  walk_at "vx"
  refine ⟨m, rfl, m1, by omega, fun o go b1 b2 b3 b4 => ?_⟩
  walk_at "vx"
  have hp := okRay_mk gp ⟨a1, a2, a3, a4⟩ m2
  have ho := okRay_mk go ⟨b1, b2, b3, b4⟩ m2
  refine ⟨p, o, rfl, .inl (okRay_lg hp), ?_⟩
  walk_at "vx"
  by_cases h : turn p o = 0
  · rw [if_pos h]
    refine ⟨szb rfl, szb rfl, ?_⟩
    have e : (0 - p.2, p.1) = ((-p.2, p.1) : Pt) := Prod.ext (by show 0 - p.2 = -p.2; omega) rfl
    rw [pt_mk, e]
    have g2 : Int.gcd (-p.2) p.1 = 1 := by rw [Int.gcd_comm, Int.gcd_neg]; exact gp
    have bd : -m ≤ -p.2 ∧ -p.2 ≤ m ∧ -m ≤ p.1 ∧ p.1 ≤ m := by omega
    refine q p (-p.2, p.1) hp (okRay_mk g2 bd m2) ⟨a1, a2, a3, a4⟩ bd ?_
    have s1 := sq_ge p.1
    have s2 := sq_ge p.2
    by_cases z : p.1 = 0
    · by_cases z2 : p.2 = 0
      · rw [z, z2] at gp; cases gp
      · have := pos_sq z2; unfold turn; dsimp only; grind
    · have := pos_sq z; unfold turn; dsimp only; grind
  · rw [if_neg h]
    by_cases h2 : 0 < turn p o
    · rw [if_pos h2]
      exact ⟨szb rfl, q p o hp ho ⟨a1, a2, a3, a4⟩ ⟨b1, b2, b3, b4⟩ h2⟩
    · rw [if_neg h2]
      refine ⟨szb rfl, q o p ho hp ⟨b1, b2, b3, b4⟩ ⟨a1, a2, a3, a4⟩ ?_⟩
      have : turn o p = -turn p o := by unfold turn; grind
      omega
end VM
end
section
set_option Elab.async false
set_option linter.all false
set_option maxRecDepth 100000
set_option maxHeartbeats 4000000
open PySem PySem.Spec PyProof.Rows L2 VE
local macro_rules | `(tactic| walk_at "vx") => `(tactic| simp (config := {decide := false}) only [wVar, wC, wBin, wUn, wTst, wAndT, wOrT, wNotT, wAndV, wOrV, wNotV, wIf, wNil, wCons, wTup, wLst, wSl, wNoPart, wPart, wCall, wCallN, wNext, wSeq, wBreak, wCont, wNever, wRet, wRetN, wRet0, wIfS, wDrop, wSet, wPar, wPar3, wgName, wgNil, wgCons, wgTup, wgIx, wAsg, wAug, wAppend, wInsert, bNil, bCons, wParB, wParB3, wAsgB, sets, VM.exB2, VM.exB3, VM.zipP_cons, VM.zipP_nil, VM.compL_cons, VM.compL_nil, wiSeq, wiRng1, wiRng2, wiZip, wiEnum, wFor, wYes, wComp, wChain, wipeR, backR, look, VM.ex2, VM.ex3, VM.eq_int, VM.ne_int, VM.ix_t0, VM.ix_t1, VM.ix_t2, VM.ix_l0, VM.ix_l1, VM.ix_l2, VM.ix_pt0, VM.ix_pt1, VM.eq_bl, VM.ne_bl, VM.eq_str, VM.ne_str, VM.is_non, VM.isnot_non, decide_true, decide_false, decide_eq_true_eq, eq_self, VM.pv_val, VM.pv_own, VM.noOwn_eq, VM.noOwnB, List.all_cons, List.all_nil, Bool.and_self, opInt, opSub, opMod, opFdiv, opPow, opCmpI, opLt, opLe, opGt, opGe, opAdd, opMul, opNeg, opLen, opAbs, opIntC, opMax2, opMin2, opList, opTuple, opSl, opBack, wIxN, wLenN, startR,
  List.set_cons_zero, List.set_cons_succ, List.length_cons, List.length_nil, List.map_cons, List.map_nil, List.replicate_succ, List.replicate_zero, List.nil_append, List.cons_append, Nat.zero_add, Nat.reduceAdd, Nat.reduceSub, if_true, if_false, true_and, and_true, Bool.false_eq_true, ite_true, ite_false, List.cons.injEq, PV.int.injEq, PV.bl.injEq, exists_eq_left, exists_eq_left', exists_and_left, and_self, reduceCtorEq, Bool.not_true, Bool.not_false, ite_self])
local macro_rules | `(tactic| walk_at "vc") => `(tactic| repeat (with_reducible refine And.intro ?_ ?_; focus first | omega | with_reducible rfl | exact VM.szb rfl | exact VM.szlb rfl | exact VM.cmul_l (by omega) (by omega) | exact VM.cmul_r (by omega) (by omega) | exact VM.divok (by omega) (by omega) (by omega) | omega))

namespace VM
open Tn Ch
theorem isT_one {p o : Pt} {q r : Int} (hg : Int.gcd p.1 p.2 = 1) (h : IsT p o q) (r0 : 0 ≤ r) (r1 : r < turn p o) (h1 : (o.1 - r * p.1).fmod (turn p o) = 0) (h2 : (o.2 - r * p.2).fmod (turn p o) = 0) : r = q := by
  obtain ⟨q0, q1, x, y, e1, e2⟩ := h
  generalize turn p o = n at *
  rw [Int.fmod_def] at h1 h2
  have d1 : n ∣ (q - r) * p.1 := ⟨(o.1 - r * p.1).fdiv n - x, by grind⟩
  have d2 : n ∣ (q - r) * p.2 := ⟨(o.2 - r * p.2).fdiv n - y, by grind⟩
  have d : n ∣ (Int.gcd ((q - r) * p.1) ((q - r) * p.2) : Int) := Int.dvd_coe_gcd d1 d2
  rw [Int.gcd_mul_left, hg, Nat.mul_one] at d
  obtain ⟨z, hz⟩ := d
  have : z = 0 := by
    rcases Int.lt_trichotomy z 0 with g | g | g
    · have := Int.mul_nonneg (show 0 ≤ n by omega) (show 0 ≤ -z - 1 by omega)
      have : n * (-z - 1) = -(n * z) - n := by grind
      omega
    · exact g
    · have := Int.mul_nonneg (show 0 ≤ n by omega) (show 0 ≤ z - 1 by omega)
      have : n * (z - 1) = n * z - n := by grind
      omega
  rw [this, Int.mul_zero] at hz
  omega
theorem isT_mod {p o : Pt} {q : Int} (h : IsT p o q) : (o.1 - q * p.1).fmod (turn p o) = 0 ∧ (o.2 - q * p.2).fmod (turn p o) = 0 := by
  obtain ⟨q0, q1, x, y, e1, e2⟩ := h
  rw [e1, e2]
  exact ⟨Int.mul_fmod_right _ _, Int.mul_fmod_right _ _⟩
def S__law_type : SpV := fun ps Q => ∃ p o, ps = [pt p, pt o] ∧ okRay p = true ∧ okRay o = true ∧ 0 < turn p o ∧ turn p o ≤ 2000 ∧ ∀ q, IsT p o q → Q (.val (pt (turn p o, q)))
def w__law_type (S__law_turn : SpV) : WS := (wSeq (wSet 2 (wCallN 2 S__law_turn (wCons (wVar 0) (wCons (wVar 1) wNil)))) (wSeq (wSet 3 (wComp (wiRng1 (wCons (wVar 2) wNil)) (wgName 4) (wAndT (wTst (wBin opEq (wBin opMod (wCall opIntC (wCons (wBin opSub (wBin opIx (wVar 1) (wC (.int 0))) (wBin opMul (wVar 4) (wBin opIx (wVar 0) (wC (.int 0))))) wNil)) (wVar 2)) (wC (.int 0)))) (wTst (wBin opEq (wBin opMod (wCall opIntC (wCons (wBin opSub (wBin opIx (wVar 1) (wC (.int 1))) (wBin opMul (wVar 4) (wBin opIx (wVar 0) (wC (.int 1))))) wNil)) (wVar 2)) (wC (.int 0))))) (wVar 4) [4])) (wRet (wIf (wTst (wBin opEq (wCall opLen (wCons (wVar 3) wNil)) (wC (.int 1)))) (wTup (wCons (wVar 2) (wCons (wBin opIx (wVar 3) (wC (.int 0))) wNil))) (wC .non)))))
theorem isT_ex {p o : Pt} (hp : okRay p = true) (ht : 0 < turn p o) : ∃ q, IsT p o q := by
  have hg := (okRay_iff.mp hp).2
  have hb := (okRay_iff.mp hp).1
  -- by Euclid's own numbers
  suffices ∃ b, turn p b = 1 by
    obtain ⟨b, hb⟩ := this
    exact ⟨_, isT_of hb ht⟩
  have F : ∀ (k : Nat) (s t u v a b : Int), b.natAbs ≤ k → FI p.1 p.2 s t u v a b → ∃ b : Pt, turn p b = 1 := by
    intro k
    induction k with
    | zero =>
      intro s t u v a b hk F
      have : b = 0 := by omega
      subst this
      obtain ⟨f1, f2⟩ := F.fin
      by_cases h : 0 < a
      · refine ⟨(-t, s), ?_⟩
        have := f1 h
        rw [hg] at this
        unfold turn; dsimp only; grind
      · refine ⟨(t, -s), ?_⟩
        have := f2 h
        rw [hg] at this
        unfold turn; dsimp only; grind
    | succ k ih =>
      intro s t u v a b hk F
      by_cases h : b = 0
      · exact ih s t u v a b (by omega) F
      · obtain ⟨F', l, _⟩ := F.step h
        exact ih _ _ _ _ _ _ (by omega) F'
  exact F _ _ _ _ _ _ _ (Nat.le_refl _) (FI.start (by omega) (by omega))
theorem v__law_type : SV (w__law_type S__law_turn) 5 S__law_type 2 := by
  rintro ps Q - ⟨p, o, rfl, hp, ho, ht, ht2, k⟩
  obtain ⟨q, hq⟩ := isT_ex hp ht
  have hg := (okRay_iff.mp hp).2
  have hb := (okRay_iff.mp hp).1
  have hk := k q hq
  unfold w__law_type
  walk_at "vx"
  refine ⟨p, o, rfl, .inl (okRay_lg hp), ?_⟩
  walk_at "vx"
  refine ⟨by omega, by omega, ?_⟩
  rw [rangeP_I]
  obtain ⟨q0, q1, _⟩ := id hq
  have iq := isT_mod hq
  have one := fun r r0 r1 h1 h2 => isT_one (r := r) hg hq r0 r1 h1 h2
  generalize turn p o = n at *
  refine compL_ind (J := fun rest acc ρ => ∃ m : Int, 0 ≤ m ∧ m ≤ n ∧ rest = (rangeI m (n - m).toNat).map PV.int ∧ acc = (if q < m then [PV.int q] else []) ∧ ρ = [.val (pt p), .val (pt o), .val (.int n), .no, .no]) ?_ ?_ _ _ _ ⟨0, by omega, by omega, by simp, by rw [if_neg (by omega)], rfl⟩
  · rintro x xs acc ρ ⟨m, m0, m1, e, rfl, rfl⟩ N hN
    have hm : m < n := by
      apply Int.not_le.mp; intro hge
      rw [show (n - m).toNat = 0 by omega] at e
      cases e
    have er : rangeI m (n - m).toNat = m :: rangeI (m + 1) (n - (m + 1)).toNat := by
      rw [show (n - m).toNat = (n - (m + 1)).toNat + 1 by omega]
      unfold rangeI
      rw [List.range_succ_eq_map, List.map_cons, List.map_map]
      congr 1
      · omega
      · exact List.map_congr_left fun i _ => by show m + ((i + 1 : Nat) : Int) = m + 1 + (i : Int); omega
    rw [er, List.map_cons] at e
    cases e
    walk_at "vx"
    refine ⟨cmul_l (by omega) (by omega), by omega, ?_⟩
    by_cases h1 : (o.1 - m * p.1).fmod n = 0
    · rw [if_pos h1]
      refine ⟨cmul_l (by omega) (by omega), by omega, ?_⟩
      by_cases h2 : (o.2 - m * p.2).fmod n = 0
      · have : m = q := one m m0 hm h1 h2
        subst this
        rw [if_pos h2]
        refine ⟨szl (by rw [if_neg (by omega)]; simp), hN _ _ ⟨m + 1, by omega, by omega, rfl, ?_, rfl⟩⟩
        rw [if_neg (by omega), if_pos (by omega)]; rfl
      · rw [if_neg h2]
        refine hN _ _ ⟨m + 1, by omega, by omega, rfl, ?_, rfl⟩
        have : q ≠ m := fun e => by subst e; exact h2 iq.2
        by_cases hqm : q < m
        · rw [if_pos hqm, if_pos (by omega)]
        · rw [if_neg hqm, if_neg (by omega)]
    · rw [if_neg h1]
      refine hN _ _ ⟨m + 1, by omega, by omega, rfl, ?_, rfl⟩
      have : q ≠ m := fun e => by subst e; exact h1 iq.1
      by_cases hqm : q < m
      · rw [if_pos hqm, if_pos (by omega)]
      · rw [if_neg hqm, if_neg (by omega)]
  · rintro acc ρ ⟨m, m0, m1, e, rfl, rfl⟩
    have hm : m = n := by
      apply Int.le_antisymm m1
      apply Int.not_lt.mp; intro hlt
      have := congrArg List.length e
      rw [List.length_map, rangeI_len] at this
      simp at this; omega
    subst hm
    rw [if_pos q1]
    walk_at "vx"
    exact ⟨szb rfl, hk⟩
end VM
end
section
set_option Elab.async false
set_option linter.all false
set_option maxRecDepth 100000
set_option maxHeartbeats 4000000
open PySem PySem.Spec PyProof.Rows L2 VE
local macro_rules | `(tactic| walk_at "vx") => `(tactic| simp (config := {decide := false}) only [wVar, wC, wBin, wUn, wTst, wAndT, wOrT, wNotT, wAndV, wOrV, wNotV, wIf, wNil, wCons, wTup, wLst, wSl, wNoPart, wPart, wCall, wCallN, wNext, wSeq, wBreak, wCont, wNever, wRet, wRetN, wRet0, wIfS, wDrop, wSet, wPar, wPar3, wgName, wgNil, wgCons, wgTup, wgIx, wAsg, wAug, wAppend, wInsert, bNil, bCons, wParB, wParB3, wAsgB, sets, VM.exB2, VM.exB3, VM.zipP_cons, VM.zipP_nil, VM.compL_cons, VM.compL_nil, wiSeq, wiRng1, wiRng2, wiZip, wiEnum, wFor, wYes, wComp, wChain, wipeR, backR, look, VM.ex2, VM.ex3, VM.eq_int, VM.ne_int, VM.ix_t0, VM.ix_t1, VM.ix_t2, VM.ix_l0, VM.ix_l1, VM.ix_l2, VM.ix_pt0, VM.ix_pt1, VM.eq_bl, VM.ne_bl, VM.eq_str, VM.ne_str, VM.is_non, VM.isnot_non, decide_true, decide_false, decide_eq_true_eq, eq_self, VM.pv_val, VM.pv_own, VM.noOwn_eq, VM.noOwnB, List.all_cons, List.all_nil, Bool.and_self, opInt, opSub, opMod, opFdiv, opPow, opCmpI, opLt, opLe, opGt, opGe, opAdd, opMul, opNeg, opLen, opAbs, opIntC, opMax2, opMin2, opList, opTuple, opSl, opBack, wIxN, wLenN, startR,
  List.set_cons_zero, List.set_cons_succ, List.length_cons, List.length_nil, List.map_cons, List.map_nil, List.replicate_succ, List.replicate_zero, List.nil_append, List.cons_append, Nat.zero_add, Nat.reduceAdd, Nat.reduceSub, if_true, if_false, true_and, and_true, Bool.false_eq_true, ite_true, ite_false, List.cons.injEq, PV.int.injEq, PV.bl.injEq, exists_eq_left, exists_eq_left', exists_and_left, and_self, reduceCtorEq, Bool.not_true, Bool.not_false, ite_self])
local macro_rules | `(tactic| walk_at "vc") => `(tactic| repeat (with_reducible refine And.intro ?_ ?_; focus first | omega | with_reducible rfl | exact VM.szb rfl | exact VM.szlb rfl | exact VM.cmul_l (by omega) (by omega) | exact VM.cmul_r (by omega) (by omega) | exact VM.divok (by omega) (by omega) (by omega) | omega))

namespace VM
open Tn Ch
def S__law_is_row_right : SpV := fun ps Q => ps = [.hnd] ∧ Q (.val (.bl true))
def w_lirr_2 (S__law_by_chain : SpV) (S__law_common : SpV) (S__law_same : SpV) (S_by_chain : SpV) (S_chain : SpV) : WS := (wSeq (wSet 3 (wCallN 1 S_by_chain (wCons (wVar 1) wNil))) (wSeq (wIfS (wOrT (wNotT (wTst (wCallN 2 S__law_same (wCons (wVar 3) (wCons (wCallN 1 S__law_by_chain (wCons (wVar 1) wNil)) wNil))))) (wOrT (wNotT (wTst (wChain opLt opLt (wC (.int 0)) (wBin opIx (wVar 3) (wC (.int 1))) (wBin opIx (wVar 3) (wC (.int 0)))))) (wTst (wBin opNe (wCallN 2 S__law_common (wCons (wBin opIx (wVar 3) (wC (.int 0))) (wCons (wBin opIx (wVar 3) (wC (.int 1))) wNil))) (wC (.int 1)))))) (wRet (wC (.bl false))) wNext) (wRet (wOrV (wBin opGt (wBin opIx (wVar 3) (wC (.int 0))) (wC (.int 10000))) (wBin opEq (wCallN 2 S_chain (wCons (wBin opIx (wVar 3) (wC (.int 0))) (wCons (wBin opIx (wVar 3) (wC (.int 1))) wNil))) (wVar 1))))))
def w__law_is_row_right (S__law_any : SpV) (S__law_by_chain : SpV) (S__law_common : SpV) (S__law_draw : SpV) (S__law_same : SpV) (S_by_chain : SpV) (S_chain : SpV) : WS := (wSeq (wSet 1 (wCall opTuple (wCons (wComp (wiRng1 (wCons (wBin opAdd (wC (.int 1)) (wCallN 2 S__law_draw (wCons (wVar 0) (wCons (wC (.int 20)) wNil)))) wNil)) (wgName 2) wYes (wBin opAdd (wC (.int 2)) (wCallN 2 S__law_draw (wCons (wVar 0) (wCons (wCallN 2 S__law_any (wCons (wVar 0) (wCons (wLst (wCons (wC (.int 1)) (wCons (wC (.int 2)) (wCons (wC (.int 5)) (wCons (wC (.int 999)) wNil))))) wNil))) wNil)))) [2]) wNil))) (w_lirr_2 S__law_by_chain S__law_common S__law_same S_by_chain S_chain))
theorem eq_ti {a b : List Int} {Q : Sl → Prop} : opEq (.tup (a.map PV.int)) (.tup (b.map PV.int)) Q = Q (.val (.bl (decide (a = b)))) := by
  have h := eq_dm (α := Tp Int) (a := ⟨a⟩) (b := ⟨b⟩) (Q := Q) (by decide)
  simp only [Tp.mk.injEq] at h; exact h
theorem ints_of {ys : List PV} {P : Int → Prop} (h : ∀ y ∈ ys, ∃ c : Int, y = .int c ∧ P c) : ∃ r : List Int, ys = r.map PV.int ∧ ∀ c ∈ r, P c := by
  induction ys with
  | nil => exact ⟨[], rfl, fun _ h => nomatch h⟩
  | cons y ys ih =>
    obtain ⟨c, rfl, hc⟩ := h y List.mem_cons_self
    obtain ⟨r, rfl, hr⟩ := ih fun z hz => h z (List.mem_cons_of_mem _ hz)
    exact ⟨c :: r, rfl, fun d hd => by
      rcases List.mem_cons.mp hd with rfl | hd
      · exact hc
      · exact hr d hd⟩
theorem row_aux {A D LB LC SM BC CH : SpV} (hS : ∀ (xs : List PV) (N : Sl → Prop), 0 < xs.length → xs.length < 1000000 → (∀ x ∈ xs, N (.val x)) → A [.hnd, .lst xs] N)
    (hD : ∀ (m : Int) (N : Sl → Prop), 0 < m → m < 1073741824 → (∀ r : Int, 0 ≤ r → r < m → N (.val (.int r))) → D [.hnd, .int m] N)
    (hLB : ∀ (r : List Int) (N : Sl → Prop), r ≠ [] → r.length ≤ 20 → (∀ c ∈ r, 2 ≤ c ∧ c ≤ 1000) → N (.val (pt (bc r))) → LB [.tup (r.map PV.int)] N)
    (hBC : ∀ (r : List Int) (N : Sl → Prop), r ≠ [] → r.length ≤ 20 → (∀ c ∈ r, 2 ≤ c ∧ c ≤ 1000) → N (.val (pt (bc r))) → BC [.tup (r.map PV.int)] N)
    (hSM : ∀ (p : Pt) (N : Sl → Prop), N (.val (.bl true)) → SM [pt p, pt p] N)
    (hLC : ∀ (a b : Int) (N : Sl → Prop), N (.val (.int (Int.gcd a b))) → LC [.int a, .int b] N)
    (hCH : ∀ (n q : Int) (N : Sl → Prop), 2 ≤ n → n ≤ 10000 → 1 ≤ q → q < n → Int.gcd n q = 1 → N (.val (.tup ((hj n q).map PV.int))) → CH [.int n, .int q] N)
    {Q : Sl → Prop} (k : Q (.val (.bl true))) : w__law_is_row_right A LB LC D SM BC CH { nx := fun _ => Q (.val .non), rt := Q } [.val .hnd, .no, .no, .no] := by
  unfold w__law_is_row_right
  walk_at "vx"
  refine hD _ _ (by omega) (by omega) fun r r0 r1 => ?_
  walk_at "vx"
  refine ⟨by omega, by omega, ?_⟩
  refine compL_any (fun y => ∃ c : Int, y = .int c ∧ (2 ≤ c ∧ c ≤ 1000)) _ (by rw [rangeP_len]; omega) (fun x hx kk N hk hN => ?_) fun ys hl hy => ?_
  · walk_at "vx"
    walk_at "vc"
    refine hS _ _ (Nat.le_of_ble_eq_true rfl) (Nat.le_of_ble_eq_true rfl) fun x hx => ?_
    have hx2 : ∃ m : Int, x = .int m ∧ 1 ≤ m ∧ m ≤ 999 := by
      revert x
      exact allc ⟨1, rfl, by decide, by decide⟩ (allc ⟨2, rfl, by decide, by decide⟩ (allc ⟨5, rfl, by decide, by decide⟩ (allc ⟨999, rfl, by decide, by decide⟩ alln)))
    obtain ⟨m, rfl, m1, m2⟩ := hx2
    walk_at "vx"
    refine hD _ _ (by omega) (by omega) fun z z0 z1 => ?_
    exact ⟨hk, hN _ ⟨_, rfl, by omega, by omega⟩⟩
  · obtain ⟨row, rfl, hr⟩ := ints_of hy
    rw [rangeP_len, List.length_map] at hl
    have r0' : row ≠ [] := by intro e; rw [e] at hl; simp at hl; omega
    have l20 : row.length ≤ 20 := by omega
    obtain ⟨a1, a2, a3, a4, a5⟩ := bc_row row fun c hc => (hr c hc).1
    have a6 := a5 r0'
    walk_at "vx"
    unfold w_lirr_2
    walk_at "vx"
    refine hBC row _ r0' l20 hr ?_
    walk_at "vx"
    refine hLB row _ r0' l20 hr (hSM _ _ ?_)
    walk_at "vx"
    generalize bc row = z at *
    simp only [a6, a2, if_true]
    walk_at "vx"
    refine hLC _ _ _ ?_
    rw [a3]
    walk_at "vx"
    rw [if_neg (by decide)]
    by_cases h : 10000 < z.1
    · rw [if_pos h]; exact k
    · rw [if_neg h]
      refine hCH _ _ _ (by omega) (by omega) (by omega) a2 a3 ?_
      rw [a4]
      show opEq (.tup (row.map PV.int)) (.tup (row.map PV.int)) _
      rw [eq_ti, decide_eq_true rfl]; exact k
theorem v__law_is_row_right : SV (w__law_is_row_right S__law_any S__law_by_chain S__law_common S__law_draw (S__law_same 9) S_by_chain S_chain) 4 S__law_is_row_right 1 := by
  rintro ps Q - ⟨rfl, q⟩
  exact row_aux (fun xs N h1 h2 h3 => ⟨xs, .inl rfl, h1, h2, h3⟩) (fun m N h1 h2 h3 => ⟨m, rfl, h1, h2, h3⟩) (fun r N h1 h2 h3 h4 => ⟨r, rfl, h1, by omega, fun c hc => by have := h3 c hc; omega, h4⟩) (fun r N h1 h2 h3 h4 => ⟨r, rfl, h1, h2, h3, h4⟩)
    (fun p N h => same_true sameOk_pt h) (fun a b N h => ⟨a, b, rfl, h⟩) (fun n q N h1 h2 h3 h4 h5 h6 => ⟨n, q, rfl, h1, h2, h3, h4, h5, h6⟩) q
/-! ### one round -/
theorem turn_led {t : T4} {p o : Pt} : turn (led t p) (led t o) = det t * turn p o := by unfold turn led det; grind
theorem isT_led {t : T4} {p o : Pt} {q : Int} (hd : det t = 1) (h : IsT p o q) : IsT (led t p) (led t o) q := by
  obtain ⟨q0, q1, x, y, e1, e2⟩ := h
  have e : turn (led t p) (led t o) = turn p o := by rw [turn_led, hd]; omega
  unfold IsT
  rw [e]
  refine ⟨q0, q1, t.1 * x + t.2.1 * y, t.2.2.1 * x + t.2.2.2 * y, ?_, ?_⟩
  · unfold led; dsimp only; grind
  · unfold led; dsimp only; grind
theorem isT_uniq {p o : Pt} {q r : Int} (hg : Int.gcd p.1 p.2 = 1) (h : IsT p o q) (h' : IsT p o r) : r = q := by
  have := isT_mod h'
  exact isT_one hg h h'.1 h'.2.1 this.1 this.2
theorem gcd_led {t : T4} {p : Pt} (hd : det t = 1) (hg : Int.gcd p.1 p.2 = 1) : Int.gcd (led t p).1 (led t p).2 = 1 := by
  have d1 : (Int.gcd (led t p).1 (led t p).2 : Int) ∣ p.1 := by
    obtain ⟨x, hx⟩ := Int.gcd_dvd_left (a := (led t p).1) (b := (led t p).2)
    obtain ⟨y, hy⟩ := Int.gcd_dvd_right (a := (led t p).1) (b := (led t p).2)
    refine ⟨t.2.2.2 * x - t.2.1 * y, ?_⟩
    generalize (Int.gcd (led t p).1 (led t p).2 : Int) = g at *
    unfold led det at *; dsimp only at *; grind
  have d2 : (Int.gcd (led t p).1 (led t p).2 : Int) ∣ p.2 := by
    obtain ⟨x, hx⟩ := Int.gcd_dvd_left (a := (led t p).1) (b := (led t p).2)
    obtain ⟨y, hy⟩ := Int.gcd_dvd_right (a := (led t p).1) (b := (led t p).2)
    refine ⟨t.1 * y - t.2.2.1 * x, ?_⟩
    generalize (Int.gcd (led t p).1 (led t p).2 : Int) = g at *
    unfold led det at *; dsimp only at *; grind
  have d := Int.dvd_coe_gcd d1 d2
  rw [hg] at d
  have := Int.eq_one_of_dvd_one (by omega) d
  omega
/-- the other way about -/
theorem isT_back {p o : Pt} {q r : Int} (hg : Int.gcd p.1 p.2 = 1) (h : IsT p o q) (h' : IsT (-o.1, o.2) (-p.1, p.2) r) : ∃ u, q * r = 1 + turn p o * u := by
  obtain ⟨q0, q1, x, y, e1, e2⟩ := h
  obtain ⟨r0, r1, x', y', f1, f2⟩ := h'
  have e : turn (-o.1, o.2) (-p.1, p.2) = turn p o := by unfold turn; dsimp only; grind
  rw [e] at r1 f1 f2
  generalize turn p o = n at *
  have d1 : n ∣ (1 - q * r) * p.1 := ⟨r * x - x', by dsimp only at f1; grind⟩
  have d2 : n ∣ (1 - q * r) * p.2 := ⟨r * y + y', by dsimp only at f2; grind⟩
  have d : n ∣ (Int.gcd ((1 - q * r) * p.1) ((1 - q * r) * p.2) : Int) := Int.dvd_coe_gcd d1 d2
  rw [Int.gcd_mul_left, hg, Nat.mul_one] at d
  have d3 : n ∣ (1 - q * r) := Int.dvd_natAbs.mp d
  obtain ⟨u, hu⟩ := d3
  exact ⟨-u, by grind⟩
end VM
end
section
set_option Elab.async false
set_option linter.all false
set_option maxRecDepth 100000
set_option maxHeartbeats 4000000
open PySem PySem.Spec PyProof.Rows L2 VE
local macro_rules | `(tactic| walk_at "vx") => `(tactic| simp (config := {decide := false}) only [wVar, wC, wBin, wUn, wTst, wAndT, wOrT, wNotT, wAndV, wOrV, wNotV, wIf, wNil, wCons, wTup, wLst, wSl, wNoPart, wPart, wCall, wCallN, wNext, wSeq, wBreak, wCont, wNever, wRet, wRetN, wRet0, wIfS, wDrop, wSet, wPar, wPar3, wgName, wgNil, wgCons, wgTup, wgIx, wAsg, wAug, wAppend, wInsert, bNil, bCons, wParB, wParB3, wAsgB, sets, VM.exB2, VM.exB3, VM.zipP_cons, VM.zipP_nil, VM.compL_cons, VM.compL_nil, wiSeq, wiRng1, wiRng2, wiZip, wiEnum, wFor, wYes, wComp, wChain, wipeR, backR, look, VM.ex2, VM.ex3, VM.eq_int, VM.ne_int, VM.ix_t0, VM.ix_t1, VM.ix_t2, VM.ix_l0, VM.ix_l1, VM.ix_l2, VM.ix_pt0, VM.ix_pt1, VM.eq_bl, VM.ne_bl, VM.eq_str, VM.ne_str, VM.is_non, VM.isnot_non, decide_true, decide_false, decide_eq_true_eq, eq_self, VM.pv_val, VM.pv_own, VM.noOwn_eq, VM.noOwnB, List.all_cons, List.all_nil, Bool.and_self, opInt, opSub, opMod, opFdiv, opPow, opCmpI, opLt, opLe, opGt, opGe, opAdd, opMul, opNeg, opLen, opAbs, opIntC, opMax2, opMin2, opList, opTuple, opSl, opBack, wIxN, wLenN, startR,
  List.set_cons_zero, List.set_cons_succ, List.length_cons, List.length_nil, List.map_cons, List.map_nil, List.replicate_succ, List.replicate_zero, List.nil_append, List.cons_append, Nat.zero_add, Nat.reduceAdd, Nat.reduceSub, if_true, if_false, true_and, and_true, Bool.false_eq_true, ite_true, ite_false, List.cons.injEq, PV.int.injEq, PV.bl.injEq, exists_eq_left, exists_eq_left', exists_and_left, and_self, reduceCtorEq, Bool.not_true, Bool.not_false, ite_self])
local macro_rules | `(tactic| walk_at "vc") => `(tactic| repeat (with_reducible refine And.intro ?_ ?_; focus first | omega | with_reducible rfl | exact VM.szb rfl | exact VM.szlb rfl | exact VM.cmul_l (by omega) (by omega) | exact VM.cmul_r (by omega) (by omega) | exact VM.divok (by omega) (by omega) (by omega) | omega))

namespace VM
section
variable {α : Type} [DecidableEq α] [Dm α] [Do α]
theorem min_tp {l : List α} {Q : Sl → Prop} (hn : l ≠ []) (hd : Dm.dep α ≤ 64) (q : ∀ m ∈ l, (∀ y ∈ l, Do.ltb y m = false) → Q (.val (Dm.emb m))) : opMinD [.tup (l.map Dm.emb)] Q := by
  obtain ⟨xs, d, ds, _, h⟩ := min_dm (Q := Q) hn hd q
  rename_i e
  rcases e with e | e
  · cases e; exact ⟨_, d, ds, .inr rfl, h⟩
  · cases e
def maxL (d : α) (l : List α) : α := l.foldl (fun a y => if Do.ltb a y then y else a) d
theorem maxD_eq (d : α) (l : List α) : PySem.W.maxD (Dm.dd d) (l.map Dm.dd) = Dm.dd (maxL d l) := by
  unfold PySem.W.maxD maxL
  induction l generalizing d with
  | nil => rfl
  | cons x l ih =>
    simp only [List.map_cons, List.foldl_cons, Do.lt_eq]
    rw [← ih]
    congr 1
    split <;> rfl
theorem maxL_spec (d : α) (l : List α) : maxL d l ∈ d :: l ∧ ∀ y ∈ d :: l, Do.ltb (maxL d l) y = false := by
  unfold maxL
  induction l generalizing d with
  | nil => simp [Do.irr]
  | cons x l ih =>
    simp only [List.foldl_cons]
    cases h : Do.ltb d x with
    | true =>
      obtain ⟨h1, h2⟩ := ih x
      simp only [if_true]
      refine ⟨List.mem_cons_of_mem _ h1, fun y hy => ?_⟩
      rcases List.mem_cons.mp hy with rfl | hy
      · refine Do.le_trans ?_ (h2 x List.mem_cons_self)
        cases h3 : Do.ltb x y with
        | false => rfl
        | true => have := Do.trn _ _ _ h h3; rw [Do.irr] at this; cases this
      · exact h2 y hy
    | false =>
      obtain ⟨h1, h2⟩ := ih d
      simp only [Bool.false_eq_true, if_false]
      refine ⟨?_, fun y hy => ?_⟩
      · rcases List.mem_cons.mp h1 with h1 | h1
        · rw [h1]; exact List.mem_cons_self
        · exact List.mem_cons_of_mem _ (List.mem_cons_of_mem _ h1)
      · rcases List.mem_cons.mp hy with rfl | hy
        · exact h2 y List.mem_cons_self
        · rcases List.mem_cons.mp hy with rfl | hy
          · exact Do.le_trans h (h2 d List.mem_cons_self)
          · exact h2 y (List.mem_cons_of_mem _ hy)
/-- the greatest of a tuple: one of them -/
theorem max_tp {l : List α} {Q : Sl → Prop} (hn : l ≠ []) (hd : Dm.dep α ≤ 64) (q : ∀ m ∈ l, (∀ y ∈ l, Do.ltb m y = false) → Q (.val (Dm.emb m))) : opMaxD [.tup (l.map Dm.emb)] Q := by
  cases l with
  | nil => exact absurd rfl hn
  | cons d l =>
    refine ⟨_, Dm.dd d, l.map Dm.dd, .inr rfl, toDs_map (d :: l), ⟨fun x hx y hy => ?_, fun x hx => ?_⟩, ?_, fun p hp e => ?_⟩
    · obtain ⟨a, _, rfl⟩ := List.mem_map.mp (show x ∈ (d :: l).map Dm.dd from hx)
      obtain ⟨b, _, rfl⟩ := List.mem_map.mp (show y ∈ (d :: l).map Dm.dd from hy)
      exact Do.alk a b
    · obtain ⟨a, _, rfl⟩ := List.mem_map.mp (show x ∈ (d :: l).map Dm.dd from hx)
      exact Do.nn a
    · exact Nat.le_trans (depAll_map (d :: l)) hd
    · obtain ⟨a, ha, rfl⟩ := List.mem_map.mp hp
      rw [Dm.toD_emb, maxD_eq] at e
      have e2 : a = maxL d l := Dm.dd_inj (by injection e)
      obtain ⟨h1, h2⟩ := maxL_spec d l
      rw [e2]
      exact q _ h1 h2
end
end VM
namespace V09
open VM Tn Ch
def w_lir9_9 : WS := (wIfS (wAndT (wTst (wBin opGt (wVar 6) (wC (.int 1)))) (wTst (wBin opNe (wBin opMod (wCall opIntC (wCons (wBin opMul (wVar 7) (wVar 8)) wNil)) (wVar 6)) (wC (.int 1))))) (wRet (wC (.bl false))) wNext)
def w_lir9_8 (S_type_of : SpV) : WS := (wSeq (wSet 8 (wBin opIx (wCallN 2 S_type_of (wCons (wTup (wCons (wBin opSub (wC (.int 0)) (wBin opIx (wVar 3) (wC (.int 0)))) (wCons (wBin opIx (wVar 3) (wC (.int 1))) wNil))) (wCons (wTup (wCons (wBin opSub (wC (.int 0)) (wBin opIx (wVar 2) (wC (.int 0)))) (wCons (wBin opIx (wVar 2) (wC (.int 1))) wNil))) wNil))) (wC (.int 1)))) w_lir9_9)
def w_lir9_7 (S_type_of : SpV) : WS := (wSeq (wIfS (wAndT (wTst (wBin opGt (wVar 6) (wC (.int 1)))) (wTst (wBin opNe (wBin opIx (wCallN 2 S_type_of (wCons (wTup (wCons (wBin opSub (wC (.int 0)) (wBin opIx (wVar 3) (wC (.int 0)))) (wCons (wBin opIx (wVar 3) (wC (.int 1))) wNil))) (wCons (wTup (wCons (wBin opSub (wC (.int 0)) (wBin opIx (wVar 2) (wC (.int 0)))) (wCons (wBin opIx (wVar 2) (wC (.int 1))) wNil))) wNil))) (wC (.int 0))) (wVar 6)))) (wRet (wC (.bl false))) wNext) (w_lir9_8 S_type_of))
def w_lir9_6 (S_type_of : SpV) : WS := (wSeq (wAsg (wVar 4) (wgTup 2 (wgCons (wgName 6) (wgCons (wgName 7) wgNil)))) (w_lir9_7 S_type_of))
def w_lir9_5 (S__law_led : SpV) (S_type_of : SpV) : WS := (wSeq (wIfS (wAndT (wTst (wBin opEq (wBin opSub (wBin opMul (wBin opIx (wVar 5) (wC (.int 0))) (wBin opIx (wVar 5) (wC (.int 3)))) (wBin opMul (wBin opIx (wVar 5) (wC (.int 1))) (wBin opIx (wVar 5) (wC (.int 2))))) (wC (.int 1)))) (wTst (wBin opLt (wVar 1) (wC (.int 100))))) (wIfS (wTst (wBin opNe (wCallN 2 S_type_of (wCons (wCallN 2 S__law_led (wCons (wVar 5) (wCons (wVar 2) wNil))) (wCons (wCallN 2 S__law_led (wCons (wVar 5) (wCons (wVar 3) wNil))) wNil))) (wVar 4))) (wRet (wC (.bl false))) wNext) wNext) (w_lir9_6 S_type_of))
def w_lir9_4 (S__law_led : SpV) (S__law_table : SpV) (S_type_of : SpV) : WS := (wSeq (wSet 5 (wCallN 1 S__law_table (wCons (wVar 0) wNil))) (w_lir9_5 S__law_led S_type_of))
def w_lir9_3 (S__law_led : SpV) (S__law_same : SpV) (S__law_table : SpV) (S_type_of : SpV) : WS := (wSeq (wIfS (wOrT (wTst (wBin opIs (wVar 4) (wC .non))) (wNotT (wTst (wCallN 2 S__law_same (wCons (wCallN 2 S_type_of (wCons (wVar 2) (wCons (wVar 3) wNil))) (wCons (wVar 4) wNil)))))) (wRet (wC (.bl false))) wNext) (w_lir9_4 S__law_led S__law_table S_type_of))
def w_lir9_16 (S_chain : SpV) : WS := (wRet (wAndV (wBin opEq (wVar 10) (wVar 6)) (wAndV (wBin opEq (wBin opMod (wCall opIntC (wCons (wBin opMul (wVar 7) (wVar 8)) wNil)) (wVar 6)) (wBin opMod (wCall opIntC (wCons (wC (.int 1)) wNil)) (wVar 6))) (wOrV (wBin opEq (wVar 8) (wC (.int 0))) (wBin opEq (wCallN 2 S_chain (wCons (wVar 6) (wCons (wVar 8) wNil))) (wUn opBack (wVar 9)))))))
def w_lir9_15 (S__law_by_chain : SpV) (S_chain : SpV) : WS := (wSeq (wAsg (wCallN 1 S__law_by_chain (wCons (wUn opBack (wVar 9)) wNil)) (wgTup 2 (wgCons (wgName 10) (wgCons (wgName 8) wgNil)))) (w_lir9_16 S_chain))
def w_lir9_14 (S__law_by_chain : SpV) (S_by_chain : SpV) (S_chain : SpV) : WS := (wSeq (wIfS (wAndT (wTst (wBin opLe (wCall opLen (wCons (wVar 9) wNil)) (wC (.int 20)))) (wAndT (wTst (wBin opLe (wCall opMaxD (wCons (wVar 9) wNil)) (wC (.int 1000)))) (wTst (wBin opNe (wCallN 1 S_by_chain (wCons (wVar 9) wNil)) (wTup (wCons (wVar 6) (wCons (wVar 7) wNil))))))) (wRet (wC (.bl false))) wNext) (w_lir9_15 S__law_by_chain S_chain))
def w_lir9_13 (S__law_by_chain : SpV) (S__law_chain : SpV) (S__law_same : SpV) (S_by_chain : SpV) (S_chain : SpV) : WS := (wSeq (wIfS (wOrT (wNotT (wTst (wCallN 2 S__law_same (wCons (wVar 9) (wCons (wCall opTuple (wCons (wCallN 2 S__law_chain (wCons (wVar 6) (wCons (wVar 7) wNil))) wNil)) wNil))))) (wOrT (wTst (wBin opLt (wCall opMinD (wCons (wVar 9) wNil)) (wC (.int 2)))) (wTst (wBin opNe (wCallN 1 S__law_by_chain (wCons (wVar 9) wNil)) (wTup (wCons (wVar 6) (wCons (wVar 7) wNil))))))) (wRet (wC (.bl false))) wNext) (w_lir9_14 S__law_by_chain S_by_chain S_chain))
def w_lir9_12 (S__law_by_chain : SpV) (S__law_chain : SpV) (S__law_same : SpV) (S_by_chain : SpV) (S_chain : SpV) : WS := (wSeq (wSet 9 (wCallN 2 S_chain (wCons (wVar 6) (wCons (wVar 7) wNil)))) (w_lir9_13 S__law_by_chain S__law_chain S__law_same S_by_chain S_chain))
def w_lir9_11 (S__law_by_chain : SpV) (S__law_chain : SpV) (S__law_common : SpV) (S__law_same : SpV) (S_by_chain : SpV) (S_chain : SpV) : WS := (wSeq (wIfS (wTst (wBin opGt (wCallN 2 S__law_common (wCons (wVar 6) (wCons (wVar 7) wNil))) (wC (.int 1)))) (wSet 7 (wBin opSub (wVar 6) (wC (.int 1)))) wNext) (w_lir9_12 S__law_by_chain S__law_chain S__law_same S_by_chain S_chain))
def w_lir9_10 (S__law_by_chain : SpV) (S__law_chain : SpV) (S__law_common : SpV) (S__law_draw : SpV) (S__law_same : SpV) (S_by_chain : SpV) (S_chain : SpV) : WS := (wSeq (wSet 7 (wBin opAdd (wC (.int 1)) (wCallN 2 S__law_draw (wCons (wVar 0) (wCons (wBin opSub (wVar 6) (wC (.int 1))) wNil))))) (w_lir9_11 S__law_by_chain S__law_chain S__law_common S__law_same S_by_chain S_chain))
def w_lir9_2 (S__law_any : SpV) (S__law_by_chain : SpV) (S__law_chain : SpV) (S__law_common : SpV) (S__law_draw : SpV) (S__law_same : SpV) (S_by_chain : SpV) (S_chain : SpV) : WS := (wSeq (wSet 6 (wBin opAdd (wC (.int 2)) (wCallN 2 S__law_draw (wCons (wVar 0) (wCons (wCallN 2 S__law_any (wCons (wVar 0) (wCons (wLst (wCons (wC (.int 8)) (wCons (wC (.int 40)) (wCons (wC (.int 9999)) wNil)))) wNil))) wNil))))) (w_lir9_10 S__law_by_chain S__law_chain S__law_common S__law_draw S__law_same S_by_chain S_chain))
def w_lir9_1 (S__law_any : SpV) (S__law_by_chain : SpV) (S__law_chain : SpV) (S__law_common : SpV) (S__law_draw : SpV) (S__law_led : SpV) (S__law_same : SpV) (S__law_table : SpV) (S__law_turn : SpV) (S__law_type : SpV) (S_by_chain : SpV) (S_chain : SpV) (S_type_of : SpV) : WS := (wSeq (wIfS (wTst (wBin opLe (wCallN 2 S__law_turn (wCons (wVar 2) (wCons (wVar 3) wNil))) (wC (.int 2000)))) (wSeq (wSet 4 (wCallN 2 S__law_type (wCons (wVar 2) (wCons (wVar 3) wNil)))) (w_lir9_3 S__law_led S__law_same S__law_table S_type_of)) wNext) (w_lir9_2 S__law_any S__law_by_chain S__law_chain S__law_common S__law_draw S__law_same S_by_chain S_chain))
def w__law_is_right (S__law_any : SpV) (S__law_by_chain : SpV) (S__law_chain : SpV) (S__law_common : SpV) (S__law_corner : SpV) (S__law_draw : SpV) (S__law_led : SpV) (S__law_same : SpV) (S__law_table : SpV) (S__law_turn : SpV) (S__law_type : SpV) (S_by_chain : SpV) (S_chain : SpV) (S_type_of : SpV) : WS := (wSeq (wAsg (wCallN 2 S__law_corner (wCons (wVar 0) (wCons (wVar 1) wNil))) (wgTup 2 (wgCons (wgName 2) (wgCons (wgName 3) wgNil)))) (w_lir9_1 S__law_any S__law_by_chain S__law_chain S__law_common S__law_draw S__law_led S__law_same S__law_table S__law_turn S__law_type S_by_chain S_chain S_type_of))
theorem hj_len : ∀ (k : Nat) (n q : Int), q.toNat ≤ k → 0 ≤ q → (hj n q).length ≤ q.toNat
  | k, n, q, hk, h0 => by
    by_cases hq : 0 < q
    · have u := up_div (n := n) hq
      rw [hj_step hq]
      cases k with
      | zero => omega
      | succ k =>
        have := hj_len k q _ (by omega) u.1
        rw [List.length_cons]; omega
    · rw [hj_zero hq]; simp
theorem part3 {LB LCH SM BC CH : SpV}
    (hLB : ∀ (r : List Int) (N : Sl → Prop), r ≠ [] → r.length ≤ 100000 → (∀ c ∈ r, 2 ≤ c ∧ c ≤ 1000000) → N (.val (pt (bc r))) → LB [.tup (r.map PV.int)] N)
    (hBC : ∀ (r : List Int) (N : Sl → Prop), r ≠ [] → r.length ≤ 20 → (∀ c ∈ r, 2 ≤ c ∧ c ≤ 1000) → N (.val (pt (bc r))) → BC [.tup (r.map PV.int)] N)
    (hSM : ∀ (p : PV) (N : Sl → Prop), sameOk 9 p → N (.val (.bl true)) → SM [p, p] N)
    (hLCH : ∀ (n q : Int) (N : Sl → Prop), 0 ≤ q → q < 1000000 → N (.own ((hj n q).map PV.int)) → LCH [.int n, .int q] N)
    (hCH : ∀ (n q : Int) (N : Sl → Prop), 2 ≤ n → n ≤ 10000 → 1 ≤ q → q < n → Int.gcd n q = 1 → N (.val (.tup ((hj n q).map PV.int))) → CH [.int n, .int q] N)
    {Q : Sl → Prop} (k : Q (.val (.bl true))) {n q : Int} (n2 : 2 ≤ n) (n4 : n ≤ 10000) (q1 : 1 ≤ q) (qn : q < n) (hg : Int.gcd n q = 1) {s0 s1 s2 s3 s4 s5 s8 s9 s10 : Sl} {nx : Rho → Prop} :
    w_lir9_12 LB LCH SM BC CH { nx := nx, rt := Q } [s0, s1, s2, s3, s4, s5, .val (.int n), .val (.int q), s8, s9, s10] := by
  have hb := bc_hj _ n q (Nat.le_refl _) (by omega) (by omega) hg
  have h2 := hj_two _ n q (Nat.le_refl _) (by omega) qn
  have hl := hj_len _ n q (Nat.le_refl _) (by omega)
  have r0 : hj n q ≠ [] := by rw [hj_step (by omega)]; exact fun h => nomatch h
  have hsm : sameOk 9 (.tup ((hj n q).map PV.int)) := sameOk_tup (by omega) fun _ _ => sameOk_int
  unfold w_lir9_12
  walk_at "vx"
  refine hCH n q _ n2 n4 q1 qn hg ?_
  unfold w_lir9_13
  walk_at "vx"
  refine hLCH n q _ (by omega) (by omega) ?_
  walk_at "vx"
  generalize hj n q = R at *
  refine hSM _ _ hsm ?_
  walk_at "vx"
  refine min_tp (α := Int) r0 (by decide) fun m hm _ => ?_
  have m2 := (h2 m hm).1
  show (if m < 2 then _ else _)
  rw [if_neg (by omega)]
  refine hLB R _ r0 (by omega) (fun c hc => by have := h2 c hc; omega) ?_
  rw [hb]
  walk_at "vx"
  refine ⟨szb rfl, ?_⟩
  rw [pt_mk, ne_pt, decide_eq_true rfl]
  walk_at "vx"
  unfold w_lir9_14
  walk_at "vx"
  rw [List.length_map]
  have rest : w_lir9_15 LB CH { nx := nx, rt := Q } [s0, s1, s2, s3, s4, s5, .val (.int n), .val (.int q), s8, .val (.tup (R.map PV.int)), s10] := by
    unfold w_lir9_15
    walk_at "vx"
    rw [← List.map_reverse]
    have rr0 : R.reverse ≠ [] := by simpa using r0
    have rc : ∀ c ∈ R.reverse, 2 ≤ c ∧ c ≤ n := fun c hc => h2 c (List.mem_reverse.mp hc)
    refine hLB R.reverse _ rr0 (by rw [List.length_reverse]; omega) (fun c hc => by have := rc c hc; omega) ?_
    obtain ⟨b1, u, b2⟩ := bc_rev R
    obtain ⟨c1, c2, c3, c4, c5⟩ := bc_row R.reverse fun c hc => (rc c hc).1
    have c6 := c5 rr0
    rw [hb] at b1 b2
    generalize bc R.reverse = z at *
    simp only [pt]
    walk_at "vx"
    unfold w_lir9_16
    walk_at "vx"
    dsimp only at b1 b2
    rw [if_pos b1]
    have em : (q * z.2).fmod n = Int.fmod 1 n := by
      rw [b2, Int.fmod_eq_emod_of_nonneg _ (by omega), Int.fmod_eq_emod_of_nonneg _ (by omega), Int.add_mul_emod_self_left]
    refine ⟨cmul_l (by omega) (by omega), by omega, by omega, ?_⟩
    rw [if_pos em, if_neg (by omega)]
    refine hCH n z.2 _ n2 n4 (by omega) (by omega) (by rw [← b1]; exact c3) ?_
    rw [show hj n z.2 = R.reverse by rw [← b1]; exact c4, ← List.map_reverse]
    show opEq (.tup (R.reverse.map PV.int)) (.tup (R.reverse.map PV.int)) _
    rw [eq_ti, decide_eq_true rfl]; exact k
  by_cases g1 : (R.length : Int) ≤ 20
  · rw [if_pos g1]
    refine max_tp (α := Int) r0 (by decide) fun m hm hmx => ?_
    show (if m ≤ 1000 then _ else _)
    by_cases g2 : m ≤ 1000
    · rw [if_pos g2]
      refine hBC R _ r0 (by omega) (fun c hc => ⟨(h2 c hc).1, ?_⟩) ?_
      · have := hmx c hc
        have : ¬ m < c := of_decide_eq_false this
        omega
      · rw [hb]
        walk_at "vx"
        refine ⟨szb rfl, ?_⟩
        rw [pt_mk, ne_pt, decide_eq_true rfl]
        exact rest
    · rw [if_neg g2]
      exact rest
  · rw [if_neg g1]
    exact rest
theorem part2 {A LB LCH LC D SM BC CH : SpV} (hS : ∀ (xs : List PV) (N : Sl → Prop), 0 < xs.length → xs.length < 1000000 → (∀ x ∈ xs, N (.val x)) → A [.hnd, .lst xs] N)
    (hD : ∀ (m : Int) (N : Sl → Prop), 0 < m → m < 1073741824 → (∀ r : Int, 0 ≤ r → r < m → N (.val (.int r))) → D [.hnd, .int m] N)
    (hLC : ∀ (a b : Int) (N : Sl → Prop), N (.val (.int (Int.gcd a b))) → LC [.int a, .int b] N)
    (hLB : ∀ (r : List Int) (N : Sl → Prop), r ≠ [] → r.length ≤ 100000 → (∀ c ∈ r, 2 ≤ c ∧ c ≤ 1000000) → N (.val (pt (bc r))) → LB [.tup (r.map PV.int)] N)
    (hBC : ∀ (r : List Int) (N : Sl → Prop), r ≠ [] → r.length ≤ 20 → (∀ c ∈ r, 2 ≤ c ∧ c ≤ 1000) → N (.val (pt (bc r))) → BC [.tup (r.map PV.int)] N)
    (hSM : ∀ (p : PV) (N : Sl → Prop), sameOk 9 p → N (.val (.bl true)) → SM [p, p] N)
    (hLCH : ∀ (n q : Int) (N : Sl → Prop), 0 ≤ q → q < 1000000 → N (.own ((hj n q).map PV.int)) → LCH [.int n, .int q] N)
    (hCH : ∀ (n q : Int) (N : Sl → Prop), 2 ≤ n → n ≤ 10000 → 1 ≤ q → q < n → Int.gcd n q = 1 → N (.val (.tup ((hj n q).map PV.int))) → CH [.int n, .int q] N)
    {Q : Sl → Prop} (k : Q (.val (.bl true))) {s1 s2 s3 s4 s5 s6 s7 s8 s9 s10 : Sl} {nx : Rho → Prop} :
    w_lir9_2 A LB LCH LC D SM BC CH { nx := nx, rt := Q } [.val .hnd, s1, s2, s3, s4, s5, s6, s7, s8, s9, s10] := by
  unfold w_lir9_2
  walk_at "vx"
  walk_at "vc"
  refine hS _ _ (Nat.le_of_ble_eq_true rfl) (Nat.le_of_ble_eq_true rfl) fun x hx => ?_
  have hx2 : ∃ m : Int, x = .int m ∧ 1 ≤ m ∧ m ≤ 9999 := by
    revert x
    exact allc ⟨8, rfl, by decide, by decide⟩ (allc ⟨40, rfl, by decide, by decide⟩ (allc ⟨9999, rfl, by decide, by decide⟩ alln))
  obtain ⟨m, rfl, m1, m2⟩ := hx2
  clear hx
  walk_at "vx"
  refine hD _ _ (by omega) (by omega) fun r r0 r1 => ?_
  walk_at "vx"
  unfold w_lir9_10
  walk_at "vx"
  refine hD _ _ (by omega) (by omega) fun z z0 z1 => ?_
  walk_at "vx"
  unfold w_lir9_11
  walk_at "vx"
  refine hLC _ _ _ ?_
  walk_at "vx"
  by_cases g : (1 : Int) < (Int.gcd (2 + r) (1 + z) : Int)
  · rw [if_pos g]
    refine part3 hLB hBC hSM hLCH hCH k (by omega) (by omega) (by omega) (by omega) ?_
    have e := gcd_up (n := 1) (q := 2 + r) (p := 1)
    rw [Int.one_mul] at e
    rw [e]; simp
  · rw [if_neg g]
    refine part3 hLB hBC hSM hLCH hCH k (by omega) (by omega) (by omega) (by omega) ?_
    have : 0 < Int.gcd (2 + r) (1 + z) := gcd_pos (p := (2 + r, 1 + z)) (fun e => by have : 2 + r = 0 := congrArg Prod.fst e; omega)
    omega
theorem okRay_mir {x : Pt} (h : okRay x = true) : okRay (-x.1, x.2) = true := by
  have := okRay_iff.mp h
  refine okRay_iff.mpr ⟨?_, ?_⟩
  · dsimp only; omega
  · dsimp only; rw [Int.neg_gcd]; exact this.2
theorem part1 {TY SM LD TB TO NX : SpV} {rest : WS} {Q : Sl → Prop} {p o : Pt} {m : Int} (hp : okRay p = true) (ho : okRay o = true) (ht : 0 < turn p o) (ht2 : turn p o ≤ 2000)
    (bp : -m ≤ p.1 ∧ p.1 ≤ m ∧ -m ≤ p.2 ∧ p.2 ≤ m) (bo : -m ≤ o.1 ∧ o.1 ≤ m ∧ -m ≤ o.2 ∧ o.2 ≤ m)
    (hTO : ∀ (p o : Pt) (N : Sl → Prop), okRay p = true → okRay o = true → 0 < turn p o → (∀ q, IsT p o q → N (.val (pt (turn p o, q)))) → TO [pt p, pt o] N)
    (hSM : ∀ (p : PV) (N : Sl → Prop), sameOk 9 p → N (.val (.bl true)) → SM [p, p] N)
    (hTB : ∀ N : Sl → Prop, (∀ t : T4, smT 9 t → (det t = 1 ∨ det t = -1) → N (.val (t4 t))) → TB [.hnd] N)
    (hLD : ∀ (t : T4) (p : Pt) (N : Sl → Prop), smT 9 t → N (.val (pt (led t p))) → LD [t4 t, pt p] N)
    {q : Int} (hq : IsT p o q) {D : EndsV} (k : ∀ a b c d : Sl, D.nx [.val .hnd, .val (.int m), .val (pt p), .val (pt o), .val (pt (turn p o, q)), a, b, c, d, .no, .no]) :
    w_lir9_3 LD SM TB TO D [.val .hnd, .val (.int m), .val (pt p), .val (pt o), .val (pt (turn p o, q)), .no, .no, .no, .no, .no, .no] := by
  have gp := (okRay_iff.mp hp).2
  have go := (okRay_iff.mp ho).2
  unfold w_lir9_3
  walk_at "vx"
  simp only [pt]
  walk_at "vx"
  rw [pt_mk, pt_mk, pt_mk]
  refine hTO p o _ hp ho ht fun q' hq' => ?_
  rw [isT_uniq gp hq hq']
  refine hSM _ _ sameOk_pt ?_
  walk_at "vx"
  unfold w_lir9_4
  walk_at "vx"
  refine hTB _ fun t hs hd => ?_
  unfold w_lir9_5
  have ix3 : ∀ N : Sl → Prop, opIx (t4 t) (.int 3) N = N (.val (.int t.2.2.2)) := fun N => ix_tup' (atI_nat (n := 3) rfl)
  have ix0 : ∀ N : Sl → Prop, opIx (t4 t) (.int 0) N = N (.val (.int t.1)) := fun N => ix_tup' (atI_nat (n := 0) rfl)
  have ix1 : ∀ N : Sl → Prop, opIx (t4 t) (.int 1) N = N (.val (.int t.2.1)) := fun N => ix_tup' (atI_nat (n := 1) rfl)
  have ix2 : ∀ N : Sl → Prop, opIx (t4 t) (.int 2) N = N (.val (.int t.2.2.1)) := fun N => ix_tup' (atI_nat (n := 2) rfl)
  walk_at "vx"
  simp only [ix0, ix1, ix2, ix3]
  walk_at "vx"
  have hpo : ((p.1, p.2) : Pt) = p := rfl
  have hoo : ((o.1, o.2) : Pt) = o := rfl
  rw [hpo, hoo]
  obtain ⟨⟨t1, t2⟩, ⟨t3, t5⟩, ⟨t6, t7⟩, t8, t9⟩ := id hs
  refine ⟨cmul_l (by omega) (by omega), cmul_l (by omega) (by omega), ?_⟩
  have rest : w_lir9_6 TO D [.val .hnd, .val (.int m), .val (pt p), .val (pt o), .val (pt (turn p o, q)), .val (t4 t), .no, .no, .no, .no, .no] := by
    have mo : okRay (-o.1, o.2) = true := okRay_mir ho
    have mp : okRay (-p.1, p.2) = true := okRay_mir hp
    have tm : turn (-o.1, o.2) (-p.1, p.2) = turn p o := by unfold turn; dsimp only; grind
    unfold w_lir9_6
    simp only [pt]
    walk_at "vx"
    unfold w_lir9_7
    walk_at "vx"
    simp only [Int.zero_sub]
    have last : w_lir9_8 TO D [.val .hnd, .val (.int m), .val (.tup [.int p.1, .int p.2]), .val (.tup [.int o.1, .int o.2]), .val (.tup [.int (turn p o), .int q]), .val (t4 t), .val (.int (turn p o)), .val (.int q), .no, .no, .no] := by
      unfold w_lir9_8
      walk_at "vx"
      simp only [Int.zero_sub]
      refine ⟨szb rfl, szb rfl, ?_⟩
      rw [pt_mk, pt_mk]
      refine hTO _ _ _ mo mp (by rw [tm]; exact ht) fun r hr => ?_
      obtain ⟨u, hu⟩ := isT_back gp hq hr
      obtain ⟨r0, r1, _⟩ := id hr
      obtain ⟨q0, q1, _⟩ := id hq
      rw [tm] at r1
      walk_at "vx"
      unfold w_lir9_9
      walk_at "vx"
      by_cases g : 1 < turn p o
      · rw [if_pos g]
        refine ⟨cmul_l (by omega) (by omega), by omega, ?_⟩
        have em : (q * r).fmod (turn p o) = 1 := by
          rw [hu, Int.fmod_eq_emod_of_nonneg _ (by omega), Int.add_mul_emod_self_left]
          exact Int.emod_eq_of_lt (by omega) g
        rw [em, if_neg (by decide)]
        exact k _ _ _ _
      · rw [if_neg g]
        exact k _ _ _ _
    by_cases g : 1 < turn p o
    · rw [if_pos g]
      refine ⟨szb rfl, szb rfl, ?_⟩
      rw [pt_mk, pt_mk]
      refine hTO _ _ _ mo mp (by rw [tm]; exact ht) fun r hr => ?_
      rw [tm]
      walk_at "vx"
      exact last
    · rw [if_neg g]
      exact last
  by_cases g1 : t.1 * t.2.2.2 - t.2.1 * t.2.2.1 = 1
  · rw [if_pos g1]
    by_cases g2 : m < 100
    · rw [if_pos g2]
      have dd : det t = 1 := g1
      refine hLD t p _ hs (hLD t o _ hs ?_)
      have bd : ∀ x : Pt, (-m ≤ x.1 ∧ x.1 ≤ m ∧ -m ≤ x.2 ∧ x.2 ≤ m) → Int.gcd x.1 x.2 = 1 → okRay (led t x) = true := by
        intro x hx hgx
        have f : ∀ (a b : Int), -9 ≤ a → a ≤ 9 → -100 ≤ b → b ≤ 100 → -900 ≤ a * b ∧ a * b ≤ 900 := by
          intro a b h1 h2 h3 h4
          have := natAbs_mul_le (a := a) (b := b) (m := 9) (n := 100) (by omega) (by omega)
          omega
        have f1 := f t.1 x.1 t1 t2 (by omega) (by omega)
        have f2 := f t.2.1 x.2 t3 t5 (by omega) (by omega)
        have f3 := f t.2.2.1 x.1 t6 t7 (by omega) (by omega)
        have f4 := f t.2.2.2 x.2 t8 t9 (by omega) (by omega)
        refine okRay_iff.mpr ⟨?_, gcd_led dd hgx⟩
        unfold led
        dsimp only
        omega
      have tl : turn (led t p) (led t o) = turn p o := by rw [turn_led, dd]; omega
      refine hTO _ _ _ (bd p bp gp) (bd o bo go) (by rw [tl]; exact ht) fun r hr => ?_
      rw [isT_uniq (gcd_led dd gp) (isT_led dd hq) hr, tl]
      show opNe (pt (turn p o, q)) (pt (turn p o, q)) _
      rw [ne_pt, decide_eq_true rfl]
      exact rest
    · rw [if_neg g2]; exact rest
  · rw [if_neg g1]; exact rest
def S__law_is_right : SpV := fun ps Q => ∃ m : Int, ps = [.hnd, .int m] ∧ 1 ≤ m ∧ m ≤ 10000 ∧ Q (.val (.bl true))
theorem v__law_is_right : SV (w__law_is_right S__law_any S__law_by_chain S__law_chain S__law_common S__law_corner S__law_draw S__law_led (S__law_same 9) S__law_table S__law_turn S__law_type S_by_chain S_chain S_type_of) 11 S__law_is_right 2 := by
  rintro ps Q - ⟨m, rfl, m1, m2, q⟩
  unfold w__law_is_right
  walk_at "vx"
  refine ⟨m, rfl, m1, m2, fun p o hp ho bp bo ht => ?_⟩
  walk_at "vx"
  unfold w_lir9_1
  walk_at "vx"
  refine ⟨p, o, rfl, .inl (okRay_lg hp), ?_⟩
  walk_at "vx"
  have p2 : ∀ {s1 s2 s3 s4 s5 s6 s7 s8 s9 s10 : Sl} {nx : Rho → Prop}, w_lir9_2 S__law_any S__law_by_chain S__law_chain S__law_common S__law_draw (S__law_same 9) S_by_chain S_chain { nx := nx, rt := Q } [.val .hnd, s1, s2, s3, s4, s5, s6, s7, s8, s9, s10] :=
    fun {s1 s2 s3 s4 s5 s6 s7 s8 s9 s10 nx} => part2 (fun xs N h1 h2 h3 => ⟨xs, .inl rfl, h1, h2, h3⟩) (fun m N h1 h2 h3 => ⟨m, rfl, h1, h2, h3⟩) (fun a b N h => ⟨a, b, rfl, h⟩) (fun r N h1 h2 h3 h4 => ⟨r, rfl, h1, h2, h3, h4⟩) (fun r N h1 h2 h3 h4 => ⟨r, rfl, h1, h2, h3, h4⟩)
      (fun p N h1 h2 => same_true h1 h2) (fun n q N h1 h2 h3 => ⟨n, q, rfl, h1, h2, h3⟩) (fun n q N h1 h2 h3 h4 h5 h6 => ⟨n, q, rfl, h1, h2, h3, h4, h5, h6⟩) q
  by_cases g : turn p o ≤ 2000
  · rw [if_pos g]
    refine ⟨p, o, rfl, hp, ho, ht, g, fun z hz => ?_⟩
    exact part1 (TY := S__law_type) (NX := S__law_type) (rest := wNext) (Q := Q) hp ho ht g bp bo (fun p o N h1 h2 h3 h4 => ⟨p, o, rfl, h1, h2, h3, h4⟩) (fun p N h1 h2 => same_true h1 h2) (fun N h => ⟨rfl, h⟩)
      (fun t p N ⟨h1, h2, h3, h4⟩ h5 => ⟨t, p, rfl, ⟨by omega, by omega, by omega, by omega⟩, h5⟩) hz fun a b c d => p2
  · rw [if_neg g]
    exact p2
def w_law9_3 : WS := (wRet (wC (.bl true)))
def w_law9_2 (S__law_any : SpV) (S__law_is_right : SpV) (S__law_is_row_right : SpV) : WS := (wSeq (wFor (wiRng1 (wCons (wC (.int 6)) wNil)) (wgName 3) (wIfS (wOrT (wNotT (wTst (wCallN 2 S__law_is_right (wCons (wVar 1) (wCons (wCallN 2 S__law_any (wCons (wVar 1) (wCons (wLst (wCons (wC (.int 3)) (wCons (wC (.int 8)) (wCons (wC (.int 30)) (wCons (wC (.int 200)) wNil))))) wNil))) wNil))))) (wNotT (wTst (wCallN 1 S__law_is_row_right (wCons (wVar 1) wNil))))) (wRet (wC (.bl false))) wNext)) w_law9_3)
def w_law9_1 (S__law_any : SpV) (S__law_is_right : SpV) (S__law_is_row_right : SpV) (S__law_same : SpV) : WS := (wSeq (wIfS (wNotT (wTst (wCallN 2 S__law_same (wCons (wVar 2) (wCons (wLst (wCons (wTup (wCons (wC (.int 5)) (wCons (wC (.int 2)) wNil))) (wCons (wTup (wCons (wC (.int 1)) (wCons (wC (.int 0)) wNil))) (wCons (wTup (wCons (wC (.int 3)) (wCons (wC (.int 2)) wNil))) (wCons (wTup (wCons (wC (.int 2)) (wCons (wC (.int 2)) (wCons (wC (.int 2)) (wCons (wC (.int 2)) (wCons (wC (.int 2)) (wCons (wC (.int 2)) wNil))))))) (wCons (wTup (wCons (wC (.int 5)) (wCons (wC (.int 2)) wNil))) (wCons (wTup (wCons (wC (.int 4)) (wCons (wC (.int 1)) wNil))) (wCons (wTup (wCons (wC (.int 2)) (wCons (wC (.int 3)) wNil))) wNil)))))))) wNil))))) (wRet (wC (.bl false))) wNext) (w_law9_2 S__law_any S__law_is_right S__law_is_row_right))
def w_law_rest (S__law_any : SpV) (S__law_is_right : SpV) (S__law_is_row_right : SpV) (S__law_same : SpV) (S_by_chain : SpV) (S_chain : SpV) (S_type_of : SpV) : WS := (wSeq (wSet 2 (wLst (wCons (wCallN 2 S_type_of (wCons (wTup (wCons (wC (.int 1)) (wCons (wC (.int 0)) wNil))) (wCons (wTup (wCons (wC (.int 2)) (wCons (wC (.int 5)) wNil))) wNil))) (wCons (wCallN 2 S_type_of (wCons (wTup (wCons (wC (.int 1)) (wCons (wC (.int 0)) wNil))) (wCons (wTup (wCons (wC (.int 3)) (wCons (wC (.int 1)) wNil))) wNil))) (wCons (wCallN 2 S_chain (wCons (wC (.int 5)) (wCons (wC (.int 2)) wNil))) (wCons (wCallN 2 S_chain (wCons (wC (.int 7)) (wCons (wC (.int 6)) wNil))) (wCons (wCallN 1 S_by_chain (wCons (wTup (wCons (wC (.int 3)) (wCons (wC (.int 2)) wNil))) wNil)) (wCons (wCallN 1 S_by_chain (wCons (wTup (wCons (wC (.int 4)) wNil)) wNil)) (wCons (wCallN 2 S_chain (wCons (wC (.int 5)) (wCons (wC (.int 3)) wNil))) wNil))))))))) (w_law9_1 S__law_any S__law_is_right S__law_is_row_right S__law_same))
theorem v_law_rest : w_law_rest S__law_any S__law_is_right S__law_is_row_right (S__law_same 9) S_by_chain S_chain S_type_of { nx := fun _ => False, rt := fun r => r = .val (.bl true) } (startL 4) := by
  unfold w_law_rest startL
  walk_at "vx"
  refine ⟨szb rfl, szb rfl, (1, 0), (2, 5), rfl, by decide, by decide, by decide, fun q1 h1 => ?_⟩
  rw [isT_uniq (by decide) (⟨by decide, by decide, 0, 1, by decide, by decide⟩ : IsT (1, 0) (2, 5) 2) h1]
  refine ⟨szb rfl, szb rfl, (1, 0), (3, 1), rfl, by decide, by decide, by decide, fun q2 h2 => ?_⟩
  rw [isT_uniq (by decide) (⟨by decide, by decide, 3, 1, by decide, by decide⟩ : IsT (1, 0) (3, 1) 0) h2]
  refine ⟨5, 2, rfl, by decide, by decide, by decide, by decide, by decide, ?_⟩
  refine ⟨7, 6, rfl, by decide, by decide, by decide, by decide, by decide, ?_⟩
  refine ⟨szb rfl, [3, 2], rfl, by decide, by decide, by decide, ?_⟩
  refine ⟨szb rfl, [4], rfl, by decide, by decide, by decide, ?_⟩
  refine ⟨5, 3, rfl, by decide, by decide, by decide, by decide, by decide, szb rfl, ?_⟩
  rw [show hj 5 2 = [3, 2] by decide, show hj 7 6 = [2, 2, 2, 2, 2, 2] by decide, show hj 5 3 = [2, 3] by decide, show bc [3, 2] = (5, 2) by decide, show bc [4] = (4, 1) by decide, show turn (1, 0) (2, 5) = 5 by decide, show turn (1, 0) (3, 1) = 1 by decide]
  unfold w_law9_1
  walk_at "vx"
  walk_at "vc"
  have ti : ∀ l : List Int, l.length ≤ 1000000 → sameOk 8 (.tup (l.map PV.int)) := fun l hl => sameOk_tup hl fun _ _ => sameOk_int
  refine ⟨_, rfl, ⟨Nat.le_of_ble_eq_true rfl, allc (ti [5, 2] (by decide)) (allc (ti [1, 0] (by decide)) (allc (ti [3, 2] (by decide)) (allc (ti [2, 2, 2, 2, 2, 2] (by decide)) (allc (ti [5, 2] (by decide)) (allc (ti [4, 1] (by decide)) (allc (ti [2, 3] (by decide)) alln))))))⟩, ?_⟩
  walk_at "vx"
  generalize PV.lst _ = hrd
  unfold w_law9_2
  walk_at "vx"
  refine ⟨by omega, by omega, ?_⟩
  rw [rangeP_I]
  refine forL_typed PV.int (fun done ρ => ∃ z : Sl, ρ = [.no, .val .hnd, .val hrd, z]) ⟨_, rfl⟩ ?_ ?_
  · rintro done y _ ρ ⟨z, rfl⟩ N hN
    walk_at "vx"
    refine ⟨szb rfl, _, .inl rfl, Nat.le_of_ble_eq_true rfl, Nat.le_of_ble_eq_true rfl, ?_⟩
    have ok : ∀ m : Int, 1 ≤ m → m ≤ 10000 → ∀ R : Sl → Prop, R (.val (.bl true)) → S__law_is_right [.hnd, .int m] R := fun m h1 h2 R hR => ⟨m, rfl, h1, h2, hR⟩
    refine allc (ok 3 (by decide) (by decide) _ ?_) (allc (ok 8 (by decide) (by decide) _ ?_) (allc (ok 30 (by decide) (by decide) _ ?_) (allc (ok 200 (by decide) (by decide) _ ?_) alln)))
    · walk_at "vx"
      exact ⟨rfl, hN _ ⟨_, rfl⟩⟩
    · walk_at "vx"
      exact ⟨rfl, hN _ ⟨_, rfl⟩⟩
    · walk_at "vx"
      exact ⟨rfl, hN _ ⟨_, rfl⟩⟩
    · walk_at "vx"
      exact ⟨rfl, hN _ ⟨_, rfl⟩⟩
  · rintro ρ ⟨z, rfl⟩
    unfold w_law9_3
    rfl
end V09
end
section
set_option Elab.async false
set_option linter.all false
set_option maxRecDepth 100000
set_option maxHeartbeats 0
namespace K09
open PySem PySem.Spec PyProof.Rows L2 VE
def topS (i : Nat) : Stmt := PySem.Challenge.pw_fanrounds_k09_whole_types_and_chains.main.body.getD i (.Pass ⟨0, 0, 0, 0⟩)
structure Facts (mg : Str → Option Value) : Prop where
  m_abs : mg "abs" = none
  m_all : mg "all" = none
  m_bool : mg "bool" = none
  m_int : mg "int" = none
  m_isinstance : mg "isinstance" = none
  m_len : mg "len" = none
  m_list : mg "list" = none
  m_max : mg "max" = none
  m_min : mg "min" = none
  m_range : mg "range" = none
  m_tuple : mg "tuple" = none
  m_zip : mg "zip" = none
  c_MOST_CHAINED : ∃ t, mg "MOST_CHAINED" = some (.int 10000 t)
  c_MOST_PART : ∃ t, mg "MOST_PART" = some (.int 1000 t)
  c_MOST_PLACE : ∃ t, mg "MOST_PLACE" = some (.int 10000 t)
  c_MOST_ROW : ∃ t, mg "MOST_ROW" = some (.int 20 t)
section
variable {P : Program} {w : World} {K : PySem.W.Frag} {mg : Str → Option Value} {base : Heap} {f : Addr} {cdv : Value} {A : Around} {outer : List Env} {s : Shared} {H : Hp} {k : Nat}
theorem sc_is_integer : FnScope ["thing"] ["thing"] (defScope (topS 9)) := ⟨rfl, rfl, rfl, by decide +kernel, rfl, by decide +kernel, by decide +kernel⟩
theorem d_is_integer (T : Facts mg) (hk : 0 ≤ k) (hr : RoomG k (A.deeper (envOfC "is_integer" (defScope (topS 9)) s.heap.objs.size f cdv))) : VSs (cxOf CX0 P w K mg base ["thing"] "is_integer" (defScope (topS 9)) f cdv A outer s H E0).nox (defBody (topS 9)) (VM.w_is_integer) :=
  have nd : (["thing"] : List Str).Nodup := sc_is_integer.nd
  (vss_one (vs_ret (ve_and (ve_callB call_isi ser_isi (gl_by (defScope (topS 9))) T.m_isinstance boot_isinstance (va_cons (ve_name (i := 0) rfl (vis_by (sc := (defScope (topS 9))) (by decide +kernel))) (va_cons (ve_gty (gl_by (defScope (topS 9))) T.m_int boot_int) va_nil))) (ve_one (ve_not (ve_callB call_isi ser_isi (gl_by (defScope (topS 9))) T.m_isinstance boot_isinstance (va_cons (ve_name (i := 0) rfl (vis_by (sc := (defScope (topS 9))) (by decide +kernel))) (va_cons (ve_gty (gl_by (defScope (topS 9))) T.m_bool boot_bool) va_nil))))))))
theorem sc_is_within : FnScope ["thing", "low", "high"] ["thing", "low", "high"] (defScope (topS 10)) := ⟨rfl, rfl, rfl, by decide +kernel, rfl, by decide +kernel, by decide +kernel⟩
theorem d_is_within (T : Facts mg) (S_is_integer : SpV) (C_is_integer : Cal P w K mg base "is_integer" 1 1 S_is_integer) (hk : 1 ≤ k) (hr : RoomG k (A.deeper (envOfC "is_within" (defScope (topS 10)) s.heap.objs.size f cdv))) : VSs (cxOf CX0 P w K mg base ["thing", "low", "high"] "is_within" (defScope (topS 10)) f cdv A outer s H E0).nox (defBody (topS 10)) (VM.w_is_within S_is_integer) :=
  have nd : (["thing", "low", "high"] : List Str).Nodup := sc_is_within.nd
  (vss_one (vs_ret (ve_and (ve_call C_is_integer (hr.mono (by first | omega | exact Nat.le_refl _)) (gl_by (defScope (topS 10))) (va_cons (ve_name (i := 0) rfl (vis_by (sc := (defScope (topS 10))) (by decide +kernel))) va_nil)) (ve_one (ve_chain op_le op_le ser_cmpI ser_cmpI (ve_name (i := 1) rfl (vis_by (sc := (defScope (topS 10))) (by decide +kernel))) (ve_name (i := 0) rfl (vis_by (sc := (defScope (topS 10))) (by decide +kernel))) (ve_name (i := 2) rfl (vis_by (sc := (defScope (topS 10))) (by decide +kernel))))))))
theorem sc_is_dot : FnScope ["thing", "one"] ["thing"] (defScope (topS 11)) := ⟨rfl, rfl, rfl, by decide +kernel, rfl, by decide +kernel, by decide +kernel⟩
theorem d_is_dot (T : Facts mg) (S_is_within : SpV) (C_is_within : Cal P w K mg base "is_within" 3 2 S_is_within) (hk : 2 ≤ k) (hr : RoomG k (A.deeper (envOfC "is_dot" (defScope (topS 11)) s.heap.objs.size f cdv))) : VSs (cxOf CX0 P w K mg base ["thing", "one"] "is_dot" (defScope (topS 11)) f cdv A outer s H E0).nox (defBody (topS 11)) (VM.w_is_dot S_is_within) :=
  have nd : (["thing", "one"] : List Str).Nodup := sc_is_dot.nd
  (vss_cons (vs_if (vt_bool (vw_or (vt_not (vt_val (ve_callB call_isi ser_isi (gl_by (defScope (topS 11))) T.m_isinstance boot_isinstance (va_cons (ve_name (i := 0) rfl (vis_by (sc := (defScope (topS 11))) (by decide +kernel))) (va_cons (ve_gty (gl_by (defScope (topS 11))) T.m_tuple boot_tuple) va_nil))))) (vw_or1 (vt_ne (hu64 hr) (ve_callB call_lenA ser_len (gl_by (defScope (topS 11))) T.m_len boot_len (va_cons (ve_name (i := 0) rfl (vis_by (sc := (defScope (topS 11))) (by decide +kernel))) va_nil)) ve_int)))) (vss_one (vs_ret ve_bl)) vss_nil) (vss_one (vs_ret (ve_callB (cr_all rfl) ser_all (gl_by (defScope (topS 11))) T.m_all boot_all (va_cons (ve_comp (own := [("one", 1)]) rfl nd (vi_seq (ve_name (i := 0) rfl (vis_by (sc := (defScope (topS 11))) (by decide +kernel)))) (blkOk_by (N := ["thing", "one"]) (sc := (defScope (topS 11))) (by decide +kernel)) (fun _ _ _ _ _ => (vg_name (i := 1) nd rfl (by first | exact loc_by (sc := (relS _ (defScope (topS 11)))) (by decide +kernel)) (hf := .inr (lcl_by (sc := (relS _ (defScope (topS 11)))) (by decide +kernel))))) (fun _ _ _ _ _ => vts_nil) (fun _ _ _ _ _ => (ve_call C_is_within (hr.mono (by first | omega | exact Nat.le_refl _)) (gl_by (relS _ (defScope (topS 11)))) (va_cons (ve_name (i := 1) rfl (by first | exact vis_by (sc := (relS _ (defScope (topS 11)))) (by decide +kernel))) (va_cons (ve_neg (ve_gint (gl_by (relS _ (defScope (topS 11)))) T.c_MOST_PLACE)) (va_cons (ve_gint (gl_by (relS _ (defScope (topS 11)))) T.c_MOST_PLACE) va_nil))))) (by decide)) va_nil)))))
theorem sc_common_divisor : FnScope ["one", "other"] ["one", "other"] (defScope (topS 12)) := ⟨rfl, rfl, rfl, by decide +kernel, rfl, by decide +kernel, by decide +kernel⟩
theorem d_common_divisor (T : Facts mg) (hk : 0 ≤ k) (hr : RoomG k (A.deeper (envOfC "common_divisor" (defScope (topS 12)) s.heap.objs.size f cdv))) : VSs (cxOf CX0 P w K mg base ["one", "other"] "common_divisor" (defScope (topS 12)) f cdv A outer s H E0).nox (defBody (topS 12)) (VM.w_common_divisor) :=
  have nd : (["one", "other"] : List Str).Nodup := sc_common_divisor.nd
  (vss_cons (vs_par (i := 0) (j := 1) rfl nd rfl rfl (by decide) (lcl_by (sc := (defScope (topS 12))) (by decide +kernel)) (lcl_by (sc := (defScope (topS 12))) (by decide +kernel)) (va_cons (ve_callB call_abs ser_abs (gl_by (defScope (topS 12))) T.m_abs boot_abs (va_cons (ve_name (i := 0) rfl (vis_by (sc := (defScope (topS 12))) (by decide +kernel))) va_nil)) (va_cons (ve_callB call_abs ser_abs (gl_by (defScope (topS 12))) T.m_abs boot_abs (va_cons (ve_name (i := 1) rfl (vis_by (sc := (defScope (topS 12))) (by decide +kernel))) va_nil)) va_nil)) (by rfl)) (vss_cons (vs_while PassesOwn.never (vt_gt (ve_name (i := 1) rfl (vis_by (sc := (defScope (topS 12))) (by decide +kernel))) ve_int) (vss_one (vs_par (i := 0) (j := 1) rfl nd rfl rfl (by decide) (lcl_by (sc := (defScope (topS 12))) (by decide +kernel)) (lcl_by (sc := (defScope (topS 12))) (by decide +kernel)) (va_cons (ve_name (i := 1) rfl (vis_by (sc := (defScope (topS 12))) (by decide +kernel))) (va_cons (ve_mod (ve_name (i := 0) rfl (vis_by (sc := (defScope (topS 12))) (by decide +kernel))) (ve_name (i := 1) rfl (vis_by (sc := (defScope (topS 12))) (by decide +kernel)))) va_nil)) (by rfl)))) (vss_one (vs_retN (i := 0) rfl (vis_by (sc := (defScope (topS 12))) (by decide +kernel))))))
theorem sc_is_ray : FnScope ["thing"] ["thing"] (defScope (topS 13)) := ⟨rfl, rfl, rfl, by decide +kernel, rfl, by decide +kernel, by decide +kernel⟩
theorem d_is_ray (T : Facts mg) (S_common_divisor : SpV) (S_is_dot : SpV) (C_common_divisor : Cal P w K mg base "common_divisor" 2 1 S_common_divisor) (C_is_dot : Cal P w K mg base "is_dot" 1 3 S_is_dot) (hk : 3 ≤ k) (hr : RoomG k (A.deeper (envOfC "is_ray" (defScope (topS 13)) s.heap.objs.size f cdv))) : VSs (cxOf CX0 P w K mg base ["thing"] "is_ray" (defScope (topS 13)) f cdv A outer s H E0).nox (defBody (topS 13)) (VM.w_is_ray S_common_divisor S_is_dot) :=
  have nd : (["thing"] : List Str).Nodup := sc_is_ray.nd
  (vss_one (vs_ret (ve_and (ve_call C_is_dot (hr.mono (by first | omega | exact Nat.le_refl _)) (gl_by (defScope (topS 13))) (va_cons (ve_name (i := 0) rfl (vis_by (sc := (defScope (topS 13))) (by decide +kernel))) va_nil)) (ve_one (ve_eq (hu64 hr) (ve_call C_common_divisor (hr.mono (by first | omega | exact Nat.le_refl _)) (gl_by (defScope (topS 13))) (va_cons (ve_ix (ve_name (i := 0) rfl (vis_by (sc := (defScope (topS 13))) (by decide +kernel))) ve_int) (va_cons (ve_ix (ve_name (i := 0) rfl (vis_by (sc := (defScope (topS 13))) (by decide +kernel))) ve_int) va_nil))) ve_int)))))
theorem sc_check_ray : FnScope ["thing"] ["thing"] (defScope (topS 14)) := ⟨rfl, rfl, rfl, by decide +kernel, rfl, by decide +kernel, by decide +kernel⟩
theorem d_check_ray (T : Facts mg) (S_is_ray : SpV) (C_is_ray : Cal P w K mg base "is_ray" 1 4 S_is_ray) (hk : 4 ≤ k) (hr : RoomG k (A.deeper (envOfC "check_ray" (defScope (topS 14)) s.heap.objs.size f cdv))) : VSs (cxOf CX0 P w K mg base ["thing"] "check_ray" (defScope (topS 14)) f cdv A outer s H E0).nox (defBody (topS 14)) (VM.w_check_ray S_is_ray) :=
  have nd : (["thing"] : List Str).Nodup := sc_check_ray.nd
  (vss_one (vs_if (vt_not (vt_val (ve_call C_is_ray (hr.mono (by first | omega | exact Nat.le_refl _)) (gl_by (defScope (topS 14))) (va_cons (ve_name (i := 0) rfl (vis_by (sc := (defScope (topS 14))) (by decide +kernel))) va_nil)))) (vss_one vs_never) vss_nil))
theorem sc_raw_turn : FnScope ["one", "other"] ["one", "other"] (defScope (topS 15)) := ⟨rfl, rfl, rfl, by decide +kernel, rfl, by decide +kernel, by decide +kernel⟩
theorem d_raw_turn (T : Facts mg) (hk : 0 ≤ k) (hr : RoomG k (A.deeper (envOfC "raw_turn" (defScope (topS 15)) s.heap.objs.size f cdv))) : VSs (cxOf CX0 P w K mg base ["one", "other"] "raw_turn" (defScope (topS 15)) f cdv A outer s H E0).nox (defBody (topS 15)) (VM.w_raw_turn) :=
  have nd : (["one", "other"] : List Str).Nodup := sc_raw_turn.nd
  (vss_one (vs_ret (ve_sub (ve_mul (ve_ix (ve_name (i := 0) rfl (vis_by (sc := (defScope (topS 15))) (by decide +kernel))) ve_int) (ve_ix (ve_name (i := 1) rfl (vis_by (sc := (defScope (topS 15))) (by decide +kernel))) ve_int)) (ve_mul (ve_ix (ve_name (i := 0) rfl (vis_by (sc := (defScope (topS 15))) (by decide +kernel))) ve_int) (ve_ix (ve_name (i := 1) rfl (vis_by (sc := (defScope (topS 15))) (by decide +kernel))) ve_int)))))
theorem sc_factors : FnScope ["one", "other", "s", "t", "u", "v", "a", "b", "part"] ["one", "other"] (defScope (topS 16)) := ⟨rfl, rfl, rfl, by decide +kernel, rfl, by decide +kernel, by decide +kernel⟩
theorem d_factors (T : Facts mg) (hk : 0 ≤ k) (hr : RoomG k (A.deeper (envOfC "factors" (defScope (topS 16)) s.heap.objs.size f cdv))) : VSs (cxOf CX0 P w K mg base ["one", "other", "s", "t", "u", "v", "a", "b", "part"] "factors" (defScope (topS 16)) f cdv A outer s H E0).nox (defBody (topS 16)) (VM.w_factors) :=
  have nd : (["one", "other", "s", "t", "u", "v", "a", "b", "part"] : List Str).Nodup := sc_factors.nd
  (vss_cons (vs_asg (ve_tup (va_cons ve_int (va_cons ve_int (va_cons ve_int (va_cons ve_int va_nil))))) (vg_tup rfl (vgs_cons (vg_name (i := 2) nd rfl (loc_by (sc := (defScope (topS 16))) (by decide +kernel)) (hf := .inl rfl)) (vgs_cons (vg_name (i := 3) nd rfl (loc_by (sc := (defScope (topS 16))) (by decide +kernel)) (hf := .inl rfl)) (vgs_cons (vg_name (i := 4) nd rfl (loc_by (sc := (defScope (topS 16))) (by decide +kernel)) (hf := .inl rfl)) (vgs_cons (vg_name (i := 5) nd rfl (loc_by (sc := (defScope (topS 16))) (by decide +kernel)) (hf := .inl rfl)) vgs_nil)))))) (vss_cons (vs_par (i := 6) (j := 7) rfl nd rfl rfl (by decide) (lcl_by (sc := (defScope (topS 16))) (by decide +kernel)) (lcl_by (sc := (defScope (topS 16))) (by decide +kernel)) (va_cons (ve_name (i := 0) rfl (vis_by (sc := (defScope (topS 16))) (by decide +kernel))) (va_cons (ve_name (i := 1) rfl (vis_by (sc := (defScope (topS 16))) (by decide +kernel))) va_nil)) (by rfl)) (vss_cons (vs_while PassesOwn.never (vt_ne (hu64 hr) (ve_name (i := 7) rfl (vis_by (sc := (defScope (topS 16))) (by decide +kernel))) ve_int) (vss_cons (vs_set (i := 8) nd rfl (loc_by (sc := (defScope (topS 16))) (by decide +kernel)) (ve_fdiv (ve_name (i := 6) rfl (vis_by (sc := (defScope (topS 16))) (by decide +kernel))) (ve_name (i := 7) rfl (vis_by (sc := (defScope (topS 16))) (by decide +kernel))))) (vss_cons (vs_par (i := 6) (j := 7) rfl nd rfl rfl (by decide) (lcl_by (sc := (defScope (topS 16))) (by decide +kernel)) (lcl_by (sc := (defScope (topS 16))) (by decide +kernel)) (va_cons (ve_name (i := 7) rfl (vis_by (sc := (defScope (topS 16))) (by decide +kernel))) (va_cons (ve_sub (ve_name (i := 6) rfl (vis_by (sc := (defScope (topS 16))) (by decide +kernel))) (ve_mul (ve_name (i := 8) rfl (vis_by (sc := (defScope (topS 16))) (by decide +kernel))) (ve_name (i := 7) rfl (vis_by (sc := (defScope (topS 16))) (by decide +kernel))))) va_nil)) (by rfl)) (vss_one (vs_asg (ve_tup (va_cons (ve_name (i := 4) rfl (vis_by (sc := (defScope (topS 16))) (by decide +kernel))) (va_cons (ve_name (i := 5) rfl (vis_by (sc := (defScope (topS 16))) (by decide +kernel))) (va_cons (ve_sub (ve_name (i := 2) rfl (vis_by (sc := (defScope (topS 16))) (by decide +kernel))) (ve_mul (ve_name (i := 8) rfl (vis_by (sc := (defScope (topS 16))) (by decide +kernel))) (ve_name (i := 4) rfl (vis_by (sc := (defScope (topS 16))) (by decide +kernel))))) (va_cons (ve_sub (ve_name (i := 3) rfl (vis_by (sc := (defScope (topS 16))) (by decide +kernel))) (ve_mul (ve_name (i := 8) rfl (vis_by (sc := (defScope (topS 16))) (by decide +kernel))) (ve_name (i := 5) rfl (vis_by (sc := (defScope (topS 16))) (by decide +kernel))))) va_nil))))) (vg_tup rfl (vgs_cons (vg_name (i := 2) nd rfl (loc_by (sc := (defScope (topS 16))) (by decide +kernel)) (hf := .inl rfl)) (vgs_cons (vg_name (i := 3) nd rfl (loc_by (sc := (defScope (topS 16))) (by decide +kernel)) (hf := .inl rfl)) (vgs_cons (vg_name (i := 4) nd rfl (loc_by (sc := (defScope (topS 16))) (by decide +kernel)) (hf := .inl rfl)) (vgs_cons (vg_name (i := 5) nd rfl (loc_by (sc := (defScope (topS 16))) (by decide +kernel)) (hf := .inl rfl)) vgs_nil)))))))))) (vss_one (vs_ret (ve_ifexp (vt_gt (ve_name (i := 6) rfl (vis_by (sc := (defScope (topS 16))) (by decide +kernel))) ve_int) (ve_tup (va_cons (ve_name (i := 2) rfl (vis_by (sc := (defScope (topS 16))) (by decide +kernel))) (va_cons (ve_name (i := 3) rfl (vis_by (sc := (defScope (topS 16))) (by decide +kernel))) va_nil))) (ve_tup (va_cons (ve_neg (ve_name (i := 2) rfl (vis_by (sc := (defScope (topS 16))) (by decide +kernel)))) (va_cons (ve_neg (ve_name (i := 3) rfl (vis_by (sc := (defScope (topS 16))) (by decide +kernel)))) va_nil)))))))))
theorem sc_any_with_turn : FnScope ["ray", "s", "t"] ["ray"] (defScope (topS 17)) := ⟨rfl, rfl, rfl, by decide +kernel, rfl, by decide +kernel, by decide +kernel⟩
theorem d_any_with_turn (T : Facts mg) (S_factors : SpV) (C_factors : Cal P w K mg base "factors" 2 1 S_factors) (hk : 1 ≤ k) (hr : RoomG k (A.deeper (envOfC "any_with_turn" (defScope (topS 17)) s.heap.objs.size f cdv))) : VSs (cxOf CX0 P w K mg base ["ray", "s", "t"] "any_with_turn" (defScope (topS 17)) f cdv A outer s H E0).nox (defBody (topS 17)) (VM.w_any_with_turn S_factors) :=
  have nd : (["ray", "s", "t"] : List Str).Nodup := sc_any_with_turn.nd
  (vss_cons (vs_asg (ve_call C_factors (hr.mono (by first | omega | exact Nat.le_refl _)) (gl_by (defScope (topS 17))) (va_cons (ve_ix (ve_name (i := 0) rfl (vis_by (sc := (defScope (topS 17))) (by decide +kernel))) ve_int) (va_cons (ve_ix (ve_name (i := 0) rfl (vis_by (sc := (defScope (topS 17))) (by decide +kernel))) ve_int) va_nil))) (vg_tup rfl (vgs_cons (vg_name (i := 1) nd rfl (loc_by (sc := (defScope (topS 17))) (by decide +kernel)) (hf := .inl rfl)) (vgs_cons (vg_name (i := 2) nd rfl (loc_by (sc := (defScope (topS 17))) (by decide +kernel)) (hf := .inl rfl)) vgs_nil)))) (vss_one (vs_ret (ve_tup (va_cons (ve_neg (ve_name (i := 2) rfl (vis_by (sc := (defScope (topS 17))) (by decide +kernel)))) (va_cons (ve_name (i := 1) rfl (vis_by (sc := (defScope (topS 17))) (by decide +kernel))) va_nil))))))
theorem sc_check_corner : FnScope ["one", "other"] ["one", "other"] (defScope (topS 18)) := ⟨rfl, rfl, rfl, by decide +kernel, rfl, by decide +kernel, by decide +kernel⟩
theorem d_check_corner (T : Facts mg) (S_check_ray : SpV) (S_raw_turn : SpV) (C_check_ray : Cal P w K mg base "check_ray" 1 5 S_check_ray) (C_raw_turn : Cal P w K mg base "raw_turn" 2 1 S_raw_turn) (hk : 5 ≤ k) (hr : RoomG k (A.deeper (envOfC "check_corner" (defScope (topS 18)) s.heap.objs.size f cdv))) : VSs (cxOf CX0 P w K mg base ["one", "other"] "check_corner" (defScope (topS 18)) f cdv A outer s H E0).nox (defBody (topS 18)) (VM.w_check_corner S_check_ray S_raw_turn) :=
  have nd : (["one", "other"] : List Str).Nodup := sc_check_corner.nd
  (vss_cons (vs_expr (ve_call C_check_ray (hr.mono (by first | omega | exact Nat.le_refl _)) (gl_by (defScope (topS 18))) (va_cons (ve_name (i := 0) rfl (vis_by (sc := (defScope (topS 18))) (by decide +kernel))) va_nil))) (vss_cons (vs_expr (ve_call C_check_ray (hr.mono (by first | omega | exact Nat.le_refl _)) (gl_by (defScope (topS 18))) (va_cons (ve_name (i := 1) rfl (vis_by (sc := (defScope (topS 18))) (by decide +kernel))) va_nil))) (vss_one (vs_if (vt_le (ve_call C_raw_turn (hr.mono (by first | omega | exact Nat.le_refl _)) (gl_by (defScope (topS 18))) (va_cons (ve_name (i := 0) rfl (vis_by (sc := (defScope (topS 18))) (by decide +kernel))) (va_cons (ve_name (i := 1) rfl (vis_by (sc := (defScope (topS 18))) (by decide +kernel))) va_nil))) ve_int) (vss_one vs_never) vss_nil))))
theorem sc_raw_type : FnScope ["one", "other", "wide", "beside"] ["one", "other"] (defScope (topS 23)) := ⟨rfl, rfl, rfl, by decide +kernel, rfl, by decide +kernel, by decide +kernel⟩
theorem d_raw_type (T : Facts mg) (S_any_with_turn : SpV) (S_raw_turn : SpV) (C_any_with_turn : Cal P w K mg base "any_with_turn" 1 2 S_any_with_turn) (C_raw_turn : Cal P w K mg base "raw_turn" 2 1 S_raw_turn) (hk : 2 ≤ k) (hr : RoomG k (A.deeper (envOfC "raw_type" (defScope (topS 23)) s.heap.objs.size f cdv))) : VSs (cxOf CX0 P w K mg base ["one", "other", "wide", "beside"] "raw_type" (defScope (topS 23)) f cdv A outer s H E0).nox (defBody (topS 23)) (VM.w_raw_type S_any_with_turn S_raw_turn) :=
  have nd : (["one", "other", "wide", "beside"] : List Str).Nodup := sc_raw_type.nd
  (vss_cons (vs_par (i := 2) (j := 3) rfl nd rfl rfl (by decide) (lcl_by (sc := (defScope (topS 23))) (by decide +kernel)) (lcl_by (sc := (defScope (topS 23))) (by decide +kernel)) (va_cons (ve_call C_raw_turn (hr.mono (by first | omega | exact Nat.le_refl _)) (gl_by (defScope (topS 23))) (va_cons (ve_name (i := 0) rfl (vis_by (sc := (defScope (topS 23))) (by decide +kernel))) (va_cons (ve_name (i := 1) rfl (vis_by (sc := (defScope (topS 23))) (by decide +kernel))) va_nil))) (va_cons (ve_call C_any_with_turn (hr.mono (by first | omega | exact Nat.le_refl _)) (gl_by (defScope (topS 23))) (va_cons (ve_name (i := 0) rfl (vis_by (sc := (defScope (topS 23))) (by decide +kernel))) va_nil)) va_nil)) (by rfl)) (vss_one (vs_ret (ve_tup (va_cons (ve_name (i := 2) rfl (vis_by (sc := (defScope (topS 23))) (by decide +kernel))) (va_cons (ve_mod (ve_call C_raw_turn (hr.mono (by first | omega | exact Nat.le_refl _)) (gl_by (defScope (topS 23))) (va_cons (ve_name (i := 1) rfl (vis_by (sc := (defScope (topS 23))) (by decide +kernel))) (va_cons (ve_name (i := 3) rfl (vis_by (sc := (defScope (topS 23))) (by decide +kernel))) va_nil))) (ve_name (i := 2) rfl (vis_by (sc := (defScope (topS 23))) (by decide +kernel)))) va_nil))))))
theorem sc_type_of : FnScope ["one", "other"] ["one", "other"] (defScope (topS 24)) := ⟨rfl, rfl, rfl, by decide +kernel, rfl, by decide +kernel, by decide +kernel⟩
theorem d_type_of (T : Facts mg) (S_check_corner : SpV) (S_raw_type : SpV) (C_check_corner : Cal P w K mg base "check_corner" 2 6 S_check_corner) (C_raw_type : Cal P w K mg base "raw_type" 2 3 S_raw_type) (hk : 6 ≤ k) (hr : RoomG k (A.deeper (envOfC "type_of" (defScope (topS 24)) s.heap.objs.size f cdv))) : VSs (cxOf CX0 P w K mg base ["one", "other"] "type_of" (defScope (topS 24)) f cdv A outer s H E0).nox (defBody (topS 24)) (VM.w_type_of S_check_corner S_raw_type) :=
  have nd : (["one", "other"] : List Str).Nodup := sc_type_of.nd
  (vss_cons (vs_expr (ve_call C_check_corner (hr.mono (by first | omega | exact Nat.le_refl _)) (gl_by (defScope (topS 24))) (va_cons (ve_name (i := 0) rfl (vis_by (sc := (defScope (topS 24))) (by decide +kernel))) (va_cons (ve_name (i := 1) rfl (vis_by (sc := (defScope (topS 24))) (by decide +kernel))) va_nil)))) (vss_one (vs_ret (ve_call C_raw_type (hr.mono (by first | omega | exact Nat.le_refl _)) (gl_by (defScope (topS 24))) (va_cons (ve_name (i := 0) rfl (vis_by (sc := (defScope (topS 24))) (by decide +kernel))) (va_cons (ve_name (i := 1) rfl (vis_by (sc := (defScope (topS 24))) (by decide +kernel))) va_nil))))))
theorem sc_raw_chain : FnScope ["n", "q", "found", "part"] ["n", "q"] (defScope (topS 25)) := ⟨rfl, rfl, rfl, by decide +kernel, rfl, by decide +kernel, by decide +kernel⟩
theorem d_raw_chain (T : Facts mg) (hk : 0 ≤ k) (hr : RoomG k (A.deeper (envOfC "raw_chain" (defScope (topS 25)) s.heap.objs.size f cdv))) : VSs (cxOf CX0 P w K mg base ["n", "q", "found", "part"] "raw_chain" (defScope (topS 25)) f cdv A outer s H E0).nox (defBody (topS 25)) (VM.w_raw_chain) :=
  have nd : (["n", "q", "found", "part"] : List Str).Nodup := sc_raw_chain.nd
  (vss_cons (vs_set (i := 2) nd rfl (loc_by (sc := (defScope (topS 25))) (by decide +kernel)) (ve_lst va_nil)) (vss_cons (vs_while PassesOwn.never (vt_gt (ve_name (i := 1) rfl (vis_by (sc := (defScope (topS 25))) (by decide +kernel))) ve_int) (vss_cons (vs_set (i := 3) nd rfl (loc_by (sc := (defScope (topS 25))) (by decide +kernel)) (ve_fdiv (ve_sub (ve_add (ve_name (i := 0) rfl (vis_by (sc := (defScope (topS 25))) (by decide +kernel))) (ve_name (i := 1) rfl (vis_by (sc := (defScope (topS 25))) (by decide +kernel)))) ve_int) (ve_name (i := 1) rfl (vis_by (sc := (defScope (topS 25))) (by decide +kernel))))) (vss_cons (vs_append (i := 2) rfl (vis_by (sc := (defScope (topS 25))) (by decide +kernel)) (ve_name (i := 3) rfl (vis_by (sc := (defScope (topS 25))) (by decide +kernel))) (pe_bm PySem.F.plainAttrs_list PySem.F.slot_list_append PySem.F.type_list_append mt_append (pe_var (i := 2) rfl (vis_by (sc := (defScope (topS 25))) (by decide +kernel))) (pa_cons (ve_name (i := 3) rfl (vis_by (sc := (defScope (topS 25))) (by decide +kernel))) pa_nil))) (vss_one (vs_par (i := 0) (j := 1) rfl nd rfl rfl (by decide) (lcl_by (sc := (defScope (topS 25))) (by decide +kernel)) (lcl_by (sc := (defScope (topS 25))) (by decide +kernel)) (va_cons (ve_name (i := 1) rfl (vis_by (sc := (defScope (topS 25))) (by decide +kernel))) (va_cons (ve_sub (ve_mul (ve_name (i := 3) rfl (vis_by (sc := (defScope (topS 25))) (by decide +kernel))) (ve_name (i := 1) rfl (vis_by (sc := (defScope (topS 25))) (by decide +kernel)))) (ve_name (i := 0) rfl (vis_by (sc := (defScope (topS 25))) (by decide +kernel)))) va_nil)) (by rfl)))))) (vss_one (vs_retN (i := 2) rfl (vis_by (sc := (defScope (topS 25))) (by decide +kernel))))))
theorem sc_chain : FnScope ["n", "q"] ["n", "q"] (defScope (topS 26)) := ⟨rfl, rfl, rfl, by decide +kernel, rfl, by decide +kernel, by decide +kernel⟩
theorem d_chain (T : Facts mg) (S_common_divisor : SpV) (S_is_within : SpV) (S_raw_chain : SpV) (C_common_divisor : Cal P w K mg base "common_divisor" 2 1 S_common_divisor) (C_is_within : Cal P w K mg base "is_within" 3 2 S_is_within) (C_raw_chain : Cal P w K mg base "raw_chain" 2 1 S_raw_chain) (hk : 2 ≤ k) (hr : RoomG k (A.deeper (envOfC "chain" (defScope (topS 26)) s.heap.objs.size f cdv))) : VSs (cxOf CX0 P w K mg base ["n", "q"] "chain" (defScope (topS 26)) f cdv A outer s H E0).nox (defBody (topS 26)) (VM.w_chain S_common_divisor S_is_within S_raw_chain) :=
  have nd : (["n", "q"] : List Str).Nodup := sc_chain.nd
  (vss_cons (vs_if (vt_bool (vw_or (vt_not (vt_val (ve_call C_is_within (hr.mono (by first | omega | exact Nat.le_refl _)) (gl_by (defScope (topS 26))) (va_cons (ve_name (i := 0) rfl (vis_by (sc := (defScope (topS 26))) (by decide +kernel))) (va_cons ve_int (va_cons (ve_gint (gl_by (defScope (topS 26))) T.c_MOST_CHAINED) va_nil)))))) (vw_or1 (vt_not (vt_val (ve_call C_is_within (hr.mono (by first | omega | exact Nat.le_refl _)) (gl_by (defScope (topS 26))) (va_cons (ve_name (i := 1) rfl (vis_by (sc := (defScope (topS 26))) (by decide +kernel))) (va_cons ve_int (va_cons (ve_sub (ve_name (i := 0) rfl (vis_by (sc := (defScope (topS 26))) (by decide +kernel))) ve_int) va_nil))))))))) (vss_one vs_never) vss_nil) (vss_cons (vs_if (vt_gt (ve_call C_common_divisor (hr.mono (by first | omega | exact Nat.le_refl _)) (gl_by (defScope (topS 26))) (va_cons (ve_name (i := 0) rfl (vis_by (sc := (defScope (topS 26))) (by decide +kernel))) (va_cons (ve_name (i := 1) rfl (vis_by (sc := (defScope (topS 26))) (by decide +kernel))) va_nil))) ve_int) (vss_one vs_never) vss_nil) (vss_one (vs_ret (ve_callTy call_tuple_of ser_tuple (gl_by (defScope (topS 26))) T.m_tuple boot_tuple (va_cons (ve_call C_raw_chain (hr.mono (by first | omega | exact Nat.le_refl _)) (gl_by (defScope (topS 26))) (va_cons (ve_name (i := 0) rfl (vis_by (sc := (defScope (topS 26))) (by decide +kernel))) (va_cons (ve_name (i := 1) rfl (vis_by (sc := (defScope (topS 26))) (by decide +kernel))) va_nil))) va_nil))))))
theorem sc_by_chain : FnScope ["row", "one", "n", "q", "part"] ["row"] (defScope (topS 27)) := ⟨rfl, rfl, rfl, by decide +kernel, rfl, by decide +kernel, by decide +kernel⟩
theorem d_by_chain (T : Facts mg) (S_is_within : SpV) (C_is_within : Cal P w K mg base "is_within" 3 2 S_is_within) (hk : 2 ≤ k) (hr : RoomG k (A.deeper (envOfC "by_chain" (defScope (topS 27)) s.heap.objs.size f cdv))) : VSs (cxOf CX0 P w K mg base ["row", "one", "n", "q", "part"] "by_chain" (defScope (topS 27)) f cdv A outer s H E0).nox (defBody (topS 27)) (VM.w_by_chain S_is_within) :=
  have nd : (["row", "one", "n", "q", "part"] : List Str).Nodup := sc_by_chain.nd
  (vss_cons (vs_if (vt_bool (vw_or (vt_not (vt_val (ve_callB call_isi ser_isi (gl_by (defScope (topS 27))) T.m_isinstance boot_isinstance (va_cons (ve_name (i := 0) rfl (vis_by (sc := (defScope (topS 27))) (by decide +kernel))) (va_cons (ve_gty (gl_by (defScope (topS 27))) T.m_tuple boot_tuple) va_nil))))) (vw_or1 (vt_not (vt_chain op_le op_le ser_cmpI ser_cmpI ve_int (ve_callB call_lenA ser_len (gl_by (defScope (topS 27))) T.m_len boot_len (va_cons (ve_name (i := 0) rfl (vis_by (sc := (defScope (topS 27))) (by decide +kernel))) va_nil)) (ve_gint (gl_by (defScope (topS 27))) T.c_MOST_ROW)))))) (vss_one vs_never) vss_nil) (vss_cons (vs_if (vt_not (vt_val (ve_callB (cr_all rfl) ser_all (gl_by (defScope (topS 27))) T.m_all boot_all (va_cons (ve_comp (own := [("one", 1)]) rfl nd (vi_seq (ve_name (i := 0) rfl (vis_by (sc := (defScope (topS 27))) (by decide +kernel)))) (blkOk_by (N := ["row", "one", "n", "q", "part"]) (sc := (defScope (topS 27))) (by decide +kernel)) (fun _ _ _ _ _ => (vg_name (i := 1) nd rfl (by first | exact loc_by (sc := (relS _ (defScope (topS 27)))) (by decide +kernel)) (hf := .inr (lcl_by (sc := (relS _ (defScope (topS 27)))) (by decide +kernel))))) (fun _ _ _ _ _ => vts_nil) (fun _ _ _ _ _ => (ve_call C_is_within (hr.mono (by first | omega | exact Nat.le_refl _)) (gl_by (relS _ (defScope (topS 27)))) (va_cons (ve_name (i := 1) rfl (by first | exact vis_by (sc := (relS _ (defScope (topS 27)))) (by decide +kernel))) (va_cons ve_int (va_cons (ve_gint (gl_by (relS _ (defScope (topS 27)))) T.c_MOST_PART) va_nil))))) (by decide)) va_nil)))) (vss_one vs_never) vss_nil) (vss_cons (vs_asg (ve_tup (va_cons ve_int (va_cons ve_int va_nil))) (vg_tup rfl (vgs_cons (vg_name (i := 2) nd rfl (loc_by (sc := (defScope (topS 27))) (by decide +kernel)) (hf := .inl rfl)) (vgs_cons (vg_name (i := 3) nd rfl (loc_by (sc := (defScope (topS 27))) (by decide +kernel)) (hf := .inl rfl)) vgs_nil)))) (vss_cons (vs_for PassesOwn.never rfl (vi_seq (ve_back (ve_name (i := 0) rfl (vis_by (sc := (defScope (topS 27))) (by decide +kernel))))) (vg_name (i := 4) nd rfl (loc_by (sc := (defScope (topS 27))) (by decide +kernel)) (hf := .inl rfl)) (vss_one (vs_par (i := 2) (j := 3) rfl nd rfl rfl (by decide) (lcl_by (sc := (defScope (topS 27))) (by decide +kernel)) (lcl_by (sc := (defScope (topS 27))) (by decide +kernel)) (va_cons (ve_sub (ve_mul (ve_name (i := 4) rfl (vis_by (sc := (defScope (topS 27))) (by decide +kernel))) (ve_name (i := 2) rfl (vis_by (sc := (defScope (topS 27))) (by decide +kernel)))) (ve_name (i := 3) rfl (vis_by (sc := (defScope (topS 27))) (by decide +kernel)))) (va_cons (ve_name (i := 2) rfl (vis_by (sc := (defScope (topS 27))) (by decide +kernel))) va_nil)) (by rfl)))) (vss_one (vs_ret (ve_tup (va_cons (ve_name (i := 2) rfl (vis_by (sc := (defScope (topS 27))) (by decide +kernel))) (va_cons (ve_name (i := 3) rfl (vis_by (sc := (defScope (topS 27))) (by decide +kernel))) va_nil)))))))))
theorem sc__law_hand : FnScope ["script", "cells", "cell"] ["script"] (defScope (topS 29)) := ⟨rfl, rfl, rfl, by decide +kernel, rfl, by decide +kernel, by decide +kernel⟩
theorem d__law_hand (T : Facts mg) : PSs (cxOf CX0 P w K mg base ["script", "cells", "cell"] "_law_hand" (defScope (topS 29)) f cdv A outer s H E0).nox (defBody (topS 29)) (t_hand K 1601) :=
  have nd : (["script", "cells", "cell"] : List Str).Nodup := sc__law_hand.nd
  (pss_cons (ps_setLc (i := 1) (own := [("cell", 2)]) (tt := tYes) rfl nd rfl (lcl_by (sc := (defScope (topS 29))) (by decide +kernel)) (sw_true rfl (lcl_by (sc := (defScope (topS 29))) (by decide +kernel)) rfl (by decide +kernel)) (pi_list (pe_slice sl_list (pe_var (i := 0) rfl (vis_by (sc := (defScope (topS 29))) (by decide +kernel))) po_none (po_some pe_int))) (blkOk_by (N := ["script", "cells", "cell"]) (sc := (defScope (topS 29))) (by decide +kernel)) (fun _ _ _ _ _ => (pg_name (i := 2) nd rfl (by first | exact loc_by (sc := (relS _ (defScope (topS 29)))) (by decide +kernel)) (hf := .inr (lcl_by (sc := (relS _ (defScope (topS 29)))) (by decide +kernel))))) (fun _ _ _ _ _ => pts_nil) (fun _ _ _ _ _ => (pe_callB call_abs (gl_by (relS _ (defScope (topS 29)))) T.m_abs boot_abs (pa_cons (pe_callTy call_int1 (gl_by (relS _ (defScope (topS 29)))) T.m_int boot_int (pa_cons (pe_var (i := 2) rfl (by first | exact vis_by (sc := (relS _ (defScope (topS 29)))) (by decide +kernel))) pa_nil)) pa_nil)))) (pss_one (ps_ret (pe_lst (pa_cons (pe_var (i := 1) rfl (vis_by (sc := (defScope (topS 29))) (by decide +kernel))) (pa_cons pe_int (pa_cons pe_int (pa_cons (pe_op op_add pe_int (pe_op op_mul pe_int (pe_callB call_len_seq (gl_by (defScope (topS 29))) T.m_len boot_len (pa_cons (pe_var (i := 1) rfl (vis_by (sc := (defScope (topS 29))) (by decide +kernel))) pa_nil)))) (pa_cons pe_int pa_nil)))))))))
theorem sc__law_draw : FnScope ["hand", "many", "cell", "digit", "number"] ["hand", "many"] (defScope (topS 30)) := ⟨rfl, rfl, rfl, by decide +kernel, rfl, by decide +kernel, by decide +kernel⟩
theorem d__law_draw (T : Facts mg) : PSs (cxOf CX0 P w K mg base ["hand", "many", "cell", "digit", "number"] "_law_draw" (defScope (topS 30)) f cdv A outer s H E0).nox (defBody (topS 30)) (t_draw K) :=
  have nd : (["hand", "many", "cell", "digit", "number"] : List Str).Nodup := sc__law_draw.nd
  (pss_cons (ps_if (PW.pt (pw_and (pt_cmpR op_eq (pe_ix ix_list (pe_var (i := 0) rfl (vis_by (sc := (defScope (topS 30))) (by decide +kernel))) pe_int (fun _ _ => rfl)) pe_int (nomark _)) (pw_and1 (pt_cmpR op_lt (pe_ix ix_list (pe_var (i := 0) rfl (vis_by (sc := (defScope (topS 30))) (by decide +kernel))) pe_int (fun _ _ => rfl)) (pe_callB call_len_seq (gl_by (defScope (topS 30))) T.m_len boot_len (pa_cons (pe_ix ix_list (pe_var (i := 0) rfl (vis_by (sc := (defScope (topS 30))) (by decide +kernel))) pe_int (fun _ _ => rfl)) pa_nil)) (nomark _))))) (pss_cons (ps_set (i := 2) nd rfl (loc_by (sc := (defScope (topS 30))) (by decide +kernel)) (pe_ix ix_list (pe_ix ix_list (pe_var (i := 0) rfl (vis_by (sc := (defScope (topS 30))) (by decide +kernel))) pe_int (fun _ _ => rfl)) (pe_ix ix_list (pe_var (i := 0) rfl (vis_by (sc := (defScope (topS 30))) (by decide +kernel))) pe_int (fun _ _ => rfl)) (fun _ _ => rfl))) (pss_cons (ps_asg (pe_op op_add (pe_ix ix_list (pe_var (i := 0) rfl (vis_by (sc := (defScope (topS 30))) (by decide +kernel))) pe_int (fun _ _ => rfl)) pe_int) (pg_sub (pe_var (i := 0) rfl (vis_by (sc := (defScope (topS 30))) (by decide +kernel))) pe_int set_list)) (pss_cons (ps_asg (pe_op op_mod (pe_callTy call_int1 (gl_by (defScope (topS 30))) T.m_int boot_int (pa_cons (pe_op op_add (pe_op op_add (pe_op op_mul (pe_ix ix_list (pe_var (i := 0) rfl (vis_by (sc := (defScope (topS 30))) (by decide +kernel))) pe_int (fun _ _ => rfl)) pe_int) (pe_op op_mul (pe_var (i := 2) rfl (vis_by (sc := (defScope (topS 30))) (by decide +kernel))) pe_int)) pe_int) pa_nil)) pe_int) (pg_sub (pe_var (i := 0) rfl (vis_by (sc := (defScope (topS 30))) (by decide +kernel))) pe_int set_list)) (pss_one (ps_if (pt_cmpR op_ge (pe_var (i := 2) rfl (vis_by (sc := (defScope (topS 30))) (by decide +kernel))) (pe_op op_pow pe_int pe_int) (nomark _)) (pss_one (ps_asg (pe_var (i := 2) rfl (vis_by (sc := (defScope (topS 30))) (by decide +kernel))) (pg_sub (pe_var (i := 0) rfl (vis_by (sc := (defScope (topS 30))) (by decide +kernel))) pe_int set_list))) pss_nil))))) pss_nil) (pss_cons (ps_if (pt_cmpR op_gt (pe_ix ix_list (pe_var (i := 0) rfl (vis_by (sc := (defScope (topS 30))) (by decide +kernel))) pe_int (fun _ _ => rfl)) pe_int (nomark _)) (pss_cons (ps_set (i := 3) nd rfl (loc_by (sc := (defScope (topS 30))) (by decide +kernel)) (pe_op op_mod (pe_callTy call_int1 (gl_by (defScope (topS 30))) T.m_int boot_int (pa_cons (pe_ix ix_list (pe_var (i := 0) rfl (vis_by (sc := (defScope (topS 30))) (by decide +kernel))) pe_int (fun _ _ => rfl)) pa_nil)) (pe_var (i := 1) rfl (vis_by (sc := (defScope (topS 30))) (by decide +kernel))))) (pss_cons (ps_asg (pe_op op_fdiv (pe_ix ix_list (pe_var (i := 0) rfl (vis_by (sc := (defScope (topS 30))) (by decide +kernel))) pe_int (fun _ _ => rfl)) (pe_var (i := 1) rfl (vis_by (sc := (defScope (topS 30))) (by decide +kernel)))) (pg_sub (pe_var (i := 0) rfl (vis_by (sc := (defScope (topS 30))) (by decide +kernel))) pe_int set_list)) (pss_one (ps_ret (pe_var (i := 3) rfl (vis_by (sc := (defScope (topS 30))) (by decide +kernel))))))) pss_nil) (pss_cons (ps_asg (pe_op op_add (pe_ix ix_list (pe_var (i := 0) rfl (vis_by (sc := (defScope (topS 30))) (by decide +kernel))) pe_int (fun _ _ => rfl)) pe_int) (pg_sub (pe_var (i := 0) rfl (vis_by (sc := (defScope (topS 30))) (by decide +kernel))) pe_int set_list)) (pss_cons (ps_set (i := 4) nd rfl (loc_by (sc := (defScope (topS 30))) (by decide +kernel)) (pe_op op_mod (pe_callTy call_int1 (gl_by (defScope (topS 30))) T.m_int boot_int (pa_cons (pe_op op_mul (pe_callTy call_int1 (gl_by (defScope (topS 30))) T.m_int boot_int (pa_cons (pe_op op_add (pe_ix ix_list (pe_var (i := 0) rfl (vis_by (sc := (defScope (topS 30))) (by decide +kernel))) pe_int (fun _ _ => rfl)) (pe_op op_mul pe_int (pe_ix ix_list (pe_var (i := 0) rfl (vis_by (sc := (defScope (topS 30))) (by decide +kernel))) pe_int (fun _ _ => rfl)))) pa_nil)) pe_int) pa_nil)) pe_int)) (pss_cons (ps_set (i := 4) nd rfl (loc_by (sc := (defScope (topS 30))) (by decide +kernel)) (pe_op op_mod (pe_callTy call_int1 (gl_by (defScope (topS 30))) T.m_int boot_int (pa_cons (pe_op op_mul (pe_var (i := 4) rfl (vis_by (sc := (defScope (topS 30))) (by decide +kernel))) (pe_op op_add (pe_op op_fdiv (pe_var (i := 4) rfl (vis_by (sc := (defScope (topS 30))) (by decide +kernel))) pe_int) pe_int)) pa_nil)) pe_int)) (pss_cons (ps_set (i := 4) nd rfl (loc_by (sc := (defScope (topS 30))) (by decide +kernel)) (pe_op op_mod (pe_callTy call_int1 (gl_by (defScope (topS 30))) T.m_int boot_int (pa_cons (pe_op op_mul (pe_var (i := 4) rfl (vis_by (sc := (defScope (topS 30))) (by decide +kernel))) (pe_op op_add (pe_op op_fdiv (pe_var (i := 4) rfl (vis_by (sc := (defScope (topS 30))) (by decide +kernel))) pe_int) pe_int)) pa_nil)) pe_int)) (pss_one (ps_ret (pe_op op_mod (pe_callTy call_int1 (gl_by (defScope (topS 30))) T.m_int boot_int (pa_cons (pe_op op_fdiv (pe_var (i := 4) rfl (vis_by (sc := (defScope (topS 30))) (by decide +kernel))) pe_int) pa_nil)) (pe_var (i := 1) rfl (vis_by (sc := (defScope (topS 30))) (by decide +kernel))))))))))))
theorem sc__law_any : FnScope ["hand", "some"] ["hand", "some"] (defScope (topS 31)) := ⟨rfl, rfl, rfl, by decide +kernel, rfl, by decide +kernel, by decide +kernel⟩
theorem d__law_any (T : Facts mg) (S__law_draw : SpV) (C__law_draw : Cal P w K mg base "_law_draw" 2 1 S__law_draw) (hk : 1 ≤ k) (hr : RoomG k (A.deeper (envOfC "_law_any" (defScope (topS 31)) s.heap.objs.size f cdv))) : VSs (cxOf CX0 P w K mg base ["hand", "some"] "_law_any" (defScope (topS 31)) f cdv A outer s H E0).nox (defBody (topS 31)) (VM.w__law_any S__law_draw) :=
  have nd : (["hand", "some"] : List Str).Nodup := sc__law_any.nd
  (vss_one (vs_ret (ve_ix (ve_name (i := 1) rfl (vis_by (sc := (defScope (topS 31))) (by decide +kernel))) (ve_call C__law_draw (hr.mono (by first | omega | exact Nat.le_refl _)) (gl_by (defScope (topS 31))) (va_cons (ve_name (i := 0) rfl (vis_by (sc := (defScope (topS 31))) (by decide +kernel))) (va_cons (ve_callB call_lenA ser_len (gl_by (defScope (topS 31))) T.m_len boot_len (va_cons (ve_name (i := 1) rfl (vis_by (sc := (defScope (topS 31))) (by decide +kernel))) va_nil)) va_nil))))))
theorem sc__law_same : FnScope ["one", "due", "a", "b"] ["one", "due"] (defScope (topS 32)) := ⟨rfl, rfl, rfl, by decide +kernel, rfl, by decide +kernel, by decide +kernel⟩
theorem d__law_same (T : Facts mg) (S__law_same : SpV) (C__law_same : Cal P w K mg base "_law_same" 2 k S__law_same) (hk : 0 ≤ k) (hr : RoomG k (A.deeper (envOfC "_law_same" (defScope (topS 32)) s.heap.objs.size f cdv))) : VSs (cxOf CX0 P w K mg base ["one", "due", "a", "b"] "_law_same" (defScope (topS 32)) f cdv A outer s H E0).nox (defBody (topS 32)) (VM.w__law_same S__law_same) :=
  have nd : (["one", "due", "a", "b"] : List Str).Nodup := sc__law_same.nd
  (vss_cons (vs_if (vt_bool (vw_or (vt_val (ve_callB call_isi ser_isi (gl_by (defScope (topS 32))) T.m_isinstance boot_isinstance (va_cons (ve_name (i := 1) rfl (vis_by (sc := (defScope (topS 32))) (by decide +kernel))) (va_cons (ve_gty (gl_by (defScope (topS 32))) T.m_tuple boot_tuple) va_nil)))) (vw_or1 (vt_val (ve_callB call_isi ser_isi (gl_by (defScope (topS 32))) T.m_isinstance boot_isinstance (va_cons (ve_name (i := 1) rfl (vis_by (sc := (defScope (topS 32))) (by decide +kernel))) (va_cons (ve_gty (gl_by (defScope (topS 32))) T.m_list boot_list) va_nil))))))) (vss_cons (vs_if (vt_bool (vw_or (vt_ne (hu64 hr) (ve_callB call_isi ser_isi (gl_by (defScope (topS 32))) T.m_isinstance boot_isinstance (va_cons (ve_name (i := 0) rfl (vis_by (sc := (defScope (topS 32))) (by decide +kernel))) (va_cons (ve_gty (gl_by (defScope (topS 32))) T.m_tuple boot_tuple) va_nil))) (ve_callB call_isi ser_isi (gl_by (defScope (topS 32))) T.m_isinstance boot_isinstance (va_cons (ve_name (i := 1) rfl (vis_by (sc := (defScope (topS 32))) (by decide +kernel))) (va_cons (ve_gty (gl_by (defScope (topS 32))) T.m_tuple boot_tuple) va_nil)))) (vw_or1 (vt_ne (hu64 hr) (ve_callB call_isi ser_isi (gl_by (defScope (topS 32))) T.m_isinstance boot_isinstance (va_cons (ve_name (i := 0) rfl (vis_by (sc := (defScope (topS 32))) (by decide +kernel))) (va_cons (ve_gty (gl_by (defScope (topS 32))) T.m_list boot_list) va_nil))) (ve_callB call_isi ser_isi (gl_by (defScope (topS 32))) T.m_isinstance boot_isinstance (va_cons (ve_name (i := 1) rfl (vis_by (sc := (defScope (topS 32))) (by decide +kernel))) (va_cons (ve_gty (gl_by (defScope (topS 32))) T.m_list boot_list) va_nil))))))) (vss_one (vs_ret ve_bl)) vss_nil) (vss_one (vs_ret (ve_and (ve_eq (hu64 hr) (ve_callB call_lenA ser_len (gl_by (defScope (topS 32))) T.m_len boot_len (va_cons (ve_name (i := 0) rfl (vis_by (sc := (defScope (topS 32))) (by decide +kernel))) va_nil)) (ve_callB call_lenA ser_len (gl_by (defScope (topS 32))) T.m_len boot_len (va_cons (ve_name (i := 1) rfl (vis_by (sc := (defScope (topS 32))) (by decide +kernel))) va_nil))) (ve_one (ve_callB (cr_all rfl) ser_all (gl_by (defScope (topS 32))) T.m_all boot_all (va_cons (ve_comp (own := [("a", 2), ("b", 3)]) rfl nd (vi_zip (gl_by (defScope (topS 32))) T.m_zip (va_cons (ve_name (i := 0) rfl (vis_by (sc := (defScope (topS 32))) (by decide +kernel))) (va_cons (ve_name (i := 1) rfl (vis_by (sc := (defScope (topS 32))) (by decide +kernel))) va_nil)) (RZ.pi_zipA (gl_by (defScope (topS 32))) T.m_zip (va_cons (ve_name (i := 0) rfl (vis_by (sc := (defScope (topS 32))) (by decide +kernel))) (va_cons (ve_name (i := 1) rfl (vis_by (sc := (defScope (topS 32))) (by decide +kernel))) va_nil)))) (blkOk_by (N := ["one", "due", "a", "b"]) (sc := (defScope (topS 32))) (by decide +kernel)) (fun _ _ _ _ _ => (vg_tup rfl (vgs_cons (vg_name (i := 2) nd rfl (by first | exact loc_by (sc := (relS _ (defScope (topS 32)))) (by decide +kernel)) (hf := .inr (lcl_by (sc := (relS _ (defScope (topS 32)))) (by decide +kernel)))) (vgs_cons (vg_name (i := 3) nd rfl (by first | exact loc_by (sc := (relS _ (defScope (topS 32)))) (by decide +kernel)) (hf := .inr (lcl_by (sc := (relS _ (defScope (topS 32)))) (by decide +kernel)))) vgs_nil)))) (fun _ _ _ _ _ => vts_nil) (fun _ _ _ _ _ => (ve_call C__law_same (hr.mono (by first | omega | exact Nat.le_refl _)) (gl_by (relS _ (defScope (topS 32)))) (va_cons (ve_name (i := 2) rfl (by first | exact vis_by (sc := (relS _ (defScope (topS 32)))) (by decide +kernel))) (va_cons (ve_name (i := 3) rfl (by first | exact vis_by (sc := (relS _ (defScope (topS 32)))) (by decide +kernel))) va_nil)))) (by decide)) va_nil))))))) vss_nil) (vss_cons (vs_if (vt_bool (vw_or (vt_ne (hu64 hr) (ve_callB call_isi ser_isi (gl_by (defScope (topS 32))) T.m_isinstance boot_isinstance (va_cons (ve_name (i := 0) rfl (vis_by (sc := (defScope (topS 32))) (by decide +kernel))) (va_cons (ve_gty (gl_by (defScope (topS 32))) T.m_bool boot_bool) va_nil))) (ve_callB call_isi ser_isi (gl_by (defScope (topS 32))) T.m_isinstance boot_isinstance (va_cons (ve_name (i := 1) rfl (vis_by (sc := (defScope (topS 32))) (by decide +kernel))) (va_cons (ve_gty (gl_by (defScope (topS 32))) T.m_bool boot_bool) va_nil)))) (vw_or1 (vt_ne (hu64 hr) (ve_is (ve_name (i := 0) rfl (vis_by (sc := (defScope (topS 32))) (by decide +kernel))) ve_non) (ve_is (ve_name (i := 1) rfl (vis_by (sc := (defScope (topS 32))) (by decide +kernel))) ve_non))))) (vss_one (vs_ret ve_bl)) vss_nil) (vss_one (vs_ret (ve_and (ve_eq (hu64 hr) (ve_callB call_isi ser_isi (gl_by (defScope (topS 32))) T.m_isinstance boot_isinstance (va_cons (ve_name (i := 0) rfl (vis_by (sc := (defScope (topS 32))) (by decide +kernel))) (va_cons (ve_gty (gl_by (defScope (topS 32))) T.m_int boot_int) va_nil))) (ve_callB call_isi ser_isi (gl_by (defScope (topS 32))) T.m_isinstance boot_isinstance (va_cons (ve_name (i := 1) rfl (vis_by (sc := (defScope (topS 32))) (by decide +kernel))) (va_cons (ve_gty (gl_by (defScope (topS 32))) T.m_int boot_int) va_nil)))) (ve_one (ve_eq (hu64 hr) (ve_name (i := 0) rfl (vis_by (sc := (defScope (topS 32))) (by decide +kernel))) (ve_name (i := 1) rfl (vis_by (sc := (defScope (topS 32))) (by decide +kernel))))))))))
theorem sc__law_common : FnScope ["one", "other"] ["one", "other"] (defScope (topS 33)) := ⟨rfl, rfl, rfl, by decide +kernel, rfl, by decide +kernel, by decide +kernel⟩
theorem d__law_common (T : Facts mg) (hk : 0 ≤ k) (hr : RoomG k (A.deeper (envOfC "_law_common" (defScope (topS 33)) s.heap.objs.size f cdv))) : VSs (cxOf CX0 P w K mg base ["one", "other"] "_law_common" (defScope (topS 33)) f cdv A outer s H E0).nox (defBody (topS 33)) (VM.w__law_common) :=
  have nd : (["one", "other"] : List Str).Nodup := sc__law_common.nd
  (vss_cons (vs_par (i := 0) (j := 1) rfl nd rfl rfl (by decide) (lcl_by (sc := (defScope (topS 33))) (by decide +kernel)) (lcl_by (sc := (defScope (topS 33))) (by decide +kernel)) (va_cons (ve_callB call_abs ser_abs (gl_by (defScope (topS 33))) T.m_abs boot_abs (va_cons (ve_name (i := 0) rfl (vis_by (sc := (defScope (topS 33))) (by decide +kernel))) va_nil)) (va_cons (ve_callB call_abs ser_abs (gl_by (defScope (topS 33))) T.m_abs boot_abs (va_cons (ve_name (i := 1) rfl (vis_by (sc := (defScope (topS 33))) (by decide +kernel))) va_nil)) va_nil)) (by rfl)) (vss_cons (vs_while PassesOwn.never (vt_gt (ve_name (i := 1) rfl (vis_by (sc := (defScope (topS 33))) (by decide +kernel))) ve_int) (vss_one (vs_par (i := 0) (j := 1) rfl nd rfl rfl (by decide) (lcl_by (sc := (defScope (topS 33))) (by decide +kernel)) (lcl_by (sc := (defScope (topS 33))) (by decide +kernel)) (va_cons (ve_name (i := 1) rfl (vis_by (sc := (defScope (topS 33))) (by decide +kernel))) (va_cons (ve_mod (ve_callTy call_int1 ser_intC (gl_by (defScope (topS 33))) T.m_int boot_int (va_cons (ve_name (i := 0) rfl (vis_by (sc := (defScope (topS 33))) (by decide +kernel))) va_nil)) (ve_name (i := 1) rfl (vis_by (sc := (defScope (topS 33))) (by decide +kernel)))) va_nil)) (by rfl)))) (vss_one (vs_retN (i := 0) rfl (vis_by (sc := (defScope (topS 33))) (by decide +kernel))))))
theorem sc__law_turn : FnScope ["one", "other"] ["one", "other"] (defScope (topS 34)) := ⟨rfl, rfl, rfl, by decide +kernel, rfl, by decide +kernel, by decide +kernel⟩
theorem d__law_turn (T : Facts mg) (hk : 0 ≤ k) (hr : RoomG k (A.deeper (envOfC "_law_turn" (defScope (topS 34)) s.heap.objs.size f cdv))) : VSs (cxOf CX0 P w K mg base ["one", "other"] "_law_turn" (defScope (topS 34)) f cdv A outer s H E0).nox (defBody (topS 34)) (VM.w__law_turn) :=
  have nd : (["one", "other"] : List Str).Nodup := sc__law_turn.nd
  (vss_one (vs_ret (ve_sub (ve_mul (ve_ix (ve_name (i := 0) rfl (vis_by (sc := (defScope (topS 34))) (by decide +kernel))) ve_int) (ve_ix (ve_name (i := 1) rfl (vis_by (sc := (defScope (topS 34))) (by decide +kernel))) ve_int)) (ve_mul (ve_ix (ve_name (i := 0) rfl (vis_by (sc := (defScope (topS 34))) (by decide +kernel))) ve_int) (ve_ix (ve_name (i := 1) rfl (vis_by (sc := (defScope (topS 34))) (by decide +kernel))) ve_int)))))
theorem sc__law_ray : FnScope ["hand", "most", "x", "y", "by"] ["hand", "most"] (defScope (topS 35)) := ⟨rfl, rfl, rfl, by decide +kernel, rfl, by decide +kernel, by decide +kernel⟩
theorem d__law_ray (T : Facts mg) (S__law_common : SpV) (S__law_draw : SpV) (C__law_common : Cal P w K mg base "_law_common" 2 1 S__law_common) (C__law_draw : Cal P w K mg base "_law_draw" 2 1 S__law_draw) (hk : 1 ≤ k) (hr : RoomG k (A.deeper (envOfC "_law_ray" (defScope (topS 35)) s.heap.objs.size f cdv))) : VSs (cxOf CX0 P w K mg base ["hand", "most", "x", "y", "by"] "_law_ray" (defScope (topS 35)) f cdv A outer s H E0).nox (defBody (topS 35)) (VM.w__law_ray S__law_common S__law_draw) :=
  have nd : (["hand", "most", "x", "y", "by"] : List Str).Nodup := sc__law_ray.nd
  (vss_cons (vs_par (i := 2) (j := 3) rfl nd rfl rfl (by decide) (lcl_by (sc := (defScope (topS 35))) (by decide +kernel)) (lcl_by (sc := (defScope (topS 35))) (by decide +kernel)) (va_cons (ve_sub (ve_call C__law_draw (hr.mono (by first | omega | exact Nat.le_refl _)) (gl_by (defScope (topS 35))) (va_cons (ve_name (i := 0) rfl (vis_by (sc := (defScope (topS 35))) (by decide +kernel))) (va_cons (ve_add (ve_mul ve_int (ve_name (i := 1) rfl (vis_by (sc := (defScope (topS 35))) (by decide +kernel)))) ve_int) va_nil))) (ve_name (i := 1) rfl (vis_by (sc := (defScope (topS 35))) (by decide +kernel)))) (va_cons (ve_sub (ve_call C__law_draw (hr.mono (by first | omega | exact Nat.le_refl _)) (gl_by (defScope (topS 35))) (va_cons (ve_name (i := 0) rfl (vis_by (sc := (defScope (topS 35))) (by decide +kernel))) (va_cons (ve_add (ve_mul ve_int (ve_name (i := 1) rfl (vis_by (sc := (defScope (topS 35))) (by decide +kernel)))) ve_int) va_nil))) (ve_name (i := 1) rfl (vis_by (sc := (defScope (topS 35))) (by decide +kernel)))) va_nil)) (by rfl)) (vss_cons (vs_set (i := 4) nd rfl (loc_by (sc := (defScope (topS 35))) (by decide +kernel)) (ve_call C__law_common (hr.mono (by first | omega | exact Nat.le_refl _)) (gl_by (defScope (topS 35))) (va_cons (ve_name (i := 2) rfl (vis_by (sc := (defScope (topS 35))) (by decide +kernel))) (va_cons (ve_name (i := 3) rfl (vis_by (sc := (defScope (topS 35))) (by decide +kernel))) va_nil)))) (vss_one (vs_ret (ve_ifexp (vt_gt (ve_name (i := 4) rfl (vis_by (sc := (defScope (topS 35))) (by decide +kernel))) ve_int) (ve_tup (va_cons (ve_fdiv (ve_name (i := 2) rfl (vis_by (sc := (defScope (topS 35))) (by decide +kernel))) (ve_name (i := 4) rfl (vis_by (sc := (defScope (topS 35))) (by decide +kernel)))) (va_cons (ve_fdiv (ve_name (i := 3) rfl (vis_by (sc := (defScope (topS 35))) (by decide +kernel))) (ve_name (i := 4) rfl (vis_by (sc := (defScope (topS 35))) (by decide +kernel)))) va_nil))) (ve_tup (va_cons ve_int (va_cons ve_int va_nil))))))))
theorem sc__law_table : FnScope ["hand", "a", "b", "c", "d", "lap", "by"] ["hand"] (defScope (topS 36)) := ⟨rfl, rfl, rfl, by decide +kernel, rfl, by decide +kernel, by decide +kernel⟩
theorem d__law_table (T : Facts mg) (S__law_any : SpV) (S__law_draw : SpV) (C__law_any : Cal P w K mg base "_law_any" 2 2 S__law_any) (C__law_draw : Cal P w K mg base "_law_draw" 2 1 S__law_draw) (hk : 2 ≤ k) (hr : RoomG k (A.deeper (envOfC "_law_table" (defScope (topS 36)) s.heap.objs.size f cdv))) : VSs (cxOf CX0 P w K mg base ["hand", "a", "b", "c", "d", "lap", "by"] "_law_table" (defScope (topS 36)) f cdv A outer s H E0).nox (defBody (topS 36)) (VM.w__law_table S__law_any S__law_draw) :=
  have nd : (["hand", "a", "b", "c", "d", "lap", "by"] : List Str).Nodup := sc__law_table.nd
  (vss_cons (vs_asg (ve_call C__law_any (hr.mono (by first | omega | exact Nat.le_refl _)) (gl_by (defScope (topS 36))) (va_cons (ve_name (i := 0) rfl (vis_by (sc := (defScope (topS 36))) (by decide +kernel))) (va_cons (ve_lst (va_cons (ve_tup (va_cons ve_int (va_cons ve_int (va_cons ve_int (va_cons ve_int va_nil))))) (va_cons (ve_tup (va_cons ve_int (va_cons ve_int (va_cons ve_int (va_cons ve_int va_nil))))) (va_cons (ve_tup (va_cons ve_int (va_cons (ve_neg ve_int) (va_cons ve_int (va_cons ve_int va_nil))))) (va_cons (ve_tup (va_cons ve_int (va_cons ve_int (va_cons ve_int (va_cons (ve_neg ve_int) va_nil))))) (va_cons (ve_tup (va_cons (ve_neg ve_int) (va_cons ve_int (va_cons ve_int (va_cons (ve_neg ve_int) va_nil))))) va_nil)))))) va_nil))) (vg_tup rfl (vgs_cons (vg_name (i := 1) nd rfl (loc_by (sc := (defScope (topS 36))) (by decide +kernel)) (hf := .inl rfl)) (vgs_cons (vg_name (i := 2) nd rfl (loc_by (sc := (defScope (topS 36))) (by decide +kernel)) (hf := .inl rfl)) (vgs_cons (vg_name (i := 3) nd rfl (loc_by (sc := (defScope (topS 36))) (by decide +kernel)) (hf := .inl rfl)) (vgs_cons (vg_name (i := 4) nd rfl (loc_by (sc := (defScope (topS 36))) (by decide +kernel)) (hf := .inl rfl)) vgs_nil)))))) (vss_cons (vs_for PassesOwn.never rfl (vi_rng1 (gl_by (defScope (topS 36))) T.m_range (va_cons (ve_call C__law_draw (hr.mono (by first | omega | exact Nat.le_refl _)) (gl_by (defScope (topS 36))) (va_cons (ve_name (i := 0) rfl (vis_by (sc := (defScope (topS 36))) (by decide +kernel))) (va_cons ve_int va_nil))) va_nil)) (vg_name (i := 5) nd rfl (loc_by (sc := (defScope (topS 36))) (by decide +kernel)) (hf := .inl rfl)) (vss_cons (vs_set (i := 6) nd rfl (loc_by (sc := (defScope (topS 36))) (by decide +kernel)) (ve_sub (ve_call C__law_draw (hr.mono (by first | omega | exact Nat.le_refl _)) (gl_by (defScope (topS 36))) (va_cons (ve_name (i := 0) rfl (vis_by (sc := (defScope (topS 36))) (by decide +kernel))) (va_cons ve_int va_nil))) ve_int)) (vss_one (vs_asg (ve_ifexp (vt_eq (hu64 hr) (ve_call C__law_draw (hr.mono (by first | omega | exact Nat.le_refl _)) (gl_by (defScope (topS 36))) (va_cons (ve_name (i := 0) rfl (vis_by (sc := (defScope (topS 36))) (by decide +kernel))) (va_cons ve_int va_nil))) ve_int) (ve_tup (va_cons (ve_add (ve_name (i := 1) rfl (vis_by (sc := (defScope (topS 36))) (by decide +kernel))) (ve_mul (ve_name (i := 6) rfl (vis_by (sc := (defScope (topS 36))) (by decide +kernel))) (ve_name (i := 3) rfl (vis_by (sc := (defScope (topS 36))) (by decide +kernel))))) (va_cons (ve_add (ve_name (i := 2) rfl (vis_by (sc := (defScope (topS 36))) (by decide +kernel))) (ve_mul (ve_name (i := 6) rfl (vis_by (sc := (defScope (topS 36))) (by decide +kernel))) (ve_name (i := 4) rfl (vis_by (sc := (defScope (topS 36))) (by decide +kernel))))) (va_cons (ve_name (i := 3) rfl (vis_by (sc := (defScope (topS 36))) (by decide +kernel))) (va_cons (ve_name (i := 4) rfl (vis_by (sc := (defScope (topS 36))) (by decide +kernel))) va_nil))))) (ve_tup (va_cons (ve_name (i := 1) rfl (vis_by (sc := (defScope (topS 36))) (by decide +kernel))) (va_cons (ve_name (i := 2) rfl (vis_by (sc := (defScope (topS 36))) (by decide +kernel))) (va_cons (ve_add (ve_name (i := 3) rfl (vis_by (sc := (defScope (topS 36))) (by decide +kernel))) (ve_mul (ve_name (i := 6) rfl (vis_by (sc := (defScope (topS 36))) (by decide +kernel))) (ve_name (i := 1) rfl (vis_by (sc := (defScope (topS 36))) (by decide +kernel))))) (va_cons (ve_add (ve_name (i := 4) rfl (vis_by (sc := (defScope (topS 36))) (by decide +kernel))) (ve_mul (ve_name (i := 6) rfl (vis_by (sc := (defScope (topS 36))) (by decide +kernel))) (ve_name (i := 2) rfl (vis_by (sc := (defScope (topS 36))) (by decide +kernel))))) va_nil)))))) (vg_tup rfl (vgs_cons (vg_name (i := 1) nd rfl (loc_by (sc := (defScope (topS 36))) (by decide +kernel)) (hf := .inl rfl)) (vgs_cons (vg_name (i := 2) nd rfl (loc_by (sc := (defScope (topS 36))) (by decide +kernel)) (hf := .inl rfl)) (vgs_cons (vg_name (i := 3) nd rfl (loc_by (sc := (defScope (topS 36))) (by decide +kernel)) (hf := .inl rfl)) (vgs_cons (vg_name (i := 4) nd rfl (loc_by (sc := (defScope (topS 36))) (by decide +kernel)) (hf := .inl rfl)) vgs_nil))))))))) (vss_one (vs_ret (ve_tup (va_cons (ve_name (i := 1) rfl (vis_by (sc := (defScope (topS 36))) (by decide +kernel))) (va_cons (ve_name (i := 2) rfl (vis_by (sc := (defScope (topS 36))) (by decide +kernel))) (va_cons (ve_name (i := 3) rfl (vis_by (sc := (defScope (topS 36))) (by decide +kernel))) (va_cons (ve_name (i := 4) rfl (vis_by (sc := (defScope (topS 36))) (by decide +kernel))) va_nil)))))))))
theorem sc__law_led : FnScope ["table", "ray"] ["table", "ray"] (defScope (topS 37)) := ⟨rfl, rfl, rfl, by decide +kernel, rfl, by decide +kernel, by decide +kernel⟩
theorem d__law_led (T : Facts mg) (hk : 0 ≤ k) (hr : RoomG k (A.deeper (envOfC "_law_led" (defScope (topS 37)) s.heap.objs.size f cdv))) : VSs (cxOf CX0 P w K mg base ["table", "ray"] "_law_led" (defScope (topS 37)) f cdv A outer s H E0).nox (defBody (topS 37)) (VM.w__law_led) :=
  have nd : (["table", "ray"] : List Str).Nodup := sc__law_led.nd
  (vss_one (vs_ret (ve_tup (va_cons (ve_add (ve_mul (ve_ix (ve_name (i := 0) rfl (vis_by (sc := (defScope (topS 37))) (by decide +kernel))) ve_int) (ve_ix (ve_name (i := 1) rfl (vis_by (sc := (defScope (topS 37))) (by decide +kernel))) ve_int)) (ve_mul (ve_ix (ve_name (i := 0) rfl (vis_by (sc := (defScope (topS 37))) (by decide +kernel))) ve_int) (ve_ix (ve_name (i := 1) rfl (vis_by (sc := (defScope (topS 37))) (by decide +kernel))) ve_int))) (va_cons (ve_add (ve_mul (ve_ix (ve_name (i := 0) rfl (vis_by (sc := (defScope (topS 37))) (by decide +kernel))) ve_int) (ve_ix (ve_name (i := 1) rfl (vis_by (sc := (defScope (topS 37))) (by decide +kernel))) ve_int)) (ve_mul (ve_ix (ve_name (i := 0) rfl (vis_by (sc := (defScope (topS 37))) (by decide +kernel))) ve_int) (ve_ix (ve_name (i := 1) rfl (vis_by (sc := (defScope (topS 37))) (by decide +kernel))) ve_int))) va_nil)))))
theorem sc__law_corner : FnScope ["hand", "most", "one", "other", "turn_here"] ["hand", "most"] (defScope (topS 38)) := ⟨rfl, rfl, rfl, by decide +kernel, rfl, by decide +kernel, by decide +kernel⟩
theorem d__law_corner (T : Facts mg) (S__law_ray : SpV) (S__law_turn : SpV) (C__law_ray : Cal P w K mg base "_law_ray" 2 2 S__law_ray) (C__law_turn : Cal P w K mg base "_law_turn" 2 1 S__law_turn) (hk : 2 ≤ k) (hr : RoomG k (A.deeper (envOfC "_law_corner" (defScope (topS 38)) s.heap.objs.size f cdv))) : VSs (cxOf CX0 P w K mg base ["hand", "most", "one", "other", "turn_here"] "_law_corner" (defScope (topS 38)) f cdv A outer s H E0).nox (defBody (topS 38)) (VM.w__law_corner S__law_ray S__law_turn) :=
  have nd : (["hand", "most", "one", "other", "turn_here"] : List Str).Nodup := sc__law_corner.nd
  (vss_cons (vs_par (i := 2) (j := 3) rfl nd rfl rfl (by decide) (lcl_by (sc := (defScope (topS 38))) (by decide +kernel)) (lcl_by (sc := (defScope (topS 38))) (by decide +kernel)) (va_cons (ve_call C__law_ray (hr.mono (by first | omega | exact Nat.le_refl _)) (gl_by (defScope (topS 38))) (va_cons (ve_name (i := 0) rfl (vis_by (sc := (defScope (topS 38))) (by decide +kernel))) (va_cons (ve_name (i := 1) rfl (vis_by (sc := (defScope (topS 38))) (by decide +kernel))) va_nil))) (va_cons (ve_call C__law_ray (hr.mono (by first | omega | exact Nat.le_refl _)) (gl_by (defScope (topS 38))) (va_cons (ve_name (i := 0) rfl (vis_by (sc := (defScope (topS 38))) (by decide +kernel))) (va_cons (ve_name (i := 1) rfl (vis_by (sc := (defScope (topS 38))) (by decide +kernel))) va_nil))) va_nil)) (by rfl)) (vss_cons (vs_set (i := 4) nd rfl (loc_by (sc := (defScope (topS 38))) (by decide +kernel)) (ve_call C__law_turn (hr.mono (by first | omega | exact Nat.le_refl _)) (gl_by (defScope (topS 38))) (va_cons (ve_name (i := 2) rfl (vis_by (sc := (defScope (topS 38))) (by decide +kernel))) (va_cons (ve_name (i := 3) rfl (vis_by (sc := (defScope (topS 38))) (by decide +kernel))) va_nil)))) (vss_cons (vs_if (vt_eq (hu64 hr) (ve_name (i := 4) rfl (vis_by (sc := (defScope (topS 38))) (by decide +kernel))) ve_int) (vss_one (vs_ret (ve_tup (va_cons (ve_name (i := 2) rfl (vis_by (sc := (defScope (topS 38))) (by decide +kernel))) (va_cons (ve_tup (va_cons (ve_sub ve_int (ve_ix (ve_name (i := 2) rfl (vis_by (sc := (defScope (topS 38))) (by decide +kernel))) ve_int)) (va_cons (ve_ix (ve_name (i := 2) rfl (vis_by (sc := (defScope (topS 38))) (by decide +kernel))) ve_int) va_nil))) va_nil))))) vss_nil) (vss_one (vs_ret (ve_ifexp (vt_gt (ve_name (i := 4) rfl (vis_by (sc := (defScope (topS 38))) (by decide +kernel))) ve_int) (ve_tup (va_cons (ve_name (i := 2) rfl (vis_by (sc := (defScope (topS 38))) (by decide +kernel))) (va_cons (ve_name (i := 3) rfl (vis_by (sc := (defScope (topS 38))) (by decide +kernel))) va_nil))) (ve_tup (va_cons (ve_name (i := 3) rfl (vis_by (sc := (defScope (topS 38))) (by decide +kernel))) (va_cons (ve_name (i := 2) rfl (vis_by (sc := (defScope (topS 38))) (by decide +kernel))) va_nil)))))))))
theorem sc__law_type : FnScope ["one", "other", "n", "good", "q"] ["one", "other"] (defScope (topS 39)) := ⟨rfl, rfl, rfl, by decide +kernel, rfl, by decide +kernel, by decide +kernel⟩
theorem d__law_type (T : Facts mg) (S__law_turn : SpV) (C__law_turn : Cal P w K mg base "_law_turn" 2 1 S__law_turn) (hk : 1 ≤ k) (hr : RoomG k (A.deeper (envOfC "_law_type" (defScope (topS 39)) s.heap.objs.size f cdv))) : VSs (cxOf CX0 P w K mg base ["one", "other", "n", "good", "q"] "_law_type" (defScope (topS 39)) f cdv A outer s H E0).nox (defBody (topS 39)) (VM.w__law_type S__law_turn) :=
  have nd : (["one", "other", "n", "good", "q"] : List Str).Nodup := sc__law_type.nd
  (vss_cons (vs_set (i := 2) nd rfl (loc_by (sc := (defScope (topS 39))) (by decide +kernel)) (ve_call C__law_turn (hr.mono (by first | omega | exact Nat.le_refl _)) (gl_by (defScope (topS 39))) (va_cons (ve_name (i := 0) rfl (vis_by (sc := (defScope (topS 39))) (by decide +kernel))) (va_cons (ve_name (i := 1) rfl (vis_by (sc := (defScope (topS 39))) (by decide +kernel))) va_nil)))) (vss_cons (vs_setLc (i := 3) (own := [("q", 4)]) rfl nd rfl (lcl_by (sc := (defScope (topS 39))) (by decide +kernel)) (sw_true rfl (lcl_by (sc := (defScope (topS 39))) (by decide +kernel)) rfl (by decide +kernel)) (vi_rng1 (gl_by (defScope (topS 39))) T.m_range (va_cons (ve_name (i := 2) rfl (vis_by (sc := (defScope (topS 39))) (by decide +kernel))) va_nil)) (blkOk_by (N := ["one", "other", "n", "good", "q"]) (sc := (defScope (topS 39))) (by decide +kernel)) (fun _ _ _ _ _ => (vg_name (i := 4) nd rfl (by first | exact loc_by (sc := (relS _ (defScope (topS 39)))) (by decide +kernel)) (hf := .inr (lcl_by (sc := (relS _ (defScope (topS 39)))) (by decide +kernel))))) (fun _ _ _ _ _ => (vts_one (vt_bool (vw_and (vt_eq (hu64 hr) (ve_mod (ve_callTy call_int1 ser_intC (gl_by (relS _ (defScope (topS 39)))) T.m_int boot_int (va_cons (ve_sub (ve_ix (ve_name (i := 1) rfl (by first | exact vis_by (sc := (relS _ (defScope (topS 39)))) (by decide +kernel))) ve_int) (ve_mul (ve_name (i := 4) rfl (by first | exact vis_by (sc := (relS _ (defScope (topS 39)))) (by decide +kernel))) (ve_ix (ve_name (i := 0) rfl (by first | exact vis_by (sc := (relS _ (defScope (topS 39)))) (by decide +kernel))) ve_int))) va_nil)) (ve_name (i := 2) rfl (by first | exact vis_by (sc := (relS _ (defScope (topS 39)))) (by decide +kernel)))) ve_int) (vw_and1 (vt_eq (hu64 hr) (ve_mod (ve_callTy call_int1 ser_intC (gl_by (relS _ (defScope (topS 39)))) T.m_int boot_int (va_cons (ve_sub (ve_ix (ve_name (i := 1) rfl (by first | exact vis_by (sc := (relS _ (defScope (topS 39)))) (by decide +kernel))) ve_int) (ve_mul (ve_name (i := 4) rfl (by first | exact vis_by (sc := (relS _ (defScope (topS 39)))) (by decide +kernel))) (ve_ix (ve_name (i := 0) rfl (by first | exact vis_by (sc := (relS _ (defScope (topS 39)))) (by decide +kernel))) ve_int))) va_nil)) (ve_name (i := 2) rfl (by first | exact vis_by (sc := (relS _ (defScope (topS 39)))) (by decide +kernel)))) ve_int)))))) (fun _ _ _ _ _ => (ve_name (i := 4) rfl (by first | exact vis_by (sc := (relS _ (defScope (topS 39)))) (by decide +kernel)))) (by decide)) (vss_one (vs_ret (ve_ifexp (vt_eq (hu64 hr) (ve_callB call_lenA ser_len (gl_by (defScope (topS 39))) T.m_len boot_len (va_cons (ve_name (i := 3) rfl (vis_by (sc := (defScope (topS 39))) (by decide +kernel))) va_nil)) ve_int) (ve_tup (va_cons (ve_name (i := 2) rfl (vis_by (sc := (defScope (topS 39))) (by decide +kernel))) (va_cons (ve_ix (ve_name (i := 3) rfl (vis_by (sc := (defScope (topS 39))) (by decide +kernel))) ve_int) va_nil))) ve_non)))))
theorem sc__law_chain : FnScope ["n", "q", "found"] ["n", "q"] (defScope (topS 40)) := ⟨rfl, rfl, rfl, by decide +kernel, rfl, by decide +kernel, by decide +kernel⟩
theorem d__law_chain (T : Facts mg) (hk : 0 ≤ k) (hr : RoomG k (A.deeper (envOfC "_law_chain" (defScope (topS 40)) s.heap.objs.size f cdv))) : VSs (cxOf CX0 P w K mg base ["n", "q", "found"] "_law_chain" (defScope (topS 40)) f cdv A outer s H E0).nox (defBody (topS 40)) (VM.w__law_chain) :=
  have nd : (["n", "q", "found"] : List Str).Nodup := sc__law_chain.nd
  (vss_cons (vs_set (i := 2) nd rfl (loc_by (sc := (defScope (topS 40))) (by decide +kernel)) (ve_lst va_nil)) (vss_cons (vs_while PassesOwn.never (vt_gt (ve_name (i := 1) rfl (vis_by (sc := (defScope (topS 40))) (by decide +kernel))) ve_int) (vss_cons (vs_append (i := 2) rfl (vis_by (sc := (defScope (topS 40))) (by decide +kernel)) (ve_sub ve_int (ve_fdiv (ve_sub ve_int (ve_name (i := 0) rfl (vis_by (sc := (defScope (topS 40))) (by decide +kernel)))) (ve_name (i := 1) rfl (vis_by (sc := (defScope (topS 40))) (by decide +kernel))))) (pe_bm PySem.F.plainAttrs_list PySem.F.slot_list_append PySem.F.type_list_append mt_append (pe_var (i := 2) rfl (vis_by (sc := (defScope (topS 40))) (by decide +kernel))) (pa_cons (ve_sub ve_int (ve_fdiv (ve_sub ve_int (ve_name (i := 0) rfl (vis_by (sc := (defScope (topS 40))) (by decide +kernel)))) (ve_name (i := 1) rfl (vis_by (sc := (defScope (topS 40))) (by decide +kernel))))) pa_nil))) (vss_one (vs_par (i := 0) (j := 1) rfl nd rfl rfl (by decide) (lcl_by (sc := (defScope (topS 40))) (by decide +kernel)) (lcl_by (sc := (defScope (topS 40))) (by decide +kernel)) (va_cons (ve_name (i := 1) rfl (vis_by (sc := (defScope (topS 40))) (by decide +kernel))) (va_cons (ve_sub (ve_mul (ve_ixN (i := 2) rfl (vis_by (sc := (defScope (topS 40))) (by decide +kernel)) (ve_neg ve_int)) (ve_name (i := 1) rfl (vis_by (sc := (defScope (topS 40))) (by decide +kernel)))) (ve_name (i := 0) rfl (vis_by (sc := (defScope (topS 40))) (by decide +kernel)))) va_nil)) (by rfl))))) (vss_one (vs_retN (i := 2) rfl (vis_by (sc := (defScope (topS 40))) (by decide +kernel))))))
theorem sc__law_by_chain : FnScope ["row", "top", "bottom", "one"] ["row"] (defScope (topS 41)) := ⟨rfl, rfl, rfl, by decide +kernel, rfl, by decide +kernel, by decide +kernel⟩
theorem d__law_by_chain (T : Facts mg) (hk : 0 ≤ k) (hr : RoomG k (A.deeper (envOfC "_law_by_chain" (defScope (topS 41)) s.heap.objs.size f cdv))) : VSs (cxOf CX0 P w K mg base ["row", "top", "bottom", "one"] "_law_by_chain" (defScope (topS 41)) f cdv A outer s H E0).nox (defBody (topS 41)) (VM.w__law_by_chain) :=
  have nd : (["row", "top", "bottom", "one"] : List Str).Nodup := sc__law_by_chain.nd
  (vss_cons (vs_par (i := 1) (j := 2) rfl nd rfl rfl (by decide) (lcl_by (sc := (defScope (topS 41))) (by decide +kernel)) (lcl_by (sc := (defScope (topS 41))) (by decide +kernel)) (va_cons (ve_ix (ve_name (i := 0) rfl (vis_by (sc := (defScope (topS 41))) (by decide +kernel))) (ve_neg ve_int)) (va_cons ve_int va_nil)) (by rfl)) (vss_cons (vs_for PassesOwn.never rfl (vi_seq (ve_back (ve_slice (ve_name (i := 0) rfl (vis_by (sc := (defScope (topS 41))) (by decide +kernel))) vo_none (vo_some (ve_neg ve_int))))) (vg_name (i := 3) nd rfl (loc_by (sc := (defScope (topS 41))) (by decide +kernel)) (hf := .inl rfl)) (vss_one (vs_par (i := 1) (j := 2) rfl nd rfl rfl (by decide) (lcl_by (sc := (defScope (topS 41))) (by decide +kernel)) (lcl_by (sc := (defScope (topS 41))) (by decide +kernel)) (va_cons (ve_sub (ve_mul (ve_name (i := 3) rfl (vis_by (sc := (defScope (topS 41))) (by decide +kernel))) (ve_name (i := 1) rfl (vis_by (sc := (defScope (topS 41))) (by decide +kernel)))) (ve_name (i := 2) rfl (vis_by (sc := (defScope (topS 41))) (by decide +kernel)))) (va_cons (ve_name (i := 1) rfl (vis_by (sc := (defScope (topS 41))) (by decide +kernel))) va_nil)) (by rfl)))) (vss_one (vs_ret (ve_tup (va_cons (ve_name (i := 1) rfl (vis_by (sc := (defScope (topS 41))) (by decide +kernel))) (va_cons (ve_name (i := 2) rfl (vis_by (sc := (defScope (topS 41))) (by decide +kernel))) va_nil)))))))
theorem sc__law_is_right : FnScope ["hand", "most", "one", "other", "spoken", "table", "n", "q", "back_q", "row", "back_n"] ["hand", "most"] (defScope (topS 42)) := ⟨rfl, rfl, rfl, by decide +kernel, rfl, by decide +kernel, by decide +kernel⟩
theorem d__law_is_right (T : Facts mg) (S__law_any : SpV) (S__law_by_chain : SpV) (S__law_chain : SpV) (S__law_common : SpV) (S__law_corner : SpV) (S__law_draw : SpV) (S__law_led : SpV) (S__law_same : SpV) (S__law_table : SpV) (S__law_turn : SpV) (S__law_type : SpV) (S_by_chain : SpV) (S_chain : SpV) (S_type_of : SpV) (C__law_any : Cal P w K mg base "_law_any" 2 2 S__law_any) (C__law_by_chain : Cal P w K mg base "_law_by_chain" 1 1 S__law_by_chain) (C__law_chain : Cal P w K mg base "_law_chain" 2 1 S__law_chain) (C__law_common : Cal P w K mg base "_law_common" 2 1 S__law_common) (C__law_corner : Cal P w K mg base "_law_corner" 2 3 S__law_corner) (C__law_draw : Cal P w K mg base "_law_draw" 2 1 S__law_draw) (C__law_led : Cal P w K mg base "_law_led" 2 1 S__law_led) (C__law_same : Cal P w K mg base "_law_same" 2 10 S__law_same) (C__law_table : Cal P w K mg base "_law_table" 1 3 S__law_table) (C__law_turn : Cal P w K mg base "_law_turn" 2 1 S__law_turn) (C__law_type : Cal P w K mg base "_law_type" 2 2 S__law_type) (C_by_chain : Cal P w K mg base "by_chain" 1 3 S_by_chain) (C_chain : Cal P w K mg base "chain" 2 3 S_chain) (C_type_of : Cal P w K mg base "type_of" 2 7 S_type_of) (hk : 10 ≤ k) (hr : RoomG k (A.deeper (envOfC "_law_is_right" (defScope (topS 42)) s.heap.objs.size f cdv))) : VSs (cxOf CX0 P w K mg base ["hand", "most", "one", "other", "spoken", "table", "n", "q", "back_q", "row", "back_n"] "_law_is_right" (defScope (topS 42)) f cdv A outer s H E0).nox (defBody (topS 42)) (V09.w__law_is_right S__law_any S__law_by_chain S__law_chain S__law_common S__law_corner S__law_draw S__law_led S__law_same S__law_table S__law_turn S__law_type S_by_chain S_chain S_type_of) :=
  have nd : (["hand", "most", "one", "other", "spoken", "table", "n", "q", "back_q", "row", "back_n"] : List Str).Nodup := sc__law_is_right.nd
  (vss_cons (vs_asg (ve_call C__law_corner (hr.mono (by first | omega | exact Nat.le_refl _)) (gl_by (defScope (topS 42))) (va_cons (ve_name (i := 0) rfl (vis_by (sc := (defScope (topS 42))) (by decide +kernel))) (va_cons (ve_name (i := 1) rfl (vis_by (sc := (defScope (topS 42))) (by decide +kernel))) va_nil))) (vg_tup rfl (vgs_cons (vg_name (i := 2) nd rfl (loc_by (sc := (defScope (topS 42))) (by decide +kernel)) (hf := .inl rfl)) (vgs_cons (vg_name (i := 3) nd rfl (loc_by (sc := (defScope (topS 42))) (by decide +kernel)) (hf := .inl rfl)) vgs_nil)))) (vss_cons (vs_if (vt_le (ve_call C__law_turn (hr.mono (by first | omega | exact Nat.le_refl _)) (gl_by (defScope (topS 42))) (va_cons (ve_name (i := 2) rfl (vis_by (sc := (defScope (topS 42))) (by decide +kernel))) (va_cons (ve_name (i := 3) rfl (vis_by (sc := (defScope (topS 42))) (by decide +kernel))) va_nil))) ve_int) (vss_cons (vs_set (i := 4) nd rfl (loc_by (sc := (defScope (topS 42))) (by decide +kernel)) (ve_call C__law_type (hr.mono (by first | omega | exact Nat.le_refl _)) (gl_by (defScope (topS 42))) (va_cons (ve_name (i := 2) rfl (vis_by (sc := (defScope (topS 42))) (by decide +kernel))) (va_cons (ve_name (i := 3) rfl (vis_by (sc := (defScope (topS 42))) (by decide +kernel))) va_nil)))) (vss_cons (vs_if (vt_bool (vw_or (vt_is (ve_name (i := 4) rfl (vis_by (sc := (defScope (topS 42))) (by decide +kernel))) ve_non) (vw_or1 (vt_not (vt_val (ve_call C__law_same (hr.mono (by first | omega | exact Nat.le_refl _)) (gl_by (defScope (topS 42))) (va_cons (ve_call C_type_of (hr.mono (by first | omega | exact Nat.le_refl _)) (gl_by (defScope (topS 42))) (va_cons (ve_name (i := 2) rfl (vis_by (sc := (defScope (topS 42))) (by decide +kernel))) (va_cons (ve_name (i := 3) rfl (vis_by (sc := (defScope (topS 42))) (by decide +kernel))) va_nil))) (va_cons (ve_name (i := 4) rfl (vis_by (sc := (defScope (topS 42))) (by decide +kernel))) va_nil)))))))) (vss_one (vs_ret ve_bl)) vss_nil) (vss_cons (vs_set (i := 5) nd rfl (loc_by (sc := (defScope (topS 42))) (by decide +kernel)) (ve_call C__law_table (hr.mono (by first | omega | exact Nat.le_refl _)) (gl_by (defScope (topS 42))) (va_cons (ve_name (i := 0) rfl (vis_by (sc := (defScope (topS 42))) (by decide +kernel))) va_nil))) (vss_cons (vs_if (vt_bool (vw_and (vt_eq (hu64 hr) (ve_sub (ve_mul (ve_ix (ve_name (i := 5) rfl (vis_by (sc := (defScope (topS 42))) (by decide +kernel))) ve_int) (ve_ix (ve_name (i := 5) rfl (vis_by (sc := (defScope (topS 42))) (by decide +kernel))) ve_int)) (ve_mul (ve_ix (ve_name (i := 5) rfl (vis_by (sc := (defScope (topS 42))) (by decide +kernel))) ve_int) (ve_ix (ve_name (i := 5) rfl (vis_by (sc := (defScope (topS 42))) (by decide +kernel))) ve_int))) ve_int) (vw_and1 (vt_lt (ve_name (i := 1) rfl (vis_by (sc := (defScope (topS 42))) (by decide +kernel))) ve_int)))) (vss_one (vs_if (vt_ne (hu64 hr) (ve_call C_type_of (hr.mono (by first | omega | exact Nat.le_refl _)) (gl_by (defScope (topS 42))) (va_cons (ve_call C__law_led (hr.mono (by first | omega | exact Nat.le_refl _)) (gl_by (defScope (topS 42))) (va_cons (ve_name (i := 5) rfl (vis_by (sc := (defScope (topS 42))) (by decide +kernel))) (va_cons (ve_name (i := 2) rfl (vis_by (sc := (defScope (topS 42))) (by decide +kernel))) va_nil))) (va_cons (ve_call C__law_led (hr.mono (by first | omega | exact Nat.le_refl _)) (gl_by (defScope (topS 42))) (va_cons (ve_name (i := 5) rfl (vis_by (sc := (defScope (topS 42))) (by decide +kernel))) (va_cons (ve_name (i := 3) rfl (vis_by (sc := (defScope (topS 42))) (by decide +kernel))) va_nil))) va_nil))) (ve_name (i := 4) rfl (vis_by (sc := (defScope (topS 42))) (by decide +kernel)))) (vss_one (vs_ret ve_bl)) vss_nil)) vss_nil) (vss_cons (vs_asg (ve_name (i := 4) rfl (vis_by (sc := (defScope (topS 42))) (by decide +kernel))) (vg_tup rfl (vgs_cons (vg_name (i := 6) nd rfl (loc_by (sc := (defScope (topS 42))) (by decide +kernel)) (hf := .inl rfl)) (vgs_cons (vg_name (i := 7) nd rfl (loc_by (sc := (defScope (topS 42))) (by decide +kernel)) (hf := .inl rfl)) vgs_nil)))) (vss_cons (vs_if (vt_bool (vw_and (vt_gt (ve_name (i := 6) rfl (vis_by (sc := (defScope (topS 42))) (by decide +kernel))) ve_int) (vw_and1 (vt_ne (hu64 hr) (ve_ix (ve_call C_type_of (hr.mono (by first | omega | exact Nat.le_refl _)) (gl_by (defScope (topS 42))) (va_cons (ve_tup (va_cons (ve_sub ve_int (ve_ix (ve_name (i := 3) rfl (vis_by (sc := (defScope (topS 42))) (by decide +kernel))) ve_int)) (va_cons (ve_ix (ve_name (i := 3) rfl (vis_by (sc := (defScope (topS 42))) (by decide +kernel))) ve_int) va_nil))) (va_cons (ve_tup (va_cons (ve_sub ve_int (ve_ix (ve_name (i := 2) rfl (vis_by (sc := (defScope (topS 42))) (by decide +kernel))) ve_int)) (va_cons (ve_ix (ve_name (i := 2) rfl (vis_by (sc := (defScope (topS 42))) (by decide +kernel))) ve_int) va_nil))) va_nil))) ve_int) (ve_name (i := 6) rfl (vis_by (sc := (defScope (topS 42))) (by decide +kernel))))))) (vss_one (vs_ret ve_bl)) vss_nil) (vss_cons (vs_set (i := 8) nd rfl (loc_by (sc := (defScope (topS 42))) (by decide +kernel)) (ve_ix (ve_call C_type_of (hr.mono (by first | omega | exact Nat.le_refl _)) (gl_by (defScope (topS 42))) (va_cons (ve_tup (va_cons (ve_sub ve_int (ve_ix (ve_name (i := 3) rfl (vis_by (sc := (defScope (topS 42))) (by decide +kernel))) ve_int)) (va_cons (ve_ix (ve_name (i := 3) rfl (vis_by (sc := (defScope (topS 42))) (by decide +kernel))) ve_int) va_nil))) (va_cons (ve_tup (va_cons (ve_sub ve_int (ve_ix (ve_name (i := 2) rfl (vis_by (sc := (defScope (topS 42))) (by decide +kernel))) ve_int)) (va_cons (ve_ix (ve_name (i := 2) rfl (vis_by (sc := (defScope (topS 42))) (by decide +kernel))) ve_int) va_nil))) va_nil))) ve_int)) (vss_one (vs_if (vt_bool (vw_and (vt_gt (ve_name (i := 6) rfl (vis_by (sc := (defScope (topS 42))) (by decide +kernel))) ve_int) (vw_and1 (vt_ne (hu64 hr) (ve_mod (ve_callTy call_int1 ser_intC (gl_by (defScope (topS 42))) T.m_int boot_int (va_cons (ve_mul (ve_name (i := 7) rfl (vis_by (sc := (defScope (topS 42))) (by decide +kernel))) (ve_name (i := 8) rfl (vis_by (sc := (defScope (topS 42))) (by decide +kernel)))) va_nil)) (ve_name (i := 6) rfl (vis_by (sc := (defScope (topS 42))) (by decide +kernel)))) ve_int)))) (vss_one (vs_ret ve_bl)) vss_nil))))))))) vss_nil) (vss_cons (vs_set (i := 6) nd rfl (loc_by (sc := (defScope (topS 42))) (by decide +kernel)) (ve_add ve_int (ve_call C__law_draw (hr.mono (by first | omega | exact Nat.le_refl _)) (gl_by (defScope (topS 42))) (va_cons (ve_name (i := 0) rfl (vis_by (sc := (defScope (topS 42))) (by decide +kernel))) (va_cons (ve_call C__law_any (hr.mono (by first | omega | exact Nat.le_refl _)) (gl_by (defScope (topS 42))) (va_cons (ve_name (i := 0) rfl (vis_by (sc := (defScope (topS 42))) (by decide +kernel))) (va_cons (ve_lst (va_cons ve_int (va_cons ve_int (va_cons ve_int va_nil)))) va_nil))) va_nil))))) (vss_cons (vs_set (i := 7) nd rfl (loc_by (sc := (defScope (topS 42))) (by decide +kernel)) (ve_add ve_int (ve_call C__law_draw (hr.mono (by first | omega | exact Nat.le_refl _)) (gl_by (defScope (topS 42))) (va_cons (ve_name (i := 0) rfl (vis_by (sc := (defScope (topS 42))) (by decide +kernel))) (va_cons (ve_sub (ve_name (i := 6) rfl (vis_by (sc := (defScope (topS 42))) (by decide +kernel))) ve_int) va_nil))))) (vss_cons (vs_if (vt_gt (ve_call C__law_common (hr.mono (by first | omega | exact Nat.le_refl _)) (gl_by (defScope (topS 42))) (va_cons (ve_name (i := 6) rfl (vis_by (sc := (defScope (topS 42))) (by decide +kernel))) (va_cons (ve_name (i := 7) rfl (vis_by (sc := (defScope (topS 42))) (by decide +kernel))) va_nil))) ve_int) (vss_one (vs_set (i := 7) nd rfl (loc_by (sc := (defScope (topS 42))) (by decide +kernel)) (ve_sub (ve_name (i := 6) rfl (vis_by (sc := (defScope (topS 42))) (by decide +kernel))) ve_int))) vss_nil) (vss_cons (vs_set (i := 9) nd rfl (loc_by (sc := (defScope (topS 42))) (by decide +kernel)) (ve_call C_chain (hr.mono (by first | omega | exact Nat.le_refl _)) (gl_by (defScope (topS 42))) (va_cons (ve_name (i := 6) rfl (vis_by (sc := (defScope (topS 42))) (by decide +kernel))) (va_cons (ve_name (i := 7) rfl (vis_by (sc := (defScope (topS 42))) (by decide +kernel))) va_nil)))) (vss_cons (vs_if (vt_bool (vw_or (vt_not (vt_val (ve_call C__law_same (hr.mono (by first | omega | exact Nat.le_refl _)) (gl_by (defScope (topS 42))) (va_cons (ve_name (i := 9) rfl (vis_by (sc := (defScope (topS 42))) (by decide +kernel))) (va_cons (ve_callTy call_tuple_of ser_tuple (gl_by (defScope (topS 42))) T.m_tuple boot_tuple (va_cons (ve_call C__law_chain (hr.mono (by first | omega | exact Nat.le_refl _)) (gl_by (defScope (topS 42))) (va_cons (ve_name (i := 6) rfl (vis_by (sc := (defScope (topS 42))) (by decide +kernel))) (va_cons (ve_name (i := 7) rfl (vis_by (sc := (defScope (topS 42))) (by decide +kernel))) va_nil))) va_nil)) va_nil))))) (vw_or (vt_lt (ve_callB (call_minD rfl hr) ser_minD (gl_by (defScope (topS 42))) T.m_min boot_min (va_cons (ve_name (i := 9) rfl (vis_by (sc := (defScope (topS 42))) (by decide +kernel))) va_nil)) ve_int) (vw_or1 (vt_ne (hu64 hr) (ve_call C__law_by_chain (hr.mono (by first | omega | exact Nat.le_refl _)) (gl_by (defScope (topS 42))) (va_cons (ve_name (i := 9) rfl (vis_by (sc := (defScope (topS 42))) (by decide +kernel))) va_nil)) (ve_tup (va_cons (ve_name (i := 6) rfl (vis_by (sc := (defScope (topS 42))) (by decide +kernel))) (va_cons (ve_name (i := 7) rfl (vis_by (sc := (defScope (topS 42))) (by decide +kernel))) va_nil)))))))) (vss_one (vs_ret ve_bl)) vss_nil) (vss_cons (vs_if (vt_bool (vw_and (vt_le (ve_callB call_lenA ser_len (gl_by (defScope (topS 42))) T.m_len boot_len (va_cons (ve_name (i := 9) rfl (vis_by (sc := (defScope (topS 42))) (by decide +kernel))) va_nil)) ve_int) (vw_and (vt_le (ve_callB (call_maxD rfl hr) ser_maxD (gl_by (defScope (topS 42))) T.m_max boot_max (va_cons (ve_name (i := 9) rfl (vis_by (sc := (defScope (topS 42))) (by decide +kernel))) va_nil)) ve_int) (vw_and1 (vt_ne (hu64 hr) (ve_call C_by_chain (hr.mono (by first | omega | exact Nat.le_refl _)) (gl_by (defScope (topS 42))) (va_cons (ve_name (i := 9) rfl (vis_by (sc := (defScope (topS 42))) (by decide +kernel))) va_nil)) (ve_tup (va_cons (ve_name (i := 6) rfl (vis_by (sc := (defScope (topS 42))) (by decide +kernel))) (va_cons (ve_name (i := 7) rfl (vis_by (sc := (defScope (topS 42))) (by decide +kernel))) va_nil)))))))) (vss_one (vs_ret ve_bl)) vss_nil) (vss_cons (vs_asg (ve_call C__law_by_chain (hr.mono (by first | omega | exact Nat.le_refl _)) (gl_by (defScope (topS 42))) (va_cons (ve_back (ve_name (i := 9) rfl (vis_by (sc := (defScope (topS 42))) (by decide +kernel)))) va_nil)) (vg_tup rfl (vgs_cons (vg_name (i := 10) nd rfl (loc_by (sc := (defScope (topS 42))) (by decide +kernel)) (hf := .inl rfl)) (vgs_cons (vg_name (i := 8) nd rfl (loc_by (sc := (defScope (topS 42))) (by decide +kernel)) (hf := .inl rfl)) vgs_nil)))) (vss_one (vs_ret (ve_and (ve_eq (hu64 hr) (ve_name (i := 10) rfl (vis_by (sc := (defScope (topS 42))) (by decide +kernel))) (ve_name (i := 6) rfl (vis_by (sc := (defScope (topS 42))) (by decide +kernel)))) (ve_and (ve_eq (hu64 hr) (ve_mod (ve_callTy call_int1 ser_intC (gl_by (defScope (topS 42))) T.m_int boot_int (va_cons (ve_mul (ve_name (i := 7) rfl (vis_by (sc := (defScope (topS 42))) (by decide +kernel))) (ve_name (i := 8) rfl (vis_by (sc := (defScope (topS 42))) (by decide +kernel)))) va_nil)) (ve_name (i := 6) rfl (vis_by (sc := (defScope (topS 42))) (by decide +kernel)))) (ve_mod (ve_callTy call_int1 ser_intC (gl_by (defScope (topS 42))) T.m_int boot_int (va_cons ve_int va_nil)) (ve_name (i := 6) rfl (vis_by (sc := (defScope (topS 42))) (by decide +kernel))))) (ve_one (ve_or (ve_eq (hu64 hr) (ve_name (i := 8) rfl (vis_by (sc := (defScope (topS 42))) (by decide +kernel))) ve_int) (ve_one (ve_eq (hu64 hr) (ve_call C_chain (hr.mono (by first | omega | exact Nat.le_refl _)) (gl_by (defScope (topS 42))) (va_cons (ve_name (i := 6) rfl (vis_by (sc := (defScope (topS 42))) (by decide +kernel))) (va_cons (ve_name (i := 8) rfl (vis_by (sc := (defScope (topS 42))) (by decide +kernel))) va_nil))) (ve_back (ve_name (i := 9) rfl (vis_by (sc := (defScope (topS 42))) (by decide +kernel)))))))))))))))))))))
theorem sc__law_is_row_right : FnScope ["hand", "row", "lap", "heard"] ["hand"] (defScope (topS 43)) := ⟨rfl, rfl, rfl, by decide +kernel, rfl, by decide +kernel, by decide +kernel⟩
theorem d__law_is_row_right (T : Facts mg) (S__law_any : SpV) (S__law_by_chain : SpV) (S__law_common : SpV) (S__law_draw : SpV) (S__law_same : SpV) (S_by_chain : SpV) (S_chain : SpV) (C__law_any : Cal P w K mg base "_law_any" 2 2 S__law_any) (C__law_by_chain : Cal P w K mg base "_law_by_chain" 1 1 S__law_by_chain) (C__law_common : Cal P w K mg base "_law_common" 2 1 S__law_common) (C__law_draw : Cal P w K mg base "_law_draw" 2 1 S__law_draw) (C__law_same : Cal P w K mg base "_law_same" 2 10 S__law_same) (C_by_chain : Cal P w K mg base "by_chain" 1 3 S_by_chain) (C_chain : Cal P w K mg base "chain" 2 3 S_chain) (hk : 10 ≤ k) (hr : RoomG k (A.deeper (envOfC "_law_is_row_right" (defScope (topS 43)) s.heap.objs.size f cdv))) : VSs (cxOf CX0 P w K mg base ["hand", "row", "lap", "heard"] "_law_is_row_right" (defScope (topS 43)) f cdv A outer s H E0).nox (defBody (topS 43)) (VM.w__law_is_row_right S__law_any S__law_by_chain S__law_common S__law_draw S__law_same S_by_chain S_chain) :=
  have nd : (["hand", "row", "lap", "heard"] : List Str).Nodup := sc__law_is_row_right.nd
  (vss_cons (vs_set (i := 1) nd rfl (loc_by (sc := (defScope (topS 43))) (by decide +kernel)) (ve_callTy call_tuple_of ser_tuple (gl_by (defScope (topS 43))) T.m_tuple boot_tuple (va_cons (ve_comp (own := [("lap", 2)]) rfl nd (vi_rng1 (gl_by (defScope (topS 43))) T.m_range (va_cons (ve_add ve_int (ve_call C__law_draw (hr.mono (by first | omega | exact Nat.le_refl _)) (gl_by (defScope (topS 43))) (va_cons (ve_name (i := 0) rfl (vis_by (sc := (defScope (topS 43))) (by decide +kernel))) (va_cons ve_int va_nil)))) va_nil)) (blkOk_by (N := ["hand", "row", "lap", "heard"]) (sc := (defScope (topS 43))) (by decide +kernel)) (fun _ _ _ _ _ => (vg_name (i := 2) nd rfl (by first | exact loc_by (sc := (relS _ (defScope (topS 43)))) (by decide +kernel)) (hf := .inr (lcl_by (sc := (relS _ (defScope (topS 43)))) (by decide +kernel))))) (fun _ _ _ _ _ => vts_nil) (fun _ _ _ _ _ => (ve_add ve_int (ve_call C__law_draw (hr.mono (by first | omega | exact Nat.le_refl _)) (gl_by (relS _ (defScope (topS 43)))) (va_cons (ve_name (i := 0) rfl (by first | exact vis_by (sc := (relS _ (defScope (topS 43)))) (by decide +kernel))) (va_cons (ve_call C__law_any (hr.mono (by first | omega | exact Nat.le_refl _)) (gl_by (relS _ (defScope (topS 43)))) (va_cons (ve_name (i := 0) rfl (by first | exact vis_by (sc := (relS _ (defScope (topS 43)))) (by decide +kernel))) (va_cons (ve_lst (va_cons ve_int (va_cons ve_int (va_cons ve_int (va_cons ve_int va_nil))))) va_nil))) va_nil))))) (by decide)) va_nil))) (vss_cons (vs_set (i := 3) nd rfl (loc_by (sc := (defScope (topS 43))) (by decide +kernel)) (ve_call C_by_chain (hr.mono (by first | omega | exact Nat.le_refl _)) (gl_by (defScope (topS 43))) (va_cons (ve_name (i := 1) rfl (vis_by (sc := (defScope (topS 43))) (by decide +kernel))) va_nil))) (vss_cons (vs_if (vt_bool (vw_or (vt_not (vt_val (ve_call C__law_same (hr.mono (by first | omega | exact Nat.le_refl _)) (gl_by (defScope (topS 43))) (va_cons (ve_name (i := 3) rfl (vis_by (sc := (defScope (topS 43))) (by decide +kernel))) (va_cons (ve_call C__law_by_chain (hr.mono (by first | omega | exact Nat.le_refl _)) (gl_by (defScope (topS 43))) (va_cons (ve_name (i := 1) rfl (vis_by (sc := (defScope (topS 43))) (by decide +kernel))) va_nil)) va_nil))))) (vw_or (vt_not (vt_chain op_lt op_lt ser_cmpI ser_cmpI ve_int (ve_ix (ve_name (i := 3) rfl (vis_by (sc := (defScope (topS 43))) (by decide +kernel))) ve_int) (ve_ix (ve_name (i := 3) rfl (vis_by (sc := (defScope (topS 43))) (by decide +kernel))) ve_int))) (vw_or1 (vt_ne (hu64 hr) (ve_call C__law_common (hr.mono (by first | omega | exact Nat.le_refl _)) (gl_by (defScope (topS 43))) (va_cons (ve_ix (ve_name (i := 3) rfl (vis_by (sc := (defScope (topS 43))) (by decide +kernel))) ve_int) (va_cons (ve_ix (ve_name (i := 3) rfl (vis_by (sc := (defScope (topS 43))) (by decide +kernel))) ve_int) va_nil))) ve_int))))) (vss_one (vs_ret ve_bl)) vss_nil) (vss_one (vs_ret (ve_or (ve_gt (ve_ix (ve_name (i := 3) rfl (vis_by (sc := (defScope (topS 43))) (by decide +kernel))) ve_int) ve_int) (ve_one (ve_eq (hu64 hr) (ve_call C_chain (hr.mono (by first | omega | exact Nat.le_refl _)) (gl_by (defScope (topS 43))) (va_cons (ve_ix (ve_name (i := 3) rfl (vis_by (sc := (defScope (topS 43))) (by decide +kernel))) ve_int) (va_cons (ve_ix (ve_name (i := 3) rfl (vis_by (sc := (defScope (topS 43))) (by decide +kernel))) ve_int) va_nil))) (ve_name (i := 1) rfl (vis_by (sc := (defScope (topS 43))) (by decide +kernel)))))))))))
theorem sc_law : FnScope ["script", "hand", "heard", "lap"] ["script"] (defScope (topS 44)) := ⟨rfl, rfl, rfl, by decide +kernel, rfl, by decide +kernel, by decide +kernel⟩
theorem d_law (T : Facts mg) (S__law_any : SpV) (S__law_is_right : SpV) (S__law_is_row_right : SpV) (S__law_same : SpV) (S_by_chain : SpV) (S_chain : SpV) (S_type_of : SpV) (C__law_any : Cal P w K mg base "_law_any" 2 2 S__law_any) (C__law_is_right : Cal P w K mg base "_law_is_right" 2 11 S__law_is_right) (C__law_is_row_right : Cal P w K mg base "_law_is_row_right" 1 11 S__law_is_row_right) (C__law_same : Cal P w K mg base "_law_same" 2 10 S__law_same) (C_by_chain : Cal P w K mg base "by_chain" 1 3 S_by_chain) (C_chain : Cal P w K mg base "chain" 2 3 S_chain) (C_type_of : Cal P w K mg base "type_of" 2 7 S_type_of) (hk : 11 ≤ k) (hr : RoomG k (A.deeper (envOfC "law" (defScope (topS 44)) s.heap.objs.size f cdv))) : VSs (cxOf CX0 P w K mg base ["script", "hand", "heard", "lap"] "law" (defScope (topS 44)) f cdv A outer s H E0).nox ((defBody (topS 44)).drop 1) (V09.w_law_rest S__law_any S__law_is_right S__law_is_row_right S__law_same S_by_chain S_chain S_type_of) :=
  have nd : (["script", "hand", "heard", "lap"] : List Str).Nodup := sc_law.nd
  (vss_cons (vs_set (i := 2) nd rfl (loc_by (sc := (defScope (topS 44))) (by decide +kernel)) (ve_lst (va_cons (ve_call C_type_of (hr.mono (by first | omega | exact Nat.le_refl _)) (gl_by (defScope (topS 44))) (va_cons (ve_tup (va_cons ve_int (va_cons ve_int va_nil))) (va_cons (ve_tup (va_cons ve_int (va_cons ve_int va_nil))) va_nil))) (va_cons (ve_call C_type_of (hr.mono (by first | omega | exact Nat.le_refl _)) (gl_by (defScope (topS 44))) (va_cons (ve_tup (va_cons ve_int (va_cons ve_int va_nil))) (va_cons (ve_tup (va_cons ve_int (va_cons ve_int va_nil))) va_nil))) (va_cons (ve_call C_chain (hr.mono (by first | omega | exact Nat.le_refl _)) (gl_by (defScope (topS 44))) (va_cons ve_int (va_cons ve_int va_nil))) (va_cons (ve_call C_chain (hr.mono (by first | omega | exact Nat.le_refl _)) (gl_by (defScope (topS 44))) (va_cons ve_int (va_cons ve_int va_nil))) (va_cons (ve_call C_by_chain (hr.mono (by first | omega | exact Nat.le_refl _)) (gl_by (defScope (topS 44))) (va_cons (ve_tup (va_cons ve_int (va_cons ve_int va_nil))) va_nil)) (va_cons (ve_call C_by_chain (hr.mono (by first | omega | exact Nat.le_refl _)) (gl_by (defScope (topS 44))) (va_cons (ve_tup (va_cons ve_int va_nil)) va_nil)) (va_cons (ve_call C_chain (hr.mono (by first | omega | exact Nat.le_refl _)) (gl_by (defScope (topS 44))) (va_cons ve_int (va_cons ve_int va_nil))) va_nil))))))))) (vss_cons (vs_if (vt_not (vt_val (ve_call C__law_same (hr.mono (by first | omega | exact Nat.le_refl _)) (gl_by (defScope (topS 44))) (va_cons (ve_name (i := 2) rfl (vis_by (sc := (defScope (topS 44))) (by decide +kernel))) (va_cons (ve_lst (va_cons (ve_tup (va_cons ve_int (va_cons ve_int va_nil))) (va_cons (ve_tup (va_cons ve_int (va_cons ve_int va_nil))) (va_cons (ve_tup (va_cons ve_int (va_cons ve_int va_nil))) (va_cons (ve_tup (va_cons ve_int (va_cons ve_int (va_cons ve_int (va_cons ve_int (va_cons ve_int (va_cons ve_int va_nil))))))) (va_cons (ve_tup (va_cons ve_int (va_cons ve_int va_nil))) (va_cons (ve_tup (va_cons ve_int (va_cons ve_int va_nil))) (va_cons (ve_tup (va_cons ve_int (va_cons ve_int va_nil))) va_nil)))))))) va_nil))))) (vss_one (vs_ret ve_bl)) vss_nil) (vss_cons (vs_for PassesOwn.never rfl (vi_rng1 (gl_by (defScope (topS 44))) T.m_range (va_cons ve_int va_nil)) (vg_name (i := 3) nd rfl (loc_by (sc := (defScope (topS 44))) (by decide +kernel)) (hf := .inl rfl)) (vss_one (vs_if (vt_bool (vw_or (vt_not (vt_val (ve_call C__law_is_right (hr.mono (by first | omega | exact Nat.le_refl _)) (gl_by (defScope (topS 44))) (va_cons (ve_name (i := 1) rfl (vis_by (sc := (defScope (topS 44))) (by decide +kernel))) (va_cons (ve_call C__law_any (hr.mono (by first | omega | exact Nat.le_refl _)) (gl_by (defScope (topS 44))) (va_cons (ve_name (i := 1) rfl (vis_by (sc := (defScope (topS 44))) (by decide +kernel))) (va_cons (ve_lst (va_cons ve_int (va_cons ve_int (va_cons ve_int (va_cons ve_int va_nil))))) va_nil))) va_nil))))) (vw_or1 (vt_not (vt_val (ve_call C__law_is_row_right (hr.mono (by first | omega | exact Nat.le_refl _)) (gl_by (defScope (topS 44))) (va_cons (ve_name (i := 1) rfl (vis_by (sc := (defScope (topS 44))) (by decide +kernel))) va_nil))))))) (vss_one (vs_ret ve_bl)) vss_nil))) (vss_one (vs_ret ve_bl)))))
end
section
variable {P : Program} {w : World} {K : PySem.W.Frag} {mg : Str → Option Value} {base : Heap} {f fH : Addr} {fd fdH : FuncData}
abbrev FnP (K : PySem.W.Frag) (x : Str) (st : Stmt) (f : Addr) (fd : FuncData) : Prop := FunD K x x (defArgs st) (defBody st) (defScope st) [] [] f fd
theorem a__law_hand (T : Facts mg) (F : FnP K "_law_hand" (topS 29) fH fdH) : FnG P w K mg base 1 fH fdH ["script"] (spHand K) := fnG_hand F sc__law_hand fun cdv A outer s H => d__law_hand T
theorem a__law_draw (T : Facts mg) (F : FnP K "_law_draw" (topS 30) f fd) (hg : mg "_law_draw" = some (.ref f)) : Cal P w K mg base "_law_draw" 2 1 S__law_draw := ⟨f, fd, _, fnG_draw F sc__law_draw fun cdv A outer s H => d__law_draw T, hg, F.kp, F.bindsN fun _ _ _ _ _ _ us hl => match us, hl with | [_, _], _ => rfl⟩
theorem a__law_any (T : Facts mg) (C__law_draw : Cal P w K mg base "_law_draw" 2 1 S__law_draw) (F : FnP K "_law_any" (topS 31) f fd) (hg : mg "_law_any" = some (.ref f)) : Cal P w K mg base "_law_any" 2 2 VM.S__law_any :=
  cal_of F hg sc__law_any rfl (fun _ _ _ _ _ _ us hl => match us, hl with | [_, _], _ => rfl) (fun cdv A outer s H hr => d__law_any T _ C__law_draw (Nat.le_refl _) hr) VM.v__law_any
theorem a__law_by_chain (T : Facts mg) (F : FnP K "_law_by_chain" (topS 41) f fd) (hg : mg "_law_by_chain" = some (.ref f)) : Cal P w K mg base "_law_by_chain" 1 1 VM.S__law_by_chain :=
  cal_of F hg sc__law_by_chain rfl (fun _ _ _ _ _ _ us hl => match us, hl with | [_], _ => rfl) (fun cdv A outer s H hr => d__law_by_chain T   (Nat.le_refl _) hr) VM.v__law_by_chain
theorem a__law_chain (T : Facts mg) (F : FnP K "_law_chain" (topS 40) f fd) (hg : mg "_law_chain" = some (.ref f)) : Cal P w K mg base "_law_chain" 2 1 VM.S__law_chain :=
  cal_of F hg sc__law_chain rfl (fun _ _ _ _ _ _ us hl => match us, hl with | [_, _], _ => rfl) (fun cdv A outer s H hr => d__law_chain T   (Nat.le_refl _) hr) VM.v__law_chain
theorem a__law_common (T : Facts mg) (F : FnP K "_law_common" (topS 33) f fd) (hg : mg "_law_common" = some (.ref f)) : Cal P w K mg base "_law_common" 2 1 VM.S__law_common :=
  cal_of F hg sc__law_common rfl (fun _ _ _ _ _ _ us hl => match us, hl with | [_, _], _ => rfl) (fun cdv A outer s H hr => d__law_common T   (Nat.le_refl _) hr) VM.v__law_common
theorem a__law_ray (T : Facts mg) (C__law_common : Cal P w K mg base "_law_common" 2 1 VM.S__law_common) (C__law_draw : Cal P w K mg base "_law_draw" 2 1 S__law_draw) (F : FnP K "_law_ray" (topS 35) f fd) (hg : mg "_law_ray" = some (.ref f)) : Cal P w K mg base "_law_ray" 2 2 VM.S__law_ray :=
  cal_of F hg sc__law_ray rfl (fun _ _ _ _ _ _ us hl => match us, hl with | [_, _], _ => rfl) (fun cdv A outer s H hr => d__law_ray T _ _ C__law_common C__law_draw (Nat.le_refl _) hr) VM.v__law_ray
theorem a__law_turn (T : Facts mg) (F : FnP K "_law_turn" (topS 34) f fd) (hg : mg "_law_turn" = some (.ref f)) : Cal P w K mg base "_law_turn" 2 1 VM.S__law_turn :=
  cal_of F hg sc__law_turn rfl (fun _ _ _ _ _ _ us hl => match us, hl with | [_, _], _ => rfl) (fun cdv A outer s H hr => d__law_turn T   (Nat.le_refl _) hr) VM.v__law_turn
theorem a__law_corner (T : Facts mg) (C__law_ray : Cal P w K mg base "_law_ray" 2 2 VM.S__law_ray) (C__law_turn : Cal P w K mg base "_law_turn" 2 1 VM.S__law_turn) (F : FnP K "_law_corner" (topS 38) f fd) (hg : mg "_law_corner" = some (.ref f)) : Cal P w K mg base "_law_corner" 2 3 VM.S__law_corner :=
  cal_of F hg sc__law_corner rfl (fun _ _ _ _ _ _ us hl => match us, hl with | [_, _], _ => rfl) (fun cdv A outer s H hr => d__law_corner T _ _ C__law_ray C__law_turn (Nat.le_refl _) hr) VM.v__law_corner
theorem a__law_led (T : Facts mg) (F : FnP K "_law_led" (topS 37) f fd) (hg : mg "_law_led" = some (.ref f)) : Cal P w K mg base "_law_led" 2 1 VM.S__law_led :=
  cal_of F hg sc__law_led rfl (fun _ _ _ _ _ _ us hl => match us, hl with | [_, _], _ => rfl) (fun cdv A outer s H hr => d__law_led T   (Nat.le_refl _) hr) VM.v__law_led
theorem a__law_same (T : Facts mg) (F : FnP K "_law_same" (topS 32) f fd) (hg : mg "_law_same" = some (.ref f)) : ∀ n : Nat, Cal P w K mg base "_law_same" 2 (n + 1) (VM.S__law_same n)
  | 0 => cal_of F hg sc__law_same rfl (fun _ _ _ _ _ _ us hl => match us, hl with | [_, _], _ => rfl) (fun cdv A outer s H hr => d__law_same T _ (cal_none (prs := ["one", "due"]) F hg (fun _ _ _ _ _ _ us hl => match us, hl with | [_, _], _ => rfl)) (Nat.zero_le _) hr) (VM.v__law_same 0)
  | n + 1 => cal_of F hg sc__law_same rfl (fun _ _ _ _ _ _ us hl => match us, hl with | [_, _], _ => rfl) (fun cdv A outer s H hr => d__law_same T _ (a__law_same T F hg n) (Nat.zero_le _) hr) (VM.v__law_same (n + 1))
theorem a__law_table (T : Facts mg) (C__law_any : Cal P w K mg base "_law_any" 2 2 VM.S__law_any) (C__law_draw : Cal P w K mg base "_law_draw" 2 1 S__law_draw) (F : FnP K "_law_table" (topS 36) f fd) (hg : mg "_law_table" = some (.ref f)) : Cal P w K mg base "_law_table" 1 3 VM.S__law_table :=
  cal_of F hg sc__law_table rfl (fun _ _ _ _ _ _ us hl => match us, hl with | [_], _ => rfl) (fun cdv A outer s H hr => d__law_table T _ _ C__law_any C__law_draw (Nat.le_refl _) hr) VM.v__law_table
theorem a__law_type (T : Facts mg) (C__law_turn : Cal P w K mg base "_law_turn" 2 1 VM.S__law_turn) (F : FnP K "_law_type" (topS 39) f fd) (hg : mg "_law_type" = some (.ref f)) : Cal P w K mg base "_law_type" 2 2 VM.S__law_type :=
  cal_of F hg sc__law_type rfl (fun _ _ _ _ _ _ us hl => match us, hl with | [_, _], _ => rfl) (fun cdv A outer s H hr => d__law_type T _ C__law_turn (Nat.le_refl _) hr) VM.v__law_type
theorem a_is_integer (T : Facts mg) (F : FnP K "is_integer" (topS 9) f fd) (hg : mg "is_integer" = some (.ref f)) : Cal P w K mg base "is_integer" 1 1 VM.S_is_integer :=
  cal_of F hg sc_is_integer rfl (fun _ _ _ _ _ _ us hl => match us, hl with | [_], _ => rfl) (fun cdv A outer s H hr => d_is_integer T   (Nat.le_refl _) hr) VM.v_is_integer
theorem a_is_within (T : Facts mg) (C_is_integer : Cal P w K mg base "is_integer" 1 1 VM.S_is_integer) (F : FnP K "is_within" (topS 10) f fd) (hg : mg "is_within" = some (.ref f)) : Cal P w K mg base "is_within" 3 2 VM.S_is_within :=
  cal_of F hg sc_is_within rfl (fun _ _ _ _ _ _ us hl => match us, hl with | [_, _, _], _ => rfl) (fun cdv A outer s H hr => d_is_within T _ C_is_integer (Nat.le_refl _) hr) VM.v_is_within
theorem a_by_chain (T : Facts mg) (C_is_within : Cal P w K mg base "is_within" 3 2 VM.S_is_within) (F : FnP K "by_chain" (topS 27) f fd) (hg : mg "by_chain" = some (.ref f)) : Cal P w K mg base "by_chain" 1 3 VM.S_by_chain :=
  cal_of F hg sc_by_chain rfl (fun _ _ _ _ _ _ us hl => match us, hl with | [_], _ => rfl) (fun cdv A outer s H hr => d_by_chain T _ C_is_within (Nat.le_refl _) hr) VM.v_by_chain
theorem a_common_divisor (T : Facts mg) (F : FnP K "common_divisor" (topS 12) f fd) (hg : mg "common_divisor" = some (.ref f)) : Cal P w K mg base "common_divisor" 2 1 VM.S_common_divisor :=
  cal_of F hg sc_common_divisor rfl (fun _ _ _ _ _ _ us hl => match us, hl with | [_, _], _ => rfl) (fun cdv A outer s H hr => d_common_divisor T   (Nat.le_refl _) hr) VM.v_common_divisor
theorem a_raw_chain (T : Facts mg) (F : FnP K "raw_chain" (topS 25) f fd) (hg : mg "raw_chain" = some (.ref f)) : Cal P w K mg base "raw_chain" 2 1 VM.S_raw_chain :=
  cal_of F hg sc_raw_chain rfl (fun _ _ _ _ _ _ us hl => match us, hl with | [_, _], _ => rfl) (fun cdv A outer s H hr => d_raw_chain T   (Nat.le_refl _) hr) VM.v_raw_chain
theorem a_chain (T : Facts mg) (C_common_divisor : Cal P w K mg base "common_divisor" 2 1 VM.S_common_divisor) (C_is_within : Cal P w K mg base "is_within" 3 2 VM.S_is_within) (C_raw_chain : Cal P w K mg base "raw_chain" 2 1 VM.S_raw_chain) (F : FnP K "chain" (topS 26) f fd) (hg : mg "chain" = some (.ref f)) : Cal P w K mg base "chain" 2 3 VM.S_chain :=
  cal_of F hg sc_chain rfl (fun _ _ _ _ _ _ us hl => match us, hl with | [_, _], _ => rfl) (fun cdv A outer s H hr => d_chain T _ _ _ C_common_divisor C_is_within C_raw_chain (Nat.le_refl _) hr) VM.v_chain
theorem a_is_dot (T : Facts mg) (C_is_within : Cal P w K mg base "is_within" 3 2 VM.S_is_within) (F : FnP K "is_dot" (topS 11) f fd) (hg : mg "is_dot" = some (.ref f)) : Cal P w K mg base "is_dot" 1 3 VM.S_is_dot :=
  cal_of F hg sc_is_dot rfl (fun _ _ _ _ _ _ us hl => match us, hl with | [_], _ => rfl) (fun cdv A outer s H hr => d_is_dot T _ C_is_within (Nat.le_refl _) hr) VM.v_is_dot
theorem a_is_ray (T : Facts mg) (C_common_divisor : Cal P w K mg base "common_divisor" 2 1 VM.S_common_divisor) (C_is_dot : Cal P w K mg base "is_dot" 1 3 VM.S_is_dot) (F : FnP K "is_ray" (topS 13) f fd) (hg : mg "is_ray" = some (.ref f)) : Cal P w K mg base "is_ray" 1 4 VM.S_is_ray :=
  cal_of F hg sc_is_ray rfl (fun _ _ _ _ _ _ us hl => match us, hl with | [_], _ => rfl) (fun cdv A outer s H hr => d_is_ray T _ _ C_common_divisor C_is_dot (Nat.le_refl _) hr) VM.v_is_ray
theorem a_check_ray (T : Facts mg) (C_is_ray : Cal P w K mg base "is_ray" 1 4 VM.S_is_ray) (F : FnP K "check_ray" (topS 14) f fd) (hg : mg "check_ray" = some (.ref f)) : Cal P w K mg base "check_ray" 1 5 VM.S_check_ray :=
  cal_of F hg sc_check_ray rfl (fun _ _ _ _ _ _ us hl => match us, hl with | [_], _ => rfl) (fun cdv A outer s H hr => d_check_ray T _ C_is_ray (Nat.le_refl _) hr) VM.v_check_ray
theorem a_raw_turn (T : Facts mg) (F : FnP K "raw_turn" (topS 15) f fd) (hg : mg "raw_turn" = some (.ref f)) : Cal P w K mg base "raw_turn" 2 1 VM.S_raw_turn :=
  cal_of F hg sc_raw_turn rfl (fun _ _ _ _ _ _ us hl => match us, hl with | [_, _], _ => rfl) (fun cdv A outer s H hr => d_raw_turn T   (Nat.le_refl _) hr) VM.v_raw_turn
theorem a_check_corner (T : Facts mg) (C_check_ray : Cal P w K mg base "check_ray" 1 5 VM.S_check_ray) (C_raw_turn : Cal P w K mg base "raw_turn" 2 1 VM.S_raw_turn) (F : FnP K "check_corner" (topS 18) f fd) (hg : mg "check_corner" = some (.ref f)) : Cal P w K mg base "check_corner" 2 6 VM.S_check_corner :=
  cal_of F hg sc_check_corner rfl (fun _ _ _ _ _ _ us hl => match us, hl with | [_, _], _ => rfl) (fun cdv A outer s H hr => d_check_corner T _ _ C_check_ray C_raw_turn (Nat.le_refl _) hr) VM.v_check_corner
theorem a_factors (T : Facts mg) (F : FnP K "factors" (topS 16) f fd) (hg : mg "factors" = some (.ref f)) : Cal P w K mg base "factors" 2 1 VM.S_factors :=
  cal_of F hg sc_factors rfl (fun _ _ _ _ _ _ us hl => match us, hl with | [_, _], _ => rfl) (fun cdv A outer s H hr => d_factors T   (Nat.le_refl _) hr) VM.v_factors
theorem a_any_with_turn (T : Facts mg) (C_factors : Cal P w K mg base "factors" 2 1 VM.S_factors) (F : FnP K "any_with_turn" (topS 17) f fd) (hg : mg "any_with_turn" = some (.ref f)) : Cal P w K mg base "any_with_turn" 1 2 VM.S_any_with_turn :=
  cal_of F hg sc_any_with_turn rfl (fun _ _ _ _ _ _ us hl => match us, hl with | [_], _ => rfl) (fun cdv A outer s H hr => d_any_with_turn T _ C_factors (Nat.le_refl _) hr) VM.v_any_with_turn
theorem a_raw_type (T : Facts mg) (C_any_with_turn : Cal P w K mg base "any_with_turn" 1 2 VM.S_any_with_turn) (C_raw_turn : Cal P w K mg base "raw_turn" 2 1 VM.S_raw_turn) (F : FnP K "raw_type" (topS 23) f fd) (hg : mg "raw_type" = some (.ref f)) : Cal P w K mg base "raw_type" 2 3 VM.S_raw_type :=
  cal_of F hg sc_raw_type rfl (fun _ _ _ _ _ _ us hl => match us, hl with | [_, _], _ => rfl) (fun cdv A outer s H hr => d_raw_type T _ _ C_any_with_turn C_raw_turn (Nat.le_refl _) hr) VM.v_raw_type
theorem a_type_of (T : Facts mg) (C_check_corner : Cal P w K mg base "check_corner" 2 6 VM.S_check_corner) (C_raw_type : Cal P w K mg base "raw_type" 2 3 VM.S_raw_type) (F : FnP K "type_of" (topS 24) f fd) (hg : mg "type_of" = some (.ref f)) : Cal P w K mg base "type_of" 2 7 VM.S_type_of :=
  cal_of F hg sc_type_of rfl (fun _ _ _ _ _ _ us hl => match us, hl with | [_, _], _ => rfl) (fun cdv A outer s H hr => d_type_of T _ _ C_check_corner C_raw_type (Nat.le_refl _) hr) VM.v_type_of
theorem a__law_is_right (T : Facts mg) (C__law_any : Cal P w K mg base "_law_any" 2 2 VM.S__law_any) (C__law_by_chain : Cal P w K mg base "_law_by_chain" 1 1 VM.S__law_by_chain) (C__law_chain : Cal P w K mg base "_law_chain" 2 1 VM.S__law_chain) (C__law_common : Cal P w K mg base "_law_common" 2 1 VM.S__law_common) (C__law_corner : Cal P w K mg base "_law_corner" 2 3 VM.S__law_corner) (C__law_led : Cal P w K mg base "_law_led" 2 1 VM.S__law_led) (C__law_same : Cal P w K mg base "_law_same" 2 10 (VM.S__law_same 9)) (C__law_table : Cal P w K mg base "_law_table" 1 3 VM.S__law_table) (C__law_turn : Cal P w K mg base "_law_turn" 2 1 VM.S__law_turn) (C__law_type : Cal P w K mg base "_law_type" 2 2 VM.S__law_type) (C_by_chain : Cal P w K mg base "by_chain" 1 3 VM.S_by_chain) (C_chain : Cal P w K mg base "chain" 2 3 VM.S_chain) (C_type_of : Cal P w K mg base "type_of" 2 7 VM.S_type_of) (C__law_draw : Cal P w K mg base "_law_draw" 2 1 S__law_draw) (F : FnP K "_law_is_right" (topS 42) f fd) (hg : mg "_law_is_right" = some (.ref f)) : Cal P w K mg base "_law_is_right" 2 11 V09.S__law_is_right :=
  cal_of F hg sc__law_is_right rfl (fun _ _ _ _ _ _ us hl => match us, hl with | [_, _], _ => rfl) (fun cdv A outer s H hr => d__law_is_right T _ _ _ _ _ _ _ _ _ _ _ _ _ _ C__law_any C__law_by_chain C__law_chain C__law_common C__law_corner C__law_draw C__law_led C__law_same C__law_table C__law_turn C__law_type C_by_chain C_chain C_type_of (Nat.le_refl _) hr) V09.v__law_is_right
theorem a__law_is_row_right (T : Facts mg) (C__law_any : Cal P w K mg base "_law_any" 2 2 VM.S__law_any) (C__law_by_chain : Cal P w K mg base "_law_by_chain" 1 1 VM.S__law_by_chain) (C__law_common : Cal P w K mg base "_law_common" 2 1 VM.S__law_common) (C__law_same : Cal P w K mg base "_law_same" 2 10 (VM.S__law_same 9)) (C_by_chain : Cal P w K mg base "by_chain" 1 3 VM.S_by_chain) (C_chain : Cal P w K mg base "chain" 2 3 VM.S_chain) (C__law_draw : Cal P w K mg base "_law_draw" 2 1 S__law_draw) (F : FnP K "_law_is_row_right" (topS 43) f fd) (hg : mg "_law_is_row_right" = some (.ref f)) : Cal P w K mg base "_law_is_row_right" 1 11 VM.S__law_is_row_right :=
  cal_of F hg sc__law_is_row_right rfl (fun _ _ _ _ _ _ us hl => match us, hl with | [_], _ => rfl) (fun cdv A outer s H hr => d__law_is_row_right T _ _ _ _ _ _ _ C__law_any C__law_by_chain C__law_common C__law_draw C__law_same C_by_chain C_chain (Nat.le_refl _) hr) VM.v__law_is_row_right
theorem a_law (T : Facts mg) (FH : FnP K "_law_hand" (topS 29) fH fdH) (gH : mg "_law_hand" = some (.ref fH)) (C__law_any : Cal P w K mg base "_law_any" 2 2 VM.S__law_any) (C__law_is_right : Cal P w K mg base "_law_is_right" 2 11 V09.S__law_is_right) (C__law_is_row_right : Cal P w K mg base "_law_is_row_right" 1 11 VM.S__law_is_row_right) (C__law_same : Cal P w K mg base "_law_same" 2 10 (VM.S__law_same 9)) (C_by_chain : Cal P w K mg base "by_chain" 1 3 VM.S_by_chain) (C_chain : Cal P w K mg base "chain" 2 3 VM.S_chain) (C_type_of : Cal P w K mg base "type_of" 2 7 VM.S_type_of) (F : FnP K "law" (topS 44) f fd) : FnG P w K mg base 12 f fd ["script"] (spLaw K) :=
  fnG_law (st := (defBody (topS 44)).getD 0 (.Pass ⟨0, 0, 0, 0⟩)) (rest := (defBody (topS 44)).drop 1) (N := ["script", "hand", "heard", "lap"]) F sc_law (by decide) ((a__law_hand T FH).mono (by decide))
    (fun cdv A outer s H hr => ps_set (i := 1) sc_law.nd rfl (loc_by (sc := (defScope (topS 44))) (by decide +kernel)) (pe_callG (a__law_hand T FH) (hr.mono (by decide)) (gl_by (defScope (topS 44))) gH FH.kp (FH.bindsN (fun _ _ _ _ _ _ us hl => match us, hl with | [_], _ => rfl)) (pa_cons (pe_var (i := 0) rfl (vis_by (sc := (defScope (topS 44))) (by decide +kernel))) pa_nil) (by decide) rfl rfl) rfl (.inl rfl))
    (fun cdv A outer s H hr => d_law T _ _ _ _ _ _ _ C__law_any C__law_is_right C__law_is_row_right C__law_same C_by_chain C_chain C_type_of (Nat.le_refl _) hr) V09.v_law_rest
end
def dfD (x : Str) (i : Nat) : He.DefD := ⟨(x, none), x, x, defArgs (topS i), defBody (topS i), defScope (topS i), [], []⟩
def fn : List He.DefD := ([dfD "is_integer" 9, dfD "is_within" 10, dfD "is_dot" 11, dfD "common_divisor" 12, dfD "is_ray" 13, dfD "check_ray" 14, dfD "raw_turn" 15, dfD "factors" 16, dfD "any_with_turn" 17, dfD "check_corner" 18, dfD "raw_type" 23, dfD "type_of" 24, dfD "raw_chain" 25, dfD "chain" 26, dfD "by_chain" 27, dfD "_law_hand" 29, dfD "_law_draw" 30, dfD "_law_any" 31, dfD "_law_same" 32, dfD "_law_common" 33, dfD "_law_turn" 34, dfD "_law_ray" 35, dfD "_law_table" 36, dfD "_law_led" 37, dfD "_law_corner" 38, dfD "_law_type" 39, dfD "_law_chain" 40, dfD "_law_by_chain" 41] : List He.DefD) ++ ([dfD "_law_is_right" 42, dfD "_law_is_row_right" 43, dfD "law" 44] : List He.DefD)
def fa : List He.Fa := ([.glo "is_integer", .glo "is_within", .glo "is_dot", .glo "common_divisor", .glo "is_ray", .glo "check_ray", .glo "raw_turn", .glo "factors", .glo "any_with_turn", .glo "check_corner", .glo "raw_type", .glo "type_of", .glo "raw_chain", .glo "chain", .glo "by_chain", .glo "_law_hand", .glo "_law_draw", .glo "_law_any", .glo "_law_same", .glo "_law_common", .glo "_law_turn", .glo "_law_ray", .glo "_law_table", .glo "_law_led", .glo "_law_corner", .glo "_law_type", .glo "_law_chain", .glo "_law_by_chain"] : List He.Fa) ++ ([.glo "_law_is_right", .glo "_law_is_row_right", .glo "law", .free "abs", .free "all", .free "bool", .free "int", .free "isinstance", .free "len", .free "list", .free "max", .free "min", .free "range", .free "tuple", .free "zip", .int "MOST_CHAINED" 10000, .int "MOST_PART" 1000, .int "MOST_PLACE" 10000, .int "MOST_ROW" 20] : List He.Fa)
abbrev R : PySem.W.OpenRow := PySem.W.OpenLaw.row PySem.Challenge.rw_fanrounds_k09_whole_types_and_chains
abbrev hk : PySem.W.Hook := He.hookD 4 fa fn
def ob (s : PySem.W.SharedT) : He.AlD := He.obsDG 4 fa fn (HandSHeadRun.getT s)
theorem ob_eq (s : PySem.W.SharedT) : ob s = hk.obs s.abs := He.obsDG_eq (HandSHeadRun.getT_eq s)
def nms : List Str := (["FanError", "NoRay", "NoCorner", "NoNumber", "Common", "NoRow", "MOST_PLACE", "is_integer", "is_within", "is_dot", "common_divisor", "is_ray", "check_ray", "raw_turn", "factors", "any_with_turn", "check_corner", "MOST_CHAINED", "MOST_ROW", "MOST_PART", "raw_type", "type_of", "raw_chain", "chain", "by_chain", "_law_hand", "_law_draw", "_law_any"] : List Str) ++ (["_law_same", "_law_common", "_law_turn", "_law_ray", "_law_table", "_law_led", "_law_corner", "_law_type", "_law_chain", "_law_by_chain", "_law_is_right", "_law_is_row_right"] : List Str)
theorem run (w : World) : HandSHeadRun.RunEq R (PySem.W.view R.prog [44]) hk ob 8000 nms w := by
  intro os
  kernel_rfl
theorem facts {K : PySem.W.Frag} {h : Heap} {mg : Str → Option Value} (X : K.In h) (G : h.Ns mainGlobals mg) (c : He.SaysD fa fn K) : Facts mg := ⟨He.free_ok X G (c.fact 31 rfl), He.free_ok X G (c.fact 32 rfl), He.free_ok X G (c.fact 33 rfl), He.free_ok X G (c.fact 34 rfl), He.free_ok X G (c.fact 35 rfl), He.free_ok X G (c.fact 36 rfl), He.free_ok X G (c.fact 37 rfl), He.free_ok X G (c.fact 38 rfl), He.free_ok X G (c.fact 39 rfl), He.free_ok X G (c.fact 40 rfl), He.free_ok X G (c.fact 41 rfl), He.free_ok X G (c.fact 42 rfl), He.int_ok X G (c.fact 43 rfl), He.int_ok X G (c.fact 44 rfl), He.int_ok X G (c.fact 45 rfl), He.int_ok X G (c.fact 46 rfl)⟩
theorem all_ {P : Program} {w : World} {K : PySem.W.Frag} {h : Heap} {mg : Str → Option Value} {f : Addr} (X : K.In h) (G : h.Ns mainGlobals mg) (hfa : mg ("law" : Str) = some (.ref f)) (c : He.SaysD fa fn K) :
    ∃ fd : FuncData, (∀ (s : Shared) (v : Value), BindsTo s fd ⟨[v], []⟩ [("script", v)]) ∧ ∀ base : Heap, K.In base → base.Ns mainGlobals mg → FnG P w K mg base 12 f fd ["script"] (spLaw K) := by
  have T := facts X G c
  obtain ⟨fd__law_hand, F__law_hand⟩ := c.def_ 15 (d := dfD "_law_hand" 29) rfl
  have g__law_hand : mg "_law_hand" = _ := He.glo_ok X G (c.fact 15 (f := .glo "_law_hand") rfl)
  obtain ⟨fd__law_draw, F__law_draw⟩ := c.def_ 16 (d := dfD "_law_draw" 30) rfl
  have g__law_draw : mg "_law_draw" = _ := He.glo_ok X G (c.fact 16 (f := .glo "_law_draw") rfl)
  obtain ⟨fd__law_any, F__law_any⟩ := c.def_ 17 (d := dfD "_law_any" 31) rfl
  have g__law_any : mg "_law_any" = _ := He.glo_ok X G (c.fact 17 (f := .glo "_law_any") rfl)
  obtain ⟨fd__law_by_chain, F__law_by_chain⟩ := c.def_ 27 (d := dfD "_law_by_chain" 41) rfl
  have g__law_by_chain : mg "_law_by_chain" = _ := He.glo_ok X G (c.fact 27 (f := .glo "_law_by_chain") rfl)
  obtain ⟨fd__law_chain, F__law_chain⟩ := c.def_ 26 (d := dfD "_law_chain" 40) rfl
  have g__law_chain : mg "_law_chain" = _ := He.glo_ok X G (c.fact 26 (f := .glo "_law_chain") rfl)
  obtain ⟨fd__law_common, F__law_common⟩ := c.def_ 19 (d := dfD "_law_common" 33) rfl
  have g__law_common : mg "_law_common" = _ := He.glo_ok X G (c.fact 19 (f := .glo "_law_common") rfl)
  obtain ⟨fd__law_ray, F__law_ray⟩ := c.def_ 21 (d := dfD "_law_ray" 35) rfl
  have g__law_ray : mg "_law_ray" = _ := He.glo_ok X G (c.fact 21 (f := .glo "_law_ray") rfl)
  obtain ⟨fd__law_turn, F__law_turn⟩ := c.def_ 20 (d := dfD "_law_turn" 34) rfl
  have g__law_turn : mg "_law_turn" = _ := He.glo_ok X G (c.fact 20 (f := .glo "_law_turn") rfl)
  obtain ⟨fd__law_corner, F__law_corner⟩ := c.def_ 24 (d := dfD "_law_corner" 38) rfl
  have g__law_corner : mg "_law_corner" = _ := He.glo_ok X G (c.fact 24 (f := .glo "_law_corner") rfl)
  obtain ⟨fd__law_led, F__law_led⟩ := c.def_ 23 (d := dfD "_law_led" 37) rfl
  have g__law_led : mg "_law_led" = _ := He.glo_ok X G (c.fact 23 (f := .glo "_law_led") rfl)
  obtain ⟨fd__law_same, F__law_same⟩ := c.def_ 18 (d := dfD "_law_same" 32) rfl
  have g__law_same : mg "_law_same" = _ := He.glo_ok X G (c.fact 18 (f := .glo "_law_same") rfl)
  obtain ⟨fd__law_table, F__law_table⟩ := c.def_ 22 (d := dfD "_law_table" 36) rfl
  have g__law_table : mg "_law_table" = _ := He.glo_ok X G (c.fact 22 (f := .glo "_law_table") rfl)
  obtain ⟨fd__law_type, F__law_type⟩ := c.def_ 25 (d := dfD "_law_type" 39) rfl
  have g__law_type : mg "_law_type" = _ := He.glo_ok X G (c.fact 25 (f := .glo "_law_type") rfl)
  obtain ⟨fd_is_integer, F_is_integer⟩ := c.def_ 0 (d := dfD "is_integer" 9) rfl
  have g_is_integer : mg "is_integer" = _ := He.glo_ok X G (c.fact 0 (f := .glo "is_integer") rfl)
  obtain ⟨fd_is_within, F_is_within⟩ := c.def_ 1 (d := dfD "is_within" 10) rfl
  have g_is_within : mg "is_within" = _ := He.glo_ok X G (c.fact 1 (f := .glo "is_within") rfl)
  obtain ⟨fd_by_chain, F_by_chain⟩ := c.def_ 14 (d := dfD "by_chain" 27) rfl
  have g_by_chain : mg "by_chain" = _ := He.glo_ok X G (c.fact 14 (f := .glo "by_chain") rfl)
  obtain ⟨fd_common_divisor, F_common_divisor⟩ := c.def_ 3 (d := dfD "common_divisor" 12) rfl
  have g_common_divisor : mg "common_divisor" = _ := He.glo_ok X G (c.fact 3 (f := .glo "common_divisor") rfl)
  obtain ⟨fd_raw_chain, F_raw_chain⟩ := c.def_ 12 (d := dfD "raw_chain" 25) rfl
  have g_raw_chain : mg "raw_chain" = _ := He.glo_ok X G (c.fact 12 (f := .glo "raw_chain") rfl)
  obtain ⟨fd_chain, F_chain⟩ := c.def_ 13 (d := dfD "chain" 26) rfl
  have g_chain : mg "chain" = _ := He.glo_ok X G (c.fact 13 (f := .glo "chain") rfl)
  obtain ⟨fd_is_dot, F_is_dot⟩ := c.def_ 2 (d := dfD "is_dot" 11) rfl
  have g_is_dot : mg "is_dot" = _ := He.glo_ok X G (c.fact 2 (f := .glo "is_dot") rfl)
  obtain ⟨fd_is_ray, F_is_ray⟩ := c.def_ 4 (d := dfD "is_ray" 13) rfl
  have g_is_ray : mg "is_ray" = _ := He.glo_ok X G (c.fact 4 (f := .glo "is_ray") rfl)
  obtain ⟨fd_check_ray, F_check_ray⟩ := c.def_ 5 (d := dfD "check_ray" 14) rfl
  have g_check_ray : mg "check_ray" = _ := He.glo_ok X G (c.fact 5 (f := .glo "check_ray") rfl)
  obtain ⟨fd_raw_turn, F_raw_turn⟩ := c.def_ 6 (d := dfD "raw_turn" 15) rfl
  have g_raw_turn : mg "raw_turn" = _ := He.glo_ok X G (c.fact 6 (f := .glo "raw_turn") rfl)
  obtain ⟨fd_check_corner, F_check_corner⟩ := c.def_ 9 (d := dfD "check_corner" 18) rfl
  have g_check_corner : mg "check_corner" = _ := He.glo_ok X G (c.fact 9 (f := .glo "check_corner") rfl)
  obtain ⟨fd_factors, F_factors⟩ := c.def_ 7 (d := dfD "factors" 16) rfl
  have g_factors : mg "factors" = _ := He.glo_ok X G (c.fact 7 (f := .glo "factors") rfl)
  obtain ⟨fd_any_with_turn, F_any_with_turn⟩ := c.def_ 8 (d := dfD "any_with_turn" 17) rfl
  have g_any_with_turn : mg "any_with_turn" = _ := He.glo_ok X G (c.fact 8 (f := .glo "any_with_turn") rfl)
  obtain ⟨fd_raw_type, F_raw_type⟩ := c.def_ 10 (d := dfD "raw_type" 23) rfl
  have g_raw_type : mg "raw_type" = _ := He.glo_ok X G (c.fact 10 (f := .glo "raw_type") rfl)
  obtain ⟨fd_type_of, F_type_of⟩ := c.def_ 11 (d := dfD "type_of" 24) rfl
  have g_type_of : mg "type_of" = _ := He.glo_ok X G (c.fact 11 (f := .glo "type_of") rfl)
  obtain ⟨fd__law_is_right, F__law_is_right⟩ := c.def_ 28 (d := dfD "_law_is_right" 42) rfl
  have g__law_is_right : mg "_law_is_right" = _ := He.glo_ok X G (c.fact 28 (f := .glo "_law_is_right") rfl)
  obtain ⟨fd__law_is_row_right, F__law_is_row_right⟩ := c.def_ 29 (d := dfD "_law_is_row_right" 43) rfl
  have g__law_is_row_right : mg "_law_is_row_right" = _ := He.glo_ok X G (c.fact 29 (f := .glo "_law_is_row_right") rfl)
  obtain ⟨fd_law, F_law⟩ := c.def_ 30 (d := dfD "law" 44) rfl
  have e := hfa.symm.trans (He.glo_ok X G (c.fact 30 (f := .glo "law") rfl))
  cases e
  have b := FunD.bindsA (ps := ["script"]) F_law fun _ _ _ _ _ _ us hl => match us, hl with | [_], _ => rfl
  refine ⟨fd_law, fun s v => b s [v] rfl, fun base _ _ => ?_⟩
  have C__law_draw := a__law_draw (P := P) (w := w) (base := base) T F__law_draw g__law_draw
  have C__law_any := a__law_any (P := P) (w := w) (base := base) T C__law_draw F__law_any g__law_any
  have C__law_by_chain := a__law_by_chain (P := P) (w := w) (base := base) T F__law_by_chain g__law_by_chain
  have C__law_chain := a__law_chain (P := P) (w := w) (base := base) T F__law_chain g__law_chain
  have C__law_common := a__law_common (P := P) (w := w) (base := base) T F__law_common g__law_common
  have C__law_ray := a__law_ray (P := P) (w := w) (base := base) T C__law_common C__law_draw F__law_ray g__law_ray
  have C__law_turn := a__law_turn (P := P) (w := w) (base := base) T F__law_turn g__law_turn
  have C__law_corner := a__law_corner (P := P) (w := w) (base := base) T C__law_ray C__law_turn F__law_corner g__law_corner
  have C__law_led := a__law_led (P := P) (w := w) (base := base) T F__law_led g__law_led
  have C__law_same := a__law_same (P := P) (w := w) (base := base) T F__law_same g__law_same 9
  have C__law_table := a__law_table (P := P) (w := w) (base := base) T C__law_any C__law_draw F__law_table g__law_table
  have C__law_type := a__law_type (P := P) (w := w) (base := base) T C__law_turn F__law_type g__law_type
  have C_is_integer := a_is_integer (P := P) (w := w) (base := base) T F_is_integer g_is_integer
  have C_is_within := a_is_within (P := P) (w := w) (base := base) T C_is_integer F_is_within g_is_within
  have C_by_chain := a_by_chain (P := P) (w := w) (base := base) T C_is_within F_by_chain g_by_chain
  have C_common_divisor := a_common_divisor (P := P) (w := w) (base := base) T F_common_divisor g_common_divisor
  have C_raw_chain := a_raw_chain (P := P) (w := w) (base := base) T F_raw_chain g_raw_chain
  have C_chain := a_chain (P := P) (w := w) (base := base) T C_common_divisor C_is_within C_raw_chain F_chain g_chain
  have C_is_dot := a_is_dot (P := P) (w := w) (base := base) T C_is_within F_is_dot g_is_dot
  have C_is_ray := a_is_ray (P := P) (w := w) (base := base) T C_common_divisor C_is_dot F_is_ray g_is_ray
  have C_check_ray := a_check_ray (P := P) (w := w) (base := base) T C_is_ray F_check_ray g_check_ray
  have C_raw_turn := a_raw_turn (P := P) (w := w) (base := base) T F_raw_turn g_raw_turn
  have C_check_corner := a_check_corner (P := P) (w := w) (base := base) T C_check_ray C_raw_turn F_check_corner g_check_corner
  have C_factors := a_factors (P := P) (w := w) (base := base) T F_factors g_factors
  have C_any_with_turn := a_any_with_turn (P := P) (w := w) (base := base) T C_factors F_any_with_turn g_any_with_turn
  have C_raw_type := a_raw_type (P := P) (w := w) (base := base) T C_any_with_turn C_raw_turn F_raw_type g_raw_type
  have C_type_of := a_type_of (P := P) (w := w) (base := base) T C_check_corner C_raw_type F_type_of g_type_of
  have C__law_is_right := a__law_is_right (P := P) (w := w) (base := base) T C__law_any C__law_by_chain C__law_chain C__law_common C__law_corner C__law_led C__law_same C__law_table C__law_turn C__law_type C_by_chain C_chain C_type_of C__law_draw F__law_is_right g__law_is_right
  have C__law_is_row_right := a__law_is_row_right (P := P) (w := w) (base := base) T C__law_any C__law_by_chain C__law_common C__law_same C_by_chain C_chain C__law_draw F__law_is_row_right g__law_is_row_right
  exact a_law T F__law_hand g__law_hand C__law_any C__law_is_right C__law_is_row_right C__law_same C_by_chain C_chain C_type_of F_law
end K09
open PySem PySem.W PySem.Calls PyProof.Rows
theorem PySem.Challenge.cw_fanrounds_k09_whole_types_and_chains_holds : PySem.Challenge.rw_fanrounds_k09_whole_types_and_chains.Holds := by
  w_on; o_law
  refine HandSHeadRun.head_any (r := K09.R) (q := view K09.R.prog [44]) (H := K09.hk) (ob := K09.ob) (M := 8000) (loose := K09.nms) (d := HandSHeadRun.topDef K09.R.prog 44) (kwd := []) K09.ob_eq
    (by kernel_rfl) (fun s => by kernel_rfl) K09.run (by kernel_rfl) (by kernel_rfl) (by kernel_rfl) (by rfl) (by first | assumption | decide +kernel) (by decide +kernel) ⟨rfl, rfl, rfl, rfl, rfl, by decide +kernel⟩ ?hw ?hc
  case hw => w_witness2
  case hc =>
    refine VE.walkG (l := PySem.Challenge.rw_fanrounds_k09_whole_types_and_chains) (k := 12) (x := "script") rfl (by kernel_rfl) ⟨⟨rfl, by decide, by decide⟩, rfl⟩ ?F
    intro w mg fa h Y G hmg0
    obtain ⟨K, KX, c⟩ := Y
    have hmg : mg ("law" : PySem.Str) = some (.ref fa) := by
      have e : (HandSHeadRun.topDef K09.R.prog 44).name = ("law" : PySem.Str) := by kernel_rfl
      rw [← e]
      exact hmg0
    obtain ⟨fd, hb, hF⟩ := K09.all_ (P := PySem.Challenge.rw_fanrounds_k09_whole_types_and_chains.prog) (w := w) KX G hmg c
    exact ⟨K, fd, KX, hb, hF⟩
end
