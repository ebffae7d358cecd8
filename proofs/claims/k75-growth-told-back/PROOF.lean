import PyProof.Rows.All
import HandS.ForMost
import HandS.IsInst
import HandS.Deep
import HandS.Flow
import HandS.Zip
import HandS.Style
import HandS.TupAny
import HandS.Wide
import KE.DataMinMax
import KE.SortData
import KE.Datum
import HandS.More
import HandS.Defaults
import HandS.HeadHook4
import HandS.Head2
import HandS.HeadEnd
import HandS.RaiseMore
import PyProof.ReprRoads
import HandS.SortRule
import HandS.SortInts
import HandS.TupSets
import KE.GoesComp
import KE.GoesMore
import KE.KDictCopyH
import HandS.TupLen
import HandS.Conv
import KE.KIndexOf
import PyProof.Draws
import HandS.HeadWalk
import PySem.Challenge.RW_fanrounds_k75_whole_growth_told_back
section
set_option Elab.async false
set_option linter.all false
set_option maxRecDepth 100000
namespace VE
open PySem PySem.Spec PyProof.Rows L2

/-! ### plain values -/
inductive PV where
  | non | bl (b : Bool) | int (i : Int) | str (x : Str)
  | tup (xs : List PV) | lst (xs : List PV) | dct0 | hnd | ty (n : String) | fnc (x : Str)
  | ins (c : Str) (ns : List Str) (vs : List PV)
  | ptr (a : Addr)

structure Gh where
  K : PySem.W.Frag
  mg : Str → Option Value
  hO : Option Addr

mutual
inductive Rep (G : Gh) (F : Hp) : V → PV → Prop
  | non : Rep G F .non .non
  | bl (b : Bool) : Rep G F (.bl b) (.bl b)
  | int (i : Int) : Rep G F (.int i) (.int i)
  | str (x : Str) : Rep G F (.str x) (.str x)
  | ty (n : String) : Rep G F (.ty n) (.ty n)
  | hnd {a : Addr} : G.hO = some a → Rep G F (.ref a) .hnd
  | fnc {a : Addr} {x : Str} : G.mg x = some (.ref a) → Rep G F (.ref a) (.fnc x)
  | tup {a : Addr} {vs : List V} {ps : List PV} : SqT G.K F a vs → Reps G F vs ps → Rep G F (.ref a) (.tup ps)
  | lst {a : Addr} {vs : List V} {ps : List PV} : F a = some (.lst vs) → Reps G F vs ps → Rep G F (.ref a) (.lst ps)
  | dct0 {a : Addr} : F a = some (.dK []) → Rep G F (.ref a) .dct0
  | ptr (a : Addr) : Rep G F (.ref a) (.ptr a)
  | ins {a C dx : Addr} {c : Str} {fs : List (Str × V)} {ns : List Str} {ps : List PV} : G.mg c = some (.ref C) → F a = some (.ins C dx fs) → F dx = some (.own a) → fs.map (·.1) = ns → Reps G F (fs.map (·.2)) ps → Rep G F (.ref a) (.ins c ns ps)
inductive Reps (G : Gh) (F : Hp) : List V → List PV → Prop
  | nil : Reps G F [] []
  | cons {v : V} {p : PV} {vs : List V} {ps : List PV} : Rep G F v p → Reps G F vs ps → Reps G F (v :: vs) (p :: ps)
end

theorem Same.sqt {K : PySem.W.Frag} {F F' : Hp} {a : Addr} {xs : List V} (h : Same F F') (q : SqT K F a xs) : SqT K F' a xs := by
  rcases q with (q | ⟨o, q⟩) | q
  · exact .inl (.inl (h _ _ q))
  · exact .inl (.inr ⟨o, h _ _ q⟩)
  · exact .inr q

section
variable {G : Gh} {F F' : Hp}
mutual
theorem Rep.mono (hs : Same F F') : ∀ {v : V} {p : PV}, Rep G F v p → Rep G F' v p
  | _, _, .non => .non
  | _, _, .bl b => .bl b
  | _, _, .int b => .int b
  | _, _, .str b => .str b
  | _, _, .ty b => .ty b
  | _, _, .hnd h => .hnd h
  | _, _, .fnc h => .fnc h
  | _, _, .tup h r => .tup (Same.sqt hs h) (Reps.mono hs r)
  | _, _, .lst h r => .lst (hs _ _ h) (Reps.mono hs r)
  | _, _, .dct0 h => .dct0 (hs _ _ h)
  | _, _, .ptr a => .ptr a
  | _, _, .ins h1 h2 h3 h4 r => .ins h1 (hs _ _ h2) (hs _ _ h3) h4 (Reps.mono hs r)
theorem Reps.mono (hs : Same F F') : ∀ {vs : List V} {ps : List PV}, Reps G F vs ps → Reps G F' vs ps
  | _, _, .nil => .nil
  | _, _, .cons h r => .cons (Rep.mono hs h) (Reps.mono hs r)
end
theorem Reps.length : ∀ {vs : List V} {ps : List PV}, Reps G F vs ps → vs.length = ps.length
  | _, _, .nil => rfl
  | _, _, .cons _ r => by simp [Reps.length r]
theorem Reps.get : ∀ {vs : List V} {ps : List PV} {i : Nat} {p : PV}, Reps G F vs ps → ps[i]? = some p → ∃ v, vs[i]? = some v ∧ Rep G F v p
  | _, _, _, _, .nil, e => by simp at e
  | _, _, 0, _, .cons h _, e => by simp at e; subst e; exact ⟨_, rfl, h⟩
  | _, _, i + 1, p, .cons _ r, e => by
    obtain ⟨v, h1, h2⟩ := Reps.get (i := i) (p := p) r (by simpa using e)
    exact ⟨v, by simpa using h1, h2⟩
theorem Reps.getV : ∀ {vs : List V} {ps : List PV} {i : Nat} {v : V}, Reps G F vs ps → vs[i]? = some v → ∃ p, ps[i]? = some p ∧ Rep G F v p
  | _, _, _, _, .nil, e => by simp at e
  | _, _, 0, _, .cons h _, e => by simp at e; subst e; exact ⟨_, rfl, h⟩
  | _, _, i + 1, v, .cons _ r, e => by
    obtain ⟨p, h1, h2⟩ := Reps.getV (i := i) (v := v) r (by simpa using e)
    exact ⟨p, by simpa using h1, h2⟩
theorem Reps.append : ∀ {vs us : List V} {ps qs : List PV}, Reps G F vs ps → Reps G F us qs → Reps G F (vs ++ us) (ps ++ qs)
  | _, _, _, _, .nil, s => s
  | _, _, _, _, .cons h r, s => .cons h (Reps.append r s)
theorem Reps.take : ∀ {vs : List V} {ps : List PV} (n : Nat), Reps G F vs ps → Reps G F (vs.take n) (ps.take n)
  | _, _, 0, _ => .nil
  | _, _, _ + 1, .nil => .nil
  | _, _, n + 1, .cons h r => .cons h (Reps.take n r)
theorem Reps.drop : ∀ {vs : List V} {ps : List PV} (n : Nat), Reps G F vs ps → Reps G F (vs.drop n) (ps.drop n)
  | _, _, 0, r => r
  | _, _, _ + 1, .nil => .nil
  | _, _, n + 1, .cons _ r => Reps.drop n r
theorem Reps.set : ∀ {vs : List V} {ps : List PV} {v : V} {p : PV} (n : Nat), Reps G F vs ps → Rep G F v p → Reps G F (vs.set n v) (ps.set n p)
  | _, _, _, _, _, .nil, _ => .nil
  | _, _, _, _, 0, .cons _ r, h => .cons h r
  | _, _, _, _, n + 1, .cons h r, q => .cons h (Reps.set n r q)
theorem Reps.eraseIdx : ∀ {vs : List V} {ps : List PV} (n : Nat), Reps G F vs ps → Reps G F (vs.eraseIdx n) (ps.eraseIdx n)
  | _, _, _, .nil => .nil
  | _, _, 0, .cons _ r => r
  | _, _, n + 1, .cons h r => .cons h (Reps.eraseIdx n r)
theorem Reps.reverse {vs : List V} {ps : List PV} (h : Reps G F vs ps) : Reps G F vs.reverse ps.reverse := by
  induction vs generalizing ps with
  | nil => cases h; exact .nil
  | cons v vs ih => cases h with | cons h1 h2 => rw [List.reverse_cons, List.reverse_cons]; exact Reps.append (ih h2) (.cons h1 .nil)
theorem Reps.ints : ∀ (ns : List Int), Reps G F (ns.map V.int) (ns.map PV.int)
  | [] => .nil
  | n :: ns => .cons (.int n) (Reps.ints ns)
theorem Reps.of_ints : ∀ {ns : List Int} {vs : List V}, Reps G F vs (ns.map PV.int) → vs = ns.map V.int
  | [], _, .nil => rfl
  | n :: ns, _, .cons h r => by cases h; rw [List.map_cons, Reps.of_ints r]
theorem Reps.of_bls : ∀ {ns : List Bool} {vs : List V}, Reps G F vs (ns.map PV.bl) → vs = ns.map V.bl
  | [], _, .nil => rfl
  | n :: ns, _, .cons h r => by cases h; rw [List.map_cons, Reps.of_bls r]
end

/-! ### slots, states -/
inductive Sl where
  | no | val (p : PV) | own (xs : List PV)
def Sl.pv : Sl → PV
  | .no => .non
  | .val p => p
  | .own xs => .lst xs
abbrev Rho := List Sl

structure Own (G : Gh) (Fr F H : Hp) (a : Addr) (vs : List V) (xs : List PV) : Prop where
  at_ : H a = some (.lst vs)
  rep : Reps G F vs xs
  nF : F a = none
  nh : G.hO ≠ some a
  nFr : Fr a = none

def HandR (G : Gh) (F H : Hp) : Prop := ∀ a, G.hO = some a → F a = none ∧ ∃ (c : Addr) (cs : List Int) (i b m n : Int),
  H a = some (.lst [.ref c, .int i, .int b, .int m, .int n]) ∧ F c = some (.lst (cs.map V.int)) ∧ cs.length ≤ 63 ∧ 0 ≤ i

structure RB (G : Gh) (Fr F H : Hp) : Prop where
  sub : Same F H
  fr : ∀ b o, Fr b = some o → H b = some o ∧ F b = none ∧ G.hO ≠ some b
  hand : HandR G F H

structure Rr (G : Gh) (Fr F : Hp) (σ : L2.St) (H : Hp) (ρ : Rho) : Prop extends RB G Fr F H where
  len : ρ.length = σ.length
  val : ∀ (i : Nat) (p : PV), ρ[i]? = some (Sl.val p) → ∃ v, σ[i]? = some (some v) ∧ Rep G F v p
  own : ∀ (i : Nat) (xs : List PV), ρ[i]? = some (Sl.own xs) → ∃ a vs, σ[i]? = some (some (V.ref a)) ∧ Own G Fr F H a vs xs
  sep : ∀ (i j : Nat) (xs ys : List PV) (a : Addr), ρ[i]? = some (Sl.own xs) → ρ[j]? = some (Sl.own ys) → σ[i]? = some (some (V.ref a)) → σ[j]? = some (some (V.ref a)) → i = j

def Apart (σ : L2.St) (ρ : Rho) (a : Addr) : Prop := ∀ (i : Nat) (ys : List PV), ρ[i]? = some (Sl.own ys) → σ[i]? ≠ some (some (V.ref a))

def RO (G : Gh) (Fr F : Hp) (σ : L2.St) (H : Hp) (ρ : Rho) (v : V) : Sl → Prop
  | .no => False
  | .val p => Rep G F v p
  | .own xs => ∃ a vs, v = .ref a ∧ Own G Fr F H a vs xs ∧ Apart σ ρ a

theorem same_upd {H : Hp} {p : Addr} {o : HO} (h : H p = none) : Same H (upd H p o) := fun b x e => by
  rw [upd_ne (ne_of_none e h)]; exact e

section
variable {G : Gh} {Fr F F' F1 F2 H H' H1 : Hp} {σ : L2.St} {ρ : Rho} {a p : Addr} {v : V}

theorem RB.nF (R : RB G Fr F H) (h : H a = none) : F a = none := Same.free R.sub h

/-- freezing an owned list -/
theorem RB.freeze {vs : List V} {xs : List PV} (R : RB G Fr F H) (o : Own G Fr F H a vs xs) : RB G Fr (upd F a (.lst vs)) H where
  sub := fun b x e => by
    by_cases hb : b = a
    · subst hb; rw [upd_same] at e; cases e; exact o.at_
    · rw [upd_ne hb] at e; exact R.sub b x e
  fr := fun b x e => by
    obtain ⟨h1, h2, h3⟩ := R.fr b x e
    have hb : b ≠ a := fun z => by subst z; rw [o.nFr] at e; cases e
    exact ⟨h1, by rw [upd_ne hb]; exact h2, h3⟩
  hand := fun b e => by
    obtain ⟨h1, c, cs, i, b', m, n, e1, e2, e3, e4⟩ := R.hand b e
    have hb : b ≠ a := fun z => by subst z; exact o.nh e
    refine ⟨by rw [upd_ne hb]; exact h1, c, cs, i, b', m, n, e1, ?_, e3, e4⟩
    exact same_upd o.nF _ _ e2
theorem Own.keep {vs : List V} {xs : List PV} {b : Addr} {ob : HO} (o : Own G Fr F H b vs xs) (q : F a = none) (h : b ≠ a) : Own G Fr (upd F a ob) H b vs xs :=
  ⟨o.at_, o.rep.mono (same_upd q), by rw [upd_ne h]; exact o.nF, o.nh, o.nFr⟩
theorem Rr.freeze {vs : List V} {xs : List PV} (R : Rr G Fr F σ H ρ) (o : Own G Fr F H a vs xs) (ap : Apart σ ρ a) : Rr G Fr (upd F a (.lst vs)) σ H ρ where
  toRB := R.toRB.freeze o
  len := R.len
  val := fun i p e => by
    obtain ⟨v, h1, h2⟩ := R.val i p e
    exact ⟨v, h1, h2.mono (same_upd o.nF)⟩
  own := fun i ys e => by
    obtain ⟨b, us, h1, h2⟩ := R.own i ys e
    exact ⟨b, us, h1, h2.keep o.nF (fun z => ap i ys e (by rw [h1, z]))⟩
  sep := R.sep
/-- a result as a plain value -/
theorem RO.pv {r : Sl} (R : Rr G Fr F σ H ρ) (h : RO G Fr F σ H ρ v r) : ∃ F', Same F F' ∧ Rr G Fr F' σ H ρ ∧ Rep G F' v r.pv := by
  cases r with
  | no => exact False.elim h
  | val p => exact ⟨F, Same.refl F, R, h⟩
  | own xs =>
    obtain ⟨b, vs, rfl, o, ap⟩ := h
    exact ⟨_, same_upd o.nF, R.freeze o ap, .lst upd_same (o.rep.mono (same_upd o.nF))⟩

/-- something new is laid and kept for good -/
theorem RB.laid {o : HO} (R : RB G Fr F H) (hp : H p = none) : RB G Fr (upd F p o) (upd H p o) where
  sub := fun b x e => by
    by_cases hb : b = p
    · subst hb; rw [upd_same] at e ⊢; exact e
    · rw [upd_ne hb] at e ⊢; exact R.sub b x e
  fr := fun b x e => by
    obtain ⟨h1, h2, h3⟩ := R.fr b x e
    have hb : b ≠ p := ne_of_none h1 hp
    exact ⟨by rw [upd_ne hb]; exact h1, by rw [upd_ne hb]; exact h2, h3⟩
  hand := fun b e => by
    obtain ⟨h1, c, cs, i, b', m, n, e1, e2, e3, e4⟩ := R.hand b e
    have hb : b ≠ p := ne_of_none e1 hp
    refine ⟨by rw [upd_ne hb]; exact h1, c, cs, i, b', m, n, by rw [upd_ne hb]; exact e1, ?_, e3, e4⟩
    exact same_upd (R.nF hp) _ _ e2
theorem Own.laid {vs : List V} {xs : List PV} {b : Addr} {ob : HO} (o : Own G Fr F H b vs xs) (R : RB G Fr F H) (hp : H p = none) : Own G Fr (upd F p ob) (upd H p ob) b vs xs := by
  have hb : b ≠ p := ne_of_none o.at_ hp
  exact ⟨by rw [upd_ne hb]; exact o.at_, o.rep.mono (same_upd (R.nF hp)), by rw [upd_ne hb]; exact o.nF, o.nh, o.nFr⟩
theorem Rr.laid {o : HO} (R : Rr G Fr F σ H ρ) (hp : H p = none) : Rr G Fr (upd F p o) σ (upd H p o) ρ where
  toRB := R.toRB.laid hp
  len := R.len
  val := fun i q e => by
    obtain ⟨v, h1, h2⟩ := R.val i q e
    exact ⟨v, h1, h2.mono (same_upd (R.nF hp))⟩
  own := fun i ys e => by
    obtain ⟨b, us, h1, h2⟩ := R.own i ys e
    exact ⟨b, us, h1, h2.laid R.toRB hp⟩
  sep := R.sep
/-- a new list, not yet kept -/
theorem RB.fresh {o : HO} (R : RB G Fr F H) (hp : H p = none) : RB G Fr F (upd H p o) where
  sub := R.sub.trans (same_upd hp)
  fr := fun b x e => by
    obtain ⟨h1, h2, h3⟩ := R.fr b x e
    exact ⟨same_upd hp _ _ h1, h2, h3⟩
  hand := fun b e => by
    obtain ⟨h1, c, cs, i, b', m, n, e1, e2, e3, e4⟩ := R.hand b e
    exact ⟨h1, c, cs, i, b', m, n, same_upd hp _ _ e1, e2, e3, e4⟩
theorem Rr.fresh {o : HO} (R : Rr G Fr F σ H ρ) (hp : H p = none) : Rr G Fr F σ (upd H p o) ρ where
  toRB := R.toRB.fresh hp
  len := R.len
  val := R.val
  own := fun i ys e => by
    obtain ⟨b, us, h1, h2⟩ := R.own i ys e
    exact ⟨b, us, h1, ⟨same_upd hp _ _ h2.at_, h2.rep, h2.nF, h2.nh, h2.nFr⟩⟩
  sep := R.sep
theorem RB.notHand (R : RB G Fr F H) (hp : H p = none) : G.hO ≠ some p := fun e => by
  obtain ⟨_, c, cs, i, b', m, n, e1, _⟩ := R.hand p e
  rw [hp] at e1; cases e1
theorem RB.notFr (R : RB G Fr F H) (hp : H p = none) : Fr p = none := by
  cases q : Fr p with
  | none => rfl
  | some o => have := (R.fr p o q).1; rw [hp] at this; cases this
theorem Rr.freshOwn {vs : List V} {xs : List PV} (R : Rr G Fr F σ H ρ) (hp : H p = none) (rs : Reps G F vs xs) : RO G Fr F σ (upd H p (.lst vs)) ρ (.ref p) (.own xs) :=
  ⟨p, vs, rfl, ⟨upd_same, rs, R.nF hp, R.notHand hp, R.notFr hp⟩, fun i ys e z => by
    obtain ⟨b, us, h1, h2⟩ := R.own i ys e
    rw [h1] at z; cases z
    have := h2.at_; rw [hp] at this; cases this⟩
/-- an owned list is written -/
theorem RB.write {vs ws : List V} {xs : List PV} (R : RB G Fr F H) (o : Own G Fr F H a vs xs) : RB G Fr F (upd H a (.lst ws)) where
  sub := fun b x e => by rw [upd_ne (ne_of_none e o.nF)]; exact R.sub b x e
  fr := fun b x e => by
    obtain ⟨h1, h2, h3⟩ := R.fr b x e
    exact ⟨by rw [upd_ne (ne_of_none e o.nFr)]; exact h1, h2, h3⟩
  hand := fun b e => by
    obtain ⟨h1, c, cs, i, b', m, n, e1, e2, e3, e4⟩ := R.hand b e
    have hb : b ≠ a := fun z => by subst z; exact o.nh e
    exact ⟨h1, c, cs, i, b', m, n, by rw [upd_ne hb]; exact e1, e2, e3, e4⟩
theorem Rr.write {vs ws : List V} {xs ys : List PV} {i : Nat} (R : Rr G Fr F σ H ρ) (hi : ρ[i]? = some (Sl.own xs)) (hσ : σ[i]? = some (some (V.ref a))) (o : Own G Fr F H a vs xs) (rs : Reps G F ws ys) :
    Rr G Fr F σ (upd H a (.lst ws)) (ρ.set i (.own ys)) where
  toRB := R.toRB.write o
  len := by rw [List.length_set]; exact R.len
  val := fun j p e => by
    by_cases hj : i = j
    · subst hj
      have hl : i < ρ.length := (List.getElem?_eq_some_iff.mp hi).1
      rw [List.getElem?_set_self hl] at e; cases e
    · rw [List.getElem?_set_ne hj] at e; exact R.val j p e
  own := fun j zs e => by
    by_cases hj : i = j
    · subst hj
      have hl : i < ρ.length := (List.getElem?_eq_some_iff.mp hi).1
      rw [List.getElem?_set_self hl] at e; cases e
      exact ⟨a, ws, hσ, upd_same, rs, o.nF, o.nh, o.nFr⟩
    · rw [List.getElem?_set_ne hj] at e
      obtain ⟨b, us, h1, h2⟩ := R.own j zs e
      have hb : b ≠ a := fun z => by subst z; exact hj (R.sep i j xs zs b hi e hσ h1)
      exact ⟨b, us, h1, by rw [upd_ne hb]; exact h2.at_, h2.rep, h2.nF, h2.nh, h2.nFr⟩
  sep := fun j k zs ws b e1 e2 h1 h2 => by
    have get : ∀ {j : Nat} {zs : List PV}, (ρ.set i (.own ys))[j]? = some (Sl.own zs) → ∃ zs', ρ[j]? = some (Sl.own zs') := fun {j zs} e => by
      by_cases hj : i = j
      · subst hj; exact ⟨xs, hi⟩
      · rw [List.getElem?_set_ne hj] at e; exact ⟨zs, e⟩
    obtain ⟨z1, g1⟩ := get e1
    obtain ⟨z2, g2⟩ := get e2
    exact R.sep j k z1 z2 b g1 g2 h1 h2
/-- a slot is stored -/
theorem Rr.set0 {r : Sl} {i : Nat} (R : Rr G Fr F σ H ρ) (h : RO G Fr F σ H ρ v r) (hi : i < σ.length) : Rr G Fr F (σ.set i (some v)) H (ρ.set i r) where
  toRB := R.toRB
  len := by rw [List.length_set, List.length_set]; exact R.len
  val := fun j p e => by
    by_cases hj : i = j
    · subst hj
      rw [List.getElem?_set_self (by rw [R.len]; exact hi)] at e
      rw [List.getElem?_set_self hi]
      cases e
      exact ⟨v, rfl, h⟩
    · rw [List.getElem?_set_ne hj] at e ⊢; exact R.val j p e
  own := fun j zs e => by
    by_cases hj : i = j
    · subst hj
      rw [List.getElem?_set_self (by rw [R.len]; exact hi)] at e
      rw [List.getElem?_set_self hi]
      cases e
      obtain ⟨a, vs, rfl, o, _⟩ := h
      exact ⟨a, vs, rfl, o⟩
    · rw [List.getElem?_set_ne hj] at e ⊢; exact R.own j zs e
  sep := fun j k zs ws b e1 e2 h1 h2 => by
    have hl : i < ρ.length := by rw [R.len]; exact hi
    by_cases hj : i = j <;> by_cases hk : i = k
    · exact hj.symm.trans hk
    · subst hj
      rw [List.getElem?_set_self hl] at e1; cases e1
      rw [List.getElem?_set_self hi] at h1
      rw [List.getElem?_set_ne hk] at e2 h2
      obtain ⟨a, vs, rfl, o, ap⟩ := h
      cases h1
      exact absurd h2 (ap k ws e2)
    · subst hk
      rw [List.getElem?_set_self hl] at e2; cases e2
      rw [List.getElem?_set_self hi] at h2
      rw [List.getElem?_set_ne hj] at e1 h1
      obtain ⟨a, vs, rfl, o, ap⟩ := h
      cases h2
      exact absurd h1 (ap j zs e1)
    · rw [List.getElem?_set_ne hj] at e1 h1
      rw [List.getElem?_set_ne hk] at e2 h2
      exact R.sep j k zs ws b e1 e2 h1 h2
theorem Rr.set {r : Sl} {i : Nat} (R : Rr G Fr F σ H ρ) (h : RO G Fr F σ H ρ v r) : Rr G Fr F (σ.set i (some v)) H (ρ.set i r) := by
  by_cases hi : i < σ.length
  · exact R.set0 h hi
  · rw [List.set_eq_of_length_le (by omega), List.set_eq_of_length_le (by rw [R.len]; omega)]
    exact R
/-- forgetting about a slot -/
theorem Rr.drop {i : Nat} (R : Rr G Fr F σ H ρ) : Rr G Fr F σ H (ρ.set i .no) where
  toRB := R.toRB
  len := by rw [List.length_set]; exact R.len
  val := fun j p e => by
    by_cases hj : i = j
    · subst hj
      by_cases hl : i < ρ.length
      · rw [List.getElem?_set_self hl] at e; cases e
      · rw [List.getElem?_eq_none (by rw [List.length_set]; omega)] at e; cases e
    · rw [List.getElem?_set_ne hj] at e; exact R.val j p e
  own := fun j p e => by
    by_cases hj : i = j
    · subst hj
      by_cases hl : i < ρ.length
      · rw [List.getElem?_set_self hl] at e; cases e
      · rw [List.getElem?_eq_none (by rw [List.length_set]; omega)] at e; cases e
    · rw [List.getElem?_set_ne hj] at e; exact R.own j p e
  sep := fun j k zs ws b e1 e2 h1 h2 => by
    have get : ∀ {j : Nat} {zs : List PV}, (ρ.set i Sl.no)[j]? = some (Sl.own zs) → ρ[j]? = some (Sl.own zs) := fun {j zs} e => by
      by_cases hj : i = j
      · subst hj
        by_cases hl : i < ρ.length
        · rw [List.getElem?_set_self hl] at e; cases e
        · rw [List.getElem?_eq_none (by rw [List.length_set]; omega)] at e; cases e
      · rw [List.getElem?_set_ne hj] at e; exact e
    exact R.sep j k zs ws b (get e1) (get e2) h1 h2
/-- reading a slot: what it holds is kept for good from now on -/
theorem Rr.read {i : Nat} {r : Sl} (R : Rr G Fr F σ H ρ) (hi : ρ[i]? = some r) (hr : r ≠ .no) : ∃ v F', σ[i]? = some (some v) ∧ Same F F' ∧ Rr G Fr F' σ H (ρ.set i (.val r.pv)) ∧ Rep G F' v r.pv := by
  have hl : i < ρ.length := (List.getElem?_eq_some_iff.mp hi).1
  cases r with
  | no => exact absurd rfl hr
  | val p =>
    obtain ⟨v, h1, h2⟩ := R.val i p hi
    have e : ρ.set i (.val p) = ρ := by
      apply List.ext_getElem?
      intro j
      by_cases hj : i = j
      · subst hj; rw [List.getElem?_set_self hl, hi]
      · rw [List.getElem?_set_ne hj]
    exact ⟨v, F, h1, Same.refl F, by show Rr G Fr F σ H (ρ.set i (.val p)); rw [e]; exact R, h2⟩
  | own xs =>
    obtain ⟨a, vs, h1, o⟩ := R.own i xs hi
    have R0 : Rr G Fr F σ H (ρ.set i .no) := R.drop
    have ap : Apart σ (ρ.set i .no) a := fun j ys e z => by
      by_cases hj : i = j
      · subst hj; rw [List.getElem?_set_self hl] at e; cases e
      · rw [List.getElem?_set_ne hj] at e
        exact hj (R.sep i j xs ys a hi e h1 z)
    have R1 := R0.freeze o ap
    have rp : Rep G (upd F a (.lst vs)) (.ref a) (.lst xs) := .lst upd_same (o.rep.mono (same_upd o.nF))
    have hs : i < σ.length := by rw [← R.len]; exact hl
    have R2 := R1.set (v := .ref a) (r := .val (.lst xs)) (i := i) rp
    have e1 : σ.set i (some (V.ref a)) = σ := by
      apply List.ext_getElem?
      intro j
      by_cases hj : i = j
      · subst hj; rw [List.getElem?_set_self hs, h1]
      · rw [List.getElem?_set_ne hj]
    rw [e1, List.set_set] at R2
    exact ⟨.ref a, _, h1, same_upd o.nF, R2, rp⟩
end
end VE
end
section
set_option Elab.async false
set_option linter.all false
set_option maxRecDepth 100000
namespace VE
open PySem PySem.Spec PyProof.Rows L2

/-! ### what is asked, by values -/
abbrev WE := Rho → (Sl → Rho → Prop) → Prop
abbrev WT := Rho → (Bool → Rho → Prop) → Prop
abbrev WA := Rho → (List PV → Rho → Prop) → Prop
structure EndsV where
  nx : Rho → Prop
  rt : Sl → Prop
  bk : Rho → Prop := fun _ => False
  ct : Rho → Prop := fun _ => False
abbrev WS := EndsV → Rho → Prop

def eE (K : PySem.W.Frag) (mg : Str → Option Value) (w : WE) : TE := fun σ H Q => ∃ (hO : Option Addr) (Fr F : Hp) (ρ : Rho) (Qv : Sl → Rho → Prop),
  Rr ⟨K, mg, hO⟩ Fr F σ H ρ ∧ w ρ Qv ∧ ∀ v H' F' r ρ', Same F F' → Rr ⟨K, mg, hO⟩ Fr F' σ H' ρ' → RO ⟨K, mg, hO⟩ Fr F' σ H' ρ' v r → Qv r ρ' → Q v H'
def eT (K : PySem.W.Frag) (mg : Str → Option Value) (w : WT) : TT := fun σ H Q => ∃ (hO : Option Addr) (Fr F : Hp) (ρ : Rho) (Qv : Bool → Rho → Prop),
  Rr ⟨K, mg, hO⟩ Fr F σ H ρ ∧ w ρ Qv ∧ ∀ b H' F' ρ', Same F F' → Rr ⟨K, mg, hO⟩ Fr F' σ H' ρ' → Qv b ρ' → Q b H'
def eA (K : PySem.W.Frag) (mg : Str → Option Value) (w : WA) : TA := fun σ H Q => ∃ (hO : Option Addr) (Fr F : Hp) (ρ : Rho) (Qv : List PV → Rho → Prop),
  Rr ⟨K, mg, hO⟩ Fr F σ H ρ ∧ w ρ Qv ∧ ∀ vs H' F' ps ρ', Same F F' → Rr ⟨K, mg, hO⟩ Fr F' σ H' ρ' → Reps ⟨K, mg, hO⟩ F' vs ps → Qv ps ρ' → Q vs H'
def eS (K : PySem.W.Frag) (mg : Str → Option Value) (w : WS) : TS := fun D σ H => ∃ (hO : Option Addr) (Fr F : Hp) (ρ : Rho) (DV : EndsV),
  Rr ⟨K, mg, hO⟩ Fr F σ H ρ ∧ w DV ρ ∧
  (∀ σ' H' F' ρ', Same F F' → Rr ⟨K, mg, hO⟩ Fr F' σ' H' ρ' → DV.nx ρ' → D.nx σ' H') ∧
  (∀ v H' F' r, Same F F' → RB ⟨K, mg, hO⟩ Fr F' H' → RO ⟨K, mg, hO⟩ Fr F' [] H' [] v r → DV.rt r → D.rt v H') ∧
  (∀ σ' H' F' ρ', Same F F' → Rr ⟨K, mg, hO⟩ Fr F' σ' H' ρ' → DV.bk ρ' → D.bk σ' H') ∧
  (∀ σ' H' F' ρ', Same F F' → Rr ⟨K, mg, hO⟩ Fr F' σ' H' ρ' → DV.ct ρ' → D.ct σ' H')

abbrev VE (X : Cx) (e : Expr) (w : WE) : Prop := PE X e (eE X.K X.mg w)
abbrev VT (X : Cx) (e : Expr) (w : WT) : Prop := PT X e (eT X.K X.mg w)
abbrev VA (X : Cx) (es : List Expr) (w : WA) : Prop := PA X es (eA X.K X.mg w)
abbrev VS (X : Cx) (s : Stmt) (w : WS) : Prop := PS X s (eS X.K X.mg w)
abbrev VSs (X : Cx) (s : List Stmt) (w : WS) : Prop := PSs X s (eS X.K X.mg w)

theorem PE.imp {X : Cx} {e : Expr} {t t' : TE} (h : PE X e t) (k : ∀ σ H Q, t' σ H Q → t σ H Q) : PE X e t' := ⟨fun pins s σ H Q I q => h.run pins s σ H Q I (k _ _ _ q)⟩
theorem PT.imp {X : Cx} {e : Expr} {t t' : TT} (h : PT X e t) (k : ∀ σ H Q, t' σ H Q → t σ H Q) : PT X e t' := ⟨fun pins s σ H Q I q => h.run pins s σ H Q I (k _ _ _ q)⟩
theorem PA.imp {X : Cx} {e : List Expr} {t t' : TA} (h : PA X e t) (k : ∀ σ H Q, t' σ H Q → t σ H Q) : PA X e t' := ⟨fun pos pins s σ H Q I q => h.run pos pins s σ H Q I (k _ _ _ q)⟩
theorem PS.imp {X : Cx} {e : Stmt} {t t' : TS} (h : PS X e t) (k : ∀ D σ H, t' D σ H → t D σ H) : PS X e t' := ⟨fun pins s σ H D I q => h.run pins s σ H D I (k _ _ _ q)⟩
theorem PSs.imp {X : Cx} {e : List Stmt} {t t' : TS} (h : PSs X e t) (k : ∀ D σ H, t' D σ H → t D σ H) : PSs X e t' := ⟨fun pins s σ H D I q => h.run pins s σ H D I (k _ _ _ q)⟩

section
variable {K : PySem.W.Frag} {mg : Str → Option Value} {hO : Option Addr} {Fr F : Hp} {σ : L2.St} {H : Hp} {ρ : Rho}
/-- the first part runs, its result is kept as a plain value -/
theorem eE.pv {w : WE} {Qv : PV → Rho → Prop} {Q : VK} (R : Rr ⟨K, mg, hO⟩ Fr F σ H ρ) (h : w ρ fun r ρ' => Qv r.pv ρ')
    (k : ∀ v H' F' p ρ', Same F F' → Rr ⟨K, mg, hO⟩ Fr F' σ H' ρ' → Rep ⟨K, mg, hO⟩ F' v p → Qv p ρ' → Q v H') : eE K mg w σ H Q :=
  ⟨hO, Fr, F, ρ, _, R, h, fun v H' F' r ρ' s R' o q => by
    obtain ⟨F2, s2, R2, rp⟩ := o.pv R'
    exact k v H' F2 r.pv ρ' (s.trans s2) R2 rp q⟩
end

/-! ### names, constants -/
def look : Rho → Nat → Sl
  | [], _ => .no
  | r :: _, 0 => r
  | _ :: t, n + 1 => look t n
theorem look_get : ∀ {ρ : Rho} {i : Nat} {r : Sl}, look ρ i = r → r ≠ .no → ρ[i]? = some r
  | [], _, _, h, n => absurd h.symm n
  | r :: _, 0, _, h, _ => by subst h; rfl
  | _ :: t, i + 1, r, h, n => by simpa using look_get (ρ := t) (i := i) h n
def wVar (i : Nat) : WE := fun ρ Q => match look ρ i with
  | .no => False
  | .val p => Q (.val p) ρ
  | .own xs => Q (.val (.lst xs)) (ρ.set i (.val (.lst xs)))
def wC (p : PV) : WE := fun ρ Q => Q (.val p) ρ
section
variable {X : Cx} {pos : Pos}
theorem ve_name {i : Nat} {x : Str} (hN : X.N[i]? = some x) (hv : Vis X.env.scope x) (hd : (x == ("__debug__" : Str)) = false := by decide) (hcd : (x == ("__classdict__" : Str)) = false := by decide) : VE X (.Name x pos) (wVar i) := by
  refine PE.imp (pe_var hN hv hd hcd) ?_
  rintro σ H Q ⟨hO, Fr, F, ρ, Qv, R, h, k⟩
  unfold wVar at h
  cases q : look ρ i with
  | no => rw [q] at h; exact h.elim
  | val p =>
    rw [q] at h
    have g := look_get q (by intro z; cases z)
    obtain ⟨v, e, rp⟩ := R.val i p g
    exact ⟨v, e, k v H F (.val p) ρ (Same.refl F) R rp h⟩
  | own xs =>
    rw [q] at h
    have g := look_get q (by intro z; cases z)
    obtain ⟨v, F', e, s, R', rp⟩ := R.read g (by intro z; cases z)
    exact ⟨v, e, k v H F' (.val (.lst xs)) _ s R' rp h⟩
theorem ve_const {e : Expr} {v : V} {p : PV} (h : PE X e (tC v)) (hr : ∀ G F, Rep G F v p) : VE X e (wC p) := by
  refine PE.imp h ?_
  rintro σ H Q ⟨hO, Fr, F, ρ, Qv, R, h, k⟩
  exact k v H F (.val p) ρ (Same.refl F) R (hr _ _) h
theorem ve_int {i j pos} : VE X (.Constant (.int i) j pos) (wC (.int i)) := ve_const pe_int fun _ _ => .int i
theorem ve_bl {i j pos} : VE X (.Constant (.bool i) j pos) (wC (.bl i)) := ve_const pe_bl fun _ _ => .bl i
theorem ve_str {i j pos} : VE X (.Constant (.str i) j pos) (wC (.str i)) := ve_const pe_str fun _ _ => .str i
theorem ve_non {j pos} : VE X (.Constant .none j pos) (wC .non) := ve_const pe_non fun _ _ => .non
/-- a module's constant that is an int, a text -/
theorem ve_gint {x : Str} {i : Int} (hg : Gl X x) (hm : ∃ t, X.mg x = some (.int i t)) (hd : (x == ("__debug__" : Str)) = false := by decide) : VE X (.Name x pos) (wC (.int i)) := by
  obtain ⟨t, hm⟩ := hm
  exact ve_const (pe_glob (v := .int i) hg hm ⟨t, rfl⟩ hd) fun _ _ => .int i
theorem ve_gstr {x y : Str} (hg : Gl X x) (hm : ∃ t, X.mg x = some (.str y t)) (hd : (x == ("__debug__" : Str)) = false := by decide) : VE X (.Name x pos) (wC (.str y)) := by
  obtain ⟨t, hm⟩ := hm
  exact ve_const (pe_glob (v := .str y) hg hm ⟨t, rfl⟩ hd) fun _ _ => .str y
theorem ve_gty {x : Str} {n : String} (hg : Gl X x) (hm : X.mg x = none) (hv : bootBuiltins x = some (.type n)) (hn : x ≠ "__name__" := by decide) (hd : (x == ("__debug__" : Str)) = false := by decide) : VE X (.Name x pos) (wC (.ty n)) :=
  ve_const (pe_bltn (v := .ty n) hg hm hv rfl hn hd) fun _ _ => .ty n
theorem ve_gfn {x : Str} {f : Addr} (hg : Gl X x) (hm : X.mg x = some (.ref f)) (hd : (x == ("__debug__" : Str)) = false := by decide) : VE X (.Name x pos) (wC (.fnc x)) := by
  refine PE.imp (pe_glob (v := .ref f) hg hm rfl hd) ?_
  rintro σ H Q ⟨hO, Fr, F, ρ, Qv, R, h, k⟩
  exact k (.ref f) H F (.val (.fnc x)) ρ (Same.refl F) R (Rep.fnc hm) h
end

/-! ### operators -/
abbrev OpV := PV → PV → (Sl → Prop) → Prop
abbrev UnV := PV → (Sl → Prop) → Prop
def wBin (op : OpV) (wa wb : WE) : WE := fun ρ Q => wa ρ fun r1 ρ1 => wb ρ1 fun r2 ρ2 => op r1.pv r2.pv fun r => Q r ρ2
def wUn (op : UnV) (wa : WE) : WE := fun ρ Q => wa ρ fun r1 ρ1 => op r1.pv fun r => Q r ρ1
/-- a rule of two values is served by op -/
def Ser (K : PySem.W.Frag) (mg : Str → Option Value) (r : R2) (op : OpV) : Prop := ∀ (hO : Option Addr) (Fr F : Hp) (σ : L2.St) (H : Hp) (ρ : Rho) (x y : V) (p q : PV) (Qv : Sl → Prop) (Q : VK),
  Rr ⟨K, mg, hO⟩ Fr F σ H ρ → Rep ⟨K, mg, hO⟩ F x p → Rep ⟨K, mg, hO⟩ F y q → op p q Qv →
  (∀ v H' F' r, Same F F' → Rr ⟨K, mg, hO⟩ Fr F' σ H' ρ → RO ⟨K, mg, hO⟩ Fr F' σ H' ρ v r → Qv r → Q v H') → r x y H Q
def SerU (K : PySem.W.Frag) (mg : Str → Option Value) (r : V → Hp → VK → Prop) (op : UnV) : Prop := ∀ (hO : Option Addr) (Fr F : Hp) (σ : L2.St) (H : Hp) (ρ : Rho) (x : V) (p : PV) (Qv : Sl → Prop) (Q : VK),
  Rr ⟨K, mg, hO⟩ Fr F σ H ρ → Rep ⟨K, mg, hO⟩ F x p → op p Qv →
  (∀ v H' F' r, Same F F' → Rr ⟨K, mg, hO⟩ Fr F' σ H' ρ → RO ⟨K, mg, hO⟩ Fr F' σ H' ρ v r → Qv r → Q v H') → r x H Q
section
variable {X : Cx} {pos : Pos} {a b : Expr} {wa wb : WE}
theorem ser_pe {r : R2} {op : OpV} (hs : Ser X.K X.mg r op) : ∀ σ H Q, eE X.K X.mg (wBin op wa wb) σ H Q → tOp r (eE X.K X.mg wa) (eE X.K X.mg wb) σ H Q := by
  rintro σ H Q ⟨hO, Fr, F, ρ, Qv, R, h, k⟩
  refine eE.pv (Qv := fun p ρ1 => wb ρ1 fun r2 ρ2 => op p r2.pv fun r => Qv r ρ2) R h fun x H1 F1 p ρ1 s1 R1 rp h1 => ?_
  refine eE.pv (Qv := fun q ρ2 => op p q fun r => Qv r ρ2) R1 h1 fun y H2 F2 q ρ2 s2 R2 rq h2 => ?_
  refine hs hO Fr F2 σ H2 ρ2 x y p q _ Q R2 (rp.mono s2) rq h2 fun v H' F' r s R' o q' => ?_
  exact k v H' F' r ρ2 ((s1.trans s2).trans s) R' o q'
theorem ve_bin {op : Operator} {r : R2} {f : OpV} (ho : OpR X (binaryOp op) r) (hs : Ser X.K X.mg r f) (ha : VE X a wa) (hb : VE X b wb) : VE X (.BinOp a op b pos) (wBin f wa wb) :=
  PE.imp (pe_op ho ha hb) (ser_pe hs)
theorem ve_cmp {op : CmpOp} {r : R2} {f : OpV} (ho : OpR X (compareOp op) r) (hs : Ser X.K X.mg r f) (ha : VE X a wa) (hb : VE X b wb) (hm : behindInMarks op b = false) : VE X (.Compare a [op] [b] pos) (wBin f wa wb) :=
  PE.imp (pe_cmpR ho ha hb hm) (ser_pe hs)
theorem ve_un {op : UnaryOp} {r : V → Hp → VK → Prop} {f : UnV} (ho : UnR X (unaryOp op) r) (hs : SerU X.K X.mg r f) (ha : VE X a wa) : VE X (.UnaryOp op a pos) (wUn f wa) := by
  refine PE.imp (pe_un ho ha) ?_
  rintro σ H Q ⟨hO, Fr, F, ρ, Qv, R, h, k⟩
  refine eE.pv (Qv := fun p ρ1 => f p fun r => Qv r ρ1) R h fun x H1 F1 p ρ1 s1 R1 rp h1 => ?_
  exact hs hO Fr F1 σ H1 ρ1 x p _ Q R1 rp h1 fun v H' F' r s R' o q' => k v H' F' r ρ1 (s1.trans s) R' o q'
end

/-! ints -/
def opInt (C : Int → Int → Prop) (g : Int → Int → PV) : OpV := fun p q Q => match p, q with
  | .int i, .int j => C i j ∧ Q (.val (g i j))
  | _, _ => False
theorem ser_rI {K mg} {C : Int → Int → Prop} {g : Int → Int → V} {g' : Int → Int → PV} (hg : ∀ i j G F, Rep G F (g i j) (g' i j)) : Ser K mg (rI C g) (opInt C g') := by
  intro hO Fr F σ H ρ x y p q Qv Q R rx ry h k
  unfold opInt at h
  split at h
  · cases rx; cases ry
    exact ⟨_, _, rfl, rfl, h.1, k _ H F (.val (g' _ _)) (Same.refl F) R (hg _ _ _ _) h.2⟩
  · exact h.elim
theorem ser_rI0 {K mg} {g : Int → Int → V} {g' : Int → Int → PV} (hg : ∀ i j G F, Rep G F (g i j) (g' i j)) : Ser K mg (rI0 g) (opInt (fun _ _ => True) g') := by
  intro hO Fr F σ H ρ x y p q Qv Q R rx ry h k
  unfold opInt at h
  split at h
  · cases rx; cases ry
    exact ⟨_, _, rfl, rfl, k _ H F (.val (g' _ _)) (Same.refl F) R (hg _ _ _ _) h.2⟩
  · exact h.elim

/-- + of ints, lists, tuples, texts -/
def opAdd : OpV := fun p q Q => match p, q with
  | .int i, .int j => Q (.val (.int (i + j)))
  | .lst xs, .lst ys => xs.length + ys.length ≤ sizeLine ∧ Q (.own (xs ++ ys))
  | .tup xs, .tup ys => xs.length + ys.length ≤ sizeLine ∧ Q (.val (.tup (xs ++ ys)))
  | .str x, .str y => x.length + y.length ≤ sizeLine ∧ Q (.val (.str (x ++ y)))
  | _, _ => False
def rAddStr : R2 := fun x y H Q => ∃ i j, x = .str i ∧ y = .str j ∧ i.length + j.length ≤ sizeLine ∧ Q (.str (i ++ j)) H
def rAddA (K : PySem.W.Frag) : R2 := fun x y H Q => rI0 (fun i j => .int (i + j)) x y H Q ∨ (rCat x y H Q ∨ (rCatA K x y H Q ∨ rAddStr x y H Q))
theorem op_addA {X : Cx} : OpR X (binaryOp .Add) (rAddA X.K) := op_add.or (op_cat.or (op_catA.or op_add_str))
theorem ser_add {K mg} : Ser K mg (rAddA K) opAdd := by
  intro hO Fr F σ H ρ x y p q Qv Q R rx ry h k
  unfold opAdd at h
  split at h
  · cases rx; cases ry
    exact .inl ⟨_, _, rfl, rfl, k _ H F (.val (.int _)) (Same.refl F) R (Rep.int _) h⟩
  · rename_i xs ys
    cases rx with
    | lst ex rxs =>
      cases ry with
      | lst ey rys =>
        rename_i b us a vs
        refine .inr (.inl ⟨_, _, _, _, rfl, rfl, R.sub _ _ ex, R.sub _ _ ey, by rw [rxs.length, rys.length]; exact h.1, fun p hp => ?_⟩)
        exact k _ _ F (.own (xs ++ ys)) (Same.refl F) (R.fresh hp) (R.freshOwn hp (rxs.append rys)) h.2
  · rename_i xs ys
    cases rx with
    | tup ex rxs =>
      cases ry with
      | tup ey rys =>
        rename_i b us a vs
        have ex' := Same.sqt R.sub ex
        have ey' := Same.sqt R.sub ey
        refine .inr (.inr (.inl ⟨_, _, _, _, rfl, rfl, ex', ey', by rw [rxs.length, rys.length]; exact h.1, fun e => ?_, fun _ e => ?_, fun _ _ p hp => ?_⟩))
        · subst e
          cases rxs
          exact k _ _ F (.val (.tup ys)) (Same.refl F) R (Rep.tup ey rys) h.2
        · subst e
          cases rys
          have h2 := h.2
          rw [List.append_nil] at h2
          exact k _ _ F (.val (.tup xs)) (Same.refl F) R (Rep.tup ex rxs) h2
        · have hF := R.nF hp
          exact k _ _ _ (.val (.tup (xs ++ ys))) (same_upd hF) (R.laid hp) (Rep.tup (SqT.of upd_same) ((rxs.append rys).mono (same_upd hF))) h.2
  · cases rx; cases ry
    exact .inr (.inr (.inr ⟨_, _, rfl, rfl, h.1, k _ H F (.val (.str _)) (Same.refl F) R (Rep.str _) h.2⟩))
  · exact h.elim
section
variable {X : Cx} {pos : Pos} {a b : Expr} {wa wb : WE}
theorem ve_add (ha : VE X a wa) (hb : VE X b wb) : VE X (.BinOp a .Add b pos) (wBin opAdd wa wb) := ve_bin op_addA ser_add ha hb
def opSub : OpV := opInt (fun _ _ => True) fun i j => .int (i - j)
def opMul : OpV := fun p q Q => match p, q with
  | .int i, .int j => CMul i j ∧ Q (.val (.int (i * j)))
  | .lst xs, .int j => j < 2 ^ 62 ∧ -(2 ^ 62) < j ∧ xs.length * j.toNat ≤ sizeLine ∧ Q (.own (List.replicate j.toNat xs).flatten)
  | _, _ => False
theorem Reps.rep {G : Gh} {F : Hp} {vs : List V} {ps : List PV} (h : Reps G F vs ps) : ∀ k : Nat, Reps G F (List.replicate k vs).flatten (List.replicate k ps).flatten
  | 0 => .nil
  | k + 1 => by
    rw [List.replicate_succ, List.replicate_succ, List.flatten_cons, List.flatten_cons]
    exact Reps.append h (Reps.rep h k)
end
end VE
end
section
set_option Elab.async false
set_option linter.all false
set_option maxRecDepth 100000
namespace VE
open PySem PySem.Spec PyProof.Rows L2

section
variable {X : Cx} {pos : Pos} {a b : Expr} {wa wb : WE}
/-! ### more arithmetic -/
def rMulA : R2 := fun x y H Q => rI CMul (fun i j => .int (i * j)) x y H Q ∨ rRep x y H Q
theorem op_mulA : OpR X (binaryOp .Mult) rMulA := op_mul.or op_rep
theorem ser_mul {K mg} : Ser K mg rMulA opMul := by
  intro hO Fr F σ H ρ x y p q Qv Q R rx ry h k
  unfold opMul at h
  split at h
  · cases rx; cases ry
    exact .inl ⟨_, _, rfl, rfl, h.1, k _ H F (.val (.int _)) (Same.refl F) R (Rep.int _) h.2⟩
  · cases rx with
    | lst ex rxs =>
      cases ry
      exact .inr ⟨_, _, _, rfl, rfl, R.sub _ _ ex, by omega, by omega, by rw [rxs.length]; exact h.2.2.1, fun p hp => k _ _ F (.own _) (Same.refl F) (R.fresh hp) (R.freshOwn hp (Reps.rep rxs _)) h.2.2.2⟩
  · exact h.elim
def DivOk (i j : Int) : Prop := (j ≠ 0 ∧ j.natAbs < 1073741824) ∨ (0 < j ∧ j.natAbs.log2 < 9000)
def rFdivA : R2 := fun x y H Q => rI CDivN (fun i j => .int (i.fdiv j)) x y H Q ∨ rI CDivW (fun i j => .int (i / j)) x y H Q
theorem op_fdivA : OpR X (binaryOp .FloorDiv) rFdivA := op_fdivN.or op_fdivW
def opFdiv : OpV := opInt DivOk fun i j => .int (i.fdiv j)
theorem ser_fdiv {K mg} : Ser K mg rFdivA opFdiv := by
  intro hO Fr F σ H ρ x y p q Qv Q R rx ry h k
  unfold opFdiv opInt at h
  split at h
  · rename_i i j
    cases rx; cases ry
    rcases h.1 with c | c
    · exact .inl ⟨_, _, rfl, rfl, c, k _ H F (.val (.int _)) (Same.refl F) R (Rep.int _) h.2⟩
    · refine .inr ⟨_, _, rfl, rfl, c, k _ H F (.val (.int (i.fdiv j))) (Same.refl F) R ?_ h.2⟩
      rw [Int.fdiv_eq_ediv_of_nonneg _ (Int.le_of_lt c.1)]
      exact Rep.int _
  · exact h.elim
def opMod : OpV := opInt (fun _ j => j ≠ 0) fun i j => .int (i.fmod j)
def opPow : OpV := opInt CPow fun i j => .int (i ^ j.toNat)
theorem ve_sub (ha : VE X a wa) (hb : VE X b wb) : VE X (.BinOp a .Sub b pos) (wBin opSub wa wb) := ve_bin op_sub (ser_rI0 fun i j _ _ => Rep.int _) ha hb
theorem ve_mul (ha : VE X a wa) (hb : VE X b wb) : VE X (.BinOp a .Mult b pos) (wBin opMul wa wb) := ve_bin op_mulA ser_mul ha hb
theorem ve_fdiv (ha : VE X a wa) (hb : VE X b wb) : VE X (.BinOp a .FloorDiv b pos) (wBin opFdiv wa wb) := ve_bin op_fdivA ser_fdiv ha hb
theorem ve_mod (ha : VE X a wa) (hb : VE X b wb) : VE X (.BinOp a .Mod b pos) (wBin opMod wa wb) := ve_bin op_modN (ser_rI fun i j _ _ => Rep.int _) ha hb
theorem ve_pow (ha : VE X a wa) (hb : VE X b wb) : VE X (.BinOp a .Pow b pos) (wBin opPow wa wb) := ve_bin op_pow (ser_rI fun i j _ _ => Rep.int _) ha hb
def opNeg : UnV := fun p Q => match p with
  | .int i => Q (.val (.int (-i)))
  | _ => False
theorem ve_neg (ha : VE X a wa) : VE X (.UnaryOp .USub a pos) (wUn opNeg wa) := by
  refine ve_un un_neg ?_ ha
  intro hO Fr F σ H ρ x p Qv Q R rx h k
  unfold opNeg at h
  split at h
  · cases rx
    exact ⟨_, rfl, k _ H F (.val (.int _)) (Same.refl F) R (Rep.int _) h⟩
  · exact h.elim

/-! ### comparisons of ints -/
def opCmpI (g : Int → Int → Bool) : OpV := opInt (fun _ _ => True) fun i j => .bl (g i j)
theorem ser_cmpI {K mg} {g : Int → Int → Bool} : Ser K mg (rI0 fun i j => .bl (g i j)) (opCmpI g) := ser_rI0 fun i j _ _ => Rep.bl _
def opLt : OpV := opCmpI fun i j => decide (i < j)
def opLe : OpV := opCmpI fun i j => decide (i ≤ j)
def opGt : OpV := opCmpI fun i j => decide (j < i)
def opGe : OpV := opCmpI fun i j => decide (j ≤ i)

/-! ### data at any depth -/
mutual
def toD : PV → Option PyData
  | .non => some .none
  | .bl b => some (.bool b)
  | .int i => some (.int i)
  | .str x => some (.str x)
  | .lst xs => (toDs xs).map .list
  | .tup xs => (toDs xs).map .tuple
  | _ => none
def toDs : List PV → Option (List PyData)
  | [] => some []
  | x :: xs => match toD x, toDs xs with
    | some d, some ds => some (d :: ds)
    | _, _ => none
end
mutual
theorem dp_of {G : Gh} {F : Hp} : ∀ {p : PV} {v : V} {d : PyData}, Rep G F v p → toD p = some d → Dp G.K F v d
  | .non, _, _, .non, e => by simp [toD] at e; subst e; exact .non
  | .bl b, _, _, .bl _, e => by simp [toD] at e; subst e; exact .bl b
  | .int b, _, _, .int _, e => by simp [toD] at e; subst e; exact .int b
  | .str b, _, _, .str _, e => by simp [toD] at e; subst e; exact .str b
  | .lst xs, _, _, .lst h r, e => by
    simp only [toD, Option.map_eq_some_iff] at e
    obtain ⟨ds, e1, rfl⟩ := e
    exact .lst (.inl (.inl h)) (dps_of r e1)
  | .tup xs, _, _, .tup h r, e => by
    simp only [toD, Option.map_eq_some_iff] at e
    obtain ⟨ds, e1, rfl⟩ := e
    exact .tup h (dps_of r e1)
theorem dps_of {G : Gh} {F : Hp} : ∀ {ps : List PV} {vs : List V} {ds : List PyData}, Reps G F vs ps → toDs ps = some ds → DpAll G.K F vs ds
  | [], _, _, .nil, e => by simp [toDs] at e; subst e; exact .nil
  | p :: ps, _, _, .cons h r, e => by
    simp only [toDs] at e
    split at e
    · rename_i d ds e1 e2
      cases e
      exact .cons (dp_of h e1) (dps_of r e2)
    · cases e
end
mutual
theorem dpMono {K : PySem.W.Frag} {H H' : Hp} (s : Same H H') : ∀ {v : V} {d : PyData}, Dp K H v d → Dp K H' v d
  | _, _, .non => .non
  | _, _, .bl b => .bl b
  | _, _, .int b => .int b
  | _, _, .str b => .str b
  | _, _, .lst h r => .lst (s.seq h) (dpsMono s r)
  | _, _, .tup h r => .tup (Same.sqt s h) (dpsMono s r)
theorem dpsMono {K : PySem.W.Frag} {H H' : Hp} (s : Same H H') : ∀ {v : List V} {d : List PyData}, DpAll K H v d → DpAll K H' v d
  | _, _, .nil => .nil
  | _, _, .cons h r => .cons (dpMono s h) (dpsMono s r)
end
def shp (d : PyData) : Prop := SeqAt.shaped d = true
def opEq : OpV := fun p q Q => (∃ d e, toD p = some d ∧ toD q = some e ∧ shp d ∧ shp e ∧ Q (.val (.bl (PyData.eqv d e)))) ∨ ∃ x y, p = .str x ∧ q = .str y ∧ Q (.val (.bl (decide (x = y))))
def opNe : OpV := fun p q Q => (∃ d e, toD p = some d ∧ toD q = some e ∧ shp d ∧ shp e ∧ Q (.val (.bl (!PyData.eqv d e)))) ∨ ∃ x y, p = .str x ∧ q = .str y ∧ Q (.val (.bl (!decide (x = y))))
def rEqA (K : PySem.W.Frag) : R2 := fun x y H Q => rEqD K x y H Q ∨ rEq x y H Q
def rNeA (K : PySem.W.Frag) : R2 := fun x y H Q => rNeD K x y H Q ∨ rNe x y H Q
theorem op_eqA (hu : X.A.units + 64 < cLine) : OpR X (compareOp .Eq) (rEqA X.K) := (op_eqD hu).or op_eq
theorem op_neA (hu : X.A.units + 64 < cLine) : OpR X (compareOp .NotEq) (rNeA X.K) := (op_neD hu).or op_ne
theorem ser_eq {K mg} : Ser K mg (rEqA K) opEq := by
  intro hO Fr F σ H ρ x y p q Qv Q R rx ry h k
  rcases h with ⟨d, e, e1, e2, s1, s2, h⟩ | ⟨a, b, rfl, rfl, h⟩
  · exact .inl ⟨d, e, dpMono R.sub (dp_of rx e1), dpMono R.sub (dp_of ry e2), s1, s2, k _ H F (.val (.bl _)) (Same.refl F) R (Rep.bl _) h⟩
  · cases rx; cases ry
    refine .inr ⟨rfl, k _ H F (.val (.bl _)) (Same.refl F) R ?_ h⟩
    rw [show decide (V.str a = V.str b) = decide (a = b) from decide_eq_decide.mpr ⟨fun e => by injection e, fun e => by rw [e]⟩]
    exact Rep.bl _
theorem ser_ne {K mg} : Ser K mg (rNeA K) opNe := by
  intro hO Fr F σ H ρ x y p q Qv Q R rx ry h k
  rcases h with ⟨d, e, e1, e2, s1, s2, h⟩ | ⟨a, b, rfl, rfl, h⟩
  · exact .inl ⟨d, e, dpMono R.sub (dp_of rx e1), dpMono R.sub (dp_of ry e2), s1, s2, k _ H F (.val (.bl _)) (Same.refl F) R (Rep.bl _) h⟩
  · cases rx; cases ry
    refine .inr ⟨rfl, k _ H F (.val (.bl _)) (Same.refl F) R ?_ h⟩
    rw [show decide (V.str a = V.str b) = decide (a = b) from decide_eq_decide.mpr ⟨fun e => by injection e, fun e => by rw [e]⟩]
    exact Rep.bl _
/-- x is None -/
def opIs : OpV := fun p q Q => q = .non ∧ Q (.val (.bl (match p with | .non => true | _ => false)))
def opIsNot : OpV := fun p q Q => q = .non ∧ Q (.val (.bl (match p with | .non => false | _ => true)))
theorem ser_is {K mg} : Ser K mg (fun x y H Q => y = .non ∧ Q (.bl (decide (x = .non))) H) opIs := by
  intro hO Fr F σ H ρ x y p q Qv Q R rx ry h k
  obtain ⟨rfl, h⟩ := h
  cases ry
  refine ⟨rfl, ?_⟩
  cases rx <;> exact k _ H F (.val (.bl _)) (Same.refl F) R (Rep.bl _) h
theorem ser_isnot {K mg} : Ser K mg (fun x y H Q => y = .non ∧ Q (.bl (!decide (x = .non))) H) opIsNot := by
  intro hO Fr F σ H ρ x y p q Qv Q R rx ry h k
  obtain ⟨rfl, h⟩ := h
  cases ry
  refine ⟨rfl, ?_⟩
  cases rx <;> exact k _ H F (.val (.bl _)) (Same.refl F) R (Rep.bl _) h
/-- x in a list of data -/
def opIn : OpV := fun p q Q => ∃ d ds xs, toD p = some d ∧ q = .lst xs ∧ toDs xs = some ds ∧ shp d ∧ shp (.list ds) ∧ Q (.val (.bl (ds.any fun z => PyData.eqv z d)))
def opNotIn : OpV := fun p q Q => ∃ d ds xs, toD p = some d ∧ q = .lst xs ∧ toDs xs = some ds ∧ shp d ∧ shp (.list ds) ∧ Q (.val (.bl (!ds.any fun z => PyData.eqv z d)))
theorem toD_lst {xs : List PV} {ds : List PyData} (h : toDs xs = some ds) : toD (.lst xs) = some (.list ds) := by simp [toD, h]
theorem toD_tup {xs : List PV} {ds : List PyData} (h : toDs xs = some ds) : toD (.tup xs) = some (.tuple ds) := by simp [toD, h]
theorem ser_in {K mg} : Ser K mg (rInD K) opIn := by
  intro hO Fr F σ H ρ x y p q Qv Q R rx ry h k
  obtain ⟨d, ds, xs, e1, rfl, e2, s1, s2, h⟩ := h
  exact ⟨d, ds, dpMono R.sub (dp_of rx e1), dpMono R.sub (dp_of ry (toD_lst e2)), s1, s2, k _ H F (.val (.bl _)) (Same.refl F) R (Rep.bl _) h⟩
theorem ser_notin {K mg} : Ser K mg (rNotInD K) opNotIn := by
  intro hO Fr F σ H ρ x y p q Qv Q R rx ry h k
  obtain ⟨d, ds, xs, e1, rfl, e2, s1, s2, h⟩ := h
  exact ⟨d, ds, dpMono R.sub (dp_of rx e1), dpMono R.sub (dp_of ry (toD_lst e2)), s1, s2, k _ H F (.val (.bl _)) (Same.refl F) R (Rep.bl _) h⟩

theorem ve_lt (ha : VE X a wa) (hb : VE X b wb) : VE X (.Compare a [.Lt] [b] pos) (wBin opLt wa wb) := ve_cmp op_lt ser_cmpI ha hb (nomark _)
theorem ve_le (ha : VE X a wa) (hb : VE X b wb) : VE X (.Compare a [.LtE] [b] pos) (wBin opLe wa wb) := ve_cmp op_le ser_cmpI ha hb (nomark _)
theorem ve_gt (ha : VE X a wa) (hb : VE X b wb) : VE X (.Compare a [.Gt] [b] pos) (wBin opGt wa wb) := ve_cmp op_gt ser_cmpI ha hb (nomark _)
theorem ve_ge (ha : VE X a wa) (hb : VE X b wb) : VE X (.Compare a [.GtE] [b] pos) (wBin opGe wa wb) := ve_cmp op_ge ser_cmpI ha hb (nomark _)
theorem ve_eq (hu : X.A.units + 64 < cLine) (ha : VE X a wa) (hb : VE X b wb) : VE X (.Compare a [.Eq] [b] pos) (wBin opEq wa wb) := ve_cmp (op_eqA hu) ser_eq ha hb (nomark _)
theorem ve_ne (hu : X.A.units + 64 < cLine) (ha : VE X a wa) (hb : VE X b wb) : VE X (.Compare a [.NotEq] [b] pos) (wBin opNe wa wb) := ve_cmp (op_neA hu) ser_ne ha hb (nomark _)
theorem ve_is (ha : VE X a wa) (hb : VE X b wb) : VE X (.Compare a [.Is] [b] pos) (wBin opIs wa wb) := ve_cmp op_isN ser_is ha hb (nomark _)
theorem ve_isnot (ha : VE X a wa) (hb : VE X b wb) : VE X (.Compare a [.IsNot] [b] pos) (wBin opIsNot wa wb) := ve_cmp op_notN ser_isnot ha hb (nomark _)
theorem ve_in (hu : X.A.units + 65 < cLine) (ha : VE X a wa) (hb : VE X b wb) (hm : behindInMarks .In b = false) : VE X (.Compare a [.In] [b] pos) (wBin opIn wa wb) := ve_cmp (op_inD hu) ser_in ha hb hm
theorem ve_notin (hu : X.A.units + 65 < cLine) (ha : VE X a wa) (hb : VE X b wb) (hm : behindInMarks .NotIn b = false) : VE X (.Compare a [.NotIn] [b] pos) (wBin opNotIn wa wb) := ve_cmp (op_notInD hu) ser_notin ha hb hm

/-! ### chains of two comparisons -/
def wChain (f g : OpV) (wa wb wc : WE) : WE := fun ρ Q => wa ρ fun r1 ρ1 => wb ρ1 fun r2 ρ2 => f r1.pv r2.pv fun r => match r with
  | .val (.bl k) => if k = true then wc ρ2 fun r3 ρ3 => g r2.pv r3.pv fun r' => Q r' ρ3 else Q (.val (.bl false)) ρ2
  | _ => False
theorem chain_read {K mg} {r r' : R2} {f g : OpV} {wa wb wc : WE} (hs : Ser K mg r f) (hs' : Ser K mg r' g) : ∀ σ H Q, eE K mg (wChain f g wa wb wc) σ H Q → tChain r r' (eE K mg wa) (eE K mg wb) (eE K mg wc) σ H Q := by
  rintro σ H Q ⟨hO, Fr, F, ρ, Qv, R, h, k⟩
  refine eE.pv (Qv := fun p ρ1 => wb ρ1 fun r2 ρ2 => f p r2.pv fun r => match r with
    | .val (.bl k) => if k = true then wc ρ2 fun r3 ρ3 => g r2.pv r3.pv fun r' => Qv r' ρ3 else Qv (.val (.bl false)) ρ2
    | _ => False) R h fun x H1 F1 p ρ1 s1 R1 rp h1 => ?_
  refine eE.pv (Qv := fun q ρ2 => f p q fun r => match r with
    | .val (.bl k) => if k = true then wc ρ2 fun r3 ρ3 => g q r3.pv fun r' => Qv r' ρ3 else Qv (.val (.bl false)) ρ2
    | _ => False) R1 h1 fun y H2 F2 q ρ2 s2 R2 rq h2 => ?_
  refine hs hO Fr F2 σ H2 ρ2 x y p q _ _ R2 (rp.mono s2) rq h2 fun v H3 F3 r3 s3 R3 o q3 => ?_
  split at q3
  · rename_i kk
    cases o
    refine ⟨kk, rfl, ?_⟩
    cases kk with
    | false =>
      rw [if_neg Bool.false_ne_true] at q3 ⊢
      exact k _ H3 F3 (.val (.bl false)) ρ2 ((s1.trans s2).trans s3) R3 (Rep.bl _) q3
    | true =>
      rw [if_pos rfl] at q3 ⊢
      refine eE.pv (Qv := fun z ρ3 => g q z fun r' => Qv r' ρ3) R3 q3 fun z H4 F4 pz ρ4 s4 R4 rz h4 => ?_
      refine hs' hO Fr F4 σ H4 ρ4 y z q pz _ Q R4 ((rq.mono s3).mono s4) rz h4 fun v H5 F5 r5 s5 R5 o5 q5 => ?_
      exact k v H5 F5 r5 ρ4 ((((s1.trans s2).trans s3).trans s4).trans s5) R5 o5 q5
  · exact q3.elim
theorem ve_chain {op op' : CmpOp} {r r' : R2} {f g : OpV} {c : Expr} {wc : WE} (ho : OpR X (compareOp op) r) (ho' : OpR X (compareOp op') r') (hs : Ser X.K X.mg r f) (hs' : Ser X.K X.mg r' g) (ha : VE X a wa) (hb : VE X b wb) (hc : VE X c wc)
    (hm : lastMarks [op, op'] [b, c] = false := by with_unfolding_all rfl) : VE X (.Compare a [op, op'] [b, c] pos) (wChain f g wa wb wc) := PE.imp (pe_chain ho ho' ha hb hc hm) (chain_read hs hs')
end
end VE
end
section
set_option Elab.async false
set_option linter.all false
set_option maxRecDepth 100000
namespace VE
open PySem PySem.Spec PyProof.Rows L2

section
variable {X : Cx} {pos : Pos} {a b c : Expr} {wa wb : WE}
/-! ### tests -/
def wTst (w : WE) : WT := fun ρ Q => w ρ fun r ρ1 => match r with
  | .val (.bl k) => Q k ρ1
  | _ => False
theorem tst_t {t : TE} {w : WE} (h : ∀ σ H Q, eE X.K X.mg w σ H Q → t σ H Q) : ∀ σ H Q, eT X.K X.mg (wTst w) σ H Q → tTest t σ H Q := by
  rintro σ H Q ⟨hO, Fr, F, ρ, Qv, R, hw, k⟩
  refine h σ H _ ⟨hO, Fr, F, ρ, _, R, hw, fun v H' F' r ρ' s R' o q => ?_⟩
  split at q
  · cases o
    exact ⟨_, rfl, k _ H' F' ρ' s R' q⟩
  · exact q.elim
theorem vt_cmp {op : CmpOp} {r : R2} {f : OpV} (ho : OpR X (compareOp op) r) (hs : Ser X.K X.mg r f) (ha : VE X a wa) (hb : VE X b wb) (hm : behindInMarks op b = false) : VT X (.Compare a [op] [b] pos) (wTst (wBin f wa wb)) :=
  PT.imp (pt_cmpR ho ha hb hm) (tst_t (ser_pe hs))
theorem vt_val {e : Expr} {w : WE} (h : VE X e w) (he : ∀ whole, isTrue e X.env whole = (do let v ← whole; standAt e.pos; holding [v] (truthy v)) := by intro _; rfl) : VT X e (wTst w) :=
  PT.imp (pt_val h he) fun σ H Q q => tst_t (t := eE X.K X.mg w) (fun _ _ _ z => z) σ H Q q
theorem vt_lt (ha : VE X a wa) (hb : VE X b wb) : VT X (.Compare a [.Lt] [b] pos) (wTst (wBin opLt wa wb)) := vt_cmp op_lt ser_cmpI ha hb (nomark _)
theorem vt_le (ha : VE X a wa) (hb : VE X b wb) : VT X (.Compare a [.LtE] [b] pos) (wTst (wBin opLe wa wb)) := vt_cmp op_le ser_cmpI ha hb (nomark _)
theorem vt_gt (ha : VE X a wa) (hb : VE X b wb) : VT X (.Compare a [.Gt] [b] pos) (wTst (wBin opGt wa wb)) := vt_cmp op_gt ser_cmpI ha hb (nomark _)
theorem vt_ge (ha : VE X a wa) (hb : VE X b wb) : VT X (.Compare a [.GtE] [b] pos) (wTst (wBin opGe wa wb)) := vt_cmp op_ge ser_cmpI ha hb (nomark _)
theorem vt_eq (hu : X.A.units + 64 < cLine) (ha : VE X a wa) (hb : VE X b wb) : VT X (.Compare a [.Eq] [b] pos) (wTst (wBin opEq wa wb)) := vt_cmp (op_eqA hu) ser_eq ha hb (nomark _)
theorem vt_ne (hu : X.A.units + 64 < cLine) (ha : VE X a wa) (hb : VE X b wb) : VT X (.Compare a [.NotEq] [b] pos) (wTst (wBin opNe wa wb)) := vt_cmp (op_neA hu) ser_ne ha hb (nomark _)
theorem vt_is (ha : VE X a wa) (hb : VE X b wb) : VT X (.Compare a [.Is] [b] pos) (wTst (wBin opIs wa wb)) := vt_cmp op_isN ser_is ha hb (nomark _)
theorem vt_isnot (ha : VE X a wa) (hb : VE X b wb) : VT X (.Compare a [.IsNot] [b] pos) (wTst (wBin opIsNot wa wb)) := vt_cmp op_notN ser_isnot ha hb (nomark _)
theorem vt_in (hu : X.A.units + 65 < cLine) (ha : VE X a wa) (hb : VE X b wb) (hm : behindInMarks .In b = false) : VT X (.Compare a [.In] [b] pos) (wTst (wBin opIn wa wb)) := vt_cmp (op_inD hu) ser_in ha hb hm
theorem vt_notin (hu : X.A.units + 65 < cLine) (ha : VE X a wa) (hb : VE X b wb) (hm : behindInMarks .NotIn b = false) : VT X (.Compare a [.NotIn] [b] pos) (wTst (wBin opNotIn wa wb)) := vt_cmp (op_notInD hu) ser_notin ha hb hm
theorem vt_chain {op op' : CmpOp} {r r' : R2} {f g : OpV} {wc : WE} (ho : OpR X (compareOp op) r) (ho' : OpR X (compareOp op') r') (hs : Ser X.K X.mg r f) (hs' : Ser X.K X.mg r' g) (ha : VE X a wa) (hb : VE X b wb) (hc : VE X c wc)
    (hm : lastMarks [op, op'] [b, c] = false := by with_unfolding_all rfl) : VT X (.Compare a [op, op'] [b, c] pos) (wTst (wChain f g wa wb wc)) :=
  PT.imp (pt_chain ho ho' ha hb hc hm) (tst_t (chain_read hs hs'))

def wAndT (t u : WT) : WT := fun ρ Q => t ρ fun k ρ1 => if k = true then u ρ1 Q else Q false ρ1
def wOrT (t u : WT) : WT := fun ρ Q => t ρ fun k ρ1 => if k = true then Q true ρ1 else u ρ1 Q
def wNotT (t : WT) : WT := fun ρ Q => t ρ fun k ρ1 => Q (!k) ρ1
abbrev VW (X : Cx) (e : Expr) (w : WT) : Prop := PW X e (eT X.K X.mg w)
theorem PW.imp {X : Cx} {e : Expr} {t t' : TT} (h : PW X e t) (k : ∀ σ H Q, t' σ H Q → t σ H Q) : PW X e t' := ⟨fun wh pins s σ H Q I q => h.run wh pins s σ H Q I (k _ _ _ q)⟩
section
variable {K : PySem.W.Frag} {mg : Str → Option Value} {hO : Option Addr} {Fr F : Hp} {σ : L2.St} {H : Hp} {ρ : Rho}
theorem eT.mk {w : WT} {Qv : Bool → Rho → Prop} {Q : Bool → Hp → Prop} (R : Rr ⟨K, mg, hO⟩ Fr F σ H ρ) (h : w ρ Qv)
    (k : ∀ b H' F' ρ', Same F F' → Rr ⟨K, mg, hO⟩ Fr F' σ H' ρ' → Qv b ρ' → Q b H') : eT K mg w σ H Q := ⟨hO, Fr, F, ρ, Qv, R, h, k⟩
end
variable {t u : WT} {rest : List Expr}
theorem vw_and1 (ha : VT X a t) : VW X (.BoolOp .And [a] pos) t := pw_and1 ha
theorem vw_or1 (ha : VT X a t) : VW X (.BoolOp .Or [a] pos) t := pw_or1 ha
theorem vw_and (ha : VT X a t) (hb : VW X (.BoolOp .And (b :: rest) pos) u) : VW X (.BoolOp .And (a :: b :: rest) pos) (wAndT t u) := by
  refine PW.imp (pw_and ha hb) ?_
  rintro σ H Q ⟨hO, Fr, F, ρ, Qv, R, h, k⟩
  refine eT.mk R h fun d H1 F1 ρ1 s1 R1 q1 => ?_
  cases d with
  | true => exact eT.mk R1 (by simpa using q1) fun d H2 F2 ρ2 s2 R2 q2 => k d H2 F2 ρ2 (s1.trans s2) R2 q2
  | false => exact k false H1 F1 ρ1 s1 R1 (by simpa using q1)
theorem vw_or (ha : VT X a t) (hb : VW X (.BoolOp .Or (b :: rest) pos) u) : VW X (.BoolOp .Or (a :: b :: rest) pos) (wOrT t u) := by
  refine PW.imp (pw_or ha hb) ?_
  rintro σ H Q ⟨hO, Fr, F, ρ, Qv, R, h, k⟩
  refine eT.mk R h fun d H1 F1 ρ1 s1 R1 q1 => ?_
  cases d with
  | false => exact eT.mk R1 (by simpa using q1) fun d H2 F2 ρ2 s2 R2 q2 => k d H2 F2 ρ2 (s1.trans s2) R2 q2
  | true => exact k true H1 F1 ρ1 s1 R1 (by simpa using q1)
theorem vt_bool {e : Expr} (h : VW X e t) : VT X e t := PW.pt h
theorem vt_not (ha : VT X a t) : VT X (.UnaryOp .Not a pos) (wNotT t) := by
  refine PT.imp (pt_not ha) ?_
  rintro σ H Q ⟨hO, Fr, F, ρ, Qv, R, h, k⟩
  exact eT.mk R h fun d H1 F1 ρ1 s1 R1 q1 => k (!d) H1 F1 ρ1 s1 R1 q1
/-! as values -/
def wAndV (wa wb : WE) : WE := fun ρ Q => wa ρ fun r ρ1 => match r with
  | .val (.bl k) => if k = true then wb ρ1 Q else Q (.val (.bl false)) ρ1
  | _ => False
def wOrV (wa wb : WE) : WE := fun ρ Q => wa ρ fun r ρ1 => match r with
  | .val (.bl k) => if k = true then Q (.val (.bl true)) ρ1 else wb ρ1 Q
  | _ => False
def wNotV (wa : WE) : WE := fun ρ Q => wa ρ fun r ρ1 => match r with
  | .val (.bl k) => Q (.val (.bl (!k))) ρ1
  | _ => False
theorem ve_one {op} (h : VE X a wa) : VE X (.BoolOp op [a] pos) wa := pe_one h
theorem ve_and (ha : VE X a wa) (hb : VE X (.BoolOp .And (b :: rest) pos) wb) : VE X (.BoolOp .And (a :: b :: rest) pos) (wAndV wa wb) := by
  refine PE.imp (pe_and ha hb) ?_
  rintro σ H Q ⟨hO, Fr, F, ρ, Qv, R, h, k⟩
  refine ⟨hO, Fr, F, ρ, _, R, h, fun v H1 F1 r ρ1 s1 R1 o q1 => ?_⟩
  split at q1
  · rename_i d
    cases o
    refine ⟨d, rfl, ?_⟩
    cases d with
    | true => exact ⟨hO, Fr, F1, ρ1, Qv, R1, by simpa using q1, fun v H2 F2 r ρ2 s2 R2 o q2 => k v H2 F2 r ρ2 (s1.trans s2) R2 o q2⟩
    | false => exact k _ H1 F1 (.val (.bl false)) ρ1 s1 R1 (Rep.bl _) (by simpa using q1)
  · exact q1.elim
theorem ve_or (ha : VE X a wa) (hb : VE X (.BoolOp .Or (b :: rest) pos) wb) : VE X (.BoolOp .Or (a :: b :: rest) pos) (wOrV wa wb) := by
  refine PE.imp (pe_or ha hb) ?_
  rintro σ H Q ⟨hO, Fr, F, ρ, Qv, R, h, k⟩
  refine ⟨hO, Fr, F, ρ, _, R, h, fun v H1 F1 r ρ1 s1 R1 o q1 => ?_⟩
  split at q1
  · rename_i d
    cases o
    refine ⟨d, rfl, ?_⟩
    cases d with
    | false => exact ⟨hO, Fr, F1, ρ1, Qv, R1, by simpa using q1, fun v H2 F2 r ρ2 s2 R2 o q2 => k v H2 F2 r ρ2 (s1.trans s2) R2 o q2⟩
    | true => exact k _ H1 F1 (.val (.bl true)) ρ1 s1 R1 (Rep.bl _) (by simpa using q1)
  · exact q1.elim
theorem ve_not (ha : VE X a wa) : VE X (.UnaryOp .Not a pos) (wNotV wa) := by
  refine PE.imp (pe_not ha) ?_
  rintro σ H Q ⟨hO, Fr, F, ρ, Qv, R, h, k⟩
  refine ⟨hO, Fr, F, ρ, _, R, h, fun v H1 F1 r ρ1 s1 R1 o q1 => ?_⟩
  split at q1
  · cases o
    exact ⟨_, rfl, k _ H1 F1 (.val (.bl _)) ρ1 s1 R1 (Rep.bl _) q1⟩
  · exact q1.elim
def wIf (t : WT) (wa wb : WE) : WE := fun ρ Q => t ρ fun k ρ1 => if k = true then wa ρ1 Q else wb ρ1 Q
theorem ve_ifexp (hc : VT X c t) (ha : VE X a wa) (hb : VE X b wb) : VE X (.IfExp c a b pos) (wIf t wa wb) := by
  refine PE.imp (pe_ifExp hc ha hb) ?_
  rintro σ H Q ⟨hO, Fr, F, ρ, Qv, R, h, k⟩
  refine eT.mk R h fun d H1 F1 ρ1 s1 R1 q1 => ?_
  cases d with
  | true => exact ⟨hO, Fr, F1, ρ1, Qv, R1, by simpa using q1, fun v H2 F2 r ρ2 s2 R2 o q2 => k v H2 F2 r ρ2 (s1.trans s2) R2 o q2⟩
  | false => exact ⟨hO, Fr, F1, ρ1, Qv, R1, by simpa using q1, fun v H2 F2 r ρ2 s2 R2 o q2 => k v H2 F2 r ρ2 (s1.trans s2) R2 o q2⟩

/-! ### argument lists, displays -/
def wNil : WA := fun ρ Q => Q [] ρ
def wCons (wa : WE) (wr : WA) : WA := fun ρ Q => wa ρ fun r ρ1 => wr ρ1 fun ps ρ2 => Q (r.pv :: ps) ρ2
theorem va_nil : VA X [] wNil := by
  refine PA.imp pa_nil ?_
  rintro σ H Q ⟨hO, Fr, F, ρ, Qv, R, h, k⟩
  exact k [] H F [] ρ (Same.refl F) R .nil h
theorem va_cons {e : Expr} {es : List Expr} {we : WE} {wr : WA} (ha : VE X e we) (hr : VA X es wr) (hs : starEach (e :: es) X.env = (false, eval e X.env) :: starEach es X.env := by rfl) : VA X (e :: es) (wCons we wr) := by
  refine PA.imp (pa_cons ha hr hs) ?_
  rintro σ H Q ⟨hO, Fr, F, ρ, Qv, R, h, k⟩
  refine eE.pv (Qv := fun p ρ1 => wr ρ1 fun ps ρ2 => Qv (p :: ps) ρ2) R h fun x H1 F1 p ρ1 s1 R1 rp h1 => ?_
  exact ⟨hO, Fr, F1, ρ1, _, R1, h1, fun vs H2 F2 ps ρ2 s2 R2 rs q => k (x :: vs) H2 F2 (p :: ps) ρ2 (s1.trans s2) R2 (.cons (rp.mono s2) rs) q⟩
def wTup (w : WA) : WE := fun ρ Q => w ρ fun ps ρ1 => ps.length ≤ sizeLine ∧ Q (.val (.tup ps)) ρ1
def wLst (w : WA) : WE := fun ρ Q => w ρ fun ps ρ1 => ps.length ≤ sizeLine ∧ Q (.own ps) ρ1
theorem ve_tup {es : List Expr} {w : WA} {x1} (h : VA X es w) : VE X (.Tuple es x1 pos) (wTup w) := by
  refine PE.imp (pe_tup h) ?_
  rintro σ H Q ⟨hO, Fr, F, ρ, Qv, R, h, k⟩
  refine ⟨hO, Fr, F, ρ, _, R, h, fun vs H1 F1 ps ρ1 s1 R1 rs q => ⟨by rw [rs.length]; exact q.1, fun p hp => ?_⟩⟩
  have hF := R1.nF hp
  exact k _ _ _ (.val (.tup ps)) ρ1 (s1.trans (same_upd hF)) (R1.laid hp) (Rep.tup (SqT.of upd_same) (rs.mono (same_upd hF))) q.2
theorem ve_lst {es : List Expr} {w : WA} (h : VA X es w) : VE X (.List es pos) (wLst w) := by
  refine PE.imp (pe_lst h) ?_
  rintro σ H Q ⟨hO, Fr, F, ρ, Qv, R, h, k⟩
  refine ⟨hO, Fr, F, ρ, _, R, h, fun vs H1 F1 ps ρ1 s1 R1 rs q => ⟨by rw [rs.length]; exact q.1, fun p hp => ?_⟩⟩
  exact k _ _ F1 (.own ps) ρ1 s1 (R1.fresh hp) (R1.freshOwn hp rs) q.2
theorem ve_dict0 : VE X (.Dict [] [] pos) (wC .dct0) := by
  refine PE.imp pe_dnewK ?_
  rintro σ H Q ⟨hO, Fr, F, ρ, Qv, R, h, k⟩
  intro p hp
  have hF := R.nF hp
  exact k _ _ _ (.val .dct0) ρ (same_upd hF) (R.laid hp) (Rep.dct0 upd_same) h

/-! ### index, slices -/
/-- a place of a list, a tuple -/
def opIx : OpV := fun p q Q => match p, q with
  | .tup xs, .int i => ∃ x, atI xs i = some x ∧ Q (.val x)
  | .lst xs, .int i => ∃ x, atI xs i = some x ∧ Q (.val x)
  | _, _ => False
def rIxLT (K : PySem.W.Frag) : R2 := fun x y H Q => rIxL K x y H Q ∨ rIxT K x y H Q
theorem ix_lt : IxR X (rIxLT X.K) := ix_list.or ix_tup
theorem Reps.atI {G : Gh} {F : Hp} {vs : List V} {ps : List PV} {i : Int} {p : PV} (r : Reps G F vs ps) (h : atI ps i = some p) : ∃ v, L2.atI vs i = some v ∧ Rep G F v p := by
  unfold L2.atI at h ⊢
  rw [← r.length] at h
  cases q : ixN vs.length i with
  | none => rw [q] at h; cases h
  | some j =>
    rw [q] at h
    exact r.get h
theorem ser_ix {K mg} : Ser K mg (rIxLT K) opIx := by
  intro hO Fr F σ H ρ x y p q Qv Q R rx ry h k
  unfold opIx at h
  split at h
  · cases rx with
    | tup e rs =>
      cases ry
      obtain ⟨z, e1, h⟩ := h
      obtain ⟨v, e2, rv⟩ := rs.atI e1
      exact .inr ⟨_, _, _, v, rfl, rfl, Same.sqt R.sub e, e2, k v H F (.val z) (Same.refl F) R rv h⟩
  · cases rx with
    | lst e rs =>
      cases ry
      obtain ⟨z, e1, h⟩ := h
      obtain ⟨v, e2, rv⟩ := rs.atI e1
      exact .inl ⟨_, _, _, v, rfl, rfl, .inl (.inl (R.sub _ _ e)), e2, k v H F (.val z) (Same.refl F) R rv h⟩
  · exact h.elim
theorem ve_ix (ha : VE X a wa) (hb : VE X b wb) (hs : PlainIx b := by intro _ _; rfl) : VE X (.Subscript a b pos) (wBin opIx wa wb) :=
  PE.imp (pe_ix ix_lt ha hb hs) (ser_pe ser_ix)
abbrev WO := Rho → (Option Int → Rho → Prop) → Prop
def eO (K : PySem.W.Frag) (mg : Str → Option Value) (w : WO) : TO := fun σ H Q => ∃ (hO : Option Addr) (Fr F : Hp) (ρ : Rho) (Qv : Option Int → Rho → Prop),
  Rr ⟨K, mg, hO⟩ Fr F σ H ρ ∧ w ρ Qv ∧ ∀ b H' F' ρ', Same F F' → Rr ⟨K, mg, hO⟩ Fr F' σ H' ρ' → Qv b ρ' → Q b H'
abbrev VO (X : Cx) (e : Option Expr) (w : WO) : Prop := PO X e (eO X.K X.mg w)
def wNoPart : WO := fun ρ Q => Q none ρ
def wPart (w : WE) : WO := fun ρ Q => w ρ fun r ρ1 => match r.pv with
  | .int i => Q (some i) ρ1
  | _ => False
theorem vo_none : VO X none wNoPart := ⟨fun pins s σ H Q I ⟨hO, Fr, F, ρ, Qv, R, h, k⟩ => po_none.run pins s σ H Q I (k none H F ρ (Same.refl F) R h)⟩
theorem vo_some {e : Expr} {w : WE} (h : VE X e w) : VO X (some e) (wPart w) := ⟨fun pins s σ H Q I ⟨hO, Fr, F, ρ, Qv, R, hw, k⟩ => (po_some h).run pins s σ H Q I (by
  refine eE.pv (Qv := fun p ρ1 => match p with | .int i => Qv (some i) ρ1 | _ => False) R hw fun v H' F' p ρ' s' R' rp q => ?_
  split at q
  · cases rp
    exact ⟨_, rfl, k _ H' F' ρ' s' R' q⟩
  · exact q.elim)⟩
def cutP {α : Type} (xs : List α) (lo hi : Option Int) : List α := (xs.drop (HT.sIx xs.length 0 lo)).take (HT.sIx xs.length xs.length hi - HT.sIx xs.length 0 lo)
def opSl (p : PV) (lo hi : Option Int) (Q : Sl → Prop) : Prop := match p with
  | .tup xs => Q (.val (.tup (cutP xs lo hi)))
  | .lst xs => Q (.own (cutP xs lo hi))
  | _ => False
def wSl (wa : WE) (wl wh : WO) : WE := fun ρ Q => wa ρ fun r ρ1 => wl ρ1 fun lo ρ2 => wh ρ2 fun hi ρ3 => opSl r.pv lo hi fun z => Q z ρ3
theorem Reps.cut {G : Gh} {F : Hp} {vs : List V} {ps : List PV} (r : Reps G F vs ps) (lo hi : Option Int) : Reps G F (cutV vs lo hi) (cutP ps lo hi) := by
  unfold cutV cutP
  rw [r.length]
  exact Reps.take _ (Reps.drop _ r)
theorem cutP_whole {α : Type} {xs : List α} {lo hi : Option Int} (h : HT.sIx xs.length 0 lo = 0 ∧ HT.sIx xs.length xs.length hi = xs.length) : cutP xs lo hi = xs := by
  unfold cutP
  rw [h.1, h.2]; simp
theorem ve_slice {e : Expr} {we : WE} {lo hi : Option Expr} {wl wh : WO} {p2 : Pos} (he : VE X e we) (hl : VO X lo wl) (hu : VO X hi wh) : VE X (.Subscript e (.Slice lo hi none p2) pos) (wSl we wl wh) := by
  refine PE.imp (pe_slice (sl_list.or sl_tupA) he hl hu) ?_
  rintro σ H Q ⟨hO, Fr, F, ρ, Qv, R, h, k⟩
  refine eE.pv (Qv := fun p ρ1 => wl ρ1 fun lo ρ2 => wh ρ2 fun hi ρ3 => opSl p lo hi fun z => Qv z ρ3) R h fun x H1 F1 p ρ1 s1 R1 rp h1 => ?_
  refine ⟨hO, Fr, F1, ρ1, _, R1, h1, fun l H2 F2 ρ2 s2 R2 h2 => ?_⟩
  refine ⟨hO, Fr, F2, ρ2, _, R2, h2, fun u H3 F3 ρ3 s3 R3 h3 => ?_⟩
  have rp3 := (rp.mono s2).mono s3
  have s := (s1.trans s2).trans s3
  unfold opSl at h3
  split at h3
  · cases rp3 with
    | tup e rs =>
      refine .inr ⟨_, _, rfl, Same.sqt R3.sub e, fun hw => ?_, fun _ q hq => ?_⟩
      · rw [rs.length] at hw
        have hc := cutP_whole hw
        rw [hc] at h3
        exact k _ H3 F3 (.val (.tup _)) ρ3 s R3 (Rep.tup e rs) h3
      · have hF := R3.nF hq
        exact k _ _ _ (.val (.tup _)) ρ3 (s.trans (same_upd hF)) (R3.laid hq) (Rep.tup (SqT.of upd_same) ((rs.cut l u).mono (same_upd hF))) h3
  · cases rp3 with
    | lst e rs =>
      refine .inl ⟨_, _, rfl, .inl (.inl (R3.sub _ _ e)), fun q hq => ?_⟩
      exact k _ _ F3 (.own _) ρ3 s (R3.fresh hq) (R3.freshOwn hq (rs.cut l u)) h3
  · exact h3.elim
end
end VE
end
section
set_option Elab.async false
set_option linter.all false
set_option maxRecDepth 100000
namespace VE
open PySem PySem.Spec PyProof.Rows L2

/-! ### a def's promise -/
abbrev SpV := List PV → (Sl → Prop) → Prop
def vsp (K : PySem.W.Frag) (mg : Str → Option Value) (n : Nat) (S : SpV) : Sp := fun vs H Q _ => vs.length = n ∧ ∃ (hO : Option Addr) (Fr F : Hp) (ps : List PV) (Qv : Sl → Prop),
  RB ⟨K, mg, hO⟩ Fr F H ∧ Reps ⟨K, mg, hO⟩ F vs ps ∧ S ps Qv ∧ ∀ v H' F' r, Same F F' → RB ⟨K, mg, hO⟩ Fr F' H' → RO ⟨K, mg, hO⟩ Fr F' [] H' [] v r → Qv r → Q v H'
/-- room for calls, and nothing is being shown (repr) -/
structure RoomG (k : Nat) (A : Around) : Prop where
  room : Room k A
  gd : A.guards = some []
theorem RoomG.mono {j k : Nat} {A : Around} (r : RoomG k A) (h : j ≤ k) : RoomG j A := ⟨r.room.mono h, r.gd⟩
theorem RoomG.units {k : Nat} {A : Around} (r : RoomG k A) : A.units + 64 < cLine := r.room.units
theorem RoomG.un {k : Nat} {A : Around} (r : RoomG k A) : A.units + 16 * k + 200 < cLine := r.room.un
/-- a def's promise, where nothing is being shown -/
structure FnG (P : Program) (w : World) (K : PySem.W.Frag) (mg : Str → Option Value) (base : Heap) (k : Nat) (f : Addr) (fd : FuncData) (prs : List Str) (sp : Sp) : Prop where
  len : ∀ vs H Q E, sp vs H Q E → vs.length = prs.length
  go : ∀ (A : Around) (outer : List Env) (s : Shared) (H : Hp) (args : Args) (us : List Value) (vs : List V) (Q : VK), RoomG k A → Env0 P w K mg base A outer s H → BindsTo s fd args (prs.zip us) → Vals vs us → sp vs H Q E0 →
    codeAny (model P w) A (.call (.ref f) args) (CR CX0 outer P w H s Q E0) s
theorem FnG.mono {P w K mg base j k f fd prs sp} (F : FnG P w K mg base j f fd prs sp) (h : j ≤ k) : FnG P w K mg base k f fd prs sp :=
  ⟨F.len, fun A outer s H args us vs Q hr => F.go A outer s H args us vs Q (hr.mono h)⟩
theorem FnG.imp {P w K mg base k f fd prs} {sp sp' : Sp} (F : FnG P w K mg base k f fd prs sp) (h : ∀ vs H Q E, sp' vs H Q E → sp vs H Q E) : FnG P w K mg base k f fd prs sp' :=
  ⟨fun vs H Q E q => F.len vs H Q E (h _ _ _ _ q), fun A outer s H args us vs Q hr e b v q => F.go A outer s H args us vs Q hr e b v (h _ _ _ _ q)⟩
section
variable {X : Cx} {k : Nat} {f : Addr} {fd : FuncData} {prs : List Str} {sp : Sp} {x : Str} {p pos : Pos} {e : Expr} {es : List Expr} {t : TA}
theorem goG {pins : List (Addr × Obj)} {σ : L2.St} {H : Hp} {s : Shared} {Q : VK} {us : List Value} {vs : List V} (F : FnG X.prog X.w X.K X.mg X.base k f fd prs sp) (hr : RoomG k X.A) (hb : Binds X.K fd prs [])
    (I : Inv X pins σ H s) (r : Vals vs us) (h : sp vs H Q E0) : wpAny (model X.prog X.w) X.A (call (.ref f) us) (EP X pins σ Q) X.xe s := by
  have lu : (us ++ []).length = prs.length := by rw [List.append_nil, ← r.length]; exact F.len vs H Q E0 h
  have bd := hb s us I.kIn lu
  rw [List.append_nil] at bd
  refine wpAny_call (codeAny_mono (F.go X.A X.stack s H _ us vs Q hr I.env0 bd r h) ?_)
  intro r s' hq
  match r, hq with
  | .ok (.ret _), hq => exact I.after hq
  | .ok .next, hq => exact hq.elim
  | .ok .brk, hq => exact hq.elim
  | .ok .cont, hq => exact hq.elim
  | .error _, hq => exact False.elim hq
theorem pe_callG (F : FnG X.prog X.w X.K X.mg X.base k f fd prs sp) (hr : RoomG k X.A) (hg : Gl X x) (hm : X.mg x = some (.ref f)) (hk : PySem.W.keepIn X.K (.ref f) = true) (hb : Binds X.K fd prs [])
    (ha : PA X (e :: es) t) (hdb : (x == ("__debug__" : Str)) = false) (he : starEach (e :: es) X.env = (false, eval e X.env) :: starEach es X.env) (hpl : (backTo pos (starEach es X.env)).any (·.1) = false) :
    PE X (.Call (.Name x p) (e :: es) [] pos) (fun σ H Q => t σ H fun vs H1 => sp vs H1 Q E0) := ⟨fun pins s σ H Q I hw => by
  have step : wpAny (model X.prog X.w) X.A (spliced (backTo pos (starEach (e :: es) X.env))) (fun us s1 => X.K.In s1.heap ∧ wpAny (model X.prog X.w) X.A (call (.ref f) us) (EP X pins σ Q) X.xe s1) X.xe s :=
    thn (ha.run pos pins s σ H _ I hw) fun us s1 ⟨vs, H1, I1, r1, q1⟩ => ⟨I1.kIn, goG F hr hb I1 r1 q1⟩
  exact wpAny_Call_Name_kw (ld_glob I hg hm (PySem.W.callWith_K (h₀ := X.base) I.ok.mod.kin hk step he hpl) hdb)⟩
theorem pe_callG0 (F : FnG X.prog X.w X.K X.mg X.base k f fd prs sp) (hr : RoomG k X.A) (hg : Gl X x) (hm : X.mg x = some (.ref f)) (hk : PySem.W.keepIn X.K (.ref f) = true) (hb : Binds X.K fd prs [])
    (hdb : (x == ("__debug__" : Str)) = false) : PE X (.Call (.Name x p) [] [] pos) (fun σ H Q => sp [] H Q E0) := ⟨fun pins s σ H Q I hw =>
  wpAny_Call_Name_kw (ld_glob I hg hm (PySem.W.callWith_K0 I.kIn hk (goG (us := []) F hr hb I .nil hw)) hdb)⟩
end
section
variable {P : Program} {w : World} {K : PySem.W.Frag} {mg : Str → Option Value} {base : Heap} {k : Nat} {f : Addr} {name qual : Str} {params : Arguments} {body : List Stmt} {scope : Scope} {dV kV doc pm cdv ct oc : Value} {an od : Option Addr} {osl : Array (Option Value)} {N prs : List Str} {sp : Sp}
/-- a body that keeps the promise gives the def's -/
theorem fnG_of (lk : K.lookup f = some ⟨oc, od, .func (PySem.W.fnOf name qual params body scope dV kV doc pm an cdv ct), osl⟩) (hcd : PySem.W.codeIn K cdv qual = true) (S : FnScope N prs scope) (len : ∀ vs H Q E, sp vs H Q E → vs.length = prs.length)
    (hbody : ∀ (A : Around) (outer : List Env) (s : Shared) (H : Hp) (vs : List V) (Q : VK), RoomG k (A.deeper (envOfC qual scope s.heap.objs.size f cdv)) → sp vs H Q E0 →
      ∃ t, PSs (cxOf CX0 P w K mg base N qual scope f cdv A outer s H E0) body t ∧ t { nx := fun _ H' => Q .non H', rt := Q } (L2.start N vs) H) :
    FnG P w K mg base (k + 1) f (PySem.W.fnOf name qual params body scope dV kV doc pm an cdv ct) prs sp := by
  constructor
  · exact len
  intro A outer s H args us vs Q hr e0 hb r hsp
  have lv : vs.length = prs.length := len vs H Q E0 hsp
  have keep0 : ∀ b o, base.get? b = some o → s.heap.get? b = some o := fun b o z => (e0.bs b o z).1
  have KX : K.In s.heap := e0.mod.kin.keeps keep0
  have hcells : ∀ y ∈ prs.zip us, scope.names.lookup y.1 = some .local ∨ (scope.names.lookup y.1 = some .cell ∧ ((cellsFrom (s.heap.objs.size + 1) scope.names []).lookup y.1).isSome = true) := by
    intro y hy
    have hm : y.1 ∈ prs := (List.of_mem_zip (a := y.1) (b := y.2) hy).1
    exact (S.par y.1 hm).imp id fun q => ⟨q, PySem.W.cellsFrom_some _ _ _ (.inl q)⟩
  refine codeAny_call_function hr.room.depth (KX _ _ lk) rfl S.co S.gen rfl (PySem.W.codeRec_of KX hcd) (hb _ _ _ _ (wpAny_newFunctionEnv_cells S.kind hcells ?_))
  intro env he s1 x
  subst he
  have lim : s.heap.NoLimit := e0.mod.nolimit.keeps keep0
  refine ⟨lim.keeps x.toInCall.keep, codeAny_func ?_⟩
  obtain ⟨t, ht, hq⟩ := hbody A outer s H vs Q ⟨hr.room.deeper _, hr.gd⟩ hsp
  have I0 : Inv (cxOf CX0 P w K mg base N qual scope f cdv A outer s H E0) [] (L2.start N vs) H s1 := inv_start S hr.room.hd e0 lv r x
  refine wpAny_mono (ht.run [] s1 _ H _ I0 hq) ?_ fun _ _ z => z
  intro fl s' hs
  match fl, hs with
  | .ret _, ⟨v, _, H', J, rv, q⟩ => exact ⟨v, H', J.os, J.bare, J.base, J.hok, rv, q⟩
  | .next, ⟨_, H', J, q⟩ => exact ⟨V.non, H', J.os, J.bare, J.base, J.hok, rfl, q⟩
  | .brk, ⟨_, _, _, q⟩ => exact q.elim
  | .cont, ⟨_, _, _, q⟩ => exact q.elim
end
/-- the def of that name keeps the promise -/
def Cal (P : Program) (w : World) (K : PySem.W.Frag) (mg : Str → Option Value) (base : Heap) (x : Str) (n k : Nat) (S : SpV) : Prop :=
  ∃ f fd ps, FnG P w K mg base k f fd ps (vsp K mg n S) ∧ mg x = some (.ref f) ∧ PySem.W.keepIn K (.ref f) = true ∧ Binds K fd ps []
theorem Cal.mono {P w K mg base x n j k S} (h : Cal P w K mg base x n j S) (l : j ≤ k) : Cal P w K mg base x n k S := by
  obtain ⟨f, fd, ps, h1, h2⟩ := h
  exact ⟨f, fd, ps, h1.mono l, h2⟩
theorem Cal.imp {P w K mg base x n k S S'} (h : Cal P w K mg base x n k S) (l : ∀ ps Q, S' ps Q → S ps Q) : Cal P w K mg base x n k S' := by
  obtain ⟨f, fd, ps, h1, h2⟩ := h
  exact ⟨f, fd, ps, h1.imp fun vs H Q E ⟨e, hO, Fr, F, qs, Qv, R, r, s, q⟩ => ⟨e, hO, Fr, F, qs, Qv, R, r, l _ _ s, q⟩, h2⟩

open Classical in
noncomputable def frm (Fr H : Hp) (σ : L2.St) (ρ : Rho) : Hp := fun b =>
  if (Fr b).isSome then Fr b else if ∃ (i : Nat) (xs : List PV), ρ[i]? = some (Sl.own xs) ∧ σ[i]? = some (some (V.ref b)) then H b else none
section
variable {G : Gh} {Fr F F' H H' : Hp} {σ : L2.St} {ρ : Rho} {v : V}
theorem frm_fr {b : Addr} {o : HO} (h : Fr b = some o) : frm Fr H σ ρ b = some o := by
  unfold frm; rw [if_pos (by rw [h]; rfl)]; exact h
theorem frm_own {b : Addr} {i : Nat} {xs : List PV} (R : Rr G Fr F σ H ρ) (h1 : ρ[i]? = some (Sl.own xs)) (h2 : σ[i]? = some (some (V.ref b))) : frm Fr H σ ρ b = H b := by
  obtain ⟨a, vs, e, o⟩ := R.own i xs h1
  rw [h2] at e; cases e
  unfold frm
  rw [if_neg (by rw [o.nFr]; decide), if_pos ⟨i, xs, h1, h2⟩]
theorem Rr.toFrm (R : Rr G Fr F σ H ρ) : RB G (frm Fr H σ ρ) F H where
  sub := R.sub
  fr := fun b o e => by
    unfold frm at e
    split at e
    · exact R.fr b o e
    · split at e
      · rename_i h
        obtain ⟨i, xs, h1, h2⟩ := h
        obtain ⟨a, vs, e1, ow⟩ := R.own i xs h1
        rw [h2] at e1; cases e1
        exact ⟨e, ow.nF, ow.nh⟩
      · cases e
  hand := R.hand
theorem Rr.ofFrm (R : Rr G Fr F σ H ρ) (s : Same F F') (B : RB G (frm Fr H σ ρ) F' H') : Rr G Fr F' σ H' ρ where
  sub := B.sub
  fr := fun b o e => B.fr b o (frm_fr e)
  hand := B.hand
  len := R.len
  val := fun i p e => by
    obtain ⟨v, h1, h2⟩ := R.val i p e
    exact ⟨v, h1, h2.mono s⟩
  own := fun i xs e => by
    obtain ⟨a, vs, h1, o⟩ := R.own i xs e
    obtain ⟨g1, g2, g3⟩ := B.fr a (.lst vs) (by rw [frm_own R e h1]; exact o.at_)
    exact ⟨a, vs, h1, g1, o.rep.mono s, g2, g3, o.nFr⟩
  sep := R.sep
theorem RO.ofFrm {r : Sl} (R : Rr G Fr F σ H ρ) (o : RO G (frm Fr H σ ρ) F' [] H' [] v r) : RO G Fr F' σ H' ρ v r := by
  cases r with
  | no => exact o
  | val p => exact o
  | own xs =>
    obtain ⟨a, vs, rfl, ow, _⟩ := o
    refine ⟨a, vs, rfl, ⟨ow.at_, ow.rep, ow.nF, ow.nh, ?_⟩, fun i ys e1 e2 => ?_⟩
    · cases q : Fr a with
      | none => rfl
      | some o => have := ow.nFr; rw [frm_fr q] at this; cases this
    · obtain ⟨b, us, g1, g2⟩ := R.own i ys e1
      rw [e2] at g1; cases g1
      have := ow.nFr
      rw [frm_own R e1 e2, g2.at_] at this; cases this
end

def wCall (S : SpV) (wa : WA) : WE := fun ρ Q => wa ρ fun ps ρ1 => S ps fun r => Q r ρ1
def wCallN (n : Nat) (S : SpV) (wa : WA) : WE := fun ρ Q => wa ρ fun ps ρ1 => ps.length = n ∧ S ps fun r => Q r ρ1
section
variable {X : Cx} {pos : Pos}
theorem ve_call {x : Str} {n k : Nat} {S : SpV} {e : Expr} {es : List Expr} {wa : WA} {p : Pos} (C : Cal X.prog X.w X.K X.mg X.base x n k S) (hr : RoomG k X.A) (hg : Gl X x) (ha : VA X (e :: es) wa)
    (hdb : (x == ("__debug__" : Str)) = false := by decide) (he : starEach (e :: es) X.env = (false, eval e X.env) :: starEach es X.env := by rfl) (hpl : (backTo pos (starEach es X.env)).any (·.1) = false := by rfl) :
    VE X (.Call (.Name x p) (e :: es) [] pos) (wCallN n S wa) := by
  obtain ⟨f, fd, prs, F, hm, hk, hb⟩ := C
  refine PE.imp (pe_callG F hr hg hm hk hb ha hdb he hpl) ?_
  rintro σ H Q ⟨hO, Fr, F, ρ, Qv, R, h, k⟩
  refine ⟨hO, Fr, F, ρ, _, R, h, fun vs H1 F1 ps ρ1 s1 R1 rs q => ?_⟩
  obtain ⟨ql, q⟩ := q
  refine ⟨by rw [rs.length]; exact ql, hO, frm Fr H1 σ ρ1, F1, ps, _, R1.toFrm, rs, q, fun v H' F' r s B o q' => ?_⟩
  exact k v H' F' r ρ1 (s1.trans s) (R1.ofFrm s B) (RO.ofFrm R1 o) q'
theorem ve_call0 {x : Str} {k : Nat} {S : SpV} {p : Pos} (C : Cal X.prog X.w X.K X.mg X.base x 0 k S) (hr : RoomG k X.A) (hg : Gl X x)
    (hdb : (x == ("__debug__" : Str)) = false := by decide) : VE X (.Call (.Name x p) [] [] pos) (wCall S wNil) := by
  obtain ⟨f, fd, prs, F, hm, hk, hb⟩ := C
  refine PE.imp (pe_callG0 F hr hg hm hk hb hdb) ?_
  rintro σ H Q ⟨hO, Fr, F, ρ, Qv, R, h, k⟩
  refine ⟨rfl, hO, frm Fr H σ ρ, F, [], _, R.toFrm, .nil, h, fun v H' F' r s B o q' => ?_⟩
  exact k v H' F' r ρ s (R.ofFrm s B) (RO.ofFrm R o) q'

/-! ### calls of built-ins -/
def SerC (K : PySem.W.Frag) (mg : Str → Option Value) (r : List V → Hp → VK → Prop) (op : SpV) : Prop := ∀ (hO : Option Addr) (Fr F : Hp) (σ : L2.St) (H : Hp) (ρ : Rho) (vs : List V) (ps : List PV) (Qv : Sl → Prop) (Q : VK),
  Rr ⟨K, mg, hO⟩ Fr F σ H ρ → Reps ⟨K, mg, hO⟩ F vs ps → op ps Qv → (∀ v H' F' r, Same F F' → Rr ⟨K, mg, hO⟩ Fr F' σ H' ρ → RO ⟨K, mg, hO⟩ Fr F' σ H' ρ v r → Qv r → Q v H') → r vs H Q
def serc {K mg} {r : List V → Hp → VK → Prop} {op : SpV} {wa : WA} (hs : SerC K mg r op) : ∀ σ H Q, eE K mg (wCall op wa) σ H Q → tCB r (eA K mg wa) σ H Q := by
  rintro σ H Q ⟨hO, Fr, F, ρ, Qv, R, h, k⟩
  refine ⟨hO, Fr, F, ρ, _, R, h, fun vs H1 F1 ps ρ1 s1 R1 rs q => ?_⟩
  exact hs hO Fr F1 σ H1 ρ1 vs ps _ Q R1 rs q fun v H' F' r s R' o q' => k v H' F' r ρ1 (s1.trans s) R' o q'
theorem ve_callB {x : Str} {id : String} {r : List V → Hp → VK → Prop} {op : SpV} {e : Expr} {es : List Expr} {wa : WA} {p : Pos} (hc : CallR X (.builtin id) r) (hs : SerC X.K X.mg r op) (hg : Gl X x) (hm : X.mg x = none) (hv : bootBuiltins x = some (.builtin id)) (ha : VA X (e :: es) wa)
    (hn : x ≠ "__name__" := by decide) (hdb : (x == ("__debug__" : Str)) = false := by decide) (he : starEach (e :: es) X.env = (false, eval e X.env) :: starEach es X.env := by rfl) (hpl : (backTo pos (starEach es X.env)).any (·.1) = false := by rfl) :
    VE X (.Call (.Name x p) (e :: es) [] pos) (wCall op wa) := PE.imp (pe_callB hc hg hm hv ha hn hdb he hpl) (serc hs)
theorem ve_callTy {x : Str} {T : String} {r : List V → Hp → VK → Prop} {op : SpV} {e : Expr} {es : List Expr} {wa : WA} {p : Pos} (hc : CallR X (.type T) r) (hs : SerC X.K X.mg r op) (hg : Gl X x) (hm : X.mg x = none) (hv : bootBuiltins x = some (.type T)) (ha : VA X (e :: es) wa)
    (hn : x ≠ "__name__" := by decide) (hdb : (x == ("__debug__" : Str)) = false := by decide) (he : starEach (e :: es) X.env = (false, eval e X.env) :: starEach es X.env := by rfl) (hpl : (backTo pos (starEach es X.env)).any (·.1) = false := by rfl) :
    VE X (.Call (.Name x p) (e :: es) [] pos) (wCall op wa) := PE.imp (pe_callTy hc hg hm hv ha hn hdb he hpl) (serc hs)
/-- len -/
def opLen : SpV := fun ps Q => match ps with
  | [.lst xs] => Q (.val (.int xs.length))
  | [.tup xs] => Q (.val (.int xs.length))
  | [.hnd] => Q (.val (.int 5))
  | [.str x] => x.length ≤ sizeLine ∧ Q (.val (.int x.length))
  | _ => False
def rLenA (K : PySem.W.Frag) : List V → Hp → VK → Prop := fun xs H Q => (∃ p ys, xs = [.ref p] ∧ (SqL K H p ys ∨ SqT K H p ys) ∧ Q (.int ys.length) H) ∨ (∃ z, xs = [.str z] ∧ z.length ≤ sizeLine ∧ Q (.int z.length) H)
theorem call_lenA : CallR X (.builtin "len") (rLenA X.K) := call_len_seq.or call_len_str
theorem ser_len {K mg} : SerC K mg (rLenA K) opLen := by
  intro hO Fr F σ H ρ vs ps Qv Q R rs h k
  unfold opLen at h
  split at h
  · cases rs with
    | cons r rn =>
      cases rn
      cases r with
      | lst e rs' => exact .inl ⟨_, _, rfl, .inl (.inl (.inl (R.sub _ _ e))), by rw [rs'.length]; exact k _ H F (.val (.int _)) (Same.refl F) R (Rep.int _) h⟩
  · cases rs with
    | cons r rn =>
      cases rn
      cases r with
      | tup e rs' => exact .inl ⟨_, _, rfl, .inr (Same.sqt R.sub e), by rw [rs'.length]; exact k _ H F (.val (.int _)) (Same.refl F) R (Rep.int _) h⟩
  · cases rs with
    | cons r rn =>
      cases rn
      cases r with
      | hnd e =>
        obtain ⟨_, c, cs, i, b, m, n, e1, _⟩ := R.hand _ e
        exact .inl ⟨_, _, rfl, .inl (.inl (.inl e1)), k _ H F (.val (.int _)) (Same.refl F) R (Rep.int _) h⟩
  · cases rs with
    | cons r rn =>
      cases rn
      cases r
      exact .inr ⟨_, rfl, h.1, k _ H F (.val (.int _)) (Same.refl F) R (Rep.int _) h.2⟩
  · exact h.elim
/-- abs, int -/
def opAbs : SpV := fun ps Q => match ps with
  | [.int i] => Q (.val (.int (if i < 0 then -i else i)))
  | _ => False
theorem ser_abs {K mg} : SerC K mg (fun xs H Q => ∃ i, xs = [.int i] ∧ Q (.int (if i < 0 then -i else i)) H) opAbs := by
  intro hO Fr F σ H ρ vs ps Qv Q R rs h k
  unfold opAbs at h
  split at h
  · cases rs with
    | cons r rn =>
      cases rn; cases r
      exact ⟨_, rfl, k _ H F (.val (.int _)) (Same.refl F) R (Rep.int _) h⟩
  · exact h.elim
def opIntC : SpV := fun ps Q => match ps with
  | [.int i] => Q (.val (.int i))
  | [.bl b] => Q (.val (.int (if b then 1 else 0)))
  | _ => False
theorem ser_intC {K mg} : SerC K mg (fun xs H Q => (∃ i, xs = [.int i] ∧ Q (.int i) H) ∨ ∃ k, xs = [.bl k] ∧ Q (.int (if k then 1 else 0)) H) opIntC := by
  intro hO Fr F σ H ρ vs ps Qv Q R rs h k
  unfold opIntC at h
  split at h
  · cases rs with
    | cons r rn =>
      cases rn; cases r
      exact .inl ⟨_, rfl, k _ H F (.val (.int _)) (Same.refl F) R (Rep.int _) h⟩
  · cases rs with
    | cons r rn =>
      cases rn; cases r
      exact .inr ⟨_, rfl, k _ H F (.val (.int _)) (Same.refl F) R (Rep.int _) h⟩
  · exact h.elim
/-- max, min of two ints -/
def opMax2 : SpV := fun ps Q => match ps with
  | [.int i, .int j] => Q (.val (.int (if j > i then j else i)))
  | _ => False
def opMin2 : SpV := fun ps Q => match ps with
  | [.int i, .int j] => Q (.val (.int (if j < i then j else i)))
  | _ => False
theorem ser_max2 {K mg} : SerC K mg (fun xs H Q => ∃ i j, xs = [.int i, .int j] ∧ Q (.int (if j > i then j else i)) H) opMax2 := by
  intro hO Fr F σ H ρ vs ps Qv Q R rs h k
  unfold opMax2 at h
  split at h
  · cases rs with
    | cons r rn =>
      cases rn with
      | cons r' rn =>
        cases rn; cases r; cases r'
        exact ⟨_, _, rfl, k _ H F (.val (.int _)) (Same.refl F) R (Rep.int _) h⟩
  · exact h.elim
theorem ser_min2 {K mg} : SerC K mg (fun xs H Q => ∃ i j, xs = [.int i, .int j] ∧ Q (.int (if j < i then j else i)) H) opMin2 := by
  intro hO Fr F σ H ρ vs ps Qv Q R rs h k
  unfold opMin2 at h
  split at h
  · cases rs with
    | cons r rn =>
      cases rn with
      | cons r' rn =>
        cases rn; cases r; cases r'
        exact ⟨_, _, rfl, k _ H F (.val (.int _)) (Same.refl F) R (Rep.int _) h⟩
  · exact h.elim
/-- all, any, sum of a list -/
def opAll : SpV := fun ps Q => ∃ bs : List Bool, ps = [.lst (bs.map PV.bl)] ∧ Q (.val (.bl (bs.all id)))
def opAny : SpV := fun ps Q => ∃ bs : List Bool, ps = [.lst (bs.map PV.bl)] ∧ Q (.val (.bl (bs.any id)))
def opSum : SpV := fun ps Q => ∃ bs : List Int, ps = [.lst (bs.map PV.int)] ∧ Q (.val (.int bs.sum))
theorem ser_all {K mg} : SerC K mg (rAll K) opAll := by
  intro hO Fr F σ H ρ vs ps Qv Q R rs h k
  obtain ⟨bs, rfl, h⟩ := h
  cases rs with
  | cons r rn =>
    cases rn
    cases r with
    | lst e rs' =>
      rw [rs'.of_bls] at e
      exact ⟨_, bs, rfl, .inl (.inl (R.sub _ _ e)), k _ H F (.val (.bl _)) (Same.refl F) R (Rep.bl _) h⟩
theorem ser_any {K mg} : SerC K mg (rAny K) opAny := by
  intro hO Fr F σ H ρ vs ps Qv Q R rs h k
  obtain ⟨bs, rfl, h⟩ := h
  cases rs with
  | cons r rn =>
    cases rn
    cases r with
    | lst e rs' =>
      rw [rs'.of_bls] at e
      exact ⟨_, bs, rfl, .inl (.inl (R.sub _ _ e)), k _ H F (.val (.bl _)) (Same.refl F) R (Rep.bl _) h⟩
theorem ser_sum {K mg} : SerC K mg (rSum K) opSum := by
  intro hO Fr F σ H ρ vs ps Qv Q R rs h k
  obtain ⟨bs, rfl, h⟩ := h
  cases rs with
  | cons r rn =>
    cases rn
    cases r with
    | lst e rs' =>
      rw [rs'.of_ints] at e
      exact ⟨_, bs, rfl, .inl (.inl (R.sub _ _ e)), k _ H F (.val (.int _)) (Same.refl F) R (Rep.int _) h⟩
/-- list(..), tuple(..) -/
def opList : SpV := fun ps Q => match ps with
  | [.lst xs] => Q (.own xs)
  | [.tup xs] => Q (.own xs)
  | _ => False
def opTuple : SpV := fun ps Q => match ps with
  | [.lst xs] => Q (.val (.tup xs))
  | [.tup xs] => Q (.val (.tup xs))
  | _ => False
theorem ser_list {K mg} : SerC K mg (fun xs H Q => ∃ p ys, xs = [.ref p] ∧ (SqL K H p ys ∨ SqT K H p ys) ∧ ∀ l, H l = none → Q (.ref l) (upd H l (.lst ys))) opList := by
  intro hO Fr F σ H ρ vs ps Qv Q R rs h k
  unfold opList at h
  split at h
  · cases rs with
    | cons r rn =>
      cases rn
      cases r with
      | lst e rs' => exact ⟨_, _, rfl, .inl (.inl (.inl (R.sub _ _ e))), fun l hl => k _ _ F (.own _) (Same.refl F) (R.fresh hl) (R.freshOwn hl rs') h⟩
  · cases rs with
    | cons r rn =>
      cases rn
      cases r with
      | tup e rs' => exact ⟨_, _, rfl, .inr (Same.sqt R.sub e), fun l hl => k _ _ F (.own _) (Same.refl F) (R.fresh hl) (R.freshOwn hl rs') h⟩
  · exact h.elim
theorem ser_tuple {K mg} : SerC K mg (fun xs H Q => ∃ p ys, xs = [.ref p] ∧ ((SqL K H p ys ∧ ∀ l, H l = none → Q (.ref l) (upd H l (.tup ys))) ∨ (SqT K H p ys ∧ Q (.ref p) H))) opTuple := by
  intro hO Fr F σ H ρ vs ps Qv Q R rs h k
  unfold opTuple at h
  split at h
  · cases rs with
    | cons r rn =>
      cases rn
      cases r with
      | lst e rs' =>
        refine ⟨_, _, rfl, .inl ⟨.inl (.inl (R.sub _ _ e)), fun l hl => ?_⟩⟩
        have hF := R.nF hl
        exact k _ _ _ (.val (.tup _)) (same_upd hF) (R.laid hl) (Rep.tup (SqT.of upd_same) (rs'.mono (same_upd hF))) h
  · cases rs with
    | cons r rn =>
      cases rn
      cases r with
      | tup e rs' => exact ⟨_, _, rfl, .inr ⟨Same.sqt R.sub e, k _ H F (.val (.tup _)) (Same.refl F) R (Rep.tup e rs') h⟩⟩
  · exact h.elim
/-- isinstance of a plain value and a built-in class -/
def kindOf : PV → Option String
  | .non => some "NoneType"
  | .bl _ => some "bool"
  | .int _ => some "int"
  | .str _ => some "str"
  | .tup _ => some "tuple"
  | .lst _ => some "list"
  | .hnd => some "list"
  | .dct0 => some "dict"
  | _ => none
def opIsi : SpV := fun ps Q => match ps with
  | [p, .ty n] => ∃ k b, kindOf p = some k ∧ kitB k n = some b ∧ Q (.val (.bl b))
  | _ => False
theorem ser_isi {K mg} : SerC K mg (rIsi K) opIsi := by
  intro hO Fr F σ H ρ vs ps Qv Q R rs h k
  unfold opIsi at h
  split at h
  · cases rs with
    | cons r rn =>
      cases rn with
      | cons r' rn =>
        cases rn
        cases r'
        obtain ⟨kd, b, e1, e2, h⟩ := h
        have fin := k (.bl b) H F (.val (.bl b)) (Same.refl F) R (Rep.bl _) h
        cases r with
        | non => simp only [kindOf, Option.some.injEq] at e1; subst e1; exact ⟨_, _, _, _, b, rfl, .ty _, .base .non, kit_ty e2, fin⟩
        | bl => simp only [kindOf, Option.some.injEq] at e1; subst e1; exact ⟨_, _, _, _, b, rfl, .ty _, .base (.bl _), kit_ty e2, fin⟩
        | int => simp only [kindOf, Option.some.injEq] at e1; subst e1; exact ⟨_, _, _, _, b, rfl, .ty _, .base (.int _), kit_ty e2, fin⟩
        | str => simp only [kindOf, Option.some.injEq] at e1; subst e1; exact ⟨_, _, _, _, b, rfl, .ty _, .base (.str _), kit_ty e2, fin⟩
        | tup e rs' =>
          simp only [kindOf, Option.some.injEq] at e1; subst e1
          have e' := Same.sqt R.sub e
          rcases e' with (e' | ⟨o, e'⟩) | ⟨o, its, n, e', ec, _⟩
          · exact ⟨_, _, _, _, b, rfl, .ty _, .base (.tup e'), kit_ty e2, fin⟩
          · exact ⟨_, _, _, _, b, rfl, .ty _, .fTuple e', kit_ty e2, fin⟩
          · exact ⟨_, _, _, _, b, rfl, .ty _, .kTuple e' ec, kit_ty e2, fin⟩
        | lst e rs' => simp only [kindOf, Option.some.injEq] at e1; subst e1; exact ⟨_, _, _, _, b, rfl, .ty _, .base (.lst (R.sub _ _ e)), kit_ty e2, fin⟩
        | dct0 e => simp only [kindOf, Option.some.injEq] at e1; subst e1; exact ⟨_, _, _, _, b, rfl, .ty _, .base (.dK (R.sub _ _ e)), kit_ty e2, fin⟩
        | hnd e =>
          simp only [kindOf, Option.some.injEq] at e1; subst e1
          obtain ⟨_, c, cs, i, b', m, n, e3, _⟩ := R.hand _ e
          exact ⟨_, _, _, _, b, rfl, .ty _, .base (.lst e3), kit_ty e2, fin⟩
        | ty | fnc | ins | ptr => simp [kindOf] at e1
  · exact h.elim
end
end VE
end
section
set_option Elab.async false
set_option linter.all false
set_option maxRecDepth 100000
namespace VE
open PySem PySem.Spec PyProof.Rows L2

section
variable {X : Cx} {pos : Pos}
section
variable {K : PySem.W.Frag} {mg : Str → Option Value} {hO : Option Addr} {Fr F : Hp} {σ : L2.St} {H : Hp} {ρ : Rho}
theorem RO.none {G : Gh} {v : V} {r : Sl} (o : RO G Fr F σ H ρ v r) : RO G Fr F [] H [] v r := by
  cases r with
  | no => exact o
  | val p => exact o
  | own xs =>
    obtain ⟨a, vs, e, ow, _⟩ := o
    exact ⟨a, vs, e, ow, fun i ys e1 _ => by simp at e1⟩
end
/-! ### small statements -/
def wNext : WS := fun D ρ => D.nx ρ
def wSeq (a b : WS) : WS := fun D ρ => a { D with nx := fun ρ1 => b D ρ1 } ρ
theorem vss_nil : VSs X [] wNext := by
  refine PSs.imp pss_nil ?_
  rintro D σ H ⟨hO, Fr, F, ρ, DV, R, h, k1, k2, k3, k4⟩
  exact k1 σ H F ρ (Same.refl F) R h
theorem vss_cons {st : Stmt} {rest : List Stmt} {a b : WS} (h1 : VS X st a) (h2 : VSs X rest b) : VSs X (st :: rest) (wSeq a b) := by
  refine PSs.imp (pss_cons h1 h2) ?_
  rintro D σ H ⟨hO, Fr, F, ρ, DV, R, h, k1, k2, k3, k4⟩
  refine ⟨hO, Fr, F, ρ, _, R, h, fun σ1 H1 F1 ρ1 s1 R1 q1 => ?_, k2, k3, k4⟩
  exact ⟨hO, Fr, F1, ρ1, DV, R1, q1, fun σ2 H2 F2 ρ2 s2 R2 q => k1 σ2 H2 F2 ρ2 (s1.trans s2) R2 q, fun v H2 F2 r s2 B o q => k2 v H2 F2 r (s1.trans s2) B o q,
    fun σ2 H2 F2 ρ2 s2 R2 q => k3 σ2 H2 F2 ρ2 (s1.trans s2) R2 q, fun σ2 H2 F2 ρ2 s2 R2 q => k4 σ2 H2 F2 ρ2 (s1.trans s2) R2 q⟩
theorem vss_one {st : Stmt} {a : WS} (h1 : VS X st a) : VSs X [st] a := pss_one h1
def wBreak : WS := fun D ρ => D.bk ρ
def wCont : WS := fun D ρ => D.ct ρ
def wNever : WS := fun _ _ => False
theorem vs_pass : VS X (.Pass pos) wNext := by
  refine PS.imp ps_pass ?_
  rintro D σ H ⟨hO, Fr, F, ρ, DV, R, h, k1, k2, k3, k4⟩
  exact k1 σ H F ρ (Same.refl F) R h
theorem vs_break : VS X (.Break pos) wBreak := by
  refine PS.imp ps_break ?_
  rintro D σ H ⟨hO, Fr, F, ρ, DV, R, h, k1, k2, k3, k4⟩
  exact k3 σ H F ρ (Same.refl F) R h
theorem vs_cont : VS X (.Continue pos) wCont := by
  refine PS.imp ps_continue ?_
  rintro D σ H ⟨hO, Fr, F, ρ, DV, R, h, k1, k2, k3, k4⟩
  exact k4 σ H F ρ (Same.refl F) R h
theorem vs_never {st : Stmt} : VS X st wNever := by
  refine PS.imp ps_never ?_
  rintro D σ H ⟨hO, Fr, F, ρ, DV, R, h, k1, k2, k3, k4⟩
  exact h.elim
def wRet (w : WE) : WS := fun D ρ => w ρ fun r _ => D.rt r
def wRetN (i : Nat) : WS := fun D ρ => match look ρ i with
  | .no => False
  | .val p => D.rt (.val p)
  | .own xs => D.rt (.own xs)
def wRet0 : WS := fun D ρ => D.rt (.val .non)
theorem vs_ret {e : Expr} {w : WE} (he : VE X e w) : VS X (.Return (some e) pos) (wRet w) := by
  refine PS.imp (ps_ret he) ?_
  rintro D σ H ⟨hO, Fr, F, ρ, DV, R, h, k1, k2, k3, k4⟩
  exact ⟨hO, Fr, F, ρ, _, R, h, fun v H' F' r ρ' s R' o q => k2 v H' F' r s R'.toRB o.none q⟩
theorem vs_ret0 : VS X (.Return none pos) wRet0 := by
  refine PS.imp ps_retN ?_
  rintro D σ H ⟨hO, Fr, F, ρ, DV, R, h, k1, k2, k3, k4⟩
  exact k2 _ H F (.val .non) (Same.refl F) R.toRB Rep.non h
theorem vs_retN {i : Nat} {x : Str} {p : Pos} (hN : X.N[i]? = some x) (hv : Vis X.env.scope x) (hd : (x == ("__debug__" : Str)) = false := by decide) (hcd : (x == ("__classdict__" : Str)) = false := by decide) : VS X (.Return (some (.Name x p)) pos) (wRetN i) := by
  refine PS.imp (ps_ret (pe_var hN hv hd hcd)) ?_
  rintro D σ H ⟨hO, Fr, F, ρ, DV, R, h, k1, k2, k3, k4⟩
  unfold wRetN at h
  cases q : look ρ i with
  | no => rw [q] at h; exact h.elim
  | val p =>
    rw [q] at h
    obtain ⟨v, e, rp⟩ := R.val i p (look_get q (by intro z; cases z))
    exact ⟨v, e, k2 v H F (.val p) (Same.refl F) R.toRB rp h⟩
  | own xs =>
    rw [q] at h
    obtain ⟨a, vs, e, o⟩ := R.own i xs (look_get q (by intro z; cases z))
    exact ⟨_, e, k2 _ H F (.own xs) (Same.refl F) R.toRB ⟨a, vs, rfl, o, fun i ys e1 _ => by simp at e1⟩ h⟩
def wIfS (t : WT) (a b : WS) : WS := fun D ρ => t ρ fun k ρ1 => if k = true then a D ρ1 else b D ρ1
theorem vs_if {c : Expr} {p q : List Stmt} {t : WT} {a b : WS} (hc : VT X c t) (ha : VSs X p a) (hb : VSs X q b) : VS X (.If c p q pos) (wIfS t a b) := by
  refine PS.imp (ps_if hc ha hb) ?_
  rintro D σ H ⟨hO, Fr, F, ρ, DV, R, h, k1, k2, k3, k4⟩
  refine eT.mk R h fun d H1 F1 ρ1 s1 R1 q1 => ?_
  cases d with
  | true => exact ⟨hO, Fr, F1, ρ1, DV, R1, by simpa using q1, fun σ2 H2 F2 ρ2 s2 R2 q => k1 σ2 H2 F2 ρ2 (s1.trans s2) R2 q, fun v H2 F2 r s2 B o q => k2 v H2 F2 r (s1.trans s2) B o q,
    fun σ2 H2 F2 ρ2 s2 R2 q => k3 σ2 H2 F2 ρ2 (s1.trans s2) R2 q, fun σ2 H2 F2 ρ2 s2 R2 q => k4 σ2 H2 F2 ρ2 (s1.trans s2) R2 q⟩
  | false => exact ⟨hO, Fr, F1, ρ1, DV, R1, by simpa using q1, fun σ2 H2 F2 ρ2 s2 R2 q => k1 σ2 H2 F2 ρ2 (s1.trans s2) R2 q, fun v H2 F2 r s2 B o q => k2 v H2 F2 r (s1.trans s2) B o q,
    fun σ2 H2 F2 ρ2 s2 R2 q => k3 σ2 H2 F2 ρ2 (s1.trans s2) R2 q, fun σ2 H2 F2 ρ2 s2 R2 q => k4 σ2 H2 F2 ρ2 (s1.trans s2) R2 q⟩
def wDrop (w : WE) : WS := fun D ρ => w ρ fun _ ρ1 => D.nx ρ1
theorem vs_expr {e : Expr} {w : WE} (he : VE X e w) (hs : swapsWith e none pos.line X.env = pure false := by rfl) : VS X (.Expr e pos) (wDrop w) := by
  refine PS.imp (ps_expr he hs) ?_
  rintro D σ H ⟨hO, Fr, F, ρ, DV, R, h, k1, k2, k3, k4⟩
  exact ⟨hO, Fr, F, ρ, _, R, h, fun v H' F' r ρ' s R' o q => k1 σ H' F' ρ' s R' q⟩
/-! ### stores -/
def wSet (i : Nat) (w : WE) : WS := fun D ρ => w ρ fun r ρ1 => D.nx (ρ1.set i r)
theorem vs_set {i : Nat} {x : Str} {e : Expr} {w : WE} {pos' : Pos} (hN : X.N.Nodup) (hi : X.N[i]? = some x) (hx : Loc X.env.scope x) (he : VE X e w) (hs : swapsWith e (some (.Name x pos')) pos.line X.env = pure false := by rfl) (hf : X.fn x = true ∨ X.env.scope.names.lookup x = some .local := by first | exact .inl rfl | exact .inr rfl | assumption) :
    VS X (.Assign [.Name x pos'] e pos) (wSet i w) := by
  refine PS.imp (ps_set hN hi hx he hs hf) ?_
  rintro D σ H ⟨hO, Fr, F, ρ, DV, R, h, k1, k2, k3, k4⟩
  exact ⟨hO, Fr, F, ρ, _, R, h, fun v H' F' r ρ' s R' o q => k1 _ H' F' _ s (R'.set o) q⟩
def wPar (i j : Nat) (w : WA) : WS := fun D ρ => w ρ fun ps ρ1 => ∃ p q, ps = [p, q] ∧ D.nx ((ρ1.set i (.val p)).set j (.val q))
theorem vs_par {i j : Nat} {x y : Str} {a b : Expr} {w : WA} {px py pt : Pos} {kt k2 pt2} (hc : X.calm = true) (hN : X.N.Nodup) (hi : X.N[i]? = some x) (hj : X.N[j]? = some y) (hij : i ≠ j)
    (hx : X.env.scope.names.lookup x = some .local) (hy : X.env.scope.names.lookup y = some .local) (ha : VA X [a, b] w)
    (hw : swappedStores [.Tuple [.Name x px, .Name y py] kt pt] (.Tuple [a, b] k2 pt2) X.env = pure (some [x, y]))
    (hs : swapsWithSole [.Tuple [.Name x px, .Name y py] kt pt] (.Tuple [a, b] k2 pt2) pos.line X.env = pure false := by rfl) :
    VS X (.Assign [.Tuple [.Name x px, .Name y py] kt pt] (.Tuple [a, b] k2 pt2) pos) (wPar i j w) := by
  refine PS.imp (ps_par hc hN hi hj hij hx hy ha hw hs) ?_
  rintro D σ H ⟨hO, Fr, F, ρ, DV, R, h, k1, k2, k3, k4⟩
  refine ⟨hO, Fr, F, ρ, _, R, h, fun vs H' F' ps ρ' s R' rs ⟨p, q, e, hq⟩ => ?_⟩
  subst e
  cases rs with
  | cons r1 rs =>
    cases rs with
    | cons r2 rs =>
      cases rs
      refine ⟨_, _, rfl, k1 _ H' F' _ s ?_ hq⟩
      have R1 := R'.set (i := i) (r := .val p) r1
      exact R1.set (i := j) (r := .val q) r2
def wPar3 (i j l : Nat) (w : WA) : WS := fun D ρ => w ρ fun ps ρ1 => ∃ p q r, ps = [p, q, r] ∧ D.nx (((ρ1.set i (.val p)).set j (.val q)).set l (.val r))
theorem vs_par3 {i j l : Nat} {x y z : Str} {st : Stmt} {ta : TA} {w : WA} (h : PS X st (tPar3 i j l (eA X.K X.mg w))) : VS X st (wPar3 i j l w) := by
  refine PS.imp h ?_
  rintro D σ H ⟨hO, Fr, F, ρ, DV, R, h, k1, k2, k3, k4⟩
  refine ⟨hO, Fr, F, ρ, _, R, h, fun vs H' F' ps ρ' s R' rs ⟨p, q, r, e, hq⟩ => ?_⟩
  subst e
  cases rs with
  | cons r1 rs =>
    cases rs with
    | cons r2 rs =>
      cases rs with
      | cons r3 rs =>
        cases rs
        refine ⟨_, _, _, rfl, k1 _ H' F' _ s ?_ hq⟩
        have R1 := R'.set (i := i) (r := .val p) r1
        have R2 := R1.set (i := j) (r := .val q) r2
        exact R2.set (i := l) (r := .val r) r3
/-! targets -/
abbrev WG := PV → Rho → (Rho → Prop) → Prop
abbrev WGs := List PV → Rho → (Rho → Prop) → Prop
/-- only the slots vs change -/
def Chg (vs : List Nat) (σ σ' : L2.St) : Prop := σ'.length = σ.length ∧ ∀ j, j ∉ vs → σ'[j]? = σ[j]?
theorem Chg.refl {vs : List Nat} {σ : L2.St} : Chg vs σ σ := ⟨rfl, fun _ _ => rfl⟩
theorem Chg.set {i : Nat} {σ : L2.St} {v : Option V} : Chg [i] σ (σ.set i v) := ⟨by simp, fun j h => by
  rw [List.getElem?_set_ne (fun e => h (by simp [e]))]⟩
theorem Chg.app {vs us : List Nat} {σ σ1 σ2 : L2.St} (a : Chg vs σ σ1) (b : Chg us σ1 σ2) : Chg (vs ++ us) σ σ2 := ⟨b.1.trans a.1, fun j h => by
  rw [List.mem_append, not_or] at h
  exact (b.2 j h.2).trans (a.2 j h.1)⟩
def eG (K : PySem.W.Frag) (mg : Str → Option Value) (vs : List Nat) (w : WG) : TG := fun v σ H Q => ∃ (hO : Option Addr) (Fr F : Hp) (ρ : Rho) (p : PV) (Qv : Rho → Prop),
  Rr ⟨K, mg, hO⟩ Fr F σ H ρ ∧ Rep ⟨K, mg, hO⟩ F v p ∧ w p ρ Qv ∧ ∀ σ' H' F' ρ', Same F F' → Rr ⟨K, mg, hO⟩ Fr F' σ' H' ρ' → Chg vs σ σ' → Qv ρ' → Q σ' H'
def eGs (K : PySem.W.Frag) (mg : Str → Option Value) (us : List Nat) (w : WGs) : TGs := fun vs σ H Q => ∃ (hO : Option Addr) (Fr F : Hp) (ρ : Rho) (ps : List PV) (Qv : Rho → Prop),
  Rr ⟨K, mg, hO⟩ Fr F σ H ρ ∧ Reps ⟨K, mg, hO⟩ F vs ps ∧ w ps ρ Qv ∧ ∀ σ' H' F' ρ', Same F F' → Rr ⟨K, mg, hO⟩ Fr F' σ' H' ρ' → Chg us σ σ' → Qv ρ' → Q σ' H'
abbrev VG (X : Cx) (e : Expr) (vs : List Nat) (w : WG) : Prop := PG X e (eG X.K X.mg vs w)
abbrev VGs (X : Cx) (e : List Expr) (vs : List Nat) (w : WGs) : Prop := PGs X e (eGs X.K X.mg vs w)
theorem PG.imp {X : Cx} {e : Expr} {t t' : TG} (h : PG X e t) (k : ∀ v σ H Q, t' v σ H Q → t v σ H Q) : PG X e t' := ⟨fun pins s σ H v u Q I r q => h.run pins s σ H v u Q I r (k _ _ _ _ q)⟩
theorem PGs.imp {X : Cx} {e : List Expr} {t t' : TGs} (h : PGs X e t) (k : ∀ v σ H Q, t' v σ H Q → t v σ H Q) : PGs X e t' := ⟨fun pins s σ H v u Q I r q => h.run pins s σ H v u Q I r (k _ _ _ _ q)⟩
def wgName (i : Nat) : WG := fun p ρ Q => Q (ρ.set i (.val p))
theorem vg_name {i : Nat} {x : Str} (hN : X.N.Nodup) (hi : X.N[i]? = some x) (hx : Loc X.env.scope x) (hf : X.fn x = true ∨ X.env.scope.names.lookup x = some .local := by first | exact .inl rfl | exact .inr rfl | assumption) : VG X (.Name x pos) [i] (wgName i) := by
  refine PG.imp (pg_name hN hi hx hf) ?_
  rintro v σ H Q ⟨hO, Fr, F, ρ, p, Qv, R, rp, h, k⟩
  exact k _ H F _ (Same.refl F) (R.set (r := .val p) rp) Chg.set h
def wgNil : WGs := fun ps ρ Q => ps = [] ∧ Q ρ
def wgCons (a : WG) (b : WGs) : WGs := fun ps ρ Q => match ps with
  | p :: ps => a p ρ fun ρ1 => b ps ρ1 Q
  | [] => False
theorem vgs_nil : VGs X [] [] wgNil := by
  refine PGs.imp pgs_nil ?_
  rintro v σ H Q ⟨hO, Fr, F, ρ, ps, Qv, R, rs, ⟨e, h⟩, k⟩
  subst e
  cases rs
  exact ⟨rfl, k _ H F _ (Same.refl F) R Chg.refl h⟩
theorem vgs_cons {e : Expr} {es : List Expr} {a : WG} {b : WGs} {v1 v2 : List Nat} (h1 : VG X e v1 a) (h2 : VGs X es v2 b)
    (hs : (assignEach (e :: es) X.env).map (·.2) = assign e X.env :: (assignEach es X.env).map (·.2) := by rfl) : VGs X (e :: es) (v1 ++ v2) (wgCons a b) := by
  refine PGs.imp (pgs_cons h1 h2 hs) ?_
  rintro v σ H Q ⟨hO, Fr, F, ρ, ps, Qv, R, rs, h, k⟩
  cases rs with
  | nil => exact h.elim
  | cons r rs =>
    refine ⟨_, _, rfl, hO, Fr, F, ρ, _, _, R, r, h, fun σ1 H1 F1 ρ1 s1 R1 c1 q1 => ?_⟩
    exact ⟨hO, Fr, F1, ρ1, _, Qv, R1, rs.mono s1, q1, fun σ2 H2 F2 ρ2 s2 R2 c2 q2 => k σ2 H2 F2 ρ2 (s1.trans s2) R2 (c1.app c2) q2⟩
def wgTup (n : Nat) (b : WGs) : WG := fun p ρ Q => match p with
  | .tup ps => ps.length = n ∧ b ps ρ Q
  | _ => False
theorem vg_tup {es : List Expr} {k : Nat} {t : WGs} {n : Nat} {vs : List Nat} (hc : X.calm = true) (h : VGs X es vs t)
    (hn : (assignEach es X.env).length = n := by rfl) (hst : (assignEach es X.env).findIdx? (·.1) = none := by rfl) : VG X (.Tuple es k pos) vs (wgTup n t) := by
  refine PG.imp (pg_tup hc h hn hst) ?_
  rintro v σ H Q ⟨hO, Fr, F, ρ, p, Qv, R, rp, h, k⟩
  unfold wgTup at h
  split at h
  · cases rp with
    | tup e rs =>
      refine ⟨_, _, rfl, Same.sqt R.sub e, by rw [rs.length]; exact h.1, ?_⟩
      exact ⟨hO, Fr, F, ρ, _, Qv, R, rs, h.2, k⟩
  · exact h.elim
/-- an owned list's place -/
def wgIx (i : Nat) (wi : WE) : WG := fun p ρ Q => (∃ xs, look ρ i = .own xs) ∧ wi ρ fun q ρ1 => match q.pv with
  | .int k => match look ρ1 i with
    | .own xs => ∃ j, ixN xs.length k = some j ∧ Q (ρ1.set i (.own (xs.set j p)))
    | _ => False
  | _ => False
theorem vg_ix {i : Nat} {x : Str} {p1 : Pos} {e : Expr} {wi : WE} (hN : X.N[i]? = some x) (hv : Vis X.env.scope x) (hd : (x == ("__debug__" : Str)) = false := by decide) (hcd : (x == ("__classdict__" : Str)) = false := by decide) (he : VE X e wi)
    (ha : ∀ v, assign (.Subscript (.Name x p1) e pos) X.env v = (do
      let ov ← holding [v] (eval (.Name x p1) X.env)
      let iv ← holding [v, ov] (eval e X.env)
      standAt pos
      holding [v, ov, iv] (setItem ov iv v)
      release [v, ov, iv] []) := by intro _; rfl) : VG X (.Subscript (.Name x p1) e pos) [] (wgIx i wi) := by
  refine PG.imp (pg_sub (pe_var hN hv hd hcd) he set_list ha) ?_
  rintro v σ H Q ⟨hO, Fr, F, ρ, p, Qv, R, rp, ⟨⟨xs0, hx0⟩, h⟩, k⟩
  obtain ⟨a, vs0, e0, o0⟩ := R.own i xs0 (look_get hx0 (by intro z; cases z))
  refine ⟨.ref a, e0, ?_⟩
  refine eE.pv (Qv := fun q ρ1 => match q with
    | .int k => match look ρ1 i with
      | .own xs => ∃ j, ixN xs.length k = some j ∧ Qv (ρ1.set i (.own (xs.set j p)))
      | _ => False
    | _ => False) R h fun y H1 F1 q ρ1 s1 R1 rq h1 => ?_
  split at h1
  · cases rq
    split at h1
    · rename_i kk xs hx
      obtain ⟨j, hj, hq⟩ := h1
      have g := look_get hx (by intro z; cases z)
      obtain ⟨a', vs, e1, o⟩ := R1.own i xs g
      rw [e0] at e1; cases e1
      refine ⟨a, vs, _, j, rfl, rfl, o.at_, by rw [o.rep.length]; exact hj, ?_⟩
      exact k _ _ F1 _ s1 (R1.write g e0 o (Reps.set j o.rep (rp.mono s1))) Chg.refl hq
    · exact h1.elim
  · exact h1.elim
def wAsg (w : WE) (g : WG) : WS := fun D ρ => w ρ fun r ρ1 => g r.pv ρ1 D.nx
theorem vs_asg {tg e : Expr} {w : WE} {g : WG} {vs : List Nat} (he : VE X e w) (hg : VG X tg vs g) (hs : swapsWithSole [tg] e pos.line X.env = pure false := by rfl) (hw : swappedStores [tg] e X.env = pure none := by rfl)
    (h1 : (assignEach [tg] X.env).map (·.2) = [assign tg X.env] := by rfl) : VS X (.Assign [tg] e pos) (wAsg w g) := by
  refine PS.imp (ps_asg he hg hs hw h1) ?_
  rintro D σ H ⟨hO, Fr, F, ρ, DV, R, h, k1, k2, k3, k4⟩
  refine eE.pv (Qv := fun p ρ1 => g p ρ1 DV.nx) R h fun x H1 F1 p ρ1 s1 R1 rp h1 => ?_
  exact ⟨hO, Fr, F1, ρ1, p, DV.nx, R1, rp, h1, fun σ2 H2 F2 ρ2 s2 R2 _ q => k1 σ2 H2 F2 ρ2 (s1.trans s2) R2 q⟩
/-- name += e, -= e -/
def wAug (i : Nat) (g : Int → Int → Int) (w : WE) : WS := fun D ρ => match look ρ i with
  | .val (.int a) => w ρ fun r ρ1 => match r.pv with
    | .int b => D.nx (ρ1.set i (.val (.int (g a b))))
    | _ => False
  | _ => False
theorem vs_aug {i : Nat} {x : Str} {e : Expr} {w : WE} {op : Operator} {g : Int → Int → Int} {pos' : Pos} (hN : X.N.Nodup) (hi : X.N[i]? = some x) (hx : Loc X.env.scope x) (he : VE X e w) (ho : PIp X op (ipI g)) (hf : X.fn x = true ∨ X.env.scope.names.lookup x = some .local := by first | exact .inl rfl | exact .inr rfl | assumption) :
    VS X (.AugAssign (.Name x pos') op e pos) (wAug i g w) := by
  refine PS.imp (ps_aug hN hi hx he ho hf) ?_
  rintro D σ H ⟨hO, Fr, F, ρ, DV, R, h, k1, k2, k3, k4⟩
  unfold wAug at h
  split at h
  · rename_i a hx
    obtain ⟨v, e1, rv⟩ := R.val i _ (look_get hx (by intro z; cases z))
    cases rv
    refine ⟨_, e1, ?_⟩
    refine eE.pv (Qv := fun p ρ1 => match p with | .int b => DV.nx (ρ1.set i (.val (.int (g a b)))) | _ => False) R h fun y H1 F1 p ρ1 s1 R1 rp h1 => ?_
    split at h1
    · cases rp
      exact ⟨_, _, rfl, rfl, k1 _ H1 F1 _ s1 (R1.set (r := .val (.int _)) (Rep.int _)) h1⟩
    · exact h1.elim
  · exact h.elim
/-! ### x.append(e), x.insert(i, e) -/
def wAppend (i : Nat) (w : WE) : WS := fun D ρ => (∃ xs, look ρ i = .own xs) ∧ w ρ fun r ρ1 => match look ρ1 i with
  | .own xs => xs.length < sizeLine ∧ D.nx (ρ1.set i (.own (xs ++ [r.pv])))
  | _ => False
theorem vs_append {i : Nat} {x : Str} {e : Expr} {w : WE} {p1 p2 p3 : Pos} (hN : X.N[i]? = some x) (hv : Vis X.env.scope x) (he : VE X e w)
    (hp : PE X (.Call (.Attribute (.Name x p1) "append" p2) [e] [] p3) (tBM X.K "list" rAppend (tVar i) (tCons (eE X.K X.mg w) tNil))) (hs : swapsWith (.Call (.Attribute (.Name x p1) "append" p2) [e] [] p3) none pos.line X.env = pure false := by rfl) :
    VS X (.Expr (.Call (.Attribute (.Name x p1) "append" p2) [e] [] p3) pos) (wAppend i w) := by
  refine PS.imp (ps_expr hp hs) ?_
  rintro D σ H ⟨hO, Fr, F, ρ, DV, R, ⟨⟨xs0, hx0⟩, h⟩, k1, k2, k3, k4⟩
  obtain ⟨a, vs0, e0, o0⟩ := R.own i xs0 (look_get hx0 (by intro z; cases z))
  refine ⟨.ref a, e0, .inl ⟨rfl, _, .inl (.inl o0.at_)⟩, ?_⟩
  refine eE.pv (Qv := fun p ρ1 => match look ρ1 i with
    | .own xs => xs.length < sizeLine ∧ DV.nx (ρ1.set i (.own (xs ++ [p])))
    | _ => False) R h fun y H1 F1 p ρ1 s1 R1 rp h1 => ?_
  split at h1
  · rename_i xs hx
    have g := look_get hx (by intro z; cases z)
    obtain ⟨a', vs, e1, o⟩ := R1.own i xs g
    rw [e0] at e1; cases e1
    refine ⟨a, vs, y, rfl, rfl, o.at_, by rw [o.rep.length]; exact h1.1, ?_⟩
    exact k1 _ _ F1 _ s1 (R1.write g e0 o (Reps.append o.rep (.cons rp .nil))) h1.2
  · exact h1.elim
def wInsert (i : Nat) (wi we : WE) : WS := fun D ρ => (∃ xs, look ρ i = .own xs) ∧ wi ρ fun q ρ1 => we ρ1 fun r ρ2 => match q.pv with
  | .int k => match look ρ2 i with
    | .own xs => xs.length < sizeLine ∧ 0 ≤ k ∧ k < 2 ^ 63 ∧ D.nx (ρ2.set i (.own (xs.take k.toNat ++ [r.pv] ++ xs.drop k.toNat)))
    | _ => False
  | _ => False
def rInsert : V → List V → Hp → VK → Prop := fun x vs H Q => ∃ (l : Addr) (xs : List V) (i : Int) (y : V), x = .ref l ∧ vs = [.int i, y] ∧ H l = some (.lst xs) ∧ xs.length < sizeLine ∧ 0 ≤ i ∧ i < 2 ^ 63 ∧
    Q .non (upd H l (.lst (xs.take i.toNat ++ [y] ++ xs.drop i.toNat)))
theorem vs_insert {i : Nat} {x : Str} {e1 e : Expr} {w1 w : WE} {p1 p2 p3 : Pos} (hN : X.N[i]? = some x) (hv : Vis X.env.scope x) 
    (hp : PE X (.Call (.Attribute (.Name x p1) "insert" p2) [e1, e] [] p3) (tBM X.K "list" rInsert (tVar i) (tCons (eE X.K X.mg w1) (tCons (eE X.K X.mg w) tNil)))) (hs : swapsWith (.Call (.Attribute (.Name x p1) "insert" p2) [e1, e] [] p3) none pos.line X.env = pure false := by rfl) :
    VS X (.Expr (.Call (.Attribute (.Name x p1) "insert" p2) [e1, e] [] p3) pos) (wInsert i w1 w) := by
  refine PS.imp (ps_expr hp hs) ?_
  rintro D σ H ⟨hO, Fr, F, ρ, DV, R, ⟨⟨xs0, hx0⟩, h⟩, k1, k2, k3, k4⟩
  obtain ⟨a, vs0, e0, o0⟩ := R.own i xs0 (look_get hx0 (by intro z; cases z))
  refine ⟨.ref a, e0, .inl ⟨rfl, _, .inl (.inl o0.at_)⟩, ?_⟩
  refine eE.pv (Qv := fun q ρ1 => w ρ1 fun r ρ2 => match q with
    | .int k => match look ρ2 i with
      | .own xs => xs.length < sizeLine ∧ 0 ≤ k ∧ k < 2 ^ 63 ∧ DV.nx (ρ2.set i (.own (xs.take k.toNat ++ [r.pv] ++ xs.drop k.toNat)))
      | _ => False
    | _ => False) R h fun y1 H0 F0 q ρ0 s0 R0 rq h0 => ?_
  refine eE.pv (Qv := fun p ρ2 => match (generalizing := false) q with
    | .int k => match look ρ2 i with
      | .own xs => xs.length < sizeLine ∧ 0 ≤ k ∧ k < 2 ^ 63 ∧ DV.nx (ρ2.set i (.own (xs.take k.toNat ++ [p] ++ xs.drop k.toNat)))
      | _ => False
    | _ => False) R0 h0 fun y H1 F1 p ρ1 s1 R1 rp h1 => ?_
  split at h1
  · cases rq
    split at h1
    · rename_i kk xs hx
      have g := look_get hx (by intro z; cases z)
      obtain ⟨a', vs, e1, o⟩ := R1.own i xs g
      rw [e0] at e1; cases e1
      refine ⟨a, vs, _, y, rfl, rfl, o.at_, by rw [o.rep.length]; exact h1.1, h1.2.1, h1.2.2.1, ?_⟩
      exact k1 _ _ F1 _ (s0.trans s1) (R1.write g e0 o (Reps.append (Reps.append (Reps.take _ o.rep) (.cons rp .nil)) (Reps.drop _ o.rep))) h1.2.2.2
    · exact h1.elim
  · exact h1.elim
end
end VE
end
section
set_option Elab.async false
set_option linter.all false
set_option maxRecDepth 100000
namespace VE
open PySem PySem.Spec PyProof.Rows L2

/-! ### what is walked -/
def ItOk (G : Gh) (J : It) (B F : Hp) (ps : List PV) : Prop := ∀ (Fr F' : Hp) (σ : L2.St) (ρ : Rho) (i : Nat) (H' : Hp), Same B Fr → Same F F' → Rr G Fr F' σ H' ρ →
  (ps.length ≤ i → J.stop i H') ∧ ∀ p, ps[i]? = some p → J.go i H' ∧ ∀ x H'', J.yld i H' x H'' → ∃ F'', Same F' F'' ∧ Rr G Fr F'' σ H'' ρ ∧ Rep G F'' x p
abbrev WI := Rho → (List PV → Rho → Prop) → Prop
def eI (K : PySem.W.Frag) (mg : Str → Option Value) (w : WI) : TI := fun σ H Q => ∃ (hO : Option Addr) (Fr F : Hp) (ρ : Rho) (Qv : List PV → Rho → Prop),
  Rr ⟨K, mg, hO⟩ Fr F σ H ρ ∧ w ρ Qv ∧ ∀ J H' F' ps ρ', Same F F' → Rr ⟨K, mg, hO⟩ Fr F' σ H' ρ' → ItOk ⟨K, mg, hO⟩ J Fr F' ps → Qv ps ρ' → Q J H'
abbrev VI (X : Cx) (tg e : Expr) (w : WI) : Prop := PI X tg e (eI X.K X.mg w)
theorem PI.imp {X : Cx} {tg e : Expr} {t t' : TI} (h : PI X tg e t) (k : ∀ σ H Q, t' σ H Q → t σ H Q) : PI X tg e t' := ⟨fun pins s σ H R I q => h.run pins s σ H R I (k _ _ _ q)⟩
section
variable {X : Cx} {pos : Pos} {tg : Expr}
/-- a list, a tuple -/
def wiSeq (w : WE) : WI := fun ρ Q => w ρ fun r ρ1 => match r.pv with
  | .lst xs => Q xs ρ1
  | .tup xs => Q xs ρ1
  | _ => False
theorem itok_list {G : Gh} {B F : Hp} {a : Addr} {vs : List V} {ps : List PV} (e : F a = some (.lst vs)) (r : Reps G F vs ps) : ItOk G (Itl G.K a) B F ps := by
  intro Fr F' σ ρ i H' sB s R
  have q : SqL G.K H' a vs := .inl (.inl (R.sub _ _ (s _ _ e)))
  refine ⟨fun h => ⟨vs, q, by rw [r.length]; exact h⟩, fun p hp => ?_⟩
  obtain ⟨v, e1, rv⟩ := r.get hp
  refine ⟨⟨vs, v, q, e1⟩, fun x H'' y => ?_⟩
  obtain ⟨rfl, y⟩ := y
  have e2 := y vs q
  rw [e1] at e2; cases e2
  exact ⟨F', Same.refl F', R, rv.mono s⟩
theorem itok_tup {G : Gh} {B F : Hp} {a : Addr} {vs : List V} {ps : List PV} (e : SqT G.K F a vs) (r : Reps G F vs ps) : ItOk G (Itt G.K a) B F ps := by
  intro Fr F' σ ρ i H' sB s R
  have q : SqT G.K H' a vs := Same.sqt R.sub (Same.sqt s e)
  refine ⟨fun h => ⟨vs, q, by rw [r.length]; exact h⟩, fun p hp => ?_⟩
  obtain ⟨v, e1, rv⟩ := r.get hp
  refine ⟨⟨vs, v, q, e1⟩, fun x H'' y => ?_⟩
  obtain ⟨rfl, y⟩ := y
  have e2 := y vs q
  rw [e1] at e2; cases e2
  exact ⟨F', Same.refl F', R, rv.mono s⟩
/-- a list or a tuple that is walked: by what it turns out to be -/
theorem pi_or {l : Expr} {t1 t2 : TI} (h1 : PI X tg l t1) (h2 : PI X tg l t2) : PI X tg l (fun σ H R => t1 σ H R ∨ t2 σ H R) := ⟨fun pins s σ H R I h => h.elim (h1.run pins s σ H R I) (h2.run pins s σ H R I)⟩
/-- one reading for both -/
theorem pi_seq {l : Expr} {tl : TE} (hl : PE X l tl) : PI X tg l (fun σ H R => tl σ H fun x H1 => ∃ a, x = .ref a ∧ (((∃ xs, SqL X.K H1 a xs) ∧ R (Itl X.K a) H1) ∨ ((∃ xs, SqT X.K H1 a xs) ∧ R (Itt X.K a) H1))) := by
  refine ⟨fun pins s σ H R I h => ?_⟩
  refine thn (hl.run pins s σ H _ I h) fun v s1 ⟨x, H1, I1, r1, q1⟩ => ?_
  obtain ⟨a, e, q⟩ := q1
  subst e
  cases r1
  rcases q with ⟨⟨xs, hq⟩, q⟩ | ⟨⟨xs, hq⟩, q⟩
  · obtain ⟨its, rv, p, hz⟩ := I1.list hq
    refine wpAny_pyIter_list p.isList ?_
    refine ⟨s1.heap.objs.size, [s1.heap.objs.size], _, _, H1, rfl, I1.kept (t' := s1.toks) fun b o e => Heap.get?_push_of_some _ e, turn_list a _, ⟨_, Heap.get?_push_size _ rfl, rfl, rfl⟩, fun b hb => ?_, q⟩
    have e : b = s1.heap.objs.size := by simpa using hb
    subst e
    exact I1.fpOk (Nat.le_refl _) (I1.hok.fresh (Nat.le_refl _))
  · obtain ⟨its, rv, p, hz⟩ := I1.tuple hq
    refine wpAny_pyIter_tuple (show s1.heap.IsTuple a its.toArray from p) ?_
    refine ⟨s1.heap.objs.size, [s1.heap.objs.size], _, _, H1, rfl, I1.kept (t' := s1.toks) fun b o e => Heap.get?_push_of_some _ e, turn_tuple a _, ⟨_, Heap.get?_push_size _ rfl, rfl, rfl⟩, fun b hb => ?_, q⟩
    have e : b = s1.heap.objs.size := by simpa using hb
    subst e
    exact I1.fpOk (Nat.le_refl _) (I1.hok.fresh (Nat.le_refl _))
theorem vi_seq {l : Expr} {w : WE} (hl : VE X l w) : VI X tg l (wiSeq w) := by
  refine PI.imp (pi_seq hl) ?_
  rintro σ H Q ⟨hO, Fr, F, ρ, Qv, R, h, k⟩
  refine eE.pv (Qv := fun p ρ1 => match p with | .lst xs => Qv xs ρ1 | .tup xs => Qv xs ρ1 | _ => False) R h fun x H1 F1 p ρ1 s1 R1 rp h1 => ?_
  split at h1
  · cases rp with
    | lst e rs => exact ⟨_, rfl, .inl ⟨⟨_, .inl (.inl (R1.sub _ _ e))⟩, k _ H1 F1 _ ρ1 s1 R1 (itok_list e rs) h1⟩⟩
  · cases rp with
    | tup e rs => exact ⟨_, rfl, .inr ⟨⟨_, Same.sqt R1.sub e⟩, k _ H1 F1 _ ρ1 s1 R1 (itok_tup e rs) h1⟩⟩
  · exact h1.elim
/-- a range -/
def rangeP (lo : Int) (n : Nat) : List PV := (List.range n).map fun (i : Nat) => PV.int (lo + (i : Int))
theorem itok_range {G : Gh} {B F : Hp} {lo : Int} {n : Nat} : ItOk G (Itr lo n) B F (rangeP lo n) := by
  intro Fr F' σ ρ i H' sB s R
  refine ⟨fun h => (show n ≤ i by simpa [rangeP] using h), fun p hp => ?_⟩
  have hi : i < n := by
    have := (List.getElem?_eq_some_iff.mp hp).1
    simpa [rangeP] using this
  refine ⟨hi, fun x H'' y => ?_⟩
  obtain ⟨rfl, rfl⟩ := y
  refine ⟨F', Same.refl F', R, ?_⟩
  have e : (rangeP lo n)[i]? = some (.int (lo + (i : Int))) := by simp [rangeP, hi]
  rw [e] at hp; cases hp
  exact Rep.int _
def wiRng1 (w : WA) : WI := fun ρ Q => w ρ fun ps ρ1 => match ps with
  | [.int j] => j < 2 ^ 61 ∧ -(2 ^ 61) < j ∧ Q (rangeP 0 j.toNat) ρ1
  | _ => False
def wiRng2 (w : WA) : WI := fun ρ Q => w ρ fun ps ρ1 => match ps with
  | [.int i, .int j] => (j < 2 ^ 61 ∧ -(2 ^ 61) < j ∧ i < 2 ^ 61 ∧ -(2 ^ 61) < i) ∧ Q (rangeP i (j - i).toNat) ρ1
  | _ => False
theorem vi_rng1 {a : Expr} {w : WA} {p : Pos} (hg : Gl X "range") (hm : X.mg "range" = none) (ha : VA X [a] w) (hs : starEach [a] X.env = [(false, eval a X.env)] := by rfl) : VI X tg (.Call (.Name "range" p) [a] [] pos) (wiRng1 w) := by
  refine PI.imp (pi_range1 hg hm ha hs) ?_
  rintro σ H Q ⟨hO, Fr, F, ρ, Qv, R, h, k⟩
  refine ⟨hO, Fr, F, ρ, _, R, h, fun vs H' F' ps ρ' s R' rs q => ?_⟩
  split at q
  · cases rs with
    | cons r rs =>
      cases rs; cases r
      exact ⟨_, rfl, by omega, by omega, k _ H' F' _ ρ' s R' itok_range q.2.2⟩
  · exact q.elim
theorem vi_rng2 {a b : Expr} {w : WA} {p : Pos} (hg : Gl X "range") (hm : X.mg "range" = none) (ha : VA X [a, b] w) (hs : starEach [a, b] X.env = [(false, eval a X.env), (false, eval b X.env)] := by rfl) (hs2 : starEach [b] X.env = [(false, eval b X.env)] := by rfl) : VI X tg (.Call (.Name "range" p) [a, b] [] pos) (wiRng2 w) := by
  refine PI.imp (pi_range2 hg hm ha hs hs2) ?_
  rintro σ H Q ⟨hO, Fr, F, ρ, Qv, R, h, k⟩
  refine ⟨hO, Fr, F, ρ, _, R, h, fun vs H' F' ps ρ' s R' rs q => ?_⟩
  split at q
  · cases rs with
    | cons r rs =>
      cases rs with
      | cons r' rs =>
        cases rs; cases r; cases r'
        exact ⟨_, _, rfl, by omega, k _ H' F' _ ρ' s R' itok_range q.2⟩
  · exact q.elim
/-- zip of two lists, of two tuples -/
def zipP (xs ys : List PV) : List PV := (xs.zip ys).map fun z => PV.tup [z.1, z.2]
def wiZip (w : WA) : WI := fun ρ Q => w ρ fun ps ρ1 => match ps with
  | [.lst xs, .lst ys] => Q (zipP xs ys) ρ1
  | [.tup xs, .tup ys] => Q (zipP xs ys) ρ1
  | _ => False
theorem zip_step {G : Gh} {Fr F F' H' H'' : Hp} {σ : L2.St} {ρ : Rho} {T : Addr} {x y : V} {xs ys : List PV} {vs us : List V} {i : Nat} {p : PV} (s : Same F F') (R : Rr G Fr F' σ H' ρ) (rx : Reps G F vs xs) (ry : Reps G F us ys) (hp : (zipP xs ys)[i]? = some p)
    (hT : H' T = none) (e : H'' = upd H' T (.tup [x, y])) (h1 : vs[i]? = some x) (h2 : us[i]? = some y) : ∃ F'', Same F' F'' ∧ Rr G Fr F'' σ H'' ρ ∧ Rep G F'' (.ref T) p := by
  subst e
  have hF := R.nF hT
  obtain ⟨px, e1, r1⟩ := rx.getV h1
  obtain ⟨py, e2, r2⟩ := ry.getV h2
  have e3 : (zipP xs ys)[i]? = some (.tup [px, py]) := by
    unfold zipP
    have e4 : (xs.zip ys)[i]? = some (px, py) := List.getElem?_zip_eq_some.mpr ⟨e1, e2⟩
    rw [List.getElem?_map, e4]; rfl
  rw [e3] at hp; cases hp
  exact ⟨_, same_upd hF, R.laid hT, Rep.tup (SqT.of upd_same) (.cons ((r1.mono s).mono (same_upd hF)) (.cons ((r2.mono s).mono (same_upd hF)) .nil))⟩
theorem zip_at {xs ys : List PV} {i : Nat} {p : PV} (hp : (zipP xs ys)[i]? = some p) : ∃ x y, xs[i]? = some x ∧ ys[i]? = some y := by
  unfold zipP at hp
  rw [List.getElem?_map, Option.map_eq_some_iff] at hp
  obtain ⟨⟨x, y⟩, e, _⟩ := hp
  exact ⟨x, y, List.getElem?_zip_eq_some.mp e⟩
theorem zip_len {xs ys : List PV} {i : Nat} (h : (zipP xs ys).length ≤ i) : xs.length ≤ i ∨ ys.length ≤ i := by
  unfold zipP at h
  rw [List.length_map, List.length_zip] at h
  omega
theorem itok_zipL {G : Gh} {B F : Hp} {a b : Addr} {vs us : List V} {xs ys : List PV} (e1 : F a = some (.lst vs)) (r1 : Reps G F vs xs) (e2 : F b = some (.lst us)) (r2 : Reps G F us ys) : ItOk G (Itz G.K a b) B F (zipP xs ys) := by
  intro Fr F' σ ρ i H' sB s R
  have q1 : SqL G.K H' a vs := .inl (.inl (R.sub _ _ (s _ _ e1)))
  have q2 : SqL G.K H' b us := .inl (.inl (R.sub _ _ (s _ _ e2)))
  refine ⟨fun h => ⟨vs, us, q1, q2, ?_⟩, fun p hp => ?_⟩
  · rw [r1.length, r2.length]; exact zip_len h
  · obtain ⟨x, y, g1, g2⟩ := zip_at hp
    obtain ⟨v, g3, _⟩ := r1.get g1
    obtain ⟨u, g4, _⟩ := r2.get g2
    refine ⟨⟨vs, us, v, u, q1, q2, g3, g4⟩, fun z H'' yl => ?_⟩
    obtain ⟨T, x', y', rfl, hT, e, f1, f2⟩ := yl
    exact zip_step s R r1 r2 hp hT e (f1 vs q1) (f2 us q2)
theorem itok_zipT {G : Gh} {B F : Hp} {a b : Addr} {vs us : List V} {xs ys : List PV} (e1 : SqT G.K F a vs) (r1 : Reps G F vs xs) (e2 : SqT G.K F b us) (r2 : Reps G F us ys) : ItOk G (RZ.ItzT G.K a b) B F (zipP xs ys) := by
  intro Fr F' σ ρ i H' sB s R
  have q1 : SqT G.K H' a vs := Same.sqt R.sub (Same.sqt s e1)
  have q2 : SqT G.K H' b us := Same.sqt R.sub (Same.sqt s e2)
  refine ⟨fun h => ⟨vs, us, q1, q2, ?_⟩, fun p hp => ?_⟩
  · rw [r1.length, r2.length]; exact zip_len h
  · obtain ⟨x, y, g1, g2⟩ := zip_at hp
    obtain ⟨v, g3, _⟩ := r1.get g1
    obtain ⟨u, g4, _⟩ := r2.get g2
    refine ⟨⟨vs, us, v, u, q1, q2, g3, g4⟩, fun z H'' yl => ?_⟩
    obtain ⟨T, x', y', rfl, hT, e, f1, f2⟩ := yl
    exact zip_step s R r1 r2 hp hT e (f1 vs q1) (f2 us q2)
theorem vi_zip {e e2 : Expr} {w : WA} {p tpos : Pos} {elts : List Expr} {kk : Nat} (hg : Gl X "zip") (hm : X.mg "zip" = none) (ha : VA X [e, e2] w)
    (hp : PI X (.Tuple elts kk tpos) (.Call (.Name "zip" p) [e, e2] [] pos) (RZ.iZipA X.K (eA X.K X.mg w))) : VI X (.Tuple elts kk tpos) (.Call (.Name "zip" p) [e, e2] [] pos) (wiZip w) := by
  refine PI.imp hp ?_
  rintro σ H Q ⟨hO, Fr, F, ρ, Qv, R, h, k⟩
  refine ⟨hO, Fr, F, ρ, _, R, h, fun vs H' F' ps ρ' s R' rs q => ?_⟩
  split at q
  · cases rs with
    | cons r rs =>
      cases rs with
      | cons r' rs =>
        cases rs
        cases r with
        | lst e1 r1 =>
          cases r' with
          | lst e2 r2 => exact ⟨_, _, _, _, rfl, .inl ⟨.inl (.inl (R'.sub _ _ e1)), .inl (.inl (R'.sub _ _ e2)), k _ H' F' _ ρ' s R' (itok_zipL e1 r1 e2 r2) q⟩⟩
  · cases rs with
    | cons r rs =>
      cases rs with
      | cons r' rs =>
        cases rs
        cases r with
        | tup e1 r1 =>
          cases r' with
          | tup e2 r2 => exact ⟨_, _, _, _, rfl, .inr ⟨Same.sqt R'.sub e1, Same.sqt R'.sub e2, k _ H' F' _ ρ' s R' (itok_zipT e1 r1 e2 r2) q⟩⟩
  · exact q.elim
/-- enumerate of a list -/
def enumP (n : Nat) : List PV → List PV
  | [] => []
  | x :: xs => PV.tup [.int n, x] :: enumP (n + 1) xs
theorem enumP_len : ∀ (n : Nat) (xs : List PV), (enumP n xs).length = xs.length
  | _, [] => rfl
  | n, x :: xs => by simp [enumP, enumP_len (n + 1) xs]
theorem enumP_get : ∀ (n : Nat) (xs : List PV) (i : Nat), (enumP n xs)[i]? = xs[i]?.map fun x => PV.tup [.int ((n + i : Nat) : Int), x]
  | _, [], _ => rfl
  | n, x :: xs, 0 => by simp [enumP]
  | n, x :: xs, i + 1 => by
    rw [enumP, List.getElem?_cons_succ, List.getElem?_cons_succ, enumP_get (n + 1) xs i]
    rw [show n + 1 + i = n + (i + 1) by omega]
def wiEnum (w : WA) : WI := fun ρ Q => w ρ fun ps ρ1 => match ps with
  | [.lst xs] => Q (enumP 0 xs) ρ1
  | _ => False
theorem itok_enum {G : Gh} {B F : Hp} {a : Addr} {vs : List V} {xs : List PV} (e1 : F a = some (.lst vs)) (r1 : Reps G F vs xs) : ItOk G (Ite G.K a) B F (enumP 0 xs) := by
  intro Fr F' σ ρ i H' sB s R
  have q1 : SqL G.K H' a vs := .inl (.inl (R.sub _ _ (s _ _ e1)))
  refine ⟨fun h => ⟨vs, q1, by rw [enumP_len] at h; rw [r1.length]; exact h⟩, fun p hp => ?_⟩
  rw [enumP_get, Option.map_eq_some_iff] at hp
  obtain ⟨x, g1, rfl⟩ := hp
  obtain ⟨v, g3, rv⟩ := r1.get g1
  refine ⟨⟨vs, v, q1, g3⟩, fun z H'' yl => ?_⟩
  obtain ⟨T, x', rfl, hT, e, f1⟩ := yl
  subst e
  have hF := R.nF hT
  have f2 := f1 vs q1
  rw [g3] at f2; cases f2
  rw [Nat.zero_add]
  exact ⟨_, same_upd hF, R.laid hT, Rep.tup (SqT.of upd_same) (.cons (Rep.int _) (.cons ((rv.mono s).mono (same_upd hF)) .nil))⟩
theorem vi_enum {e : Expr} {w : WA} {p tpos : Pos} {elts : List Expr} {kk : Nat} (ha : VA X [e] w)
    (hp : PI X (.Tuple elts kk tpos) (.Call (.Name "enumerate" p) [e] [] pos) (iEnum X.K (eA X.K X.mg w))) : VI X (.Tuple elts kk tpos) (.Call (.Name "enumerate" p) [e] [] pos) (wiEnum w) := by
  refine PI.imp hp ?_
  rintro σ H Q ⟨hO, Fr, F, ρ, Qv, R, h, k⟩
  refine ⟨hO, Fr, F, ρ, _, R, h, fun vs H' F' ps ρ' s R' rs q => ?_⟩
  split at q
  · cases rs with
    | cons r rs =>
      cases rs
      cases r with
      | lst e1 r1 => exact ⟨_, _, rfl, .inl (.inl (R'.sub _ _ e1)), k _ H' F' _ ρ' s R' (itok_enum e1 r1) q⟩
  · exact q.elim

/-! ### for -/
def forL (g : WG) (wb : WS) : List PV → EndsV → Rho → Prop
  | [], D, ρ => D.nx ρ
  | p :: ps, D, ρ => g p ρ fun ρ1 => wb { D with nx := fun ρ2 => forL g wb ps D ρ2, ct := fun ρ2 => forL g wb ps D ρ2, bk := D.nx } ρ1
def wFor (wi : WI) (g : WG) (wb : WS) : WS := fun D ρ => wi ρ fun ps ρ1 => forL g wb ps D ρ1
theorem vs_for {iter : Expr} {body : List Stmt} {wi : WI} {g : WG} {wb : WS} {gvs : List Nat} (hp : PassesOwn (model X.prog X.w) X.A X.env X.xe) (hc : X.calm = true) (hi : VI X tg iter wi) (hg : VG X tg gvs g) (hb : VSs X body wb)
    (hs : ∀ x, foldedSetIterable iter X.env x = pure x := by intro _; rfl) : VS X (.For tg iter body [] pos) (wFor wi g wb) := by
  refine PS.imp (ps_for hp hc hi hg hb hs) ?_
  rintro D σ H ⟨hO, Fr, F, ρ, DV, R, h, k1, k2, k3, k4⟩
  refine ⟨hO, Fr, F, ρ, _, R, h, fun J H1 F1 ps ρ1 s1 R1 ok q => ?_⟩
  refine ⟨fun i m σ2 H2 => ∃ F2 ρ2, Same F1 F2 ∧ Rr ⟨X.K, X.mg, hO⟩ Fr F2 σ2 H2 ρ2 ∧ m = ps.length - i ∧ i ≤ ps.length ∧ forL g wb (ps.drop i) DV ρ2, ⟨ps.length, F1, ρ1, Same.refl F1, R1, by simp, Nat.zero_le _, by simpa using q⟩, ?_⟩
  rintro i m σ2 H2 ⟨F2, ρ2, s2, R2, rfl, hi, q2⟩
  obtain ⟨st, go⟩ := ok Fr F2 σ2 ρ2 i H2 (Same.refl Fr) s2 R2
  by_cases hlt : i < ps.length
  · have e : ps[i]? = some ps[i] := List.getElem?_eq_getElem hlt
    have ed : ps.drop i = ps[i] :: ps.drop (i + 1) := List.drop_eq_getElem_cons hlt
    rw [ed] at q2
    obtain ⟨g1, g2⟩ := go _ e
    refine .inr ⟨g1, fun σ3 H3 => ∃ F3 ρ3, Same F1 F3 ∧ Rr ⟨X.K, X.mg, hO⟩ Fr F3 σ3 H3 ρ3 ∧ forL g wb (ps.drop (i + 1)) DV ρ3, fun σ' H' ⟨F3, ρ3, s3, R3, q3⟩ => ⟨ps.length - (i + 1), by omega, F3, ρ3, s3, R3, rfl, hlt, q3⟩, fun x H' y => ?_⟩
    obtain ⟨F3, s3, R3, rx⟩ := g2 x H' y
    refine ⟨hO, Fr, F3, ρ2, _, _, R3, rx, q2, fun σ4 H4 F4 ρ4 s4 R4 _ q4 => ?_⟩
    have s24 := (s2.trans s3).trans s4
    have s04 := s1.trans s24
    refine ⟨hO, Fr, F4, ρ4, _, R4, q4, fun σ5 H5 F5 ρ5 s5 R5 q5 => ⟨F5, ρ5, s24.trans s5, R5, q5⟩, fun v H5 F5 r s5 B o q5 => k2 v H5 F5 r (s04.trans s5) B o q5,
      fun σ5 H5 F5 ρ5 s5 R5 q5 => k1 σ5 H5 F5 ρ5 (s04.trans s5) R5 q5, fun σ5 H5 F5 ρ5 s5 R5 q5 => ⟨F5, ρ5, s24.trans s5, R5, q5⟩⟩
  · have e : i = ps.length := by omega
    subst e
    rw [List.drop_length] at q2
    exact .inl ⟨st (Nat.le_refl _), k1 σ2 H2 F2 ρ2 (s1.trans s2) R2 q2⟩
/-! ### while -/
def whileN (t : WT) (wb : WS) : Nat → EndsV → Rho → Prop
  | 0, _, _ => False
  | n + 1, D, ρ => t ρ fun k ρ1 => if k = true then wb { D with nx := fun ρ2 => whileN t wb n D ρ2, ct := fun ρ2 => whileN t wb n D ρ2, bk := D.nx } ρ1 else D.nx ρ1
def wWhile (t : WT) (wb : WS) : WS := fun D ρ => ∃ n, whileN t wb n D ρ
theorem vs_while {c : Expr} {body : List Stmt} {t : WT} {wb : WS} (hp : PassesOwn (model X.prog X.w) X.A X.env X.xe) (hc : VT X c t) (hb : VSs X body wb) : VS X (.While c body [] pos) (wWhile t wb) := by
  refine PS.imp (ps_while hp hc hb) ?_
  rintro D σ H ⟨hO, Fr, F, ρ, DV, R, ⟨n, h⟩, k1, k2, k3, k4⟩
  refine ⟨fun m σ1 H1 => ∃ F1 ρ1, Same F F1 ∧ Rr ⟨X.K, X.mg, hO⟩ Fr F1 σ1 H1 ρ1 ∧ whileN t wb m DV ρ1, ⟨n, F, ρ, Same.refl F, R, h⟩, ?_⟩
  rintro m σ1 H1 ⟨F1, ρ1, s1, R1, q1⟩
  cases m with
  | zero => exact q1.elim
  | succ m =>
    refine eT.mk R1 q1 fun b H2 F2 ρ2 s2 R2 q2 => ?_
    have s02 := s1.trans s2
    cases b with
    | true =>
      rw [if_pos rfl] at q2 ⊢
      refine ⟨fun σ3 H3 => ∃ F3 ρ3, Same F F3 ∧ Rr ⟨X.K, X.mg, hO⟩ Fr F3 σ3 H3 ρ3 ∧ whileN t wb m DV ρ3, fun σ' H' q => ⟨m, Nat.lt_succ_self _, q⟩, ?_⟩
      exact ⟨hO, Fr, F2, ρ2, _, R2, q2, fun σ5 H5 F5 ρ5 s5 R5 q5 => ⟨F5, ρ5, s02.trans s5, R5, q5⟩, fun v H5 F5 r s5 B o q5 => k2 v H5 F5 r (s02.trans s5) B o q5,
        fun σ5 H5 F5 ρ5 s5 R5 q5 => k1 σ5 H5 F5 ρ5 (s02.trans s5) R5 q5, fun σ5 H5 F5 ρ5 s5 R5 q5 => ⟨F5, ρ5, s02.trans s5, R5, q5⟩⟩
    | false =>
      rw [if_neg Bool.false_ne_true] at q2 ⊢
      exact k1 σ1 H2 F2 ρ2 s02 R2 q2
end
end VE
end
section
set_option Elab.async false
set_option linter.all false
set_option maxRecDepth 100000
namespace VE
open PySem PySem.Spec PyProof.Rows L2
/-! ### list comprehensions -/
def wipeR (ρ : Rho) : List Nat → Rho
  | [] => ρ
  | v :: vs => (wipeR ρ vs).set v .no
/-- behind a block: the block's own names as they stood ahead of it -/
def backR (ρ0 ρ : Rho) : List Nat → Rho
  | [] => ρ
  | v :: vs => (backR ρ0 ρ vs).set v (look ρ0 v)
def NoOwn (ρ : Rho) (vs : List Nat) : Prop := ∀ i ∈ vs, ∀ xs, ρ[i]? ≠ some (Sl.own xs)
section
variable {G : Gh} {Fr F F' H H' : Hp} {σ : L2.St} {ρ ρ0 : Rho}
theorem wipeR_get : ∀ {vs : List Nat} {i : Nat} {r : Sl}, (wipeR ρ vs)[i]? = some r → r ≠ .no → ρ[i]? = some r ∧ i ∉ vs
  | [], _, _, h, _ => ⟨h, by simp⟩
  | v :: vs, i, r, h, n => by
    unfold wipeR at h
    by_cases hi : v = i
    · subst hi
      by_cases hl : v < (wipeR ρ vs).length
      · rw [List.getElem?_set_self hl] at h; cases h; exact absurd rfl n
      · rw [List.getElem?_eq_none (by rw [List.length_set]; omega)] at h; cases h
    · rw [List.getElem?_set_ne hi] at h
      obtain ⟨h1, h2⟩ := wipeR_get h n
      exact ⟨h1, by simp only [List.mem_cons, not_or]; exact ⟨fun e => hi e.symm, h2⟩⟩
theorem wipeR_len : ∀ (vs : List Nat), (wipeR ρ vs).length = ρ.length
  | [] => rfl
  | v :: vs => by unfold wipeR; rw [List.length_set, wipeR_len vs]
theorem wipe_get : ∀ {vs : List Nat} {i : Nat}, i ∉ vs → (wipe σ vs)[i]? = σ[i]?
  | [], _, _ => rfl
  | v :: vs, i, h => by
    simp only [List.mem_cons, not_or] at h
    unfold wipe
    rw [List.getElem?_set_ne (fun e => h.1 e.symm)]
    exact wipe_get h.2
/-- into the block -/
theorem Rr.wipe (R : Rr G Fr F σ H ρ) (vs : List Nat) : Rr G Fr F (wipe σ vs) H (wipeR ρ vs) where
  toRB := R.toRB
  len := by rw [wipeR_len, wipe_length]; exact R.len
  val := fun i p e => by
    obtain ⟨e1, n⟩ := wipeR_get e (by intro z; cases z)
    rw [wipe_get n]; exact R.val i p e1
  own := fun i p e => by
    obtain ⟨e1, n⟩ := wipeR_get e (by intro z; cases z)
    rw [wipe_get n]; exact R.own i p e1
  sep := fun i j xs ys a e1 e2 h1 h2 => by
    obtain ⟨e1, n1⟩ := wipeR_get e1 (by intro z; cases z)
    obtain ⟨e2, n2⟩ := wipeR_get e2 (by intro z; cases z)
    rw [wipe_get n1] at h1
    rw [wipe_get n2] at h2
    exact R.sep i j xs ys a e1 e2 h1 h2
theorem backR_len : ∀ (vs : List Nat), (backR ρ0 ρ vs).length = ρ.length
  | [] => rfl
  | v :: vs => by unfold backR; rw [List.length_set, backR_len vs]
theorem backR_in : ∀ {vs : List Nat} {i : Nat} {r : Sl}, i ∈ vs → (backR ρ0 ρ vs)[i]? = some r → r = look ρ0 i
  | [], _, _, h, _ => by simp at h
  | v :: vs, i, r, h, e => by
    unfold backR at e
    by_cases hi : v = i
    · subst hi
      have hl := (List.getElem?_eq_some_iff.mp e).1
      rw [List.getElem?_set_self (by simpa using hl)] at e
      cases e; rfl
    · rw [List.getElem?_set_ne hi] at e
      rcases List.mem_cons.mp h with z | z
      · exact absurd z.symm hi
      · exact backR_in z e
theorem backR_out : ∀ {vs : List Nat} {i : Nat}, i ∉ vs → (backR ρ0 ρ vs)[i]? = ρ[i]?
  | [], _, _ => rfl
  | v :: vs, i, h => by
    simp only [List.mem_cons, not_or] at h
    unfold backR
    rw [List.getElem?_set_ne (fun e => h.1 e.symm)]
    exact backR_out h.2
/-- out of it: what the block's own names hid comes back -/
theorem Rr.back {vs : List Nat} (R0 : Rr G Fr F σ H ρ0) (s : Same F F') (no : NoOwn ρ0 vs) (R : Rr G Fr F' (L2.wipe σ vs) H' ρ) : Rr G Fr F' σ H' (backR ρ0 ρ vs) where
  toRB := R.toRB
  len := by rw [backR_len, R.len, wipe_length]
  val := fun i p e => by
    by_cases hi : i ∈ vs
    · have q := look_get (backR_in hi e).symm (by intro z; cases z)
      obtain ⟨v, h1, h2⟩ := R0.val i p q
      exact ⟨v, h1, h2.mono s⟩
    · rw [backR_out hi] at e
      obtain ⟨v, h1, h2⟩ := R.val i p e
      exact ⟨v, (wipe_some h1).1, h2⟩
  own := fun i p e => by
    by_cases hi : i ∈ vs
    · exact absurd (look_get (backR_in hi e).symm (by intro z; cases z)) (no i hi p)
    · rw [backR_out hi] at e
      obtain ⟨a, us, h1, h2⟩ := R.own i p e
      exact ⟨a, us, (wipe_some h1).1, h2⟩
  sep := fun i j xs ys a e1 e2 h1 h2 => by
    have out : ∀ {i : Nat} {xs : List PV}, (backR ρ0 ρ vs)[i]? = some (Sl.own xs) → i ∉ vs ∧ ρ[i]? = some (Sl.own xs) := fun {i xs} e => by
      by_cases hi : i ∈ vs
      · exact absurd (look_get (backR_in hi e).symm (by intro z; cases z)) (no i hi xs)
      · rw [backR_out hi] at e; exact ⟨hi, e⟩
    obtain ⟨n1, g1⟩ := out e1
    obtain ⟨n2, g2⟩ := out e2
    exact R.sep i j xs ys a g1 g2 (by rw [wipe_get n1]; exact h1) (by rw [wipe_get n2]; exact h2)
theorem Own.write {a p : Addr} {vs us ws : List V} {xs ys : List PV} (o : Own G Fr F H a vs xs) (op : Own G Fr F H p us ys) (h : a ≠ p) : Own G Fr F (upd H p (.lst ws)) a vs xs :=
  ⟨by rw [upd_ne h]; exact o.at_, o.rep, o.nF, o.nh, o.nFr⟩
/-- a list that no slot holds is written -/
theorem Rr.writeFree {p : Addr} {us ws : List V} {ys : List PV} (R : Rr G Fr F σ H ρ) (o : Own G Fr F H p us ys) (ap : Apart σ ρ p) : Rr G Fr F σ (upd H p (.lst ws)) ρ where
  toRB := R.toRB.write o
  len := R.len
  val := R.val
  own := fun i xs e => by
    obtain ⟨a, vs, h1, h2⟩ := R.own i xs e
    exact ⟨a, vs, h1, h2.write o fun z => ap i xs e (by rw [h1, z])⟩
  sep := R.sep
end

/-- the list being made: acc so far -/
structure Mk (G : Gh) (Fr F H : Hp) (σ : L2.St) (ρ : Rho) (D : Addr) (acc : List PV) : Prop where
  ex : ∃ vs, Own G Fr F H D vs acc ∧ Apart σ ρ D

def compL (g : WG) (wt : WT) (we : WE) (vs : List Nat) : List PV → List PV → Rho → (List PV → Rho → Prop) → Prop
  | [], acc, ρ, Q => Q acc ρ
  | p :: ps, acc, ρ, Q => g p ρ fun ρ1 => wt ρ1 fun b ρ2 =>
      if b = true then we ρ2 fun r ρ3 => acc.length < sizeLine ∧ compL g wt we vs ps (acc ++ [r.pv]) (wipeR ρ3 vs) Q else compL g wt we vs ps acc (wipeR ρ2 vs) Q
def wComp (wi : WI) (g : WG) (wt : WT) (we : WE) (vs : List Nat) : WE := fun ρ Q => wi ρ fun ps ρ1 => NoOwn ρ1 vs ∧ compL g wt we vs ps [] (wipeR ρ1 vs) fun acc ρ2 => Q (.own acc) (backR ρ1 ρ2 vs)
abbrev VTs (X : Cx) (es : List Expr) (w : WT) : Prop := PTs X es (eT X.K X.mg w)
def wYes : WT := fun ρ Q => Q true ρ
theorem vts_nil {X : Cx} : VTs X [] wYes := ⟨fun pins s σ H Q I ⟨hO, Fr, F, ρ, Qv, R, h, k⟩ => pts_nil.run pins s σ H Q I (k true H F ρ (Same.refl F) R h)⟩
theorem vts_one {X : Cx} {c : Expr} {t : WT} (h : VT X c t) : VTs X [c] t := pts_one h

theorem wipe_chg {vs us : List Nat} {σ σ2 : L2.St} (c : Chg us σ σ2) (h : ∀ j ∈ us, j ∈ vs) : wipe σ2 vs = wipe σ vs := by
  have inn : ∀ (vs : List Nat) (σ : L2.St) (i : Nat), i ∈ vs → i < σ.length → (wipe σ vs)[i]? = some none := by
    intro vs
    induction vs with
    | nil => intro σ i h; simp at h
    | cons v vs ih =>
      intro σ i h hl
      unfold wipe
      by_cases hi : v = i
      · subst hi; rw [List.getElem?_set_self (by rw [wipe_length]; exact hl)]
      · rw [List.getElem?_set_ne hi]
        rcases List.mem_cons.mp h with z | z
        · exact absurd z.symm hi
        · exact ih σ i z hl
  apply List.ext_getElem?
  intro i
  by_cases hi : i ∈ vs
  · by_cases hl : i < σ.length
    · rw [inn vs σ2 i hi (by rw [c.1]; exact hl), inn vs σ i hi hl]
    · rw [List.getElem?_eq_none (by rw [wipe_length, c.1]; omega), List.getElem?_eq_none (by rw [wipe_length]; omega)]
  · rw [wipe_get hi, wipe_get hi]
    exact c.2 i fun z => hi (h i z)
section
variable {X : Cx} {pos : Pos}
theorem comp_core {K : PySem.W.Frag} {mg : Str → Option Value} {hO : Option Addr} {Fr F1 H1 : Hp} {σ : L2.St} {ρ1 : Rho} {ps : List PV} {J : It} {Qv : Sl → Rho → Prop} {Q : VK} {g : WG} {wt : WT} {we : WE} {vs us : List Nat} (hu : ∀ j ∈ us, j ∈ vs)
    (R1 : Rr ⟨K, mg, hO⟩ Fr F1 σ H1 ρ1) (ok : ItOk ⟨K, mg, hO⟩ J Fr F1 ps) (no : NoOwn ρ1 vs) (q : compL g wt we vs ps [] (wipeR ρ1 vs) fun acc ρ2 => Qv (.own acc) (backR ρ1 ρ2 vs))
    (k : ∀ v H' F' r ρ', Same F1 F' → Rr ⟨K, mg, hO⟩ Fr F' σ H' ρ' → RO ⟨K, mg, hO⟩ Fr F' σ H' ρ' v r → Qv r ρ' → Q v H') :
    ∀ D, H1 D = none → ∃ W : Nat → Nat → Hp → Prop, (∃ m, W 0 m (upd H1 D (.lst []))) ∧ ∀ i m H, W i m H →
      (J.stop i H ∧ Q (.ref D) H) ∨ (J.go i H ∧ ∃ Nx : Hp → Prop, (∀ H', Nx H' → ∃ m', m' < m ∧ W (i + 1) m' H') ∧ ∀ x H', J.yld i H x H' → (eG K mg us g) x (wipe σ vs) H' fun σ2 H2 => wipe σ2 vs = wipe σ vs ∧ (eT K mg wt) σ2 H2 fun b H3 =>
        if b = true then (eE K mg we) σ2 H3 fun y H4 => ∃ acc, H4 D = some (.lst acc) ∧ acc.length < sizeLine ∧ Nx (upd H4 D (.lst (acc ++ [y]))) else Nx H3) := by
  intro D hD
  have o0 := (R1.freshOwn (vs := []) (xs := []) hD .nil)
  obtain ⟨D', _, eD, ow0, ap0⟩ := o0
  cases eD
  -- the invariant
  refine ⟨fun i m H2 => ∃ F2 ρ2 acc, Same F1 F2 ∧ Rr ⟨K, mg, hO⟩ Fr F2 (wipe σ vs) H2 ρ2 ∧ Mk ⟨K, mg, hO⟩ Fr F2 H2 (wipe σ vs) ρ2 D acc ∧ m = ps.length - i ∧ i ≤ ps.length ∧
      compL g wt we vs (ps.drop i) acc ρ2 (fun acc ρ2 => Qv (.own acc) (backR ρ1 ρ2 vs)), ⟨ps.length, F1, wipeR ρ1 vs, [], Same.refl F1, (R1.wipe vs).fresh hD, ⟨⟨_, ow0, fun i ys e1 e2 => ?_⟩⟩, by simp, Nat.zero_le _, by simpa using q⟩, ?_⟩
  · obtain ⟨e3, n⟩ := wipeR_get e1 (by intro z; cases z)
    rw [wipe_get n] at e2
    exact ap0 i ys e3 e2
  rintro i m H2 ⟨F2, ρ2, acc, s2, R2, mk, rfl, hi, q2⟩
  obtain ⟨st, go⟩ := ok Fr F2 (wipe σ vs) ρ2 i H2 (Same.refl Fr) s2 R2
  by_cases hlt : i < ps.length
  · have e : ps[i]? = some ps[i] := List.getElem?_eq_getElem hlt
    have ed : ps.drop i = ps[i] :: ps.drop (i + 1) := List.drop_eq_getElem_cons hlt
    rw [ed] at q2
    -- D is put aside while the turn runs
    obtain ⟨vsD, owD, apD⟩ := mk.ex
    have RD : Rr ⟨K, mg, hO⟩ (frm Fr H2 (wipe σ vs) ρ2) F2 (wipe σ vs) H2 ρ2 → True := fun _ => trivial
    have addF : ∀ {H' F' : Hp} {σ' : L2.St} {ρ' : Rho} {us : List V} {xs : List PV}, Rr ⟨K, mg, hO⟩ Fr F' σ' H' ρ' → Own ⟨K, mg, hO⟩ Fr F' H' D us xs → Apart σ' ρ' D → Rr ⟨K, mg, hO⟩ (upd Fr D (.lst us)) F' σ' H' ρ' := by
      intro H' F' σ' ρ' us xs R' o ap
      refine ⟨⟨R'.sub, fun b x e => ?_, R'.hand⟩, R'.len, R'.val, fun j ys e => ?_, R'.sep⟩
      · by_cases hb : b = D
        · subst hb; rw [upd_same] at e; cases e; exact ⟨o.at_, o.nF, o.nh⟩
        · rw [upd_ne hb] at e; exact R'.fr b x e
      · obtain ⟨a, ws, h1, h2⟩ := R'.own j ys e
        refine ⟨a, ws, h1, h2.at_, h2.rep, h2.nF, h2.nh, ?_⟩
        rw [upd_ne (fun z => ap j ys e (by rw [h1, z]))]
        exact h2.nFr
    have delF : ∀ {H' F' : Hp} {σ' : L2.St} {ρ' : Rho} {us : List V} {xs : List PV}, Rr ⟨K, mg, hO⟩ (upd Fr D (.lst us)) F' σ' H' ρ' → Reps ⟨K, mg, hO⟩ F' us xs → Fr D = none → Rr ⟨K, mg, hO⟩ Fr F' σ' H' ρ' ∧ Own ⟨K, mg, hO⟩ Fr F' H' D us xs ∧ Apart σ' ρ' D := by
      intro H' F' σ' ρ' us xs R' rs nFr
      obtain ⟨g1, g2, g3⟩ := R'.fr D (.lst us) upd_same
      refine ⟨⟨⟨R'.sub, fun b x e => R'.fr b x ?_, R'.hand⟩, R'.len, R'.val, fun j ys e => ?_, R'.sep⟩, ⟨g1, rs, g2, g3, nFr⟩, fun j ys e1 e2 => ?_⟩
      · rw [upd_ne (ne_of_none e nFr)]; exact e
      · obtain ⟨a, ws, h1, h2⟩ := R'.own j ys e
        refine ⟨a, ws, h1, h2.at_, h2.rep, h2.nF, h2.nh, ?_⟩
        have := h2.nFr
        by_cases ha : a = D
        · subst ha; exact nFr
        · rw [upd_ne ha] at this; exact this
      · obtain ⟨a, ws, h1, h2⟩ := R'.own j ys e1
        rw [e2] at h1; cases h1
        have := h2.nFr
        rw [upd_same] at this; cases this
    have R2' := addF R2 owD apD
    obtain ⟨_, go'⟩ := ok _ F2 (wipe σ vs) ρ2 i H2 (same_upd owD.nFr) s2 R2'
    obtain ⟨g1, g2⟩ := go' _ e
    refine .inr ⟨g1, fun H3 => ∃ F3 ρ3 acc, Same F1 F3 ∧ Rr ⟨K, mg, hO⟩ Fr F3 (wipe σ vs) H3 ρ3 ∧ Mk ⟨K, mg, hO⟩ Fr F3 H3 (wipe σ vs) ρ3 D acc ∧ compL g wt we vs (ps.drop (i + 1)) acc ρ3 (fun acc ρ2 => Qv (.own acc) (backR ρ1 ρ2 vs)),
      fun H' ⟨F3, ρ3, acc, s3, R3, mk3, q3⟩ => ⟨ps.length - (i + 1), by omega, F3, ρ3, acc, s3, R3, mk3, rfl, hlt, q3⟩, fun x H' y => ?_⟩
    obtain ⟨F3, s3, R3, rx⟩ := g2 x H' y
    refine ⟨hO, _, F3, ρ2, _, _, R3, rx, q2, fun σ4 H4 F4 ρ4 s4 R4 c4 q4 => ⟨?_, ?_⟩⟩
    · rw [wipe_chg c4 hu]
      apply List.ext_getElem?
      intro j
      by_cases hj : j ∈ vs
      · have : ∀ (vs : List Nat) (σ : L2.St), wipe (wipe σ vs) vs = wipe σ vs := by
          intro vs σ
          apply wipe_chg (us := vs) _ fun _ z => z
          exact ⟨wipe_length σ vs, fun j hj => wipe_get hj⟩
        rw [this]
      · rw [wipe_get hj]
    · refine eT.mk R4 q4 fun b H5 F5 ρ5 s5 R5 q5 => ?_
      have s25 := (s3.trans s4).trans s5
      have hc : Chg vs (wipe σ vs) σ4 := ⟨c4.1, fun j hj => c4.2 j fun z => hj (hu j z)⟩
      have hw : wipe σ4 vs = wipe σ vs := by
        rw [wipe_chg hc fun _ z => z]
        exact wipe_chg (us := vs) ⟨wipe_length σ vs, fun j hj => wipe_get hj⟩ fun _ z => z
      cases b with
      | false =>
        rw [if_neg Bool.false_ne_true] at q5 ⊢
        obtain ⟨Ra, oa, aa⟩ := delF R5 (owD.rep.mono s25) owD.nFr
        have Rw := Ra.wipe vs
        rw [hw] at Rw
        refine ⟨F5, wipeR ρ5 vs, acc, s2.trans s25, Rw, ⟨⟨_, oa, fun j ys e1 e2 => ?_⟩⟩, q5⟩
        obtain ⟨e3, n⟩ := wipeR_get e1 (by intro z; cases z)
        rw [← hw, wipe_get n] at e2
        exact aa j ys e3 e2
      | true =>
        rw [if_pos rfl] at q5 ⊢
        refine eE.pv (Qv := fun r ρ3 => acc.length < sizeLine ∧ compL g wt we vs (ps.drop (i + 1)) (acc ++ [r]) (wipeR ρ3 vs) (fun acc ρ2 => Qv (.own acc) (backR ρ1 ρ2 vs))) R5 q5 fun v H6 F6 p ρ6 s6 R6 rp q6 => ?_
        have s26 := s25.trans s6
        obtain ⟨Ra, oa, aa⟩ := delF R6 (owD.rep.mono s26) owD.nFr
        refine ⟨vsD, oa.at_, by rw [oa.rep.length]; exact q6.1, ?_⟩
        have rs := Reps.append oa.rep (.cons rp .nil)
        have Rw := (Ra.writeFree oa aa (ws := vsD ++ [v])).wipe vs
        rw [hw] at Rw
        refine ⟨F6, wipeR ρ6 vs, acc ++ [p], s2.trans s26, Rw, ⟨⟨vsD ++ [v], ⟨upd_same, rs, oa.nF, oa.nh, oa.nFr⟩, fun j ys e1 e2 => ?_⟩⟩, q6.2⟩
        obtain ⟨e3, n⟩ := wipeR_get e1 (by intro z; cases z)
        rw [← hw, wipe_get n] at e2
        exact aa j ys e3 e2
  · have e : i = ps.length := by omega
    subst e
    rw [List.drop_length] at q2
    obtain ⟨vsD, owD, apD⟩ := mk.ex
    refine .inl ⟨st (Nat.le_refl _), ?_⟩
    have Rb := R1.back s2 no R2
    refine k _ H2 F2 (.own acc) _ s2 Rb ⟨D, vsD, rfl, owD, fun j ys e1 e2 => ?_⟩ q2
    by_cases hj : j ∈ vs
    · exact absurd (look_get (backR_in hj e1).symm (by intro z; cases z)) (no j hj ys)
    · rw [backR_out hj] at e1
      refine apD j ys e1 ?_
      rw [wipe_get hj]; exact e2
theorem comp_run {K : PySem.W.Frag} {mg : Str → Option Value} {wi : WI} {g : WG} {wt : WT} {we : WE} {vs us : List Nat} (hu : ∀ j ∈ us, j ∈ vs) :
    ∀ σ H Q, eE K mg (wComp wi g wt we vs) σ H Q → tLc (eI K mg wi) (eG K mg us g) (eT K mg wt) (eE K mg we) vs σ H Q := by
  rintro σ H Q ⟨hO, Fr, F, ρ, Qv, R, h, k⟩
  refine ⟨hO, Fr, F, ρ, _, R, h, fun J H1 F1 ps ρ1 s1 R1 ok ⟨no, q⟩ => ?_⟩
  exact comp_core hu R1 ok no q fun v H' F' r ρ' s R' o q' => k v H' F' r ρ' (s1.trans s) R' o q'
theorem ve_comp {elt tg iter : Expr} {ifs : List Expr} {scope : Scope} {own : List (Str × Nat)} {wi : WI} {g : WG} {wt : WT} {we : WE} {us : List Nat} (hc : X.calm = true) (hN : X.N.Nodup) (hi : VI X tg iter wi) (ok : BlkOk X.N X.env.scope scope own)
    (hg : ∀ (s : Shared) (H : Hp) (C : Addr) (cl : List (Str × Addr)) (fp : List Addr), VG (X.blk s H scope (compEnvC scope cl C X.env) fp) tg us g) (ht : ∀ (s : Shared) (H : Hp) (C : Addr) (cl : List (Str × Addr)) (fp : List Addr), VTs (X.blk s H scope (compEnvC scope cl C X.env) fp) ifs wt)
    (he : ∀ (s : Shared) (H : Hp) (C : Addr) (cl : List (Str × Addr)) (fp : List Addr), VE (X.blk s H scope (compEnvC scope cl C X.env) fp) elt we) (hu : ∀ j ∈ us, j ∈ own.map (·.2)) (hs : ∀ x, foldedSetIterable iter X.env x = pure x := by intro _; rfl) :
    VE X (.ListComp elt [⟨tg, iter, ifs, 0⟩] scope pos) (wComp wi g wt we (own.map (·.2))) :=
  PE.imp (pe_lc hc hN hi ok hg ht he hs) (comp_run hu)
theorem vs_setLc {i : Nat} {y : Str} {py : Pos} {elt tg iter : Expr} {ifs : List Expr} {scope : Scope} {own : List (Str × Nat)} {spos : Pos} {wi : WI} {g : WG} {wt : WT} {we : WE} {us : List Nat} (hc : X.calm = true) (hN : X.N.Nodup) (hy : X.N[i]? = some y) (hyl : X.env.scope.names.lookup y = some .local)
    (hsw : swapsWith (.ListComp elt [⟨tg, iter, ifs, 0⟩] scope pos) (some (.Name y py)) spos.line X.env = pure true) (hi : VI X tg iter wi) (ok : BlkOk X.N X.env.scope scope own)
    (hg : ∀ (s : Shared) (H : Hp) (C : Addr) (cl : List (Str × Addr)) (fp : List Addr), VG (X.blk s H scope (compEnvC scope cl C X.env) fp) tg us g) (ht : ∀ (s : Shared) (H : Hp) (C : Addr) (cl : List (Str × Addr)) (fp : List Addr), VTs (X.blk s H scope (compEnvC scope cl C X.env) fp) ifs wt)
    (he : ∀ (s : Shared) (H : Hp) (C : Addr) (cl : List (Str × Addr)) (fp : List Addr), VE (X.blk s H scope (compEnvC scope cl C X.env) fp) elt we) (hu : ∀ j ∈ us, j ∈ own.map (·.2)) (hs : ∀ x, foldedSetIterable iter X.env x = pure x := by intro _; rfl) :
    VS X (.Assign [.Name y py] (.ListComp elt [⟨tg, iter, ifs, 0⟩] scope pos) spos) (wSet i (wComp wi g wt we (own.map (·.2)))) := by
  refine PS.imp (ps_setLc (wi := eI X.K X.mg wi) (g := eG X.K X.mg us g) (tt := eT X.K X.mg wt) (te := eE X.K X.mg we) hc hN hy hyl hsw hi ok hg ht he hs) ?_
  rintro D σ H ⟨hO, Fr, F, ρ, DV, R, h, k1, k2, k3, k4⟩
  refine comp_run hu σ H _ ⟨hO, Fr, F, ρ, _, R, h, fun v H' F' r ρ' s R' o q => ?_⟩
  exact k1 _ H' F' _ s (R'.set o) q
end
end VE
end
section
set_option Elab.async false
set_option linter.all false
set_option maxRecDepth 100000
namespace VE
open PySem PySem.Spec PyProof.Rows L2

def visB (sc : Scope) (x : Str) : Bool := match sc.names.lookup x with
  | some .local => true
  | some .cell => true
  | some .free => true
  | _ => false
def locB (sc : Scope) (x : Str) : Bool := match sc.names.lookup x with
  | some .local => true
  | some .cell => true
  | _ => false
def lclB (sc : Scope) (x : Str) : Bool := match sc.names.lookup x with
  | some .local => true
  | _ => false
def glB (sc : Scope) (x : Str) : Bool := match sc.names.lookup x with
  | some .globalImplicit => true
  | _ => false
theorem vis_by {sc : Scope} {x : Str} (h : visB sc x = true) : Vis sc x := by
  unfold visB at h
  unfold Vis
  split at h <;> simp_all
theorem loc_by {sc : Scope} {x : Str} (h : locB sc x = true) : L2.Loc sc x := by
  unfold locB at h
  unfold L2.Loc
  split at h <;> simp_all
theorem lcl_by {sc : Scope} {x : Str} (h : lclB sc x = true) : sc.names.lookup x = some .local := by
  unfold lclB at h
  split at h <;> simp_all
theorem gl_by' {sc : Scope} {x : Str} (h : glB sc x = true) : sc.names.lookup x = some .globalImplicit := by
  unfold glB at h
  split at h <;> simp_all
theorem gl_by {X : Cx} {x : Str} (sc : Scope) (e : X.env.scope = sc := by rfl) (h : glB sc x = true := by decide +kernel) : Gl X x := by
  subst e; exact gl_by' h
theorem hu64 {k : Nat} {A : Around} (r : RoomG k A) : A.units + 64 < cLine := r.units
theorem hu65 {k : Nat} {A : Around} (r : RoomG k A) : A.units + 65 < cLine := by have := r.un; omega

def startR (n : Nat) (ps : List PV) : Rho := ps.map Sl.val ++ List.replicate (n - ps.length) .no
theorem rr_start {G : Gh} {Fr F H : Hp} {N : List Str} {vs : List V} {ps : List PV} (R : RB G Fr F H) (r : Reps G F vs ps) : Rr G Fr F (L2.start N vs) H (startR N.length ps) where
  toRB := R
  len := by unfold startR L2.start; simp [r.length]
  val := fun i p e => by
    unfold startR at e
    unfold L2.start
    by_cases hi : i < ps.length
    · rw [List.getElem?_append_left (by simpa using hi), List.getElem?_map] at e
      rw [List.getElem?_append_left (by simpa [r.length] using hi), List.getElem?_map]
      cases q : ps[i]? with
      | none => rw [q] at e; cases e
      | some p' =>
        rw [q] at e; cases e
        obtain ⟨v, h1, h2⟩ := r.get q
        exact ⟨v, by rw [h1]; rfl, h2⟩
    · rw [List.getElem?_append_right (by simpa using hi), List.getElem?_replicate] at e
      split at e <;> cases e
  own := fun i p e => by
    unfold startR at e
    by_cases hi : i < ps.length
    · rw [List.getElem?_append_left (by simpa using hi), List.getElem?_map] at e
      cases q : ps[i]? with
      | none => rw [q] at e; cases e
      | some p' => rw [q] at e; cases e
    · rw [List.getElem?_append_right (by simpa using hi), List.getElem?_replicate] at e
      split at e <;> cases e
  sep := fun i j xs ys a e _ _ _ => by
    unfold startR at e
    by_cases hi : i < ps.length
    · rw [List.getElem?_append_left (by simpa using hi), List.getElem?_map] at e
      cases q : ps[i]? with
      | none => rw [q] at e; cases e
      | some p' => rw [q] at e; cases e
    · rw [List.getElem?_append_right (by simpa using hi), List.getElem?_replicate] at e
      split at e <;> cases e

section
variable {P : Program} {w : World} {K : PySem.W.Frag} {mg : Str → Option Value} {base : Heap} {x qual : Str} {params : Arguments} {body : List Stmt} {scope : Scope} {f : Addr} {fd : FuncData}
/-- THE RULE for a def: the derivation of its body, and that the promise gives what the derivation asks -/
theorem cal_of {N prs : List Str} {n k : Nat} {S : SpV} {wb : WS} (F : FunD K x qual params body scope [] [] f fd) (hg : mg x = some (.ref f)) (Sc : FnScope N prs scope) (hn : prs.length = n)
    (hb : ∀ (kV doc pm : Value) (an : Option Addr) (cdv ct : Value) (us : List Value), us.length = prs.length → bindArgs (PySem.W.fnOf x qual params body scope .none kV doc pm an cdv ct) ⟨us, []⟩ = pure (prs.zip us))
    (hd : ∀ (cdv : Value) (A : Around) (outer : List Env) (s : Shared) (H : Hp), RoomG k (A.deeper (envOfC qual scope s.heap.objs.size f cdv)) → VSs (cxOf CX0 P w K mg base N qual scope f cdv A outer s H E0).nox body wb)
    (hv : ∀ (ps : List PV) (Q : Sl → Prop), ps.length = n → S ps Q → wb { nx := fun _ => Q (.val .non), rt := Q } (startR N.length ps)) : Cal P w K mg base x n (k + 1) S := by
  obtain ⟨oc, od, dV, kV, doc, pm, an, cdv, ct, osl, e, lk, hcd, _, _⟩ := F.ex
  have bd := F.bindsN hb
  have kp := F.kp
  subst e
  refine ⟨f, _, prs, fnG_of lk hcd Sc (fun vs H Q E h => h.1.trans hn.symm) (fun A outer s H vs Q hr h => ?_), hg, kp, bd⟩
  obtain ⟨hl, hO, Fr, G, ps, Qv, R, rs, hS, q⟩ := h
  refine ⟨_, PSs.nox (hd cdv A outer s H hr), ?_⟩
  refine ⟨hO, Fr, G, _, _, rr_start (N := N) R rs, hv ps Qv (by rw [← rs.length]; exact hl) hS, ?_, ?_, ?_, ?_⟩
  · intro σ' H' F' ρ' s' R' q'
    exact q .non H' F' (.val .non) s' R'.toRB Rep.non q'
  · intro v H' F' r s' B o q'
    exact q v H' F' r s' B o q'
  · intro σ' H' F' ρ' s' R' q'
    exact q'.elim
  · intro σ' H' F' ρ' s' R' q'
    exact q'.elim
end
end VE
end
section
set_option Elab.async false
set_option linter.all false
set_option maxRecDepth 100000
namespace VE
open PySem PySem.Spec PyProof.Rows L2 PySem.W
section
variable {X : Cx}
/-! ### min, max of data -/
def rMinD (K : PySem.W.Frag) : List V → Hp → VK → Prop := fun vs H Q => ∃ (a : Addr) (xs : List V) (d : PyData) (ds : List PyData), vs = [.ref a] ∧ (SqL K H a xs ∨ SqT K H a xs) ∧ DpAll K H xs (d :: ds) ∧ AlikeAll (d :: ds) ∧ PyData.depthAll (d :: ds) ≤ 64 ∧
  ∀ (i : Nat) (v : V) (e : PyData), xs[i]? = some v → (d :: ds)[i]? = some e → e = minD d ds → Q v H
theorem minD_mem : ∀ (ds : List PyData) (d : PyData), minD d ds ∈ d :: ds := by
  intro ds
  induction ds with
  | nil => intro d; exact List.mem_cons_self
  | cons e ds ih =>
    intro d
    unfold minD
    rw [List.foldl_cons]
    have h := ih (if dataLt e d = true then e else d)
    unfold minD at h
    rcases List.mem_cons.mp h with z | z
    · rw [z]
      split
      · exact List.mem_cons_of_mem _ List.mem_cons_self
      · exact List.mem_cons_self
    · exact List.mem_cons_of_mem _ (List.mem_cons_of_mem _ z)
theorem maxD_mem : ∀ (ds : List PyData) (d : PyData), maxD d ds ∈ d :: ds := by
  intro ds
  induction ds with
  | nil => intro d; exact List.mem_cons_self
  | cons e ds ih =>
    intro d
    unfold maxD
    rw [List.foldl_cons]
    have h := ih (if dataLt d e = true then e else d)
    unfold maxD at h
    rcases List.mem_cons.mp h with z | z
    · rw [z]
      split
      · exact List.mem_cons_of_mem _ List.mem_cons_self
      · exact List.mem_cons_self
    · exact List.mem_cons_of_mem _ (List.mem_cons_of_mem _ z)
/-- the i-th item reads as the i-th datum -/
theorem readsAll_ith {h : Heap} : ∀ {us : List Value} {ds : List PyData} {as : List Addr}, ReadsAll h us ds as → ∀ (i : Nat) (u : Value), us[i]? = some u → ∃ e bs, ds[i]? = some e ∧ Reads h u e bs
  | _, _, _, .nil, i, u, q => by simp at q
  | _, _, _, .cons r1 r2, 0, u, q => by simp at q; subst q; exact ⟨_, _, rfl, r1⟩
  | _, _, _, .cons r1 r2, i + 1, u, q => by
    obtain ⟨e, bs, h1, h2⟩ := readsAll_ith r2 i u (by simpa using q)
    exact ⟨e, bs, by simpa using h1, h2⟩
theorem vals_ith {xs : List V} {us : List Value} (r : Vals xs us) {i : Nat} {u : Value} (h : us[i]? = some u) : ∃ x, xs[i]? = some x ∧ RelV x u := by
  cases q : xs[i]? with
  | none => rw [r.none_of q] at h; cases h
  | some x =>
    obtain ⟨u', h1, h2⟩ := r.get q
    rw [h] at h1; cases h1
    exact ⟨x, rfl, h2⟩
theorem call_minD (hc : X.calm = true) {k : Nat} (hr : RoomG k X.A) : CallR X (.builtin "min") (rMinD X.K) := by
  intro pins s σ H vs us Q I r h
  obtain ⟨a, xs, d, ds, rfl, hs, hd, hal, hdep, q⟩ := h
  cases r with
  | cons ra rn =>
    cases rn
    cases ra
    have hu : X.A.units + 1 + PyData.depthAll (d :: ds) < cLine := by have := hr.un; omega
    have fin : ∀ {its : List Value} {as : List Addr} (rv : Vals xs its) (hra : ReadsAll s.heap its (d :: ds) as) (i : Nat) (v : Value) (h' : Heap) (tk : Tok) (bs : List Addr), its.toArray[i]? = some v → Reads h' v (minD d ds) bs →
        (∀ b o, s.heap.get? b = some o → h'.get? b = some o) → EP X pins σ Q v { s with heap := h', toks := tk } := by
      intro its as rv hra i v h' tk bs hi rd keep
      have hi' : its[i]? = some v := by simpa using hi
      obtain ⟨e, bs2, e1, r2⟩ := readsAll_ith hra i v hi'
      obtain ⟨x, e2, rx⟩ := vals_ith rv hi'
      have hmem : e ∈ d :: ds := List.mem_of_getElem? e1
      have eq : e = minD d ds := alike_unique e (minD d ds) v bs2 bs (hal.1 e hmem _ (minD_mem ds d)) (Reads.keeps keep r2) rd
      exact ⟨x, H, I.kept keep, rx, q i x e e2 e1 eq⟩
    rcases hs with hs | hs
    · obtain ⟨its, rv, hp, _⟩ := I.list hs
      obtain ⟨as, hra⟩ := Dp.readsAll I (d :: ds) xs its hd rv
      exact min_list_data (hr.room.hd) hp.isList (by simpa using hra) hal hu (fun i v h' tk bs => fin rv hra i v h' tk bs)
    · obtain ⟨its, rv, hp, _⟩ := I.tuple hs
      obtain ⟨as, hra⟩ := Dp.readsAll I (d :: ds) xs its hd rv
      exact min_tuple_data (hr.room.hd) hp (by simpa using hra) hal hu (fun i v h' tk bs => fin rv hra i v h' tk bs)
def opMinD : SpV := fun ps Q => ∃ (xs : List PV) (d : PyData) (ds : List PyData), (ps = [.lst xs] ∨ ps = [.tup xs]) ∧ toDs xs = some (d :: ds) ∧ AlikeAll (d :: ds) ∧ PyData.depthAll (d :: ds) ≤ 64 ∧ ∀ p, p ∈ xs → toD p = some (minD d ds) → Q (.val p)
theorem toDs_ith : ∀ {xs : List PV} {ds : List PyData} {i : Nat} {p : PV}, toDs xs = some ds → xs[i]? = some p → ∃ e, ds[i]? = some e ∧ toD p = some e
  | [], _, _, _, _, h => by simp at h
  | x :: xs, ds, i, p, h, e => by
    simp only [toDs] at h
    split at h
    · rename_i d ds' e1 e2
      cases h
      cases i with
      | zero => simp at e; subst e; exact ⟨d, rfl, e1⟩
      | succ i =>
        obtain ⟨z, h1, h2⟩ := toDs_ith (i := i) e2 (by simpa using e)
        exact ⟨z, by simpa using h1, h2⟩
    · cases h
theorem ser_minD {K mg} : SerC K mg (rMinD K) opMinD := by
  intro hO Fr F σ H ρ vs ps Qv Q R rs h k
  obtain ⟨xs, d, ds, hp, e1, hal, hdep, h⟩ := h
  have fin : ∀ {us : List V}, Reps ⟨K, mg, hO⟩ F us xs → ∀ (i : Nat) (v : V) (e : PyData), us[i]? = some v → (d :: ds)[i]? = some e → e = minD d ds → Q v H := fun {us} rs' i v e h1 h2 h3 => by
    obtain ⟨p, h4, rp⟩ := rs'.getV h1
    obtain ⟨e', h5, h6⟩ := toDs_ith e1 h4
    rw [h2] at h5; cases h5
    exact k v H F (.val p) (Same.refl F) R rp (h p (List.mem_of_getElem? h4) (by rw [h6, h3]))
  rcases hp with rfl | rfl
  · cases rs with
    | cons r rn =>
      cases rn
      cases r with
      | lst e rs' => exact ⟨_, _, d, ds, rfl, .inl (.inl (.inl (R.sub _ _ e))), dpsMono R.sub (dps_of rs' e1), hal, hdep, fin rs'⟩
  · cases rs with
    | cons r rn =>
      cases rn
      cases r with
      | tup e rs' => exact ⟨_, _, d, ds, rfl, .inr (Same.sqt R.sub e), dpsMono R.sub (dps_of rs' e1), hal, hdep, fin rs'⟩
def rMaxD (K : PySem.W.Frag) : List V → Hp → VK → Prop := fun vs H Q => ∃ (a : Addr) (xs : List V) (d : PyData) (ds : List PyData), vs = [.ref a] ∧ (SqL K H a xs ∨ SqT K H a xs) ∧ DpAll K H xs (d :: ds) ∧ AlikeAll (d :: ds) ∧ PyData.depthAll (d :: ds) ≤ 64 ∧
  ∀ (i : Nat) (v : V) (e : PyData), xs[i]? = some v → (d :: ds)[i]? = some e → e = maxD d ds → Q v H
theorem call_maxD (hc : X.calm = true) {k : Nat} (hr : RoomG k X.A) : CallR X (.builtin "max") (rMaxD X.K) := by
  intro pins s σ H vs us Q I r h
  obtain ⟨a, xs, d, ds, rfl, hs, hd, hal, hdep, q⟩ := h
  cases r with
  | cons ra rn =>
    cases rn
    cases ra
    have hu : X.A.units + 1 + PyData.depthAll (d :: ds) < cLine := by have := hr.un; omega
    have fin : ∀ {its : List Value} {as : List Addr} (rv : Vals xs its) (hra : ReadsAll s.heap its (d :: ds) as) (i : Nat) (v : Value) (h' : Heap) (tk : Tok) (bs : List Addr), its.toArray[i]? = some v → Reads h' v (maxD d ds) bs →
        (∀ b o, s.heap.get? b = some o → h'.get? b = some o) → EP X pins σ Q v { s with heap := h', toks := tk } := by
      intro its as rv hra i v h' tk bs hi rd keep
      have hi' : its[i]? = some v := by simpa using hi
      obtain ⟨e, bs2, e1, r2⟩ := readsAll_ith hra i v hi'
      obtain ⟨x, e2, rx⟩ := vals_ith rv hi'
      have hmem : e ∈ d :: ds := List.mem_of_getElem? e1
      have eq : e = maxD d ds := alike_unique e (maxD d ds) v bs2 bs (hal.1 e hmem _ (maxD_mem ds d)) (Reads.keeps keep r2) rd
      exact ⟨x, H, I.kept keep, rx, q i x e e2 e1 eq⟩
    rcases hs with hs | hs
    · obtain ⟨its, rv, hp, _⟩ := I.list hs
      obtain ⟨as, hra⟩ := Dp.readsAll I (d :: ds) xs its hd rv
      exact max_list_data (hr.room.hd) hp.isList (by simpa using hra) hal hu (fun i v h' tk bs => fin rv hra i v h' tk bs)
    · obtain ⟨its, rv, hp, _⟩ := I.tuple hs
      obtain ⟨as, hra⟩ := Dp.readsAll I (d :: ds) xs its hd rv
      exact max_tuple_data (hr.room.hd) hp (by simpa using hra) hal hu (fun i v h' tk bs => fin rv hra i v h' tk bs)
def opMaxD : SpV := fun ps Q => ∃ (xs : List PV) (d : PyData) (ds : List PyData), (ps = [.lst xs] ∨ ps = [.tup xs]) ∧ toDs xs = some (d :: ds) ∧ AlikeAll (d :: ds) ∧ PyData.depthAll (d :: ds) ≤ 64 ∧ ∀ p, p ∈ xs → toD p = some (maxD d ds) → Q (.val p)
theorem ser_maxD {K mg} : SerC K mg (rMaxD K) opMaxD := by
  intro hO Fr F σ H ρ vs ps Qv Q R rs h k
  obtain ⟨xs, d, ds, hp, e1, hal, hdep, h⟩ := h
  have fin : ∀ {us : List V}, Reps ⟨K, mg, hO⟩ F us xs → ∀ (i : Nat) (v : V) (e : PyData), us[i]? = some v → (d :: ds)[i]? = some e → e = maxD d ds → Q v H := fun {us} rs' i v e h1 h2 h3 => by
    obtain ⟨p, h4, rp⟩ := rs'.getV h1
    obtain ⟨e', h5, h6⟩ := toDs_ith e1 h4
    rw [h2] at h5; cases h5
    exact k v H F (.val p) (Same.refl F) R rp (h p (List.mem_of_getElem? h4) (by rw [h6, h3]))
  rcases hp with rfl | rfl
  · cases rs with
    | cons r rn =>
      cases rn
      cases r with
      | lst e rs' => exact ⟨_, _, d, ds, rfl, .inl (.inl (.inl (R.sub _ _ e))), dpsMono R.sub (dps_of rs' e1), hal, hdep, fin rs'⟩
  · cases rs with
    | cons r rn =>
      cases rn
      cases r with
      | tup e rs' => exact ⟨_, _, d, ds, rfl, .inr (Same.sqt R.sub e), dpsMono R.sub (dps_of rs' e1), hal, hdep, fin rs'⟩
/-! ### str of an int -/
def opStr : SpV := fun ps Q => match ps with
  | [.int i] => i.natAbs.log2 < 1920 ∧ Q (.val (.str (toString i)))
  | _ => False
theorem ser_str {K mg} : SerC K mg (fun xs H Q => ∃ i, xs = [.int i] ∧ i.natAbs.log2 < 1920 ∧ Q (.str (toString i)) H) opStr := by
  intro hO Fr F σ H ρ vs ps Qv Q R rs h k
  unfold opStr at h
  split at h
  · cases rs with
    | cons r rn =>
      cases rn; cases r
      exact ⟨_, rfl, h.1, k _ H F (.val (.str _)) (Same.refl F) R (Rep.str _) h.2⟩
  · exact h.elim
end
end VE
end
section
set_option Elab.async false
set_option linter.all false
set_option maxRecDepth 100000
namespace VE
open PySem PySem.Spec PyProof.Rows L2
/-! ### the hand: the two defs that know what it holds -/
abbrev rIntC : List V → Hp → VK → Prop := fun xs H Q => (∃ i, xs = [.int i] ∧ Q (.int i) H) ∨ ∃ k, xs = [.bl k] ∧ Q (.int (if k then 1 else 0)) H
abbrev rLenS (K : PySem.W.Frag) : List V → Hp → VK → Prop := fun xs H Q => ∃ p ys, xs = [.ref p] ∧ (SqL K H p ys ∨ SqT K H p ys) ∧ Q (.int ys.length) H
abbrev hx (K : PySem.W.Frag) (j : Int) : TE := tOp (rIxL K) (tVar 0) (tC (.int j))
abbrev hset (j : Int) (te : TE) : TS := tAsg te (gSub (tVar 0) (tC (.int j)) rSetL)
abbrev tInt (te : TE) : TE := tCB rIntC (tCons te tNil)
abbrev tAddI (a b : TE) : TE := tOp (rI0 fun i j => .int (i + j)) a b
abbrev tMulI (a b : TE) : TE := tOp (rI CMul fun i j => .int (i * j)) a b
abbrev tModI (a b : TE) : TE := tOp (rI (fun _ j => 0 < j) fun i j => .int (i % j)) a b
abbrev tDivI (a b : TE) : TE := tOp (rI CDiv fun i j => .int (i / j)) a b
abbrev cI (j : Int) : TE := tC (.int j)
def t_draw1 (K : PySem.W.Frag) : TS := tIfS (tAnd (tTest (tOp rEq (hx K 2) (cI 0))) (tTest (tOp (rI0 fun i j => .bl (decide (i < j))) (hx K 1) (tCB (rLenS K) (tCons (hx K 0) tNil)))))
  (tSeq (tAsg (tOp (rIxL K) (hx K 0) (hx K 1)) (gName 2)) (tSeq (hset 1 (tAddI (hx K 1) (cI 1)))
    (tSeq (hset 3 (tModI (tInt (tAddI (tAddI (tMulI (hx K 3) (cI 69621)) (tMulI (tVar 2) (cI 48271))) (cI 17))) (cI 2147483629)))
      (tIfS (tTest (tOp (rI0 fun i j => .bl (decide (j ≤ i))) (tVar 2) (tOp (rI CPow fun i j => .int (i ^ j.toNat)) (cI 10) (cI 18)))) (hset 2 (tVar 2)) tNext)))) tNext
def t_draw2 (K : PySem.W.Frag) : TS := tIfS (tTest (tOp (rI0 fun i j => .bl (decide (j < i))) (hx K 2) (cI 0)))
  (tSeq (tAsg (tModI (tInt (hx K 2)) (tVar 1)) (gName 3)) (tSeq (hset 2 (tDivI (hx K 2) (tVar 1))) (tRet (tVar 3)))) tNext
def t_d3d : TS := tRet (tModI (tInt (tDivI (tVar 4) (cI 16))) (tVar 1))
def t_d3c : TS := tSeq (tAsg (tModI (tInt (tMulI (tVar 4) (tAddI (tDivI (tVar 4) (cI 2003)) (cI 40014)))) (cI 2147483563)) (gName 4)) t_d3d
def t_d3b : TS := tSeq (tAsg (tModI (tInt (tMulI (tVar 4) (tAddI (tDivI (tVar 4) (cI 1009)) (cI 69621)))) (cI 2147483647)) (gName 4)) t_d3c
def t_draw3 (K : PySem.W.Frag) : TS := tSeq (hset 4 (tAddI (hx K 4) (cI 1)))
  (tSeq (tAsg (tModI (tInt (tMulI (tInt (tAddI (hx K 3) (tMulI (cI 7919) (hx K 4)))) (cI 40692))) (cI 2147483647)) (gName 4)) t_d3b)
def t_draw (K : PySem.W.Frag) : TS := tSeq (t_draw1 K) (tSeq (t_draw2 K) (t_draw3 K))
/-- what is known of the hand at a -/
def HndAt (F H : Hp) (a : Addr) (i b m n : Int) : Prop := ∃ (c : Addr) (cs : List Int), H a = some (.lst [.ref c, .int i, .int b, .int m, .int n]) ∧ H c = some (.lst (cs.map V.int)) ∧ F c = some (.lst (cs.map V.int)) ∧ c ≠ a ∧ cs.length ≤ 63 ∧ 0 ≤ i
section
variable {K : PySem.W.Frag} {mg : Str → Option Value} {hO : Option Addr} {Fr F H : Hp} {a : Addr}
theorem hand_step {G : Gh} {Fr F H : Hp} {a c : Addr} {cs : List Int} {vs ws : List V} {i b m n : Int} (R : RB G Fr F H) (hO : G.hO = some a) (h0 : 0 ≤ i) (e : ws = [.ref c, .int i, .int b, .int m, .int n]) (hc : F c = some (.lst (cs.map V.int))) (hl : cs.length ≤ 63) : RB G Fr F (upd H a (.lst ws)) where
  sub := fun d x e' => by
    have hd : d ≠ a := fun z => by subst z; have := (R.hand d hO).1; rw [this] at e'; cases e'
    rw [upd_ne hd]; exact R.sub d x e'
  fr := fun d x e' => by
    obtain ⟨h1, h2, h3⟩ := R.fr d x e'
    have hd : d ≠ a := fun z => by subst z; exact h3 hO
    exact ⟨by rw [upd_ne hd]; exact h1, h2, h3⟩
  hand := fun d e' => by
    rw [hO] at e'; cases e'
    exact ⟨(R.hand a hO).1, c, cs, i, b, m, n, by rw [upd_same, e], hc, hl, h0⟩
end
theorem d3d_read {x0 x2 x3 : Option V} {z many : Int} {D : Ends} {H : Hp} (hm : 0 < many) (q : ∀ r, 0 ≤ r → r < many → D.rt (.int r) H) : t_d3d D [x0, some (.int many), x2, x3, some (.int z)] H :=
  ⟨.int z, rfl, z, 16, rfl, rfl, ⟨by decide, by decide⟩, .inl ⟨_, rfl, .int many, rfl, z / 16, many, rfl, rfl, hm, q _ (Int.emod_nonneg _ (by omega)) (Int.emod_lt_of_pos _ hm)⟩⟩
theorem d3c_read {x0 x2 x3 : Option V} {z many : Int} {D : Ends} {H : Hp} (hm : 0 < many) (h1 : 0 ≤ z) (h2 : z < 2147483647) (q : ∀ r, 0 ≤ r → r < many → D.rt (.int r) H) : t_d3c D [x0, some (.int many), x2, x3, some (.int z)] H :=
  ⟨.int z, rfl, .int z, rfl, z, 2003, rfl, rfl, ⟨by decide, by decide⟩, z / 2003, 40014, rfl, rfl, z, z / 2003 + 40014, rfl, rfl, .inl (by omega), .inl ⟨_, rfl, z * (z / 2003 + 40014), 2147483563, rfl, rfl, by omega, d3d_read (z := z * (z / 2003 + 40014) % 2147483563) hm q⟩⟩
theorem d3b_read {x0 x2 x3 : Option V} {z many : Int} {D : Ends} {H : Hp} (hm : 0 < many) (h1 : 0 ≤ z) (h2 : z < 2147483647) (q : ∀ r, 0 ≤ r → r < many → D.rt (.int r) H) : t_d3b D [x0, some (.int many), x2, x3, some (.int z)] H :=
  ⟨.int z, rfl, .int z, rfl, z, 1009, rfl, rfl, ⟨by decide, by decide⟩, z / 1009, 69621, rfl, rfl, z, z / 1009 + 69621, rfl, rfl, .inl (by omega), .inl ⟨_, rfl, z * (z / 1009 + 69621), 2147483647, rfl, rfl, by omega, d3c_read (z := z * (z / 1009 + 69621) % 2147483647) hm (Int.emod_nonneg _ (by omega)) (Int.emod_lt_of_pos _ (by omega)) q⟩⟩
/-- the slots: hand, many, cell, digit, number -/
theorem draw3_read {K : PySem.W.Frag} {G : Gh} {Fr F H : Hp} {a c : Addr} {cs : List Int} {i b m n many : Int} {x2 x3 x4 : Option V} {D : Ends} (R : RB G Fr F H) (hO : G.hO = some a) (hH : H a = some (.lst [.ref c, .int i, .int b, .int m, .int n])) (hc : F c = some (.lst (cs.map V.int))) (hl : cs.length ≤ 63) (h0 : 0 ≤ i)
    (hm : 0 < many) (q : ∀ r H', 0 ≤ r → r < many → RB G Fr F H' → D.rt (.int r) H') : t_draw3 K D [some (.ref a), some (.int many), x2, x3, x4] H := by
  refine ⟨.ref a, rfl, a, _, 4, _, rfl, rfl, SqL.of hH, rfl, _, _, rfl, rfl, .ref a, rfl, a, _, 4, 4, rfl, rfl, hH, rfl, ?_⟩
  have R2 := hand_step (H := H) (vs := []) (ws := [.ref c, .int i, .int b, .int m, .int (n + 1)]) R hO h0 rfl hc hl
  have h2 : (upd H a (.lst ([V.ref c, .int i, .int b, .int m, .int n].set 4 (.int (n + 1))))) a = some (.lst [.ref c, .int i, .int b, .int m, .int (n + 1)]) := upd_same
  refine ⟨.ref a, rfl, a, _, 3, _, rfl, rfl, SqL.of h2, rfl, .ref a, rfl, a, _, 4, _, rfl, rfl, SqL.of h2, rfl, 7919, n + 1, rfl, rfl, .inl (by omega), m, 7919 * (n + 1), rfl, rfl, .inl ⟨_, rfl, m + 7919 * (n + 1), 40692, rfl, rfl, .inr (by omega), .inl ⟨_, rfl, (m + 7919 * (n + 1)) * 40692, 2147483647, rfl, rfl, by omega, ?_⟩⟩⟩
  exact d3b_read (z := (m + 7919 * (n + 1)) * 40692 % 2147483647) hm (Int.emod_nonneg _ (by omega)) (Int.emod_lt_of_pos _ (by omega)) fun r r0 rm => q r _ r0 rm R2
theorem draw2_read {K : PySem.W.Frag} {G : Gh} {Fr F H : Hp} {a c : Addr} {cs : List Int} {i b m n many : Int} {x2 x3 x4 : Option V} {D : Ends} (R : RB G Fr F H) (hO : G.hO = some a) (hH : H a = some (.lst [.ref c, .int i, .int b, .int m, .int n])) (hc : F c = some (.lst (cs.map V.int))) (hl : cs.length ≤ 63) (h0 : 0 ≤ i)
    (hm : 0 < many) (hm2 : many < 1073741824) (q : ∀ r H', 0 ≤ r → r < many → RB G Fr F H' → D.rt (.int r) H') : tSeq (t_draw2 K) (t_draw3 K) D [some (.ref a), some (.int many), x2, x3, x4] H := by
  refine ⟨.ref a, rfl, a, _, 2, _, rfl, rfl, SqL.of hH, rfl, _, _, rfl, rfl, _, rfl, ?_⟩
  by_cases hb : 0 < b
  · rw [decide_eq_true hb]
    refine iteT ⟨.ref a, rfl, a, _, 2, _, rfl, rfl, SqL.of hH, rfl, .inl ⟨_, rfl, .int many, rfl, b, many, rfl, rfl, hm, ?_⟩⟩
    refine ⟨.ref a, rfl, a, _, 2, _, rfl, rfl, SqL.of hH, rfl, .int many, rfl, b, many, rfl, rfl, ⟨hm, hm2⟩, .ref a, rfl, a, _, 2, 2, rfl, rfl, hH, rfl, ?_⟩
    exact ⟨.int (b % many), rfl, q _ _ (Int.emod_nonneg _ (by omega)) (Int.emod_lt_of_pos _ hm) (hand_step (vs := []) R hO h0 rfl hc hl)⟩
  · rw [decide_eq_false hb]
    exact iteF (draw3_read R hO hH hc hl h0 hm q)
theorem draw_read {K : PySem.W.Frag} {G : Gh} {Fr F H : Hp} {a c : Addr} {cs : List Int} {i b m n many : Int} {x2 x3 x4 : Option V} {D : Ends} (R : RB G Fr F H) (hO : G.hO = some a) (hH : H a = some (.lst [.ref c, .int i, .int b, .int m, .int n])) (hc : F c = some (.lst (cs.map V.int))) (hl : cs.length ≤ 63) (h0 : 0 ≤ i)
    (hm : 0 < many) (hm2 : many < 1073741824) (q : ∀ r H', 0 ≤ r → r < many → RB G Fr F H' → D.rt (.int r) H') : t_draw K D [some (.ref a), some (.int many), x2, x3, x4] H := by
  have hcH : H c = some (.lst (cs.map V.int)) := R.sub _ _ hc
  have hca : c ≠ a := fun z => by subst z; rw [(R.hand c hO).1] at hc; cases hc
  have e2 : decide (V.int b = V.int 0) = decide (b = 0) := by
    by_cases h : b = 0
    · subst h; rfl
    · rw [decide_eq_false h, decide_eq_false (fun z => h (V.int.inj z))]
  refine ⟨.ref a, rfl, a, _, 2, _, rfl, rfl, SqL.of hH, rfl, rfl, _, rfl, ?_⟩
  rw [e2]
  by_cases hb : b = 0
  · rw [decide_eq_true hb]
    refine iteT ⟨.ref a, rfl, a, _, 1, _, rfl, rfl, SqL.of hH, rfl, .ref a, rfl, a, _, 0, _, rfl, rfl, SqL.of hH, rfl, c, _, rfl, .inl (SqL.of hcH), _, _, rfl, rfl, _, rfl, ?_⟩
    by_cases hi : i < ((cs.map V.int).length : Int)
    · rw [decide_eq_true hi]
      refine iteT ?_
      obtain ⟨j, rfl⟩ : ∃ j : Nat, i = j := ⟨i.toNat, by omega⟩
      have hj : j < cs.length := by simpa using hi
      have hat : L2.atI (cs.map V.int) (j : Int) = some (.int cs[j]) := atI_nat (by rw [List.getElem?_map, List.getElem?_eq_getElem hj]; rfl)
      refine ⟨.ref a, rfl, a, _, 0, _, rfl, rfl, SqL.of hH, rfl, .ref a, rfl, a, _, 1, _, rfl, rfl, SqL.of hH, rfl, c, _, (j : Int), .int cs[j], rfl, rfl, SqL.of hcH, hat, ?_⟩
      refine ⟨.ref a, rfl, a, _, 1, _, rfl, rfl, SqL.of hH, rfl, (j : Int), 1, rfl, rfl, .ref a, rfl, a, _, 1, 1, rfl, rfl, hH, rfl, ?_⟩
      have R2 := hand_step (H := H) (vs := []) (ws := [V.ref c, .int (j + 1 : Int), .int b, .int m, .int n]) R hO (by omega) rfl hc hl
      have h2 : (upd H a (.lst ([V.ref c, .int (j : Int), .int b, .int m, .int n].set 1 (.int ((j : Int) + 1))))) a = some (.lst [.ref c, .int ((j : Int) + 1), .int b, .int m, .int n]) := upd_same
      refine ⟨.ref a, rfl, a, _, 3, _, rfl, rfl, SqL.of h2, rfl, m, 69621, rfl, rfl, .inr (by omega), .int cs[j], rfl, cs[j], 48271, rfl, rfl, .inr (by omega), m * 69621, cs[j] * 48271, rfl, rfl, m * 69621 + cs[j] * 48271, 17, rfl, rfl, .inl ⟨_, rfl, m * 69621 + cs[j] * 48271 + 17, 2147483629, rfl, rfl, by omega, .ref a, rfl, a, _, 3, 3, rfl, rfl, h2, rfl, ?_⟩⟩
      have R3 := hand_step (H := upd H a (.lst [V.ref c, .int (j + 1 : Int), .int b, .int m, .int n])) (vs := []) (ws := [V.ref c, .int (j + 1 : Int), .int b, .int ((m * 69621 + cs[j] * 48271 + 17) % 2147483629), .int n]) R2 hO (by omega) rfl hc hl
      have h3 : (upd (upd H a (.lst ([V.ref c, .int (j : Int), .int b, .int m, .int n].set 1 (.int ((j : Int) + 1))))) a (.lst ([V.ref c, .int ((j : Int) + 1), .int b, .int m, .int n].set 3 (.int ((m * 69621 + cs[j] * 48271 + 17) % 2147483629))))) a = some (.lst [.ref c, .int ((j : Int) + 1), .int b, .int ((m * 69621 + cs[j] * 48271 + 17) % 2147483629), .int n]) := upd_same
      refine ⟨.int cs[j], rfl, 10, 18, rfl, rfl, ⟨by decide, by decide, by decide⟩, cs[j], (10 : Int) ^ 18, rfl, rfl, _, rfl, ?_⟩
      by_cases hg : (10 : Int) ^ 18 ≤ cs[j]
      · rw [decide_eq_true hg]
        refine iteT ⟨.int cs[j], rfl, .ref a, rfl, a, _, 2, 2, rfl, rfl, h3, rfl, ?_⟩
        exact draw2_read (hand_step (vs := []) R3 hO (by omega) rfl hc hl) hO upd_same hc hl (by omega) hm hm2 q
      · rw [decide_eq_false hg]
        exact iteF (draw2_read R3 hO h3 hc hl (by omega) hm hm2 q)
    · rw [decide_eq_false hi]
      exact iteF (draw2_read R hO hH hc hl h0 hm hm2 q)
  · rw [decide_eq_false hb]
    exact iteF (iteF (draw2_read R hO hH hc hl h0 hm hm2 q))
/-- a draw: any number below many -/
def S__law_draw : SpV := fun ps Q => ∃ m : Int, ps = [.hnd, .int m] ∧ 0 < m ∧ m < 1073741824 ∧ ∀ r : Int, 0 ≤ r → r < m → Q (.val (.int r))
theorem draw_body {K : PySem.W.Frag} {mg : Str → Option Value} {vs : List V} {H : Hp} {Q : VK} {E : XK} (h : vsp K mg 2 S__law_draw vs H Q E) : t_draw K { nx := fun _ H' => Q .non H', rt := Q } (L2.start ["hand", "many", "cell", "digit", "number"] vs) H := by
  obtain ⟨_, hO, Fr, F, ps, Qv, R, rs, ⟨m, rfl, m1, m2, hq⟩, k⟩ := h
  cases rs with
  | cons r1 rs =>
    cases rs with
    | cons r2 rs =>
      cases rs
      cases r1 with
      | hnd e =>
        cases r2
        obtain ⟨hF, c, cs, i, b, mm, n, e1, e2, e3, e4⟩ := R.hand _ e
        exact draw_read (G := ⟨K, mg, hO⟩) R e e1 e2 e3 e4 m1 m2 fun r H' r0 rm R' => k (.int r) H' F (.val (.int r)) (Same.refl F) R' (Rep.int r) (hq r r0 rm)
end VE
end
section
set_option Elab.async false
set_option linter.all false
set_option maxRecDepth 100000
namespace VE
open PySem PySem.Spec PyProof.Rows L2
abbrev rAbs : List V → Hp → VK → Prop := fun xs H Q => ∃ i, xs = [.int i] ∧ Q (.int (if i < 0 then -i else i)) H
def t_hand (K : PySem.W.Frag) (c : Int) : TS := tSeq (tAsg (tLc (iList K (tSl (rSlL K) (tVar 0) tNoPart (tPart (cI 63)))) (gName 2) tYes (tCB rAbs (tCons (tInt (tVar 2)) tNil)) [2]) (gName 1))
  (tRet (tLst (tCons (tVar 1) (tCons (cI 0) (tCons (cI 0) (tCons (tAddI (cI c) (tMulI (cI 61) (tCB (rLenS K) (tCons (tVar 1) tNil)))) (tCons (cI 0) tNil)))))))
def spHand (K : PySem.W.Frag) : Sp := fun vs H Q _ => ∃ (a : Addr) (ns : List Int), vs = [.ref a] ∧ SqL K H a (ns.map V.int) ∧ ns.length ≤ 63 ∧
  ∀ (H' : Hp) (p c : Addr) (cs : List Int) (m : Int), Same H H' → H p = none → p ≠ c → H' p = some (.lst [.ref c, .int 0, .int 0, .int m, .int 0]) → H' c = some (.lst (cs.map V.int)) → cs.length ≤ 63 → Q (.ref p) H'
theorem cutV_map (ns : List Int) (lo hi : Option Int) : ∃ ms : List Int, cutV (ns.map V.int) lo hi = ms.map V.int ∧ ms.length ≤ ns.length := by
  refine ⟨(ns.drop (HT.sIx ns.length 0 lo)).take (HT.sIx ns.length ns.length hi - HT.sIx ns.length 0 lo), ?_, ?_⟩
  · unfold cutV
    rw [List.length_map, List.map_take, List.map_drop]
  · rw [List.length_take, List.length_drop]; omega
theorem hand_body {K : PySem.W.Frag} {c : Int} {vs : List V} {H : Hp} {Q : VK} {E : XK} (h : spHand K vs H Q E) : t_hand K c { nx := fun _ H' => Q .non H', rt := Q } (L2.start ["script", "cells", "cell"] vs) H := by
  obtain ⟨a, ns, rfl, hS, hl, q⟩ := h
  refine ⟨.ref a, rfl, 63, rfl, a, _, rfl, hS, fun d hd => ?_⟩
  obtain ⟨ms, em, hm⟩ := cutV_map ns none (some 63)
  rw [em]
  refine ⟨d, rfl, ⟨_, SqL.of upd_same⟩, fun D hD => ?_⟩
  have nDd : D ≠ d := fun z => by subst z; rw [upd_same] at hD; cases hD
  have HD : H D = none := by rw [upd_ne nDd] at hD; exact hD
  refine lc_list (K := K) (a := d) (xs := ms.map V.int) (fun i H2 => Same H H2 ∧ H2 d = some (.lst (ms.map V.int)) ∧ ∃ cs : List Int, cs.length = i ∧ H2 D = some (.lst (cs.map V.int))) ⟨(same_upd hd).trans (same_upd hD), ?_, [], rfl, upd_same⟩ (fun i H2 _ p => SqL.of p.2.1) ?_ ?_
  · rw [upd_ne nDd.symm, upd_same]
  · rintro i x H2 hx ⟨s2, e2, cs, hc, hD2⟩
    refine ⟨rfl, ?_⟩
    dsimp only [tYes]
    rw [if_pos rfl]
    rw [List.getElem?_map, Option.map_eq_some_iff] at hx
    obtain ⟨n, hn, rfl⟩ := hx
    have hi : i < ms.length := (List.getElem?_eq_some_iff.mp hn).1
    refine ⟨.int n, rfl, .inl ⟨n, rfl, n, rfl, cs.map V.int, hD2, ?_, ?_⟩⟩
    · rw [List.length_map, sizeLine_eq]; omega
    · refine ⟨fun b o e => ?_, ?_, cs ++ [if n < 0 then -n else n], ?_, ?_⟩
      · have hb : b ≠ D := ne_of_none e HD
        rw [upd_ne hb]; exact s2 b o e
      · rw [upd_ne nDd.symm]; exact e2
      · rw [List.length_append, hc]; rfl
      · rw [upd_same, List.map_append]; rfl
  · rintro H2 ⟨s2, e2, cs, hc, hD2⟩
    rw [List.length_map] at hc
    refine ⟨.ref D, rfl, .ref D, rfl, D, _, rfl, .inl (SqL.of hD2), 61, ((cs.map V.int).length : Int), rfl, rfl, .inl (by omega), c, 61 * ((cs.map V.int).length : Int), rfl, rfl, ?_, fun p hp => ?_⟩
    · show 5 ≤ sizeLine
      rw [sizeLine_eq]; omega
    · have HpD : p ≠ D := fun z => by subst z; rw [hD2] at hp; cases hp
      have Hp0 : H p = none := Same.free s2 hp
      exact q _ p D cs _ (s2.trans (same_upd hp)) Hp0 HpD upd_same (by rw [upd_ne HpD.symm]; exact hD2) (by omega)
/-! ### the law -/
def spLaw (K : PySem.W.Frag) : Sp := fun vs H Q _ => ∃ (a : Addr) (ns : List Int), vs = [.ref a] ∧ SqL K H a (ns.map V.int) ∧ ns.length ≤ 63 ∧ ∀ H', Q (.bl true) H'
def startL (n : Nat) : Rho := (List.replicate n Sl.no).set 1 (.val .hnd)
section
variable {P : Program} {w : World} {K : PySem.W.Frag} {mg : Str → Option Value} {base : Heap} {qual : Str} {params : Arguments} {st : Stmt} {rest : List Stmt} {scope : Scope} {f fH : Addr} {fd fdH : FuncData}
theorem fnG_hand {c : Int} {body : List Stmt} (F : FunD K "_law_hand" "_law_hand" params body scope [] [] f fd) (Sc : FnScope ["script", "cells", "cell"] ["script"] scope)
    (hd : ∀ (cdv : Value) (A : Around) (outer : List Env) (s : Shared) (H : Hp), PSs (cxOf CX0 P w K mg base ["script", "cells", "cell"] "_law_hand" scope f cdv A outer s H E0).nox body (t_hand K c)) : FnG P w K mg base 1 f fd ["script"] (spHand K) := by
  obtain ⟨oc, od, dV, kV, doc, pm, an, cdv, ct, osl, e, lk, hcd, _, _⟩ := F.ex
  subst e
  exact fnG_of lk hcd Sc (fun vs H Q E ⟨a, ns, e, _⟩ => by rw [e]; rfl) fun A outer s H vs Q _ h => ⟨_, PSs.nox (hd cdv A outer s H), hand_body h⟩
theorem fnG_draw {body : List Stmt} (F : FunD K "_law_draw" "_law_draw" params body scope [] [] f fd) (Sc : FnScope ["hand", "many", "cell", "digit", "number"] ["hand", "many"] scope)
    (hd : ∀ (cdv : Value) (A : Around) (outer : List Env) (s : Shared) (H : Hp), PSs (cxOf CX0 P w K mg base ["hand", "many", "cell", "digit", "number"] "_law_draw" scope f cdv A outer s H E0).nox body (t_draw K)) : FnG P w K mg base 1 f fd ["hand", "many"] (vsp K mg 2 S__law_draw) := by
  obtain ⟨oc, od, dV, kV, doc, pm, an, cdv, ct, osl, e, lk, hcd, _, _⟩ := F.ex
  subst e
  exact fnG_of lk hcd Sc (fun vs H Q E h => h.1) fun A outer s H vs Q _ h => ⟨_, PSs.nox (hd cdv A outer s H), draw_body h⟩
theorem fnG_law {N : List Str} {k : Nat} {wr : WS} (F : FunD K "law" "law" params (st :: rest) scope [] [] f fd) (Sc : FnScope N ["script"] scope) (hN2 : 2 ≤ N.length)
    (H1 : FnG P w K mg base k fH fdH ["script"] (spHand K))
    (hst : ∀ (cdv : Value) (A : Around) (outer : List Env) (s : Shared) (H : Hp), RoomG k (A.deeper (envOfC "law" scope s.heap.objs.size f cdv)) → PS (cxOf CX0 P w K mg base N "law" scope f cdv A outer s H E0).nox st (tAsg (fun σ H Q => tCons (tVar 0) tNil σ H fun vs H1 => spHand K vs H1 Q E0) (gName 1)))
    (hd : ∀ (cdv : Value) (A : Around) (outer : List Env) (s : Shared) (H : Hp), RoomG k (A.deeper (envOfC "law" scope s.heap.objs.size f cdv)) → VSs (cxOf CX0 P w K mg base N "law" scope f cdv A outer s H E0).nox rest wr)
    (hv : wr { nx := fun _ => False, rt := fun r => r = .val (.bl true) } (startL N.length)) : FnG P w K mg base (k + 1) f fd ["script"] (spLaw K) := by
  obtain ⟨oc, od, dV, kV, doc, pm, an, cdv, ct, osl, e, lk, hcd, _, _⟩ := F.ex
  subst e
  refine fnG_of lk hcd Sc (fun vs H Q E ⟨a, ns, e, _⟩ => by rw [e]; rfl) fun A outer s H vs Q hr h => ⟨_, PSs.nox (pss_cons (hst cdv A outer s H hr) (hd cdv A outer s H hr)), ?_⟩
  obtain ⟨a, ns, rfl, hS, hl, q⟩ := h
  have e0 : (L2.start N [V.ref a])[0]? = some (some (V.ref a)) := by unfold L2.start; simp
  refine ⟨.ref a, e0, a, ns, rfl, hS, hl, fun H' p c cs m s1 hp npc e1 e2 hl2 => ?_⟩
  have hF : ∀ b, b ≠ c → upd (fun _ => none) c (.lst (cs.map V.int)) b = none := fun b hb => by rw [upd_ne hb]
  refine ⟨some p, fun _ => none, upd (fun _ => none) c (.lst (cs.map V.int)), startL N.length, _, ⟨⟨fun b x e => ?_, fun b o e => (nomatch e), fun b e => ?_⟩, ?_, fun i pv e => ?_, fun i xs e => ?_, fun i j xs ys a' e _ _ _ => ?_⟩, hv, ?_, ?_, ?_, ?_⟩
  · by_cases hb : b = c
    · subst hb; rw [upd_same] at e; cases e; exact e2
    · rw [hF b hb] at e; cases e
  · cases e
    exact ⟨hF p npc, c, cs, 0, 0, m, 0, e1, upd_same, hl2, Int.le_refl 0⟩
  · unfold startL L2.start; simp; omega
  · have : i = 1 ∧ pv = .hnd := by
      unfold startL at e
      by_cases hi : 1 = i
      · subst hi
        rw [List.getElem?_set_self (by simp; omega)] at e
        cases e; exact ⟨rfl, rfl⟩
      · rw [List.getElem?_set_ne hi, List.getElem?_replicate] at e
        split at e <;> cases e
    obtain ⟨rfl, rfl⟩ := this
    refine ⟨.ref p, ?_, Rep.hnd rfl⟩
    rw [List.getElem?_set_self]
    unfold L2.start; simp; omega
  · unfold startL at e
    by_cases hi : 1 = i
    · subst hi
      rw [List.getElem?_set_self (by simp; omega)] at e
      cases e
    · rw [List.getElem?_set_ne hi, List.getElem?_replicate] at e
      split at e <;> cases e
  · unfold startL at e
    by_cases hi : 1 = i
    · subst hi
      rw [List.getElem?_set_self (by simp; omega)] at e
      cases e
    · rw [List.getElem?_set_ne hi, List.getElem?_replicate] at e
      split at e <;> cases e
  · intro σ' H' F' ρ' _ _ z; exact z.elim
  · intro v H' F' r _ _ o z
    subst z
    cases o
    exact q H'
  · intro σ' H' F' ρ' _ _ z; exact z.elim
  · intro σ' H' F' ρ' _ _ z; exact z.elim
end
end VE
end
section
set_option Elab.async false
set_option linter.all false
set_option maxRecDepth 100000
namespace VE
open PySem PySem.Spec PyProof.Rows L2
abbrev LawEnd (s₁ : Shared) (r : Result) (s' : Shared) : Prop := r = .ok (.ret (.bool true)) ∧ OldK s₁.heap s'.heap ∧ s'.os = s₁.os ∧ AllBare s'.gens
section
variable {P : Program} {w : World} {K : PySem.W.Frag} {mg mb : Str → Option Value} {k : Nat} {fa a : Addr} {fd : FuncData} {x : Str} {s₁ : Shared} {vs : List Value} {ns : List Int}
/-- the call, from an abstract heap that tracks the script at most -/
theorem law_from (KX : K.In s₁.heap) (hns : s₁.heap.Ns mainGlobals mg) (hb : s₁.heap.Ns builtinsNs mb) (hbb : ∀ x : Str, x ≠ "__name__" → mb x = bootBuiltins x) (hlim : s₁.heap.NoLimit) (hg : s₁.gens = #[])
    (ha : s₁.heap.get? a = some { cls := .type "list", data := .seq vs.toArray }) (hr : RoomG k callerA) (F : ∀ base : Heap, K.In base → base.Ns mainGlobals mg → FnG P w K mg base k fa fd [x] (spLaw K))
    (hbind : ∀ (s : Shared) (u : Value), BindsTo s fd ⟨[u], []⟩ [(x, u)]) (H : Hp) (hO : Only H) (hS : SqL K H a (ns.map V.int)) (hl : ns.length ≤ 63) (hok : HOk P w H s₁.heap) (one : ∀ b, H b ≠ none → b = a ∧ K.lookup a = none) :
    codeAny (model P w) callerA (.call (.ref fa) ⟨[.ref a], []⟩) (LawEnd s₁) s₁ := by
  -- whatever is no list is untracked
  have free : ∀ {b : Addr} {o : Obj}, s₁.heap.get? b = some o → (∀ its n, o.data ≠ .seq its n) → H b = none := by
    intro b o e nd
    cases q : H b with
    | none => rfl
    | some u =>
      obtain ⟨z, _⟩ := one b (by rw [q]; intro z; cases z)
      subst z
      rw [ha] at e
      cases e
      exact absurd rfl (nd _ _)
  have space : ∀ {b : Addr} {m : Str → Option Value}, s₁.heap.Ns b m → (hidT s₁.heap H).Ns b m := by
    rintro b m ⟨o, es, ep, e, d, r⟩
    exact ⟨o, es, ep, hidT_get e (free e fun its n z => by rw [d] at z; cases z), d, r⟩
  have KB : K.In (hidT s₁.heap H) := by
    intro b o e
    refine hidT_get (KX b o e) ?_
    cases q : H b with
    | none => rfl
    | some u =>
      obtain ⟨z, z2⟩ := one b (by rw [q]; intro z; cases z)
      subst z
      rw [z2] at e; cases e
  obtain ⟨mc, l1, l2⟩ := hlim
  have M : Mod K mg (hidT s₁.heap H) := { kin := KB, glob := space hns, blt := ⟨mb, space hb, hbb⟩, nolimit := ⟨mc, space l1, l2⟩ }
  have E : Env0 P w K mg (hidT s₁.heap H) callerA [] s₁ H := { frames := rfl, mod := M, bs := fun b o e => of_hidT e, bsz := by rw [hidT_size]; exact Nat.le_refl _, funs := trivial, frf := fun b z => (by cases z), hok := hok, bare := .of_eq hg }
  have run := (F _ KB (space hns)).go callerA [] s₁ H ⟨[.ref a], []⟩ [.ref a] [.ref a] (fun v _ => v = .bl true) hr E (hbind s₁ (.ref a)) (.cons rfl .nil) ⟨a, ns, rfl, hS, hl, fun _ => rfl⟩
  refine codeAny_mono run ?_
  intro r s' h
  match r, h with
  | .ok (.ret u), ⟨v, H', os, bare, un, hok', rv, q⟩ =>
    cases (show v = .bl true from q)
    cases (show u = Value.bool true from rv)
    refine ⟨rfl, OldK.of_keep fun b o e => ?_, os, bare⟩
    rcases hO b with q | ⟨ob, ys, q⟩
    · exact un.keep b o e q (by intro z; cases z) (by intro z; cases z)
    · have e1 := (hok b _ q).1
      rw [e] at e1
      cases e1
      exact (hok' b _ (un.frzs b o _ q)).1
  | .ok .next, h => exact h.elim
  | .ok .brk, h => exact h.elim
  | .ok .cont, h => exact h.elim
  | .error _, h => exact False.elim h
theorem law_go (KX : K.In s₁.heap) (hns : s₁.heap.Ns mainGlobals mg) (hb : s₁.heap.Ns builtinsNs mb) (hbb : ∀ x : Str, x ≠ "__name__" → mb x = bootBuiltins x) (hlim : s₁.heap.NoLimit) (hg : s₁.gens = #[])
    (ha : s₁.heap.get? a = some { cls := .type "list", data := .seq vs.toArray }) (hi : IntsAre vs ns) (hl : ns.length ≤ 63) (hr : RoomG k callerA) (F : ∀ base : Heap, K.In base → base.Ns mainGlobals mg → FnG P w K mg base k fa fd [x] (spLaw K))
    (hbind : ∀ (s : Shared) (u : Value), BindsTo s fd ⟨[u], []⟩ [(x, u)]) : codeAny (model P w) callerA (.call (.ref fa) ⟨[.ref a], []⟩) (LawEnd s₁) s₁ := by
  have rv : Vals (ns.map V.int) vs := vals_of_ints hi
  have le : ns.length ≤ sizeLine := by rw [sizeLine_eq]; omega
  by_cases hk : K.lookup a = none
  · refine law_from KX hns hb hbb hlim hg ha hr F hbind (upd (fun _ => none) a (.frz { cls := .type "list", data := .seq vs.toArray } (.lst (ns.map V.int)))) (fun b => ?_) (.inl (.inr ⟨_, upd_same⟩)) hl (fun b u z => ?_) fun b z => ?_
    · by_cases hb' : b = a
      · subst hb'; exact .inr ⟨_, _, upd_same⟩
      · exact .inl (upd_ne hb')
    · by_cases hb' : b = a
      · subst hb'
        rw [upd_same] at z; cases z
        exact ⟨ha, by rw [List.length_map]; exact le, vs, _, rv, ha⟩
      · rw [upd_ne hb'] at z; cases z
    · by_cases hb' : b = a
      · exact ⟨hb', hk⟩
      · exact absurd (upd_ne hb') z
  · obtain ⟨o, e⟩ := Option.ne_none_iff_exists'.mp hk
    have e2 := KX a o e
    rw [ha] at e2
    cases e2
    have hz : vs.toArray.size ≤ sizeLine := by rw [List.size_toArray, ← rv.length, List.length_map]; exact le
    refine law_from KX hns hb hbb hlim hg ha hr F hbind (fun _ => none) (fun b => .inl rfl) (.inr ⟨_, vs.toArray, _, e, rfl, rfl, rfl, hz, rv⟩) hl (fun b u z => (nomatch z)) fun b z => absurd rfl z
end
/-- the end of a law -/
theorem walkG {l : PySem.W.OpenLaw} {k : Nat} {q : Program} {loose : List Str} {XP : (Str → Option Value) → Heap → Prop} {YP : World → Heap → Prop} {d : DefRec} {x : Str} (hn : l.most = some 63) (hdf : d.params.defaults = []) (hr : RoomG k callerA)
    (F : ∀ (w : World) (mg : Str → Option Value) (fa : Addr) (h : Heap), YP w h → h.Ns mainGlobals mg → mg d.name = some (.ref fa) →
      ∃ (K : PySem.W.Frag) (fd : FuncData), K.In h ∧ (∀ (s : Shared) (u : Value), BindsTo s fd ⟨[u], []⟩ [(x, u)]) ∧ ∀ base : Heap, K.In base → base.Ns mainGlobals mg → FnG l.prog w K mg base k fa fd [x] (spLaw K)) :
    PySem.W.WalkO q loose XP YP l.row.toRowW d [] (fun f vs => PySem.call f vs) := by
  refine Att.attach_call hn hdf ?_
  intro w s₀ s₁ mg mb fa o pm cd doc a vs ns G Y ho hd hcd hmg hobj hints hlen hg
  obtain ⟨K, fd, KX, hb, hF⟩ := F w mg fa s₁.heap Y G.T.g hmg
  exact law_go KX G.T.g G.T.b G.T.builtins G.T.nolimit hg hobj hints hlen hr hF hb
end VE
end
section
set_option Elab.async false
set_option linter.all false
set_option maxRecDepth 100000
namespace VE
open PySem PySem.Spec PyProof.Rows L2 PySem.W
section
variable {X : Cx}
/-! ### repr of data -/
def rReprD (K : PySem.W.Frag) : List V → Hp → VK → Prop := fun vs H Q => ∃ x, vs = [x] ∧ ((∃ d, Dp K H x d ∧ d.showable = true ∧ d.hasDict = false ∧ d.depth ≤ 64 ∧ d.shown.length ≤ sizeLine ∧ Q (.str d.shown) H) ∨ (∃ a, x = .ref a ∧ H a = some (.dK []) ∧ Q (.str (PyData.shown (.dict []))) H))
theorem call_reprD (hc : X.calm = true) {k : Nat} (hr : RoomG k X.A) : CallR X (.builtin "repr") (rReprD X.K) := by
  intro pins s σ H vs us Q I r h
  obtain ⟨x, rfl, h⟩ := h
  cases r with
  | cons ra rn =>
    rename_i u _
    cases rn
    rcases h with ⟨d, hd, hs, hdi, hdep, hz, q⟩ | ⟨a, rfl, ha, q⟩
    · obtain ⟨as, rd⟩ := Dp.reads I d x u hd ra
      have ref : ∀ {a : Addr}, u = .ref a → wpAny (model X.prog X.w) X.A (call (.builtin "repr") [u]) (EP X pins σ Q) X.xe s := by
        intro a e
        subst e
        refine repr_of_reads' rd hs (fun z => by rw [hdi] at z; cases z) hr.gd (by have := hr.un; omega) (fun _ _ e => e) (fun h' u tk keep => ?_) hz
        exact ⟨.str _, H, I.kept keep, ⟨u, rfl⟩, q⟩
      cases hd with
      | non => cases ra; exact PySem.P.repr_of_none ⟨.str _, H, I.tok _, ⟨_, rfl⟩, q⟩
      | bl b => cases ra; exact PySem.P.repr_of_bool ⟨.str _, H, I.tok _, ⟨_, rfl⟩, q⟩
      | int i => obtain ⟨t, rfl⟩ := ra; exact PySem.P.repr_of_int (by simpa [PyData.showable] using hs) ⟨.str _, H, I.tok _, ⟨_, rfl⟩, q⟩
      | str y => obtain ⟨t, rfl⟩ := ra; exact PySem.P.repr_of_str ⟨.str _, H, I.tok _, ⟨_, rfl⟩, q⟩ hz
      | lst _ _ => cases ra; exact ref rfl
      | tup _ _ => cases ra; exact ref rfl
    · cases ra
      obtain ⟨_, hsys, vs, kv, ob, es, ep, e1, e2, e3, e4, e5, e6⟩ := (show ObjOk X.prog X.w H s.heap a (.dK []) from I.hok a _ ha)
      cases kv
      have he : es.toList = [] := by
        have := e5
        generalize es.toList = l at this
        cases this
        rfl
      have rd : Reads s.heap (.ref a) (.dict []) (a :: [] ++ []) := Reads.dict (kvs := []) e1 e2.1 e3 (by rw [he]; exact .nil) (by rw [he]; exact .nil)
      refine repr_of_reads' rd (by rfl) (fun _ => ?_) hr.gd (by have := hr.un; show X.A.units + (0 + 1 + 1) < cLine; omega) (fun _ _ e => e) (fun h' u tk keep => ?_) (by decide +kernel)
      · intro z
        have e : sysModules = a := by simpa using z
        rw [← e] at hsys; simp at hsys
      · exact ⟨.str _, H, I.kept keep, ⟨u, rfl⟩, q⟩
def opRepr : SpV := fun ps Q => ∃ p, ps = [p] ∧ ((∃ d, toD p = some d ∧ d.showable = true ∧ d.depth ≤ 64 ∧ d.shown.length ≤ sizeLine ∧ Q (.val (.str d.shown))) ∨ (p = .dct0 ∧ Q (.val (.str (PyData.shown (.dict []))))))
mutual
theorem toD_noDict : ∀ {p : PV} {d : PyData}, toD p = some d → d.hasDict = false
  | .non, _, e => by simp [toD] at e; subst e; rfl
  | .bl b, _, e => by simp [toD] at e; subst e; rfl
  | .int b, _, e => by simp [toD] at e; subst e; rfl
  | .str b, _, e => by simp [toD] at e; subst e; rfl
  | .lst xs, _, e => by
    simp only [toD, Option.map_eq_some_iff] at e
    obtain ⟨ds, e1, rfl⟩ := e
    simp only [PyData.hasDict]
    exact toDs_noDict e1
  | .tup xs, _, e => by
    simp only [toD, Option.map_eq_some_iff] at e
    obtain ⟨ds, e1, rfl⟩ := e
    simp only [PyData.hasDict]
    exact toDs_noDict e1
  | .dct0, _, e => by simp [toD] at e
  | .hnd, _, e => by simp [toD] at e
  | .ty _, _, e => by simp [toD] at e
  | .fnc _, _, e => by simp [toD] at e
  | .ins _ _ _, _, e => by simp [toD] at e
  | .ptr _, _, e => by simp [toD] at e
theorem toDs_noDict : ∀ {ps : List PV} {ds : List PyData}, toDs ps = some ds → PyData.hasDictAll ds = false
  | [], _, e => by simp [toDs] at e; subst e; rfl
  | p :: ps, _, e => by
    simp only [toDs] at e
    split at e
    · rename_i d ds e1 e2
      cases e
      simp only [PyData.hasDictAll, toD_noDict e1, toDs_noDict e2, Bool.or_self]
    · cases e
end
theorem ser_repr {K mg} : SerC K mg (rReprD K) opRepr := by
  intro hO Fr F σ H ρ vs ps Qv Q R rs h k
  obtain ⟨p, rfl, h⟩ := h
  cases rs with
  | cons r rn =>
    cases rn
    rcases h with ⟨d, e1, e2, e3, e4, h⟩ | ⟨rfl, h⟩
    · exact ⟨_, rfl, .inl ⟨d, dpMono R.sub (dp_of r e1), e2, toD_noDict e1, e3, e4, k _ H F (.val (.str _)) (Same.refl F) R (Rep.str _) h⟩⟩
    · cases r with
      | dct0 e => exact ⟨_, rfl, .inr ⟨_, rfl, R.sub _ _ e, k _ H F (.val (.str _)) (Same.refl F) R (Rep.str _) h⟩⟩
end
end VE
end
section
set_option Elab.async false
set_option linter.all false
set_option maxRecDepth 100000
namespace VE
open PySem PySem.Spec PyProof.Rows L2
/-! ### several values at once, owned lists kept -/
inductive ROs (G : Gh) (Fr F : Hp) (σ : L2.St) (H : Hp) (ρ : Rho) : List V → List Sl → Prop
  | nil : ROs G Fr F σ H ρ [] []
  | cons {v : V} {r : Sl} {vs : List V} {rs : List Sl} : RO G Fr F σ H ρ v r → ROs G Fr F σ H ρ vs rs → (∀ a xs, r = .own xs → v = .ref a → ∀ (i : Nat) ys, rs[i]? = some (.own ys) → vs[i]? ≠ some (.ref a)) → ROs G Fr F σ H ρ (v :: vs) (r :: rs)
abbrev WB := Rho → (List Sl → Rho → Prop) → Prop
def eB (K : PySem.W.Frag) (mg : Str → Option Value) (w : WB) : TA := fun σ H Q => ∃ (hO : Option Addr) (Fr F : Hp) (ρ : Rho) (Qv : List Sl → Rho → Prop),
  Rr ⟨K, mg, hO⟩ Fr F σ H ρ ∧ w ρ Qv ∧ ∀ vs H' F' rs ρ', Same F F' → Rr ⟨K, mg, hO⟩ Fr F' σ H' ρ' → ROs ⟨K, mg, hO⟩ Fr F' σ H' ρ' vs rs → Qv rs ρ' → Q vs H'
abbrev VB (X : Cx) (es : List Expr) (w : WB) : Prop := PA X es (eB X.K X.mg w)
def frA (Fr H : Hp) : Sl → V → Hp
  | .own _, .ref a => fun b => if b = a then H a else Fr b
  | _, _ => Fr
section
variable {G : Gh} {Fr F F' H H' : Hp} {σ : L2.St} {ρ ρ' : Rho} {v : V} {r : Sl}
theorem RO.toFr (R : Rr G Fr F σ H ρ) (o : RO G Fr F σ H ρ v r) : Rr G (frA Fr H r v) F σ H ρ := by
  cases r with
  | no => exact o.elim
  | val p => exact R
  | own xs =>
    obtain ⟨a, vs, rfl, ow, ap⟩ := o
    refine { R with fr := fun b o e => ?_, own := fun i ys e => ?_ }
    · simp only [frA] at e
      split at e
      · rename_i hb; subst hb
        exact ⟨e, ow.nF, ow.nh⟩
      · exact R.fr b o e
    · obtain ⟨b, us, e1, ob⟩ := R.own i ys e
      refine ⟨b, us, e1, ⟨ob.at_, ob.rep, ob.nF, ob.nh, ?_⟩⟩
      have hb : b ≠ a := fun h => ap i ys e (by rw [e1, h])
      simp only [frA, if_neg hb]
      exact ob.nFr
theorem frA_sub {b : Addr} (h : frA Fr H r v b = none) (o : RO G Fr F σ H ρ v r) : Fr b = none := by
  cases r with
  | no => exact o.elim
  | val p => exact h
  | own xs =>
    obtain ⟨a, vs, rfl, ow, ap⟩ := o
    simp only [frA] at h
    split at h
    · rename_i hb; subst hb; exact ow.nFr
    · exact h
theorem RO.ofFr (R : Rr G Fr F σ H ρ) (o : RO G Fr F σ H ρ v r) (s : Same F F') (R' : Rr G (frA Fr H r v) F' σ H' ρ') : Rr G Fr F' σ H' ρ' ∧ RO G Fr F' σ H' ρ' v r ∧
    ∀ {us : List V} {rs : List Sl}, ROs G (frA Fr H r v) F' σ H' ρ' us rs → ROs G Fr F' σ H' ρ' (v :: us) (r :: rs) := by
  have R2 : Rr G Fr F' σ H' ρ' := by
    refine { R' with fr := fun b ob e => ?_, own := fun i ys e => ?_ }
    · cases r with
      | no => exact o.elim
      | val p => exact R'.fr b ob e
      | own xs =>
        obtain ⟨a, vs, rfl, ow, ap⟩ := o
        have hb : b ≠ a := fun h => by rw [h, ow.nFr] at e; cases e
        exact R'.fr b ob (by simp only [frA, if_neg hb]; exact e)
    · obtain ⟨b, us, e1, ob⟩ := R'.own i ys e
      exact ⟨b, us, e1, ⟨ob.at_, ob.rep, ob.nF, ob.nh, frA_sub ob.nFr o⟩⟩
  have o2 : RO G Fr F' σ H' ρ' v r := by
    cases r with
    | no => exact o.elim
    | val p => exact Rep.mono s o
    | own xs =>
      obtain ⟨a, vs, rfl, ow, ap⟩ := o
      obtain ⟨g1, g2, g3⟩ := R'.fr a (.lst vs) (by simp only [frA, if_true]; exact ow.at_)
      refine ⟨a, vs, rfl, ⟨g1, ow.rep.mono s, g2, g3, ow.nFr⟩, fun i ys e1 e2 => ?_⟩
      obtain ⟨b, us, e3, ob⟩ := R'.own i ys e1
      rw [e2] at e3; cases e3
      have := ob.nFr
      simp only [frA, if_true] at this
      rw [ow.at_] at this; cases this
  refine ⟨R2, o2, fun {us rs} os => ?_⟩
  have conv : ∀ {u : V} {q : Sl}, RO G (frA Fr H r v) F' σ H' ρ' u q → RO G Fr F' σ H' ρ' u q := fun {u q} x => by
    cases q with
    | no => exact x
    | val p => exact x
    | own xs =>
      obtain ⟨a, vs, e, ow, ap⟩ := x
      exact ⟨a, vs, e, ⟨ow.at_, ow.rep, ow.nF, ow.nh, frA_sub ow.nFr o⟩, ap⟩
  have all : ∀ {us : List V} {rs : List Sl}, ROs G (frA Fr H r v) F' σ H' ρ' us rs → ROs G Fr F' σ H' ρ' us rs := fun {us rs} os => by
    induction os with
    | nil => exact .nil
    | cons x _ d ih => exact .cons (conv x) ih d
  have get : ∀ {us : List V} {rs : List Sl}, ROs G (frA Fr H r v) F' σ H' ρ' us rs → ∀ (i : Nat) ys, rs[i]? = some (.own ys) → ∃ a, us[i]? = some (.ref a) ∧ frA Fr H r v a = Option.none := fun {us rs} os => by
    induction os with
    | nil => intro i ys e; simp at e
    | cons x _ d ih =>
      intro i ys e
      cases i with
      | zero =>
        simp at e; subst e
        obtain ⟨a, vs, e, ow, ap⟩ := x
        exact ⟨a, by simp [e], ow.nFr⟩
      | succ i => simpa using ih i ys (by simpa using e)
  refine .cons o2 (all os) fun a xs e1 e2 i ys e3 e4 => ?_
  subst e1; subst e2
  obtain ⟨b, h1, h2⟩ := get os i ys e3
  rw [e4] at h1; cases h1
  obtain ⟨a', vs, e, ow, ap⟩ := o
  cases e
  simp only [frA, if_true] at h2
  rw [ow.at_] at h2; cases h2
theorem ROs.length {vs : List V} {rs : List Sl} (h : ROs G Fr F σ H ρ vs rs) : vs.length = rs.length := by
  induction h with
  | nil => rfl
  | cons _ _ _ ih => simp [ih]
theorem ROs.set {i : Nat} {vs : List V} {rs : List Sl} (o : RO G Fr F σ H ρ v r) (d : ∀ a xs, r = .own xs → v = .ref a → ∀ (i : Nat) ys, rs[i]? = some (.own ys) → vs[i]? ≠ some (.ref a)) (h : ROs G Fr F σ H ρ vs rs) (hl : ρ.length = σ.length) :
    ROs G Fr F (σ.set i (some v)) H (ρ.set i r) vs rs := by
  induction h with
  | nil => exact .nil
  | @cons u q us qs x _ d2 ih =>
    refine .cons ?_ (ih fun a xs e1 e2 k ys e3 => by have := d a xs e1 e2 (k + 1) ys; simpa using this (by simpa using e3)) d2
    cases q with
    | no => exact x
    | val p => exact x
    | own xs =>
      obtain ⟨a, ws, rfl, ow, ap⟩ := x
      refine ⟨a, ws, rfl, ow, fun k ys e1 e2 => ?_⟩
      by_cases hk : i = k
      · subst hk
        have hi : i < ρ.length := by
          have := (List.getElem?_eq_some_iff.mp e1).1
          simpa using this
        rw [List.getElem?_set_self hi] at e1
        rw [List.getElem?_set_self (by omega)] at e2
        simp only [Option.some.injEq] at e1 e2
        exact d a ys e1 e2 0 xs rfl rfl
      · rw [List.getElem?_set_ne hk] at e1 e2
        exact ap k ys e1 e2
theorem ROs.freshT {vs : List V} {rs : List Sl} {p : Addr} {ob : HO} (hp : H p = none) (h : ROs G Fr F σ H ρ vs rs) : ROs G Fr F σ (upd H p ob) ρ vs rs := by
  induction h with
  | nil => exact .nil
  | @cons u q us qs x _ d2 ih =>
    refine .cons ?_ ih d2
    cases q with
    | no => exact x
    | val p => exact x
    | own xs =>
      obtain ⟨a, ws, rfl, ow, ap⟩ := x
      exact ⟨a, ws, rfl, ⟨by rw [upd_ne (ne_of_none ow.at_ hp)]; exact ow.at_, ow.rep, ow.nF, ow.nh, ow.nFr⟩, ap⟩
end
def bNil : WB := fun ρ Q => Q [] ρ
def bCons (wa : WE) (wr : WB) : WB := fun ρ Q => wa ρ fun r ρ1 => wr ρ1 fun rs ρ2 => Q (r :: rs) ρ2
section
variable {X : Cx} {pos : Pos}
theorem vb_nil : VB X [] bNil := by
  refine PA.imp pa_nil ?_
  rintro σ H Q ⟨hO, Fr, F, ρ, Qv, R, h, k⟩
  exact k [] H F [] ρ (Same.refl F) R .nil h
theorem vb_cons {e : Expr} {es : List Expr} {wa : WE} {wr : WB} (he : VE X e wa) (hr : VB X es wr) (hs : starEach (e :: es) X.env = (false, eval e X.env) :: starEach es X.env := by rfl) : VB X (e :: es) (bCons wa wr) := by
  refine PA.imp (pa_cons he hr hs) ?_
  rintro σ H Q ⟨hO, Fr, F, ρ, Qv, R, h, k⟩
  refine ⟨hO, Fr, F, ρ, _, R, h, fun v H1 F1 r ρ1 s1 R1 o h1 => ?_⟩
  refine ⟨hO, _, F1, ρ1, _, RO.toFr R1 o, h1, fun vs H2 F2 rs ρ2 s2 R2 os h2 => ?_⟩
  obtain ⟨R3, _, m⟩ := RO.ofFr R1 o s2 R2
  exact k (v :: vs) H2 F2 (r :: rs) ρ2 (s1.trans s2) R3 (m os) h2
def wParB (i j : Nat) (w : WB) : WS := fun D ρ => w ρ fun rs ρ1 => ∃ p q, rs = [p, q] ∧ D.nx ((ρ1.set i p).set j q)
theorem vs_parB {i j : Nat} {x y : Str} {a b : Expr} {w : WB} {px py pt : Pos} {kt k2 pt2} (hc : X.calm = true) (hN : X.N.Nodup) (hi : X.N[i]? = some x) (hj : X.N[j]? = some y) (hij : i ≠ j)
    (hx : X.env.scope.names.lookup x = some .local) (hy : X.env.scope.names.lookup y = some .local) (ha : VB X [a, b] w)
    (hw : swappedStores [.Tuple [.Name x px, .Name y py] kt pt] (.Tuple [a, b] k2 pt2) X.env = pure (some [x, y]))
    (hs : swapsWithSole [.Tuple [.Name x px, .Name y py] kt pt] (.Tuple [a, b] k2 pt2) pos.line X.env = pure false := by rfl) :
    VS X (.Assign [.Tuple [.Name x px, .Name y py] kt pt] (.Tuple [a, b] k2 pt2) pos) (wParB i j w) := by
  refine PS.imp (ps_par hc hN hi hj hij hx hy ha hw hs) ?_
  rintro D σ H ⟨hO, Fr, F, ρ, DV, R, h, k1, k2, k3, k4⟩
  refine ⟨hO, Fr, F, ρ, _, R, h, fun vs H' F' ps ρ' s R' rs ⟨p, q, e, hq⟩ => ?_⟩
  subst e
  cases rs with
  | cons r1 rs d1 =>
    cases rs with
    | cons r2 rs d2 =>
      cases rs
      refine ⟨_, _, rfl, k1 _ H' F' _ s ?_ hq⟩
      have rest := ROs.set (i := i) r1 d1 (.cons r2 .nil d2) R'.len
      cases rest with
      | cons r2' _ _ => exact (R'.set r1).set r2'
def wParB3 (i j l : Nat) (w : WB) : WS := fun D ρ => w ρ fun rs ρ1 => ∃ p q r, rs = [p, q, r] ∧ D.nx (((ρ1.set i p).set j q).set l r)
theorem vs_parB3 {i j l : Nat} {st : Stmt} {w : WB} (h : PS X st (tPar3 i j l (eB X.K X.mg w))) : VS X st (wParB3 i j l w) := by
  refine PS.imp h ?_
  rintro D σ H ⟨hO, Fr, F, ρ, DV, R, h, k1, k2, k3, k4⟩
  refine ⟨hO, Fr, F, ρ, _, R, h, fun vs H' F' ps ρ' s R' rs ⟨p, q, r, e, hq⟩ => ?_⟩
  subst e
  cases rs with
  | cons r1 rs d1 =>
    have rest := ROs.set (i := i) r1 d1 rs R'.len
    have R1 := R'.set (i := i) r1
    cases rest with
    | cons r2 rs d2 =>
      have rest2 := ROs.set (i := j) r2 d2 rs R1.len
      have R2 := R1.set (i := j) r2
      cases rest2 with
      | cons r3 rs d3 =>
        cases rs
        exact ⟨_, _, _, rfl, k1 _ H' F' _ s (R2.set (i := l) r3) hq⟩
/-- names of a tuple display's items, cells among them -/
inductive NmT (X : Cx) : List Expr → List Nat → TGs → Prop
  | nil : NmT X [] [] gNil
  | cons {x : Str} {p : Pos} {i : Nat} {es : List Expr} {is : List Nat} {t : TGs} : NmT X es is t → NmT X (.Name x p :: es) (i :: is) (gCons (gName i) t)
def sets (ρ : Rho) : List Nat → List Sl → Rho
  | i :: is, r :: rs => sets (ρ.set i r) is rs
  | _, _ => ρ
theorem nm_read {K : PySem.W.Frag} {mg : Str → Option Value} {hO : Option Addr} {Fr F H : Hp} {es : List Expr} {is : List Nat} {t : TGs} (h : NmT X es is t) : ∀ {σ : L2.St} {ρ : Rho} {vs : List V} {rs : List Sl} {Q : L2.St → Hp → Prop},
    Rr ⟨K, mg, hO⟩ Fr F σ H ρ → ROs ⟨K, mg, hO⟩ Fr F σ H ρ vs rs → rs.length = is.length → (∀ σ', Rr ⟨K, mg, hO⟩ Fr F σ' H (sets ρ is rs) → Q σ' H) → t vs σ H Q := by
  induction h with
  | nil =>
    intro σ ρ vs rs Q R os hl k
    cases os with
    | nil => exact ⟨rfl, k σ R⟩
    | cons => simp at hl
  | @cons x p i es is t _ ih =>
    intro σ ρ vs rs Q R os hl k
    cases os with
    | nil => simp at hl
    | @cons v r vs rs o os d =>
      refine ⟨v, vs, rfl, ?_⟩
      exact ih (R.set o) (ROs.set o d os R.len) (by simpa using hl) k
def wAsgB (is : List Nat) (w : WB) : WS := fun D ρ => w ρ fun rs ρ1 => rs.length = is.length ∧ rs.length ≤ sizeLine ∧ D.nx (sets ρ1 is rs)
theorem vs_asgB {es tg : List Expr} {is : List Nat} {t : TGs} {w : WB} {kt k2 : Nat} {pt pt2 : Pos} (hc : X.calm = true) (he : VB X es w) (hn : NmT X tg is t) (hg : PGs X tg t)
    (hl : (assignEach tg X.env).length = is.length := by rfl) (hst : (assignEach tg X.env).findIdx? (·.1) = none := by rfl)
    (hs : swapsWithSole [.Tuple tg kt pt] (.Tuple es k2 pt2) pos.line X.env = pure false := by rfl) (hw : swappedStores [.Tuple tg kt pt] (.Tuple es k2 pt2) X.env = pure none := by rfl)
    (h1 : (assignEach [.Tuple tg kt pt] X.env).map (·.2) = [assign (.Tuple tg kt pt) X.env] := by rfl) : VS X (.Assign [.Tuple tg kt pt] (.Tuple es k2 pt2) pos) (wAsgB is w) := by
  refine PS.imp (ps_asg (pe_tup he) (pg_tup hc hg hl hst) hs hw h1) ?_
  rintro D σ H ⟨hO, Fr, F, ρ, DV, R, h, k1, k2, k3, k4⟩
  refine ⟨hO, Fr, F, ρ, _, R, h, fun vs H1 F1 rs ρ1 s1 R1 os ⟨h2, h3, h4⟩ => ?_⟩
  have hlen := os.length
  refine ⟨by rw [hlen]; exact h3, fun p hp => ?_⟩
  refine ⟨p, vs, rfl, SqT.of upd_same, by rw [hlen]; exact h2, ?_⟩
  exact nm_read hn (R1.fresh hp) (os.freshT hp) h2 fun σ' R' => k1 σ' _ F1 _ s1 R' h4
end
end VE
end
section
set_option Elab.async false
set_option linter.all false
set_option maxRecDepth 100000
namespace VE
open PySem PySem.Spec PyProof.Rows L2
section
variable {P : Program} {w : World} {K : PySem.W.Frag} {mg : Str → Option Value} {base : Heap} {x qual : Str} {params : Arguments} {body : List Stmt} {scope : Scope} {f : Addr} {fd : FuncData}
/-- a def of which nothing is promised -/
theorem cal_none {prs : List Str} {n k : Nat} (F : FunD K x qual params body scope [] [] f fd) (hg : mg x = some (.ref f))
    (hb : ∀ (kV doc pm : Value) (an : Option Addr) (cdv ct : Value) (us : List Value), us.length = prs.length → bindArgs (PySem.W.fnOf x qual params body scope .none kV doc pm an cdv ct) ⟨us, []⟩ = pure (prs.zip us)) : Cal P w K mg base x n k (fun _ _ => False) :=
  ⟨f, fd, prs, ⟨fun vs H Q E h => by obtain ⟨_, _, _, _, _, _, _, _, h, _⟩ := h; exact h.elim, fun A outer s H args us vs Q _ _ _ _ h => by obtain ⟨_, _, _, _, _, _, _, _, h, _⟩ := h; exact h.elim⟩, hg, F.kp, F.bindsN hb⟩
end
end VE
end
section
set_option Elab.async false
set_option linter.all false
set_option maxRecDepth 100000
namespace VE
open PySem PySem.Spec PyProof.Rows L2
/-! ### from behind -/
theorem fm_congr {α β : Type} {f g : α → Option β} : ∀ {l : List α}, (∀ x ∈ l, f x = g x) → l.filterMap f = l.filterMap g
  | [], _ => rfl
  | x :: l, h => by
    rw [List.filterMap_cons, List.filterMap_cons, h x List.mem_cons_self, fm_congr fun y hy => h y (List.mem_cons_of_mem _ hy)]
theorem back_pick (xs : Array Value) : ((List.range xs.size).filterMap fun (k : Nat) => xs[(((xs.size : Int) - 1) + (k : Int) * (-1)).toNat]?).toArray = xs.toList.reverse.toArray := by
  obtain ⟨l⟩ := xs
  have h := HT.pick_gen l.reverse.toArray 0 l.length
  have e : ∀ k ∈ List.range l.length, l.toArray[(((l.toArray.size : Int) - 1) + (k : Int) * (-1)).toNat]? = (l.reverse.toArray)[(((0 : Nat) : Int) + (k : Int) * 1).toNat]? := fun k hk => by
    have hk' := List.mem_range.mp hk
    have e1 : (((l.toArray.size : Int) - 1) + (k : Int) * (-1)).toNat = l.length - 1 - k := by rw [List.size_toArray]; omega
    have e2 : (((0 : Nat) : Int) + (k : Int) * 1).toNat = k := by omega
    rw [e1, e2, List.getElem?_toArray, List.getElem?_toArray, List.getElem?_reverse hk']
  have h2 := congrArg List.toArray (fm_congr e)
  refine h2.trans (h.trans ?_)
  simp
  exact List.take_of_length_le (by simp)
theorem back_parts (n : Nat) : Builtin.Slice.sliceAdjust none none (-1) (n : Int) = ((n : Int) - 1, -1) := by
  unfold Builtin.Slice.sliceAdjust
  simp
theorem back_many (n : Nat) : Builtin.Slice.slicePlaces ((n : Int) - 1) (-1) (-1) = n := by
  unfold Builtin.Slice.slicePlaces
  simp
  try omega
section
variable {prog : Program} {w : World} {A : Around} {E : Value → Shared → Prop} {s : Shared}
theorem back_applied {sl : Addr} {t : Tok} {n : Nat} {Q : Int × Int × Nat → Shared → Prop} (hs : s.heap.IsSliceOf sl .none .none (.int (-1) t)) (h : Q ((n : Int) - 1, -1, n) s) :
    wpAny (model prog w) A (Builtin.Slice.sliceApplied (.ref sl) (pure (n : Int))) Q E s := by
  obtain ⟨ob, o1, o2, o3⟩ := id hs
  unfold Builtin.Slice.sliceApplied Builtin.Slice.sliceFields
  refine wpAny_bind (wpAny_bind (wpAny_field o1 o3 (x := .none) rfl (wpAny_bind (wpAny_field o1 o3 (x := .none) rfl (wpAny_bind (wpAny_field o1 o3 (x := .int (-1) t) rfl (wpAny_pure ?_)))))))
  refine wpAny_bind (HT.slicePart_ (IsPart.int (-1) t) ?_)
  show wpAny _ _ (if ((-1 : Int) == 0) = true then _ else _) _ _ s
  rw [if_neg (by decide : ¬ ((-1 : Int) == 0) = true)]
  refine wpAny_bind (HT.slicePart_ IsPart.none (wpAny_bind (HT.slicePart_ IsPart.none (wpAny_bind (wpAny_pure ?_)))))
  show wpAny _ _ (match Builtin.Slice.sliceAdjust none none (-1) (n : Int) with | (a, b) => pure (a, (-1 : Int), Builtin.Slice.slicePlaces a b (-1))) _ _ s
  rw [back_parts]
  show wpAny _ _ (pure ((n : Int) - 1, (-1 : Int), Builtin.Slice.slicePlaces ((n : Int) - 1) (-1) (-1))) _ _ s
  rw [back_many]
  exact wpAny_pure h
theorem tup_back {t sl : Addr} {tk : Tok} {its : Array Value} {Q : Value → Shared → Prop} (it : IsTup s.heap t its) (hs : s.heap.IsSliceOf sl .none .none (.int (-1) tk))
    (h : Q (.ref s.heap.objs.size) { s with heap := s.heap.push { cls := .type "tuple", data := .seq its.toList.reverse.toArray } }) (hz : its.size ≤ sizeLine) : wpAny (model prog w) A (getItem (.ref t) (.ref sl)) Q E s := by
  have fit : sizeOk (.seq its.toList.reverse.toArray) := by
    show its.toList.reverse.toArray.size ≤ sizeLine
    simpa using hz
  obtain ⟨ob, o1, o2, o3⟩ := id hs
  have ty : s.TypeIs (.ref sl) "slice" := ⟨ob, o1, o2⟩
  unfold getItem
  try with_reducible refine wpAny_holding ?_
  first | refine wpAny_bind (wpAny_pure ?_) | skip
  refine wpAny_bind (wpAny_sequenceKey it.typeIs (by decide) ?_)
  refine wpAny_bind (wpAny_callSpecial?_slot (name := Str.ofString "__getitem__") it.typeIs PyProof.Rows.slot_tuple_getitem (wpAny_call_entry PyProof.Rows.slot_tuple_getitem it.typeIs entry_tuple_getitem ?_ (args_tuple_getitem _ _)))
  show wpAny _ _ (Builtin.Tuple.tupleItemsOf (.ref t) >>= _) _ _ s; refine wpAny_bind (tupleItemsOf_ it ?_)
  refine wpAny_bind (wpAny_typeOf ty ?_)
  rw [if_pos (by decide)]
  refine wpAny_bind (back_applied hs ?_)
  show wpAny _ _ (if (((its.size : Int) - 1) == 0 && (-1 : Int) == 1 && its.size == its.size) = true then _ else _) _ _ s
  rw [if_neg (by simp), back_pick]
  first
    | exact wpAny_bind (m := Builtin.Tuple.tupleExact _) (wpAny_newObj_type (wpAny_pure ⟨_, rfl, wpAny_pure h⟩) fit)
    | exact wpAny_bind (m := Builtin.Tuple.tupleExact _) (wpAny_newObj_type (wpAny_bind (wpAny_pure (wpAny_pure ⟨_, rfl, wpAny_pure h⟩))) fit)
    | exact wpAny_bind (wpAny_bind (m := Builtin.Tuple.tupleExact _) (wpAny_newObj_type (wpAny_pure (wpAny_pure ⟨_, rfl, wpAny_pure h⟩)) fit))
    | exact wpAny_bind (wpAny_bind (m := Builtin.Tuple.tupleExact _) (wpAny_newObj_type (wpAny_pure ⟨_, rfl, wpAny_pure h⟩) fit))
end
section
variable {X : Cx}
/-- from behind: a list, a tuple -/
def tBack (K : PySem.W.Frag) (te : TE) : TE := fun σ H Q => te σ H fun x H1 => ∃ a xs, x = .ref a ∧ ((SqL K H1 a xs ∧ ∀ p, H1 p = none → Q (.ref p) (upd H1 p (.lst xs.reverse))) ∨ (SqT K H1 a xs ∧ ∀ p, H1 p = none → Q (.ref p) (upd H1 p (.tup xs.reverse))))
theorem pe_back {e : Expr} {te : TE} {k : Nat} {p1 p2 p3 pos : Pos} (he : PE X e te) : PE X (.Subscript e (.Slice none none (some (.UnaryOp .USub (.Constant (.int 1) k p1) p2)) p3) pos) (tBack X.K te) := by
  constructor
  intro pins s σ H Q I h
  refine Subscript_ (thn (he.run pins s σ H _ I h) fun v sa ⟨x, Ha, Ia, rx, qx⟩ => ?_)
  obtain ⟨a, xs, ex, hx⟩ := qx
  subst ex
  cases rx
  have hst : PO X (some (.UnaryOp .USub (.Constant (.int 1) k p1) p2)) (tPart (tUn (rU fun i => .int (-i)) (tC (.int 1)))) := po_some (pe_un un_neg pe_int)
  refine wpAny_Slice (thn (po_none.run pins sa σ Ha (fun o H2 => o = none ∧ H2 = Ha) Ia ⟨rfl, rfl⟩) fun vl sb ⟨l, Hb, Ib, pl, el, eb⟩ => ?_)
  subst el eb
  refine thn (po_none.run pins sb σ Hb (fun o H3 => o = none ∧ H3 = Hb) Ib ⟨rfl, rfl⟩) fun vu sc ⟨u, Hc, Ic, pu, eu, ec⟩ => ?_
  subst eu ec
  refine thn (hst.run pins sc σ Hc (fun o H4 => o = some (-1) ∧ H4 = Hc) Ic ⟨1, rfl, -1, rfl, rfl, rfl⟩) fun vs sd ⟨o, Hd, Id, ps, eo, ed⟩ => ?_
  subst eo ed
  have Ie : Inv X pins σ Hd { sd with heap := sd.heap.push { cls := .type "slice", data := .fields #[vl, vu, vs] } } := Id.kept (t' := sd.toks) fun b ob z => Heap.get?_push_of_some _ z
  show wpAny (model X.prog X.w) X.A (subscriptTail e (.Slice none none (some (.UnaryOp .USub (.Constant (.int 1) k p1) p2)) p3) (.ref a) (.ref sd.heap.objs.size)) (EP X pins σ Q) X.xe { sd with heap := sd.heap.push { cls := .type "slice", data := .fields #[vl, vu, vs] } }
  rcases hx with ⟨hx, q⟩ | ⟨hx, q⟩
  · obtain ⟨its, r, it, hz⟩ := Ie.list hx
    have hlen := r.length
    refine tail_any (ops := [.ref a, .ref sd.heap.objs.size]) it.isList.typeIs (PySem.slot_list_getitem.lookup) ?_ (by with_unfolding_all rfl)
    refine wpAny_getItem_list_slice it.isList (Heap.IsSliceOf.new _ vl vu vs) pl pu ps (by decide) ?_ (by rw [List.size_toArray]; omega)
    rw [PySem.W.krv_pick]
    refine ⟨.ref _, _, Ie.laid (t' := sd.toks) (o := .lst xs.reverse) (fun b ob z => Heap.get?_push_of_some _ z) (Nat.le_refl _) ?_, rfl, q _ (Ie.hok.fresh (Nat.le_refl _))⟩
    exact ⟨by rw [List.length_reverse]; exact hz, _, 0, r.reverse, Heap.get?_push_size _ rfl⟩
  · obtain ⟨its, r, it, hz⟩ := Ie.tuple hx
    cases pl
    cases pu
    cases ps with
    | int _ tk =>
      have hlen := r.length
      refine tail_any (ops := [.ref a, .ref sd.heap.objs.size]) it.typeIs (PyProof.Rows.slot_tuple_getitem.lookup) ?_ (by with_unfolding_all rfl)
      refine tup_back it (Heap.IsSliceOf.new _ .none .none (.int (-1) tk)) ?_ (by rw [List.size_toArray]; omega)
      refine ⟨.ref _, _, Ie.laid (t' := sd.toks) (o := .tup xs.reverse) (fun b ob z => Heap.get?_push_of_some _ z) (Nat.le_refl _) ?_, rfl, q _ (Ie.hok.fresh (Nat.le_refl _))⟩
      exact ⟨by rw [List.length_reverse]; exact hz, _, r.reverse, IsTup.new _ _⟩
def opBack : UnV := fun p Q => match p with
  | .tup xs => Q (.val (.tup xs.reverse))
  | .lst xs => Q (.own xs.reverse)
  | _ => False
theorem ve_back {e : Expr} {we : WE} {k : Nat} {p1 p2 p3 pos : Pos} (he : VE X e we) : VE X (.Subscript e (.Slice none none (some (.UnaryOp .USub (.Constant (.int 1) k p1) p2)) p3) pos) (wUn opBack we) := by
  refine PE.imp (pe_back he) ?_
  rintro σ H Q ⟨hO, Fr, F, ρ, Qv, R, h, k⟩
  refine eE.pv (Qv := fun p ρ1 => opBack p fun r => Qv r ρ1) R h fun x H1 F1 p ρ1 s1 R1 rp h1 => ?_
  unfold opBack at h1
  split at h1
  · cases rp with
    | tup e rs =>
      refine ⟨_, _, rfl, .inr ⟨Same.sqt R1.sub e, fun q hq => ?_⟩⟩
      have hF := R1.nF hq
      exact k _ _ _ (.val (.tup _)) ρ1 (s1.trans (same_upd hF)) (R1.laid hq) (Rep.tup (SqT.of upd_same) (rs.reverse.mono (same_upd hF))) h1
  · cases rp with
    | lst e rs =>
      exact ⟨_, _, rfl, .inl ⟨.inl (.inl (R1.sub _ _ e)), fun q hq => k _ _ F1 (.own _) ρ1 s1 (R1.fresh hq) (R1.freshOwn hq rs.reverse) h1⟩⟩
  · exact h1.elim
end
end VE
end
section
set_option Elab.async false
set_option linter.all false
set_option maxRecDepth 100000
namespace VE
open PySem PySem.Spec PyProof.Rows L2
/-! ### looks at an owned list that leave it owned -/
def wIxN (i : Nat) (wi : WE) : WE := fun ρ Q => match look ρ i with
  | .own _ => wi ρ fun r ρ1 => match r.pv with
    | .int k => match look ρ1 i with
      | .own xs => ∃ x, atI xs k = some x ∧ Q (.val x) ρ1
      | _ => False
    | _ => False
  | _ => wBin opIx (wVar i) wi ρ Q
def wLenN (i : Nat) : WE := fun ρ Q => match look ρ i with
  | .own xs => Q (.val (.int xs.length)) ρ
  | _ => wCall opLen (wCons (wVar i) wNil) ρ Q
section
variable {X : Cx} {pos : Pos}
theorem ve_ixN {i : Nat} {x : Str} {p : Pos} {b : Expr} {wi : WE} (hN : X.N[i]? = some x) (hv : Vis X.env.scope x) (hb : VE X b wi) (hd : (x == ("__debug__" : Str)) = false := by decide) (hcd : (x == ("__classdict__" : Str)) = false := by decide)
    (hs : PlainIx b := by intro _ _; rfl) : VE X (.Subscript (.Name x p) b pos) (wIxN i wi) := by
  constructor
  intro pins s σ H Q I h
  obtain ⟨hO, Fr, F, ρ, Qv, R, h, k⟩ := h
  unfold wIxN at h
  split at h
  · rename_i xs0 hx
    refine (pe_ix (X := X) (pos := pos) ix_lt (pe_var hN hv hd hcd) hb hs).run pins s σ H Q I ?_
    obtain ⟨a, vs0, e0, o0⟩ := R.own i xs0 (look_get hx (by intro z; cases z))
    refine ⟨_, e0, ?_⟩
    refine eE.pv (Qv := fun q ρ1 => match q with
      | .int k => match look ρ1 i with
        | .own xs => ∃ y, atI xs k = some y ∧ Qv (.val y) ρ1
        | _ => False
      | _ => False) R h fun y H1 F1 q ρ1 s1 R1 rq h1 => ?_
    split at h1
    · cases rq
      split at h1
      · rename_i kk xs hx1
        obtain ⟨z, hz, hq⟩ := h1
        obtain ⟨a', vs, e1, o⟩ := R1.own i xs (look_get hx1 (by intro z; cases z))
        rw [e0] at e1; cases e1
        obtain ⟨v, e2, rv⟩ := o.rep.atI hz
        exact .inl ⟨_, _, _, v, rfl, rfl, .inl (.inl o.at_), e2, k v H1 F1 (.val z) ρ1 s1 R1 rv hq⟩
      · exact h1.elim
    · exact h1.elim
  · exact (ve_ix (X := X) (pos := pos) (ve_name hN hv hd hcd) hb hs).run pins s σ H Q I ⟨hO, Fr, F, ρ, Qv, R, h, k⟩
theorem ve_lenN {i : Nat} {x : Str} {p p2 : Pos} (hN : X.N[i]? = some x) (hv : Vis X.env.scope x) (hg : Gl X "len") (hm : X.mg "len" = none) (hd : (x == ("__debug__" : Str)) = false := by decide) (hcd : (x == ("__classdict__" : Str)) = false := by decide) :
    VE X (.Call (.Name "len" p) [.Name x p2] [] pos) (wLenN i) := by
  constructor
  intro pins s σ H Q I h
  obtain ⟨hO, Fr, F, ρ, Qv, R, h, k⟩ := h
  unfold wLenN at h
  split at h
  · rename_i xs hx
    refine (pe_callB call_lenA hg hm boot_len (pa_cons (pe_var hN hv hd hcd) pa_nil)).run pins s σ H Q I ?_
    obtain ⟨a, vs, e, o⟩ := R.own i xs (look_get hx (by intro z; cases z))
    exact ⟨_, e, .inl ⟨_, _, rfl, .inl (.inl (.inl o.at_)), by rw [o.rep.length]; exact k _ H F (.val (.int _)) ρ (Same.refl F) R (Rep.int _) h⟩⟩
  · exact (ve_callB call_lenA ser_len hg hm boot_len (va_cons (ve_name hN hv hd hcd) va_nil)).run pins s σ H Q I ⟨hO, Fr, F, ρ, Qv, R, h, k⟩
end
end VE
end
section
set_option Elab.async false
set_option linter.all false
set_option maxRecDepth 100000
namespace VX
open PySem PySem.Spec PyProof.Rows L2 VE

/-! ### what a piece of a program does, over plain values: a tree of draws -/
structure Ex where
  cls : Str
  args : List PV
inductive M (α : Type) : Type where
  | ret (a : α) : M α
  | exc (x : Ex) : M α
  | fail : M α
  | draw (m : Int) (k : Int → M α) : M α
/-- what follows: kept where simp does not look -/
class Kn (α β : Type) where
  k : α → M β
class Kr (α β : Type) where
  k : α → Rho → M β
class Br (α : Type) where
  x : M α
  y : M α
namespace M
def bind {α β : Type} (m : M α) [f : Kn α β] : M β := match m with
  | .ret a => f.k a
  | .exc x => .exc x
  | .fail => .fail
  | .draw m k => .draw m fun r => bind (k r)
def All {α : Type} (Q : α → Prop) (E : Ex → Prop) : M α → Prop
  | .ret a => Q a
  | .exc x => E x
  | .fail => False
  | .draw m k => 0 < m ∧ m < 1073741824 ∧ ∀ r : Int, 0 ≤ r → r < m → All Q E (k r)
def ite {α : Type} (b : Bool) [br : Br α] : M α := match b with
  | true => br.x
  | false => br.y
end M
open M (ret exc fail draw)
def nE : Ex → Prop := fun _ => False
abbrev Ok {α : Type} (m : M α) (Q : α → Prop) : Prop := m.All Q nE
def bnd {α β : Type} (m : M (α × Rho)) [f : Kr α β] : M β := m.bind (f := ⟨fun p => f.k p.1 p.2⟩)
section
variable {α β γ : Type} {m m' : M α} {Q Q' : α → Prop} {E E' : Ex → Prop}
theorem bind_ret {a : α} {f : α → M β} : (ret a : M α).bind (f := ⟨f⟩) = f a := rfl
theorem bind_fail {f : Kn α β} : (fail : M α).bind (f := f) = fail := rfl
theorem bnd_ret {a : α} {ρ : Rho} {f : α → Rho → M β} : bnd (ret (a, ρ)) (f := ⟨f⟩) = f a ρ := rfl
theorem bnd_fail {f : Kr α β} : bnd (fail : M (α × Rho)) (f := f) = fail := rfl
theorem mite_t {x y : M α} : M.ite true (br := ⟨x, y⟩) = x := rfl
theorem mite_f {x y : M α} : M.ite false (br := ⟨x, y⟩) = y := rfl
theorem mite_p {b : Bool} {x y : M α} (h : b = true) : M.ite b (br := ⟨x, y⟩) = x := by rw [h]; rfl
theorem mite_n {b : Bool} {x y : M α} (h : b = false) : M.ite b (br := ⟨x, y⟩) = y := by rw [h]; rfl
theorem bind_bind {f : α → M β} {g : β → M γ} : (m.bind (f := ⟨f⟩)).bind (f := ⟨g⟩) = m.bind (f := ⟨fun a => (f a).bind (f := ⟨g⟩)⟩) := by
  induction m with
  | ret a => rfl
  | exc x => rfl
  | fail => rfl
  | draw n k ih => simp only [M.bind, ih]
theorem bind_bnd {m : M (α × Rho)} {f : α → Rho → M β} {g : β → M γ} : (bnd m (f := ⟨f⟩)).bind (f := ⟨g⟩) = bnd m (f := ⟨fun a ρ => (f a ρ).bind (f := ⟨g⟩)⟩) := bind_bind
theorem bnd_bind {m : M α} {f : α → M (β × Rho)} {g : β → Rho → M γ} : bnd (m.bind (f := ⟨f⟩)) (f := ⟨g⟩) = m.bind (f := ⟨fun a => bnd (f a) (f := ⟨g⟩)⟩) := bind_bind
theorem bnd_bnd {m : M (α × Rho)} {f : α → Rho → M (β × Rho)} {g : β → Rho → M γ} : bnd (bnd m (f := ⟨f⟩)) (f := ⟨g⟩) = bnd m (f := ⟨fun a ρ => bnd (f a ρ) (f := ⟨g⟩)⟩) := bind_bind
theorem bind_ite {b : Bool} {x y : M α} {f : α → M β} : (M.ite b (br := ⟨x, y⟩)).bind (f := ⟨f⟩) = M.ite b (br := ⟨x.bind (f := ⟨f⟩), y.bind (f := ⟨f⟩)⟩) := by cases b <;> rfl
theorem bnd_ite {b : Bool} {x y : M (α × Rho)} {g : α → Rho → M β} : bnd (M.ite b (br := ⟨x, y⟩)) (f := ⟨g⟩) = M.ite b (br := ⟨bnd x (f := ⟨g⟩), bnd y (f := ⟨g⟩)⟩) := by cases b <;> rfl
theorem all_bind {f : α → M β} {Q : β → Prop} : (m.bind (f := ⟨f⟩)).All Q E = m.All (fun a => (f a).All Q E) E := by
  induction m with
  | ret a => rfl
  | exc x => rfl
  | fail => rfl
  | draw n k ih => simp only [M.bind, M.All, ih]
theorem all_bnd {m : M (α × Rho)} {f : α → Rho → M β} {Q : β → Prop} : (bnd m (f := ⟨f⟩)).All Q E = m.All (fun p => (f p.1 p.2).All Q E) E := all_bind
theorem all_ite {b : Bool} {x y : M α} : (M.ite b (br := ⟨x, y⟩)).All Q E = if b = true then x.All Q E else y.All Q E := by cases b <;> simp [M.ite]
theorem all_ret {a : α} : (ret a : M α).All Q E = Q a := rfl
theorem all_fail : (fail : M α).All Q E = False := rfl
theorem M.All.mono (h : m.All Q E) (k : ∀ a, Q a → Q' a) (ke : ∀ x, E x → E' x) : m.All Q' E' := by
  induction m with
  | ret a => exact k a h
  | exc x => exact ke x h
  | fail => exact h
  | draw n f ih => exact ⟨h.1, h.2.1, fun r r0 r1 => ih r (h.2.2 r r0 r1)⟩
theorem M.All.imp (h : m.All Q E) (k : ∀ a, Q a → Q' a) : m.All Q' E := h.mono k fun _ z => z
end

/-! ### expressions -/
abbrev ME := Rho → M (Sl × Rho)
abbrev MT := Rho → M (Bool × Rho)
abbrev MA := Rho → M (List PV × Rho)
abbrev MB := Rho → M (List Sl × Rho)
abbrev MO := Rho → M (Option Int × Rho)
abbrev MI := Rho → M (List PV × Rho)
abbrev MG := PV → Rho → M Rho
abbrev MGs := List PV → Rho → M Rho
inductive Out where
  | nx | rt (r : Sl) | bk | ct
abbrev MS := Rho → M (Out × Rho)
def wE (m : ME) : WE := fun ρ Q => (m ρ).All (fun p => Q p.1 p.2) nE
def wT (m : MT) : WT := fun ρ Q => (m ρ).All (fun p => Q p.1 p.2) nE
def wA (m : MA) : WA := fun ρ Q => (m ρ).All (fun p => Q p.1 p.2) nE
def wB (m : MB) : WB := fun ρ Q => (m ρ).All (fun p => Q p.1 p.2) nE
def wO (m : MO) : WO := fun ρ Q => (m ρ).All (fun p => Q p.1 p.2) nE
def wI (m : MI) : WI := fun ρ Q => (m ρ).All (fun p => Q p.1 p.2) nE
def wG (m : MG) : WG := fun p ρ Q => (m p ρ).All Q nE
def wGs (m : MGs) : WGs := fun p ρ Q => (m p ρ).All Q nE
def endO (D : EndsV) : Out × Rho → Prop
  | (.nx, ρ) => D.nx ρ
  | (.rt r, _) => D.rt r
  | (.bk, ρ) => D.bk ρ
  | (.ct, ρ) => D.ct ρ
def wS (m : MS) : WS := fun D ρ => (m ρ).All (endO D) nE
section
variable {X : Cx}
theorem ve_le {e : Expr} {w w' : WE} (h : VE X e w) (k : ∀ ρ Q, w' ρ Q → w ρ Q) : VE X e w' := PE.imp h fun σ H Q ⟨hO, Fr, F, ρ, Qv, R, q, kk⟩ => ⟨hO, Fr, F, ρ, Qv, R, k ρ Qv q, kk⟩
theorem vt_le {e : Expr} {w w' : WT} (h : VT X e w) (k : ∀ ρ Q, w' ρ Q → w ρ Q) : VT X e w' := PT.imp h fun σ H Q ⟨hO, Fr, F, ρ, Qv, R, q, kk⟩ => ⟨hO, Fr, F, ρ, Qv, R, k ρ Qv q, kk⟩
theorem vw_le {e : Expr} {w w' : WT} (h : VW X e w) (k : ∀ ρ Q, w' ρ Q → w ρ Q) : VW X e w' := PW.imp h fun σ H Q ⟨hO, Fr, F, ρ, Qv, R, q, kk⟩ => ⟨hO, Fr, F, ρ, Qv, R, k ρ Qv q, kk⟩
theorem va_le {e : List Expr} {w w' : WA} (h : VA X e w) (k : ∀ ρ Q, w' ρ Q → w ρ Q) : VA X e w' := PA.imp h fun σ H Q ⟨hO, Fr, F, ρ, Qv, R, q, kk⟩ => ⟨hO, Fr, F, ρ, Qv, R, k ρ Qv q, kk⟩
theorem vb_le {e : List Expr} {w w' : WB} (h : VB X e w) (k : ∀ ρ Q, w' ρ Q → w ρ Q) : VB X e w' := PA.imp h fun σ H Q ⟨hO, Fr, F, ρ, Qv, R, q, kk⟩ => ⟨hO, Fr, F, ρ, Qv, R, k ρ Qv q, kk⟩
theorem vi_le {tg e : Expr} {w w' : WI} (h : VI X tg e w) (k : ∀ ρ Q, w' ρ Q → w ρ Q) : VI X tg e w' := PI.imp h fun σ H Q ⟨hO, Fr, F, ρ, Qv, R, q, kk⟩ => ⟨hO, Fr, F, ρ, Qv, R, k ρ Qv q, kk⟩
theorem vg_le {e : Expr} {vs : List Nat} {w w' : WG} (h : VG X e vs w) (k : ∀ p ρ Q, w' p ρ Q → w p ρ Q) : VG X e vs w' := PG.imp h fun v σ H Q ⟨hO, Fr, F, ρ, p, Qv, R, r, q, kk⟩ => ⟨hO, Fr, F, ρ, p, Qv, R, r, k p ρ Qv q, kk⟩
theorem vgs_le {e : List Expr} {vs : List Nat} {w w' : WGs} (h : VGs X e vs w) (k : ∀ p ρ Q, w' p ρ Q → w p ρ Q) : VGs X e vs w' := PGs.imp h fun v σ H Q ⟨hO, Fr, F, ρ, p, Qv, R, r, q, kk⟩ => ⟨hO, Fr, F, ρ, p, Qv, R, r, k p ρ Qv q, kk⟩
theorem vo_le {e : Option Expr} {w w' : WO} (h : VO X e w) (k : ∀ ρ Q, w' ρ Q → w ρ Q) : VO X e w' := ⟨fun pins s σ H Q I ⟨hO, Fr, F, ρ, Qv, R, q, kk⟩ => h.run pins s σ H Q I ⟨hO, Fr, F, ρ, Qv, R, k ρ Qv q, kk⟩⟩
theorem vs_le {s : Stmt} {w w' : WS} (h : VS X s w) (k : ∀ D ρ, w' D ρ → w D ρ) : VS X s w' := PS.imp h fun D σ H ⟨hO, Fr, F, ρ, DV, R, q, kk⟩ => ⟨hO, Fr, F, ρ, DV, R, k DV ρ q, kk⟩
theorem vss_le {s : List Stmt} {w w' : WS} (h : VSs X s w) (k : ∀ D ρ, w' D ρ → w D ρ) : VSs X s w' := PSs.imp h fun D σ H ⟨hO, Fr, F, ρ, DV, R, q, kk⟩ => ⟨hO, Fr, F, ρ, DV, R, k DV ρ q, kk⟩
end
abbrev XE (X : Cx) (e : Expr) (m : ME) : Prop := VE X e (wE m)
abbrev XT (X : Cx) (e : Expr) (m : MT) : Prop := VT X e (wT m)
abbrev XW (X : Cx) (e : Expr) (m : MT) : Prop := VW X e (wT m)
abbrev XA (X : Cx) (e : List Expr) (m : MA) : Prop := VA X e (wA m)
abbrev XB (X : Cx) (e : List Expr) (m : MB) : Prop := VB X e (wB m)
abbrev XI (X : Cx) (tg e : Expr) (m : MI) : Prop := VI X tg e (wI m)
abbrev XG (X : Cx) (e : Expr) (vs : List Nat) (m : MG) : Prop := VG X e vs (wG m)
abbrev XGs (X : Cx) (e : List Expr) (vs : List Nat) (m : MGs) : Prop := VGs X e vs (wGs m)
abbrev XO (X : Cx) (e : Option Expr) (m : MO) : Prop := VO X e (wO m)
abbrev XS (X : Cx) (s : Stmt) (m : MS) : Prop := VS X s (wS m)
abbrev XSs (X : Cx) (s : List Stmt) (m : MS) : Prop := VSs X s (wS m)

/-! names, constants -/
def rd (r : Sl) (i : Nat) (ρ : Rho) : M (Sl × Rho) := match r with
  | .no => fail
  | .val p => ret (.val p, ρ)
  | .own xs => ret (.val (.lst xs), ρ.set i (.val (.lst xs)))
def mV (i : Nat) (ρ : Rho) : M (Sl × Rho) := rd (look ρ i) i ρ
def mC (p : PV) (ρ : Rho) : M (Sl × Rho) := ret (.val p, ρ)
section
variable {X : Cx} {pos : Pos}
theorem xe_v {e : Expr} {i : Nat} (h : VE X e (wVar i)) : XE X e (mV i) := ve_le h fun ρ Q q => by
  unfold wVar
  unfold wE mV at q
  cases z : look ρ i with
  | no => rw [z] at q; exact q
  | val p => rw [z] at q; exact q
  | own xs => rw [z] at q; exact q
theorem xe_c {e : Expr} {p : PV} (h : VE X e (wC p)) : XE X e (mC p) := ve_le h fun ρ Q q => q
end
/-! operators -/
abbrev OpM := PV → PV → M Sl
abbrev UnM := PV → M Sl
def mB (op : OpM) (a b : ME) (ρ : Rho) : M (Sl × Rho) := bnd (a ρ) (f := ⟨fun r1 ρ1 => bnd (b ρ1) (f := ⟨fun r2 ρ2 => (op r1.pv r2.pv).bind (f := ⟨fun r => ret (r, ρ2)⟩)⟩)⟩)
def mU (op : UnM) (a : ME) (ρ : Rho) : M (Sl × Rho) := bnd (a ρ) (f := ⟨fun r1 ρ1 => (op r1.pv).bind (f := ⟨fun r => ret (r, ρ1)⟩)⟩)
/-- a rule of values, as a tree -/
def OpOk (p : OpM) (op : OpV) : Prop := ∀ a b Q, (p a b).All Q nE → op a b Q
def UnOk (p : UnM) (op : UnV) : Prop := ∀ a Q, (p a).All Q nE → op a Q
section
variable {X : Cx} {pos : Pos} {a b : Expr} {ma mb : ME}
theorem bin_ok {p : OpM} {op : OpV} (h : OpOk p op) : ∀ ρ Q, wE (mB p ma mb) ρ Q → wBin op (wE ma) (wE mb) ρ Q := fun ρ Q q => by
  unfold wE mB at q
  rw [all_bnd] at q
  refine M.All.imp q fun p1 q1 => ?_
  rw [all_bnd] at q1
  refine M.All.imp q1 fun p2 q2 => ?_
  rw [all_bind] at q2
  exact h _ _ _ q2
theorem un_ok {p : UnM} {op : UnV} (h : UnOk p op) : ∀ ρ Q, wE (mU p ma) ρ Q → wUn op (wE ma) ρ Q := fun ρ Q q => by
  unfold wE mU at q
  rw [all_bnd] at q
  refine M.All.imp q fun p1 q1 => ?_
  rw [all_bind] at q1
  exact h _ _ q1
theorem xe_bin {e : Expr} {p : OpM} {op : OpV} (h : VE X e (wBin op (wE ma) (wE mb))) (k : OpOk p op) : XE X e (mB p ma mb) := ve_le h (bin_ok k)
theorem xe_un {e : Expr} {p : UnM} {op : UnV} (h : VE X e (wUn op (wE ma))) (k : UnOk p op) : XE X e (mU p ma) := ve_le h (un_ok k)
end
/-! ints -/
def pI (C : Int → Int → Bool) (g : Int → Int → PV) : OpM := fun p q => match p, q with
  | .int i, .int j => M.ite (C i j) (br := ⟨(ret (.val (g i j))), fail⟩)
  | _, _ => fail
def pI0 (g : Int → Int → PV) : OpM := fun p q => match p, q with
  | .int i, .int j => ret (.val (g i j))
  | _, _ => fail
theorem pI_ok {C : Int → Int → Bool} {C' : Int → Int → Prop} {g : Int → Int → PV} (h : ∀ i j, C i j = true → C' i j) : OpOk (pI C g) (opInt C' g) := fun a b Q q => by
  unfold pI at q
  unfold opInt
  split at q
  · rename_i i j
    rw [all_ite] at q
    split at q
    · rename_i hc
      exact ⟨h i j hc, q⟩
    · exact q.elim
  · exact q.elim
theorem pI0_ok {g : Int → Int → PV} : OpOk (pI0 g) (opInt (fun _ _ => True) g) := fun a b Q q => by
  unfold pI0 at q
  unfold opInt
  split at q
  · exact ⟨trivial, q⟩
  · exact q.elim
def cmulB (i j : Int) : Bool := (decide (-(2 ^ 64) < i) && decide (i < 2 ^ 64)) || (decide (-(2 ^ 64) < j) && decide (j < 2 ^ 64))
def divB (i j : Int) : Bool := decide (j ≠ 0) && decide (j.natAbs < 1073741824) || (decide (0 < j) && decide (j.natAbs.log2 < 9000))
def powB (i j : Int) : Bool := decide (0 ≤ j) && decide (j ≤ 1000000) && decide (i.natAbs < 2 ^ 64)
def pAdd : OpM := fun p q => match p, q with
  | .int i, .int j => ret (.val (.int (i + j)))
  | .lst xs, .lst ys => M.ite (decide (xs.length + ys.length ≤ sizeLine)) (br := ⟨(ret (.own (xs ++ ys))), fail⟩)
  | .tup xs, .tup ys => M.ite (decide (xs.length + ys.length ≤ sizeLine)) (br := ⟨(ret (.val (.tup (xs ++ ys)))), fail⟩)
  | .str x, .str y => M.ite (decide (x.length + y.length ≤ sizeLine)) (br := ⟨(ret (.val (.str (x ++ y)))), fail⟩)
  | _, _ => fail
def pSub : OpM := pI0 fun i j => .int (i - j)
def pMul : OpM := fun p q => match p, q with
  | .int i, .int j => M.ite (cmulB i j) (br := ⟨(ret (.val (.int (i * j)))), fail⟩)
  | .lst xs, .int j => M.ite (decide (j < 2 ^ 62) && decide (-(2 ^ 62) < j) && decide (xs.length * j.toNat ≤ sizeLine)) (br := ⟨(ret (.own (List.replicate j.toNat xs).flatten)), fail⟩)
  | _, _ => fail
def pFdiv : OpM := pI divB fun i j => .int (i.fdiv j)
def pMod : OpM := pI (fun _ j => decide (j ≠ 0)) fun i j => .int (i.fmod j)
def pPow : OpM := pI powB fun i j => .int (i ^ j.toNat)
def pLt : OpM := pI0 fun i j => .bl (decide (i < j))
def pLe : OpM := pI0 fun i j => .bl (decide (i ≤ j))
def pGt : OpM := pI0 fun i j => .bl (decide (j < i))
def pGe : OpM := pI0 fun i j => .bl (decide (j ≤ i))
def pNeg : UnM := fun p => match p with
  | .int i => ret (.val (.int (-i)))
  | _ => fail
theorem guard_ok {c : Bool} {P : Prop} {Q : Sl → Prop} {r : Sl} (h : c = true → P) (q : (M.ite c (br := ⟨(ret r), fail⟩)).All Q nE) : P ∧ Q r := by
  rw [all_ite] at q
  split at q
  · rename_i hc; exact ⟨h hc, q⟩
  · exact q.elim
theorem pAdd_ok : OpOk pAdd opAdd := fun a b Q q => by
  unfold pAdd at q
  unfold opAdd
  split at q
  · exact q
  · exact guard_ok (fun h => of_decide_eq_true h) q
  · exact guard_ok (fun h => of_decide_eq_true h) q
  · exact guard_ok (fun h => of_decide_eq_true h) q
  · exact q.elim
theorem cmulB_ok {i j : Int} (h : cmulB i j = true) : CMul i j := by
  unfold cmulB at h
  simp only [Bool.or_eq_true, Bool.and_eq_true, decide_eq_true_eq] at h
  exact h
theorem divB_ok {i j : Int} (h : divB i j = true) : DivOk i j := by
  unfold divB at h
  simp only [Bool.or_eq_true, Bool.and_eq_true, decide_eq_true_eq] at h
  exact h
theorem pMul_ok : OpOk pMul opMul := fun a b Q q => by
  unfold pMul at q
  unfold opMul
  split at q
  · exact guard_ok cmulB_ok q
  · rename_i xs j
    have := guard_ok (P := (j < 2 ^ 62 ∧ -(2 ^ 62) < j) ∧ xs.length * j.toNat ≤ sizeLine) (fun h => by simpa only [Bool.and_eq_true, decide_eq_true_eq] using h) q
    exact ⟨this.1.1.1, this.1.1.2, this.1.2, this.2⟩
  · exact q.elim
theorem pFdiv_ok : OpOk pFdiv opFdiv := pI_ok fun _ _ => divB_ok
theorem pMod_ok : OpOk pMod opMod := pI_ok fun _ _ h => of_decide_eq_true h
theorem pPow_ok : OpOk pPow opPow := pI_ok fun i j h => by
  unfold powB at h
  simp only [Bool.and_eq_true, decide_eq_true_eq] at h
  exact ⟨h.1.1, h.1.2, h.2⟩
theorem pNeg_ok : UnOk pNeg opNeg := fun a Q q => by
  unfold pNeg at q
  unfold opNeg
  split at q
  · exact q
  · exact q.elim
/-! data -/
def shB (d : PyData) : Bool := SeqAt.shaped d
def eqP (p q : PV) : Option Bool := match p, q with
  | .str x, .str y => some (decide (x = y))
  | _, _ => match toD p, toD q with
    | some d, some e => if shB d && shB e then some (PyData.eqv d e) else none
    | _, _ => none
def ofO (o : Option Bool) : M Sl := match o with
  | some b => ret (.val (.bl b))
  | none => fail
def pEq : OpM := fun p q => ofO (eqP p q)
def pNe : OpM := fun p q => ofO ((eqP p q).map not)
theorem eqP_ok {p q : PV} {b : Bool} (h : eqP p q = some b) : (∃ d e, toD p = some d ∧ toD q = some e ∧ shp d ∧ shp e ∧ b = PyData.eqv d e) ∨ ∃ x y, p = .str x ∧ q = .str y ∧ b = decide (x = y) := by
  unfold eqP at h
  split at h
  · cases h; exact .inr ⟨_, _, rfl, rfl, rfl⟩
  · split at h
    · rename_i d e e1 e2
      split at h
      · rename_i hs
        rw [Bool.and_eq_true] at hs
        cases h
        exact .inl ⟨d, e, e1, e2, hs.1, hs.2, rfl⟩
      · cases h
    · cases h
theorem pEq_ok : OpOk pEq opEq := fun p q Q h => by
  unfold pEq at h
  cases z : eqP p q with
  | none => rw [z] at h; exact h.elim
  | some b =>
    rw [z] at h
    have h : Q (.val (.bl b)) := h
    rcases eqP_ok z with ⟨d, e, e1, e2, s1, s2, rfl⟩ | ⟨x, y, e1, e2, rfl⟩
    · exact .inl ⟨d, e, e1, e2, s1, s2, h⟩
    · exact .inr ⟨x, y, e1, e2, h⟩
theorem pNe_ok : OpOk pNe opNe := fun p q Q h => by
  unfold pNe at h
  cases z : eqP p q with
  | none => rw [z] at h; exact h.elim
  | some b =>
    rw [z] at h
    have h : Q (.val (.bl (!b))) := h
    rcases eqP_ok z with ⟨d, e, e1, e2, s1, s2, rfl⟩ | ⟨x, y, e1, e2, rfl⟩
    · exact .inl ⟨d, e, e1, e2, s1, s2, h⟩
    · exact .inr ⟨x, y, e1, e2, h⟩
def isN : PV → Bool
  | .non => true
  | _ => false
def pIs : OpM := fun p q => match q with
  | .non => ret (.val (.bl (isN p)))
  | _ => fail
def pIsNot : OpM := fun p q => match q with
  | .non => ret (.val (.bl (!isN p)))
  | _ => fail
theorem pIs_ok : OpOk pIs opIs := fun p q Q h => by
  unfold pIs at h
  split at h
  · refine ⟨rfl, ?_⟩
    cases p <;> exact h
  · exact h.elim
theorem pIsNot_ok : OpOk pIsNot opIsNot := fun p q Q h => by
  unfold pIsNot at h
  split at h
  · refine ⟨rfl, ?_⟩
    cases p <;> exact h
  · exact h.elim
def inP (p q : PV) : Option Bool := match q with
  | .lst xs => match toD p, toDs xs with
    | some d, some ds => if shB d && shB (.list ds) then some (ds.any fun z => PyData.eqv z d) else none
    | _, _ => none
  | _ => none
def pIn : OpM := fun p q => ofO (inP p q)
def pNotIn : OpM := fun p q => ofO ((inP p q).map not)
theorem inP_ok {p q : PV} {b : Bool} (h : inP p q = some b) : ∃ d ds xs, toD p = some d ∧ q = .lst xs ∧ toDs xs = some ds ∧ shp d ∧ shp (.list ds) ∧ b = ds.any fun z => PyData.eqv z d := by
  unfold inP at h
  split at h
  · split at h
    · rename_i d ds e1 e2
      split at h
      · rename_i hs
        rw [Bool.and_eq_true] at hs
        cases h
        exact ⟨d, ds, _, e1, rfl, e2, hs.1, hs.2, rfl⟩
      · cases h
    · cases h
  · cases h
theorem pIn_ok : OpOk pIn opIn := fun p q Q h => by
  unfold pIn at h
  cases z : inP p q with
  | none => rw [z] at h; exact h.elim
  | some b =>
    rw [z] at h
    obtain ⟨d, ds, xs, e1, e2, e3, s1, s2, rfl⟩ := inP_ok z
    exact ⟨d, ds, xs, e1, e2, e3, s1, s2, h⟩
theorem pNotIn_ok : OpOk pNotIn opNotIn := fun p q Q h => by
  unfold pNotIn at h
  cases z : inP p q with
  | none => rw [z] at h; exact h.elim
  | some b =>
    rw [z] at h
    obtain ⟨d, ds, xs, e1, e2, e3, s1, s2, rfl⟩ := inP_ok z
    exact ⟨d, ds, xs, e1, e2, e3, s1, s2, h⟩
/-! index -/
def getO (o : Option PV) : M Sl := match o with
  | some x => ret (.val x)
  | none => fail
def pIx : OpM := fun p q => match p, q with
  | .tup xs, .int i => getO (L2.atI xs i)
  | .lst xs, .int i => getO (L2.atI xs i)
  | _, _ => fail
theorem getO_ok {o : Option PV} {Q : Sl → Prop} (h : (getO o).All Q nE) : ∃ x, o = some x ∧ Q (.val x) := by
  cases o with
  | none => exact h.elim
  | some x => exact ⟨x, rfl, h⟩
theorem pIx_ok : OpOk pIx opIx := fun p q Q h => by
  unfold pIx at h
  unfold opIx
  split at h
  · exact getO_ok h
  · exact getO_ok h
  · exact h.elim
def pBack : UnM := fun p => match p with
  | .tup xs => ret (.val (.tup xs.reverse))
  | .lst xs => ret (.own xs.reverse)
  | _ => fail
theorem pBack_ok : UnOk pBack opBack := fun a Q q => by
  unfold pBack at q
  unfold opBack
  split at q
  · exact q
  · exact q
  · exact q.elim
end VX
end
section
set_option Elab.async false
set_option linter.all false
set_option maxRecDepth 100000
namespace VX
open M (ret exc fail draw)
open PySem PySem.Spec PyProof.Rows L2 VE

/-! ### tests -/
def asB (r : Sl) : M Bool := match r with
  | .val (.bl k) => ret k
  | _ => fail
def mTst (a : ME) (ρ : Rho) : M (Bool × Rho) := bnd (a ρ) (f := ⟨fun r ρ1 => (asB r).bind (f := ⟨fun k => ret (k, ρ1)⟩)⟩)
def mAndT (t u : MT) (ρ : Rho) : M (Bool × Rho) := bnd (t ρ) (f := ⟨fun k ρ1 => M.ite k (br := ⟨(u ρ1), (ret (false, ρ1))⟩)⟩)
def mOrT (t u : MT) (ρ : Rho) : M (Bool × Rho) := bnd (t ρ) (f := ⟨fun k ρ1 => M.ite k (br := ⟨(ret (true, ρ1)), (u ρ1)⟩)⟩)
def mNotT (t : MT) (ρ : Rho) : M (Bool × Rho) := bnd (t ρ) (f := ⟨fun k ρ1 => ret (!k, ρ1)⟩)
def mAndV (a b : ME) (ρ : Rho) : M (Sl × Rho) := bnd (a ρ) (f := ⟨fun r ρ1 => (asB r).bind (f := ⟨fun k => M.ite k (br := ⟨(b ρ1), (ret (.val (.bl false), ρ1))⟩)⟩)⟩)
def mOrV (a b : ME) (ρ : Rho) : M (Sl × Rho) := bnd (a ρ) (f := ⟨fun r ρ1 => (asB r).bind (f := ⟨fun k => M.ite k (br := ⟨(ret (.val (.bl true), ρ1)), (b ρ1)⟩)⟩)⟩)
def mNotV (a : ME) (ρ : Rho) : M (Sl × Rho) := bnd (a ρ) (f := ⟨fun r ρ1 => (asB r).bind (f := ⟨fun k => ret (.val (.bl (!k)), ρ1)⟩)⟩)
def mIfE (t : MT) (a b : ME) (ρ : Rho) : M (Sl × Rho) := bnd (t ρ) (f := ⟨fun k ρ1 => M.ite k (br := ⟨(a ρ1), (b ρ1)⟩)⟩)
def mChain (f g : OpM) (a b c : ME) (ρ : Rho) : M (Sl × Rho) := bnd (a ρ) (f := ⟨fun r1 ρ1 => bnd (b ρ1) (f := ⟨fun r2 ρ2 => (f r1.pv r2.pv).bind (f := ⟨fun r => (asB r).bind (f := ⟨fun k =>
  M.ite k (br := ⟨(bnd (c ρ2) (f := ⟨fun r3 ρ3 => (g r2.pv r3.pv).bind (f := ⟨fun r => ret (r, ρ3)⟩)⟩)), (ret (.val (.bl false), ρ2))⟩)⟩)⟩)⟩)⟩)
theorem asB_ok {r : Sl} {Q : Bool → Prop} (h : (asB r).All Q nE) : ∃ k, r = .val (.bl k) ∧ Q k := by
  unfold asB at h
  split at h
  · exact ⟨_, rfl, h⟩
  · exact h.elim
section
variable {X : Cx} {pos : Pos} {a b c : Expr} {ma mb mc : ME} {t u : MT} {rest : List Expr}
theorem tst_ok : ∀ ρ Q, wT (mTst ma) ρ Q → wTst (wE ma) ρ Q := fun ρ Q q => by
  unfold wT mTst at q
  rw [all_bnd] at q
  refine M.All.imp q fun p1 q1 => ?_
  rw [all_bind] at q1
  obtain ⟨k, e, q2⟩ := asB_ok q1
  show match p1.1 with
    | .val (.bl k) => Q k p1.2
    | _ => False
  rw [e]; exact q2
theorem xt_of {e : Expr} (h : VT X e (wTst (wE ma))) : XT X e (mTst ma) := vt_le h tst_ok
theorem xt_cmp {e : Expr} {p : OpM} {op : OpV} (h : VT X e (wTst (wBin op (wE ma) (wE mb)))) (k : OpOk p op) : XT X e (mTst (mB p ma mb)) := vt_le h fun ρ Q q => by
  have q' := tst_ok ρ Q q
  exact bin_ok k ρ _ q'
theorem chain_ok {p p' : OpM} {f g : OpV} (hf : OpOk p f) (hg : OpOk p' g) : ∀ ρ Q, wE (mChain p p' ma mb mc) ρ Q → wChain f g (wE ma) (wE mb) (wE mc) ρ Q := fun ρ Q q => by
  unfold wE mChain at q
  rw [all_bnd] at q
  refine M.All.imp q fun p1 q1 => ?_
  rw [all_bnd] at q1
  refine M.All.imp q1 fun p2 q2 => ?_
  rw [all_bind] at q2
  refine hf _ _ _ (M.All.imp q2 fun r q3 => ?_)
  rw [all_bind] at q3
  obtain ⟨k, e, q4⟩ := asB_ok q3
  subst e
  show if k = true then _ else _
  rw [all_ite] at q4
  split at q4
  · rename_i hk
    rw [if_pos hk]
    rw [all_bnd] at q4
    refine M.All.imp q4 fun p3 q5 => ?_
    rw [all_bind] at q5
    exact hg _ _ _ q5
  · rename_i hk
    rw [if_neg hk]
    exact q4
theorem xe_chain {e : Expr} {p p' : OpM} {f g : OpV} (h : VE X e (wChain f g (wE ma) (wE mb) (wE mc))) (hf : OpOk p f) (hg : OpOk p' g) : XE X e (mChain p p' ma mb mc) := ve_le h (chain_ok hf hg)
theorem xt_chain {e : Expr} {p p' : OpM} {f g : OpV} (h : VT X e (wTst (wChain f g (wE ma) (wE mb) (wE mc)))) (hf : OpOk p f) (hg : OpOk p' g) : XT X e (mTst (mChain p p' ma mb mc)) := vt_le h fun ρ Q q => by
  have q' := tst_ok ρ Q q
  exact chain_ok hf hg ρ _ q'
theorem andT_ok : ∀ ρ Q, wT (mAndT t u) ρ Q → wAndT (wT t) (wT u) ρ Q := fun ρ Q q => by
  unfold wT mAndT at q
  rw [all_bnd] at q
  refine M.All.imp q fun p1 q1 => ?_
  rw [all_ite] at q1
  exact q1
theorem orT_ok : ∀ ρ Q, wT (mOrT t u) ρ Q → wOrT (wT t) (wT u) ρ Q := fun ρ Q q => by
  unfold wT mOrT at q
  rw [all_bnd] at q
  refine M.All.imp q fun p1 q1 => ?_
  rw [all_ite] at q1
  exact q1
theorem xw_and1 (ha : XT X a t) : XW X (.BoolOp .And [a] pos) t := vw_and1 ha
theorem xw_or1 (ha : XT X a t) : XW X (.BoolOp .Or [a] pos) t := vw_or1 ha
theorem xw_and (ha : XT X a t) (hb : XW X (.BoolOp .And (b :: rest) pos) u) : XW X (.BoolOp .And (a :: b :: rest) pos) (mAndT t u) := vw_le (vw_and ha hb) andT_ok
theorem xw_or (ha : XT X a t) (hb : XW X (.BoolOp .Or (b :: rest) pos) u) : XW X (.BoolOp .Or (a :: b :: rest) pos) (mOrT t u) := vw_le (vw_or ha hb) orT_ok
theorem xt_bool {e : Expr} (h : XW X e t) : XT X e t := vt_bool h
theorem xt_not (ha : XT X a t) : XT X (.UnaryOp .Not a pos) (mNotT t) := vt_le (vt_not ha) fun ρ Q q => by
  unfold wT mNotT at q
  rw [all_bnd] at q
  exact q
theorem xe_one {op} (h : XE X a ma) : XE X (.BoolOp op [a] pos) ma := ve_one h
theorem xe_and (ha : XE X a ma) (hb : XE X (.BoolOp .And (b :: rest) pos) mb) : XE X (.BoolOp .And (a :: b :: rest) pos) (mAndV ma mb) := ve_le (ve_and ha hb) fun ρ Q q => by
  unfold wE mAndV at q
  rw [all_bnd] at q
  refine M.All.imp q fun p1 q1 => ?_
  rw [all_bind] at q1
  obtain ⟨k, e, q2⟩ := asB_ok q1
  show match p1.1 with
    | .val (.bl k) => if k = true then _ else _
    | _ => False
  rw [e]
  rw [all_ite] at q2
  exact q2
theorem xe_or (ha : XE X a ma) (hb : XE X (.BoolOp .Or (b :: rest) pos) mb) : XE X (.BoolOp .Or (a :: b :: rest) pos) (mOrV ma mb) := ve_le (ve_or ha hb) fun ρ Q q => by
  unfold wE mOrV at q
  rw [all_bnd] at q
  refine M.All.imp q fun p1 q1 => ?_
  rw [all_bind] at q1
  obtain ⟨k, e, q2⟩ := asB_ok q1
  show match p1.1 with
    | .val (.bl k) => if k = true then _ else _
    | _ => False
  rw [e]
  rw [all_ite] at q2
  exact q2
theorem xe_not (ha : XE X a ma) : XE X (.UnaryOp .Not a pos) (mNotV ma) := ve_le (ve_not ha) fun ρ Q q => by
  unfold wE mNotV at q
  rw [all_bnd] at q
  refine M.All.imp q fun p1 q1 => ?_
  rw [all_bind] at q1
  obtain ⟨k, e, q2⟩ := asB_ok q1
  show match p1.1 with
    | .val (.bl k) => Q (.val (.bl (!k))) p1.2
    | _ => False
  rw [e]
  exact q2
theorem xe_ifexp (hc : XT X c t) (ha : XE X a ma) (hb : XE X b mb) : XE X (.IfExp c a b pos) (mIfE t ma mb) := ve_le (ve_ifexp hc ha hb) fun ρ Q q => by
  unfold wE mIfE at q
  rw [all_bnd] at q
  refine M.All.imp q fun p1 q1 => ?_
  rw [all_ite] at q1
  exact q1
end
/-! ### argument lists, displays -/
def mNil (ρ : Rho) : M (List PV × Rho) := ret ([], ρ)
def mCons (a : ME) (r : MA) (ρ : Rho) : M (List PV × Rho) := bnd (a ρ) (f := ⟨fun x ρ1 => bnd (r ρ1) (f := ⟨fun ps ρ2 => ret (x.pv :: ps, ρ2)⟩)⟩)
def bNilM (ρ : Rho) : M (List Sl × Rho) := ret ([], ρ)
def bConsM (a : ME) (r : MB) (ρ : Rho) : M (List Sl × Rho) := bnd (a ρ) (f := ⟨fun x ρ1 => bnd (r ρ1) (f := ⟨fun ps ρ2 => ret (x :: ps, ρ2)⟩)⟩)
def szT (xs : List PV) : Bool := decide (xs.length ≤ sizeLine)
def mTup (a : MA) (ρ : Rho) : M (Sl × Rho) := bnd (a ρ) (f := ⟨fun ps ρ1 => M.ite (szT ps) (br := ⟨(ret (.val (.tup ps), ρ1)), fail⟩)⟩)
def mLst (a : MA) (ρ : Rho) : M (Sl × Rho) := bnd (a ρ) (f := ⟨fun ps ρ1 => M.ite (szT ps) (br := ⟨(ret (.own ps, ρ1)), fail⟩)⟩)
section
variable {X : Cx} {pos : Pos} {a b c : Expr} {ma mb mc : ME}
theorem guard_okA {c : Bool} {P : Prop} {α : Type} {Q : α → Prop} {r : α} (h : c = true → P) (q : (M.ite c (br := ⟨(ret r), fail⟩)).All Q nE) : P ∧ Q r := by
  rw [all_ite] at q
  split at q
  · rename_i hc; exact ⟨h hc, q⟩
  · exact q.elim
theorem xa_nil : XA X [] mNil := va_le va_nil fun ρ Q q => q
theorem xa_cons {e : Expr} {es : List Expr} {me : ME} {mr : MA} (ha : XE X e me) (hr : XA X es mr) (hs : starEach (e :: es) X.env = (false, eval e X.env) :: starEach es X.env := by rfl) : XA X (e :: es) (mCons me mr) := va_le (va_cons ha hr hs) fun ρ Q q => by
  unfold wA mCons at q
  rw [all_bnd] at q
  refine M.All.imp q fun p1 q1 => ?_
  rw [all_bnd] at q1
  exact q1
theorem xb_nil : XB X [] bNilM := vb_le vb_nil fun ρ Q q => q
theorem xb_cons {e : Expr} {es : List Expr} {me : ME} {mr : MB} (ha : XE X e me) (hr : XB X es mr) (hs : starEach (e :: es) X.env = (false, eval e X.env) :: starEach es X.env := by rfl) : XB X (e :: es) (bConsM me mr) := vb_le (vb_cons ha hr hs) fun ρ Q q => by
  unfold wB bConsM at q
  rw [all_bnd] at q
  refine M.All.imp q fun p1 q1 => ?_
  rw [all_bnd] at q1
  exact q1
theorem xe_tup {es : List Expr} {m : MA} {x1} (h : XA X es m) : XE X (.Tuple es x1 pos) (mTup m) := ve_le (ve_tup h) fun ρ Q q => by
  unfold wE mTup at q
  rw [all_bnd] at q
  refine M.All.imp q fun p1 q1 => ?_
  exact guard_okA (r := (Sl.val (.tup p1.1), p1.2)) (Q := fun p => Q p.1 p.2) (fun h => of_decide_eq_true h) q1
theorem xe_lst {es : List Expr} {m : MA} (h : XA X es m) : XE X (.List es pos) (mLst m) := ve_le (ve_lst h) fun ρ Q q => by
  unfold wE mLst at q
  rw [all_bnd] at q
  refine M.All.imp q fun p1 q1 => ?_
  exact guard_okA (r := (Sl.own p1.1, p1.2)) (Q := fun p => Q p.1 p.2) (fun h => of_decide_eq_true h) q1
/-! slices -/
def mNoPart (ρ : Rho) : M (Option Int × Rho) := ret (none, ρ)
def asI (p : PV) : M Int := match p with
  | .int i => ret i
  | _ => fail
def mPart (a : ME) (ρ : Rho) : M (Option Int × Rho) := bnd (a ρ) (f := ⟨fun r ρ1 => (asI r.pv).bind (f := ⟨fun i => ret (some i, ρ1)⟩)⟩)
def pSl (p : PV) (lo hi : Option Int) : M Sl := match p with
  | .tup xs => ret (.val (.tup (cutP xs lo hi)))
  | .lst xs => ret (.own (cutP xs lo hi))
  | _ => fail
def mSl (a : ME) (l h : MO) (ρ : Rho) : M (Sl × Rho) := bnd (a ρ) (f := ⟨fun r ρ1 => bnd (l ρ1) (f := ⟨fun lo ρ2 => bnd (h ρ2) (f := ⟨fun hi ρ3 => (pSl r.pv lo hi).bind (f := ⟨fun z => ret (z, ρ3)⟩)⟩)⟩)⟩)
theorem asI_ok {p : PV} {Q : Int → Prop} (h : (asI p).All Q nE) : ∃ i, p = .int i ∧ Q i := by
  unfold asI at h
  split at h
  · exact ⟨_, rfl, h⟩
  · exact h.elim
theorem xo_none : XO X none mNoPart := vo_le vo_none fun ρ Q q => q
theorem xo_some {e : Expr} {m : ME} (h : XE X e m) : XO X (some e) (mPart m) := vo_le (vo_some h) fun ρ Q q => by
  unfold wO mPart at q
  rw [all_bnd] at q
  refine M.All.imp q fun p1 q1 => ?_
  rw [all_bind] at q1
  obtain ⟨i, e, q2⟩ := asI_ok q1
  show match p1.1.pv with
    | .int i => Q (some i) p1.2
    | _ => False
  rw [e]; exact q2
theorem xe_slice {e : Expr} {me : ME} {lo hi : Option Expr} {ml mh : MO} {p2 : Pos} (he : XE X e me) (hl : XO X lo ml) (hu : XO X hi mh) : XE X (.Subscript e (.Slice lo hi none p2) pos) (mSl me ml mh) := ve_le (ve_slice he hl hu) fun ρ Q q => by
  unfold wE mSl at q
  rw [all_bnd] at q
  refine M.All.imp q fun p1 q1 => ?_
  rw [all_bnd] at q1
  refine M.All.imp q1 fun p2 q2 => ?_
  rw [all_bnd] at q2
  refine M.All.imp q2 fun p3 q3 => ?_
  rw [all_bind] at q3
  unfold pSl at q3
  unfold opSl
  generalize p1.1.pv = z at q3
  cases z <;> exact q3
/-! ### calls -/
abbrev FM := List PV → M Sl
/-- what a def is promised to do, by its tree -/
def SM (c : FM) : SpV := fun ps Q => (c ps).All Q nE
def mCall (f : FM) (a : MA) (ρ : Rho) : M (Sl × Rho) := bnd (a ρ) (f := ⟨fun ps ρ1 => (f ps).bind (f := ⟨fun r => ret (r, ρ1)⟩)⟩)
def mCallN (n : Nat) (f : FM) (a : MA) (ρ : Rho) : M (Sl × Rho) := bnd (a ρ) (f := ⟨fun ps ρ1 => M.ite (decide (ps.length = n)) (br := ⟨((f ps).bind (f := ⟨fun r => ret (r, ρ1)⟩)), fail⟩)⟩)
def FnOkM (f : FM) (op : SpV) : Prop := ∀ ps Q, (f ps).All Q nE → op ps Q
theorem call_ok {f : FM} {op : SpV} {m : MA} (h : FnOkM f op) : ∀ ρ Q, wE (mCall f m) ρ Q → wCall op (wA m) ρ Q := fun ρ Q q => by
  unfold wE mCall at q
  rw [all_bnd] at q
  refine M.All.imp q fun p1 q1 => ?_
  rw [all_bind] at q1
  exact h _ _ q1
theorem xe_b {e : Expr} {f : FM} {op : SpV} {m : MA} (h : VE X e (wCall op (wA m))) (k : FnOkM f op) : XE X e (mCall f m) := ve_le h (call_ok k)
theorem xe_f {e : Expr} {n : Nat} {f : FM} {m : MA} (h : VE X e (wCallN n (SM f) (wA m))) : XE X e (mCallN n f m) := ve_le h fun ρ Q q => by
  unfold wE mCallN at q
  rw [all_bnd] at q
  refine M.All.imp q fun p1 q1 => ?_
  rw [all_ite] at q1
  split at q1
  · rename_i hl
    rw [all_bind] at q1
    exact ⟨of_decide_eq_true hl, q1⟩
  · exact q1.elim
theorem xe_f0 {e : Expr} {f : FM} (h : VE X e (wCall (SM f) wNil)) : XE X e (mCall f mNil) := ve_le h fun ρ Q q => by
  unfold wE mCall mNil at q
  rw [bnd_ret, all_bind] at q
  exact q
/-! built-ins -/
def bLen : FM := fun ps => match ps with
  | [.lst xs] => ret (.val (.int xs.length))
  | [.tup xs] => ret (.val (.int xs.length))
  | [.hnd] => ret (.val (.int 5))
  | [.str x] => M.ite (decide (x.length ≤ sizeLine)) (br := ⟨(ret (.val (.int x.length))), fail⟩)
  | _ => fail
theorem bLen_ok : FnOkM bLen opLen := fun ps Q q => by
  unfold bLen at q
  unfold opLen
  split at q
  · exact q
  · exact q
  · exact q
  · exact guard_okA (fun h => of_decide_eq_true h) q
  · exact q.elim
def bAbs : FM := fun ps => match ps with
  | [.int i] => ret (.val (.int (if i < 0 then -i else i)))
  | _ => fail
theorem bAbs_ok : FnOkM bAbs opAbs := fun ps Q q => by
  unfold bAbs at q
  unfold opAbs
  split at q
  · exact q
  · exact q.elim
def bInt : FM := fun ps => match ps with
  | [.int i] => ret (.val (.int i))
  | [.bl b] => ret (.val (.int (if b then 1 else 0)))
  | _ => fail
theorem bInt_ok : FnOkM bInt opIntC := fun ps Q q => by
  unfold bInt at q
  unfold opIntC
  split at q
  · exact q
  · exact q
  · exact q.elim
def bMax2 : FM := fun ps => match ps with
  | [.int i, .int j] => ret (.val (.int (if j > i then j else i)))
  | _ => fail
theorem bMax2_ok : FnOkM bMax2 opMax2 := fun ps Q q => by
  unfold bMax2 at q
  unfold opMax2
  split at q
  · exact q
  · exact q.elim
def bMin2 : FM := fun ps => match ps with
  | [.int i, .int j] => ret (.val (.int (if j < i then j else i)))
  | _ => fail
theorem bMin2_ok : FnOkM bMin2 opMin2 := fun ps Q q => by
  unfold bMin2 at q
  unfold opMin2
  split at q
  · exact q
  · exact q.elim
def toBs : List PV → Option (List Bool)
  | [] => some []
  | .bl b :: ps => (toBs ps).map (b :: ·)
  | _ :: _ => none
theorem toBs_ok : ∀ {ps : List PV} {bs : List Bool}, toBs ps = some bs → ps = bs.map PV.bl
  | [], _, h => by cases h; rfl
  | p :: ps, bs, h => by
    cases p with
    | bl b =>
      simp only [toBs, Option.map_eq_some_iff] at h
      obtain ⟨cs, h1, rfl⟩ := h
      rw [toBs_ok h1]; rfl
    | _ => cases h
theorem toBs_map : ∀ bs : List Bool, toBs (bs.map PV.bl) = some bs
  | [] => rfl
  | b :: bs => by simp only [List.map_cons, toBs, toBs_map bs, Option.map_some]
def toIs : List PV → Option (List Int)
  | [] => some []
  | .int b :: ps => (toIs ps).map (b :: ·)
  | _ :: _ => none
theorem toIs_ok : ∀ {ps : List PV} {bs : List Int}, toIs ps = some bs → ps = bs.map PV.int
  | [], _, h => by cases h; rfl
  | p :: ps, bs, h => by
    cases p with
    | int b =>
      simp only [toIs, Option.map_eq_some_iff] at h
      obtain ⟨cs, h1, rfl⟩ := h
      rw [toIs_ok h1]; rfl
    | _ => cases h
theorem toIs_map : ∀ bs : List Int, toIs (bs.map PV.int) = some bs
  | [] => rfl
  | b :: bs => by simp only [List.map_cons, toIs, toIs_map bs, Option.map_some]
def bAll : FM := fun ps => match ps with
  | [.lst xs] => ofO ((toBs xs).map fun bs => bs.all id)
  | _ => fail
def bAny : FM := fun ps => match ps with
  | [.lst xs] => ofO ((toBs xs).map fun bs => bs.any id)
  | _ => fail
def ofI (o : Option Int) : M Sl := match o with
  | some b => ret (.val (.int b))
  | none => fail
def bSum : FM := fun ps => match ps with
  | [.lst xs] => ofI ((toIs xs).map List.sum)
  | _ => fail
theorem bAll_ok : FnOkM bAll opAll := fun ps Q q => by
  unfold bAll at q
  split at q
  · rename_i xs
    cases z : toBs xs with
    | none => rw [z] at q; exact q.elim
    | some bs => rw [z] at q; exact ⟨bs, by rw [toBs_ok z], q⟩
  · exact q.elim
theorem bAny_ok : FnOkM bAny opAny := fun ps Q q => by
  unfold bAny at q
  split at q
  · rename_i xs
    cases z : toBs xs with
    | none => rw [z] at q; exact q.elim
    | some bs => rw [z] at q; exact ⟨bs, by rw [toBs_ok z], q⟩
  · exact q.elim
theorem bSum_ok : FnOkM bSum opSum := fun ps Q q => by
  unfold bSum at q
  split at q
  · rename_i xs
    cases z : toIs xs with
    | none => rw [z] at q; exact q.elim
    | some bs => rw [z] at q; exact ⟨bs, by rw [toIs_ok z], q⟩
  · exact q.elim
def bList : FM := fun ps => match ps with
  | [.lst xs] => ret (.own xs)
  | [.tup xs] => ret (.own xs)
  | _ => fail
def bTuple : FM := fun ps => match ps with
  | [.lst xs] => ret (.val (.tup xs))
  | [.tup xs] => ret (.val (.tup xs))
  | _ => fail
theorem bList_ok : FnOkM bList opList := fun ps Q q => by
  unfold bList at q
  unfold opList
  split at q
  · exact q
  · exact q
  · exact q.elim
theorem bTuple_ok : FnOkM bTuple opTuple := fun ps Q q => by
  unfold bTuple at q
  unfold opTuple
  split at q
  · exact q
  · exact q
  · exact q.elim
def bIsi : FM := fun ps => match ps with
  | [p, .ty n] => ofO ((kindOf p).bind fun k => kitB k n)
  | _ => fail
theorem bIsi_ok : FnOkM bIsi opIsi := fun ps Q q => by
  unfold bIsi at q
  unfold opIsi
  split at q
  · rename_i p n
    cases z : kindOf p with
    | none => rw [z] at q; exact q.elim
    | some k =>
      rw [z] at q
      cases z2 : kitB k n with
      | none => simp only [Option.bind_some, z2] at q; exact q.elim
      | some b => simp only [Option.bind_some, z2] at q; first | exact ⟨k, b, z, z2, q⟩ | exact ⟨k, b, rfl, z2, q⟩
  · exact q.elim
def bStr : FM := fun ps => match ps with
  | [.int i] => M.ite (decide (i.natAbs.log2 < 1920)) (br := ⟨(ret (.val (.str (toString i)))), fail⟩)
  | _ => fail
theorem bStr_ok : FnOkM bStr opStr := fun ps Q q => by
  unfold bStr at q
  unfold opStr
  split at q
  · exact guard_okA (fun h => of_decide_eq_true h) q
  · exact q.elim
/-! looks at owned lists -/
def ixRd (r : Sl) (k : Int) (ρ : Rho) : M (Sl × Rho) := match r with
  | .own xs => (getO (L2.atI xs k)).bind (f := ⟨fun z => ret (z, ρ)⟩)
  | _ => fail
def ixN0 (q : Sl) (i : Nat) (a : ME) (ρ : Rho) : M (Sl × Rho) := match q with
  | .own _ => bnd (a ρ) (f := ⟨fun r ρ1 => (asI r.pv).bind (f := ⟨fun k => ixRd (look ρ1 i) k ρ1⟩)⟩)
  | _ => mB pIx (mV i) a ρ
def mIxN (i : Nat) (a : ME) (ρ : Rho) : M (Sl × Rho) := ixN0 (look ρ i) i a ρ
def lenN0 (q : Sl) (i : Nat) (ρ : Rho) : M (Sl × Rho) := match q with
  | .own xs => ret (.val (.int xs.length), ρ)
  | _ => mCall bLen (mCons (mV i) mNil) ρ
def mLenN (i : Nat) (ρ : Rho) : M (Sl × Rho) := lenN0 (look ρ i) i ρ
theorem mV_ok {i : Nat} : ∀ ρ Q, wE (mV i) ρ Q → wVar i ρ Q := fun ρ Q q => by
  unfold wVar
  unfold wE mV at q
  cases z : look ρ i with
  | no => rw [z] at q; exact q
  | val p => rw [z] at q; exact q
  | own xs => rw [z] at q; exact q
theorem xe_ixN {e : Expr} {i : Nat} {m : ME} (h : VE X e (wIxN i (wE m))) : XE X e (mIxN i m) := ve_le h fun ρ Q q => by
  unfold wE mIxN ixN0 at q
  unfold wIxN
  split at q
  · rename_i xs0 z
    try rw [z]
    try dsimp only
    rw [all_bnd] at q
    refine M.All.imp q fun p1 q1 => ?_
    rw [all_bind] at q1
    obtain ⟨k, e, q2⟩ := asI_ok q1
    rw [e]
    try dsimp only
    unfold ixRd at q2
    split at q2
    · rename_i xs z1
      try rw [z1]
      try dsimp only
      rw [all_bind] at q2
      exact getO_ok q2
    · exact q2.elim
  · rename_i z
    try
      split
      · rename_i z2
        exact absurd z2 (z _)
    have q' := bin_ok (ma := mV i) (mb := m) pIx_ok ρ Q q
    exact mV_ok ρ _ q'
theorem xe_lenN {e : Expr} {i : Nat} (h : VE X e (wLenN i)) : XE X e (mLenN i) := ve_le h fun ρ Q q => by
  unfold wE mLenN lenN0 at q
  unfold wLenN
  split at q
  · rename_i xs0 z
    try rw [z]
    exact q
  · rename_i z
    try
      split
      · rename_i z2
        exact absurd z2 (z _)
    have q' := call_ok (m := mCons (mV i) mNil) bLen_ok ρ Q q
    unfold wCall wA mCons at q'
    rw [all_bnd] at q'
    unfold wCall wCons
    exact mV_ok ρ _ q'
end
end VX
end
section
set_option Elab.async false
set_option linter.all false
set_option maxRecDepth 100000
set_option maxHeartbeats 4000000
open PySem PySem.Spec PyProof.Rows L2 VE
local macro_rules | `(tactic| walk_at "vx") => `(tactic| simp (config := {decide := false}) only [wVar, wC, wBin, wUn, wTst, wAndT, wOrT, wNotT, wAndV, wOrV, wNotV, wIf, wNil, wCons, wTup, wLst, wSl, wNoPart, wPart, wCall, wCallN, wNext, wSeq, wBreak, wCont, wNever, wRet, wRetN, wRet0, wIfS, wDrop, wSet, wPar, wPar3, wgName, wgNil, wgCons, wgTup, wgIx, wAsg, wAug, wAppend, wInsert, bNil, bCons, wParB, wParB3, wAsgB, sets, VM.exB2, VM.exB3, VM.zipP_cons, VM.zipP_nil, VM.compL_cons, VM.compL_nil, wiSeq, wiRng1, wiRng2, wiZip, wiEnum, wFor, wYes, wComp, wChain, wipeR, backR, look, VM.ex2, VM.ex3, VM.pv_val, VM.pv_own, VM.noOwn_eq, VM.noOwnB, List.all_cons, List.all_nil, Bool.and_self, opInt, opSub, opMod, opFdiv, opPow, opCmpI, opLt, opLe, opGt, opGe, opAdd, opMul, opNeg, opLen, opAbs, opIntC, opMax2, opMin2, opList, opTuple, opSl, opBack, wIxN, wLenN, startR,
  List.set_cons_zero, List.set_cons_succ, List.length_cons, List.length_nil, List.map_cons, List.map_nil, List.replicate_succ, List.replicate_zero, List.nil_append, List.cons_append, Nat.zero_add, Nat.reduceAdd, Nat.reduceSub, if_true, if_false, true_and, and_true, Bool.false_eq_true, ite_true, ite_false, List.cons.injEq, PV.int.injEq, PV.bl.injEq, exists_eq_left, exists_eq_left', exists_and_left, and_self, reduceCtorEq, Bool.not_true, Bool.not_false, ite_self])

namespace VM
theorem ex2 {A B : PV} {C : PV → PV → Prop} : (∃ p q, (A = p ∧ B = q) ∧ C p q) = C A B := by
  apply propext; constructor
  · rintro ⟨_, _, ⟨rfl, rfl⟩, h⟩; exact h
  · intro h; exact ⟨_, _, ⟨rfl, rfl⟩, h⟩
theorem ex3 {A B D : PV} {C : PV → PV → PV → Prop} : (∃ p q r, (A = p ∧ B = q ∧ D = r) ∧ C p q r) = C A B D := by
  apply propext; constructor
  · rintro ⟨_, _, _, ⟨rfl, rfl, rfl⟩, h⟩; exact h
  · intro h; exact ⟨_, _, _, ⟨rfl, rfl, rfl⟩, h⟩
theorem zipP_cons {x y : PV} {xs ys : List PV} : zipP (x :: xs) (y :: ys) = .tup [x, y] :: zipP xs ys := rfl
theorem zipP_nil {ys : List PV} : zipP [] ys = [] := rfl
theorem zipP_nil' {ys : List PV} : zipP ys [] = [] := by cases ys <;> rfl
theorem compL_nil {g : WG} {wt : WT} {we : WE} {vs : List Nat} {acc : List PV} {ρ : Rho} {Q : List PV → Rho → Prop} : compL g wt we vs [] acc ρ Q = Q acc ρ := rfl
theorem compL_cons {g : WG} {wt : WT} {we : WE} {vs : List Nat} {p : PV} {ps acc : List PV} {ρ : Rho} {Q : List PV → Rho → Prop} : compL g wt we vs (p :: ps) acc ρ Q = g p ρ fun ρ1 => wt ρ1 fun b ρ2 =>
      if b = true then we ρ2 fun r ρ3 => acc.length < sizeLine ∧ compL g wt we vs ps (acc ++ [r.pv]) (wipeR ρ3 vs) Q else compL g wt we vs ps acc (wipeR ρ2 vs) Q := rfl
theorem exB2 {A B : Sl} {C : Sl → Sl → Prop} : (∃ p q, (A = p ∧ B = q) ∧ C p q) = C A B := by
  apply propext; constructor
  · rintro ⟨_, _, ⟨rfl, rfl⟩, h⟩; exact h
  · intro h; exact ⟨_, _, ⟨rfl, rfl⟩, h⟩
theorem exB3 {A B D : Sl} {C : Sl → Sl → Sl → Prop} : (∃ p q r, (A = p ∧ B = q ∧ D = r) ∧ C p q r) = C A B D := by
  apply propext; constructor
  · rintro ⟨_, _, _, ⟨rfl, rfl, rfl⟩, h⟩; exact h
  · intro h; exact ⟨_, _, _, ⟨rfl, rfl, rfl⟩, h⟩
theorem pv_val {p : PV} : (Sl.val p).pv = p := rfl
theorem pv_own {xs : List PV} : (Sl.own xs).pv = .lst xs := rfl
def noOwnB (ρ : Rho) (vs : List Nat) : Bool := vs.all fun i => match look ρ i with | .own _ => false | _ => true
theorem look_of : ∀ {ρ : Rho} {i : Nat} {r : Sl}, ρ[i]? = some r → look ρ i = r
  | [], _, _, h => by simp at h
  | r :: _, 0, _, h => by simpa [look] using h
  | _ :: t, i + 1, r, h => by simp [look]; exact look_of (by simpa using h)
theorem noOwn_eq {ρ : Rho} {vs : List Nat} : NoOwn ρ vs = (noOwnB ρ vs = true) := by
  apply propext
  unfold noOwnB NoOwn
  rw [List.all_eq_true]
  constructor
  · intro h i hi
    split
    · rename_i xs e
      exact absurd (look_get e (by intro z; cases z)) (h i hi xs)
    · rfl
  · intro h i hi xs e
    have := h i hi
    rw [look_of e] at this
    cases this
/-! ### loops -/
theorem compL_ind {g : WG} {wt : WT} {we : WE} {vs : List Nat} {Q : List PV → Rho → Prop} {J : List PV → List PV → Rho → Prop}
    (hs : ∀ x xs acc ρ, J (x :: xs) acc ρ → ∀ N : List PV → Rho → Prop, (∀ acc' ρ', J xs acc' ρ' → N acc' ρ') → g x ρ fun ρ1 => wt ρ1 fun b ρ2 => if b = true then we ρ2 fun r ρ3 => acc.length < sizeLine ∧ N (acc ++ [r.pv]) (wipeR ρ3 vs) else N acc (wipeR ρ2 vs))
    (he : ∀ acc ρ, J [] acc ρ → Q acc ρ) : ∀ xs acc ρ, J xs acc ρ → compL g wt we vs xs acc ρ Q
  | [], acc, ρ, h => he acc ρ h
  | x :: xs, acc, ρ, h => hs x xs acc ρ h (fun acc' ρ' => compL g wt we vs xs acc' ρ' Q) fun acc' ρ' h' => compL_ind hs he xs acc' ρ' h'
theorem forL_ind {g : WG} {wb : WS} {D : EndsV} {J : List PV → Rho → Prop}
    (hs : ∀ x xs ρ, J (x :: xs) ρ → ∀ N : Rho → Prop, (∀ ρ', J xs ρ' → N ρ') → g x ρ fun ρ1 => wb { D with nx := N, ct := N, bk := D.nx } ρ1)
    (he : ∀ ρ, J [] ρ → D.nx ρ) : ∀ xs ρ, J xs ρ → forL g wb xs D ρ
  | [], ρ, h => he ρ h
  | x :: xs, ρ, h => hs x xs ρ h (fun ρ' => forL g wb xs D ρ') fun ρ' h' => forL_ind hs he xs ρ' h'
theorem whileN_ind {t : WT} {wb : WS} {D : EndsV} {J : Nat → Rho → Prop}
    (hs : ∀ n ρ, J n ρ → ∀ N : Rho → Prop, (∀ m ρ', m < n → J m ρ' → N ρ') → t ρ fun k ρ1 => if k = true then wb { D with nx := N, ct := N, bk := D.nx } ρ1 else D.nx ρ1) :
    ∀ n m ρ, m ≤ n → J m ρ → whileN t wb (n + 1) D ρ
  | 0, m, ρ, hm, h => hs m ρ h _ fun m' ρ' l _ => absurd l (by omega)
  | n + 1, m, ρ, hm, h => hs m ρ h _ fun m' ρ' l h' => whileN_ind hs n m' ρ' (by omega) h'
theorem wWhile_ind {t : WT} {wb : WS} {D : EndsV} (J : Nat → Rho → Prop) {ρ : Rho} (n : Nat) (h : J n ρ)
    (hs : ∀ n ρ, J n ρ → ∀ N : Rho → Prop, (∀ m ρ', m < n → J m ρ' → N ρ') → t ρ fun k ρ1 => if k = true then wb { D with nx := N, ct := N, bk := D.nx } ρ1 else D.nx ρ1) : wWhile t wb D ρ :=
  ⟨n + 1, whileN_ind hs n n ρ (Nat.le_refl _) h⟩
/-- each item to one item, the slots staying -/
theorem compL_map {α : Type} {g : WG} {we : WE} {vs : List Nat} {Q : List PV → Rho → Prop} {ρ : Rho} (emb f : α → PV) (ys : List α) (hl : ys.length ≤ 1000000)
    (h : ∀ y ∈ ys, ∀ (k : Prop) (N : PV → Rho → Prop), k → N (f y) ρ → g (emb y) ρ fun ρ1 => wYes ρ1 fun b ρ2 => if b = true then we ρ2 fun r ρ3 => k ∧ N r.pv (wipeR ρ3 vs) else False)
    (q : Q (ys.map f) ρ) : compL g wYes we vs (ys.map emb) [] ρ Q := by
  suffices H : ∀ (zs acc : List α), acc ++ zs = ys → compL g wYes we vs (zs.map emb) (acc.map f) ρ Q from H ys [] rfl
  intro zs
  induction zs with
  | nil => intro acc e; rw [List.append_nil] at e; subst e; exact q
  | cons z zs ih =>
    intro acc e
    have hz : z ∈ ys := by rw [← e]; simp
    have hk : (acc.map f).length < sizeLine := by
      rw [List.length_map, sizeLine_eq]
      have := congrArg List.length e
      simp at this; omega
    have := h z hz ((acc.map f).length < sizeLine) (fun p ρ' => compL g wYes we vs (zs.map emb) (acc.map f ++ [p]) ρ' Q) hk (by
      have := ih (acc ++ [z]) (by simpa using e)
      simpa using this)
    exact this

/-! ### kinds -/
def dat (p : PV) : Prop := VE.kindOf p ≠ none
def kI : PV → Bool | .int _ => true | .bl _ => true | _ => false
def kB : PV → Bool | .bl _ => true | _ => false
def kT : PV → Bool | .tup _ => true | _ => false
def kL : PV → Bool | .lst _ => true | .hnd => true | _ => false
def kS : PV → Bool | .str _ => true | _ => false
theorem isi_mk {p : PV} {n : String} {f : Bool} {Q : Sl → Prop} (h : dat p) (hf : ∀ k, VE.kindOf p = some k → kitB k n = some f) : opIsi [p, .ty n] Q = Q (.val (.bl f)) := by
  unfold dat at h
  obtain ⟨k, hk⟩ := Option.ne_none_iff_exists'.mp h
  apply propext
  show (∃ k b, VE.kindOf p = some k ∧ kitB k n = some b ∧ Q (.val (.bl b))) ↔ _
  constructor
  · rintro ⟨k', b, e1, e2, q⟩
    rw [hf k' e1] at e2; cases e2; exact q
  · intro q
    exact ⟨k, f, hk, hf k hk, q⟩
theorem isi_int {p : PV} {Q : Sl → Prop} (h : dat p) : opIsi [p, .ty "int"] Q = Q (.val (.bl (kI p))) := isi_mk h (by intro k e; cases p <;> (first | cases e | skip) <;> rfl)
theorem isi_bool {p : PV} {Q : Sl → Prop} (h : dat p) : opIsi [p, .ty "bool"] Q = Q (.val (.bl (kB p))) := isi_mk h (by intro k e; cases p <;> (first | cases e | skip) <;> rfl)
theorem isi_tuple {p : PV} {Q : Sl → Prop} (h : dat p) : opIsi [p, .ty "tuple"] Q = Q (.val (.bl (kT p))) := isi_mk h (by intro k e; cases p <;> (first | cases e | skip) <;> rfl)
theorem isi_list {p : PV} {Q : Sl → Prop} (h : dat p) : opIsi [p, .ty "list"] Q = Q (.val (.bl (kL p))) := isi_mk h (by intro k e; cases p <;> (first | cases e | skip) <;> rfl)
theorem isi_str {p : PV} {Q : Sl → Prop} (h : dat p) : opIsi [p, .ty "str"] Q = Q (.val (.bl (kS p))) := isi_mk h (by intro k e; cases p <;> (first | cases e | skip) <;> rfl)
theorem dat_int {i : Int} : dat (.int i) := by intro h; cases h
theorem dat_bl {i : Bool} : dat (.bl i) := by intro h; cases h
theorem dat_str {i : Str} : dat (.str i) := by intro h; cases h
theorem dat_tup {i : List PV} : dat (.tup i) := by intro h; cases h
theorem dat_lst {i : List PV} : dat (.lst i) := by intro h; cases h
theorem dat_non : dat .non := by intro h; cases h
theorem dat_dct : dat .dct0 := by intro h; cases h

/-! ### data with a Lean type -/
class Dm (α : Type) [DecidableEq α] where
  emb : α → PV
  dd : α → PyData
  toD_emb : ∀ a, toD (emb a) = some (dd a)
  can : ∀ a, (dd a).canLay0 = true
  dep : Nat
  dep_le : ∀ a, (dd a).depth ≤ dep
  eqv : ∀ a b, PyData.eqv (dd a) (dd b) = decide (a = b)
instance : Dm Int where
  emb := .int
  dd := .int
  toD_emb _ := rfl
  can _ := rfl
  dep := 0
  dep_le _ := Nat.le_refl _
  eqv a b := by simp only [PyData.eqv]; exact PySem.W.beq_decide a b
instance : Dm Bool where
  emb := .bl
  dd := .bool
  toD_emb _ := rfl
  can _ := rfl
  dep := 0
  dep_le _ := Nat.le_refl _
  eqv a b := by simp only [PyData.eqv]; exact PySem.W.beq_decide a b
section
variable {α β : Type} [DecidableEq α] [Dm α] [DecidableEq β] [Dm β]
theorem toDs_map : ∀ l : List α, toDs (l.map Dm.emb) = some (l.map Dm.dd)
  | [] => rfl
  | a :: l => by
    simp only [List.map_cons, toDs, Dm.toD_emb, toDs_map l]
theorem canAll_map : ∀ l : List α, PyData.canLayAll0 (l.map Dm.dd) = true
  | [] => rfl
  | a :: l => by simp only [List.map_cons, PyData.canLayAll0, Dm.can a, canAll_map l, Bool.and_self]
theorem depAll_map : ∀ l : List α, PyData.depthAll (l.map Dm.dd) ≤ Dm.dep α
  | [] => Nat.zero_le _
  | a :: l => by
    rw [List.map_cons, PyData.depthAll]
    exact Nat.max_le.mpr ⟨Dm.dep_le a, depAll_map l⟩
theorem eqvAll_map : ∀ xs ys : List α, PyData.eqvAll (xs.map Dm.dd) (ys.map Dm.dd) = decide (xs = ys)
  | [], [] => by simp [PyData.eqvAll]
  | [], _ :: _ => by simp [PyData.eqvAll]
  | _ :: _, [] => by simp [PyData.eqvAll]
  | x :: xs, y :: ys => by
    simp only [List.map_cons, PyData.eqvAll, Dm.eqv, eqvAll_map xs ys, List.cons.injEq]
    by_cases h1 : x = y <;> by_cases h2 : xs = ys <;> simp [h1, h2]
instance : Dm (List α) where
  emb l := .lst (l.map Dm.emb)
  dd l := .list (l.map Dm.dd)
  toD_emb l := toD_lst (toDs_map l)
  can l := by simp only [PyData.canLay0]; exact canAll_map l
  dep := Dm.dep α + 1
  dep_le l := by simp only [PyData.depth]; exact Nat.succ_le_succ (depAll_map l)
  eqv a b := by simp only [PyData.eqv]; exact eqvAll_map a b
/-- a tuple of any length, its items of one type -/
structure Tp (α : Type) where
  l : List α
  deriving DecidableEq
instance : Dm (Tp α) where
  emb t := .tup (t.l.map Dm.emb)
  dd t := .tuple (t.l.map Dm.dd)
  toD_emb t := toD_tup (toDs_map t.l)
  can t := by simp only [PyData.canLay0]; exact canAll_map t.l
  dep := Dm.dep α + 1
  dep_le t := by simp only [PyData.depth]; exact Nat.succ_le_succ (depAll_map t.l)
  eqv a b := by
    simp only [PyData.eqv]
    rw [eqvAll_map]
    exact decide_eq_decide.mpr ⟨fun e => by cases a; cases b; exact congrArg Tp.mk e, fun e => by rw [e]⟩
instance : Dm (α × β) where
  emb p := .tup [Dm.emb p.1, Dm.emb p.2]
  dd p := .tuple [Dm.dd p.1, Dm.dd p.2]
  toD_emb p := by simp only [toD, toDs, Dm.toD_emb, Option.map_some]
  can p := by simp only [PyData.canLay0, PyData.canLayAll0, Dm.can, Bool.and_self]
  dep := max (Dm.dep α) (Dm.dep β) + 1
  dep_le p := by
    simp only [PyData.depth, PyData.depthAll]
    have h1 := Dm.dep_le p.1
    have h2 := Dm.dep_le p.2
    omega
  eqv p q := by
    simp only [PyData.eqv, PyData.eqvAll, Dm.eqv, Bool.and_true]
    by_cases h1 : p.1 = q.1 <;> by_cases h2 : p.2 = q.2 <;> simp [h1, h2, Prod.ext_iff]
theorem shp_dm (a : α) (h : Dm.dep α ≤ 64) : shp (Dm.dd a) := by
  have := Dm.dep_le a
  unfold shp SeqAt.shaped
  rw [Dm.can a, decide_eq_true (Nat.le_trans this h)]; rfl
theorem eqv_str (x y : Str) : PyData.eqv (.str x) (.str y) = decide (x = y) := by simp only [PyData.eqv]; exact PySem.W.beq_decide x y
theorem toD_str_inv {p : PV} {x : Str} (h : p = .str x) {d : PyData} (e : toD p = some d) : d = .str x := by subst h; simp [toD] at e; exact e.symm
theorem eq_dm {a b : α} {Q : Sl → Prop} (h : Dm.dep α ≤ 64) : opEq (Dm.emb a) (Dm.emb b) Q = Q (.val (.bl (decide (a = b)))) := by
  apply propext
  constructor
  · rintro (⟨d, e, h1, h2, _, _, q⟩ | ⟨x, y, h1, h2, q⟩)
    · rw [Dm.toD_emb] at h1 h2; cases h1; cases h2
      rw [Dm.eqv] at q; exact q
    · have e1 := toD_str_inv h1 (Dm.toD_emb a)
      have e2 := toD_str_inv h2 (Dm.toD_emb b)
      rw [← eqv_str, ← e1, ← e2, Dm.eqv] at q; exact q
  · intro q
    exact .inl ⟨_, _, Dm.toD_emb a, Dm.toD_emb b, shp_dm a h, shp_dm b h, by rw [Dm.eqv]; exact q⟩
theorem ne_dm {a b : α} {Q : Sl → Prop} (h : Dm.dep α ≤ 64) : opNe (Dm.emb a) (Dm.emb b) Q = Q (.val (.bl (!decide (a = b)))) := by
  apply propext
  constructor
  · rintro (⟨d, e, h1, h2, _, _, q⟩ | ⟨x, y, h1, h2, q⟩)
    · rw [Dm.toD_emb] at h1 h2; cases h1; cases h2
      rw [Dm.eqv] at q; exact q
    · have e1 := toD_str_inv h1 (Dm.toD_emb a)
      have e2 := toD_str_inv h2 (Dm.toD_emb b)
      rw [← eqv_str, ← e1, ← e2, Dm.eqv] at q; exact q
  · intro q
    exact .inl ⟨_, _, Dm.toD_emb a, Dm.toD_emb b, shp_dm a h, shp_dm b h, by rw [Dm.eqv]; exact q⟩
theorem any_dm (x : α) : ∀ l : List α, ((l.map Dm.dd).any fun z => PyData.eqv z (Dm.dd x)) = decide (x ∈ l)
  | [] => by simp
  | a :: l => by
    simp only [List.map_cons, List.any_cons, Dm.eqv, any_dm x l, List.mem_cons]
    by_cases h1 : x = a
    · simp [h1]
    · have h2 : ¬ a = x := fun e => h1 e.symm
      simp [h1, h2]
theorem in_dm {x : α} {l : List α} {Q : Sl → Prop} (h : Dm.dep α ≤ 63) : opIn (Dm.emb x) (.lst (l.map Dm.emb)) Q = Q (.val (.bl (decide (x ∈ l)))) := by
  apply propext
  constructor
  · rintro ⟨d, ds, xs, h1, h2, h3, _, _, q⟩
    cases h2
    rw [Dm.toD_emb] at h1; cases h1
    rw [toDs_map] at h3; cases h3
    rw [any_dm] at q; exact q
  · intro q
    refine ⟨_, _, _, Dm.toD_emb x, rfl, toDs_map l, shp_dm x (by omega), ?_, by rw [any_dm]; exact q⟩
    exact shp_dm l (show Dm.dep α + 1 ≤ 64 by omega)
theorem notin_dm {x : α} {l : List α} {Q : Sl → Prop} (h : Dm.dep α ≤ 63) : opNotIn (Dm.emb x) (.lst (l.map Dm.emb)) Q = Q (.val (.bl (!decide (x ∈ l)))) := by
  apply propext
  constructor
  · rintro ⟨d, ds, xs, h1, h2, h3, _, _, q⟩
    cases h2
    rw [Dm.toD_emb] at h1; cases h1
    rw [toDs_map] at h3; cases h3
    rw [any_dm] at q; exact q
  · intro q
    refine ⟨_, _, _, Dm.toD_emb x, rfl, toDs_map l, shp_dm x (by omega), ?_, by rw [any_dm]; exact q⟩
    exact shp_dm l (show Dm.dep α + 1 ≤ 64 by omega)
end
/-! ### dots -/
abbrev Pt := Int × Int
def pt (p : Pt) : PV := .tup [.int p.1, .int p.2]
theorem pt_emb (p : Pt) : pt p = Dm.emb p := rfl
theorem pt_mk (a b : Int) : PV.tup [.int a, .int b] = pt (a, b) := rfl
theorem map_pt (l : List Pt) : l.map pt = l.map Dm.emb := List.map_congr_left fun _ _ => rfl
theorem eq_int {a b : Int} {Q : Sl → Prop} : opEq (.int a) (.int b) Q = Q (.val (.bl (decide (a = b)))) := eq_dm (α := Int) (by decide)
theorem ne_int {a b : Int} {Q : Sl → Prop} : opNe (.int a) (.int b) Q = Q (.val (.bl (!decide (a = b)))) := ne_dm (α := Int) (by decide)
theorem eq_bl {a b : Bool} {Q : Sl → Prop} : opEq (.bl a) (.bl b) Q = Q (.val (.bl (decide (a = b)))) := eq_dm (α := Bool) (by decide)
theorem ne_bl {a b : Bool} {Q : Sl → Prop} : opNe (.bl a) (.bl b) Q = Q (.val (.bl (!decide (a = b)))) := ne_dm (α := Bool) (by decide)
theorem eq_pt {a b : Pt} {Q : Sl → Prop} : opEq (pt a) (pt b) Q = Q (.val (.bl (decide (a = b)))) := eq_dm (α := Pt) (by decide)
theorem ne_pt {a b : Pt} {Q : Sl → Prop} : opNe (pt a) (pt b) Q = Q (.val (.bl (!decide (a = b)))) := ne_dm (α := Pt) (by decide)
theorem eq_lpt {a b : List Pt} {Q : Sl → Prop} : opEq (.lst (a.map pt)) (.lst (b.map pt)) Q = Q (.val (.bl (decide (a = b)))) := eq_dm (α := List Pt) (by decide)
theorem ne_lpt {a b : List Pt} {Q : Sl → Prop} : opNe (.lst (a.map pt)) (.lst (b.map pt)) Q = Q (.val (.bl (!decide (a = b)))) := ne_dm (α := List Pt) (by decide)
theorem eq_tpt {a b : List Pt} {Q : Sl → Prop} : opEq (.tup (a.map pt)) (.tup (b.map pt)) Q = Q (.val (.bl (decide (a = b)))) := by
  have h := eq_dm (α := Tp Pt) (a := ⟨a⟩) (b := ⟨b⟩) (Q := Q) (by decide)
  simp only [Tp.mk.injEq] at h; exact h
theorem ne_tpt {a b : List Pt} {Q : Sl → Prop} : opNe (.tup (a.map pt)) (.tup (b.map pt)) Q = Q (.val (.bl (!decide (a = b)))) := by
  have h := ne_dm (α := Tp Pt) (a := ⟨a⟩) (b := ⟨b⟩) (Q := Q) (by decide)
  simp only [Tp.mk.injEq] at h; exact h
theorem eq_str {a b : Str} {Q : Sl → Prop} : opEq (.str a) (.str b) Q = Q (.val (.bl (decide (a = b)))) := by
  apply propext
  constructor
  · rintro (⟨d, e, h1, h2, _, _, q⟩ | ⟨x, y, h1, h2, q⟩)
    · cases h1; cases h2; rw [eqv_str] at q; exact q
    · cases h1; cases h2; exact q
  · intro q; exact .inr ⟨_, _, rfl, rfl, q⟩
theorem ne_str {a b : Str} {Q : Sl → Prop} : opNe (.str a) (.str b) Q = Q (.val (.bl (!decide (a = b)))) := by
  apply propext
  constructor
  · rintro (⟨d, e, h1, h2, _, _, q⟩ | ⟨x, y, h1, h2, q⟩)
    · cases h1; cases h2; rw [eqv_str] at q; exact q
    · cases h1; cases h2; exact q
  · intro q; exact .inr ⟨_, _, rfl, rfl, q⟩
theorem in_pt {a : Pt} {l : List Pt} {Q : Sl → Prop} : opIn (pt a) (.lst (l.map pt)) Q = Q (.val (.bl (decide (a ∈ l)))) := by rw [map_pt, pt_emb]; exact (in_dm (α := Pt) (by decide)).trans (by congr)
theorem notin_pt {a : Pt} {l : List Pt} {Q : Sl → Prop} : opNotIn (pt a) (.lst (l.map pt)) Q = Q (.val (.bl (!decide (a ∈ l)))) := by rw [map_pt, pt_emb]; exact (notin_dm (α := Pt) (by decide)).trans (by congr)
theorem ix_tup' {xs : List PV} {i : Int} {x : PV} {Q : Sl → Prop} (h : L2.atI xs i = some x) : opIx (.tup xs) (.int i) Q = Q (.val x) := by
  apply propext
  show (∃ y, L2.atI xs i = some y ∧ Q (.val y)) ↔ _
  rw [h]; simp
theorem ix_lst' {xs : List PV} {i : Int} {x : PV} {Q : Sl → Prop} (h : L2.atI xs i = some x) : opIx (.lst xs) (.int i) Q = Q (.val x) := by
  apply propext
  show (∃ y, L2.atI xs i = some y ∧ Q (.val y)) ↔ _
  rw [h]; simp
theorem ix_pt0 {p : Pt} {Q : Sl → Prop} : opIx (pt p) (.int 0) Q = Q (.val (.int p.1)) := ix_tup' rfl
theorem ix_pt1 {p : Pt} {Q : Sl → Prop} : opIx (pt p) (.int 1) Q = Q (.val (.int p.2)) := ix_tup' rfl
theorem atI_nat {xs : List PV} {n : Nat} {x : PV} (h : xs[n]? = some x) : L2.atI xs (n : Int) = some x := by
  have hn : n < xs.length := (List.getElem?_eq_some_iff.mp h).1
  unfold L2.atI L2.ixN
  simp [hn]
  exact (List.getElem?_eq_some_iff.mp h).2
theorem ix_t0 {x : PV} {xs : List PV} {Q : Sl → Prop} : opIx (.tup (x :: xs)) (.int 0) Q = Q (.val x) := ix_tup' (atI_nat (n := 0) rfl)
theorem ix_t1 {x y : PV} {xs : List PV} {Q : Sl → Prop} : opIx (.tup (x :: y :: xs)) (.int 1) Q = Q (.val y) := ix_tup' (atI_nat (n := 1) rfl)
theorem ix_t2 {x y z : PV} {xs : List PV} {Q : Sl → Prop} : opIx (.tup (x :: y :: z :: xs)) (.int 2) Q = Q (.val z) := ix_tup' (atI_nat (n := 2) rfl)
theorem ix_l0 {x : PV} {xs : List PV} {Q : Sl → Prop} : opIx (.lst (x :: xs)) (.int 0) Q = Q (.val x) := ix_lst' (atI_nat (n := 0) rfl)
theorem ix_l1 {x y : PV} {xs : List PV} {Q : Sl → Prop} : opIx (.lst (x :: y :: xs)) (.int 1) Q = Q (.val y) := ix_lst' (atI_nat (n := 1) rfl)
theorem ix_l2 {x y z : PV} {xs : List PV} {Q : Sl → Prop} : opIx (.lst (x :: y :: z :: xs)) (.int 2) Q = Q (.val z) := ix_lst' (atI_nat (n := 2) rfl)
theorem len_pt {p : Pt} {Q : Sl → Prop} : opLen [pt p] Q = Q (.val (.int 2)) := rfl
theorem kT_pt {p : Pt} : kT (pt p) = true := rfl
theorem kL_pt {p : Pt} : kL (pt p) = false := rfl
theorem kI_pt {p : Pt} : kI (pt p) = false := rfl
theorem kB_pt {p : Pt} : kB (pt p) = false := rfl
theorem dat_pt {p : Pt} : dat (pt p) := dat_tup
theorem is_non {p : PV} {Q : Sl → Prop} : opIs p .non Q = Q (.val (.bl (match p with | .non => true | _ => false))) := by
  apply propext; unfold opIs; cases p <;> simp [opIs]
theorem isnot_non {p : PV} {Q : Sl → Prop} : opIsNot p .non Q = Q (.val (.bl (match p with | .non => false | _ => true))) := by
  apply propext; unfold opIsNot; cases p <;> simp [opIsNot]
theorem all_bl {bs : List Bool} {Q : Sl → Prop} : opAll [.lst (bs.map PV.bl)] Q = Q (.val (.bl (bs.all id))) := by
  apply propext
  constructor
  · rintro ⟨cs, e, q⟩
    have : bs.map PV.bl = cs.map PV.bl := by injection e with e; injection e
    have e2 : bs = cs := by
      have inj : ∀ (a b : List Bool), a.map PV.bl = b.map PV.bl → a = b := by
        intro a
        induction a with
        | nil => intro b h; cases b with | nil => rfl | cons _ _ => cases h
        | cons x a ih => intro b h; cases b with | nil => cases h | cons y b => injection h with h1 h2; injection h1 with h1; rw [h1, ih b h2]
      exact inj _ _ this
    rw [e2]; exact q
  · intro q; exact ⟨bs, rfl, q⟩
theorem any_bl {bs : List Bool} {Q : Sl → Prop} (q : Q (.val (.bl (bs.any id)))) : opAny [.lst (bs.map PV.bl)] Q := ⟨bs, rfl, q⟩
theorem sum_int {bs : List Int} {Q : Sl → Prop} (q : Q (.val (.int bs.sum))) : opSum [.lst (bs.map PV.int)] Q := ⟨bs, rfl, q⟩
theorem sz {n : Nat} (h : n ≤ 1000000) : n ≤ sizeLine := by rw [sizeLine_eq]; omega
theorem szb {n : Nat} (h : Nat.ble n 1000000 = true) : n ≤ sizeLine := by have := Nat.le_of_ble_eq_true h; rw [sizeLine_eq]; omega
theorem szlb {n : Nat} (h : Nat.ble (n + 1) 1000000 = true) : n < sizeLine := by have := Nat.le_of_ble_eq_true h; rw [sizeLine_eq]; omega
theorem szl {n : Nat} (h : n ≤ 1000000) : n < sizeLine := by rw [sizeLine_eq]; omega
theorem divok {i j : Int} (h : j ≠ 0) (h1 : -1073741824 < j) (h2 : j < 1073741824) : DivOk i j := .inl ⟨h, by omega⟩
theorem cmul_l {a b : Int} (h1 : -1000000000000000000 < a) (h2 : a < 1000000000000000000) : CMul a b := .inl ⟨by omega, by omega⟩
theorem cmul_r {a b : Int} (h1 : -1000000000000000000 < b) (h2 : b < 1000000000000000000) : CMul a b := .inr ⟨by omega, by omega⟩
end VM
end
section
set_option Elab.async false
set_option linter.all false
set_option maxRecDepth 100000
set_option maxHeartbeats 4000000
open PySem PySem.Spec PyProof.Rows L2 VE
local macro_rules | `(tactic| walk_at "vx") => `(tactic| simp (config := {decide := false}) only [wVar, wC, wBin, wUn, wTst, wAndT, wOrT, wNotT, wAndV, wOrV, wNotV, wIf, wNil, wCons, wTup, wLst, wSl, wNoPart, wPart, wCall, wCallN, wNext, wSeq, wBreak, wCont, wNever, wRet, wRetN, wRet0, wIfS, wDrop, wSet, wPar, wPar3, wgName, wgNil, wgCons, wgTup, wgIx, wAsg, wAug, wAppend, wInsert, bNil, bCons, wParB, wParB3, wAsgB, sets, VM.exB2, VM.exB3, VM.zipP_cons, VM.zipP_nil, VM.compL_cons, VM.compL_nil, wiSeq, wiRng1, wiRng2, wiZip, wiEnum, wFor, wYes, wComp, wChain, wipeR, backR, look, VM.ex2, VM.ex3, VM.eq_int, VM.ne_int, VM.ix_t0, VM.ix_t1, VM.ix_t2, VM.ix_l0, VM.ix_l1, VM.ix_l2, VM.ix_pt0, VM.ix_pt1, VM.eq_bl, VM.ne_bl, VM.eq_str, VM.ne_str, VM.is_non, VM.isnot_non, decide_true, decide_false, decide_eq_true_eq, eq_self, VM.pv_val, VM.pv_own, VM.noOwn_eq, VM.noOwnB, List.all_cons, List.all_nil, Bool.and_self, opInt, opSub, opMod, opFdiv, opPow, opCmpI, opLt, opLe, opGt, opGe, opAdd, opMul, opNeg, opLen, opAbs, opIntC, opMax2, opMin2, opList, opTuple, opSl, opBack, wIxN, wLenN, startR,
  List.set_cons_zero, List.set_cons_succ, List.length_cons, List.length_nil, List.map_cons, List.map_nil, List.replicate_succ, List.replicate_zero, List.nil_append, List.cons_append, Nat.zero_add, Nat.reduceAdd, Nat.reduceSub, if_true, if_false, true_and, and_true, Bool.false_eq_true, ite_true, ite_false, List.cons.injEq, PV.int.injEq, PV.bl.injEq, exists_eq_left, exists_eq_left', exists_and_left, and_self, reduceCtorEq, Bool.not_true, Bool.not_false, ite_self])
local macro_rules | `(tactic| walk_at "vc") => `(tactic| repeat (with_reducible refine And.intro ?_ ?_; focus first | omega | with_reducible rfl | exact VM.szb rfl | exact VM.szlb rfl | exact VM.cmul_l (by omega) (by omega) | exact VM.cmul_r (by omega) (by omega) | exact VM.divok (by omega) (by omega) (by omega) | omega))

namespace VM
def isI : PV → Bool | .int _ => true | _ => false
theorem isI_eq {p : PV} : (if kI p = true then !kB p else false) = isI p := by cases p <;> rfl
def within (a b : Int) : PV → Bool | .int i => decide (a ≤ i) && decide (i ≤ b) | _ => false
def isDot : PV → Bool | .tup [x, y] => within (-10000) 10000 x && within (-10000) 10000 y | _ => false
def dat2 : PV → Prop | .tup xs => ∀ x ∈ xs, dat x | p => dat p
theorem dat2_dat {p : PV} (h : dat2 p) : dat p := by cases p <;> first | exact h | exact dat_tup
theorem dat2_pt {p : Pt} : dat2 (pt p) := by
  intro x hx
  rcases List.mem_cons.mp hx with rfl | hx
  · exact dat_int
  · rw [List.mem_singleton.mp hx]; exact dat_int
def okPt (p : Pt) : Bool := (decide (-10000 ≤ p.1) && decide (p.1 ≤ 10000)) && (decide (-10000 ≤ p.2) && decide (p.2 ≤ 10000))
theorem isDot_pt {p : Pt} : isDot (pt p) = okPt p := rfl
theorem okPt_iff {p : Pt} : okPt p = true ↔ -10000 ≤ p.1 ∧ p.1 ≤ 10000 ∧ -10000 ≤ p.2 ∧ p.2 ≤ 10000 := by
  unfold okPt; simp only [Bool.and_eq_true, decide_eq_true_eq, and_assoc]
theorem isDot_ex {p : PV} (h : isDot p = true) : ∃ q : Pt, p = pt q ∧ okPt q = true := by
  unfold isDot at h
  split at h
  · rename_i x y
    have e := h
    rw [Bool.and_eq_true] at h
    cases x with
    | int i => cases y with
      | int j => exact ⟨(i, j), rfl, e⟩
      | _ => exact absurd h.2 Bool.false_ne_true
    | _ => exact absurd h.1 Bool.false_ne_true
  · cases h
abbrev SV (w : WS) (n : Nat) (S : SpV) (m : Nat) : Prop := ∀ (ps : List PV) (Q : Sl → Prop), ps.length = m → S ps Q → w { nx := fun _ => Q (.val .non), rt := Q } (startR n ps)
def S_is_integer : SpV := fun ps Q => ∃ p, ps = [p] ∧ dat p ∧ Q (.val (.bl (isI p)))
def w_is_integer : WS := (wRet (wAndV (wCall opIsi (wCons (wVar 0) (wCons (wC (.ty "int")) wNil))) (wNotV (wCall opIsi (wCons (wVar 0) (wCons (wC (.ty "bool")) wNil))))))
theorem v_is_integer : SV w_is_integer 1 S_is_integer 1 := by
  rintro ps Q - ⟨p, rfl, hd, q⟩
  unfold w_is_integer
  walk_at "vx"
  simp only [isi_int hd, isi_bool hd]
  rw [← isI_eq] at q
  revert q; cases kI p <;> simp
def S_is_within : SpV := fun ps Q => ∃ p a b, ps = [p, .int a, .int b] ∧ dat p ∧ Q (.val (.bl (within a b p)))
def w_is_within (S_is_integer : SpV) : WS := (wRet (wAndV (wCallN 1 S_is_integer (wCons (wVar 0) wNil)) (wChain opLe opLe (wVar 1) (wVar 0) (wVar 2))))
theorem v_is_within : SV (w_is_within S_is_integer) 3 S_is_within 3 := by
  rintro ps Q - ⟨p, a, b, rfl, hd, q⟩
  unfold w_is_within
  walk_at "vx"
  refine ⟨p, rfl, hd, ?_⟩
  cases p with
  | int i =>
    simp only [isI, within] at q ⊢
    by_cases h1 : a ≤ i <;> simp [h1] at q ⊢ <;> exact q
  | _ => exact q
def S_is_dot : SpV := fun ps Q => ∃ p, ps = [p] ∧ dat2 p ∧ Q (.val (.bl (isDot p)))
def w_is_dot (S_is_within : SpV) : WS := (wSeq (wIfS (wOrT (wNotT (wTst (wCall opIsi (wCons (wVar 0) (wCons (wC (.ty "tuple")) wNil))))) (wTst (wBin opNe (wCall opLen (wCons (wVar 0) wNil)) (wC (.int 2))))) (wRet (wC (.bl false))) wNext) (wRet (wCall opAll (wCons (wComp (wiSeq (wVar 0)) (wgName 1) wYes (wCallN 3 S_is_within (wCons (wVar 1) (wCons (wUn opNeg (wC (.int 10000))) (wCons (wC (.int 10000)) wNil)))) [1]) wNil))))
theorem v_is_dot : SV (w_is_dot S_is_within) 2 S_is_dot 1 := by
  rintro ps Q - ⟨p, rfl, hd, q⟩
  unfold w_is_dot
  walk_at "vx"
  simp only [isi_tuple (dat2_dat hd)]
  cases p with
  | tup xs =>
    simp only [kT, ne_int]
    walk_at "vx"
    match xs, hd, q with
    | [x, y], hd, q =>
      simp only [compL]
      walk_at "vx"
      rw [if_neg (by decide)]
      refine ⟨x, _, _, rfl, hd x (by simp), szl (by decide), y, _, _, rfl, hd y (by simp), szl (by decide), ?_⟩
      exact ⟨[within (-10000) 10000 x, within (-10000) 10000 y], rfl, by simpa [isDot] using q⟩
    | [], hd, q => exact q
    | [x], hd, q => exact q
    | x :: y :: z :: xs, hd, q =>
      have e : ¬ ((xs.length : Int) + 1 + 1 + 1 = 2) := by omega
      simp [e]
      exact q
  | _ => exact q
/-! ### the greatest divisor -/
theorem gcd_step {a b : Int} : Int.gcd b (a.fmod b) = Int.gcd a b := by
  have e : a.fmod b = a - b * (a.fdiv b) := Int.fmod_def a b
  rw [e, Int.gcd_comm, Int.sub_eq_add_neg, ← Int.mul_neg, Int.gcd_add_mul_left_left]
def S_common_divisor : SpV := fun ps Q => ∃ a b : Int, ps = [.int a, .int b] ∧ Q (.val (.int (Int.gcd a b)))
def w_common_divisor : WS := (wSeq (wPar 0 1 (wCons (wCall opAbs (wCons (wVar 0) wNil)) (wCons (wCall opAbs (wCons (wVar 1) wNil)) wNil))) (wSeq (wWhile (wTst (wBin opGt (wVar 1) (wC (.int 0)))) (wPar 0 1 (wCons (wVar 1) (wCons (wBin opMod (wVar 0) (wVar 1)) wNil)))) (wRetN 0)))
theorem abs_nn (a : Int) : 0 ≤ (if a < 0 then -a else a) := by split <;> omega
theorem gcd_abs (a b : Int) : Int.gcd (if a < 0 then -a else a) (if b < 0 then -b else b) = Int.gcd a b := by
  split <;> split <;> simp
theorem v_common_divisor : SV w_common_divisor 2 S_common_divisor 2 := by
  rintro ps Q - ⟨a, b, rfl, q⟩
  unfold w_common_divisor
  walk_at "vx"
  refine wWhile_ind (fun n ρ => ∃ x y : Int, ρ = [.val (.int x), .val (.int y)] ∧ 0 ≤ x ∧ 0 ≤ y ∧ y.toNat = n ∧ Int.gcd x y = Int.gcd a b) _ ⟨_, _, rfl, abs_nn _, abs_nn _, rfl, gcd_abs a b⟩ ?_
  rintro n ρ ⟨x, y, rfl, hx, hy, rfl, hg⟩ N hN
  walk_at "vx"
  by_cases h : 0 < y
  · simp only [h, decide_true, if_true]
    refine ⟨by omega, hN (x.fmod y).toNat _ ?_ ⟨_, _, rfl, hy, ?_, rfl, gcd_step.trans hg⟩⟩
    · have := Int.fmod_lt_of_pos x h; have := Int.fmod_nonneg_of_pos x h; omega
    · exact Int.fmod_nonneg_of_pos x h
  · have : y = 0 := by omega
    subst this
    simp
    rw [Int.gcd_zero_right] at hg
    have : x = (Int.gcd a b : Int) := by omega
    rw [this]; exact q
def okRay (p : Pt) : Bool := okPt p && decide (Int.gcd p.1 p.2 = 1)
def isRay : PV → Bool | .tup [.int a, .int b] => okRay (a, b) | _ => false
theorem isRay_pt {p : Pt} : isRay (pt p) = okRay p := rfl
theorem isRay_ex {p : PV} (h : isRay p = true) : ∃ q : Pt, p = pt q ∧ okRay q = true := by
  unfold isRay at h
  split at h
  · exact ⟨_, rfl, h⟩
  · cases h
def S_is_ray : SpV := fun ps Q => ∃ p, ps = [p] ∧ dat2 p ∧ Q (.val (.bl (isRay p)))
def w_is_ray (S_common_divisor : SpV) (S_is_dot : SpV) : WS := (wRet (wAndV (wCallN 1 S_is_dot (wCons (wVar 0) wNil)) (wBin opEq (wCallN 2 S_common_divisor (wCons (wBin opIx (wVar 0) (wC (.int 0))) (wCons (wBin opIx (wVar 0) (wC (.int 1))) wNil))) (wC (.int 1)))))
theorem v_is_ray : SV (w_is_ray S_common_divisor S_is_dot) 1 S_is_ray 1 := by
  rintro ps Q - ⟨p, rfl, hd, q⟩
  unfold w_is_ray
  walk_at "vx"
  refine ⟨p, rfl, hd, ?_⟩
  by_cases hp : isDot p = true
  · obtain ⟨z, rfl, hz⟩ := isDot_ex hp
    rw [isDot_pt, hz]
    simp only [ix_pt0, ix_pt1]
    walk_at "vx"
    refine ⟨_, _, rfl, ?_⟩
    show opEq (.int _) (.int 1) _
    rw [eq_int]
    rw [isRay_pt] at q
    have e : okRay z = decide ((Int.gcd z.1 z.2 : Int) = 1) := by
      unfold okRay; rw [hz, Bool.true_and]; exact decide_eq_decide.mpr (by omega)
    rw [e] at q; exact q
  · rw [Bool.not_eq_true] at hp
    rw [hp]
    have e : isRay p = false := by
      cases h : isRay p with
      | false => rfl
      | true =>
        obtain ⟨z, rfl, hz⟩ := isRay_ex h
        rw [isDot_pt] at hp
        unfold okRay at hz; rw [hp] at hz; cases hz
    rw [e] at q; simpa using q
def S_check_dot : SpV := fun ps Q => ∃ p, ps = [pt p] ∧ okPt p = true ∧ Q (.val .non)
def w_check_dot (S_is_dot : SpV) : WS := (wIfS (wNotT (wTst (wCallN 1 S_is_dot (wCons (wVar 0) wNil)))) wNever wNext)
theorem v_check_dot : SV (w_check_dot S_is_dot) 1 S_check_dot 1 := by
  rintro ps Q - ⟨p, rfl, hd, q⟩
  unfold w_check_dot
  walk_at "vx"
  refine ⟨_, rfl, dat2_pt, ?_⟩
  rw [isDot_pt, hd]; simpa using q
def S_check_ray : SpV := fun ps Q => ∃ p, ps = [pt p] ∧ okRay p = true ∧ Q (.val .non)
def w_check_ray (S_is_ray : SpV) : WS := (wIfS (wNotT (wTst (wCallN 1 S_is_ray (wCons (wVar 0) wNil)))) wNever wNext)
theorem v_check_ray : SV (w_check_ray S_is_ray) 1 S_check_ray 1 := by
  rintro ps Q - ⟨p, rfl, hd, q⟩
  unfold w_check_ray
  walk_at "vx"
  refine ⟨_, rfl, dat2_pt, ?_⟩
  rw [isRay_pt, hd]; simpa using q
/-- a dot's ray -/
def rayP (p : Pt) : Pt := (p.1 / (Int.gcd p.1 p.2 : Int), p.2 / (Int.gcd p.1 p.2 : Int))
def smP (p : Pt) : Prop := -1000000000 < p.1 ∧ p.1 < 1000000000 ∧ -1000000000 < p.2 ∧ p.2 < 1000000000
theorem smP_of {p : Pt} (h : okPt p = true) : smP p := by
  have := okPt_iff.mp h
  unfold smP; omega
theorem gcd_pos {p : Pt} (h : p ≠ (0, 0)) : 0 < Int.gcd p.1 p.2 := by
  rcases Nat.eq_zero_or_pos (Int.gcd p.1 p.2) with e | e
  · rw [Int.gcd_eq_zero_iff] at e
    exact absurd (Prod.ext e.1 e.2) h
  · exact e
theorem gcd_le_l {a b : Int} (h : a ≠ 0) : Int.gcd a b ≤ a.natAbs := Nat.le_of_dvd (by omega) (Int.gcd_dvd_natAbs_left a b)
theorem gcd_lt {p : Pt} (h : smP p) : (Int.gcd p.1 p.2 : Int) < 1000000000 := by
  obtain ⟨h1, h2, h3, h4⟩ := h
  by_cases e : p.1 = 0
  · rw [e, Int.gcd_zero_left]; omega
  · have := gcd_le_l (b := p.2) e; omega
theorem fdiv_nn {a : Int} {n : Nat} : a.fdiv (n : Int) = a / (n : Int) := Int.fdiv_eq_ediv_of_nonneg _ (by omega)
def S_raw_ray : SpV := fun ps Q => ∃ p, ps = [pt p] ∧ p ≠ (0, 0) ∧ smP p ∧ Q (.val (pt (rayP p)))
def w_raw_ray (S_common_divisor : SpV) : WS := (wSeq (wSet 1 (wCallN 2 S_common_divisor (wCons (wBin opIx (wVar 0) (wC (.int 0))) (wCons (wBin opIx (wVar 0) (wC (.int 1))) wNil)))) (wRet (wTup (wCons (wBin opFdiv (wBin opIx (wVar 0) (wC (.int 0))) (wVar 1)) (wCons (wBin opFdiv (wBin opIx (wVar 0) (wC (.int 1))) (wVar 1)) wNil)))))
theorem v_raw_ray : SV (w_raw_ray S_common_divisor) 2 S_raw_ray 1 := by
  rintro ps Q - ⟨p, rfl, h0, hs, q⟩
  unfold w_raw_ray
  walk_at "vx"
  refine ⟨_, _, rfl, ?_⟩
  walk_at "vx"
  have h1 := gcd_pos h0
  have h2 := gcd_lt hs
  refine ⟨divok (by omega) (by omega) (by omega), divok (by omega) (by omega) (by omega), sz (by decide), ?_⟩
  rw [fdiv_nn, fdiv_nn]; exact q
theorem zero_pt : PV.tup [.int 0, .int 0] = pt (0, 0) := rfl
def S_ray_of : SpV := fun ps Q => ∃ p, ps = [pt p] ∧ p ≠ (0, 0) ∧ okPt p = true ∧ Q (.val (pt (rayP p)))
def w_ray_of (S_is_dot : SpV) (S_raw_ray : SpV) : WS := (wSeq (wIfS (wOrT (wNotT (wTst (wCallN 1 S_is_dot (wCons (wVar 0) wNil)))) (wTst (wBin opEq (wVar 0) (wTup (wCons (wC (.int 0)) (wCons (wC (.int 0)) wNil)))))) wNever wNext) (wRet (wCallN 1 S_raw_ray (wCons (wVar 0) wNil))))
theorem v_ray_of : SV (w_ray_of S_is_dot S_raw_ray) 1 S_ray_of 1 := by
  rintro ps Q - ⟨p, rfl, h0, hs, q⟩
  unfold w_ray_of
  walk_at "vx"
  refine ⟨_, rfl, dat2_pt, ?_⟩
  rw [isDot_pt, hs, pt_mk, eq_pt, decide_eq_false h0]
  simp only [Bool.not_true, Bool.false_eq_true, if_false]
  exact ⟨sz (by decide), p, rfl, h0, smP_of hs, q⟩
def turn (p q : Pt) : Int := p.1 * q.2 - p.2 * q.1
def lgP (p : Pt) : Prop := -1000000000000000000 < p.1 ∧ p.1 < 1000000000000000000 ∧ -1000000000000000000 < p.2 ∧ p.2 < 1000000000000000000
theorem lgP_of {p : Pt} (h : smP p) : lgP p := by obtain ⟨h1, h2, h3, h4⟩ := h; unfold lgP; omega
/-- one of the two is no greater than 10 ^ 18 -/
def S_raw_turn : SpV := fun ps Q => ∃ p q, ps = [pt p, pt q] ∧ (lgP p ∨ lgP q) ∧ Q (.val (.int (turn p q)))
def w_raw_turn : WS := (wRet (wBin opSub (wBin opMul (wBin opIx (wVar 0) (wC (.int 0))) (wBin opIx (wVar 1) (wC (.int 1)))) (wBin opMul (wBin opIx (wVar 0) (wC (.int 1))) (wBin opIx (wVar 1) (wC (.int 0))))))
theorem v_raw_turn : SV w_raw_turn 2 S_raw_turn 2 := by
  rintro ps Q - ⟨p, r, rfl, hl, q⟩
  unfold w_raw_turn
  walk_at "vx"
  have h : CMul p.1 r.2 ∧ CMul p.2 r.1 := by
    rcases hl with ⟨h1, h2, h3, h4⟩ | ⟨h1, h2, h3, h4⟩
    · exact ⟨cmul_l h1 h2, cmul_l h3 h4⟩
    · exact ⟨cmul_r h3 h4, cmul_r h1 h2⟩
  exact ⟨h.1, h.2, q⟩
def S_turn_of : SpV := fun ps Q => ∃ p q, ps = [pt p, pt q] ∧ okPt p = true ∧ okPt q = true ∧ Q (.val (.int (turn p q)))
def w_turn_of (S_check_dot : SpV) (S_raw_turn : SpV) : WS := (wSeq (wDrop (wCallN 1 S_check_dot (wCons (wVar 0) wNil))) (wSeq (wDrop (wCallN 1 S_check_dot (wCons (wVar 1) wNil))) (wRet (wCallN 2 S_raw_turn (wCons (wVar 0) (wCons (wVar 1) wNil))))))
theorem v_turn_of : SV (w_turn_of S_check_dot S_raw_turn) 2 S_turn_of 2 := by
  rintro ps Q - ⟨p, r, rfl, hp, hr, q⟩
  unfold w_turn_of
  walk_at "vx"
  exact ⟨_, rfl, hp, _, rfl, hr, _, _, rfl, .inl (lgP_of (smP_of hp)), q⟩
end VM
end
section
set_option Elab.async false
set_option linter.all false
set_option maxRecDepth 100000
namespace VX
open M (ret exc fail draw)
open PySem PySem.Spec PyProof.Rows L2 VE

/-! ### statements -/
def mNext (ρ : Rho) : M (Out × Rho) := ret (.nx, ρ)
def mBreak (ρ : Rho) : M (Out × Rho) := ret (.bk, ρ)
def mCont (ρ : Rho) : M (Out × Rho) := ret (.ct, ρ)
def mNever (ρ : Rho) : M (Out × Rho) := fail
def seqO (b : MS) (o : Out) (ρ1 : Rho) : M (Out × Rho) := match o with
  | .nx => b ρ1
  | .rt r => ret (.rt r, ρ1)
  | .bk => ret (.bk, ρ1)
  | .ct => ret (.ct, ρ1)
def mSeq (a b : MS) (ρ : Rho) : M (Out × Rho) := bnd (a ρ) (f := ⟨fun o ρ1 => seqO b o ρ1⟩)
def mRet (a : ME) (ρ : Rho) : M (Out × Rho) := bnd (a ρ) (f := ⟨fun r ρ1 => ret (.rt r, ρ1)⟩)
def rdN (r : Sl) (ρ : Rho) : M (Out × Rho) := match r with
  | .no => fail
  | .val p => ret (.rt (.val p), ρ)
  | .own xs => ret (.rt (.own xs), ρ)
def mRetN (i : Nat) (ρ : Rho) : M (Out × Rho) := rdN (look ρ i) ρ
def mRet0 (ρ : Rho) : M (Out × Rho) := ret (.rt (.val .non), ρ)
def mIfS (t : MT) (a b : MS) (ρ : Rho) : M (Out × Rho) := bnd (t ρ) (f := ⟨fun k ρ1 => M.ite k (br := ⟨(a ρ1), (b ρ1)⟩)⟩)
def mDrop (a : ME) (ρ : Rho) : M (Out × Rho) := bnd (a ρ) (f := ⟨fun _ ρ1 => ret (.nx, ρ1)⟩)
def mSet (i : Nat) (a : ME) (ρ : Rho) : M (Out × Rho) := bnd (a ρ) (f := ⟨fun r ρ1 => ret (.nx, ρ1.set i r)⟩)
def mPar (is : List Nat) (m : MB) (ρ : Rho) : M (Out × Rho) := bnd (m ρ) (f := ⟨fun rs ρ1 => M.ite (decide (rs.length = is.length) && decide (rs.length ≤ sizeLine)) (br := ⟨(ret (.nx, sets ρ1 is rs)), fail⟩)⟩)
theorem all_const {α : Type} {m : M α} {P : Prop} (h : m.All (fun _ => P) nE) : P := by
  induction m with
  | ret a => exact h
  | exc x => exact h.elim
  | fail => exact h.elim
  | draw n k ih => exact ih 0 (h.2.2 0 (Int.le_refl 0) h.1)
section
variable {X : Cx} {pos : Pos}
theorem xss_nil : XSs X [] mNext := vss_le vss_nil fun D ρ q => q
theorem xss_cons {st : Stmt} {rest : List Stmt} {a b : MS} (h1 : XS X st a) (h2 : XSs X rest b) : XSs X (st :: rest) (mSeq a b) := vss_le (vss_cons h1 h2) fun D ρ q => by
  unfold wS mSeq at q
  rw [all_bnd] at q
  refine M.All.imp q fun p1 q1 => ?_
  obtain ⟨o, ρ1⟩ := p1
  cases o <;> exact q1
theorem xss_one {st : Stmt} {a : MS} (h1 : XS X st a) : XSs X [st] a := vss_one h1
theorem xs_pass : XS X (.Pass pos) mNext := vs_le vs_pass fun D ρ q => q
theorem xs_break : XS X (.Break pos) mBreak := vs_le vs_break fun D ρ q => q
theorem xs_cont : XS X (.Continue pos) mCont := vs_le vs_cont fun D ρ q => q
theorem xs_never {st : Stmt} : XS X st mNever := vs_le vs_never fun D ρ q => q
theorem xs_ret {e : Expr} {m : ME} (he : XE X e m) : XS X (.Return (some e) pos) (mRet m) := vs_le (vs_ret he) fun D ρ q => by
  unfold wS mRet at q
  rw [all_bnd] at q
  exact q
theorem xs_ret0 : XS X (.Return none pos) mRet0 := vs_le vs_ret0 fun D ρ q => q
theorem xs_retN {s : Stmt} {i : Nat} (h : VS X s (wRetN i)) : XS X s (mRetN i) := vs_le h fun D ρ q => by
  unfold wS mRetN at q
  unfold wRetN
  cases z : look ρ i <;> rw [z] at q <;> exact q
theorem xs_if {c : Expr} {p q : List Stmt} {t : MT} {a b : MS} (hc : XT X c t) (ha : XSs X p a) (hb : XSs X q b) : XS X (.If c p q pos) (mIfS t a b) := vs_le (vs_if hc ha hb) fun D ρ q => by
  unfold wS mIfS at q
  rw [all_bnd] at q
  refine M.All.imp q fun p1 q1 => ?_
  rw [all_ite] at q1
  exact q1
theorem xs_expr {s : Stmt} {m : ME} (h : VS X s (wDrop (wE m))) : XS X s (mDrop m) := vs_le h fun D ρ q => by
  unfold wS mDrop at q
  rw [all_bnd] at q
  exact q
theorem xs_set {s : Stmt} {i : Nat} {m : ME} (h : VS X s (wSet i (wE m))) : XS X s (mSet i m) := vs_le h fun D ρ q => by
  unfold wS mSet at q
  rw [all_bnd] at q
  exact q
theorem par_ok {is : List Nat} {m : MB} {D : EndsV} {ρ : Rho} (q : wS (mPar is m) D ρ) : (m ρ).All (fun p => (p.1.length = is.length ∧ p.1.length ≤ sizeLine) ∧ D.nx (sets p.2 is p.1)) nE := by
  unfold wS mPar at q
  rw [all_bnd] at q
  refine M.All.imp q fun p1 q1 => ?_
  exact guard_okA (r := (Out.nx, sets p1.2 is p1.1)) (Q := endO D) (fun h => by simpa using h) q1
theorem xs_par2 {s : Stmt} {i j : Nat} {m : MB} (h : VS X s (wParB i j (wB m))) : XS X s (mPar [i, j] m) := vs_le h fun D ρ q => by
  refine M.All.imp (par_ok q) fun p1 q1 => ?_
  obtain ⟨rs, ρ1⟩ := p1
  match rs, q1 with
  | [p, q], q1 => exact ⟨p, q, rfl, q1.2⟩
  | [], q1 => exact absurd q1.1.1 (by simp)
  | [_], q1 => exact absurd q1.1.1 (by simp)
  | _ :: _ :: _ :: _, q1 => exact absurd q1.1.1 (by simp)
theorem xs_par3 {s : Stmt} {i j l : Nat} {m : MB} (h : VS X s (wParB3 i j l (wB m))) : XS X s (mPar [i, j, l] m) := vs_le h fun D ρ q => by
  refine M.All.imp (par_ok q) fun p1 q1 => ?_
  obtain ⟨rs, ρ1⟩ := p1
  match rs, q1 with
  | [p, q, r], q1 => exact ⟨p, q, r, rfl, q1.2⟩
  | [], q1 => exact absurd q1.1.1 (by simp)
  | [_], q1 => exact absurd q1.1.1 (by simp)
  | [_, _], q1 => exact absurd q1.1.1 (by simp)
  | _ :: _ :: _ :: _ :: _, q1 => exact absurd q1.1.1 (by simp)
theorem xs_parN {s : Stmt} {is : List Nat} {m : MB} (h : VS X s (wAsgB is (wB m))) : XS X s (mPar is m) := vs_le h fun D ρ q => by
  refine M.All.imp (par_ok q) fun p1 q1 => ?_
  exact ⟨q1.1.1, q1.1.2, q1.2⟩
end
/-! targets -/
def tgN (i : Nat) (p : PV) (ρ : Rho) : M Rho := ret (ρ.set i (.val p))
def tgZ (ps : List PV) (ρ : Rho) : M Rho := match ps with
  | [] => ret ρ
  | _ => fail
def tgC (a : MG) (b : MGs) (ps : List PV) (ρ : Rho) : M Rho := match ps with
  | p :: ps => (a p ρ).bind (f := ⟨fun ρ1 => b ps ρ1⟩)
  | [] => fail
def tgT (n : Nat) (b : MGs) (p : PV) (ρ : Rho) : M Rho := match p with
  | .tup ps => M.ite (decide (ps.length = n)) (br := ⟨(b ps ρ), fail⟩)
  | _ => fail
def putIx (r : Sl) (i : Nat) (k : Int) (p : PV) (ρ : Rho) : M Rho := match r with
  | .own xs => match ixN xs.length k with
    | some j => ret (ρ.set i (.own (xs.set j p)))
    | none => fail
  | _ => fail
def tgI0 (q : Sl) (i : Nat) (a : ME) (p : PV) (ρ : Rho) : M Rho := match q with
  | .own _ => bnd (a ρ) (f := ⟨fun q ρ1 => (asI q.pv).bind (f := ⟨fun k => putIx (look ρ1 i) i k p ρ1⟩)⟩)
  | _ => fail
def tgI (i : Nat) (a : ME) (p : PV) (ρ : Rho) : M Rho := tgI0 (look ρ i) i a p ρ
def mAsg (a : ME) (g : MG) (ρ : Rho) : M (Out × Rho) := bnd (a ρ) (f := ⟨fun r ρ1 => (g r.pv ρ1).bind (f := ⟨fun ρ2 => ret (.nx, ρ2)⟩)⟩)
def augS (r : Sl) (i : Nat) (g : Int → Int → Int) (a : ME) (ρ : Rho) : M (Out × Rho) := match r with
  | .val (.int x) => bnd (a ρ) (f := ⟨fun r ρ1 => (asI r.pv).bind (f := ⟨fun y => ret (.nx, ρ1.set i (.val (.int (g x y))))⟩)⟩)
  | _ => fail
def mAug (i : Nat) (g : Int → Int → Int) (a : ME) (ρ : Rho) : M (Out × Rho) := augS (look ρ i) i g a ρ
def putApp (r : Sl) (i : Nat) (p : PV) (ρ : Rho) : M (Out × Rho) := match r with
  | .own xs => M.ite (decide (xs.length < sizeLine)) (br := ⟨ret (.nx, ρ.set i (.own (xs ++ [p]))), fail⟩)
  | _ => fail
def app0 (q : Sl) (i : Nat) (a : ME) (ρ : Rho) : M (Out × Rho) := match q with
  | .own _ => bnd (a ρ) (f := ⟨fun r ρ1 => putApp (look ρ1 i) i r.pv ρ1⟩)
  | _ => fail
def mAppend (i : Nat) (a : ME) (ρ : Rho) : M (Out × Rho) := app0 (look ρ i) i a ρ
def putIns (r : Sl) (i : Nat) (k : Int) (p : PV) (ρ : Rho) : M (Out × Rho) := match r with
  | .own xs => M.ite (decide (xs.length < sizeLine) && decide (0 ≤ k) && decide (k < 2 ^ 63)) (br := ⟨ret (.nx, ρ.set i (.own (xs.take k.toNat ++ [p] ++ xs.drop k.toNat))), fail⟩)
  | _ => fail
def ins0 (q : Sl) (i : Nat) (a b : ME) (ρ : Rho) : M (Out × Rho) := match q with
  | .own _ => bnd (a ρ) (f := ⟨fun q ρ1 => bnd (b ρ1) (f := ⟨fun r ρ2 => (asI q.pv).bind (f := ⟨fun k => putIns (look ρ2 i) i k r.pv ρ2⟩)⟩)⟩)
  | _ => fail
def mInsert (i : Nat) (a b : ME) (ρ : Rho) : M (Out × Rho) := ins0 (look ρ i) i a b ρ
section
variable {X : Cx} {pos : Pos}
theorem xg_name {e : Expr} {i : Nat} (h : VG X e [i] (wgName i)) : XG X e [i] (tgN i) := vg_le h fun p ρ Q q => q
theorem xgs_nil : XGs X [] [] tgZ := vgs_le vgs_nil fun p ρ Q q => by
  unfold wGs tgZ at q
  split at q
  · exact ⟨rfl, q⟩
  · exact q.elim
theorem xgs_cons {e : Expr} {es : List Expr} {a : MG} {b : MGs} {v1 v2 : List Nat} (h1 : XG X e v1 a) (h2 : XGs X es v2 b)
    (hs : (assignEach (e :: es) X.env).map (·.2) = assign e X.env :: (assignEach es X.env).map (·.2) := by rfl) : XGs X (e :: es) (v1 ++ v2) (tgC a b) := vgs_le (vgs_cons h1 h2 hs) fun p ρ Q q => by
  unfold wGs tgC at q
  unfold wgCons
  split at q
  · rw [all_bind] at q
    exact q
  · exact q.elim
theorem xg_tup {es : List Expr} {k : Nat} {t : MGs} {n : Nat} {vs : List Nat} (hc : X.calm = true) (h : XGs X es vs t)
    (hn : (assignEach es X.env).length = n := by rfl) (hst : (assignEach es X.env).findIdx? (·.1) = none := by rfl) : XG X (.Tuple es k pos) vs (tgT n t) := vg_le (vg_tup hc h hn hst) fun p ρ Q q => by
  unfold wG tgT at q
  unfold wgTup
  split at q
  · rw [all_ite] at q
    split at q
    · rename_i hl
      exact ⟨of_decide_eq_true hl, q⟩
    · exact q.elim
  · exact q.elim
theorem xg_ix {e : Expr} {i : Nat} {m : ME} (h : VG X e [] (wgIx i (wE m))) : XG X e [] (tgI i m) := vg_le h fun p ρ Q q => by
  unfold wG tgI tgI0 at q
  unfold wgIx
  split at q
  · rename_i xs0 z
    refine ⟨⟨xs0, z⟩, ?_⟩
    rw [all_bnd] at q
    refine M.All.imp q fun p1 q1 => ?_
    rw [all_bind] at q1
    obtain ⟨k, e, q2⟩ := asI_ok q1
    rw [e]
    try dsimp only
    unfold putIx at q2
    split at q2
    · rename_i xs z1
      try rw [z1]
      try dsimp only
      split at q2
      · rename_i j hj
        exact ⟨j, hj, q2⟩
      · exact q2.elim
    · exact q2.elim
  · exact q.elim
theorem xs_asg {s : Stmt} {m : ME} {g : MG} (h : VS X s (wAsg (wE m) (wG g))) : XS X s (mAsg m g) := vs_le h fun D ρ q => by
  unfold wS mAsg at q
  rw [all_bnd] at q
  refine M.All.imp q fun p1 q1 => ?_
  rw [all_bind] at q1
  exact q1
theorem xs_aug {s : Stmt} {i : Nat} {g : Int → Int → Int} {m : ME} (h : VS X s (wAug i g (wE m))) : XS X s (mAug i g m) := vs_le h fun D ρ q => by
  unfold wS mAug augS at q
  unfold wAug
  split at q
  · rename_i x z
    try rw [z]
    try dsimp only
    rw [all_bnd] at q
    refine M.All.imp q fun p1 q1 => ?_
    rw [all_bind] at q1
    obtain ⟨k, e, q2⟩ := asI_ok q1
    rw [e]; exact q2
  · exact q.elim
theorem xs_append {s : Stmt} {i : Nat} {m : ME} (h : VS X s (wAppend i (wE m))) : XS X s (mAppend i m) := vs_le h fun D ρ q => by
  unfold wS mAppend app0 at q
  unfold wAppend
  split at q
  · rename_i xs0 z
    refine ⟨⟨xs0, z⟩, ?_⟩
    rw [all_bnd] at q
    refine M.All.imp q fun p1 q1 => ?_
    unfold putApp at q1
    split at q1
    · rename_i xs z1
      try rw [z1]
      exact guard_okA (Q := endO D) (r := (Out.nx, _)) (fun h => of_decide_eq_true h) q1
    · exact q1.elim
  · exact q.elim
theorem xs_insert {s : Stmt} {i : Nat} {m1 m : ME} (h : VS X s (wInsert i (wE m1) (wE m))) : XS X s (mInsert i m1 m) := vs_le h fun D ρ q => by
  unfold wS mInsert ins0 at q
  unfold wInsert
  split at q
  · rename_i xs0 z
    refine ⟨⟨xs0, z⟩, ?_⟩
    rw [all_bnd] at q
    refine M.All.imp q fun p1 q1 => ?_
    rw [all_bnd] at q1
    refine M.All.imp q1 fun p2 q2 => ?_
    rw [all_bind] at q2
    obtain ⟨k, e, q3⟩ := asI_ok q2
    rw [e]
    try dsimp only
    unfold putIns at q3
    split at q3
    · rename_i xs z1
      try rw [z1]
      have := guard_okA (Q := endO D) (r := (Out.nx, _)) (P := (xs.length < sizeLine ∧ 0 ≤ k) ∧ k < 2 ^ 63) (fun h => by simpa only [Bool.and_eq_true, decide_eq_true_eq] using h) q3
      exact ⟨this.1.1.1, this.1.1.2, this.1.2, this.2⟩
    · exact q3.elim
  · exact q.elim
end
/-! ### what is walked -/
def asL (p : PV) : M (List PV) := match p with
  | .lst xs => ret xs
  | .tup xs => ret xs
  | _ => fail
def iSeq (a : ME) (ρ : Rho) : M (List PV × Rho) := bnd (a ρ) (f := ⟨fun r ρ1 => (asL r.pv).bind (f := ⟨fun xs => ret (xs, ρ1)⟩)⟩)
def rngB (j : Int) : Bool := decide (j < 2 ^ 61) && decide (-(2 ^ 61) < j)
def rng1 (ps : List PV) : M (List PV) := match ps with
  | [.int j] => M.ite (rngB j) (br := ⟨(ret (rangeP 0 j.toNat)), fail⟩)
  | _ => fail
def rng2 (ps : List PV) : M (List PV) := match ps with
  | [.int i, .int j] => M.ite (rngB j && rngB i) (br := ⟨(ret (rangeP i (j - i).toNat)), fail⟩)
  | _ => fail
def zipM (ps : List PV) : M (List PV) := match ps with
  | [.lst xs, .lst ys] => ret (zipP xs ys)
  | [.tup xs, .tup ys] => ret (zipP xs ys)
  | _ => fail
def enumM (ps : List PV) : M (List PV) := match ps with
  | [.lst xs] => ret (enumP 0 xs)
  | _ => fail
def iArg (f : List PV → M (List PV)) (a : MA) (ρ : Rho) : M (List PV × Rho) := bnd (a ρ) (f := ⟨fun ps ρ1 => (f ps).bind (f := ⟨fun xs => ret (xs, ρ1)⟩)⟩)
section
variable {X : Cx} {pos : Pos} {tg : Expr}
theorem xi_seq {l : Expr} {m : ME} (hl : XE X l m) : XI X tg l (iSeq m) := vi_le (vi_seq hl) fun ρ Q q => by
  unfold wI iSeq at q
  rw [all_bnd] at q
  refine M.All.imp q fun p1 q1 => ?_
  rw [all_bind] at q1
  unfold asL at q1
  show match p1.1.pv with
    | .lst xs => Q xs p1.2
    | .tup xs => Q xs p1.2
    | _ => False
  generalize p1.1.pv = z at q1 ⊢
  cases z <;> exact q1
theorem xi_rng1 {e : Expr} {m : MA} (h : VI X tg e (wiRng1 (wA m))) : XI X tg e (iArg rng1 m) := vi_le h fun ρ Q q => by
  unfold wI iArg at q
  rw [all_bnd] at q
  refine M.All.imp q fun p1 q1 => ?_
  rw [all_bind] at q1
  unfold rng1 at q1
  split at q1
  · rename_i j e
    have := guard_okA (P := j < 2 ^ 61 ∧ -(2 ^ 61) < j) (fun h => by simpa only [rngB, Bool.and_eq_true, decide_eq_true_eq] using h) q1
    rw [e]
    exact ⟨this.1.1, this.1.2, this.2⟩
  · exact q1.elim
theorem xi_rng2 {e : Expr} {m : MA} (h : VI X tg e (wiRng2 (wA m))) : XI X tg e (iArg rng2 m) := vi_le h fun ρ Q q => by
  unfold wI iArg at q
  rw [all_bnd] at q
  refine M.All.imp q fun p1 q1 => ?_
  rw [all_bind] at q1
  unfold rng2 at q1
  split at q1
  · rename_i i j e
    have := guard_okA (P := (j < 2 ^ 61 ∧ -(2 ^ 61) < j) ∧ i < 2 ^ 61 ∧ -(2 ^ 61) < i) (fun h => by simpa only [rngB, Bool.and_eq_true, decide_eq_true_eq] using h) q1
    rw [e]
    exact ⟨⟨this.1.1.1, this.1.1.2, this.1.2.1, this.1.2.2⟩, this.2⟩
  · exact q1.elim
theorem xi_zip {e : Expr} {m : MA} (h : VI X tg e (wiZip (wA m))) : XI X tg e (iArg zipM m) := vi_le h fun ρ Q q => by
  unfold wI iArg at q
  rw [all_bnd] at q
  refine M.All.imp q fun p1 q1 => ?_
  rw [all_bind] at q1
  unfold zipM at q1
  split at q1
  · rename_i xs ys e; rw [e]; exact q1
  · rename_i xs ys e; rw [e]; exact q1
  · exact q1.elim
theorem xi_enum {e : Expr} {m : MA} (h : VI X tg e (wiEnum (wA m))) : XI X tg e (iArg enumM m) := vi_le h fun ρ Q q => by
  unfold wI iArg at q
  rw [all_bnd] at q
  refine M.All.imp q fun p1 q1 => ?_
  rw [all_bind] at q1
  unfold enumM at q1
  split at q1
  · rename_i xs e; rw [e]; exact q1
  · exact q1.elim
end
/-! ### loops -/
def forStep (g : MG) (b : MS) (p : PV) (ρ : Rho) : M (Out × Rho) := (g p ρ).bind (f := ⟨fun ρ1 => b ρ1⟩)
def mForL (g : MG) (b : MS) : List PV → Rho → M (Out × Rho)
  | [], ρ => ret (.nx, ρ)
  | p :: ps, ρ => bnd (forStep g b p ρ) (f := ⟨fun o ρ2 => Out.casesOn o (mForL g b ps ρ2) (fun r => ret (.rt r, ρ2)) (ret (.nx, ρ2)) (mForL g b ps ρ2)⟩)
def mFor (it : MI) (g : MG) (b : MS) (ρ : Rho) : M (Out × Rho) := bnd (it ρ) (f := ⟨fun ps ρ1 => mForL g b ps ρ1⟩)
def mWhileN (t : MT) (b : MS) : Nat → Rho → M (Out × Rho)
  | 0, _ => fail
  | n + 1, ρ => bnd (t ρ) (f := ⟨fun k ρ1 => M.ite k (br := ⟨bnd (b ρ1) (f := ⟨fun o ρ2 => Out.casesOn o (mWhileN t b n ρ2) (fun r => ret (.rt r, ρ2)) (ret (.nx, ρ2)) (mWhileN t b n ρ2)⟩), ret (.nx, ρ1)⟩)⟩)
def fuel : Nat := 10 ^ 60
def mWhile (t : MT) (b : MS) (ρ : Rho) : M (Out × Rho) := mWhileN t b fuel ρ
def compStep (g : MG) (t : MT) (e : ME) (vs : List Nat) (p : PV) (ρ : Rho) : M (Option PV × Rho) := (g p ρ).bind (f := ⟨fun ρ1 => bnd (t ρ1) (f := ⟨fun k ρ2 => M.ite k (br := ⟨(bnd (e ρ2) (f := ⟨fun r ρ3 => ret (some r.pv, wipeR ρ3 vs)⟩)), (ret (none, wipeR ρ2 vs))⟩)⟩)⟩)
def mCompL (g : MG) (t : MT) (e : ME) (vs : List Nat) : List PV → Rho → M (List PV × Rho)
  | [], ρ => ret ([], ρ)
  | p :: ps, ρ => bnd (compStep g t e vs p ρ) (f := ⟨fun o ρ1 => bnd (mCompL g t e vs ps ρ1) (f := ⟨fun ys ρ2 => ret (o.toList ++ ys, ρ2)⟩)⟩)
def mComp (it : MI) (g : MG) (t : MT) (e : ME) (vs : List Nat) (ρ : Rho) : M (Sl × Rho) := bnd (it ρ) (f := ⟨fun ps ρ1 => M.ite (VM.noOwnB ρ1 vs) (br := ⟨(bnd (mCompL g t e vs ps (wipeR ρ1 vs)) (f := ⟨fun ys ρ2 => M.ite (szT ys) (br := ⟨(ret (.own ys, backR ρ1 ρ2 vs)), fail⟩)⟩)), fail⟩)⟩)
def mYes (ρ : Rho) : M (Bool × Rho) := ret (true, ρ)
abbrev XTs (X : Cx) (es : List Expr) (m : MT) : Prop := VTs X es (wT m)
theorem forL_ok {g : MG} {b : MS} {D : EndsV} : ∀ (ps : List PV) (ρ : Rho), (mForL g b ps ρ).All (endO D) nE → forL (wG g) (wS b) ps D ρ
  | [], ρ, h => h
  | p :: ps, ρ, h => by
    unfold mForL forStep at h
    rw [bnd_bind, all_bind] at h
    refine M.All.imp h fun ρ1 h1 => ?_
    rw [all_bnd] at h1
    refine M.All.imp h1 fun p1 h2 => ?_
    obtain ⟨o, ρ2⟩ := p1
    cases o with
    | nx => exact forL_ok ps ρ2 h2
    | ct => exact forL_ok ps ρ2 h2
    | bk => exact h2
    | rt r => exact h2
theorem whileN_ok {t : MT} {b : MS} {D : EndsV} : ∀ (n : Nat) (ρ : Rho), (mWhileN t b n ρ).All (endO D) nE → whileN (wT t) (wS b) n D ρ
  | 0, ρ, h => h
  | n + 1, ρ, h => by
    unfold mWhileN at h
    rw [all_bnd] at h
    refine M.All.imp h fun p0 h0 => ?_
    rw [all_ite] at h0
    show if p0.1 = true then _ else _
    split at h0
    · rename_i hk
      rw [if_pos hk]
      rw [all_bnd] at h0
      refine M.All.imp h0 fun p1 h2 => ?_
      obtain ⟨o, ρ2⟩ := p1
      cases o with
      | nx => exact whileN_ok n ρ2 h2
      | ct => exact whileN_ok n ρ2 h2
      | bk => exact h2
      | rt r => exact h2
    · rename_i hk
      rw [if_neg hk]
      exact h0
theorem compL_ok {g : MG} {t : MT} {e : ME} {vs : List Nat} {Q : List PV → Rho → Prop} : ∀ (ps acc : List PV) (ρ : Rho), (mCompL g t e vs ps ρ).All (fun p => (acc ++ p.1).length ≤ sizeLine ∧ Q (acc ++ p.1) p.2) nE → compL (wG g) (wT t) (wE e) vs ps acc ρ Q
  | [], acc, ρ, h => by
    have h2 : Q (acc ++ []) ρ := h.2
    rw [List.append_nil] at h2
    exact h2
  | p :: ps, acc, ρ, h => by
    unfold mCompL compStep at h
    rw [bnd_bind, all_bind] at h
    refine M.All.imp h fun ρ1 h1 => ?_
    rw [bnd_bnd, all_bnd] at h1
    refine M.All.imp h1 fun p1 h2 => ?_
    rw [bnd_ite, all_ite] at h2
    show if p1.1 = true then _ else _
    split at h2
    · rename_i hk
      rw [if_pos hk]
      rw [bnd_bnd, all_bnd] at h2
      refine M.All.imp h2 fun p2 h3 => ?_
      rw [bnd_ret, all_bnd] at h3
      refine ⟨?_, compL_ok ps (acc ++ [p2.1.pv]) _ (M.All.imp h3 fun p3 h4 => ?_)⟩
      · refine all_const (M.All.imp h3 fun p3 h4 => ?_)
        have := (show (acc ++ (p2.1.pv :: p3.1)).length ≤ sizeLine from h4.1)
        rw [List.length_append, List.length_cons] at this
        omega
      · have h5 : (acc ++ (p2.1.pv :: p3.1)).length ≤ sizeLine ∧ Q (acc ++ (p2.1.pv :: p3.1)) p3.2 := h4
        rw [List.append_assoc]
        exact h5
    · rename_i hk
      rw [if_neg hk]
      rw [bnd_ret, all_bnd] at h2
      exact compL_ok ps acc _ (M.All.imp h2 fun p3 h4 => h4)
theorem comp_ok {it : MI} {g : MG} {t : MT} {e : ME} {vs : List Nat} : ∀ ρ Q, wE (mComp it g t e vs) ρ Q → wComp (wI it) (wG g) (wT t) (wE e) vs ρ Q := fun ρ Q q => by
  unfold wE mComp at q
  rw [all_bnd] at q
  refine M.All.imp q fun p1 q1 => ?_
  rw [all_ite] at q1
  split at q1
  · rename_i hn
    refine ⟨?_, compL_ok _ [] _ ?_⟩
    · rw [VM.noOwn_eq]; exact hn
    · rw [all_bnd] at q1
      refine M.All.imp q1 fun p2 q2 => ?_
      have := guard_okA (r := (Sl.own p2.1, backR p1.2 p2.2 vs)) (Q := fun p => Q p.1 p.2) (P := p2.1.length ≤ sizeLine) (fun h => of_decide_eq_true h) q2
      exact this
  · exact q1.elim
section
variable {X : Cx} {pos : Pos}
theorem xts_nil : XTs X [] mYes := ⟨fun pins s σ H Q I ⟨hO, Fr, F, ρ, Qv, R, h, k⟩ => vts_nil.run pins s σ H Q I ⟨hO, Fr, F, ρ, Qv, R, h, k⟩⟩
theorem xts_one {c : Expr} {t : MT} (h : XT X c t) : XTs X [c] t := vts_one h
theorem xs_for {s : Stmt} {it : MI} {g : MG} {b : MS} (h : VS X s (wFor (wI it) (wG g) (wS b))) : XS X s (mFor it g b) := vs_le h fun D ρ q => by
  unfold wS mFor at q
  rw [all_bnd] at q
  exact M.All.imp q fun p1 q1 => forL_ok _ _ q1
theorem xs_while {s : Stmt} {t : MT} {b : MS} (h : VS X s (wWhile (wT t) (wS b))) : XS X s (mWhile t b) := vs_le h fun D ρ q => ⟨fuel, whileN_ok _ _ q⟩
theorem xe_comp {e : Expr} {it : MI} {g : MG} {t : MT} {m : ME} {vs : List Nat} (h : VE X e (wComp (wI it) (wG g) (wT t) (wE m) vs)) : XE X e (mComp it g t m vs) := ve_le h comp_ok
theorem xs_setLc {s : Stmt} {i : Nat} {it : MI} {g : MG} {t : MT} {m : ME} {vs : List Nat} (h : VS X s (wSet i (wComp (wI it) (wG g) (wT t) (wE m) vs))) : XS X s (mSet i (mComp it g t m vs)) := vs_le h fun D ρ q => by
  unfold wS mSet at q
  rw [all_bnd] at q
  exact comp_ok ρ _ q
end
/-! ### a def's tree -/
def endF (o : Out) : M Sl := match o with
  | .nx => ret (.val .non)
  | .rt r => ret r
  | _ => fail
def runM (s : MS) (n : Nat) : FM := fun ps => bnd (s (startR n ps)) (f := ⟨fun o _ => endF o⟩)
theorem v_run {s : MS} {n m : Nat} : VM.SV (wS s) n (SM (runM s n)) m := fun ps Q _ h => by
  unfold SM runM at h
  rw [all_bnd] at h
  refine M.All.imp h fun p q => ?_
  obtain ⟨o, ρ⟩ := p
  cases o with
  | nx => exact q
  | rt r => exact q
  | bk => exact q.elim
  | ct => exact q.elim
/-- a draw -/
def c__law_draw : FM := fun ps => match ps with
  | [.hnd, .int m] => M.draw m fun r => ret (.val (.int r))
  | _ => fail
theorem draw_ok : FnOkM c__law_draw S__law_draw := fun ps Q h => by
  unfold c__law_draw at h
  split at h
  · rename_i m
    exact ⟨m, rfl, h.1, h.2.1, h.2.2⟩
  · exact h.elim
/-- the law itself: slots, the hand in the second -/
theorem law_run {s : MS} {n : Nat} (h : (bnd (s (startL n)) (f := ⟨fun o _ => endF o⟩)).All (fun r => r = .val (.bl true)) nE) : wS s { nx := fun _ => False, rt := fun r => r = .val (.bl true) } (startL n) := by
  rw [all_bnd] at h
  refine M.All.imp h fun p q => ?_
  obtain ⟨o, ρ⟩ := p
  cases o with
  | nx => exact absurd (show Sl.val .non = .val (.bl true) from q) (by intro z; cases z)
  | rt r => exact q
  | bk => exact q.elim
  | ct => exact q.elim
end VX
end
section
set_option Elab.async false
set_option linter.all false
set_option maxRecDepth 100000
set_option maxHeartbeats 4000000
open PySem PySem.Spec PyProof.Rows L2 VE PySem.W
local macro_rules | `(tactic| walk_at "vx") => `(tactic| simp (config := {decide := false}) only [wVar, wC, wBin, wUn, wTst, wAndT, wOrT, wNotT, wAndV, wOrV, wNotV, wIf, wNil, wCons, wTup, wLst, wSl, wNoPart, wPart, wCall, wCallN, wNext, wSeq, wBreak, wCont, wNever, wRet, wRetN, wRet0, wIfS, wDrop, wSet, wPar, wPar3, wgName, wgNil, wgCons, wgTup, wgIx, wAsg, wAug, wAppend, wInsert, wiSeq, wiRng1, wiRng2, wiZip, wiEnum, wFor, wYes, wComp, wChain, wipeR, backR, look, VM.ex2, VM.ex3, VM.eq_int, VM.ne_int, VM.eq_bl, VM.ne_bl, VM.is_non, VM.isnot_non, decide_true, decide_false, decide_eq_true_eq, eq_self, VM.pv_val, VM.pv_own, VM.noOwn_eq, VM.noOwnB, List.all_cons, List.all_nil, Bool.and_self, opInt, opSub, opMod, opFdiv, opPow, opCmpI, opLt, opLe, opGt, opGe, opAdd, opMul, opNeg, opLen, opAbs, opIntC, opMax2, opMin2, opList, opTuple, opSl, startR,
  List.set_cons_zero, List.set_cons_succ, List.length_cons, List.length_nil, List.map_cons, List.map_nil, List.replicate_succ, List.replicate_zero, List.nil_append, List.cons_append, Nat.zero_add, Nat.reduceAdd, Nat.reduceSub, if_true, if_false, true_and, and_true, Bool.false_eq_true, ite_true, ite_false, List.cons.injEq, PV.int.injEq, PV.bl.injEq, exists_eq_left, exists_eq_left', exists_and_left, and_self, reduceCtorEq, Bool.not_true, Bool.not_false, ite_self])
namespace VM
section
variable {α β : Type}
/-- data in an order -/
class Do (α : Type) [DecidableEq α] [Dm α] where
  ltb : α → α → Bool
  alk : ∀ a b : α, alike (Dm.dd a) (Dm.dd b) = true
  nn : ∀ a : α, Dm.dd a ≠ PyData.none
  lt_eq : ∀ a b : α, dataLt (Dm.dd a) (Dm.dd b) = ltb a b
  irr : ∀ a : α, ltb a a = false
  trn : ∀ a b c : α, ltb a b = true → ltb b c = true → ltb a c = true
  tot : ∀ a b : α, ltb a b = false → ltb b a = false → a = b
instance : Do Int where
  ltb a b := decide (a < b)
  alk a b := rfl
  nn a := fun h => nomatch h
  lt_eq a b := dataLt_int a b
  irr a := by simp
  trn a b c h1 h2 := by simp at *; omega
  tot a b h1 h2 := by simp at *; omega
variable [DecidableEq α] [Dm α] [Do α] [DecidableEq β] [Dm β] [Do β]
instance : Do (α × β) where
  ltb p q := Do.ltb p.1 q.1 || (decide (p.1 = q.1) && Do.ltb p.2 q.2)
  alk p q := by
    show alike (.tuple [_, _]) (.tuple [_, _]) = true
    simp [alike, alikeAll, Do.alk]
  nn p := fun h => nomatch h
  lt_eq p q := by
    show dataLt (.tuple [_, _]) (.tuple [_, _]) = _
    rw [dataLt_pair (Do.alk _ _) (Do.alk _ _), Dm.eqv, Dm.eqv, Do.lt_eq, Do.lt_eq]
    by_cases h1 : p.1 = q.1
    · by_cases h2 : p.2 = q.2
      · simp [h1, h2, Do.irr]
      · simp [h1, h2, Do.irr]
    · simp [h1]
  irr p := by simp [Do.irr]
  trn p q r h1 h2 := by
    simp only [Bool.or_eq_true, Bool.and_eq_true, decide_eq_true_eq] at *
    rcases h1 with h1 | ⟨h1, h1'⟩ <;> rcases h2 with h2 | ⟨h2, h2'⟩
    · exact .inl (Do.trn _ _ _ h1 h2)
    · exact .inl (by rw [← h2]; exact h1)
    · exact .inl (by rw [h1]; exact h2)
    · exact .inr ⟨h1.trans h2, Do.trn _ _ _ h1' h2'⟩
  tot p q h1 h2 := by
    simp only [Bool.or_eq_false_iff] at *
    have e : p.1 = q.1 := Do.tot _ _ h1.1 h2.1
    have h3 := h1.2
    have h4 := h2.2
    simp only [e, decide_true, Bool.true_and] at h3 h4
    exact Prod.ext e (Do.tot _ _ h3 h4)
theorem Do.le_trans {a b c : α} (h1 : Do.ltb b a = false) (h2 : Do.ltb c b = false) : Do.ltb c a = false := by
  cases h : Do.ltb c a with
  | false => rfl
  | true =>
    cases h3 : Do.ltb a b with
    | true => rw [Do.trn _ _ _ h h3] at h2; cases h2
    | false =>
      have e := Do.tot a b h3 h1
      rw [e, h2] at h; cases h
theorem Dm.dd_inj {a b : α} (h : Dm.dd a = Dm.dd b) : a = b := by
  have h1 := Dm.eqv a b
  have h2 := Dm.eqv b b
  rw [h, h2] at h1
  exact of_decide_eq_true (by rw [← h1]; simp)
def minL (d : α) (l : List α) : α := l.foldl (fun a y => if Do.ltb y a then y else a) d
theorem minD_eq (d : α) (l : List α) : minD (Dm.dd d) (l.map Dm.dd) = Dm.dd (minL d l) := by
  unfold minD minL
  induction l generalizing d with
  | nil => rfl
  | cons x l ih =>
    simp only [List.map_cons, List.foldl_cons, Do.lt_eq]
    rw [← ih]
    congr 1
    split <;> rfl
theorem minL_spec (d : α) (l : List α) : minL d l ∈ d :: l ∧ ∀ y ∈ d :: l, Do.ltb y (minL d l) = false := by
  unfold minL
  induction l generalizing d with
  | nil => simp [Do.irr]
  | cons x l ih =>
    simp only [List.foldl_cons]
    cases h : Do.ltb x d with
    | true =>
      obtain ⟨h1, h2⟩ := ih x
      simp only [if_true]
      refine ⟨List.mem_cons_of_mem _ h1, fun y hy => ?_⟩
      rcases List.mem_cons.mp hy with rfl | hy
      · refine Do.le_trans (h2 x List.mem_cons_self) ?_
        cases h3 : Do.ltb y x with
        | false => rfl
        | true => have := Do.trn _ _ _ h h3; rw [Do.irr] at this; cases this
      · exact h2 y hy
    | false =>
      obtain ⟨h1, h2⟩ := ih d
      simp only [Bool.false_eq_true, if_false]
      refine ⟨?_, fun y hy => ?_⟩
      · rcases List.mem_cons.mp h1 with h1 | h1
        · rw [h1]; exact List.mem_cons_self
        · exact List.mem_cons_of_mem _ (List.mem_cons_of_mem _ h1)
      · rcases List.mem_cons.mp hy with rfl | hy
        · exact h2 y List.mem_cons_self
        · rcases List.mem_cons.mp hy with rfl | hy
          · exact Do.le_trans (h2 d List.mem_cons_self) h
          · exact h2 y (List.mem_cons_of_mem _ hy)
theorem min_dm {l : List α} {Q : Sl → Prop} (hn : l ≠ []) (hd : Dm.dep α ≤ 64) (q : ∀ m ∈ l, (∀ y ∈ l, Do.ltb y m = false) → Q (.val (Dm.emb m))) : opMinD [.lst (l.map Dm.emb)] Q := by
  cases l with
  | nil => exact absurd rfl hn
  | cons d l =>
    refine ⟨_, Dm.dd d, l.map Dm.dd, .inl rfl, toDs_map (d :: l), ⟨fun x hx y hy => ?_, fun x hx => ?_⟩, ?_, fun p hp e => ?_⟩
    · obtain ⟨a, _, rfl⟩ := List.mem_map.mp (show x ∈ (d :: l).map Dm.dd from hx)
      obtain ⟨b, _, rfl⟩ := List.mem_map.mp (show y ∈ (d :: l).map Dm.dd from hy)
      exact Do.alk a b
    · obtain ⟨a, _, rfl⟩ := List.mem_map.mp (show x ∈ (d :: l).map Dm.dd from hx)
      exact Do.nn a
    · exact Nat.le_trans (depAll_map (d :: l)) hd
    · obtain ⟨a, ha, rfl⟩ := List.mem_map.mp hp
      rw [Dm.toD_emb, minD_eq] at e
      have e2 : a = minL d l := Dm.dd_inj (by injection e)
      obtain ⟨h1, h2⟩ := minL_spec d l
      rw [e2]
      exact q _ h1 h2
end
def rangeI (lo : Int) (n : Nat) : List Int := (List.range n).map fun (i : Nat) => lo + (i : Int)
theorem rangeP_I (lo : Int) (n : Nat) : rangeP lo n = (rangeI lo n).map PV.int := by unfold rangeP rangeI; rw [List.map_map]; rfl
theorem mem_rangeI {lo : Int} {n : Nat} {t : Int} : t ∈ rangeI lo n ↔ lo ≤ t ∧ t < lo + n := by
  unfold rangeI
  rw [List.mem_map]
  constructor
  · rintro ⟨i, hi, rfl⟩; rw [List.mem_range] at hi; omega
  · intro h; exact ⟨(t - lo).toNat, List.mem_range.mpr (by omega), by omega⟩
theorem rangeI_len {lo : Int} {n : Nat} : (rangeI lo n).length = n := by unfold rangeI; simp
/-- a for over typed items -/
theorem forL_typed {α : Type} {g : WG} {wb : WS} {D : EndsV} {ρ : Rho} (emb : α → PV) {ys : List α} (J : List α → Rho → Prop) (h0 : J [] ρ)
    (hs : ∀ done y, (y ∈ ys ∧ done.length < ys.length) → ∀ ρ, J done ρ → ∀ N : Rho → Prop, (∀ ρ', J (done ++ [y]) ρ' → N ρ') → g (emb y) ρ fun ρ1 => wb { D with nx := N, ct := N, bk := D.nx } ρ1)
    (he : ∀ ρ, J ys ρ → D.nx ρ) : forL g wb (ys.map emb) D ρ := by
  refine forL_ind (J := fun rest ρ => ∃ done zs, rest = zs.map emb ∧ done ++ zs = ys ∧ J done ρ) ?_ ?_ _ _ ⟨[], ys, rfl, rfl, h0⟩
  · rintro x xs ρ ⟨done, zs, e, rfl, h⟩ N hN
    cases zs with
    | nil => cases e
    | cons z zs =>
      cases e
      exact hs done z ⟨by simp, by simp⟩ ρ h N fun ρ' h' => hN ρ' ⟨done ++ [z], zs, rfl, by simp, h'⟩
  · rintro ρ ⟨done, zs, e, rfl, h⟩
    cases zs with
    | nil => rw [List.append_nil] at he; exact he ρ h
    | cons z zs => cases e
end VM
end
section
set_option Elab.async false
set_option linter.all false
set_option maxRecDepth 100000
namespace VX
open M (ret exc fail draw)
open PySem PySem.Spec PyProof.Rows L2 VE VM

/-! ### equations of the operators over typed things -/
theorem cmulb_l {a b : Int} (h1 : -1000000000000000000 < a) (h2 : a < 1000000000000000000) : cmulB a b = true := by
  unfold cmulB; simp only [Bool.or_eq_true, Bool.and_eq_true, decide_eq_true_eq]; exact .inl ⟨by omega, by omega⟩
theorem cmulb_r {a b : Int} (h1 : -1000000000000000000 < b) (h2 : b < 1000000000000000000) : cmulB a b = true := by
  unfold cmulB; simp only [Bool.or_eq_true, Bool.and_eq_true, decide_eq_true_eq]; exact .inr ⟨by omega, by omega⟩
theorem divb {a b : Int} (h : b ≠ 0) (h1 : -1073741824 < b) (h2 : b < 1073741824) : divB a b = true := by
  unfold divB; simp only [Bool.or_eq_true, Bool.and_eq_true, decide_eq_true_eq]; exact .inl ⟨h, by omega⟩
theorem add_ii {i j : Int} : pAdd (.int i) (.int j) = ret (.val (.int (i + j))) := rfl
theorem sub_ii {i j : Int} : pSub (.int i) (.int j) = ret (.val (.int (i - j))) := rfl
theorem mul_ii {i j : Int} (h : cmulB i j = true) : pMul (.int i) (.int j) = ret (.val (.int (i * j))) := mite_p h
theorem fdiv_ii {i j : Int} (h : divB i j = true) : pFdiv (.int i) (.int j) = ret (.val (.int (i.fdiv j))) := mite_p h
theorem mod_ii {i j : Int} (h : j ≠ 0) : pMod (.int i) (.int j) = ret (.val (.int (i.fmod j))) := mite_p (decide_eq_true h)
theorem lt_ii {i j : Int} : pLt (.int i) (.int j) = ret (.val (.bl (decide (i < j)))) := rfl
theorem le_ii {i j : Int} : pLe (.int i) (.int j) = ret (.val (.bl (decide (i ≤ j)))) := rfl
theorem gt_ii {i j : Int} : pGt (.int i) (.int j) = ret (.val (.bl (decide (j < i)))) := rfl
theorem ge_ii {i j : Int} : pGe (.int i) (.int j) = ret (.val (.bl (decide (j ≤ i)))) := rfl
theorem neg_i {i : Int} : pNeg (.int i) = ret (.val (.int (-i))) := rfl
theorem szT_of {xs : List PV} (h : xs.length ≤ 1000000) : szT xs = true := decide_eq_true (by rw [sizeLine_eq]; omega)
theorem szd {n : Nat} (h : n ≤ 1000000) : decide (n ≤ sizeLine) = true := decide_eq_true (by rw [sizeLine_eq]; omega)
theorem szdl {n : Nat} (h : n ≤ 1000000) : decide (n < sizeLine) = true := decide_eq_true (by rw [sizeLine_eq]; omega)
theorem add_tt {xs ys : List PV} (h : xs.length + ys.length ≤ 1000000) : pAdd (.tup xs) (.tup ys) = ret (.val (.tup (xs ++ ys))) := mite_p (szd h)
theorem add_ll {xs ys : List PV} (h : xs.length + ys.length ≤ 1000000) : pAdd (.lst xs) (.lst ys) = ret (.own (xs ++ ys)) := mite_p (szd h)
section
variable {α : Type} [DecidableEq α] [Dm α]
theorem emb_ne_str {a : α} {x : Str} (h : Dm.emb a = .str x) : ∃ d : PyData, Dm.dd a = .str x := by
  have := Dm.toD_emb a
  rw [h] at this
  simp [toD] at this
  exact ⟨.str x, this.symm⟩
theorem eqP_dm {a b : α} (h : Dm.dep α ≤ 64) : eqP (Dm.emb a) (Dm.emb b) = some (decide (a = b)) := by
  unfold eqP
  split
  · rename_i x y e1 e2
    obtain ⟨_, h1⟩ := emb_ne_str e1
    obtain ⟨_, h2⟩ := emb_ne_str e2
    have := Dm.eqv a b
    rw [h1, h2, eqv_str] at this
    rw [this]
  · rw [Dm.toD_emb, Dm.toD_emb]
    have s1 : shB (Dm.dd a) = true := shp_dm a h
    have s2 : shB (Dm.dd b) = true := shp_dm b h
    simp only [s1, s2, Bool.and_self, if_true, Dm.eqv]
theorem eq_dm' {a b : α} (h : Dm.dep α ≤ 64) : pEq (Dm.emb a) (Dm.emb b) = ret (.val (.bl (decide (a = b)))) := by unfold pEq; rw [eqP_dm h]; rfl
theorem ne_dm' {a b : α} (h : Dm.dep α ≤ 64) : pNe (Dm.emb a) (Dm.emb b) = ret (.val (.bl (!decide (a = b)))) := by unfold pNe; rw [eqP_dm h]; rfl
theorem inP_dm {x : α} {l : List α} (h : Dm.dep α ≤ 63) : inP (Dm.emb x) (.lst (l.map Dm.emb)) = some (decide (x ∈ l)) := by
  unfold inP
  dsimp only
  rw [Dm.toD_emb, toDs_map]
  have s1 : shB (Dm.dd x) = true := shp_dm x (by omega)
  have s2 : shB (.list (l.map Dm.dd)) = true := shp_dm l (show Dm.dep α + 1 ≤ 64 by omega)
  simp only [s1, s2, Bool.and_self, if_true, any_dm]
end
theorem eq_ii {a b : Int} : pEq (.int a) (.int b) = ret (.val (.bl (decide (a = b)))) := eq_dm' (α := Int) (by decide)
theorem ne_ii {a b : Int} : pNe (.int a) (.int b) = ret (.val (.bl (!decide (a = b)))) := ne_dm' (α := Int) (by decide)
theorem eq_bb {a b : Bool} : pEq (.bl a) (.bl b) = ret (.val (.bl (decide (a = b)))) := eq_dm' (α := Bool) (by decide)
theorem ne_bb {a b : Bool} : pNe (.bl a) (.bl b) = ret (.val (.bl (!decide (a = b)))) := ne_dm' (α := Bool) (by decide)
theorem eq_ss {a b : Str} : pEq (.str a) (.str b) = ret (.val (.bl (decide (a = b)))) := rfl
theorem ne_ss {a b : Str} : pNe (.str a) (.str b) = ret (.val (.bl (!decide (a = b)))) := rfl
theorem eq_pp {a b : Pt} : pEq (pt a) (pt b) = ret (.val (.bl (decide (a = b)))) := eq_dm' (α := Pt) (by decide)
theorem ne_pp {a b : Pt} : pNe (pt a) (pt b) = ret (.val (.bl (!decide (a = b)))) := ne_dm' (α := Pt) (by decide)
theorem eq_lp {a b : List Pt} : pEq (.lst (a.map pt)) (.lst (b.map pt)) = ret (.val (.bl (decide (a = b)))) := eq_dm' (α := List Pt) (by decide)
theorem ne_lp {a b : List Pt} : pNe (.lst (a.map pt)) (.lst (b.map pt)) = ret (.val (.bl (!decide (a = b)))) := ne_dm' (α := List Pt) (by decide)
theorem eq_tp {a b : List Pt} : pEq (.tup (a.map pt)) (.tup (b.map pt)) = ret (.val (.bl (decide (a = b)))) := by
  have h := eq_dm' (α := Tp Pt) (a := ⟨a⟩) (b := ⟨b⟩) (by decide)
  simp only [Tp.mk.injEq] at h; exact h
theorem ne_tp {a b : List Pt} : pNe (.tup (a.map pt)) (.tup (b.map pt)) = ret (.val (.bl (!decide (a = b)))) := by
  have h := ne_dm' (α := Tp Pt) (a := ⟨a⟩) (b := ⟨b⟩) (by decide)
  simp only [Tp.mk.injEq] at h; exact h
theorem eq_ti {a b : List Int} : pEq (.tup (a.map PV.int)) (.tup (b.map PV.int)) = ret (.val (.bl (decide (a = b)))) := by
  have h := eq_dm' (α := Tp Int) (a := ⟨a⟩) (b := ⟨b⟩) (by decide)
  simp only [Tp.mk.injEq] at h; exact h
theorem ne_ti {a b : List Int} : pNe (.tup (a.map PV.int)) (.tup (b.map PV.int)) = ret (.val (.bl (!decide (a = b)))) := by
  have h := ne_dm' (α := Tp Int) (a := ⟨a⟩) (b := ⟨b⟩) (by decide)
  simp only [Tp.mk.injEq] at h; exact h
theorem in_p {a : Pt} {l : List Pt} : pIn (pt a) (.lst (l.map pt)) = ret (.val (.bl (decide (a ∈ l)))) := by
  unfold pIn; rw [map_pt, pt_emb, inP_dm (α := Pt) (by decide)]; unfold ofO; dsimp only; congr
theorem notin_p {a : Pt} {l : List Pt} : pNotIn (pt a) (.lst (l.map pt)) = ret (.val (.bl (!decide (a ∈ l)))) := by
  unfold pNotIn; rw [map_pt, pt_emb, inP_dm (α := Pt) (by decide)]; unfold ofO; dsimp only [Option.map_some]; congr
theorem is_n {p : PV} : pIs p .non = ret (.val (.bl (isN p))) := rfl
theorem isnot_n {p : PV} : pIsNot p .non = ret (.val (.bl (!isN p))) := rfl
theorem ixt {xs : List PV} {i : Int} {x : PV} (h : L2.atI xs i = some x) : pIx (.tup xs) (.int i) = ret (.val x) := by unfold pIx getO; simp only [h]
theorem ixl {xs : List PV} {i : Int} {x : PV} (h : L2.atI xs i = some x) : pIx (.lst xs) (.int i) = ret (.val x) := by unfold pIx getO; simp only [h]
theorem x_pt0 {p : Pt} : pIx (pt p) (.int 0) = ret (.val (.int p.1)) := rfl
theorem x_pt1 {p : Pt} : pIx (pt p) (.int 1) = ret (.val (.int p.2)) := rfl
theorem x_t0 {x : PV} {xs : List PV} : pIx (.tup (x :: xs)) (.int 0) = ret (.val x) := ixt (atI_nat (n := 0) rfl)
theorem x_t1 {x y : PV} {xs : List PV} : pIx (.tup (x :: y :: xs)) (.int 1) = ret (.val y) := ixt (atI_nat (n := 1) rfl)
theorem x_t2 {x y z : PV} {xs : List PV} : pIx (.tup (x :: y :: z :: xs)) (.int 2) = ret (.val z) := ixt (atI_nat (n := 2) rfl)
theorem x_t3 {x y z w : PV} {xs : List PV} : pIx (.tup (x :: y :: z :: w :: xs)) (.int 3) = ret (.val w) := ixt (atI_nat (n := 3) rfl)
theorem x_l0 {x : PV} {xs : List PV} : pIx (.lst (x :: xs)) (.int 0) = ret (.val x) := ixl (atI_nat (n := 0) rfl)
theorem x_l1 {x y : PV} {xs : List PV} : pIx (.lst (x :: y :: xs)) (.int 1) = ret (.val y) := ixl (atI_nat (n := 1) rfl)
theorem x_l2 {x y z : PV} {xs : List PV} : pIx (.lst (x :: y :: z :: xs)) (.int 2) = ret (.val z) := ixl (atI_nat (n := 2) rfl)
theorem isi_of {p : PV} {n : String} {f : Bool} (h : dat p) (hf : ∀ k, VE.kindOf p = some k → kitB k n = some f) : bIsi [p, .ty n] = ret (.val (.bl f)) := by
  unfold dat at h
  obtain ⟨k, hk⟩ := Option.ne_none_iff_exists'.mp h
  show ofO ((VE.kindOf p).bind fun k => kitB k n) = _
  rw [hk, Option.bind_some, hf k hk]; rfl
theorem i_int {p : PV} (h : dat p) : bIsi [p, .ty "int"] = ret (.val (.bl (kI p))) := isi_of h (by intro k e; cases p <;> (first | cases e | skip) <;> rfl)
theorem i_bool {p : PV} (h : dat p) : bIsi [p, .ty "bool"] = ret (.val (.bl (kB p))) := isi_of h (by intro k e; cases p <;> (first | cases e | skip) <;> rfl)
theorem i_tuple {p : PV} (h : dat p) : bIsi [p, .ty "tuple"] = ret (.val (.bl (kT p))) := isi_of h (by intro k e; cases p <;> (first | cases e | skip) <;> rfl)
theorem i_list {p : PV} (h : dat p) : bIsi [p, .ty "list"] = ret (.val (.bl (kL p))) := isi_of h (by intro k e; cases p <;> (first | cases e | skip) <;> rfl)
theorem i_str {p : PV} (h : dat p) : bIsi [p, .ty "str"] = ret (.val (.bl (kS p))) := isi_of h (by intro k e; cases p <;> (first | cases e | skip) <;> rfl)
theorem all_b {bs : List Bool} : bAll [.lst (bs.map PV.bl)] = ret (.val (.bl (bs.all id))) := by unfold bAll; simp only [toBs_map]; rfl
theorem any_b {bs : List Bool} : bAny [.lst (bs.map PV.bl)] = ret (.val (.bl (bs.any id))) := by unfold bAny; simp only [toBs_map]; rfl
theorem sum_b {bs : List Int} : bSum [.lst (bs.map PV.int)] = ret (.val (.int bs.sum)) := by unfold bSum; simp only [toIs_map]; rfl

theorem kIq_int {i : Int} : kI (.int i) = true := rfl
theorem kIq_bl {b : Bool} : kI (.bl b) = true := rfl
theorem kIq_tup {xs : List PV} : kI (.tup xs) = false := rfl
theorem kIq_lst {xs : List PV} : kI (.lst xs) = false := rfl
theorem kIq_str {x : Str} : kI (.str x) = false := rfl
theorem kIq_non  : kI (.non) = false := rfl
theorem kIq_hnd  : kI (.hnd) = false := rfl
theorem kIq_dct0  : kI (.dct0) = false := rfl
theorem kIq_ins {c : Str} {ns : List Str} {vs : List PV} : kI (.ins c ns vs) = false := rfl
theorem kBq_int {i : Int} : kB (.int i) = false := rfl
theorem kBq_bl {b : Bool} : kB (.bl b) = true := rfl
theorem kBq_tup {xs : List PV} : kB (.tup xs) = false := rfl
theorem kBq_lst {xs : List PV} : kB (.lst xs) = false := rfl
theorem kBq_str {x : Str} : kB (.str x) = false := rfl
theorem kBq_non  : kB (.non) = false := rfl
theorem kBq_hnd  : kB (.hnd) = false := rfl
theorem kBq_dct0  : kB (.dct0) = false := rfl
theorem kBq_ins {c : Str} {ns : List Str} {vs : List PV} : kB (.ins c ns vs) = false := rfl
theorem kTq_int {i : Int} : kT (.int i) = false := rfl
theorem kTq_bl {b : Bool} : kT (.bl b) = false := rfl
theorem kTq_tup {xs : List PV} : kT (.tup xs) = true := rfl
theorem kTq_lst {xs : List PV} : kT (.lst xs) = false := rfl
theorem kTq_str {x : Str} : kT (.str x) = false := rfl
theorem kTq_non  : kT (.non) = false := rfl
theorem kTq_hnd  : kT (.hnd) = false := rfl
theorem kTq_dct0  : kT (.dct0) = false := rfl
theorem kTq_ins {c : Str} {ns : List Str} {vs : List PV} : kT (.ins c ns vs) = false := rfl
theorem kLq_int {i : Int} : kL (.int i) = false := rfl
theorem kLq_bl {b : Bool} : kL (.bl b) = false := rfl
theorem kLq_tup {xs : List PV} : kL (.tup xs) = false := rfl
theorem kLq_lst {xs : List PV} : kL (.lst xs) = true := rfl
theorem kLq_str {x : Str} : kL (.str x) = false := rfl
theorem kLq_non  : kL (.non) = false := rfl
theorem kLq_hnd  : kL (.hnd) = true := rfl
theorem kLq_dct0  : kL (.dct0) = false := rfl
theorem kLq_ins {c : Str} {ns : List Str} {vs : List PV} : kL (.ins c ns vs) = false := rfl
theorem kSq_int {i : Int} : kS (.int i) = false := rfl
theorem kSq_bl {b : Bool} : kS (.bl b) = false := rfl
theorem kSq_tup {xs : List PV} : kS (.tup xs) = false := rfl
theorem kSq_lst {xs : List PV} : kS (.lst xs) = false := rfl
theorem kSq_str {x : Str} : kS (.str x) = true := rfl
theorem kSq_non  : kS (.non) = false := rfl
theorem kSq_hnd  : kS (.hnd) = false := rfl
theorem kSq_dct0  : kS (.dct0) = false := rfl
theorem kSq_ins {c : Str} {ns : List Str} {vs : List PV} : kS (.ins c ns vs) = false := rfl
theorem isNq_int {i : Int} : isN (.int i) = false := rfl
theorem isNq_bl {b : Bool} : isN (.bl b) = false := rfl
theorem isNq_tup {xs : List PV} : isN (.tup xs) = false := rfl
theorem isNq_lst {xs : List PV} : isN (.lst xs) = false := rfl
theorem isNq_str {x : Str} : isN (.str x) = false := rfl
theorem isNq_non  : isN (.non) = true := rfl
theorem isNq_hnd  : isN (.hnd) = false := rfl
theorem isNq_dct0  : isN (.dct0) = false := rfl
theorem isNq_ins {c : Str} {ns : List Str} {vs : List PV} : isN (.ins c ns vs) = false := rfl
theorem kIq_pt {p : Pt} : kI (pt p) = false := rfl
theorem kBq_pt {p : Pt} : kB (pt p) = false := rfl
theorem kTq_pt {p : Pt} : kT (pt p) = true := rfl
theorem kLq_pt {p : Pt} : kL (pt p) = false := rfl
theorem kSq_pt {p : Pt} : kS (pt p) = false := rfl

/-! ### loops -/
section
variable {α : Type} {g : MG} {b : MS} {t : MT} {e : ME} {vs : List Nat}
theorem mCompL_pure {ρ : Rho} (emb : α → PV) (f : α → Option PV) : ∀ (ys : List α), (∀ y ∈ ys, compStep g t e vs (emb y) ρ = ret (f y, ρ)) → mCompL g t e vs (ys.map emb) ρ = ret (ys.filterMap f, ρ)
  | [], _ => rfl
  | y :: ys, h => by
    rw [List.map_cons, mCompL, h y List.mem_cons_self, bnd_ret, mCompL_pure emb f ys (fun z hz => h z (List.mem_cons_of_mem _ hz)), bnd_ret, List.filterMap_cons]
    cases f y <;> rfl
theorem mCompL_map {ρ : Rho} (emb : α → PV) (f : α → PV) (ys : List α) (h : ∀ y ∈ ys, compStep g t e vs (emb y) ρ = ret (some (f y), ρ)) : mCompL g t e vs (ys.map emb) ρ = ret (ys.map f, ρ) := by
  rw [mCompL_pure emb (fun y => some (f y)) ys h]
  congr 2
  clear h
  induction ys with
  | nil => rfl
  | cons y ys ih => rw [List.map_cons, ← ih]; rfl
theorem mCompL_filter {ρ : Rho} (emb : α → PV) (c : α → Bool) (f : α → PV) (ys : List α) (h : ∀ y ∈ ys, compStep g t e vs (emb y) ρ = ret (if c y then some (f y) else none, ρ)) : mCompL g t e vs (ys.map emb) ρ = ret ((ys.filter c).map f, ρ) := by
  rw [mCompL_pure emb (fun y => if c y then some (f y) else none) ys h]
  congr 2
  clear h
  induction ys with
  | nil => rfl
  | cons y ys ih =>
    cases hc : c y with
    | true => rw [List.filterMap_cons_some (b := f y) (by simp [hc]), List.filter_cons_of_pos hc, ih]; rfl
    | false => rw [List.filterMap_cons_none (by simp [hc]), List.filter_cons_of_neg (by simp [hc]), ih]
/-- with draws in it -/
theorem mCompL_all {ρ : Rho} {Q : List PV × Rho → Prop} (emb : α → PV) (P : α → PV → Prop) (ys : List α) (h : ∀ y ∈ ys, Ok (compStep g t e vs (emb y) ρ) fun p => p.2 = ρ ∧ ∃ z, p.1 = some z ∧ P y z)
    (q : ∀ zs : List PV, zs.length = ys.length → (∀ z ∈ zs, ∃ y ∈ ys, P y z) → Q (zs, ρ)) : Ok (mCompL g t e vs (ys.map emb) ρ) Q := by
  induction ys generalizing Q with
  | nil => exact q [] rfl (fun z hz => absurd hz (by simp))
  | cons y ys ih =>
    rw [List.map_cons, mCompL]
    show M.All _ _ _
    rw [all_bnd]
    refine M.All.imp (h y List.mem_cons_self) fun p hp => ?_
    obtain ⟨o, ρ'⟩ := p
    obtain ⟨e1, z, e2, hz⟩ := hp
    dsimp only at e1 e2
    subst e1; subst e2
    rw [all_bnd]
    refine ih (fun y' hy' => h y' (List.mem_cons_of_mem _ hy')) fun zs hl hzs => ?_
    refine q (z :: zs) (by rw [List.length_cons, List.length_cons, hl]) fun w hw => ?_
    rcases List.mem_cons.mp hw with rfl | hw
    · exact ⟨y, List.mem_cons_self, hz⟩
    · obtain ⟨y', hy', hp⟩ := hzs w hw
      exact ⟨y', List.mem_cons_of_mem _ hy', hp⟩
theorem mForL_fold {σ : Type} (emb : α → PV) (enc : σ → Rho) (step : σ → α → σ) (I : List α → σ → Prop) : ∀ (ys : List α) (s : σ), I ys s → (∀ s y zs, I (y :: zs) s → forStep g b (emb y) (enc s) = ret (.nx, enc (step s y)) ∧ I zs (step s y)) →
    mForL g b (ys.map emb) (enc s) = ret (.nx, enc (ys.foldl step s)) ∧ I [] (ys.foldl step s)
  | [], s, hs, _ => ⟨rfl, hs⟩
  | y :: ys, s, hs, h => by
    obtain ⟨h1, h2⟩ := h s y ys hs
    have := mForL_fold emb enc step I ys (step s y) h2 h
    rw [List.map_cons, mForL, h1, bnd_ret, List.foldl_cons]
    exact this
/-- an invariant of a for loop, with draws and returns -/
theorem mForL_all {Q : Out × Rho → Prop} (emb : α → PV) (J : List α → Rho → Prop) (hs : ∀ y ys ρ, J (y :: ys) ρ → Ok (forStep g b (emb y) ρ) fun p => match p.1 with
      | .nx => J ys p.2
      | .ct => J ys p.2
      | .bk => Q (.nx, p.2)
      | .rt r => Q (.rt r, p.2)) (he : ∀ ρ, J [] ρ → Q (.nx, ρ)) : ∀ (ys : List α) (ρ : Rho), J ys ρ → Ok (mForL g b (ys.map emb) ρ) Q
  | [], ρ, h => he ρ h
  | y :: ys, ρ, h => by
    rw [List.map_cons, mForL]
    show M.All _ _ _
    rw [all_bnd]
    refine M.All.imp (hs y ys ρ h) fun p hp => ?_
    obtain ⟨o, ρ'⟩ := p
    cases o with
    | nx => exact mForL_all emb J hs he ys ρ' hp
    | ct => exact mForL_all emb J hs he ys ρ' hp
    | bk => exact hp
    | rt r => exact hp
end
section
variable {t : MT} {b : MS}
theorem mWhileN_ind {Q : Out × Rho → Prop} (J : Nat → Rho → Prop) (hs : ∀ m ρ, J m ρ → Ok (t ρ) fun p => if p.1 = true then Ok (b p.2) fun z => match z.1 with
      | .nx => ∃ m', m' < m ∧ J m' z.2
      | .ct => ∃ m', m' < m ∧ J m' z.2
      | .bk => Q (.nx, z.2)
      | .rt r => Q (.rt r, z.2) else Q (.nx, p.2)) : ∀ (n m : Nat) (ρ : Rho), m < n → J m ρ → Ok (mWhileN t b n ρ) Q
  | 0, m, ρ, h, _ => absurd h (by omega)
  | n + 1, m, ρ, h, hj => by
    rw [mWhileN]
    show M.All _ _ _
    rw [all_bnd]
    refine M.All.imp (hs m ρ hj) fun p hp => ?_
    rw [all_ite]
    split at hp
    · rename_i hk
      rw [if_pos hk, all_bnd]
      refine M.All.imp hp fun z hz => ?_
      obtain ⟨o, ρ'⟩ := z
      cases o with
      | nx => obtain ⟨m', h1, h2⟩ := hz; exact mWhileN_ind J hs n m' ρ' (by omega) h2
      | ct => obtain ⟨m', h1, h2⟩ := hz; exact mWhileN_ind J hs n m' ρ' (by omega) h2
      | bk => exact hz
      | rt r => exact hz
    · rename_i hk
      rw [if_neg hk]
      exact hp
theorem mWhile_ind {Q : Out × Rho → Prop} (J : Nat → Rho → Prop) {ρ : Rho} (m : Nat) (hm : m < 10 ^ 60) (hj : J m ρ) (hs : ∀ m ρ, J m ρ → Ok (t ρ) fun p => if p.1 = true then Ok (b p.2) fun z => match z.1 with
      | .nx => ∃ m', m' < m ∧ J m' z.2
      | .ct => ∃ m', m' < m ∧ J m' z.2
      | .bk => Q (.nx, z.2)
      | .rt r => Q (.rt r, z.2) else Q (.nx, p.2)) : Ok (mWhile t b ρ) Q := mWhileN_ind J hs fuel m ρ hm hj
/-- a loop that draws nothing: its end as a value -/
theorem mWhileN_eq {σ : Type} (enc : σ → Rho) (c : σ → Bool) (step : σ → σ) (μ : σ → Nat) (I : σ → Prop) (R : σ → σ → Prop) (hr : ∀ s, I s → c s = false → R s s) (htr : ∀ s u, I s → c s = true → R (step s) u → R s u)
    (hs : ∀ s, I s → t (enc s) = ret (c s, enc s) ∧ (c s = true → b (enc s) = ret (.nx, enc (step s)) ∧ I (step s) ∧ μ (step s) < μ s)) : ∀ (n : Nat) (s : σ), I s → μ s < n → ∃ u, R s u ∧ mWhileN t b n (enc s) = ret (.nx, enc u)
  | 0, s, _, h => absurd h (by omega)
  | n + 1, s, hi, h => by
    obtain ⟨h1, h2⟩ := hs s hi
    rw [mWhileN, h1, bnd_ret]
    cases hc : c s with
    | false => exact ⟨s, hr s hi hc, rfl⟩
    | true =>
      obtain ⟨h3, h4, h5⟩ := h2 hc
      obtain ⟨u, h6, h7⟩ := mWhileN_eq enc c step μ I R hr htr hs n (step s) h4 (by omega)
      refine ⟨u, htr s u hi hc h6, ?_⟩
      rw [mite_t, h3, bnd_ret]
      exact h7
theorem mWhile_eq {σ : Type} (enc : σ → Rho) (c : σ → Bool) (step : σ → σ) (μ : σ → Nat) (I : σ → Prop) (R : σ → σ → Prop) (hr : ∀ s, I s → c s = false → R s s) (htr : ∀ s u, I s → c s = true → R (step s) u → R s u)
    (hs : ∀ s, I s → t (enc s) = ret (c s, enc s) ∧ (c s = true → b (enc s) = ret (.nx, enc (step s)) ∧ I (step s) ∧ μ (step s) < μ s)) (s : σ) (hi : I s) (hm : μ s < 10 ^ 60) : ∃ u, R s u ∧ mWhile t b (enc s) = ret (.nx, enc u) :=
  mWhileN_eq enc c step μ I R hr htr hs fuel s hi hm
end
section
variable {α β σ : Type} {g : MG} {b : MS} {R : M β} {f : Out → Rho → M β}
/-- a for loop ahead of what follows -/
theorem bnd_for (emb : α → PV) (enc : σ → Rho) (step : σ → α → σ) (I : List α → σ → Prop) (ys : List α) (s : σ) {ρ : Rho} (h0 : ρ = enc s) (hI : I ys s) (hs : ∀ s y zs, I (y :: zs) s → forStep g b (emb y) (enc s) = ret (.nx, enc (step s y)) ∧ I zs (step s y))
    (k : I [] (ys.foldl step s) → f .nx (enc (ys.foldl step s)) = R) : bnd (mForL g b (ys.map emb) ρ) (f := ⟨f⟩) = R := by
  subst h0
  obtain ⟨h1, h2⟩ := mForL_fold emb enc step I ys s hI hs
  rw [h1, bnd_ret]
  exact k h2
theorem bnd_while {t : MT} (enc : σ → Rho) (c : σ → Bool) (step : σ → σ) (μ : σ → Nat) (I : σ → Prop) (P : σ → σ → Prop) (s : σ) {ρ : Rho} (h0 : ρ = enc s) (hi : I s) (hm : μ s < 10 ^ 60) (hr : ∀ s, I s → c s = false → P s s) (htr : ∀ s u, I s → c s = true → P (step s) u → P s u)
    (hs : ∀ s, I s → t (enc s) = ret (c s, enc s) ∧ (c s = true → b (enc s) = ret (.nx, enc (step s)) ∧ I (step s) ∧ μ (step s) < μ s))
    (k : ∀ u, P s u → f .nx (enc u) = R) : bnd (mWhile t b ρ) (f := ⟨f⟩) = R := by
  subst h0
  obtain ⟨u, h1, h2⟩ := mWhile_eq enc c step μ I P hr htr hs s hi hm
  rw [h2, bnd_ret]
  exact k u h1
end
section
variable {α β : Type} {g : MG} {t : MT} {e : ME} {vs : List Nat} {R : M β} {f : List PV → Rho → M β} {ρ : Rho}
theorem bnd_map (emb : α → PV) (h : α → PV) (ys : List α) (hs : ∀ y ∈ ys, compStep g t e vs (emb y) ρ = ret (some (h y), ρ)) (k : f (ys.map h) ρ = R) : bnd (mCompL g t e vs (ys.map emb) ρ) (f := ⟨f⟩) = R := by
  rw [mCompL_map emb h ys hs, bnd_ret]; exact k
theorem bnd_filter (emb : α → PV) (c : α → Bool) (h : α → PV) (ys : List α) (hs : ∀ y ∈ ys, compStep g t e vs (emb y) ρ = ret (if c y then some (h y) else none, ρ)) (k : f ((ys.filter c).map h) ρ = R) : bnd (mCompL g t e vs (ys.map emb) ρ) (f := ⟨f⟩) = R := by
  rw [mCompL_filter emb c h ys hs, bnd_ret]; exact k
end
end VX
end
section
set_option Elab.async false
set_option linter.all false
set_option maxRecDepth 100000
namespace VE
open PySem PySem.Spec PyProof.Rows L2
/-! ### an owned list looked into, walked: it stays owned -/
def wInN (op : OpV) (i : Nat) (wa : WE) : WE := fun ρ Q => wa ρ fun r ρ1 => match look ρ1 i with
  | .own xs => op r.pv (.lst xs) fun z => Q z ρ1
  | _ => wVar i ρ1 fun r2 ρ2 => op r.pv r2.pv fun z => Q z ρ2
section
variable {X : Cx} {pos : Pos}
theorem inN_run {K : PySem.W.Frag} {mg : Str → Option Value} {r : R2} {op : OpV} {i : Nat} {wa : WE} {tv : TE} (hs : Ser K mg r op)
    (hv : ∀ σ H Q, eE K mg (wVar i) σ H Q → tv σ H Q) (hv2 : tv = tVar i)
    (ho : ∀ (hO : Option Addr) (Fr F : Hp) (H : Hp) (x : V) (a : Addr) (vs : List V) (p : PV) (xs : List PV) (Qv : Sl → Prop) (Q : VK), RB ⟨K, mg, hO⟩ Fr F H → Rep ⟨K, mg, hO⟩ F x p → H a = some (.lst vs) → Reps ⟨K, mg, hO⟩ F vs xs → op p (.lst xs) Qv → (∀ b, Qv (.val (.bl b)) → Q (.bl b) H) → r x (.ref a) H Q) :
    ∀ σ H Q, eE K mg (wInN op i wa) σ H Q → tOp r (eE K mg wa) tv σ H Q := by
  rintro σ H Q ⟨hO, Fr, F, ρ, Qv, R, h, k⟩
  refine eE.pv (Qv := fun p ρ1 => match look ρ1 i with
    | .own xs => op p (.lst xs) fun z => Qv z ρ1
    | _ => wVar i ρ1 fun r2 ρ2 => op p r2.pv fun z => Qv z ρ2) R h fun x H1 F1 p ρ1 s1 R1 rp h1 => ?_
  split at h1
  · rename_i xs hx
    obtain ⟨a, vs, e, o⟩ := R1.own i xs (look_get hx (by intro z; cases z))
    rw [hv2]
    refine ⟨_, e, ?_⟩
    exact ho hO Fr F1 H1 x a vs p xs _ Q R1.toRB rp o.at_ o.rep h1 fun b hb => k _ H1 F1 (.val (.bl b)) ρ1 s1 R1 (Rep.bl _) hb
  · refine hv σ H1 _ (eE.pv (Qv := fun q ρ2 => op p q fun r => Qv r ρ2) R1 h1 fun y H2 F2 q ρ2 s2 R2 rq h2 => ?_)
    refine hs hO Fr F2 σ H2 ρ2 x y p q _ Q R2 (rp.mono s2) rq h2 fun v H' F' r s R' o q' => ?_
    exact k v H' F' r ρ2 ((s1.trans s2).trans s) R' o q'
theorem ve_inN {i : Nat} {x : Str} {p : Pos} {a : Expr} {wa : WE} (hu : X.A.units + 65 < cLine) (hN : X.N[i]? = some x) (hv : Vis X.env.scope x) (ha : VE X a wa) (hm : behindInMarks .In (.Name x p) = false) (hd : (x == ("__debug__" : Str)) = false := by decide) (hcd : (x == ("__classdict__" : Str)) = false := by decide) :
    VE X (.Compare a [.In] [.Name x p] pos) (wInN opIn i wa) := PE.imp (pe_cmpR (op_inD hu) ha (pe_var hN hv hd hcd) hm) (inN_run ser_in (fun σ H Q ⟨hO, Fr, F, ρ, Qv, R, h, k⟩ => by
    unfold wVar at h
    cases q : look ρ i with
    | no => rw [q] at h; exact h.elim
    | val p =>
      rw [q] at h
      obtain ⟨v, e, rp⟩ := R.val i p (look_get q (by intro z; cases z))
      exact ⟨v, e, k v H F (.val p) ρ (Same.refl F) R rp h⟩
    | own xs =>
      rw [q] at h
      obtain ⟨v, F', e, s, R', rp⟩ := R.read (look_get q (by intro z; cases z)) (by intro z; cases z)
      exact ⟨v, e, k v H F' (.val (.lst xs)) _ s R' rp h⟩) rfl (by
    rintro hO Fr F H x a vs p xs Qv Q R rx e rs ⟨d, ds, ys, e1, e2, e3, s1, s2, h⟩ k
    cases e2
    exact ⟨d, ds, dpMono R.sub (dp_of rx e1), .lst (.inl (.inl e)) (dpsMono R.sub (dps_of rs e3)), s1, s2, k _ h⟩))
theorem ve_notinN {i : Nat} {x : Str} {p : Pos} {a : Expr} {wa : WE} (hu : X.A.units + 65 < cLine) (hN : X.N[i]? = some x) (hv : Vis X.env.scope x) (ha : VE X a wa) (hm : behindInMarks .NotIn (.Name x p) = false) (hd : (x == ("__debug__" : Str)) = false := by decide) (hcd : (x == ("__classdict__" : Str)) = false := by decide) :
    VE X (.Compare a [.NotIn] [.Name x p] pos) (wInN opNotIn i wa) := PE.imp (pe_cmpR (op_notInD hu) ha (pe_var hN hv hd hcd) hm) (inN_run ser_notin (fun σ H Q ⟨hO, Fr, F, ρ, Qv, R, h, k⟩ => by
    unfold wVar at h
    cases q : look ρ i with
    | no => rw [q] at h; exact h.elim
    | val p =>
      rw [q] at h
      obtain ⟨v, e, rp⟩ := R.val i p (look_get q (by intro z; cases z))
      exact ⟨v, e, k v H F (.val p) ρ (Same.refl F) R rp h⟩
    | own xs =>
      rw [q] at h
      obtain ⟨v, F', e, s, R', rp⟩ := R.read (look_get q (by intro z; cases z)) (by intro z; cases z)
      exact ⟨v, e, k v H F' (.val (.lst xs)) _ s R' rp h⟩) rfl (by
    rintro hO Fr F H x a vs p xs Qv Q R rx e rs ⟨d, ds, ys, e1, e2, e3, s1, s2, h⟩ k
    cases e2
    exact ⟨d, ds, dpMono R.sub (dp_of rx e1), .lst (.inl (.inl e)) (dpsMono R.sub (dps_of rs e3)), s1, s2, k _ h⟩))
end
/-- a slot's list put aside -/
theorem Rr.aside {G : Gh} {Fr F H : Hp} {σ : L2.St} {ρ : Rho} {i : Nat} {xs : List PV} {a : Addr} {vs : List V} (R : Rr G Fr F σ H ρ) (hi : ρ[i]? = some (Sl.own xs)) (hσ : σ[i]? = some (some (V.ref a))) (o : Own G Fr F H a vs xs) : Rr G (upd Fr a (.lst vs)) F σ H (ρ.set i .no) where
  toRB := ⟨R.sub, fun b x e => by
    by_cases hb : b = a
    · subst hb; rw [upd_same] at e; cases e; exact ⟨o.at_, o.nF, o.nh⟩
    · rw [upd_ne hb] at e; exact R.fr b x e, R.hand⟩
  len := by rw [List.length_set]; exact R.len
  val := (R.drop (i := i)).val
  own := fun j ys e => by
    have hj : i ≠ j := fun z => by
      subst z
      rw [List.getElem?_set_self (List.getElem?_eq_some_iff.mp hi).1] at e; cases e
    rw [List.getElem?_set_ne hj] at e
    obtain ⟨b, us, h1, h2⟩ := R.own j ys e
    have hb : b ≠ a := fun z => by subst z; exact hj (R.sep i j xs ys b hi e hσ h1)
    exact ⟨b, us, h1, h2.at_, h2.rep, h2.nF, h2.nh, by rw [upd_ne hb]; exact h2.nFr⟩
  sep := (R.drop (i := i)).sep
/-- and back -/
theorem Rr.unaside {G : Gh} {Fr F' H' : Hp} {σ : L2.St} {ρ' : Rho} {i : Nat} {xs : List PV} {a : Addr} {vs : List V} (R : Rr G (upd Fr a (.lst vs)) F' σ H' ρ') (rs : Reps G F' vs xs) (nFr : Fr a = none) (hσ : σ[i]? = some (some (V.ref a))) : Rr G Fr F' σ H' (ρ'.set i (.own xs)) := by
  obtain ⟨g1, g2, g3⟩ := R.fr a (.lst vs) upd_same
  have hi : i < ρ'.length := by rw [R.len]; exact (List.getElem?_eq_some_iff.mp hσ).1
  have ow : ∀ (j : Nat) ys, i ≠ j → ρ'[j]? = some (Sl.own ys) → ∃ b us, σ[j]? = some (some (V.ref b)) ∧ Own G Fr F' H' b us ys ∧ b ≠ a := fun j ys hj e => by
    obtain ⟨b, us, h1, h2⟩ := R.own j ys e
    have hb : b ≠ a := fun z => by subst z; have := h2.nFr; rw [upd_same] at this; cases this
    have := h2.nFr
    rw [upd_ne hb] at this
    exact ⟨b, us, h1, ⟨h2.at_, h2.rep, h2.nF, h2.nh, this⟩, hb⟩
  refine ⟨⟨R.sub, fun b x e => R.fr b x (by rw [upd_ne (ne_of_none e nFr)]; exact e), R.hand⟩, by rw [List.length_set]; exact R.len, fun j p e => ?_, fun j ys e => ?_, fun j k ys zs b e1 e2 h1 h2 => ?_⟩
  · by_cases hj : i = j
    · subst hj; rw [List.getElem?_set_self hi] at e; cases e
    · rw [List.getElem?_set_ne hj] at e; exact R.val j p e
  · by_cases hj : i = j
    · subst hj; rw [List.getElem?_set_self hi] at e; cases e
      exact ⟨a, vs, hσ, g1, rs, g2, g3, nFr⟩
    · rw [List.getElem?_set_ne hj] at e
      obtain ⟨b, us, h1, h2, _⟩ := ow j ys hj e
      exact ⟨b, us, h1, h2⟩
  · by_cases hj : i = j
    · by_cases hk : i = k
      · exact hj.symm.trans hk
      · subst hj
        rw [hσ] at h1; cases h1
        rw [List.getElem?_set_ne hk] at e2
        obtain ⟨b', us, g, _, hb⟩ := ow k zs hk e2
        rw [h2] at g; cases g
        exact absurd rfl hb
    · rw [List.getElem?_set_ne hj] at e1
      by_cases hk : i = k
      · subst hk
        rw [hσ] at h2; cases h2
        obtain ⟨b', us, g, _, hb⟩ := ow j ys hj e1
        rw [h1] at g; cases g
        exact absurd rfl hb
      · rw [List.getElem?_set_ne hk] at e2
        exact R.sep j k ys zs b e1 e2 h1 h2
theorem itok_fr {G : Gh} {B F : Hp} {a : Addr} {vs : List V} {ps : List PV} (e : B a = some (.lst vs)) (r : Reps G F vs ps) : ItOk G (Itl G.K a) B F ps := by
  intro Fr F' σ ρ i H' sB s R
  have q : SqL G.K H' a vs := .inl (.inl (R.fr a _ (sB _ _ e)).1)
  refine ⟨fun h => ⟨vs, q, by rw [r.length]; exact h⟩, fun p hp => ?_⟩
  obtain ⟨v, e1, rv⟩ := r.get hp
  refine ⟨⟨vs, v, q, e1⟩, fun x H'' y => ?_⟩
  obtain ⟨rfl, y⟩ := y
  have e2 := y vs q
  rw [e1] at e2; cases e2
  exact ⟨F', Same.refl F', R, rv.mono s⟩
def wCompN (j : Nat) (g : WG) (wt : WT) (we : WE) (vs : List Nat) : WE := fun ρ Q => match look ρ j with
  | .own xs => NoOwn (ρ.set j .no) vs ∧ compL g wt we vs xs [] (wipeR (ρ.set j .no) vs) fun acc ρ2 => Q (.own acc) ((backR (ρ.set j .no) ρ2 vs).set j (.own xs))
  | _ => wComp (wiSeq (wVar j)) g wt we vs ρ Q
section
variable {X : Cx} {pos : Pos}
theorem compN_run {K : PySem.W.Frag} {mg : Str → Option Value} {j : Nat} {g : WG} {wt : WT} {we : WE} {vs us : List Nat} (hu : ∀ j ∈ us, j ∈ vs) :
    ∀ σ H Q, eE K mg (wCompN j g wt we vs) σ H Q → tLc (fun σ H R => eI K mg (wiSeq (wVar j)) σ H R ∨ iList K (tVar j) σ H R) (eG K mg us g) (eT K mg wt) (eE K mg we) vs σ H Q := by
  rintro σ H Q ⟨hO, Fr, F, ρ, Qv, R, h, k⟩
  unfold wCompN at h
  split at h
  · rename_i xs hx
    obtain ⟨no, q⟩ := h
    have g0 := look_get hx (by intro z; cases z)
    obtain ⟨a, ws, e0, o⟩ := R.own j xs g0
    refine .inr ⟨.ref a, e0, a, rfl, ⟨ws, .inl (.inl o.at_)⟩, ?_⟩
    have R1 := R.aside g0 e0 o
    refine comp_core (J := Itl K a) (ps := xs) hu R1 (itok_fr upd_same o.rep) no (Qv := fun r ρ' => Qv r (ρ'.set j (.own xs))) q fun v H' F' r ρ' s R' ro q' => ?_
    have R2 := R'.unaside (xs := xs) (i := j) (o.rep.mono s) o.nFr e0
    refine k v H' F' r _ s R2 ?_ q'
    -- the result stands apart from the list, too
    cases r with
    | no => exact ro.elim
    | val p => exact ro
    | own ys =>
      obtain ⟨b, us', eb, ob, ap⟩ := ro
      have hb : b ≠ a := fun z => by subst z; have := ob.nFr; rw [upd_same] at this; cases this
      have nb := ob.nFr
      rw [upd_ne hb] at nb
      refine ⟨b, us', eb, ⟨ob.at_, ob.rep, ob.nF, ob.nh, nb⟩, fun i zs e1 e2 => ?_⟩
      by_cases hi : j = i
      · subst hi
        rw [e0] at e2; cases e2
        exact hb rfl
      · rw [List.getElem?_set_ne hi] at e1
        exact ap i zs e1 e2
  · exact .inl (comp_run (wi := wiSeq (wVar j)) hu σ H Q ⟨hO, Fr, F, ρ, Qv, R, h, k⟩)
theorem ve_compN {elt tg : Expr} {x : Str} {p : Pos} {ifs : List Expr} {scope : Scope} {own : List (Str × Nat)} {j : Nat} {g : WG} {wt : WT} {we : WE} {us : List Nat} (hc : X.calm = true) (hN : X.N.Nodup) (hj : X.N[j]? = some x) (hv : Vis X.env.scope x) (ok : BlkOk X.N X.env.scope scope own)
    (hg : ∀ (s : Shared) (H : Hp) (C : Addr) (cl : List (Str × Addr)) (fp : List Addr), VG (X.blk s H scope (compEnvC scope cl C X.env) fp) tg us g) (ht : ∀ (s : Shared) (H : Hp) (C : Addr) (cl : List (Str × Addr)) (fp : List Addr), VTs (X.blk s H scope (compEnvC scope cl C X.env) fp) ifs wt)
    (he : ∀ (s : Shared) (H : Hp) (C : Addr) (cl : List (Str × Addr)) (fp : List Addr), VE (X.blk s H scope (compEnvC scope cl C X.env) fp) elt we) (hu : ∀ j ∈ us, j ∈ own.map (·.2)) (hd : (x == ("__debug__" : Str)) = false := by decide) (hcd : (x == ("__classdict__" : Str)) = false := by decide)
    (hs : ∀ y, foldedSetIterable (.Name x p) X.env y = pure y := by intro _; rfl) :
    VE X (.ListComp elt [⟨tg, .Name x p, ifs, 0⟩] scope pos) (wCompN j g wt we (own.map (·.2))) :=
  PE.imp (pe_lc hc hN (pi_or (vi_seq (ve_name hj hv hd hcd)) (pi_list (pe_var hj hv hd hcd))) ok hg ht he hs) (compN_run hu)
theorem vs_setLcN {i : Nat} {y : Str} {py : Pos} {elt tg : Expr} {x : Str} {p : Pos} {ifs : List Expr} {scope : Scope} {own : List (Str × Nat)} {spos : Pos} {j : Nat} {g : WG} {wt : WT} {we : WE} {us : List Nat} (hc : X.calm = true) (hN : X.N.Nodup) (hy : X.N[i]? = some y) (hyl : X.env.scope.names.lookup y = some .local)
    (hsw : swapsWith (.ListComp elt [⟨tg, .Name x p, ifs, 0⟩] scope pos) (some (.Name y py)) spos.line X.env = pure true) (hj : X.N[j]? = some x) (hv : Vis X.env.scope x) (ok : BlkOk X.N X.env.scope scope own)
    (hg : ∀ (s : Shared) (H : Hp) (C : Addr) (cl : List (Str × Addr)) (fp : List Addr), VG (X.blk s H scope (compEnvC scope cl C X.env) fp) tg us g) (ht : ∀ (s : Shared) (H : Hp) (C : Addr) (cl : List (Str × Addr)) (fp : List Addr), VTs (X.blk s H scope (compEnvC scope cl C X.env) fp) ifs wt)
    (he : ∀ (s : Shared) (H : Hp) (C : Addr) (cl : List (Str × Addr)) (fp : List Addr), VE (X.blk s H scope (compEnvC scope cl C X.env) fp) elt we) (hu : ∀ j ∈ us, j ∈ own.map (·.2)) (hd : (x == ("__debug__" : Str)) = false := by decide) (hcd : (x == ("__classdict__" : Str)) = false := by decide)
    (hs : ∀ y, foldedSetIterable (.Name x p) X.env y = pure y := by intro _; rfl) :
    VS X (.Assign [.Name y py] (.ListComp elt [⟨tg, .Name x p, ifs, 0⟩] scope pos) spos) (wSet i (wCompN j g wt we (own.map (·.2)))) := by
  refine PS.imp (ps_setLc (te := eE X.K X.mg we) (g := eG X.K X.mg us g) (tt := eT X.K X.mg wt) hc hN hy hyl hsw (pi_or (vi_seq (ve_name hj hv hd hcd)) (pi_list (pe_var hj hv hd hcd))) ok hg ht he hs) ?_
  rintro D σ H ⟨hO, Fr, F, ρ, DV, R, h, k1, k2, k3, k4⟩
  refine compN_run hu σ H _ ⟨hO, Fr, F, ρ, _, R, h, fun v H' F' r ρ' s R' o q => ?_⟩
  exact k1 _ H' F' _ s (R'.set o) q
end
end VE
end
section
set_option Elab.async false
set_option linter.all false
set_option maxRecDepth 100000
namespace VX
open M (ret exc fail draw)
open PySem PySem.Spec PyProof.Rows L2 VE
/-! ### looks at owned lists -/
def inRd (op : OpM) (q : Sl) (i : Nat) (p : PV) (ρ : Rho) : M (Sl × Rho) := match q with
  | .own xs => (op p (.lst xs)).bind (f := ⟨fun z => ret (z, ρ)⟩)
  | .val x => (op p x).bind (f := ⟨fun z => ret (z, ρ)⟩)
  | .no => fail
def mInN (op : OpM) (i : Nat) (a : ME) (ρ : Rho) : M (Sl × Rho) := bnd (a ρ) (f := ⟨fun r ρ1 => inRd op (look ρ1 i) i r.pv ρ1⟩)
def compN (q : Sl) (j : Nat) (g : MG) (t : MT) (e : ME) (vs : List Nat) (ρ : Rho) : M (Sl × Rho) := match q with
  | .own xs => M.ite (VM.noOwnB (ρ.set j .no) vs) (br := ⟨(bnd (mCompL g t e vs xs (wipeR (ρ.set j .no) vs)) (f := ⟨fun ys ρ2 => M.ite (szT ys) (br := ⟨(ret (.own ys, (backR (ρ.set j .no) ρ2 vs).set j (.own xs))), fail⟩)⟩)), fail⟩)
  | _ => mComp (iSeq (mV j)) g t e vs ρ
def mCompN (j : Nat) (g : MG) (t : MT) (e : ME) (vs : List Nat) (ρ : Rho) : M (Sl × Rho) := compN (look ρ j) j g t e vs ρ
theorem asL_ok {p : PV} {Q : List PV → Prop} (h : (asL p).All Q nE) : match (generalizing := false) p with
    | .lst xs => Q xs
    | .tup xs => Q xs
    | _ => False := by cases p <;> exact h
section
variable {X : Cx} {pos : Pos}
theorem xe_inN {e : Expr} {p : OpM} {op : OpV} {i : Nat} {m : ME} (h : VE X e (wInN op i (wE m))) (k : OpOk p op) : XE X e (mInN p i m) := ve_le h fun ρ Q q => by
  unfold wE mInN at q
  unfold wInN
  rw [all_bnd] at q
  refine M.All.imp q fun p1 q1 => ?_
  unfold inRd at q1
  unfold wVar
  split at q1
  · rename_i xs z
    try rw [z]
    rw [all_bind] at q1
    exact k _ _ _ q1
  · rename_i x z
    try rw [z]
    rw [all_bind] at q1
    exact k _ _ _ q1
  · exact q1.elim
theorem compN_ok {j : Nat} {g : MG} {t : MT} {e : ME} {vs : List Nat} : ∀ ρ Q, wE (mCompN j g t e vs) ρ Q → wCompN j (wG g) (wT t) (wE e) vs ρ Q := fun ρ Q q => by
  unfold wE mCompN compN at q
  unfold wCompN
  split at q
  · rename_i xs z
    try rw [z]
    try dsimp only
    rw [all_ite] at q
    split at q
    · rename_i hn
      refine ⟨by rw [VM.noOwn_eq]; exact hn, compL_ok _ [] _ ?_⟩
      rw [all_bnd] at q
      refine M.All.imp q fun p2 q2 => ?_
      have := guard_okA (r := (Sl.own p2.1, (backR (ρ.set j .no) p2.2 vs).set j (.own xs))) (Q := fun p => Q p.1 p.2) (P := p2.1.length ≤ sizeLine) (fun h => of_decide_eq_true h) q2
      exact this
    · exact q.elim
  · rename_i z
    try
      split
      · rename_i z2
        exact absurd z2 (z _)
    have q' := comp_ok (it := iSeq (mV j)) (g := g) (t := t) (e := e) (vs := vs) ρ Q q
    unfold wComp at q' ⊢
    unfold wI iSeq at q'
    rw [all_bnd] at q'
    unfold wiSeq
    refine mV_ok ρ _ (M.All.imp q' fun p1 q1 => ?_)
    rw [all_bind] at q1
    have q2 := asL_ok q1
    dsimp only at q2 ⊢
    generalize p1.1.pv = z at q2 ⊢
    cases z <;> exact q2
theorem xe_compN {e : Expr} {j : Nat} {g : MG} {t : MT} {m : ME} {vs : List Nat} (h : VE X e (wCompN j (wG g) (wT t) (wE m) vs)) : XE X e (mCompN j g t m vs) := ve_le h compN_ok
theorem xs_setLcN {s : Stmt} {i j : Nat} {g : MG} {t : MT} {m : ME} {vs : List Nat} (h : VS X s (wSet i (wCompN j (wG g) (wT t) (wE m) vs))) : XS X s (mSet i (mCompN j g t m vs)) := vs_le h fun D ρ q => by
  unfold wS mSet at q
  rw [all_bnd] at q
  exact compN_ok ρ _ q
end
theorem pLt_ok : OpOk pLt opLt := pI0_ok
theorem pLe_ok : OpOk pLe opLe := pI0_ok
theorem pGt_ok : OpOk pGt opGt := pI0_ok
theorem pGe_ok : OpOk pGe opGe := pI0_ok
theorem pSub_ok : OpOk pSub opSub := pI0_ok
end VX
end
section
set_option Elab.async false
set_option linter.all false
set_option maxRecDepth 100000
namespace VE
open PySem PySem.Spec PyProof.Rows L2
/-! ### x.pop(i), x.pop(), x.extend(e) of an owned list -/
def wPopAt (i : Nat) (wa : WE) : WE := fun ρ Q => (∃ xs, look ρ i = .own xs) ∧ wa ρ fun q ρ1 => match q.pv with
  | .int k => match look ρ1 i with
    | .own xs => -(2 ^ 63) ≤ k ∧ k < 2 ^ 63 ∧ ∃ j p, seqIndex? k xs.length = some j ∧ xs[j]? = some p ∧ Q (.val p) (ρ1.set i (.own (xs.eraseIdx j)))
    | _ => False
  | _ => False
def wPopL (i : Nat) : WE := fun ρ Q => match look ρ i with
  | .own xs => ∃ p, xs[xs.length - 1]? = some p ∧ Q (.val p) (ρ.set i (.own xs.dropLast))
  | _ => False
def wExtend (i : Nat) (w : WE) : WS := fun D ρ => (∃ xs, look ρ i = .own xs) ∧ w ρ fun r ρ1 => match r.pv with
  | .lst ys => match look ρ1 i with
    | .own xs => xs.length + ys.length ≤ sizeLine ∧ D.nx (ρ1.set i (.own (xs ++ ys)))
    | _ => False
  | _ => False
theorem Reps.dropLast {G : Gh} {F : Hp} : ∀ {vs : List V} {ps : List PV}, Reps G F vs ps → Reps G F vs.dropLast ps.dropLast
  | _, _, .nil => .nil
  | _, _, .cons h .nil => .nil
  | _, _, .cons h (.cons h2 r) => .cons h (Reps.dropLast (.cons h2 r))
section
variable {X : Cx} {pos : Pos}
theorem ve_popAt {i : Nat} {x : Str} {e : Expr} {w : WE} {p1 p2 p3 : Pos} (hN : X.N[i]? = some x) (hv : Vis X.env.scope x)
    (hp : PE X (.Call (.Attribute (.Name x p1) "pop" p2) [e] [] p3) (tBM X.K "list" rPopAt (tVar i) (tCons (eE X.K X.mg w) tNil))) : VE X (.Call (.Attribute (.Name x p1) "pop" p2) [e] [] p3) (wPopAt i w) := by
  refine PE.imp hp ?_
  rintro σ H Q ⟨hO, Fr, F, ρ, Qv, R, ⟨⟨xs0, hx0⟩, h⟩, k⟩
  obtain ⟨a, vs0, e0, o0⟩ := R.own i xs0 (look_get hx0 (by intro z; cases z))
  refine ⟨.ref a, e0, .inl ⟨rfl, _, .inl (.inl o0.at_)⟩, ?_⟩
  refine eE.pv (Qv := fun q ρ1 => match q with
    | .int k => match look ρ1 i with
      | .own xs => -(2 ^ 63) ≤ k ∧ k < 2 ^ 63 ∧ ∃ j p, seqIndex? k xs.length = some j ∧ xs[j]? = some p ∧ Qv (.val p) (ρ1.set i (.own (xs.eraseIdx j)))
      | _ => False
    | _ => False) R h fun y H1 F1 q ρ1 s1 R1 rq h1 => ?_
  split at h1
  · cases rq
    split at h1
    · rename_i kk xs hx
      obtain ⟨b1, b2, j, p, hj, hp, hq⟩ := h1
      have g := look_get hx (by intro z; cases z)
      obtain ⟨a', vs, e1, o⟩ := R1.own i xs g
      rw [e0] at e1; cases e1
      obtain ⟨v, hv, rv⟩ := o.rep.get hp
      refine ⟨a, vs, _, j, v, rfl, rfl, o.at_, b1, b2, by rw [o.rep.length]; exact hj, hv, ?_⟩
      exact k v _ F1 (.val p) _ s1 (R1.write g e0 o (Reps.eraseIdx j o.rep)) rv hq
    · exact h1.elim
  · exact h1.elim
theorem ve_popL {i : Nat} {x : Str} {p1 p2 p3 : Pos} (hN : X.N[i]? = some x) (hv : Vis X.env.scope x)
    (hp : PE X (.Call (.Attribute (.Name x p1) "pop" p2) [] [] p3) (tBM X.K "list" rPop (tVar i) tNil)) : VE X (.Call (.Attribute (.Name x p1) "pop" p2) [] [] p3) (wPopL i) := by
  refine PE.imp hp ?_
  rintro σ H Q ⟨hO, Fr, F, ρ, Qv, R, h, k⟩
  unfold wPopL at h
  split at h
  · rename_i xs hx
    obtain ⟨p, hp, hq⟩ := h
    have g := look_get hx (by intro z; cases z)
    obtain ⟨a, vs, e0, o⟩ := R.own i xs g
    obtain ⟨v, hv, rv⟩ := o.rep.get hp
    refine ⟨.ref a, e0, .inl ⟨rfl, _, .inl (.inl o.at_)⟩, ?_⟩
    refine ⟨a, vs, v, rfl, rfl, o.at_, by rw [o.rep.length]; exact hv, ?_⟩
    exact k v _ F (.val p) _ (Same.refl F) (R.write g e0 o (Reps.dropLast o.rep)) rv hq
  · exact h.elim
theorem vs_extend {i : Nat} {x : Str} {e : Expr} {w : WE} {p1 p2 p3 : Pos} (hN : X.N[i]? = some x) (hv : Vis X.env.scope x)
    (hp : PE X (.Call (.Attribute (.Name x p1) "extend" p2) [e] [] p3) (tBM X.K "list" rExtend (tVar i) (tCons (eE X.K X.mg w) tNil))) (hs : swapsWith (.Call (.Attribute (.Name x p1) "extend" p2) [e] [] p3) none pos.line X.env = pure false := by rfl) :
    VS X (.Expr (.Call (.Attribute (.Name x p1) "extend" p2) [e] [] p3) pos) (wExtend i w) := by
  refine PS.imp (ps_expr hp hs) ?_
  rintro D σ H ⟨hO, Fr, F, ρ, DV, R, ⟨⟨xs0, hx0⟩, h⟩, k1, k2, k3, k4⟩
  obtain ⟨a, vs0, e0, o0⟩ := R.own i xs0 (look_get hx0 (by intro z; cases z))
  refine ⟨.ref a, e0, .inl ⟨rfl, _, .inl (.inl o0.at_)⟩, ?_⟩
  refine eE.pv (Qv := fun p ρ1 => match p with
    | .lst ys => match look ρ1 i with
      | .own xs => xs.length + ys.length ≤ sizeLine ∧ DV.nx (ρ1.set i (.own (xs ++ ys)))
      | _ => False
    | _ => False) R h fun y H1 F1 p ρ1 s1 R1 rp h1 => ?_
  split at h1
  · cases rp with
    | lst eb rb =>
      split at h1
      · rename_i xs hx
        have g := look_get hx (by intro z; cases z)
        obtain ⟨a', vs, e1, o⟩ := R1.own i xs g
        rw [e0] at e1; cases e1
        refine ⟨a, _, vs, _, rfl, rfl, o.at_, R1.sub _ _ eb, by rw [o.rep.length, rb.length]; exact h1.1, ?_⟩
        exact k1 _ _ F1 _ s1 (R1.write g e0 o (Reps.append o.rep rb)) h1.2
      · exact h1.elim
  · exact h1.elim
end
/-! ### sorted of data -/
section
open PySem.W
variable {X : Cx}
def sortP {α : Type} (xs : List α) (ds : List PyData) : List α := ((xs.zip ds).mergeSort (dataLe false (·.2))).map (·.1)
def rSortedD (K : PySem.W.Frag) : List V → Hp → VK → Prop := fun vs H Q => ∃ (a : Addr) (xs : List V) (ds : List PyData), vs = [.ref a] ∧ SqL K H a xs ∧ DpAll K H xs ds ∧ AllAlike ds ∧ Sortable ds ∧ PyData.depthAll ds ≤ 60 ∧
  ∀ p, H p = none → Q (.ref p) (upd H p (.lst (sortP xs ds)))
theorem depth_le : ∀ {ds : List PyData} {d : PyData}, d ∈ ds → d.depth ≤ PyData.depthAll ds
  | e :: ds, d, h => by
    rw [PyData.depthAll]
    rcases List.mem_cons.mp h with rfl | h
    · exact Nat.le_max_left _ _
    · exact Nat.le_trans (depth_le h) (Nat.le_max_right _ _)
theorem each_zip {h : Heap} : ∀ {xs : List V} {us : List Value} {ds : List PyData} {as : List Addr}, Vals xs us → ReadsAll h us ds as → EachIs (fun u (b : V × PyData) => RelV b.1 u) us (xs.zip ds) ∧ EachIs (fun u (b : V × PyData) => ∃ as, Reads h u b.2 as) us (xs.zip ds) ∧ (xs.zip ds).map (·.2) = ds ∧ (xs.zip ds).length = xs.length
  | [], [], _, _, .nil, .nil => ⟨.nil, .nil, rfl, rfl⟩
  | x :: xs, u :: us, _, _, .cons r rv, .cons q qs => by
    obtain ⟨h1, h2, h3, h4⟩ := each_zip rv qs
    exact ⟨.cons r h1, .cons ⟨_, q⟩ h2, by simp [h3], by simp [h4]⟩
theorem vals_each : ∀ {us : List Value} {bs : List (V × PyData)}, EachIs (fun u b => RelV b.1 u) us bs → Vals (bs.map (·.1)) us
  | _, _, .nil => .nil
  | _, _, .cons r t => .cons r (vals_each t)
theorem call_sortedDt {k : Nat} (hr : RoomG k X.A) : CallR X (.builtin "sorted") (rSortedD X.K) := by
  intro pins s σ H vs us Q I r h
  obtain ⟨a, xs, ds, rfl, hs, hd, hal, hso, hdep, q⟩ := h
  obtain ⟨its, rv, hl, hz⟩ := I.list hs
  rw [Vals.ref1 r]
  obtain ⟨as, hra⟩ := Dp.readsAll I ds xs its hd rv
  obtain ⟨e1, e2, e3, e4⟩ := each_zip rv hra
  refine sorted_data (bs := xs.zip ds) (enc := (·.2)) hl.isList e1 e2 (by rw [e3]; exact hal) (by rw [e3]; exact hso) (by rw [e4]; exact hz) (fun b hb => ?_) fun out hlen eo => ?_
  · have : b.2 ∈ ds := by rw [← e3]; exact List.mem_map_of_mem hb
    have := depth_le this
    have := hr.un
    show X.A.units + 2 + b.2.depth < cLine
    omega
  · obtain ⟨ep, he'⟩ := PyProof.Rows.sortedAll_at s.heap its out.toArray
    have hv := vals_each eo
    have hlen2 : (((xs.zip ds).mergeSort (dataLe false (·.2))).map (·.1)).length ≤ sizeLine := by
      rw [List.length_map, List.length_mergeSort, e4]; exact hz
    exact ⟨.ref _, upd H (s.heap.objs.size + 1) (.lst (sortP xs ds)), I.laid (t' := s.toks) (fun _ _ => PyProof.Rows.sortedAll_old) (Nat.le_succ _) ⟨hlen2, out, ep, hv, he'⟩, rfl, q _ (I.hok.fresh (Nat.le_succ _))⟩
def opSorted : SpV := fun ps Q => ∃ (xs : List PV) (ds : List PyData), ps = [.lst xs] ∧ toDs xs = some ds ∧ AllAlike ds ∧ Sortable ds ∧ PyData.depthAll ds ≤ 60 ∧ Q (.own (sortP xs ds))
theorem reps_zip {G : Gh} {F : Hp} : ∀ {vs : List V} {ps : List PV} (ds : List PyData), Reps G F vs ps → ∀ {l : List (V × PyData)} {m : List (PV × PyData)}, l = vs.zip ds → m = ps.zip ds → ∃ z : List ((V × PV) × PyData), l = z.map (fun t => (t.1.1, t.2)) ∧ m = z.map (fun t => (t.1.2, t.2)) ∧ ∀ t ∈ z, Rep G F t.1.1 t.1.2
  | [], [], ds, .nil, _, _, rfl, rfl => ⟨[], rfl, rfl, fun t h => nomatch h⟩
  | v :: vs, p :: ps, [], .cons h r, _, _, rfl, rfl => ⟨[], rfl, rfl, fun t h => nomatch h⟩
  | v :: vs, p :: ps, d :: ds, .cons h r, _, _, rfl, rfl => by
    obtain ⟨z, h1, h2, h3⟩ := reps_zip ds r rfl rfl
    refine ⟨((v, p), d) :: z, by simp [h1], by simp [h2], fun t ht => ?_⟩
    rcases List.mem_cons.mp ht with rfl | ht
    · exact h
    · exact h3 t ht
theorem reps_map {G : Gh} {F : Hp} : ∀ (z : List ((V × PV) × PyData)), (∀ t ∈ z, Rep G F t.1.1 t.1.2) → Reps G F (z.map (·.1.1)) (z.map (·.1.2))
  | [], _ => .nil
  | t :: z, h => .cons (h t List.mem_cons_self) (reps_map z fun u hu => h u (List.mem_cons_of_mem _ hu))
theorem Reps.sort {G : Gh} {F : Hp} {vs : List V} {ps : List PV} (ds : List PyData) (r : Reps G F vs ps) : Reps G F (sortP vs ds) (sortP ps ds) := by
  obtain ⟨z, h1, h2, h3⟩ := reps_zip ds r rfl rfl
  unfold sortP
  rw [h1, h2]
  have e1 := List.map_mergeSort (r := dataLe false (fun t : (V × PV) × PyData => t.2)) (s := dataLe false (fun b : V × PyData => b.2)) (f := fun t : (V × PV) × PyData => (t.1.1, t.2)) (l := z) (fun a _ b _ => rfl)
  have e2 := List.map_mergeSort (r := dataLe false (fun t : (V × PV) × PyData => t.2)) (s := dataLe false (fun b : PV × PyData => b.2)) (f := fun t : (V × PV) × PyData => (t.1.2, t.2)) (l := z) (fun a _ b _ => rfl)
  rw [← e1, ← e2, List.map_map, List.map_map]
  exact reps_map _ fun t ht => h3 t (List.mem_mergeSort.mp ht)
theorem ser_sorted {K mg} : SerC K mg (rSortedD K) opSorted := by
  intro hO Fr F σ H ρ vs ps Qv Q R rs h k
  obtain ⟨xs, ds, rfl, e1, hal, hso, hdep, h⟩ := h
  cases rs with
  | cons r rn =>
    cases rn
    cases r with
    | lst e rs' =>
      exact ⟨_, _, ds, rfl, .inl (.inl (R.sub _ _ e)), dpsMono R.sub (dps_of rs' e1), hal, hso, hdep, fun p hp => k _ _ F (.own _) (Same.refl F) (R.fresh hp) (R.freshOwn hp (rs'.sort ds)) h⟩
end
end VE
end
section
set_option Elab.async false
set_option linter.all false
set_option maxRecDepth 100000
namespace VX
open M (ret exc fail draw)
open PySem PySem.Spec PyProof.Rows L2 VE PySem.W
/-! ### x.pop(..), x.extend(..), sorted, min, max -/
def popRd (r : Sl) (i : Nat) (k : Int) (ρ : Rho) : M (Sl × Rho) := match r with
  | .own xs => M.ite (decide (-(2 ^ 63) ≤ k) && decide (k < 2 ^ 63)) (br := ⟨(match seqIndex? k xs.length with
      | some j => match xs[j]? with
        | some p => ret (.val p, ρ.set i (.own (xs.eraseIdx j)))
        | none => fail
      | none => fail), fail⟩)
  | _ => fail
def pop0 (q : Sl) (i : Nat) (a : ME) (ρ : Rho) : M (Sl × Rho) := match q with
  | .own _ => bnd (a ρ) (f := ⟨fun q ρ1 => (asI q.pv).bind (f := ⟨fun k => popRd (look ρ1 i) i k ρ1⟩)⟩)
  | _ => fail
def mPopAt (i : Nat) (a : ME) (ρ : Rho) : M (Sl × Rho) := pop0 (look ρ i) i a ρ
def popL0 (q : Sl) (i : Nat) (ρ : Rho) : M (Sl × Rho) := match q with
  | .own xs => match xs[xs.length - 1]? with
    | some p => ret (.val p, ρ.set i (.own xs.dropLast))
    | none => fail
  | _ => fail
def mPopL (i : Nat) (ρ : Rho) : M (Sl × Rho) := popL0 (look ρ i) i ρ
def putExt (r : Sl) (i : Nat) (p : PV) (ρ : Rho) : M (Out × Rho) := match p with
  | .lst ys => match r with
    | .own xs => M.ite (decide (xs.length + ys.length ≤ sizeLine)) (br := ⟨ret (.nx, ρ.set i (.own (xs ++ ys))), fail⟩)
    | _ => fail
  | _ => fail
def ext0 (q : Sl) (i : Nat) (a : ME) (ρ : Rho) : M (Out × Rho) := match q with
  | .own _ => bnd (a ρ) (f := ⟨fun r ρ1 => putExt (look ρ1 i) i r.pv ρ1⟩)
  | _ => fail
def mExtend (i : Nat) (a : ME) (ρ : Rho) : M (Out × Rho) := ext0 (look ρ i) i a ρ
section
variable {X : Cx} {pos : Pos}
theorem xe_popAt {e : Expr} {i : Nat} {m : ME} (h : VE X e (wPopAt i (wE m))) : XE X e (mPopAt i m) := ve_le h fun ρ Q q => by
  unfold wE mPopAt pop0 at q
  unfold wPopAt
  split at q
  · rename_i xs0 z
    refine ⟨⟨xs0, z⟩, ?_⟩
    rw [all_bnd] at q
    refine M.All.imp q fun p1 q1 => ?_
    rw [all_bind] at q1
    obtain ⟨k, e, q2⟩ := asI_ok q1
    rw [e]
    try dsimp only
    unfold popRd at q2
    split at q2
    · rename_i xs z1
      try rw [z1]
      try dsimp only
      rw [all_ite] at q2
      split at q2
      · rename_i hc
        simp only [Bool.and_eq_true, decide_eq_true_eq] at hc
        refine ⟨hc.1, hc.2, ?_⟩
        split at q2
        · rename_i j hj
          split at q2
          · rename_i p hp
            exact ⟨j, p, hj, hp, q2⟩
          · exact q2.elim
        · exact q2.elim
      · exact q2.elim
    · exact q2.elim
  · exact q.elim
theorem xe_popL {e : Expr} {i : Nat} (h : VE X e (wPopL i)) : XE X e (mPopL i) := ve_le h fun ρ Q q => by
  unfold wE mPopL popL0 at q
  unfold wPopL
  split at q
  · rename_i xs z
    try rw [z]
    try dsimp only
    split at q
    · rename_i p hp
      exact ⟨p, hp, q⟩
    · exact q.elim
  · exact q.elim
theorem xs_extend {s : Stmt} {i : Nat} {m : ME} (h : VS X s (wExtend i (wE m))) : XS X s (mExtend i m) := vs_le h fun D ρ q => by
  unfold wS mExtend ext0 at q
  unfold wExtend
  split at q
  · rename_i xs0 z
    refine ⟨⟨xs0, z⟩, ?_⟩
    rw [all_bnd] at q
    refine M.All.imp q fun p1 q1 => ?_
    unfold putExt at q1
    split at q1
    · rename_i ys ey
      rw [ey]
      try dsimp only
      split at q1
      · rename_i xs z1
        try rw [z1]
        exact guard_okA (Q := endO D) (r := (Out.nx, _)) (fun h => of_decide_eq_true h) q1
      · exact q1.elim
    · exact q1.elim
  · exact q.elim
end
mutual
def ofD : PyData → PV
  | .bool b => .bl b
  | .int i => .int i
  | .str x => .str x
  | .list xs => .lst (ofDs xs)
  | .tuple xs => .tup (ofDs xs)
  | _ => .non
def ofDs : List PyData → List PV
  | [] => []
  | d :: ds => ofD d :: ofDs ds
end
mutual
theorem ofD_of : ∀ {p : PV} {d : PyData}, toD p = some d → ofD d = p
  | .non, _, e => by simp [toD] at e; subst e; rfl
  | .bl b, _, e => by simp [toD] at e; subst e; rfl
  | .int i, _, e => by simp [toD] at e; subst e; rfl
  | .str x, _, e => by simp [toD] at e; subst e; rfl
  | .lst xs, _, e => by
    simp only [toD, Option.map_eq_some_iff] at e
    obtain ⟨ds, e1, rfl⟩ := e
    simp only [ofD, ofDs_of e1]
  | .tup xs, _, e => by
    simp only [toD, Option.map_eq_some_iff] at e
    obtain ⟨ds, e1, rfl⟩ := e
    simp only [ofD, ofDs_of e1]
  | .dct0, _, e => by simp [toD] at e
  | .hnd, _, e => by simp [toD] at e
  | .ty _, _, e => by simp [toD] at e
  | .fnc _, _, e => by simp [toD] at e
  | .ins _ _ _, _, e => by simp [toD] at e
  | .ptr _, _, e => by simp [toD] at e
theorem ofDs_of : ∀ {ps : List PV} {ds : List PyData}, toDs ps = some ds → ofDs ds = ps
  | [], _, e => by simp [toDs] at e; subst e; rfl
  | p :: ps, _, e => by
    simp only [toDs] at e
    split at e
    · rename_i d ds e1 e2
      cases e
      simp only [ofDs, ofD_of e1, ofDs_of e2]
    · cases e
end
def isNoneD : PyData → Bool
  | .none => true
  | _ => false
def isTupD : PyData → Bool
  | .tuple (_ :: _) => true
  | _ => false
def noTupD : PyData → Bool
  | .tuple _ => false
  | _ => true
def alkB (ds : List PyData) : Bool := ds.all fun x => ds.all fun y => alike x y
def minB (ds : List PyData) : Bool := alkB ds && (ds.all fun x => !isNoneD x) && decide (PyData.depthAll ds ≤ 64)
def sortB (ds : List PyData) : Bool := alkB ds && (ds.all isTupD || ds.all fun x => !isNoneD x && noTupD x) && decide (PyData.depthAll ds ≤ 60)
theorem alkB_ok {ds : List PyData} (h : alkB ds = true) : ∀ x ∈ ds, ∀ y ∈ ds, alike x y = true := by
  unfold alkB at h
  rw [List.all_eq_true] at h
  intro x hx
  have := h x hx
  rw [List.all_eq_true] at this
  exact this
theorem minB_ok {ds : List PyData} (h : minB ds = true) : AlikeAll ds ∧ PyData.depthAll ds ≤ 64 := by
  unfold minB at h
  rw [Bool.and_eq_true, Bool.and_eq_true] at h
  refine ⟨⟨alkB_ok h.1.1, fun x hx e => ?_⟩, of_decide_eq_true h.2⟩
  have := (List.all_eq_true.mp h.1.2) x hx
  rw [e] at this; cases this
theorem sortB_ok {ds : List PyData} (h : sortB ds = true) : AllAlike ds ∧ Sortable ds ∧ PyData.depthAll ds ≤ 60 := by
  unfold sortB at h
  rw [Bool.and_eq_true, Bool.and_eq_true] at h
  refine ⟨alkB_ok h.1.1, ?_, of_decide_eq_true h.2⟩
  rw [Bool.or_eq_true] at h
  rcases h.1.2 with h | h
  · refine .inl fun d hd => ?_
    have := (List.all_eq_true.mp h) d hd
    cases d with
    | tuple xs => cases xs with
      | nil => cases this
      | cons x r => exact ⟨x, r, rfl⟩
    | _ => cases this
  · refine .inr fun d hd => ?_
    have := (List.all_eq_true.mp h) d hd
    refine ⟨fun e => ?_, fun xs e => ?_⟩ <;> (subst e; cases this)
def minM (xs : List PV) : M Sl := match toDs xs with
  | some (d :: ds) => M.ite (minB (d :: ds)) (br := ⟨ret (.val (ofD (minD d ds))), fail⟩)
  | _ => fail
def maxM (xs : List PV) : M Sl := match toDs xs with
  | some (d :: ds) => M.ite (minB (d :: ds)) (br := ⟨ret (.val (ofD (maxD d ds))), fail⟩)
  | _ => fail
def bMinD : FM := fun ps => match ps with
  | [.lst xs] => minM xs
  | [.tup xs] => minM xs
  | _ => fail
def bMaxD : FM := fun ps => match ps with
  | [.lst xs] => maxM xs
  | [.tup xs] => maxM xs
  | _ => fail
theorem minM_ok {xs : List PV} {Q : Sl → Prop} (h : (minM xs).All Q nE) : ∃ d ds, toDs xs = some (d :: ds) ∧ AlikeAll (d :: ds) ∧ PyData.depthAll (d :: ds) ≤ 64 ∧ ∀ p, p ∈ xs → toD p = some (minD d ds) → Q (.val p) := by
  unfold minM at h
  split at h
  · rename_i d ds e
    have := guard_okA (fun h => minB_ok h) h
    refine ⟨d, ds, e, this.1.1, this.1.2, fun p _ e2 => ?_⟩
    rw [← ofD_of e2]; exact this.2
  · exact h.elim
theorem maxM_ok {xs : List PV} {Q : Sl → Prop} (h : (maxM xs).All Q nE) : ∃ d ds, toDs xs = some (d :: ds) ∧ AlikeAll (d :: ds) ∧ PyData.depthAll (d :: ds) ≤ 64 ∧ ∀ p, p ∈ xs → toD p = some (maxD d ds) → Q (.val p) := by
  unfold maxM at h
  split at h
  · rename_i d ds e
    have := guard_okA (fun h => minB_ok h) h
    refine ⟨d, ds, e, this.1.1, this.1.2, fun p _ e2 => ?_⟩
    rw [← ofD_of e2]; exact this.2
  · exact h.elim
theorem bMinD_ok : FnOkM bMinD opMinD := fun ps Q q => by
  unfold bMinD at q
  split at q
  · obtain ⟨d, ds, h⟩ := minM_ok q; exact ⟨_, d, ds, .inl rfl, h⟩
  · obtain ⟨d, ds, h⟩ := minM_ok q; exact ⟨_, d, ds, .inr rfl, h⟩
  · exact q.elim
theorem bMaxD_ok : FnOkM bMaxD opMaxD := fun ps Q q => by
  unfold bMaxD at q
  split at q
  · obtain ⟨d, ds, h⟩ := maxM_ok q; exact ⟨_, d, ds, .inl rfl, h⟩
  · obtain ⟨d, ds, h⟩ := maxM_ok q; exact ⟨_, d, ds, .inr rfl, h⟩
  · exact q.elim
def bSorted : FM := fun ps => match ps with
  | [.lst xs] => match toDs xs with
    | some ds => M.ite (sortB ds) (br := ⟨ret (.own (sortP xs ds)), fail⟩)
    | none => fail
  | _ => fail
theorem bSorted_ok : FnOkM bSorted opSorted := fun ps Q q => by
  unfold bSorted at q
  split at q
  · split at q
    · rename_i ds e
      have := guard_okA (fun h => sortB_ok h) q
      exact ⟨_, ds, rfl, e, this.1.1, this.1.2.1, this.1.2.2, this.2⟩
    · exact q.elim
  · exact q.elim
/-! over typed things -/
section
open VM
variable {α : Type} [DecidableEq α] [Dm α] [Do α]
theorem alkB_dm (l : List α) : alkB (l.map Dm.dd) = true := by
  unfold alkB
  rw [List.all_eq_true]
  intro x hx
  rw [List.all_eq_true]
  intro y hy
  obtain ⟨a, _, rfl⟩ := List.mem_map.mp hx
  obtain ⟨b, _, rfl⟩ := List.mem_map.mp hy
  exact Do.alk a b
theorem nn_dm (l : List α) : ((l.map Dm.dd).all fun x => !isNoneD x) = true := by
  rw [List.all_eq_true]
  intro x hx
  obtain ⟨a, _, rfl⟩ := List.mem_map.mp hx
  have := Do.nn a
  cases h : Dm.dd a with
  | none => exact absurd h this
  | _ => rfl
theorem minB_dm (l : List α) (hd : Dm.dep α ≤ 64) : minB (l.map Dm.dd) = true := by
  unfold minB
  rw [alkB_dm, nn_dm, decide_eq_true (Nat.le_trans (depAll_map l) hd)]; rfl
theorem min_dm' (d : α) (l : List α) (hd : Dm.dep α ≤ 64) : minM ((d :: l).map Dm.emb) = ret (.val (Dm.emb (minL d l))) := by
  unfold minM
  rw [toDs_map]
  show M.ite (minB ((d :: l).map Dm.dd)) (br := ⟨ret (Sl.val (ofD (minD (Dm.dd d) (l.map Dm.dd)))), fail⟩) = _
  rw [mite_p (minB_dm (d :: l) hd), minD_eq, ofD_of (Dm.toD_emb _)]
/-- sorted, of tuples -/
theorem sort_dm (l : List α) (hd : Dm.dep α ≤ 60) (ht : ∀ a : α, isTupD (Dm.dd a) = true) : bSorted [.lst (l.map Dm.emb)] = ret (.own ((l.mergeSort fun a b => !Do.ltb b a).map Dm.emb)) := by
  unfold bSorted
  try dsimp only
  rw [toDs_map]
  try dsimp only
  have hs : sortB (l.map Dm.dd) = true := by
    unfold sortB
    have h2 : (l.map Dm.dd).all isTupD = true := by
      rw [List.all_eq_true]
      intro x hx
      obtain ⟨a, _, rfl⟩ := List.mem_map.mp hx
      exact ht a
    rw [alkB_dm, h2, decide_eq_true (Nat.le_trans (depAll_map l) hd)]; rfl
  rw [mite_p hs]
  unfold sortP
  have hz : (l.map Dm.emb).zip (l.map Dm.dd) = l.map fun a => (Dm.emb a, Dm.dd a) := by
    clear hs
    induction l with
    | nil => rfl
    | cons a l ih => rw [List.map_cons, List.map_cons, List.map_cons, List.zip_cons_cons, ih]
  rw [hz, ← List.map_mergeSort (r := fun a b => !Do.ltb b a) (f := fun a : α => (Dm.emb a, Dm.dd a)) (fun a _ b _ => ?_), List.map_map]
  · rfl
  · show _ = dataLe false (·.2) (Dm.emb a, Dm.dd a) (Dm.emb b, Dm.dd b)
    rw [dataLe_eq]
    simp only [cond_false]
    rw [Do.lt_eq]
end
end VX
end
section
set_option Elab.async false
set_option linter.all false
set_option maxRecDepth 100000
namespace VE
open PySem PySem.Spec PyProof.Rows L2
/-! ### a class of the program's own: what must be known of it -/
def kinds7 : List String := ["NoneType", "bool", "int", "str", "tuple", "list", "dict"]
/-- all that is asked of a class's text, as one Bool -/
def clsB (K : PySem.W.Frag) (C : Addr) : Bool :=
  He.eqO (PySem.W.findIn K (.ref C) "__class__") (some (some (.builtin "object.__class__"))) && He.eqO (PySem.W.specialIn K (.builtin "object.__class__") "__get__") (some (some (.builtin "getset_descriptor.__get__"))) &&
  decide (PySem.W.takesIn K (.builtin "object.__class__") = some true) && decide (PySem.W.mroIn K C (.type "object") = some true) &&
  kinds7.all (fun n => decide (PySem.W.kitOne K (.type n) (.ref C) = some false)) && kinds7.all (fun n => decide (PySem.W.kitOne K (.ref C) (.type n) = some false))
structure ClsF (K : PySem.W.Frag) (C : Addr) : Prop where
  cl : Cls K C
  ca : PySem.W.findIn K (.ref C) "__class__" = some (some (.builtin "object.__class__"))
  hn : PySem.W.specialIn K (.builtin "object.__class__") "__get__" = some (some (.builtin "getset_descriptor.__get__"))
  tk : PySem.W.takesIn K (.builtin "object.__class__") = some true
  mr : PySem.W.mroIn K C (.type "object") = some true
  no : ∀ n ∈ kinds7, PySem.W.kitOne K (.type n) (.ref C) = some false
  nt : ∀ n ∈ kinds7, PySem.W.kitOne K (.ref C) (.type n) = some false
theorem clsF_of {K : PySem.W.Frag} {C : Addr} (c : Cls K C) (h : clsB K C = true) : ClsF K C := by
  unfold clsB at h
  simp only [Bool.and_eq_true, List.all_eq_true, decide_eq_true_eq] at h
  obtain ⟨⟨⟨⟨⟨h1, h2⟩, h3⟩, h4⟩, h5⟩, h6⟩ := h
  exact ⟨c, He.eqO_ok h1, He.eqO_ok h2, h3, h4, h5, h6⟩
theorem kit_self {K : PySem.W.Frag} {C : Addr} : PySem.W.kitOne K (.ref C) (.ref C) = some true := by unfold PySem.W.kitOne; rw [if_pos (beq_self_eq_true _)]
/-- the class of that name -/
def ClsN (K : PySem.W.Frag) (mg : Str → Option Value) (c : Str) : Prop := ∃ C, mg c = some (.ref C) ∧ ClsF K C
/-! ### isinstance -/
/-- whether a plain value is of a class: a built-in one, or the own one c -/
def isiP (c : Str) (p q : PV) : Option Bool := match q with
  | .ty n => match p with
    | .ins d _ _ => if d = c ∧ n ∈ kinds7 then some false else none
    | _ => (kindOf p).bind fun k => kitB k n
  | .fnc d => if d = c then match p with
    | .ins e _ _ => if e = c then some true else none
    | _ => (kindOf p).bind fun k => if k ∈ kinds7 then some false else none
    else none
  | _ => none
def opIsiC (c : Str) : SpV := fun ps Q => ∃ p q b, ps = [p, q] ∧ isiP c p q = some b ∧ Q (.val (.bl b))
section
variable {K : PySem.W.Frag} {mg : Str → Option Value} {hO : Option Addr} {Fr F H : Hp}
/-- a value's class, as HandS has it -/
theorem ty_kind {x : V} {p : PV} {k : String} (R : RB ⟨K, mg, hO⟩ Fr F H) (r : Rep ⟨K, mg, hO⟩ F x p) (h : kindOf p = some k) : TyX K H x (.type k) := by
  cases r with
  | non => simp only [kindOf, Option.some.injEq] at h; subst h; exact .base .non
  | bl => simp only [kindOf, Option.some.injEq] at h; subst h; exact .base (.bl _)
  | int => simp only [kindOf, Option.some.injEq] at h; subst h; exact .base (.int _)
  | str => simp only [kindOf, Option.some.injEq] at h; subst h; exact .base (.str _)
  | tup e rs' =>
    simp only [kindOf, Option.some.injEq] at h; subst h
    have e' := Same.sqt R.sub e
    rcases e' with (e' | ⟨o, e'⟩) | ⟨o, its, n, e', ec, _⟩
    · exact .base (.tup e')
    · exact .fTuple e'
    · exact .kTuple e' ec
  | lst e rs' => simp only [kindOf, Option.some.injEq] at h; subst h; exact .base (.lst (R.sub _ _ e))
  | dct0 e => simp only [kindOf, Option.some.injEq] at h; subst h; exact .base (.dK (R.sub _ _ e))
  | hnd e =>
    simp only [kindOf, Option.some.injEq] at h; subst h
    obtain ⟨_, c, cs, i, b', m, n, e3, _⟩ := R.hand _ e
    exact .base (.lst e3)
  | ty | fnc | ins | ptr => simp [kindOf] at h
theorem ty_ins {x : V} {c : Str} {ns : List Str} {ps : List PV} (R : RB ⟨K, mg, hO⟩ Fr F H) (r : Rep ⟨K, mg, hO⟩ F x (.ins c ns ps)) (N : ClsN K mg c) : ∃ C, mg c = some (.ref C) ∧ ClsF K C ∧ TyX K H x (.ref C) := by
  obtain ⟨C, hC, T⟩ := N
  cases r with
  | ins h1 h2 h3 h4 h5 =>
    rw [show mg c = _ from h1] at hC; cases hC
    exact ⟨_, h1, T, .base (.ins (R.sub _ _ h2) T.cl T.ca T.hn T.tk T.mr)⟩
theorem isi_run {c : Str} {x y : V} {p q : PV} {b : Bool} {Q : VK} (N : ClsN K mg c) (R : RB ⟨K, mg, hO⟩ Fr F H) (rx : Rep ⟨K, mg, hO⟩ F x p) (ry : Rep ⟨K, mg, hO⟩ F y q) (h : isiP c p q = some b) (hq : Q (.bl b) H) : rIsi K [x, y] H Q := by
  cases q with
  | ty n =>
    cases ry
    by_cases hp : ∃ d ns ps, p = .ins d ns ps
    · obtain ⟨d, ns, ps, rfl⟩ := hp
      simp only [isiP] at h
      split at h
      · rename_i hd
        obtain ⟨rfl, hn⟩ := hd
        cases h
        obtain ⟨C, _, T, ty⟩ := ty_ins R rx N
        exact ⟨x, .ty n, _, _, _, rfl, .ty n, ty, T.nt n hn, hq⟩
      · cases h
    · have h' : (kindOf p).bind (fun k => kitB k n) = some b := by
        cases p <;> first | exact h | exact absurd ⟨_, _, _, rfl⟩ hp
      obtain ⟨k, e1, e2⟩ := Option.bind_eq_some_iff.mp h'
      exact ⟨x, .ty n, _, _, _, rfl, .ty n, ty_kind R rx e1, kit_ty e2, hq⟩
  | fnc d =>
    simp only [isiP] at h
    split at h
    · rename_i hd
      subst hd
      obtain ⟨C, hC, T⟩ := N
      cases ry with
      | fnc hm =>
        rw [show mg d = _ from hm] at hC; cases hC
        by_cases hp : ∃ e ns ps, p = .ins e ns ps
        · obtain ⟨e, ns, ps, rfl⟩ := hp
          dsimp only at h
          split at h
          · rename_i he
            subst he
            cases h
            obtain ⟨C', hC', _, ty⟩ := ty_ins R rx ⟨_, hm, T⟩
            rw [show mg e = _ from hm] at hC'; cases hC'
            exact ⟨x, _, _, _, _, rfl, .own _, ty, kit_self, hq⟩
          · cases h
        · have h' : (kindOf p).bind (fun k => if k ∈ kinds7 then some false else none) = some b := by
            cases p <;> first | exact h | exact absurd ⟨_, _, _, rfl⟩ hp
          obtain ⟨k, e1, e2⟩ := Option.bind_eq_some_iff.mp h'
          split at e2
          · rename_i hk
            cases e2
            exact ⟨x, _, _, _, _, rfl, .own _, ty_kind R rx e1, T.no k hk, hq⟩
          · cases e2
    · cases h
  | _ => cases h
theorem ser_isiC {c : Str} (N : ClsN K mg c) : SerC K mg (rIsi K) (opIsiC c) := by
  intro hO Fr F σ H ρ vs ps Qv Q R rs h k
  obtain ⟨p, q, b, rfl, hb, h⟩ := h
  cases rs with
  | cons r rn =>
    cases rn with
    | cons r' rn =>
      cases rn
      exact isi_run N R.toRB r r' hb (k (.bl b) H F (.val (.bl b)) (Same.refl F) R (Rep.bl _) h)
end
/-! ### o.f -/
def fldP (f : Str) : List Str → List PV → Option PV
  | n :: ns, p :: ps => if f = n then some p else fldP f ns ps
  | _, _ => none
def opFld (c f : Str) : UnV := fun p Q => match p with
  | .ins d ns ps => d = c ∧ ∃ x, fldP f ns ps = some x ∧ Q (.val x)
  | _ => False
theorem fld_get {G : Gh} {F : Hp} {f : Str} : ∀ {fs : List (Str × V)} {ps : List PV} {x : PV}, Reps G F (fs.map (·.2)) ps → fldP f (fs.map (·.1)) ps = some x → ∃ v, fs.lookup f = some v ∧ Rep G F v x
  | [], _, _, .nil, h => by cases h
  | (n, v) :: fs, _, x, .cons r rs, h => by
    simp only [List.map_cons, fldP] at h
    by_cases e : f = n
    · subst e
      rw [if_pos rfl] at h; cases h
      exact ⟨v, by simp [List.lookup], r⟩
    · rw [if_neg e] at h
      obtain ⟨u, h1, h2⟩ := fld_get rs h
      have e' : (f == n) = false := beq_eq_false_iff_ne.mpr e
      exact ⟨u, by simp [List.lookup, e', h1], h2⟩
section
variable {X : Cx} {pos : Pos}
theorem ve_fld {c f : Str} {e : Expr} {we : WE} (N : ClsN X.K X.mg c) (hf : ∀ C, X.mg c = some (.ref C) → NoAttr X.K C f) (he : VE X e we) (hb : attributeBase e f X.env (eval e X.env) = eval e X.env) : VE X (.Attribute e f pos) (wUn (opFld c f) we) := by
  refine PE.imp (pe_fld he hb) ?_
  rintro σ H Q ⟨hO, Fr, F, ρ, Qv, R, h, k⟩
  refine eE.pv (Qv := fun p ρ1 => opFld c f p fun r => Qv r ρ1) R h fun x H1 F1 p ρ1 s1 R1 rp h1 => ?_
  unfold opFld at h1
  split at h1
  · obtain ⟨rfl, z, e1, hq⟩ := h1
    obtain ⟨C, hC, T⟩ := N
    cases rp with
    | ins q1 q2 q3 q4 q5 =>
      rw [show X.mg _ = _ from q1] at hC; cases hC
      subst q4
      obtain ⟨v, e2, rv⟩ := fld_get q5 e1
      exact ⟨_, _, _, _, v, rfl, R1.sub _ _ q2, T.cl, hf _ q1, e2, k v H1 F1 (.val z) ρ1 s1 R1 rv hq⟩
  · exact h1.elim
end
/-! ### C(e) -/
/-- __init__'s promise: of an instance just laid and of a value, an instance's fields -/
def spI (K : PySem.W.Frag) (mg : Str → Option Value) (c : Str) (S : SpV) : Sp := fun vs H Q _ => ∃ (a dx C : Addr) (us : List V) (hO : Option Addr) (Fr F : Hp) (ps : List PV) (Qv : Sl → Prop), vs = .ref a :: us ∧ us.length = 1 ∧ mg c = some (.ref C) ∧ dx ≠ a ∧ Fr a = none ∧ Fr dx = none ∧
  RB ⟨K, mg, hO⟩ (upd (upd Fr dx (.own a)) a (.ins C dx [])) F H ∧ Reps ⟨K, mg, hO⟩ F us ps ∧ S ps Qv ∧
  ∀ H' F' p, Same F F' → RB ⟨K, mg, hO⟩ Fr F' H' → Rep ⟨K, mg, hO⟩ F' (.ref a) p → Qv (.val p) → Q .non H'
def CalC (P : Program) (w : World) (K : PySem.W.Frag) (mg : Str → Option Value) (base : Heap) (c : Str) (k : Nat) (S : SpV) : Prop :=
  ∃ C f fd ps, L2.Mk K C f ∧ FnG P w K mg base k f fd ps (spI K mg c S) ∧ mg c = some (.ref C) ∧ Binds K fd ps []
theorem RoomG.make {k : Nat} {A : Around} (r : RoomG (k + 1) A) (C : Addr) (us : List Value) (kw : List (Str × Value)) : RoomG k (A.under (.builtin "type.__call__" ⟨.ref C :: us, kw⟩)) := ⟨r.room.make C us kw, r.gd⟩
section
variable {X : Cx} {pos : Pos} {C f : Addr} {fd : FuncData} {k : Nat} {prs : List Str} {sp : Sp} {x : Str} {p : Pos} {e : Expr} {es : List Expr} {t : TA}
def tMakeG (C : Addr) (sp : Sp) (t : TA) : TE := fun σ H Q => t σ H fun vs H1 => ∀ x dx, H1 x = none → H1 dx = none → dx ≠ x → sp (.ref x :: vs) (upd (upd H1 dx (.own x)) x (.ins C dx [])) (fun v H2 => v = .non ∧ Q (.ref x) H2) E0
theorem run_makeG {pins : List (Addr × Obj)} {σ : L2.St} {H : Hp} {s : Shared} {Q : VK} {us : List Value} {vs : List V} (M : L2.Mk X.K C f) (F : FnG X.prog X.w X.K X.mg X.base k f fd prs sp) (hr : RoomG (k + 1) X.A) (hb : Binds X.K fd prs [])
    (I : Inv X pins σ H s) (r : Vals vs us)
    (h : ∀ x dx, H x = none → H dx = none → dx ≠ x → sp (.ref x :: vs) (upd (upd H dx (.own x)) x (.ins C dx [])) (fun v H2 => v = .non ∧ Q (.ref x) H2) E0) :
    wpAny (model X.prog X.w) X.A (call (.ref C) us) (EP X pins σ Q) X.xe s := by
  have q := h (s.heap.objs.size + 1) s.heap.objs.size (I.hok.fresh (Nat.le_succ _)) (I.hok.fresh (Nat.le_refl _)) (Nat.ne_of_lt (Nat.lt_succ_self _))
  have J := Inv.made (C := C) I
  have rr : Vals (V.ref (s.heap.objs.size + 1) :: vs) (Value.ref (s.heap.objs.size + 1) :: us) := .cons rfl r
  have len := rr.length
  rw [F.len _ _ _ _ q] at len
  have bd := hb _ (Value.ref (s.heap.objs.size + 1) :: us) J.kIn (by rw [List.append_nil]; exact len.symm)
  rw [List.append_nil] at bd
  refine wpAny_call (make_map (f := f) I.kIn M.makes M.init (beq_iff_eq.mp M.fn) (codeAny_mono (F.go _ X.stack _ _ ⟨Value.ref (s.heap.objs.size + 1) :: us, []⟩ _ _ _ (hr.make C us []) (J.env0.make C us []) bd rr q) fun z s' hz => ?_))
  match z, hz with
  | .ok (.ret _), hz =>
    obtain ⟨v, H', J2, rv, ev, q3⟩ := J.after hz
    subst ev
    exact ⟨rv, ⟨V.ref (s.heap.objs.size + 1), H', J2, rfl, q3⟩⟩
  | .ok .next, hz => exact hz.elim
  | .ok .brk, hz => exact hz.elim
  | .ok .cont, hz => exact hz.elim
  | .error _, hz => exact False.elim hz
theorem pe_makeG (M : L2.Mk X.K C f) (F : FnG X.prog X.w X.K X.mg X.base k f fd prs sp) (hr : RoomG (k + 1) X.A) (hg : Gl X x) (hm : X.mg x = some (.ref C)) (hb : Binds X.K fd prs [])
    (ha : PA X (e :: es) t) (hdb : (x == ("__debug__" : Str)) = false := by decide) (he : starEach (e :: es) X.env = (false, eval e X.env) :: starEach es X.env := by rfl) (hpl : (backTo pos (starEach es X.env)).any (·.1) = false := by rfl) :
    PE X (.Call (.Name x p) (e :: es) [] pos) (tMakeG C sp t) := ⟨fun pins s σ H Q I hw => by
  have step : wpAny (model X.prog X.w) X.A (spliced (backTo pos (starEach (e :: es) X.env))) (fun us s1 => X.K.In s1.heap ∧ wpAny (model X.prog X.w) X.A (call (.ref C) us) (EP X pins σ Q) X.xe s1) X.xe s :=
    thn (ha.run pos pins s σ H _ I hw) fun us s1 ⟨vs, H1, I1, r1, q1⟩ => ⟨I1.kIn, run_makeG M F hr hb I1 r1 q1⟩
  exact wpAny_Call_Name_kw (ld_glob I hg hm (PySem.W.callWith_K (h₀ := X.base) I.ok.mod.kin M.kp step he hpl) hdb)⟩
end
theorem same_two {H : Hp} {a dx : Addr} {o u : HO} (h1 : H a = none) (h2 : H dx = none) (ne : dx ≠ a) : Same H (upd (upd H dx o) a u) := (same_upd h2).trans (same_upd (by rw [upd_ne (Ne.symm ne)]; exact h1))
section
variable {X : Cx} {pos : Pos}
theorem ve_make {x : Str} {k : Nat} {S : SpV} {e : Expr} {wa : WA} {p : Pos} (C : CalC X.prog X.w X.K X.mg X.base x k S) (hr : RoomG (k + 1) X.A) (hg : Gl X x) (ha : VA X [e] wa)
    (hdb : (x == ("__debug__" : Str)) = false := by decide) (he : starEach [e] X.env = (false, eval e X.env) :: starEach [] X.env := by rfl) (hpl : (backTo pos (starEach [] X.env)).any (·.1) = false := by rfl) :
    VE X (.Call (.Name x p) [e] [] pos) (wCallN 1 S wa) := by
  obtain ⟨C, f, fd, prs, M, F, hm, hb⟩ := C
  refine PE.imp (pe_makeG M F hr hg hm hb ha hdb he hpl) ?_
  rintro σ H Q ⟨hO, Fr, F, ρ, Qv, R, h, k⟩
  refine ⟨hO, Fr, F, ρ, _, R, h, fun vs H1 F1 ps ρ1 s1 R1 rs ⟨ql, q⟩ => ?_⟩
  intro a dx ha hd ne
  have B := R1.toFrm
  -- the instance joins the frame
  have na : frm Fr H1 σ ρ1 a = none := B.notFr ha
  have nd : frm Fr H1 σ ρ1 dx = none := B.notFr hd
  have hF : F1 a = none := B.nF ha
  have hFd : F1 dx = none := B.nF hd
  have B2 : RB ⟨X.K, X.mg, hO⟩ (upd (upd (frm Fr H1 σ ρ1) dx (.own a)) a (.ins C dx [])) F1 (upd (upd H1 dx (.own a)) a (.ins C dx [])) := by
    refine ⟨fun b o e => ?_, fun b o e => ?_, fun b e => ?_⟩
    · have h1 : b ≠ a := ne_of_none e hF
      have h2 : b ≠ dx := ne_of_none e hFd
      rw [upd_ne h1, upd_ne h2]; exact B.sub b o e
    · by_cases h1 : b = a
      · subst h1
        rw [upd_same] at e ⊢
        exact ⟨e, hF, B.notHand ha⟩
      · rw [upd_ne h1] at e ⊢
        by_cases h2 : b = dx
        · subst h2
          rw [upd_same] at e ⊢
          exact ⟨e, hFd, B.notHand hd⟩
        · rw [upd_ne h2] at e ⊢
          exact B.fr b o e
    · obtain ⟨g1, c, cs, i, b', m, n, e1, e2, e3, e4⟩ := B.hand b e
      have h1 : b ≠ a := ne_of_none e1 ha
      have h2 : b ≠ dx := ne_of_none e1 hd
      exact ⟨g1, c, cs, i, b', m, n, by rw [upd_ne h1, upd_ne h2]; exact e1, e2, e3, e4⟩
  refine ⟨a, dx, C, vs, hO, frm Fr H1 σ ρ1, F1, ps, _, rfl, by rw [rs.length]; exact ql, hm, ne, na, nd, B2, rs, q, fun H' F' p s B' rp q' => ⟨rfl, ?_⟩⟩
  exact k (.ref a) H' F' (.val p) ρ1 (s1.trans s) (R1.ofFrm s B') rp q'
end
end VE
end
section
set_option Elab.async false
set_option linter.all false
set_option maxRecDepth 100000
namespace VE
open PySem PySem.Spec PyProof.Rows L2
/-! ### an __init__ of looks, then two stores -/
theorem RB.change {G : Gh} {Fr F H : Hp} {a : Addr} {o o' : HO} (R : RB G Fr F H) (ha : Fr a = some o) : RB G (upd Fr a o') F (upd H a o') := by
  obtain ⟨g1, g2, g3⟩ := R.fr a o ha
  refine ⟨fun b u e => ?_, fun b u e => ?_, fun b e => ?_⟩
  · rw [upd_ne (ne_of_none e g2)]; exact R.sub b u e
  · by_cases hb : b = a
    · subst hb; rw [upd_same] at e ⊢; exact ⟨e, g2, g3⟩
    · rw [upd_ne hb] at e ⊢; exact R.fr b u e
  · have hb : b ≠ a := fun z => by subst z; exact g3 e
    obtain ⟨h1, c, cs, i, b', m, n, e1, e2⟩ := R.hand b e
    exact ⟨h1, c, cs, i, b', m, n, by rw [upd_ne hb]; exact e1, e2⟩
theorem Rr.change {G : Gh} {Fr F H : Hp} {σ : L2.St} {ρ : Rho} {a : Addr} {o o' : HO} (R : Rr G Fr F σ H ρ) (ha : Fr a = some o) : Rr G (upd Fr a o') F σ (upd H a o') ρ where
  toRB := R.toRB.change ha
  len := R.len
  val := R.val
  own := fun i ys e => by
    obtain ⟨b, us, h1, h2⟩ := R.own i ys e
    have hb : b ≠ a := fun z => by subst z; have := h2.nFr; rw [ha] at this; cases this
    exact ⟨b, us, h1, by rw [upd_ne hb]; exact h2.at_, h2.rep, h2.nF, h2.nh, by rw [upd_ne hb]; exact h2.nFr⟩
  sep := R.sep
def seqs : List WS → WS
  | [] => wNext
  | w :: ws => wSeq w (seqs ws)
def tSeqs (K : PySem.W.Frag) (mg : Str → Option Value) : List WS → TS → TS
  | [], t => t
  | w :: ws, t => tSeq (eS K mg w) (tSeqs K mg ws t)
/-- the looks are read, then what follows -/
theorem seqs_read {K : PySem.W.Frag} {mg : Str → Option Value} {hO : Option Addr} {Fr : Hp} {D : Ends} {last : TS} {P : Rho → Prop} :
    ∀ (ws : List WS) (F : Hp) (σ : L2.St) (H : Hp) (ρ : Rho), Rr ⟨K, mg, hO⟩ Fr F σ H ρ → seqs ws { nx := P, rt := fun _ => False } ρ → (∀ σ' H' F' ρ', Same F F' → Rr ⟨K, mg, hO⟩ Fr F' σ' H' ρ' → P ρ' → last D σ' H') → tSeqs K mg ws last D σ H
  | [], F, σ, H, ρ, R, h, k => k σ H F ρ (Same.refl F) R h
  | w :: ws, F, σ, H, ρ, R, h, k => by
    refine ⟨hO, Fr, F, ρ, { nx := fun ρ1 => seqs ws { nx := P, rt := fun _ => False } ρ1, rt := fun _ => False }, R, h, fun σ' H' F' ρ' s R' q => ?_, fun v H' F' r _ _ _ z => z.elim, fun σ' H' F' ρ' _ _ z => z.elim, fun σ' H' F' ρ' _ _ z => z.elim⟩
    exact seqs_read ws F' σ' H' ρ' R' q fun σ2 H2 F2 ρ2 s2 R2 q2 => k σ2 H2 F2 ρ2 (s.trans s2) R2 q2
/-- what an instance with two fields is promised to hold -/
def initW (ws : List WS) (w1 w2 : WE) (c f1 f2 : Str) (n : Nat) : SpV := fun ps Q => ∀ a : Addr, seqs ws { nx := fun ρ => look ρ 0 = .val (.ptr a) ∧ w1 ρ fun r1 ρ1 => look ρ1 0 = .val (.ptr a) ∧ w2 ρ1 fun r2 ρ2 => look ρ2 0 = .val (.ptr a) ∧ Q (.val (.ins c [f1, f2] [r1.pv, r2.pv])), rt := fun _ => False } (startR n (.ptr a :: ps))
theorem ptr_at {G : Gh} {Fr F H : Hp} {σ : L2.St} {ρ : Rho} {a : Addr} (R : Rr G Fr F σ H ρ) (h : look ρ 0 = .val (.ptr a)) : σ[0]? = some (some (V.ref a)) := by
  obtain ⟨v, e, r⟩ := R.val 0 _ (look_get h (by intro z; cases z))
  cases r
  exact e
section
variable {P : Program} {w : World} {K : PySem.W.Frag} {mg : Str → Option Value} {base : Heap} {params : Arguments} {body : List Stmt} {scope : Scope} {f : Addr} {fd : FuncData} {c f1 f2 qual : Str}
theorem init_read {ws : List WS} {w1 w2 : WE} {n : Nat} {N : List Str} {vs : List V} {H : Hp} {Q : VK} {E : XK} (hn : N.length = n) (ne : f2 ≠ f1) (N' : ClsN K mg c) (h1 : ∀ C, mg c = some (.ref C) → NoAttr K C f1) (h2 : ∀ C, mg c = some (.ref C) → NoAttr K C f2)
    (h : spI K mg c (initW ws w1 w2 c f1 f2 n) vs H Q E) : tSeqs K mg ws (tSeq (sFld K (tVar 0) (eE K mg w1) f1) (sFld K (tVar 0) (eE K mg w2) f2)) { nx := fun _ H' => Q .non H', rt := Q } (L2.start N vs) H := by
  obtain ⟨a, dx, C, us, hO, Fr, F, ps, Qv, rfl, hl, hm, ned, na, nd, R, rs, q, k⟩ := h
  obtain ⟨C', hC, T⟩ := N'
  rw [hm] at hC; cases hC
  have R0 := rr_start (N := N) R (r := .cons (.ptr a) rs)
  rw [hn] at R0
  have fa : (upd (upd Fr dx (.own a)) a (HO.ins C dx [])) a = some (.ins C dx []) := upd_same
  refine seqs_read ws F _ H _ R0 (q a) fun σ' H' F' ρ' s1 R1 ⟨e1, q1⟩ => ?_
  refine eE.pv (Qv := fun p1 ρ1 => look ρ1 0 = .val (.ptr a) ∧ w2 ρ1 fun r2 ρ2 => look ρ2 0 = .val (.ptr a) ∧ Qv (.val (.ins c [f1, f2] [p1, r2.pv]))) R1 q1 fun y1 H1 F1 p1 ρ1 s2 R2 rp1 ⟨e2, q2⟩ => ?_
  refine ⟨_, ptr_at R2 e2, a, C, dx, [], rfl, (R2.fr a _ fa).1, T.cl, h1 C hm, by simp, ?_⟩
  have R3 := R2.change (o' := HO.ins C dx (putF f1 y1 [])) fa
  rw [upd_upd] at R3
  have fa2 : (upd (upd Fr dx (.own a)) a (HO.ins C dx (putF f1 y1 []))) a = some (.ins C dx (putF f1 y1 [])) := upd_same
  refine eE.pv (Qv := fun p2 ρ2 => look ρ2 0 = .val (.ptr a) ∧ Qv (.val (.ins c [f1, f2] [p1, p2]))) R3 q2 fun y2 H2 F2 p2 ρ2 s3 R4 rp2 ⟨e3, q3⟩ => ?_
  refine ⟨_, ptr_at R4 e3, a, C, dx, _, rfl, (R4.fr a _ fa2).1, T.cl, h2 C hm, by simp [putF], ?_⟩
  have R5 := R4.change (o' := HO.ins C dx (putF f2 y2 (putF f1 y1 []))) fa2
  rw [upd_upd] at R5
  -- out of the frame, into what is kept
  have ef : putF f2 y2 (putF f1 y1 []) = [(f1, y1), (f2, y2)] := by
    simp only [putF]
    rw [if_neg (fun z => ne z.symm)]
  rw [ef] at R5 ⊢
  have hFa : F2 a = none := (R5.fr a _ upd_same).2.1
  have hFd : F2 dx = none := (R5.fr dx (.own a) (by rw [upd_ne ned, upd_same])).2.1
  have B : RB ⟨K, mg, hO⟩ Fr (upd (upd F2 dx (.own a)) a (.ins C dx [(f1, y1), (f2, y2)])) (upd H2 a (.ins C dx [(f1, y1), (f2, y2)])) := by
    refine ⟨fun b u e => ?_, fun b u e => ?_, fun b e => ?_⟩
    · by_cases hb : b = a
      · subst hb; rw [upd_same] at e ⊢; exact e
      · rw [upd_ne hb] at e
        by_cases hb2 : b = dx
        · subst hb2
          rw [upd_same] at e; cases e
          exact (R5.fr b (.own a) (by rw [upd_ne hb, upd_same])).1
        · rw [upd_ne hb2] at e
          exact R5.sub b u e
    · have b1 : b ≠ a := ne_of_none e na
      have b2 : b ≠ dx := ne_of_none e nd
      obtain ⟨g1, g2, g3⟩ := R5.fr b u (by rw [upd_ne b1, upd_ne b2]; exact e)
      exact ⟨g1, by rw [upd_ne b1, upd_ne b2]; exact g2, g3⟩
    · obtain ⟨g1, c', cs, i, b', m, n', g4, g5, g6⟩ := R5.hand b e
      have b1 : b ≠ a := fun z => by subst z; exact (R5.fr b _ upd_same).2.2 e
      have b2 : b ≠ dx := fun z => by subst z; exact (R5.fr b (.own a) (by rw [upd_ne b1, upd_same])).2.2 e
      refine ⟨by rw [upd_ne b1, upd_ne b2]; exact g1, c', cs, i, b', m, n', g4, ?_, g6⟩
      exact same_two hFa hFd ned _ _ g5
  refine k _ _ _ ((s1.trans (s2.trans s3)).trans (same_two hFa hFd ned)) B ?_ q3
  refine Rep.ins hm upd_same (by rw [upd_ne ned, upd_same]) rfl ?_
  exact .cons ((rp1.mono s3).mono (same_two hFa hFd ned)) (.cons (rp2.mono (same_two hFa hFd ned)) .nil)
theorem calC_of {N prs : List Str} {k n : Nat} {C : Addr} {ws : List WS} {w1 w2 : WE} (F : FunD K "__init__" qual params body scope [] [] f fd) (M : L2.Mk K C f) (hm : mg c = some (.ref C)) (Sc : FnScope N prs scope) (hN : N.length = n) (hp : prs.length = 2)
    (ne : f2 ≠ f1) (N' : ClsN K mg c) (h1 : ∀ C, mg c = some (.ref C) → NoAttr K C f1) (h2 : ∀ C, mg c = some (.ref C) → NoAttr K C f2)
    (hb : ∀ (kV doc pm : Value) (an : Option Addr) (cdv ct : Value) (us : List Value), us.length = prs.length → bindArgs (PySem.W.fnOf "__init__" qual params body scope .none kV doc pm an cdv ct) ⟨us, []⟩ = pure (prs.zip us))
    (hd : ∀ (cdv : Value) (A : Around) (outer : List Env) (s : Shared) (H : Hp), RoomG k (A.deeper (envOfC qual scope s.heap.objs.size f cdv)) →
      PSs (cxOf CX0 P w K mg base N qual scope f cdv A outer s H E0).nox body (tSeqs K mg ws (tSeq (sFld K (tVar 0) (eE K mg w1) f1) (sFld K (tVar 0) (eE K mg w2) f2)))) :
    CalC P w K mg base c (k + 1) (initW ws w1 w2 c f1 f2 n) := by
  obtain ⟨oc, od, dV, kV, doc, pm, an, cdv, ct, osl, e, lk, hcd, _, _⟩ := F.ex
  have bd := F.bindsN hb
  subst e
  refine ⟨C, f, _, prs, M, fnG_of lk hcd Sc (fun vs H Q E ⟨a, dx, C, us, _, _, _, _, _, e, hl, _⟩ => by rw [e, List.length_cons, hl, hp]) (fun A outer s H vs Q hr h => ?_), hm, bd⟩
  exact ⟨_, PSs.nox (hd cdv A outer s H hr), init_read hN ne N' h1 h2 h⟩
end
end VE
end
section
set_option Elab.async false
set_option linter.all false
set_option maxRecDepth 100000
namespace VE
open PySem PySem.Spec PyProof.Rows L2 PySem.W
/-! ### sorted(set(e)), e a list of tuples of ints -/
def encK (p : Addr × List Int) : PyData := .tuple (p.2.map .int)
def leK (a b : List Int) : Bool := decide (a ≤ b)
theorem dataLe_K {p q : Addr × List Int} : dataLe false encK p q = leK p.2 q.2 := by
  rw [dataLe_eq]
  simp only [cond_false]
  unfold encK leK
  rw [dataLt_tuple]
  have e := dataLt_ints q.2 p.2
  unfold rowLt at e
  rw [e]
  by_cases h : p.2 ≤ q.2
  · rw [decide_eq_true h, decide_eq_false (by exact List.not_lt.mpr h)]; rfl
  · rw [decide_eq_false h, decide_eq_true (by exact List.not_le.mp h)]; rfl
theorem leK_trans (a b c : List Int) (h1 : leK a b = true) (h2 : leK b c = true) : leK a c = true := by
  unfold leK at *
  simp only [decide_eq_true_eq] at *
  exact List.le_trans h1 h2
theorem leK_total (a b : List Int) : (leK a b || leK b a) = true := by
  unfold leK
  simp only [Bool.or_eq_true, decide_eq_true_eq]
  exact List.le_total a b
theorem leK_anti {a b : List Int} (h1 : leK a b = true) (h2 : leK b a = true) : a = b := by
  unfold leK at *
  simp only [decide_eq_true_eq] at *
  exact List.le_antisymm h1 h2
theorem reads_ints {h : Heap} : ∀ {us : List Value} {ks : List Int}, IntsAre us ks → ReadsAll h us (ks.map .int) []
  | _, _, .nil => .nil
  | _, _, .cons k t r => .cons (.int k t) (reads_ints r)
theorem reads_key {P : Program} {w : World} {h : Heap} {k : List Int} {b : Addr} (x : IsT P w h k b) : Reads h (.ref b) (.tuple (k.map .int)) [] := by
  obtain ⟨o, items, n, ho, hc, hd, hi⟩ := x
  exact .tuple ho hc hd (reads_ints (ints_of_items hi))
theorem each_keys {P : Program} {w : World} {h : Heap} {a : Addr} : ∀ {L : List (Addr × List Int)}, (∀ p ∈ L, IsT P w h p.2 p.1) →
    EachIs (fun v p => v = Value.ref p.1) (L.map fun p => Value.ref p.1) L ∧ EachIs (fun v p => ∃ as, Reads h v (encK p) as ∧ a ∉ as) (L.map fun p => Value.ref p.1) L
  | [], _ => ⟨.nil, .nil⟩
  | p :: L, H => by
    obtain ⟨h1, h2⟩ := each_keys (a := a) (L := L) fun q hq => H q (List.mem_cons_of_mem _ hq)
    exact ⟨.cons rfl h1, .cons ⟨[], reads_key (H p List.mem_cons_self), by simp⟩ h2⟩
theorem each_refs : ∀ {vs : List Value} {L : List (Addr × List Int)}, EachIs (fun v p => v = Value.ref p.1) vs L → vs = L.map fun p => Value.ref p.1
  | _, _, .nil => rfl
  | _, _, .cons h t => by rw [List.map_cons, ← each_refs t, h]
theorem depth_key (p : Addr × List Int) : (encK p).depth ≤ 1 := by
  unfold encK
  rw [PyData.depth, depth_ints]
  exact Nat.le_refl _
section
variable {prog : Program} {w : World} {A : Around} {E : Value → Shared → Prop} {s : Shared}
/-- a list of tuples of ints is sorted in place -/
theorem sort_keys {a : Addr} {L : List (Addr × List Int)} {n : Nat} {Q : Value → Shared → Prop} (ho : s.heap.get? a = some (seqObj "list" (L.map fun p => Value.ref p.1).toArray n)) (ht : ∀ p ∈ L, IsT prog w s.heap p.2 p.1) (hz : ∀ p ∈ L, p.2 ≠ []) (hL : L.length ≤ sizeLine)
    (hu : A.units + 2 < cLine) (h : ∀ L' : List (Addr × List Int), L' = L.mergeSort (dataLe false encK) → Q .none { s with heap := sortedHeap s.heap a (L.map fun p => Value.ref p.1) (L'.map fun p => Value.ref p.1).toArray }) :
    wpAny (model prog w) A (call (.builtin "list.sort") [.ref a]) Q E s := by
  obtain ⟨e1, e2⟩ := each_keys (a := a) ht
  refine list_sort_data (bs := L) (enc := encK) ho e1 e2 (AllAlike.of fun p q => ?_) (.inl fun d hd => ?_) hL (fun p _ => ?_) fun out hl eo => ?_
  · show alike (.tuple _) (.tuple _) = true
    simp only [alike]
    exact alike_ints _ _
  · obtain ⟨p, hp, rfl⟩ := List.mem_map.mp hd
    unfold encK
    have := hz p hp
    cases hk : p.2 with
    | nil => exact absurd hk this
    | cons x r => exact ⟨_, _, rfl⟩
  · have := depth_key p; omega
  · have e : out = (L.mergeSort (dataLe false encK)).map fun p => Value.ref p.1 := each_refs eo
    rw [e]
    exact h _ rfl
end
/-- sorted(set) -/
def rSortedTD (K : PySem.W.Frag) (P : Program) (w : World) : List V → Hp → VK → Prop := fun vs H Q => ∃ (a : Addr) (L : List (Addr × List Int)), vs = [V.ref a] ∧ H a = some (SetTO P w a L) ∧ (∀ p ∈ L, SqT K H p.1 (p.2.map V.int)) ∧ (∀ p ∈ L, p.2 ≠ []) ∧
  ∀ (L' : List (Addr × List Int)) (p : Addr), L'.Perm L → (L'.map (·.2)).Nodup → L'.length < 64 → L'.Pairwise (fun q r => leK q.2 r.2 = true) → H p = none → Q (.ref p) (upd H p (.lst (L'.map fun q => V.ref q.1)))
section
variable {X : Cx}
theorem sorted_pw (L : List (Addr × List Int)) : (L.mergeSort (dataLe false encK)).Pairwise (fun q r => leK q.2 r.2 = true) := by
  have := List.pairwise_mergeSort (le := dataLe false encK) (fun a b c => by simp only [dataLe_K]; exact leK_trans _ _ _) (fun a b => by simp only [dataLe_K]; exact leK_total _ _) L
  exact this.imp fun h => by rw [dataLe_K] at h; exact h
theorem cr_sortedTD (hc : X.calm = true) (hu : X.A.units + 64 < cLine) : CallR X (.builtin "sorted") (rSortedTD X.K X.prog X.w) := by
  intro pins s σ H vs us Q I r h
  obtain ⟨a, L, rfl, ha, hk, hz, q⟩ := h
  have R0 : SetT0 X.prog X.w s.heap a L := (I.hok a _ ha).1
  obtain ⟨es, ep, t, R⟩ := R0.full fun p hp => I.isT (hk p hp)
  rw [Vals.ref1 r]
  obtain ⟨o, ho, hex, hd⟩ := R.ob
  have hsz := R.size
  have hfew := R.few
  refine Calls.call_function_entry kind_sorted plain_sorted entry_sorted (args_sorted1 _) ?_
  unfold Builtin.«sorted»
  refine wpAny_bind (m := checkCount "sorted" 1 1 _) (wpAny_pure ?_)
  refine wpAny_bind (collect_set (A := X.A.in1) (I.ok.hd hc) ⟨o, ho, hex.1, hd⟩ R.fits (by unfold scanBound; omega) R.tab.ris R.led fun s1 vs k1 hz1 g1 o1 pm => ?_)
  have hes : es.toList.map (·.2) = L.map fun q => Value.ref q.1 := by
    rw [R.rows]
    unfold L2.rowsOf
    rw [List.map_map] <;> rfl
  rw [hes] at pm
  obtain ⟨L1, p1, e1⟩ := perm_lift (fun q : Addr × List Int => Value.ref q.1) pm L rfl
  subst e1
  have hl1 : L1.length < 64 := by rw [p1.length_eq]; exact hfew
  refine wpAny_bind (wpAny_newList ?_ (by rw [List.length_map, sizeLine_eq]; omega))
  have hoL : (s1.heap.push (seqObj "list" (L1.map fun q => Value.ref q.1).toArray 0)).get? s1.heap.objs.size = some (seqObj "list" (L1.map fun q => Value.ref q.1).toArray 0) := Heap.get?_push_size _ rfl
  refine wpAny_bind (wpAny_holding (sort_keys (prog := X.prog) (w := X.w) (s := { s1 with heap := s1.heap.push (seqObj "list" (L1.map fun q => Value.ref q.1).toArray 0) }) hoL (fun p hp => isT_keep (R.tup p (p1.mem_iff.mp hp)) fun b u e => Heap.get?_push_of_some _ (k1 b u e))
    (fun p hp => hz p (p1.mem_iff.mp hp)) (by rw [sizeLine_eq]; omega) (by show X.A.units + 1 + 2 < cLine; omega) fun L' e' => ?_))
  have pL : L'.Perm L1 := by rw [e']; exact List.mergeSort_perm ..
  obtain ⟨c, hcc⟩ := sortedHeap_at (vs := L1.map fun q => Value.ref q.1) (out := (L'.map fun q => Value.ref q.1).toArray) hoL
  have kk : ∀ b u, s.heap.get? b = some u → (sortedHeap (s1.heap.push (seqObj "list" (L1.map fun q => Value.ref q.1).toArray 0)) s1.heap.objs.size (L1.map fun q => Value.ref q.1) (L'.map fun q => Value.ref q.1).toArray).get? b = some u := fun b u e => by
    have q := k1 b u e
    have hlt := Heap.lt_size q
    rw [sortedHeap_old (Nat.ne_of_lt hlt) (by rw [size_push']; exact Nat.lt_succ_of_lt hlt)]
    exact Heap.get?_push_of_some _ q
  have hn : H s1.heap.objs.size = none := I.hok.fresh hz1
  have hlen : (L'.map fun q => V.ref q.1).length ≤ sizeLine := by rw [List.length_map, sizeLine_eq, pL.length_eq]; omega
  have hv : Vals (L'.map fun q => V.ref q.1) (L'.map fun q => Value.ref q.1).toArray.toList := vals_of_refs L'
  refine wpAny_pure ⟨_, rfl, ?_⟩
  obtain ⟨h1, g2, d1, t1, os1⟩ := s1
  have eg : g2 = s.gens := g1
  have eo : os1 = s.os := o1
  subst eg; subst eo
  have J : Inv X pins σ (upd H h1.objs.size (.lst (L'.map fun q => V.ref q.1))) { s with heap := sortedHeap (h1.push (seqObj "list" (L1.map fun q => Value.ref q.1).toArray 0)) h1.objs.size (L1.map fun q => Value.ref q.1) (L'.map fun q => Value.ref q.1).toArray, gens := s.gens, drawn := d1, toks := t1 } :=
    I.call (ch := []) (Un.laid kk hz1 hn) (I.hok.laid kk hz1 ⟨hlen, _, c, hv, hcc⟩) I.bare (fun _ z => nomatch z)
  exact ⟨.ref h1.objs.size, _, J, rfl, q L' h1.objs.size (pL.trans p1) (((pL.trans p1).map (·.2)).nodup_iff.mpr R.nd) (by rw [pL.length_eq]; exact hl1) (by rw [e']; exact sorted_pw L1) hn⟩
end

def tupI (k : List Int) : PV := .tup (k.map .int)
theorem reps_ints {G : Gh} {F : Hp} : ∀ {vs : List V} {k : List Int}, Reps G F vs (k.map .int) → vs = k.map V.int
  | [], [], _ => rfl
  | _ :: _, [], r => by cases r
  | [], _ :: _, r => by cases r
  | v :: vs, i :: k, r => by
    cases r with
    | cons h t => cases h; rw [reps_ints t, List.map_cons]
theorem reps_keys {G : Gh} {F : Hp} : ∀ {vs : List V} {ks : List (List Int)}, Reps G F vs (ks.map tupI) → ∃ L : List (Addr × List Int), vs = L.map (fun p => V.ref p.1) ∧ L.map (·.2) = ks ∧ ∀ p ∈ L, SqT G.K F p.1 (p.2.map V.int)
  | [], [], _ => ⟨[], rfl, rfl, fun p h => nomatch h⟩
  | _ :: _, [], r => by cases r
  | [], _ :: _, r => by cases r
  | v :: vs, k :: ks, r => by
    cases r with
    | cons h t =>
      obtain ⟨L, h1, h2, h3⟩ := reps_keys t
      cases h with
      | @tup a us ps e rs =>
        refine ⟨(a, k) :: L, by rw [h1, List.map_cons], by rw [List.map_cons, h2], fun p hp => ?_⟩
        rcases List.mem_cons.mp hp with rfl | hp
        · rw [← reps_ints rs]; exact e
        · exact h3 p hp
theorem reps_is {G : Gh} {F : Hp} : ∀ k : List Int, Reps G F (k.map V.int) (k.map .int)
  | [] => .nil
  | i :: k => .cons (.int i) (reps_is k)
theorem reps_of {G : Gh} {F : Hp} : ∀ {L : List (Addr × List Int)}, (∀ p ∈ L, SqT G.K F p.1 (p.2.map V.int)) → Reps G F (L.map fun p => V.ref p.1) ((L.map (·.2)).map tupI)
  | [], _ => .nil
  | p :: L, H => .cons (.tup (H p List.mem_cons_self) (reps_is p.2)) (reps_of fun q hq => H q (List.mem_cons_of_mem _ hq))
def opSortedSet : SpV := fun ps Q => ∃ ks : List (List Int), ps = [.lst (ks.map tupI)] ∧ ks.length < 64 ∧ (∀ k ∈ ks, k ≠ []) ∧ ∀ ks' : List (List Int), ks'.Nodup → (∀ k, k ∈ ks' ↔ k ∈ ks) → ks'.Pairwise (fun a b => leK a b = true) → Q (.own (ks'.map tupI))
section
variable {X : Cx} {pos : Pos}
theorem ve_sortedSet {k : Nat} {e : Expr} {w : WE} {p p2 pos2 : Pos} (hr : RoomG k X.A) (hc : X.calm = true) (hg : Gl X "sorted") (hm : X.mg "sorted" = none) (hg2 : Gl X "set") (hm2 : X.mg "set" = none) (ha : VE X e w)
    (he0 : starEach [e] X.env = (false, eval e X.env) :: starEach [] X.env := by rfl) (hpl0 : (backTo pos2 (starEach [] X.env)).any (·.1) = false := by rfl)
    (he : starEach [.Call (.Name "set" p2) [e] [] pos2] X.env = (false, eval (.Call (.Name "set" p2) [e] [] pos2) X.env) :: starEach [] X.env := by rfl) (hpl : (backTo pos (starEach [] X.env)).any (·.1) = false := by rfl) :
    VE X (.Call (.Name "sorted" p) [.Call (.Name "set" p2) [e] [] pos2] [] pos) (wCall opSortedSet (wCons w wNil)) := by
  have hin : PE X (.Call (.Name "set" p2) [e] [] pos2) (tCB (rSetOfT X.K X.prog X.w) (tCons (eE X.K X.mg w) tNil)) := pe_callTy (cr_setOfT hc hr.units) hg2 hm2 (by rfl) (pa_cons ha pa_nil he0) (he := he0) (hpl := hpl0)
  refine PE.imp (pe_callB (cr_sortedTD hc hr.units) hg hm (by rfl) (pa_cons hin pa_nil he) (he := he) (hpl := hpl)) ?_
  rintro σ H Q ⟨hO, Fr, F, ρ, Qv, R, h, k⟩
  unfold wCall wCons wNil at h
  show eE X.K X.mg w σ H _
  refine eE.pv (Qv := fun q ρ1 => opSortedSet [q] fun r => Qv r ρ1) R h fun v H1 F1 q ρ1 s1 R1 rq h1 => ?_
  obtain ⟨ks, e1, hl, hz, h2⟩ := h1
  cases e1
  cases rq with
  | @lst a us ps eb rb =>
    obtain ⟨L, rfl, rfl, hL⟩ := reps_keys rb
    refine ⟨a, L, rfl, .inl (.inl (R1.sub _ _ eb)), fun p hp => Same.sqt R1.sub (hL p hp), by rw [List.length_map] at hl; exact hl, fun b L0 hb sub all => ?_⟩
    refine ⟨b, L0, rfl, upd_same, fun p hp => Same.sqt (same_upd hb) (Same.sqt R1.sub (hL p (sub p hp))), fun p hp => hz p.2 (List.mem_map.mpr ⟨p, sub p hp, rfl⟩), fun L' c pm nd hfew pw hc => ?_⟩
    have hcb : H1 c = none := by
      by_cases z : c = b
      · subst z; rw [upd_same] at hc; cases hc
      · rw [upd_ne z] at hc; exact hc
    have R2 := R1.fresh (o := SetTO X.prog X.w b L0) hb
    have R3 := R2.fresh (o := .lst (L'.map fun q => V.ref q.1)) hc
    refine k _ _ F1 (.own ((L'.map (·.2)).map tupI)) ρ1 s1 R3 (R2.freshOwn hc (reps_of fun p hp => hL p (sub p (pm.mem_iff.mp hp)))) (h2 _ nd (fun kk => ?_) ?_)
    · constructor
      · intro z
        obtain ⟨p, hp, rfl⟩ := List.mem_map.mp z
        exact List.mem_map.mpr ⟨p, sub p (pm.mem_iff.mp hp), rfl⟩
      · intro z
        obtain ⟨p, hp, rfl⟩ := List.mem_map.mp z
        exact (pm.map (·.2)).mem_iff.mpr (all p hp)
    · exact List.pairwise_map.mpr pw
end
end VE
end
section
set_option Elab.async false
set_option linter.all false
set_option maxRecDepth 100000
namespace VE
open PySem PySem.Spec PyProof.Rows L2 PySem.W
/-! ### sorted(e), e a list or a tuple of data -/
mutual
theorem reads_at {h : Heap} : ∀ {v : Value} {d : PyData} {as : List Addr}, Reads h v d as → ∀ b ∈ as, ∃ o, h.get? b = some o
  | _, _, _, .none, _, hb => nomatch hb
  | _, _, _, .bool _, _, hb => nomatch hb
  | _, _, _, .int _ _, _, hb => nomatch hb
  | _, _, _, .str _ _, _, hb => nomatch hb
  | _, _, _, .list h1 h2 h3 h4, b, hb => by
    rcases List.mem_cons.mp hb with rfl | hb
    · exact ⟨_, h1⟩
    · exact readsAll_at h4 b hb
  | _, _, _, .tuple h1 h2 h3 h4, b, hb => readsAll_at h4 b hb
  | _, _, _, .dict h1 h2 h3 h4 h5, b, hb => by
    rcases List.mem_append.mp hb with hb | hb
    · rcases List.mem_cons.mp hb with rfl | hb
      · exact ⟨_, h1⟩
      · exact readsAll_at h4 b hb
    · exact readsAll_at h5 b hb
theorem readsAll_at {h : Heap} : ∀ {v : List Value} {d : List PyData} {as : List Addr}, ReadsAll h v d as → ∀ b ∈ as, ∃ o, h.get? b = some o
  | _, _, _, .nil, _, hb => nomatch hb
  | _, _, _, .cons h1 h2, b, hb => by
    rcases List.mem_append.mp hb with hb | hb
    · exact reads_at h1 b hb
    · exact readsAll_at h2 b hb
end
theorem each_zip2 {h : Heap} {a : Addr} (hn : h.get? a = none) : ∀ {xs : List V} {us : List Value} {ds : List PyData} {as : List Addr}, Vals xs us → ReadsAll h us ds as → EachIs (fun u (b : V × PyData) => RelV b.1 u) us (xs.zip ds) ∧ EachIs (fun u (b : V × PyData) => ∃ as, Reads h u b.2 as ∧ a ∉ as) us (xs.zip ds) ∧ (xs.zip ds).map (·.2) = ds ∧ (xs.zip ds).length = xs.length
  | [], [], _, _, .nil, .nil => ⟨.nil, .nil, rfl, rfl⟩
  | x :: xs, u :: us, _, _, .cons r rv, .cons q qs => by
    obtain ⟨h1, h2, h3, h4⟩ := each_zip2 hn rv qs
    refine ⟨.cons r h1, .cons ⟨_, q, fun hm => ?_⟩ h2, by simp [h3], by simp [h4]⟩
    obtain ⟨o, e⟩ := reads_at q a hm
    rw [hn] at e; cases e
def rSortedQ (K : PySem.W.Frag) : List V → Hp → VK → Prop := fun vs H Q => ∃ (a : Addr) (xs : List V) (ds : List PyData), vs = [.ref a] ∧ (SqL K H a xs ∨ SqT K H a xs) ∧ DpAll K H xs ds ∧ AllAlike ds ∧ Sortable ds ∧ PyData.depthAll ds ≤ 60 ∧
  ∀ p, H p = none → Q (.ref p) (upd H p (.lst (sortP xs ds)))
section
variable {X : Cx}
theorem call_sortedQ {k : Nat} (hr : RoomG k X.A) : CallR X (.builtin "sorted") (rSortedQ X.K) := by
  intro pins s σ H vs us Q I r h
  obtain ⟨a, xs, ds, rfl, hs, hd, hal, hso, hdep, q⟩ := h
  obtain ⟨T, its, rv, hz, hT, o, ho, hc, n, hda⟩ : ∃ (T : String) (its : List Value), Vals xs its ∧ its.length ≤ sizeLine ∧ (T = "list" ∨ T = "tuple") ∧ ∃ o, s.heap.get? a = some o ∧ o.cls = .type T ∧ ∃ n, o.data = .seq its.toArray n := by
    rcases hs with hs | hs
    · obtain ⟨its, rv, hl, hz⟩ := I.list hs
      obtain ⟨o, h1, h2, n, h3⟩ := hl.isList
      exact ⟨"list", its, rv, by rw [← rv.length]; exact hz, .inl rfl, o, h1, h2, n, h3⟩
    · obtain ⟨its, rv, ⟨o, h1, h2, n, h3⟩, hz⟩ := I.tuple hs
      exact ⟨"tuple", its, rv, by rw [← rv.length]; exact hz, .inr rfl, o, h1, h2, n, h3⟩
  rw [Vals.ref1 r]
  obtain ⟨as, hra⟩ := Dp.readsAll I ds xs its hd rv
  refine Calls.call_function_entry kind_sorted plain_sorted entry_sorted (args_sorted1 _) ?_
  unfold Builtin.«sorted»
  refine wpAny_bind (m := checkCount "sorted" 1 1 _) (wpAny_pure ?_)
  refine wpAny_bind (wpAny_collect_seq a hT ho hc hda (fun h1 k1 => ?_) (by rw [List.size_toArray]; exact hz))
  refine wpAny_bind (wpAny_newList ?_ (by simpa using hz))
  have hnn : h1.get? h1.objs.size = none := by
    cases e : h1.get? h1.objs.size with
    | none => rfl
    | some o => exact absurd (Heap.lt_size e) (Nat.lt_irrefl _)
  have I1 : Inv X pins σ H { s with heap := h1 } := I.kept (t' := s.toks) k1
  have hra1 := PyProof.Rows.ReadsAll.keeps k1 hra
  obtain ⟨e1, e2, e3, e4⟩ := each_zip2 hnn rv hra1
  have hra2 : EachIs (fun u (b : V × PyData) => ∃ as, Reads (h1.push (seqObj "list" its.toArray 0)) u b.2 as ∧ h1.objs.size ∉ as) its (xs.zip ds) := e2.mono fun u b ⟨as, r, hn⟩ => ⟨as, PyProof.Rows.Reads.keeps (fun b o e => Heap.get?_push_of_some _ e) r, hn⟩
  have hoL : (h1.push (seqObj "list" its.toArray 0)).get? h1.objs.size = some (seqObj "list" its.toArray 0) := Heap.get?_push_size _ rfl
  refine wpAny_bind (wpAny_holding (list_sort_data (s := { s with heap := h1.push (seqObj "list" its.toArray 0) }) (bs := xs.zip ds) (enc := (·.2)) hoL e1 hra2 (by rw [e3]; exact hal) (by rw [e3]; exact hso) (by rw [e4, rv.length]; exact hz) (fun b hb => ?_) fun out hlen eo => ?_))
  · have : b.2 ∈ ds := by rw [← e3]; exact List.mem_map_of_mem hb
    have := depth_le this
    have := hr.un
    show X.A.units + 1 + 1 + b.2.depth < cLine
    omega
  · obtain ⟨c, hcc⟩ := sortedHeap_at (vs := its) (out := out.toArray) hoL
    have hv := vals_each eo
    have hlen2 : (((xs.zip ds).mergeSort (dataLe false (·.2))).map (·.1)).length ≤ sizeLine := by
      rw [List.length_map, List.length_mergeSort, e4, rv.length]; exact hz
    have hn : H h1.objs.size = none := I1.hok.fresh (Nat.le_refl _)
    have kk : ∀ b u, h1.get? b = some u → (sortedHeap (h1.push (seqObj "list" its.toArray 0)) h1.objs.size its out.toArray).get? b = some u := fun b u e => by
      have hlt := Heap.lt_size e
      rw [sortedHeap_old (Nat.ne_of_lt hlt) (by rw [size_push']; exact Nat.lt_succ_of_lt hlt)]
      exact Heap.get?_push_of_some _ e
    refine wpAny_pure ⟨_, rfl, ?_⟩
    exact ⟨.ref h1.objs.size, upd H h1.objs.size (.lst (sortP xs ds)), I1.laid (t' := s.toks) kk (Nat.le_refl _) (show ObjOk X.prog X.w _ _ _ (.lst (sortP xs ds)) from ⟨hlen2, out, c, hv, hcc⟩), rfl, q _ hn⟩
end
def opSortedQ : SpV := fun ps Q => ∃ (xs : List PV) (ds : List PyData), (ps = [.lst xs] ∨ ps = [.tup xs]) ∧ toDs xs = some ds ∧ AllAlike ds ∧ Sortable ds ∧ PyData.depthAll ds ≤ 60 ∧ Q (.own (sortP xs ds))
theorem ser_sortedQ {K mg} : SerC K mg (rSortedQ K) opSortedQ := by
  intro hO Fr F σ H ρ vs ps Qv Q R rs h k
  obtain ⟨xs, ds, rfl | rfl, e1, hal, hso, hdep, h⟩ := h
  · cases rs with
    | cons r rn =>
      cases rn
      cases r with
      | lst e rs' =>
        exact ⟨_, _, ds, rfl, .inl (.inl (.inl (R.sub _ _ e))), dpsMono R.sub (dps_of rs' e1), hal, hso, hdep, fun p hp => k _ _ F (.own _) (Same.refl F) (R.fresh hp) (R.freshOwn hp (rs'.sort ds)) h⟩
  · cases rs with
    | cons r rn =>
      cases rn
      cases r with
      | tup e rs' =>
        exact ⟨_, _, ds, rfl, .inr (Same.sqt R.sub e), dpsMono R.sub (dps_of rs' e1), hal, hso, hdep, fun p hp => k _ _ F (.own _) (Same.refl F) (R.fresh hp) (R.freshOwn hp (rs'.sort ds)) h⟩
end VE
end
section
set_option Elab.async false
set_option linter.all false
set_option maxRecDepth 100000
namespace VE
open PySem PySem.Spec PyProof.Rows L2
/-! ### x is True, x is False -/
def isBV (x : V) (b : Bool) : Bool := match x with
  | .bl a => a == b
  | _ => false
def isBP (x : PV) (b : Bool) : Bool := match x with
  | .bl a => a == b
  | _ => false
section
variable {X : Cx} {a b : Expr} {wa wb : WE} {pos : Pos}
theorem op_isB : OpR X (compareOp .Is) (fun x y H Q => ∃ k, y = .bl k ∧ Q (.bl (isBV x k)) H) := by
  intro pins s σ H x y v u Q I rx ry h
  obtain ⟨k, rfl, q⟩ := h
  cases ry
  cases x <;> first
    | (cases rx; exact wpAny_pure (fin_bl I q rfl))
    | (cases rx; exact wpAny_pure (fin_bl I q (by rename_i z; cases z <;> cases k <;> rfl)))
    | (obtain ⟨t, rfl⟩ := rx; exact wpAny_pure (fin_bl I q rfl))
theorem op_isnotB : OpR X (compareOp .IsNot) (fun x y H Q => ∃ k, y = .bl k ∧ Q (.bl (!isBV x k)) H) := by
  intro pins s σ H x y v u Q I rx ry h
  obtain ⟨k, rfl, q⟩ := h
  cases ry
  cases x <;> first
    | (cases rx; exact wpAny_pure (fin_bl I q rfl))
    | (cases rx; exact wpAny_pure (fin_bl I q (by rename_i z; cases z <;> cases k <;> rfl)))
    | (obtain ⟨t, rfl⟩ := rx; exact wpAny_pure (fin_bl I q rfl))
def opIsB : OpV := fun p q Q => ∃ k, q = .bl k ∧ Q (.val (.bl (isBP p k)))
def opIsNotB : OpV := fun p q Q => ∃ k, q = .bl k ∧ Q (.val (.bl (!isBP p k)))
theorem ser_isB {K mg} : Ser K mg (fun x y H Q => ∃ k, y = .bl k ∧ Q (.bl (isBV x k)) H) opIsB := by
  intro hO Fr F σ H ρ x y p q Qv Q R rx ry h k
  obtain ⟨c, rfl, h⟩ := h
  cases ry
  refine ⟨c, rfl, ?_⟩
  cases rx <;> exact k _ H F (.val (.bl _)) (Same.refl F) R (Rep.bl _) h
theorem ser_isnotB {K mg} : Ser K mg (fun x y H Q => ∃ k, y = .bl k ∧ Q (.bl (!isBV x k)) H) opIsNotB := by
  intro hO Fr F σ H ρ x y p q Qv Q R rx ry h k
  obtain ⟨c, rfl, h⟩ := h
  cases ry
  refine ⟨c, rfl, ?_⟩
  cases rx <;> exact k _ H F (.val (.bl _)) (Same.refl F) R (Rep.bl _) h
theorem ve_isB (ha : VE X a wa) (hb : VE X b wb) : VE X (.Compare a [.Is] [b] pos) (wBin opIsB wa wb) := ve_cmp op_isB ser_isB ha hb (nomark _)
theorem ve_isnotB (ha : VE X a wa) (hb : VE X b wb) : VE X (.Compare a [.IsNot] [b] pos) (wBin opIsNotB wa wb) := ve_cmp op_isnotB ser_isnotB ha hb (nomark _)
theorem vt_isB (ha : VE X a wa) (hb : VE X b wb) : VT X (.Compare a [.Is] [b] pos) (wTst (wBin opIsB wa wb)) := vt_cmp op_isB ser_isB ha hb (nomark _)
theorem vt_isnotB (ha : VE X a wa) (hb : VE X b wb) : VT X (.Compare a [.IsNot] [b] pos) (wTst (wBin opIsNotB wa wb)) := vt_cmp op_isnotB ser_isnotB ha hb (nomark _)
end
section
variable {X : Cx} {pos : Pos}
theorem vt_inN {i : Nat} {x : Str} {p : Pos} {a : Expr} {wa : WE} (hu : X.A.units + 65 < cLine) (hN : X.N[i]? = some x) (hv : Vis X.env.scope x) (ha : VE X a wa) (hm : behindInMarks .In (.Name x p) = false) (hd : (x == ("__debug__" : Str)) = false := by decide) (hcd : (x == ("__classdict__" : Str)) = false := by decide) :
    VT X (.Compare a [.In] [.Name x p] pos) (wTst (wInN opIn i wa)) := PT.imp (pt_cmpR (op_inD hu) ha (pe_var hN hv hd hcd) hm) (tst_t (inN_run ser_in (fun σ H Q ⟨hO, Fr, F, ρ, Qv, R, h, k⟩ => by
    unfold wVar at h
    cases q : look ρ i with
    | no => rw [q] at h; exact h.elim
    | val p =>
      rw [q] at h
      obtain ⟨v, e, rp⟩ := R.val i p (look_get q (by intro z; cases z))
      exact ⟨v, e, k v H F (.val p) ρ (Same.refl F) R rp h⟩
    | own xs =>
      rw [q] at h
      obtain ⟨v, F', e, s, R', rp⟩ := R.read (look_get q (by intro z; cases z)) (by intro z; cases z)
      exact ⟨v, e, k v H F' (.val (.lst xs)) _ s R' rp h⟩) rfl (by
    rintro hO Fr F H x a vs p xs Qv Q R rx e rs ⟨d, ds, ys, e1, e2, e3, s1, s2, h⟩ k
    cases e2
    exact ⟨d, ds, dpMono R.sub (dp_of rx e1), .lst (.inl (.inl e)) (dpsMono R.sub (dps_of rs e3)), s1, s2, k _ h⟩)))
theorem vt_notinN {i : Nat} {x : Str} {p : Pos} {a : Expr} {wa : WE} (hu : X.A.units + 65 < cLine) (hN : X.N[i]? = some x) (hv : Vis X.env.scope x) (ha : VE X a wa) (hm : behindInMarks .NotIn (.Name x p) = false) (hd : (x == ("__debug__" : Str)) = false := by decide) (hcd : (x == ("__classdict__" : Str)) = false := by decide) :
    VT X (.Compare a [.NotIn] [.Name x p] pos) (wTst (wInN opNotIn i wa)) := PT.imp (pt_cmpR (op_notInD hu) ha (pe_var hN hv hd hcd) hm) (tst_t (inN_run ser_notin (fun σ H Q ⟨hO, Fr, F, ρ, Qv, R, h, k⟩ => by
    unfold wVar at h
    cases q : look ρ i with
    | no => rw [q] at h; exact h.elim
    | val p =>
      rw [q] at h
      obtain ⟨v, e, rp⟩ := R.val i p (look_get q (by intro z; cases z))
      exact ⟨v, e, k v H F (.val p) ρ (Same.refl F) R rp h⟩
    | own xs =>
      rw [q] at h
      obtain ⟨v, F', e, s, R', rp⟩ := R.read (look_get q (by intro z; cases z)) (by intro z; cases z)
      exact ⟨v, e, k v H F' (.val (.lst xs)) _ s R' rp h⟩) rfl (by
    rintro hO Fr F H x a vs p xs Qv Q R rx e rs ⟨d, ds, ys, e1, e2, e3, s1, s2, h⟩ k
    cases e2
    exact ⟨d, ds, dpMono R.sub (dp_of rx e1), .lst (.inl (.inl e)) (dpsMono R.sub (dps_of rs e3)), s1, s2, k _ h⟩)))
end
end VE
end
section
set_option Elab.async false
set_option linter.all false
set_option maxRecDepth 100000
namespace VX
open M (ret exc fail draw)
open PySem PySem.Spec PyProof.Rows L2 VE PySem.W
/-! ### sorted(set(e)) of tuples of ints -/
def unIs : List PV → Option (List Int)
  | [] => some []
  | .int i :: ps => match unIs ps with
    | some is => some (i :: is)
    | none => none
  | _ :: _ => none
def unKs : List PV → Option (List (List Int))
  | [] => some []
  | .tup xs :: ps => match unIs xs, unKs ps with
    | some k, some ks => some (k :: ks)
    | _, _ => none
  | _ :: _ => none
theorem unIs_of : ∀ {ps : List PV} {is : List Int}, unIs ps = some is → ps = is.map .int
  | [], _, e => by simp [unIs] at e; subst e; rfl
  | .int i :: ps, _, e => by
    simp only [unIs] at e
    split at e
    · rename_i is e1; cases e; rw [unIs_of e1]; rfl
    · cases e
  | .non :: _, _, e => by simp [unIs] at e
  | .bl _ :: _, _, e => by simp [unIs] at e
  | .str _ :: _, _, e => by simp [unIs] at e
  | .ty _ :: _, _, e => by simp [unIs] at e
  | .hnd :: _, _, e => by simp [unIs] at e
  | .fnc _ :: _, _, e => by simp [unIs] at e
  | .tup _ :: _, _, e => by simp [unIs] at e
  | .lst _ :: _, _, e => by simp [unIs] at e
  | .dct0 :: _, _, e => by simp [unIs] at e
  | .ptr _ :: _, _, e => by simp [unIs] at e
  | .ins _ _ _ :: _, _, e => by simp [unIs] at e
theorem unKs_of : ∀ {ps : List PV} {ks : List (List Int)}, unKs ps = some ks → ps = ks.map tupI
  | [], _, e => by simp [unKs] at e; subst e; rfl
  | .tup xs :: ps, _, e => by
    simp only [unKs] at e
    split at e
    · rename_i k ks e1 e2; cases e; rw [unKs_of e2, unIs_of e1]; rfl
    · cases e
  | .non :: _, _, e => by simp [unKs] at e
  | .bl _ :: _, _, e => by simp [unKs] at e
  | .str _ :: _, _, e => by simp [unKs] at e
  | .ty _ :: _, _, e => by simp [unKs] at e
  | .hnd :: _, _, e => by simp [unKs] at e
  | .fnc _ :: _, _, e => by simp [unKs] at e
  | .int _ :: _, _, e => by simp [unKs] at e
  | .lst _ :: _, _, e => by simp [unKs] at e
  | .dct0 :: _, _, e => by simp [unKs] at e
  | .ptr _ :: _, _, e => by simp [unKs] at e
  | .ins _ _ _ :: _, _, e => by simp [unKs] at e
theorem unIs_map (k : List Int) : unIs (k.map .int) = some k := by
  induction k with
  | nil => rfl
  | cons i k ih => simp only [List.map_cons, unIs, ih]
theorem unKs_map (ks : List (List Int)) : unKs (ks.map tupI) = some ks := by
  induction ks with
  | nil => rfl
  | cons k ks ih => simp only [List.map_cons, tupI, unKs, unIs_map, ih]
section
variable {α : Type} [DecidableEq α]
def ded (l : List α) : List α := l.foldr (fun a acc => if a ∈ acc then acc else a :: acc) []
theorem ded_cons (a : α) (l : List α) : ded (a :: l) = if a ∈ ded l then ded l else a :: ded l := rfl
theorem mem_ded {l : List α} {x : α} : x ∈ ded l ↔ x ∈ l := by
  induction l with
  | nil => exact Iff.rfl
  | cons a l ih =>
    rw [ded_cons]
    split
    · rename_i h
      rw [List.mem_cons]
      constructor
      · intro z; exact .inr (ih.mp z)
      · rintro (rfl | z)
        · exact h
        · exact ih.mpr z
    · rw [List.mem_cons, List.mem_cons, ih]
theorem ded_nodup (l : List α) : (ded l).Nodup := by
  induction l with
  | nil => exact .nil
  | cons a l ih =>
    rw [ded_cons]
    split
    · exact ih
    · rename_i h; exact List.nodup_cons.mpr ⟨h, ih⟩
/-- what stands in order, each once, is told by what is in it -/
theorem ord_unique {le : α → α → Bool} (anti : ∀ a b, le a b = true → le b a = true → a = b) {l l' : List α} (h1 : l.Nodup) (h2 : l'.Nodup) (p1 : l.Pairwise fun a b => le a b = true) (p2 : l'.Pairwise fun a b => le a b = true) (m : ∀ x, x ∈ l ↔ x ∈ l') : l = l' :=
  List.Perm.eq_of_pairwise (fun a b _ _ => anti a b) p1 p2 ((List.perm_ext_iff_of_nodup h1 h2).mpr m)
end
def sortK (ks : List (List Int)) : List (List Int) := (ded ks).mergeSort leK
theorem sortK_nodup (ks : List (List Int)) : (sortK ks).Nodup := (List.mergeSort_perm _ _).nodup_iff.mpr (ded_nodup ks)
theorem sortK_mem {ks : List (List Int)} {k : List Int} : k ∈ sortK ks ↔ k ∈ ks := by unfold sortK; rw [List.mem_mergeSort, mem_ded]
theorem sortK_pw (ks : List (List Int)) : (sortK ks).Pairwise fun a b => leK a b = true := List.pairwise_mergeSort leK_trans leK_total _
theorem sortK_eq {ks l : List (List Int)} (h1 : l.Nodup) (h2 : l.Pairwise fun a b => leK a b = true) (h3 : ∀ k, k ∈ l ↔ k ∈ ks) : l = sortK ks :=
  ord_unique (fun _ _ => leK_anti) h1 (sortK_nodup ks) h2 (sortK_pw ks) fun x => (h3 x).trans sortK_mem.symm
def bSortedSet : FM := fun ps => match ps with
  | [.lst xs] => match unKs xs with
    | some ks => M.ite (decide (ks.length < 64) && ks.all fun k => !k.isEmpty) (br := ⟨ret (.own ((sortK ks).map tupI)), fail⟩)
    | none => fail
  | _ => fail
theorem bSortedSet_ok : FnOkM bSortedSet opSortedSet := fun ps Q q => by
  unfold bSortedSet at q
  split at q
  · split at q
    · rename_i ks e
      have := guard_okA (P := ks.length < 64 ∧ ∀ k ∈ ks, k ≠ []) (fun h => by
        simp only [Bool.and_eq_true, decide_eq_true_eq, List.all_eq_true, Bool.not_eq_true', List.isEmpty_eq_false_iff] at h
        exact h) q
      refine ⟨ks, by rw [unKs_of e], this.1.1, this.1.2, fun ks' h1 h2 h3 => ?_⟩
      rw [sortK_eq h1 h3 h2]
      exact this.2
    · exact q.elim
  · exact q.elim
/-- of points -/
theorem leK_pt (p q : Int × Int) : leK [p.1, p.2] [q.1, q.2] = !(VM.Do.ltb q p) := by
  have e : dataLt (.tuple [.int q.1, .int q.2]) (.tuple [.int p.1, .int p.2]) = VM.Do.ltb q p := VM.Do.lt_eq q p
  rw [← e, dataLt_tuple]
  have e := dataLt_ints [q.1, q.2] [p.1, p.2]
  unfold rowLt at e
  show _ = !lexLt itemOrd (keyToksAll ([q.1, q.2].map PyData.int)) (keyToksAll ([p.1, p.2].map PyData.int))
  rw [e]
  unfold leK
  by_cases h : [p.1, p.2] ≤ [q.1, q.2]
  · rw [decide_eq_true h, decide_eq_false (by exact List.not_lt.mpr h)]; rfl
  · rw [decide_eq_false h, decide_eq_true (by exact List.not_le.mp h)]; rfl
theorem sortedSet_pt (l : List (Int × Int)) (h : l.length < 64) {m : List (Int × Int)} (h1 : m.Nodup) (h2 : m.Pairwise fun a b => VM.Do.ltb b a = false) (h3 : ∀ p, p ∈ m ↔ p ∈ l) : bSortedSet [.lst (l.map VM.pt)] = ret (.own (m.map VM.pt)) := by
  have e0 : ∀ l : List (Int × Int), l.map VM.pt = (l.map fun p => [p.1, p.2]).map tupI := fun l => by rw [List.map_map]; rfl
  unfold bSortedSet
  try dsimp only
  rw [e0, unKs_map]
  try dsimp only
  have inj : ∀ a b : Int × Int, [a.1, a.2] = [b.1, b.2] → a = b := fun a b e => by
    injection e with e1 e2
    injection e2 with e2
    exact Prod.ext e1 e2
  have e : (m.map fun p => [p.1, p.2]) = sortK (l.map fun p => [p.1, p.2]) := by
    refine sortK_eq ?_ ?_ fun k => ?_
    · exact List.pairwise_map.mpr (h1.imp fun {a b} hne e => hne (inj a b e))
    · exact List.pairwise_map.mpr (h2.imp fun {a b} hl => by rw [leK_pt, hl]; rfl)
    · simp only [List.mem_map]
      constructor
      · rintro ⟨p, hp, rfl⟩; exact ⟨p, (h3 p).mp hp, rfl⟩
      · rintro ⟨p, hp, rfl⟩; exact ⟨p, (h3 p).mpr hp, rfl⟩
  have hb : (decide ((l.map fun p => [p.1, p.2]).length < 64) && (l.map fun p => [p.1, p.2]).all fun k => !k.isEmpty) = true := by
    rw [List.length_map, decide_eq_true h, Bool.true_and, List.all_eq_true]
    intro k hk
    obtain ⟨p, _, rfl⟩ := List.mem_map.mp hk
    rfl
  rw [mite_p hb, ← e, e0]
end VX
namespace VX
open M (ret exc fail draw)
open PySem PySem.Spec PyProof.Rows L2 VE PySem.W
theorem xe_sortedSet {X : Cx} {e : Expr} {m : ME} (h : VE X e (wCall opSortedSet (wCons (wE m) wNil))) : XE X e (mCall bSortedSet (mCons m mNil)) := ve_le h fun ρ Q q => by
  have q2 := call_ok bSortedSet_ok ρ Q q
  unfold wCall wA mCons at q2
  rw [all_bnd] at q2
  refine M.All.imp q2 fun p1 q1 => ?_
  rw [all_bnd] at q1
  exact q1
end VX
namespace VX
open M (ret exc fail draw)
open PySem PySem.Spec PyProof.Rows L2 VE PySem.W
def sortM (xs : List PV) : M Sl := match toDs xs with
  | some ds => M.ite (sortB ds) (br := ⟨ret (.own (sortP xs ds)), fail⟩)
  | none => fail
def bSortedQ : FM := fun ps => match ps with
  | [.lst xs] => sortM xs
  | [.tup xs] => sortM xs
  | _ => fail
theorem sortM_ok {xs : List PV} {Q : Sl → Prop} (q : (sortM xs).All Q nE) : ∃ ds, toDs xs = some ds ∧ AllAlike ds ∧ Sortable ds ∧ PyData.depthAll ds ≤ 60 ∧ Q (.own (sortP xs ds)) := by
  unfold sortM at q
  split at q
  · rename_i ds e
    have := guard_okA (fun h => sortB_ok h) q
    exact ⟨ds, e, this.1.1, this.1.2.1, this.1.2.2, this.2⟩
  · exact q.elim
theorem bSortedQ_ok : FnOkM bSortedQ opSortedQ := fun ps Q q => by
  unfold bSortedQ at q
  split at q
  · obtain ⟨ds, h⟩ := sortM_ok q; exact ⟨_, ds, .inl rfl, h⟩
  · obtain ⟨ds, h⟩ := sortM_ok q; exact ⟨_, ds, .inr rfl, h⟩
  · exact q.elim
section
open VM
variable {α : Type} [DecidableEq α] [Dm α] [Do α]
theorem sortM_dm (l : List α) (hd : Dm.dep α ≤ 60) (ht : ∀ a : α, isTupD (Dm.dd a) = true) : sortM (l.map Dm.emb) = ret (.own ((l.mergeSort fun a b => !Do.ltb b a).map Dm.emb)) := sort_dm l hd ht
end
end VX
namespace VX
open M (ret exc fail draw)
open PySem PySem.Spec PyProof.Rows L2 VE PySem.W
def pIsB : OpM := fun p q => match q with
  | .bl k => ret (.val (.bl (isBP p k)))
  | _ => fail
def pIsNotB : OpM := fun p q => match q with
  | .bl k => ret (.val (.bl (!isBP p k)))
  | _ => fail
theorem pIsB_ok : OpOk pIsB opIsB := fun p q Q h => by
  unfold pIsB at h
  split at h
  · exact ⟨_, rfl, h⟩
  · exact h.elim
theorem pIsNotB_ok : OpOk pIsNotB opIsNotB := fun p q Q h => by
  unfold pIsNotB at h
  split at h
  · exact ⟨_, rfl, h⟩
  · exact h.elim
theorem isb_t {a : Bool} : pIsB (.bl a) (.bl true) = ret (.val (.bl a)) := by cases a <;> rfl
theorem isb_f {a : Bool} : pIsB (.bl a) (.bl false) = ret (.val (.bl (!a))) := by cases a <;> rfl
theorem isnb_t {a : Bool} : pIsNotB (.bl a) (.bl true) = ret (.val (.bl (!a))) := by cases a <;> rfl
theorem isnb_f {a : Bool} : pIsNotB (.bl a) (.bl false) = ret (.val (.bl a)) := by cases a <;> rfl
end VX
namespace VX
open M (ret exc fail draw)
open PySem PySem.Spec PyProof.Rows L2 VE PySem.W
section
variable {α : Type} {xs : List α}
theorem cut_to {n : Int} (h0 : 0 ≤ n) : cutP xs none (some n) = xs.take n.toNat := by
  unfold cutP HT.sIx
  simp only [show ¬ n < 0 by omega, if_false]
  show (xs.drop 0).take _ = _
  rw [List.drop_zero]
  by_cases h : n ≤ xs.length
  · congr 1; omega
  · rw [List.take_of_length_le (by omega), List.take_of_length_le (by omega)]
theorem cut_from {n : Int} (h0 : 0 ≤ n) : cutP xs (some n) none = xs.drop n.toNat := by
  unfold cutP HT.sIx
  simp only [show ¬ n < 0 by omega, if_false]
  by_cases h : n ≤ xs.length
  · rw [List.take_of_length_le (by rw [List.length_drop]; omega)]
    congr 1; omega
  · rw [List.drop_eq_nil_of_le (by omega), List.drop_eq_nil_of_le (by omega), List.take_nil]
end
end VX
namespace VX
open M (ret exc fail draw)
open PySem PySem.Spec PyProof.Rows L2 VE PySem.W
theorem inN_ok {p : OpM} {op : OpV} {i : Nat} {m : ME} (k : OpOk p op) : ∀ ρ Q, wE (mInN p i m) ρ Q → wInN op i (wE m) ρ Q := fun ρ Q q => by
  unfold wE mInN at q
  unfold wInN
  rw [all_bnd] at q
  refine M.All.imp q fun p1 q1 => ?_
  unfold inRd at q1
  unfold wVar
  split at q1
  · rename_i xs z
    try rw [z]
    rw [all_bind] at q1
    exact k _ _ _ q1
  · rename_i x z
    try rw [z]
    rw [all_bind] at q1
    exact k _ _ _ q1
  · exact q1.elim
theorem xt_inN {X : Cx} {e : Expr} {p : OpM} {op : OpV} {i : Nat} {m : ME} (h : VT X e (wTst (wInN op i (wE m)))) (k : OpOk p op) : XT X e (mTst (mInN p i m)) := vt_le h fun ρ Q q => by
  have q' := tst_ok ρ Q q
  exact inN_ok k ρ _ q'
end VX
end
section
set_option Elab.async false
set_option linter.all false
set_option maxRecDepth 100000
open PySem PySem.Spec PyProof.Rows L2 VE VM
namespace VX
open M (ret exc fail draw)
/-! steps of a proof by draws -/
/-- all ends are as Q says -/
structure Okd {α : Type} (m : M α) (Q : α → Prop) : Prop where
  all : m.All Q nE
theorem okd_ret {α : Type} {Q : α → Prop} {a : α} : Okd (ret a : M α) Q = Q a := propext ⟨fun h => h.all, fun h => ⟨h⟩⟩
theorem st_draw {α : Type} {Q : α → Prop} {n : Int} {f : Sl → M α} (h0 : 0 < n) (h1 : n < 1073741824) (h : ∀ r : Int, 0 ≤ r → r < n → Okd (f (.val (.int r))) Q) : Okd ((c__law_draw [.hnd, .int n]).bind (f := ⟨f⟩)) Q := ⟨by
  rw [all_bind]
  exact ⟨h0, h1, fun r r0 r1 => (h r r0 r1).all⟩⟩
theorem st_call {α β : Type} {P : α → Prop} {Q : β → Prop} {m : M α} {f : α → M β} (h : Okd m P) (k : ∀ r, P r → Okd (f r) Q) : Okd (m.bind (f := ⟨f⟩)) Q := ⟨by
  rw [all_bind]
  exact M.All.imp h.all fun r hr => (k r hr).all⟩
theorem st_bnd {α β : Type} {P : α → Rho → Prop} {Q : β → Prop} {m : M (α × Rho)} {f : α → Rho → M β} (h : Okd m fun p => P p.1 p.2) (k : ∀ a ρ, P a ρ → Okd (f a ρ) Q) : Okd (bnd m (f := ⟨f⟩)) Q := ⟨by
  rw [all_bnd]
  exact M.All.imp h.all fun r hr => (k r.1 r.2 hr).all⟩
theorem st_eq {α : Type} {Q : α → Prop} {m : M α} {a : α} (e : m = ret a) (h : Q a) : Okd m Q := by rw [e]; exact ⟨h⟩
theorem st_imp {α : Type} {P Q : α → Prop} {m : M α} (h : Okd m P) (k : ∀ a, P a → Q a) : Okd m Q := ⟨M.All.imp h.all k⟩
/-- a for loop and what follows -/
theorem st_for {α β : Type} {g : MG} {b : MS} {Q : β → Prop} {f : Out → Rho → M β} (emb : α → PV) (J : List α → Rho → Prop) (ys : List α) {ρ : Rho} (h0 : J ys ρ) (hs : ∀ y ys ρ, J (y :: ys) ρ → Okd (forStep g b (emb y) ρ) fun p => match p.1 with
      | .nx => J ys p.2
      | .ct => J ys p.2
      | .bk => Okd (f .nx p.2) Q
      | .rt r => Okd (f (.rt r) p.2) Q) (he : ∀ ρ, J [] ρ → Okd (f .nx ρ) Q) : Okd (bnd (mForL g b (ys.map emb) ρ) (f := ⟨f⟩)) Q :=
  st_bnd (P := fun o ρ => Okd (f o ρ) Q) ⟨mForL_all (Q := fun p => Okd (f p.1 p.2) Q) emb J (fun y ys ρ h => (hs y ys ρ h).all) he ys ρ h0⟩ fun _ _ h => h
theorem st_while {β : Type} {t : MT} {b : MS} {Q : β → Prop} {f : Out → Rho → M β} (J : Nat → Rho → Prop) {ρ : Rho} (m : Nat) (hm : m < 10 ^ 60) (hj : J m ρ) (hs : ∀ m ρ, J m ρ → Okd (t ρ) fun p => if p.1 = true then Okd (b p.2) fun z => match z.1 with
      | .nx => ∃ m', m' < m ∧ J m' z.2
      | .ct => ∃ m', m' < m ∧ J m' z.2
      | .bk => Okd (f .nx z.2) Q
      | .rt r => Okd (f (.rt r) z.2) Q else Okd (f .nx p.2) Q) : Okd (bnd (mWhile t b ρ) (f := ⟨f⟩)) Q :=
  st_bnd (P := fun o ρ => Okd (f o ρ) Q) ⟨mWhile_ind (Q := fun p => Okd (f p.1 p.2) Q) J m hm hj fun m ρ h => M.All.imp (hs m ρ h).all fun p hp => by
    split at hp
    · rename_i hk; rw [if_pos hk]; exact hp.all
    · rename_i hk; rw [if_neg hk]; exact hp⟩ fun _ _ h => h
theorem st_comp {α β : Type} {g : MG} {t : MT} {e : ME} {vs : List Nat} {Q : β → Prop} {f : List PV → Rho → M β} {ρ : Rho} (emb : α → PV) (P : α → PV → Prop) (ys : List α) (h : ∀ y ∈ ys, Okd (compStep g t e vs (emb y) ρ) fun p => p.2 = ρ ∧ ∃ z, p.1 = some z ∧ P y z)
    (q : ∀ zs : List PV, zs.length = ys.length → (∀ z ∈ zs, ∃ y ∈ ys, P y z) → Okd (f zs ρ) Q) : Okd (bnd (mCompL g t e vs (ys.map emb) ρ) (f := ⟨f⟩)) Q :=
  st_bnd (P := fun zs ρ => Okd (f zs ρ) Q) ⟨mCompL_all (Q := fun p => Okd (f p.1 p.2) Q) emb P ys (fun y hy => (h y hy).all) q⟩ fun _ _ h => h
theorem okd_of {f : FM} {op : SpV} {args : List PV} {P : Sl → Prop} (h : Okd (f args) P) (k : FnOkM f op) : op args P := k _ _ h.all
/-- tells just true -/
abbrev Tru (m : M Sl) : Prop := Okd m fun r => r = .val (.bl true)
end VX
namespace VX
open M (ret exc fail draw)
theorem rngb {i : Int} (h1 : -1073741824 < i) (h2 : i < 1073741824) : rngB i = true := by
  unfold rngB
  simp only [Bool.and_eq_true, decide_eq_true_eq]
  omega
theorem rng1_e {j : Int} (h1 : -1073741824 < j) (h2 : j < 1073741824) : rng1 [.int j] = ret ((rangeI 0 j.toNat).map PV.int) := by
  unfold rng1
  dsimp only
  rw [mite_p (rngb h1 h2), rangeP_I]
theorem rng2_e {i j : Int} (h1 : -1073741824 < j) (h2 : j < 1073741824) (h3 : -1073741824 < i) (h4 : i < 1073741824) : rng2 [.int i, .int j] = ret ((rangeI i (j - i).toNat).map PV.int) := by
  unfold rng2
  dsimp only
  rw [mite_p (by rw [rngb h1 h2, rngb h3 h4]; rfl), rangeP_I]
end VX
namespace VX
open M (ret exc fail draw)
section
variable {α β : Type} {g : MG} {t : MT} {e : ME} {vs : List Nat} {Q : β → Prop} {f : List PV → Rho → M β} {ρ : Rho}
theorem st_map (emb : α → PV) (h : α → PV) (ys : List α) (hs : ∀ y ∈ ys, compStep g t e vs (emb y) ρ = ret (some (h y), ρ)) (k : Okd (f (ys.map h) ρ) Q) : Okd (bnd (mCompL g t e vs (ys.map emb) ρ) (f := ⟨f⟩)) Q := by
  rw [mCompL_map emb h ys hs, bnd_ret]; exact k
theorem st_filter (emb : α → PV) (c : α → Bool) (h : α → PV) (ys : List α) (hs : ∀ y ∈ ys, compStep g t e vs (emb y) ρ = ret (if c y then some (h y) else none, ρ)) (k : Okd (f ((ys.filter c).map h) ρ) Q) : Okd (bnd (mCompL g t e vs (ys.map emb) ρ) (f := ⟨f⟩)) Q := by
  rw [mCompL_filter emb c h ys hs, bnd_ret]; exact k
end
end VX
end
section
set_option Elab.async false
set_option linter.all false
set_option maxRecDepth 100000
namespace VE
open PySem PySem.Spec PyProof.Rows L2 PySem.W
/-! ### {x: True for x in e}, e a list or a tuple of tuples of ints -/
/-- the rows of the dict -/
def trueRows (L : List (Addr × List Int)) : List (List Int × Addr × Value) := L.map fun p => (p.2, p.1, Value.bool true)
/-- the first of each key -/
def firsts (ks : List (Addr × List Int)) : List (Addr × List Int) := ks.foldl (fun acc p => if p.2 ∈ acc.map (·.2) then acc else acc ++ [p]) []
theorem firsts_step (ks : List (Addr × List Int)) (p : Addr × List Int) : firsts (ks ++ [p]) = if p.2 ∈ (firsts ks).map (·.2) then firsts ks else firsts ks ++ [p] := by
  unfold firsts; rw [List.foldl_append]; rfl
theorem true_keys (L : List (Addr × List Int)) : (trueRows L).map (·.1) = L.map (·.2) := by unfold trueRows; rw [List.map_map]; rfl
theorem atKey_true {L : List (Addr × List Int)} {k : List Int} : (atKey (trueRows L) k).isSome = decide (k ∈ L.map (·.2)) := by
  induction L with
  | nil => rfl
  | cons p L ih =>
    unfold atKey at ih ⊢
    rw [Option.isSome_map] at ih ⊢
    show (List.find? (fun x => decide (x.1 = k)) ((p.2, p.1, Value.bool true) :: trueRows L)).isSome = _
    rw [List.find?_cons, List.map_cons]
    by_cases h : p.2 = k
    · have : decide ((p.2, p.1, Value.bool true).1 = k) = true := decide_eq_true h
      rw [this]
      exact (decide_eq_true (by rw [← h]; exact List.mem_cons_self)).symm
    · have : decide ((p.2, p.1, Value.bool true).1 = k) = false := decide_eq_false h
      rw [this]
      dsimp only
      rw [ih]
      exact decide_eq_decide.mpr ⟨fun z => List.mem_cons_of_mem _ z, fun z => (List.mem_cons.mp z).elim (fun e => absurd e.symm h) id⟩
theorem put_true {L : List (Addr × List Int)} {k : List Int} : (trueRows L).map (putAt k (.bool true)) = trueRows L := by
  unfold trueRows
  rw [List.map_map]
  refine List.map_congr_left fun p _ => ?_
  show putAt k (Value.bool true) (p.2, p.1, Value.bool true) = _
  unfold putAt
  split <;> rfl
theorem store_true {L : List (Addr × List Int)} {p : Addr × List Int} : storedH (trueRows L) p.2 p.1 (.bool true) = trueRows (if p.2 ∈ L.map (·.2) then L else L ++ [p]) := by
  unfold storedH
  rw [atKey_true]
  by_cases h : p.2 ∈ L.map (·.2)
  · rw [decide_eq_true h, if_pos rfl, if_pos h, put_true]
  · rw [decide_eq_false h, if_neg (by decide), if_neg h]
    unfold trueRows
    rw [List.map_append]; rfl
theorem firsts_sub {ks : List (Addr × List Int)} : ∀ p ∈ firsts ks, p ∈ ks := by
  suffices H : ∀ (ks acc : List (Addr × List Int)), ∀ p ∈ ks.foldl (fun acc p => if p.2 ∈ acc.map (·.2) then acc else acc ++ [p]) acc, p ∈ acc ∨ p ∈ ks from fun p hp => (H ks [] p hp).elim (fun h => absurd h (by simp)) id
  intro ks
  induction ks with
  | nil => intro acc p hp; exact .inl hp
  | cons k ks ih =>
    intro acc p hp
    rcases ih _ p hp with h | h
    · dsimp only at h
      split at h
      · exact .inl h
      · rcases List.mem_append.mp h with h | h
        · exact .inl h
        · rw [List.mem_singleton.mp h]; exact .inr List.mem_cons_self
    · exact .inr (List.mem_cons_of_mem _ h)
theorem firsts_len {ks : List (Addr × List Int)} : (firsts ks).length ≤ ks.length := by
  suffices H : ∀ (ks acc : List (Addr × List Int)), (ks.foldl (fun acc p => if p.2 ∈ acc.map (·.2) then acc else acc ++ [p]) acc).length ≤ acc.length + ks.length by
    have := H ks []
    unfold firsts
    simpa using this
  intro ks
  induction ks with
  | nil => intro acc; exact Nat.le_refl _
  | cons k ks ih =>
    intro acc
    rw [List.foldl_cons, List.length_cons]
    refine Nat.le_trans (ih _) ?_
    split
    · omega
    · rw [List.length_append, List.length_singleton]; omega
/-- the dict at D, without the tuples themselves -/
def DictT0 (P : Program) (w : World) (h : Heap) (D : Addr) (L : List (Addr × List Int)) : Prop :=
  ∃ o es ep, h.get? D = some o ∧ o.ExactDict ∧ o.data = .dict es ep ∧ es.toList = (trueRows L).map (entryOfKey (TK P w)) ∧ (L.map (·.2)).Nodup
theorem DictT0.full {P : Program} {w : World} {h : Heap} {D : Addr} {L : List (Addr × List Int)} (x : DictT0 P w h D L) (ht : ∀ p ∈ L, IsT P w h p.2 p.1) : h.DictOfH (TK P w) D (trueRows L) := by
  obtain ⟨o, es, ep, h1, h2, h3, h4, h5⟩ := x
  refine ⟨o, es, ep, h1, h2, h3, h4, fun q hq => ?_, by rw [true_keys]; exact h5⟩
  obtain ⟨p, hp, rfl⟩ := List.mem_map.mp hq
  exact ht p hp
theorem DictT0.of {P : Program} {w : World} {h : Heap} {D : Addr} {L : List (Addr × List Int)} (x : h.DictOfH (TK P w) D (trueRows L)) : DictT0 P w h D L := by
  obtain ⟨o, es, ep, h1, h2, h3, h4, h5, h6⟩ := x
  exact ⟨o, es, ep, h1, h2, h3, h4, by rw [true_keys] at h6; exact h6⟩
theorem DictT0.at_ {P : Program} {w : World} {h h' : Heap} {D : Addr} {L : List (Addr × List Int)} (x : DictT0 P w h D L) (k : ∀ o, h.get? D = some o → h'.get? D = some o) : DictT0 P w h' D L := by
  obtain ⟨o, es, ep, h1, h2⟩ := x
  exact ⟨o, es, ep, k o h1, h2⟩
section
variable {P : Program} {w : World} {A : Around} {E : Value → Shared → Prop} {env : Env} {s : Shared}
theorem dictTrue {x : Str} {p1 px pos : Pos} {vx iter : Expr} {scope : Scope} {cl : List (Str × Addr)} {Q : Value → Shared → Prop} (hh : A.handled = none) (hu : A.units + 1 < cLine) (hd : (x == ("__debug__" : Str)) = false)
    (hclos : closureFor scope env = pure cl) (hcell : ∀ y ∈ scope.names, y.2 ≠ .cell) (hkind : scope.kind = .function) (hnames : ∀ y ∈ scope.names, y.2 = .local → scope.names.lookup y.1 = some .local) (hx : scope.names.lookup x = some .local)
    (hv : ∀ (e : Env) (s' : Shared) (Q' : Value → Shared → Prop) (E' : Value → Shared → Prop), Q' (.bool true) s' → wpAny (model P w) A (eval vx e) Q' E' s')
    (h : wpAny (model P w) A (eval iter env) (fun xv s₁ => ∃ (a : Addr) (ks : List (Addr × List Int)), xv = .ref a ∧ (s₁.heap.IsList a (ks.map fun p => Value.ref p.1).toArray ∨ s₁.heap.IsTuple a (ks.map fun p => Value.ref p.1).toArray) ∧ (∀ p ∈ ks, IsT P w s₁.heap p.2 p.1) ∧ ks.length ≤ sizeLine ∧
      ∀ D h' tk, (∀ b o, s₁.heap.get? b = some o → h'.get? b = some o) → s₁.heap.objs.size ≤ D → h'.DictOfH (TK P w) D (trueRows (firsts ks)) → Q (.ref D) { s₁ with heap := h', toks := tk }) E s)
    (hs : ∀ x, foldedSetIterable iter env x = pure x) :
    wpAny (model P w) A (eval (.DictComp (.Name x p1) vx [⟨.Name x px, iter, [], 0⟩] scope pos) env) Q E s := by
  refine DictComp_goes hclos hcell hkind hnames (wpAny_mono h (fun xv s₁ h₁ => ?_) fun _ _ e => e) hs
  obtain ⟨a, ks, rfl, hl, ht, hz, k⟩ := h₁
  -- the loop, whichever iterator walks
  have core : ∀ (oI : Obj) (fp wr : List Addr) (St : Nat → Heap → Prop), wr = [s₁.heap.objs.size] → (∀ b ∈ fp, b < s₁.heap.objs.size + 1) → Goes P w A (.Name x px) s₁.heap.objs.size fp wr ks.length (fun i v _ => (ks.map fun p => Value.ref p.1).toArray[i]? = some v) St → St 0 (s₁.heap.push oI) →
      DcGoes P w A E env scope cl (.Name x px) [] (.Name x p1) vx none Q (.ref s₁.heap.objs.size) { s₁ with heap := s₁.heap.push oI } := by
    rintro oI fp wr St rfl hfp W st
    refine ⟨_, fp, _, ks.length, _, St, rfl, W, st, fun D C s₃ B hD => ?_⟩
    obtain ⟨h3, t3, e3⟩ := B.only
    have hD1 : s₁.heap.objs.size + 1 ≤ D := by have := B.newD; rw [Heap.size_push] at this; exact this
    have hC1 : s₁.heap.objs.size + 1 ≤ C := by have := B.newC; rw [Heap.size_push] at this; exact this
    have old3 : ∀ b o, s₁.heap.get? b = some o → s₃.heap.get? b = some o := fun b o e => B.old b o (Heap.get?_push_of_some _ e)
    have hDC := B.ne
    have neC : ∀ {b : Addr} {o : Obj}, s₁.heap.get? b = some o → b ≠ C := fun e z => Nat.lt_irrefl _ (Nat.lt_of_lt_of_le (z ▸ Heap.lt_size e) (Nat.le_of_succ_le hC1))
    have neD : ∀ {b : Addr} {o : Obj}, s₁.heap.get? b = some o → b ≠ D := fun e z => Nat.lt_irrefl _ (Nat.lt_of_lt_of_le (z ▸ Heap.lt_size e) (Nat.le_of_succ_le hD1))
    have hkl : (compEnvC scope cl C env).kindOf x = some .local := lookup_relabel_local hx
    have hkf : (compEnvC scope cl C env).scope.kind = .function := hkind
    have isT : ∀ {h' : Heap}, (∀ b o, s₁.heap.get? b = some o → h'.get? b = some o) → ∀ p ∈ ks, IsT P w h' p.2 p.1 := fun kk p hp => isT_keep (ht p hp) kk
    refine ⟨fun i s' => ∃ h' tk m, s' = { s₁ with heap := h', toks := tk } ∧ (∀ b o, s₁.heap.get? b = some o → h'.get? b = some o) ∧ h'.Ns C m ∧ DictT0 P w h' D (firsts (ks.take i)), ?_, ?_, ?_, ?_⟩
    · subst e3
      exact ⟨h3, t3, _, rfl, old3, B.names, _, #[], _, hD, ⟨rfl, rfl, rfl⟩, rfl, rfl, .nil⟩
    · rintro i s' h' tk ⟨h0, tk0, m, rfl, k0, n0, d0⟩ kk _
      have kk' : ∀ b, s₁.heap.objs.size ≠ b → ∀ o, h0.get? b = some o → h'.get? b = some o := fun b hb o e => kk b o (fun hm => hb (List.mem_singleton.mp hm).symm) e
      exact ⟨h', tk, m, rfl, fun b o e => kk' b (fun z => by subst z; exact Nat.lt_irrefl _ (Heap.lt_size e)) o (k0 b o e), n0.at (kk' C (Nat.ne_of_lt hC1)), d0.at_ (kk' D (Nat.ne_of_lt hD1))⟩
    · rintro i v s' hi hY st' ⟨h0, tk0, m, rfl, k0, n0, d0⟩
      obtain ⟨p, hp, rfl⟩ : ∃ p, ks[i]? = some p ∧ v = .ref p.1 := by
        rw [List.getElem?_toArray, List.getElem?_map] at hY
        cases hq : ks[i]? with
        | none => rw [hq] at hY; cases hY
        | some p => rw [hq] at hY; exact ⟨p, rfl, (Option.some.inj hY).symm⟩
      have hpm : p ∈ ks := List.mem_of_getElem? hp
      refine wpAny_assign_Name (wpAny_storeName_local hkl n0 (fun h1 n1 b1 => ?_) (by rw [hkf]; rfl))
      have k1 : ∀ b, b ≠ C → ∀ o, h0.get? b = some o → h1.get? b = some o := fun b hb o e => b1.extBut b o hb e
      have kC : ∀ b o, s₁.heap.get? b = some o → h1.get? b = some o := fun b o e => k1 b (neC e) o (k0 b o e)
      refine wpAny_pure ?_
      rw [if_pos rfl]
      refine wpAny_Name (wpAny_loadName_local hkf hkl n1 (by show (if x = x then some (Value.ref p.1) else m x) = _; rw [if_pos rfl]) ?_) hd
      refine hv _ _ _ _ ?_
      have d1 : DictT0 P w h1 D (firsts (ks.take i)) := d0.at_ (k1 D hDC)
      have dd := d1.full fun q hq => isT kC q (List.mem_of_mem_take (firsts_sub q hq))
      have hlen : (trueRows (firsts (ks.take i))).length ≤ sizeLine := by
        unfold trueRows
        rw [List.length_map]
        exact Nat.le_trans firsts_len (Nat.le_trans (by rw [List.length_take]; exact Nat.min_le_right _ _) hz)
      refine wpAny_dictSet_heap (knd := TK P w) (s := { s₁ with heap := h1, toks := _ }) (show A.units < cLine by omega) (isT kC p hpm) dd (fun h2 d2 b2 => ?_) hlen
      have k2 : ∀ b, b ≠ D → ∀ o, h1.get? b = some o → h2.get? b = some o := fun b hb o e => b2.extBut b o hb e
      rw [store_true, ← firsts_step, ← take_next hp] at d2
      refine ⟨⟨h2, _, _, rfl, fun b o e => k2 b (neD e) o (kC b o e), n1.at (k2 C (Ne.symm hDC)), DictT0.of d2⟩, ?_⟩
      refine W.frame _ _ _ st' fun b hb o e => ?_
      have := hfp b hb
      exact k2 b (Nat.ne_of_lt (Nat.lt_of_lt_of_le this hD1)) o (k1 b (Nat.ne_of_lt (Nat.lt_of_lt_of_le this hC1)) o e)
    · rintro s' ⟨h0, tk0, m, rfl, k0, n0, d0⟩
      refine ⟨m, n0, fun h1 b1 => ?_⟩
      have k1 : ∀ b, b ≠ C → ∀ o, h0.get? b = some o → h1.get? b = some o := fun b hb o e => b1.extBut b o hb e
      have kC : ∀ b o, s₁.heap.get? b = some o → h1.get? b = some o := fun b o e => k1 b (neC e) o (k0 b o e)
      have d1 : DictT0 P w h1 D (firsts (ks.take ks.length)) := d0.at_ (k1 D hDC)
      rw [List.take_length] at d1
      exact k D h1 tk0 kC (Nat.le_of_succ_le hD1) (d1.full fun q hq => isT kC q (firsts_sub q hq))
  have hsz : (ks.map fun p => Value.ref p.1).toArray.size = ks.length := by simp
  refine hl.elim (fun hl => ?_) fun hl => ?_
  · have hlt : a < s₁.heap.objs.size := by obtain ⟨_, e, _⟩ := hl; exact Heap.lt_size e
    refine wpAny_pyIter_list hl (core _ [s₁.heap.objs.size, a] _ (fun i h => h.IsListIter s₁.heap.objs.size a i ∧ h.IsList a _) rfl ?_ (hsz ▸ Goes.list hh _ _ (Nat.ne_of_lt hlt) _) ?_)
    · intro b hb
      rcases List.mem_cons.mp hb with e | hb
      · rw [e]; exact Nat.lt_succ_self _
      · rw [List.mem_singleton.mp hb]; exact Nat.lt_succ_of_lt hlt
    · exact ⟨⟨_, Heap.get?_push_size _ rfl, rfl, rfl⟩, hl.push _⟩
  · have hlt : a < s₁.heap.objs.size := by obtain ⟨_, e, _⟩ := hl; exact Heap.lt_size e
    refine wpAny_pyIter_tuple hl (core _ [s₁.heap.objs.size, a] _ (fun i h => h.IsTupleIter s₁.heap.objs.size a i ∧ h.IsTuple a _) rfl ?_ (hsz ▸ Goes.tuple hh _ _ (Nat.ne_of_lt hlt) _) ?_)
    · intro b hb
      rcases List.mem_cons.mp hb with e | hb
      · rw [e]; exact Nat.lt_succ_self _
      · rw [List.mem_singleton.mp hb]; exact Nat.lt_succ_of_lt hlt
    · exact ⟨⟨_, Heap.get?_push_size _ rfl, rfl, rfl⟩, hl.push _⟩
end
end VE
namespace VE
open PySem PySem.Spec PyProof.Rows L2 PySem.W
/-! ### as a value with a track -/
def DictTO (P : Program) (w : World) (a : Addr) (L : List (Addr × List Int)) : HO := .ext fun h => (a == sysModules) = false ∧ DictT0 P w h a L
theorem dictTO_new {P : Program} {w : World} {H : Hp} {h : Heap} {a : Addr} {L : List (Addr × List Int)} (hm : (a == sysModules) = false) (R : DictT0 P w h a L) : ObjOk P w H h a (DictTO P w a L) := by
  have ⟨o, es, ep, ho, r⟩ := R
  exact ⟨⟨hm, R⟩, ⟨o, ho⟩, fun h1 h2 p k => ⟨p.1, DictT0.at_ p.2 k⟩⟩
def tDcT (K : PySem.W.Frag) (P : Program) (w : World) (te : TE) : TE := fun σ H Q => te σ H fun v H1 => ∃ (a : Addr) (ks : List (Addr × List Int)), v = .ref a ∧ (SqL K H1 a (ks.map fun p => V.ref p.1) ∨ SqT K H1 a (ks.map fun p => V.ref p.1)) ∧ (∀ p ∈ ks, SqT K H1 p.1 (p.2.map V.int)) ∧
  ∀ D, H1 D = none → ks.length ≤ sizeLine → Q (.ref D) (upd H1 D (DictTO P w D (firsts ks)))
section
variable {X : Cx}
theorem pe_dcT {x : Str} {p1 px pos : Pos} {vx iter : Expr} {scope : Scope} {own : List (Str × Nat)} {te : TE} (hc : X.calm = true) (hu : X.A.units + 64 < cLine) (hd : (x == ("__debug__" : Str)) = false) (ok : BlkOk X.N X.env.scope scope own) (hcell : ∀ y ∈ scope.names, y.2 ≠ .cell) (hx : scope.names.lookup x = some .local)
    (hv : ∀ (e : Env) (s' : Shared) (Q' : Value → Shared → Prop) (E' : Value → Shared → Prop), Q' (.bool true) s' → wpAny (model X.prog X.w) X.A (eval vx e) Q' E' s')
    (hi : PE X iter te) (hs : ∀ x, foldedSetIterable iter X.env x = pure x := by intro _; rfl) :
    PE X (.DictComp (.Name x p1) vx [⟨.Name x px, iter, [], 0⟩] scope pos) (tDcT X.K X.prog X.w te) := by
  refine ⟨fun pins s σ H Q I h => ?_⟩
  have hfree : ∀ y ∈ scope.names, y.2 = .free → ∃ c, X.env.cells.lookup y.1 = some c := fun y hy e => by
    rcases ok.free y hy e with k | k
    · exact I.ok.has _ (.inl k)
    · exact I.ok.has _ (.inr k)
  refine dictTrue (I.ok.hd hc) (by omega) hd (closure_ok hfree) hcell ok.kind (fun y hy e => by rw [ok.uniq y hy, e]) hx hv (thn (hi.run pins s σ H _ I h) fun u s1 ⟨v, H1, I1, r1, a, ks, e, hl, ht, k⟩ => ?_) hs
  subst e
  cases r1
  refine ⟨a, ks, rfl, ?_, fun p hp => I1.isT (ht p hp), ?_, fun D h' tk kk hD dd => ?_⟩
  · rcases hl with hl | hl
    · obtain ⟨its, rv, pl, _⟩ := I1.list hl
      rw [refs_of_vals rv] at pl
      exact .inl pl.isList
    · obtain ⟨its, rv, pl, _⟩ := I1.tuple hl
      rw [refs_of_vals rv] at pl
      exact .inr pl
  · rcases hl with hl | hl
    · obtain ⟨its, rv, pl, hz⟩ := I1.list hl
      simpa using hz
    · obtain ⟨its, rv, pl, hz⟩ := I1.tuple hl
      simpa using hz
  · exact ⟨.ref D, upd H1 D (DictTO X.prog X.w D (firsts ks)), I1.laid (t' := tk) kk hD (dictTO_new (by have := I1.big; exact beq_false_of_ne (Nat.ne_of_gt (Nat.lt_of_lt_of_le this hD))) (DictT0.of dd)), rfl, k D (I1.hok.fresh hD) (by
      rcases hl with hl | hl
      · obtain ⟨its, rv, pl, hz⟩ := I1.list hl
        simpa using hz
      · obtain ⟨its, rv, pl, hz⟩ := I1.tuple hl
        simpa using hz)⟩
/-- len of such a dict -/
def rLenTD (P : Program) (w : World) (K : PySem.W.Frag) : List V → Hp → VK → Prop := fun vs H Q => ∃ (a : Addr) (L : List (Addr × List Int)), vs = [.ref a] ∧ H a = some (DictTO P w a L) ∧ (∀ p ∈ L, SqT K H p.1 (p.2.map V.int)) ∧ L.length ≤ sizeLine ∧ Q (.int L.length) H
theorem cr_lenTD : CallR X (.builtin "len") (rLenTD X.prog X.w X.K) := by
  intro pins s σ H vs us Q I r h
  obtain ⟨a, L, rfl, ha, hk, hz, q⟩ := h
  have R0 : (a == sysModules) = false ∧ DictT0 X.prog X.w s.heap a L := (I.hok a _ ha).1
  have dd := R0.2.full fun p hp => I.isT (hk p hp)
  rw [Vals.ref1 r]
  have hl : (trueRows L).length = L.length := by unfold trueRows; rw [List.length_map]
  refine call_len_dictH (knd := TK X.prog X.w) R0.1 dd (by rw [hl]; rw [sizeLine_eq] at hz; omega) ?_
  rw [hl]
  exact ⟨.int ((L.length : Nat) : Int), H, I.tok _, ⟨_, rfl⟩, q⟩
/-- sorted of such a dict -/
def rSortTD (P : Program) (w : World) (K : PySem.W.Frag) : List V → Hp → VK → Prop := fun vs H Q => ∃ (a : Addr) (L : List (Addr × List Int)), vs = [.ref a] ∧ H a = some (DictTO P w a L) ∧ (∀ p ∈ L, SqT K H p.1 (p.2.map V.int)) ∧ (∀ p ∈ L, p.2 ≠ []) ∧ L.length ≤ sizeLine ∧
  ∀ (L' : List (Addr × List Int)) (p : Addr), L'.Perm L → (L'.map (·.2)).Nodup → L'.Pairwise (fun q r => leK q.2 r.2 = true) → H p = none → Q (.ref p) (upd H p (.lst (L'.map fun q => V.ref q.1)))
theorem cr_sortTD (hc : X.calm = true) (hu : X.A.units + 64 < cLine) : CallR X (.builtin "sorted") (rSortTD X.prog X.w X.K) := by
  intro pins s σ H vs us Q I r h
  obtain ⟨a, L, rfl, ha, hk, hz, hlz, q⟩ := h
  have R0 : (a == sysModules) = false ∧ DictT0 X.prog X.w s.heap a L := (I.hok a _ ha).1
  obtain ⟨hsm, o, es, ep, ho, hex, hd, he, hn⟩ := R0
  rw [Vals.ref1 r]
  have hes : es.size = L.length := by
    have := congrArg List.length he
    unfold trueRows at this
    simpa using this
  refine Calls.call_function_entry kind_sorted plain_sorted entry_sorted (args_sorted1 _) ?_
  unfold Builtin.«sorted»
  refine wpAny_bind (m := checkCount "sorted" 1 1 _) (wpAny_pure ?_)
  refine wpAny_bind (kdu_collect (A := X.A.in1) (KdlSrc.rawDict (d := a) (es := es) (ep := ep) hsm) (I.ok.hd hc) ⟨o, ho, hex, hd⟩ (by rw [hes]; exact hlz) fun h1 tk acc k1 hacc => ?_)
  have ea : acc.toList = L.map fun p => Value.ref p.1 := by
    have e2 : es.toList.map (·.key) = L.map fun p => Value.ref p.1 := by
      rw [he]
      unfold trueRows
      rw [List.map_map, List.map_map]
      rfl
    rw [← e2]
    refine List.ext_getElem? fun i => ?_
    rw [List.getElem?_map, Array.getElem?_toList, Array.getElem?_toList]
    by_cases hi : i < es.size
    · have hi2 : i < acc.size := by rw [hacc.1]; exact hi
      obtain ⟨h3, h4⟩ := hacc.2 i acc[i] (Array.getElem?_eq_getElem hi2)
      rw [Array.getElem?_eq_getElem hi2, Array.getElem?_eq_getElem hi, h4]
      rfl
    · rw [Array.getElem?_eq_none (by rw [hacc.1]; omega), Array.getElem?_eq_none (by omega)]
      rfl
  rw [ea]
  have I1 : Inv X pins σ H { s with heap := h1, toks := tk } := I.kept (t' := tk) k1
  refine wpAny_bind (wpAny_newList ?_ (by rw [List.length_map]; exact hlz))
  have hoL : (h1.push (seqObj "list" (L.map fun q => Value.ref q.1).toArray 0)).get? h1.objs.size = some (seqObj "list" (L.map fun q => Value.ref q.1).toArray 0) := Heap.get?_push_size _ rfl
  refine wpAny_bind (wpAny_holding (sort_keys (prog := X.prog) (w := X.w) (s := { s with heap := h1.push (seqObj "list" (L.map fun q => Value.ref q.1).toArray 0), toks := tk }) hoL (fun p hp => isT_keep (I.isT (hk p hp)) fun b u e => Heap.get?_push_of_some _ (k1 b u e))
    hz hlz (by show X.A.units + 1 + 2 < cLine; omega) fun L' e' => ?_))
  have pL : L'.Perm L := by rw [e']; exact List.mergeSort_perm ..
  obtain ⟨c, hcc⟩ := sortedHeap_at (vs := L.map fun q => Value.ref q.1) (out := (L'.map fun q => Value.ref q.1).toArray) hoL
  have kk : ∀ b u, h1.get? b = some u → (sortedHeap (h1.push (seqObj "list" (L.map fun q => Value.ref q.1).toArray 0)) h1.objs.size (L.map fun q => Value.ref q.1) (L'.map fun q => Value.ref q.1).toArray).get? b = some u := fun b u e => by
    have hlt := Heap.lt_size e
    rw [sortedHeap_old (Nat.ne_of_lt hlt) (by rw [size_push']; exact Nat.lt_succ_of_lt hlt)]
    exact Heap.get?_push_of_some _ e
  have hn1 : H h1.objs.size = none := I1.hok.fresh (Nat.le_refl _)
  have hlen : (L'.map fun q => V.ref q.1).length ≤ sizeLine := by rw [List.length_map, pL.length_eq]; exact hlz
  refine wpAny_pure ⟨_, rfl, ?_⟩
  exact ⟨.ref h1.objs.size, upd H h1.objs.size (.lst (L'.map fun q => V.ref q.1)), I1.laid (t' := tk) kk (Nat.le_refl _) (show ObjOk X.prog X.w _ _ _ (.lst _) from ⟨hlen, _, c, vals_of_refs L', hcc⟩), rfl, q L' h1.objs.size pL ((pL.map (·.2)).nodup_iff.mpr hn) (by rw [e']; exact sorted_pw L) hn1⟩
end
end VE
namespace VE
open PySem PySem.Spec PyProof.Rows L2 PySem.W
theorem evTrue {M : Model} {A : Around} {p : Pos} {k : Nat} : ∀ (e : Env) (s' : Shared) (Q' : Value → Shared → Prop) (E' : Value → Shared → Prop), Q' (.bool true) s' → wpAny M A (eval (.Constant (.bool true) k p) e) Q' E' s' := fun e s' Q' E' h => by
  rw [arm_eval_Constant]
  exact wpAny_pure h
end VE
namespace VE
open PySem PySem.Spec PyProof.Rows L2 PySem.W
theorem firsts_mem {ks : List (Addr × List Int)} {p : Addr × List Int} (hp : p ∈ ks) : p.2 ∈ (firsts ks).map (·.2) := by
  suffices H : ∀ (ks acc : List (Addr × List Int)), (∀ k, k ∈ acc.map (·.2) → k ∈ (ks.foldl (fun acc p => if p.2 ∈ acc.map (·.2) then acc else acc ++ [p]) acc).map (·.2)) ∧ ∀ p ∈ ks, p.2 ∈ (ks.foldl (fun acc p => if p.2 ∈ acc.map (·.2) then acc else acc ++ [p]) acc).map (·.2) from (H ks []).2 p hp
  intro ks
  induction ks with
  | nil => intro acc; exact ⟨fun k h => h, fun p hp => absurd hp (by simp)⟩
  | cons k ks ih =>
    intro acc
    rw [List.foldl_cons]
    by_cases hk : k.2 ∈ acc.map (·.2)
    · rw [if_pos hk]
      obtain ⟨h1, h2⟩ := ih acc
      refine ⟨h1, fun p hp => ?_⟩
      rcases List.mem_cons.mp hp with rfl | hp
      · exact h1 _ hk
      · exact h2 p hp
    · rw [if_neg hk]
      obtain ⟨h1, h2⟩ := ih (acc ++ [k])
      refine ⟨fun q hq => h1 q (by rw [List.map_append]; exact List.mem_append_left _ hq), fun p hp => ?_⟩
      rcases List.mem_cons.mp hp with rfl | hp
      · exact h1 _ (by rw [List.map_append]; exact List.mem_append_right _ (by simp))
      · exact h2 p hp
theorem firsts_nodup {ks : List (Addr × List Int)} : ((firsts ks).map (·.2)).Nodup := by
  suffices H : ∀ (ks acc : List (Addr × List Int)), (acc.map (·.2)).Nodup → ((ks.foldl (fun acc p => if p.2 ∈ acc.map (·.2) then acc else acc ++ [p]) acc).map (·.2)).Nodup from H ks [] .nil
  intro ks
  induction ks with
  | nil => intro acc h; exact h
  | cons k ks ih =>
    intro acc h
    rw [List.foldl_cons]
    by_cases hk : k.2 ∈ acc.map (·.2)
    · rw [if_pos hk]; exact ih acc h
    · rw [if_neg hk]
      refine ih _ ?_
      rw [List.map_append, List.nodup_append]
      refine ⟨h, by simp, fun a ha b hb => ?_⟩
      simp at hb
      subst hb
      exact fun e => hk (e ▸ ha)
def opSortedD : SpV := fun ps Q => ∃ ks : List (List Int), (ps = [.lst (ks.map tupI)] ∨ ps = [.tup (ks.map tupI)]) ∧ (∀ k ∈ ks, k ≠ []) ∧ ∀ ks' : List (List Int), ks'.Nodup → (∀ k, k ∈ ks' ↔ k ∈ ks) → ks'.Pairwise (fun a b => leK a b = true) → Q (.own (ks'.map tupI))
def opLenD : SpV := fun ps Q => ∃ ks : List (List Int), (ps = [.lst (ks.map tupI)] ∨ ps = [.tup (ks.map tupI)]) ∧ ∀ ks' : List (List Int), ks'.Nodup → (∀ k, k ∈ ks' ↔ k ∈ ks) → Q (.val (.int ks'.length))
theorem firsts_iff {L : List (Addr × List Int)} {k : List Int} : k ∈ (firsts L).map (·.2) ↔ k ∈ L.map (·.2) := by
  constructor
  · intro z
    obtain ⟨p, hp, rfl⟩ := List.mem_map.mp z
    exact List.mem_map.mpr ⟨p, firsts_sub p hp, rfl⟩
  · intro z
    obtain ⟨p, hp, rfl⟩ := List.mem_map.mp z
    exact firsts_mem hp
section
variable {X : Cx} {pos : Pos}
theorem seq_keys {K : PySem.W.Frag} {mg : Str → Option Value} {hO : Option Addr} {Fr F H : Hp} {σ : L2.St} {ρ : Rho} {v : V} {q : PV} {ks : List (List Int)} (R : Rr ⟨K, mg, hO⟩ Fr F σ H ρ) (e : q = .lst (ks.map tupI) ∨ q = .tup (ks.map tupI)) (r : Rep ⟨K, mg, hO⟩ F v q) :
    ∃ (a : Addr) (L : List (Addr × List Int)), v = .ref a ∧ L.map (·.2) = ks ∧ (SqL K H a (L.map fun p => V.ref p.1) ∨ SqT K H a (L.map fun p => V.ref p.1)) ∧ ∀ p ∈ L, SqT K F p.1 (p.2.map V.int) := by
  rcases e with rfl | rfl
  · cases r with
    | @lst a us ps eb rb =>
      obtain ⟨L, rfl, rfl, hL⟩ := reps_keys rb
      exact ⟨a, L, rfl, rfl, .inl (.inl (.inl (R.sub _ _ eb))), hL⟩
  · cases r with
    | @tup a us ps eb rb =>
      obtain ⟨L, rfl, rfl, hL⟩ := reps_keys rb
      exact ⟨a, L, rfl, rfl, .inr (Same.sqt R.sub eb), hL⟩
theorem ve_sortedDc {k : Nat} {x : Str} {p p1 px pos2 pp : Pos} {kk : Nat} {iter : Expr} {scope : Scope} {own : List (Str × Nat)} {w : WE} (hr : RoomG k X.A) (hc : X.calm = true) (hg : Gl X "sorted") (hm : X.mg "sorted" = none) (hd : (x == ("__debug__" : Str)) = false) (ok : BlkOk X.N X.env.scope scope own) (hcell : ∀ y ∈ scope.names, y.2 ≠ .cell) (hx : scope.names.lookup x = some .local) (ha : VE X iter w)
    (hs : ∀ x, foldedSetIterable iter X.env x = pure x := by intro _; rfl)
    (he : starEach [.DictComp (.Name x p1) (.Constant (.bool true) kk pp) [⟨.Name x px, iter, [], 0⟩] scope pos2] X.env = (false, eval (.DictComp (.Name x p1) (.Constant (.bool true) kk pp) [⟨.Name x px, iter, [], 0⟩] scope pos2) X.env) :: starEach [] X.env := by rfl) (hpl : (backTo pos (starEach [] X.env)).any (·.1) = false := by rfl) :
    VE X (.Call (.Name "sorted" p) [.DictComp (.Name x p1) (.Constant (.bool true) kk pp) [⟨.Name x px, iter, [], 0⟩] scope pos2] [] pos) (wCall opSortedD (wCons w wNil)) := by
  refine PE.imp (pe_callB (cr_sortTD hc hr.units) hg hm (by rfl) (pa_cons (pe_dcT hc hr.units hd ok hcell hx evTrue ha hs) pa_nil he) (he := he) (hpl := hpl)) ?_
  rintro σ H Q ⟨hO, Fr, F, ρ, Qv, R, h, k⟩
  unfold wCall wCons wNil at h
  show eE X.K X.mg w σ H _
  refine eE.pv (Qv := fun q ρ1 => opSortedD [q] fun r => Qv r ρ1) R h fun v H1 F1 q ρ1 s1 R1 rq h1 => ?_
  obtain ⟨ks, e1, hz, h2⟩ := h1
  have e1 : q = .lst (ks.map tupI) ∨ q = .tup (ks.map tupI) := e1.imp (fun e => by injection e) fun e => by injection e
  obtain ⟨a, L, rfl, rfl, hl, hL⟩ := seq_keys R1 e1 rq
  refine ⟨a, L, rfl, hl, fun p hp => Same.sqt R1.sub (hL p hp), fun D hD hsz => ?_⟩
  refine ⟨D, firsts L, rfl, upd_same, fun p hp => Same.sqt (same_upd hD) (Same.sqt R1.sub (hL p (firsts_sub p hp))), fun p hp => hz p.2 (List.mem_map.mpr ⟨p, firsts_sub p hp, rfl⟩), Nat.le_trans firsts_len hsz, fun L' c pm nd pw hcn => ?_⟩
  have hcb : H1 c = none := by
    by_cases z : c = D
    · subst z; rw [upd_same] at hcn; cases hcn
    · rw [upd_ne z] at hcn; exact hcn
  have R2 := R1.fresh (o := DictTO X.prog X.w D (firsts L)) hD
  have R3 := R2.fresh (o := .lst (L'.map fun q => V.ref q.1)) hcn
  refine k _ _ F1 (.own ((L'.map (·.2)).map tupI)) ρ1 s1 R3 (R2.freshOwn hcn (reps_of fun p hp => hL p (firsts_sub p (pm.mem_iff.mp hp)))) (h2 _ nd (fun kk => ?_) (List.pairwise_map.mpr pw))
  rw [(pm.map (·.2)).mem_iff, firsts_iff]
theorem ve_lenDc {k : Nat} {x : Str} {p p1 px pos2 pp : Pos} {kk : Nat} {iter : Expr} {scope : Scope} {own : List (Str × Nat)} {w : WE} (hr : RoomG k X.A) (hc : X.calm = true) (hg : Gl X "len") (hm : X.mg "len" = none) (hd : (x == ("__debug__" : Str)) = false) (ok : BlkOk X.N X.env.scope scope own) (hcell : ∀ y ∈ scope.names, y.2 ≠ .cell) (hx : scope.names.lookup x = some .local) (ha : VE X iter w)
    (hs : ∀ x, foldedSetIterable iter X.env x = pure x := by intro _; rfl)
    (he : starEach [.DictComp (.Name x p1) (.Constant (.bool true) kk pp) [⟨.Name x px, iter, [], 0⟩] scope pos2] X.env = (false, eval (.DictComp (.Name x p1) (.Constant (.bool true) kk pp) [⟨.Name x px, iter, [], 0⟩] scope pos2) X.env) :: starEach [] X.env := by rfl) (hpl : (backTo pos (starEach [] X.env)).any (·.1) = false := by rfl) :
    VE X (.Call (.Name "len" p) [.DictComp (.Name x p1) (.Constant (.bool true) kk pp) [⟨.Name x px, iter, [], 0⟩] scope pos2] [] pos) (wCall opLenD (wCons w wNil)) := by
  refine PE.imp (pe_callB cr_lenTD hg hm (by rfl) (pa_cons (pe_dcT hc hr.units hd ok hcell hx evTrue ha hs) pa_nil he) (he := he) (hpl := hpl)) ?_
  rintro σ H Q ⟨hO, Fr, F, ρ, Qv, R, h, k⟩
  unfold wCall wCons wNil at h
  show eE X.K X.mg w σ H _
  refine eE.pv (Qv := fun q ρ1 => opLenD [q] fun r => Qv r ρ1) R h fun v H1 F1 q ρ1 s1 R1 rq h1 => ?_
  obtain ⟨ks, e1, h2⟩ := h1
  have e1 : q = .lst (ks.map tupI) ∨ q = .tup (ks.map tupI) := e1.imp (fun e => by injection e) fun e => by injection e
  obtain ⟨a, L, rfl, rfl, hl, hL⟩ := seq_keys R1 e1 rq
  refine ⟨a, L, rfl, hl, fun p hp => Same.sqt R1.sub (hL p hp), fun D hD hsz => ?_⟩
  refine ⟨D, firsts L, rfl, upd_same, fun p hp => Same.sqt (same_upd hD) (Same.sqt R1.sub (hL p (firsts_sub p hp))), Nat.le_trans firsts_len hsz, ?_⟩
  have R2 := R1.fresh (o := DictTO X.prog X.w D (firsts L)) hD
  have := h2 _ firsts_nodup fun kk => firsts_iff
  rw [List.length_map] at this
  exact k _ _ F1 (.val (.int _)) ρ1 s1 R2 (Rep.int _) this
end
end VE
end
section
set_option Elab.async false
set_option linter.all false
set_option maxRecDepth 100000
namespace VE
open PySem PySem.Spec PyProof.Rows L2 PySem.W
/-! ### list(range(..)), tuple(range(..)) -/
theorem reps_rg {G : Gh} {F : Hp} (a b : Int) : Reps G F (rgV a b) (rangeP a (b - a).toNat) := by
  unfold rgV rangeP
  generalize List.range (b - a).toNat = l
  induction l with
  | nil => exact .nil
  | cons i l ih => exact .cons (.int _) ih
def opListRg : SpV := fun ps Q => match ps with
  | [.int j] => RgOk 0 j ∧ Q (.own (rangeP 0 (j - 0).toNat))
  | [.int i, .int j] => RgOk i j ∧ Q (.own (rangeP i (j - i).toNat))
  | _ => False
def opTupRg : SpV := fun ps Q => match ps with
  | [.int j] => RgOk 0 j ∧ Q (.val (.tup (rangeP 0 (j - 0).toNat)))
  | [.int i, .int j] => RgOk i j ∧ Q (.val (.tup (rangeP i (j - i).toNat)))
  | _ => False
section
variable {X : Cx} {pos p p2 pos2 : Pos} {a b : Expr} {wa wb : WE}
theorem ve_listRg1 (hc : X.calm = true) (hg : Gl X "list") (hm : X.mg "list" = none) (hg2 : Gl X "range") (hm2 : X.mg "range" = none) (ha : VE X a wa) (na0 : starEach [a] X.env = (false, eval a X.env) :: starEach [] X.env := by rfl)
    (na : starEach [.Call (.Name "range" p2) [a] [] pos2] X.env = (false, eval (.Call (.Name "range" p2) [a] [] pos2) X.env) :: starEach [] X.env := by rfl) :
    VE X (.Call (.Name "list" p) [.Call (.Name "range" p2) [a] [] pos2] [] pos) (wCall opListRg (wCons wa wNil)) := by
  refine PE.imp (pe_listRg hc hg hm (prg_1 hg2 hm2 ha na0) na) ?_
  rintro σ H Q ⟨hO, Fr, F, ρ, Qv, R, h, k⟩
  unfold wCall wCons wNil at h
  show eE X.K X.mg wa σ H _
  refine eE.pv (Qv := fun q ρ1 => opListRg [q] fun r => Qv r ρ1) R h fun v H1 F1 q ρ1 s1 R1 rq h1 => ?_
  unfold opListRg at h1
  split at h1
  · rename_i j e
    cases e
    cases rq
    refine ⟨j, rfl, h1.1, fun q hq => ?_⟩
    exact k _ _ F1 (.own _) ρ1 s1 (R1.fresh hq) (R1.freshOwn hq (reps_rg 0 j)) h1.2
  · rename_i e; cases e
  · exact h1.elim
theorem ve_listRg2 (hc : X.calm = true) (hg : Gl X "list") (hm : X.mg "list" = none) (hg2 : Gl X "range") (hm2 : X.mg "range" = none) (ha : VE X a wa) (hb : VE X b wb) (na0 : starEach [a, b] X.env = (false, eval a X.env) :: starEach [b] X.env := by rfl) (nb0 : starEach [b] X.env = (false, eval b X.env) :: starEach [] X.env := by rfl) (hp0 : ((backTo pos2 (starEach [b] X.env)).any fun x => x.fst) = false := by rfl)
    (na : starEach [.Call (.Name "range" p2) [a, b] [] pos2] X.env = (false, eval (.Call (.Name "range" p2) [a, b] [] pos2) X.env) :: starEach [] X.env := by rfl) :
    VE X (.Call (.Name "list" p) [.Call (.Name "range" p2) [a, b] [] pos2] [] pos) (wCall opListRg (wCons wa (wCons wb wNil))) := by
  refine PE.imp (pe_listRg hc hg hm (prg_2 hg2 hm2 ha hb na0 nb0 hp0) na) ?_
  rintro σ H Q ⟨hO, Fr, F, ρ, Qv, R, h, k⟩
  unfold wCall wCons wNil at h
  show eE X.K X.mg wa σ H _
  refine eE.pv (Qv := fun q ρ1 => wb ρ1 fun r ρ2 => opListRg [q, r.pv] fun r => Qv r ρ2) R h fun v H1 F1 q ρ1 s1 R1 rq h1 => ?_
  refine eE.pv (Qv := fun q2 ρ2 => opListRg [q, q2] fun r => Qv r ρ2) R1 h1 fun v2 H2 F2 q2 ρ2 s2 R2 rq2 h2 => ?_
  unfold opListRg at h2
  split at h2
  · rename_i e; cases e
  · rename_i i j e
    cases e
    cases rq
    cases rq2
    refine ⟨i, j, rfl, rfl, h2.1, fun q hq => ?_⟩
    exact k _ _ F2 (.own _) ρ2 (s1.trans s2) (R2.fresh hq) (R2.freshOwn hq (reps_rg i j)) h2.2
  · exact h2.elim
theorem ve_tupRg1 (hc : X.calm = true) (hg : Gl X "tuple") (hm : X.mg "tuple" = none) (hg2 : Gl X "range") (hm2 : X.mg "range" = none) (ha : VE X a wa) (na0 : starEach [a] X.env = (false, eval a X.env) :: starEach [] X.env := by rfl)
    (na : starEach [.Call (.Name "range" p2) [a] [] pos2] X.env = (false, eval (.Call (.Name "range" p2) [a] [] pos2) X.env) :: starEach [] X.env := by rfl) :
    VE X (.Call (.Name "tuple" p) [.Call (.Name "range" p2) [a] [] pos2] [] pos) (wCall opTupRg (wCons wa wNil)) := by
  refine PE.imp (pe_tupRg hc hg hm (prg_1 hg2 hm2 ha na0) na) ?_
  rintro σ H Q ⟨hO, Fr, F, ρ, Qv, R, h, k⟩
  unfold wCall wCons wNil at h
  show eE X.K X.mg wa σ H _
  refine eE.pv (Qv := fun q ρ1 => opTupRg [q] fun r => Qv r ρ1) R h fun v H1 F1 q ρ1 s1 R1 rq h1 => ?_
  unfold opTupRg at h1
  split at h1
  · rename_i j e
    cases e
    cases rq
    refine ⟨j, rfl, h1.1, fun q hq => ?_⟩
    exact k _ _ _ (.val (.tup _)) ρ1 (s1.trans (same_upd (R1.nF hq))) (R1.laid hq) (Rep.tup (.inl (.inl upd_same)) ((reps_rg 0 j).mono (same_upd (R1.nF hq)))) h1.2
  · rename_i e; cases e
  · exact h1.elim
theorem ve_tupRg2 (hc : X.calm = true) (hg : Gl X "tuple") (hm : X.mg "tuple" = none) (hg2 : Gl X "range") (hm2 : X.mg "range" = none) (ha : VE X a wa) (hb : VE X b wb) (na0 : starEach [a, b] X.env = (false, eval a X.env) :: starEach [b] X.env := by rfl) (nb0 : starEach [b] X.env = (false, eval b X.env) :: starEach [] X.env := by rfl) (hp0 : ((backTo pos2 (starEach [b] X.env)).any fun x => x.fst) = false := by rfl)
    (na : starEach [.Call (.Name "range" p2) [a, b] [] pos2] X.env = (false, eval (.Call (.Name "range" p2) [a, b] [] pos2) X.env) :: starEach [] X.env := by rfl) :
    VE X (.Call (.Name "tuple" p) [.Call (.Name "range" p2) [a, b] [] pos2] [] pos) (wCall opTupRg (wCons wa (wCons wb wNil))) := by
  refine PE.imp (pe_tupRg hc hg hm (prg_2 hg2 hm2 ha hb na0 nb0 hp0) na) ?_
  rintro σ H Q ⟨hO, Fr, F, ρ, Qv, R, h, k⟩
  unfold wCall wCons wNil at h
  show eE X.K X.mg wa σ H _
  refine eE.pv (Qv := fun q ρ1 => wb ρ1 fun r ρ2 => opTupRg [q, r.pv] fun r => Qv r ρ2) R h fun v H1 F1 q ρ1 s1 R1 rq h1 => ?_
  refine eE.pv (Qv := fun q2 ρ2 => opTupRg [q, q2] fun r => Qv r ρ2) R1 h1 fun v2 H2 F2 q2 ρ2 s2 R2 rq2 h2 => ?_
  unfold opTupRg at h2
  split at h2
  · rename_i e; cases e
  · rename_i i j e
    cases e
    cases rq
    cases rq2
    refine ⟨i, j, rfl, rfl, h2.1, fun q hq => ?_⟩
    exact k _ _ _ (.val (.tup _)) ρ2 ((s1.trans s2).trans (same_upd (R2.nF hq))) (R2.laid hq) (Rep.tup (.inl (.inl upd_same)) ((reps_rg i j).mono (same_upd (R2.nF hq)))) h2.2
  · exact h2.elim
end

/-! ### o.index(e), o a list or a tuple of data -/
/-- which places are equal -/
def eqsD (ds : List PyData) (d : PyData) : List Bool := ds.map fun z => PyData.eqv z d
def rIndexQ (K : PySem.W.Frag) (Sq : Hp → Addr → List V → Prop) : V → List V → Hp → VK → Prop := fun x xs H Q => ∃ (a : Addr) (y : V) (vs : List V) (d : PyData) (ds : List PyData), x = .ref a ∧ xs = [y] ∧ Sq H a vs ∧ DpAll K H vs ds ∧ Dp K H y d ∧ SeqAt.shaped (.list ds) = true ∧ SeqAt.shaped d = true ∧
  true ∈ eqsD ds d ∧ Q (.int ((eqsD ds d).idxOf true : Nat)) H
theorem items_eqB {A : Around} {s : Shared} {us : List Value} {ds : List PyData} {d : PyData} {y : Value} {as bs : List Addr} (h4 : ReadsAll s.heap us ds as) (r1 : Reads s.heap y d bs) (hxs : PyData.canLayAll0 ds = true) (hd : d.canLay0 = true) (hu : A.units + 1 + min (PyData.depthAll ds) d.depth < cLine) :
    SeqAt.ItemsEq A.in1 s us (eqsD ds d) y true := by
  have hn : us.length = ds.length := SeqAt.ReadsAll.length ds us as h4
  have hmap : us.map (SeqAt.readOf s.heap) = ds := SeqAt.readsAll_map ds us as hxs h4
  refine ⟨by unfold eqsD; rw [List.length_map]; exact hn, fun j h1 h2 => ?_⟩
  have e := SeqAt.items_eqAt (vs := us.toArray) (show ReadsAll s.heap us.toArray.toList ds as from h4) r1 hxs hd hu us[j] (by simp)
  refine e.cast ?_
  have hj : j < ds.length := by omega
  have e2 : SeqAt.readOf s.heap us[j] = ds[j] := by
    have : (us.map (SeqAt.readOf s.heap))[j]? = ds[j]? := by rw [hmap]
    rw [List.getElem?_map, List.getElem?_eq_getElem h1, List.getElem?_eq_getElem hj] at this
    exact Option.some.inj this
  have e3 : (eqsD ds d)[j] = PyData.eqv ds[j] d := by simp [eqsD]
  rw [e2, e3]
  cases PyData.eqv ds[j] d <;> rfl
section
variable {X : Cx}
theorem mt_indexQL (hu : X.A.units + 65 < cLine) : MtR X "list.index" (rIndexQ X.K (SqL X.K)) := by
  intro pins s σ H x xs v us Q I rx rxs h
  obtain ⟨a, y, vs, d, ds, rfl, rfl, hl, hds, hy, sl, sd, hm, q⟩ := h
  cases rx
  obtain ⟨uy, rfl, ry⟩ := Vals.one rxs
  obtain ⟨its, rv, pl, hz⟩ := I.list hl
  obtain ⟨as, h4⟩ := Dp.readsAll I ds _ its hds rv
  obtain ⟨bs, r1⟩ := Dp.reads I d y uy hy ry
  have he := items_eqB (A := X.A) h4 r1 (SeqAt.canLay_of_shaped sl) (SeqAt.canLay_of_shaped sd) (room_in_shaped sd hu)
  exact SeqAt.call_list_index pl.isList he (by rw [← he.1, ← rv.length]; exact hz) hm ⟨.int _, H, I.tok _, ⟨_, rfl⟩, q⟩
theorem mt_indexQT (hu : X.A.units + 65 < cLine) : MtR X "tuple.index" (rIndexQ X.K (SqT X.K)) := by
  intro pins s σ H x xs v us Q I rx rxs h
  obtain ⟨a, y, vs, d, ds, rfl, rfl, hl, hds, hy, sl, sd, hm, q⟩ := h
  cases rx
  obtain ⟨uy, rfl, ry⟩ := Vals.one rxs
  obtain ⟨its, rv, pl, hz⟩ := I.tuple hl
  obtain ⟨as, h4⟩ := Dp.readsAll I ds _ its hds rv
  obtain ⟨bs, r1⟩ := Dp.reads I d y uy hy ry
  have he := items_eqB (A := X.A) h4 r1 (SeqAt.canLay_of_shaped sl) (SeqAt.canLay_of_shaped sd) (room_in_shaped sd hu)
  exact SeqAt.call_tuple_index pl he hm ⟨.int _, H, I.tok _, ⟨_, rfl⟩, q⟩
end
end VE
end
section
set_option Elab.async false
set_option linter.all false
set_option maxRecDepth 100000
namespace VX
open M (ret exc fail draw)
open PySem PySem.Spec PyProof.Rows L2 VE PySem.W
/-! ### sorted({x: True for x in e}), len({x: True for x in e}) of tuples of ints -/
def sortDM (xs : List PV) : M Sl := match unKs xs with
  | some ks => M.ite (ks.all fun k => !k.isEmpty) (br := ⟨ret (.own ((sortK ks).map tupI)), fail⟩)
  | none => fail
def bSortedD : FM := fun ps => match ps with
  | [.lst xs] => sortDM xs
  | [.tup xs] => sortDM xs
  | _ => fail
theorem sortDM_ok {xs : List PV} {Q : Sl → Prop} (q : (sortDM xs).All Q nE) : ∃ ks : List (List Int), xs = ks.map tupI ∧ (∀ k ∈ ks, k ≠ []) ∧ ∀ ks' : List (List Int), ks'.Nodup → (∀ k, k ∈ ks' ↔ k ∈ ks) → ks'.Pairwise (fun a b => leK a b = true) → Q (.own (ks'.map tupI)) := by
  unfold sortDM at q
  split at q
  · rename_i ks e
    have := guard_okA (P := ∀ k ∈ ks, k ≠ []) (fun h => by
      simp only [List.all_eq_true, Bool.not_eq_true', List.isEmpty_eq_false_iff] at h
      exact h) q
    refine ⟨ks, unKs_of e, this.1, fun ks' h1 h2 h3 => ?_⟩
    rw [sortK_eq h1 h3 h2]
    exact this.2
  · exact q.elim
theorem bSortedD_ok : FnOkM bSortedD opSortedD := fun ps Q q => by
  unfold bSortedD at q
  split at q
  · obtain ⟨ks, rfl, h⟩ := sortDM_ok q; exact ⟨ks, .inl rfl, h⟩
  · obtain ⟨ks, rfl, h⟩ := sortDM_ok q; exact ⟨ks, .inr rfl, h⟩
  · exact q.elim
def lenDM (xs : List PV) : M Sl := match unKs xs with
  | some ks => ret (.val (.int (ded ks).length))
  | none => fail
def bLenD : FM := fun ps => match ps with
  | [.lst xs] => lenDM xs
  | [.tup xs] => lenDM xs
  | _ => fail
theorem lenDM_ok {xs : List PV} {Q : Sl → Prop} (q : (lenDM xs).All Q nE) : ∃ ks : List (List Int), xs = ks.map tupI ∧ ∀ ks' : List (List Int), ks'.Nodup → (∀ k, k ∈ ks' ↔ k ∈ ks) → Q (.val (.int ks'.length)) := by
  unfold lenDM at q
  split at q
  · rename_i ks e
    refine ⟨ks, unKs_of e, fun ks' h1 h2 => ?_⟩
    have hp : ks'.Perm (ded ks) := (List.perm_ext_iff_of_nodup h1 (ded_nodup ks)).mpr fun k => (h2 k).trans mem_ded.symm
    rw [hp.length_eq]
    exact q
  · exact q.elim
theorem bLenD_ok : FnOkM bLenD opLenD := fun ps Q q => by
  unfold bLenD at q
  split at q
  · obtain ⟨ks, rfl, h⟩ := lenDM_ok q; exact ⟨ks, .inl rfl, h⟩
  · obtain ⟨ks, rfl, h⟩ := lenDM_ok q; exact ⟨ks, .inr rfl, h⟩
  · exact q.elim
theorem one_arg {f : FM} {op : SpV} {m : ME} (h : FnOkM f op) : ∀ ρ Q, wE (mCall f (mCons m mNil)) ρ Q → wCall op (wCons (wE m) wNil) ρ Q := fun ρ Q q => by
  have q2 := call_ok h ρ Q q
  unfold wCall wA mCons at q2
  rw [all_bnd] at q2
  refine M.All.imp q2 fun p1 q1 => ?_
  rw [all_bnd] at q1
  exact q1
theorem xe_sortedD {X : Cx} {e : Expr} {m : ME} (h : VE X e (wCall opSortedD (wCons (wE m) wNil))) : XE X e (mCall bSortedD (mCons m mNil)) := ve_le h (one_arg bSortedD_ok)
theorem xe_lenD {X : Cx} {e : Expr} {m : ME} (h : VE X e (wCall opLenD (wCons (wE m) wNil))) : XE X e (mCall bLenD (mCons m mNil)) := ve_le h (one_arg bLenD_ok)
theorem pts_keys (l : List (Int × Int)) : l.map VM.pt = (l.map fun p => [p.1, p.2]).map tupI := by rw [List.map_map]; rfl
/-- sorted, of points, each once -/
theorem sortD_pt (l : List (Int × Int)) {m : List (Int × Int)} (h1 : m.Nodup) (h2 : m.Pairwise fun a b => VM.Do.ltb b a = false) (h3 : ∀ p, p ∈ m ↔ p ∈ l) : sortDM (l.map VM.pt) = ret (.own (m.map VM.pt)) := by
  unfold sortDM
  rw [pts_keys, unKs_map]
  dsimp only
  have inj : ∀ a b : Int × Int, [a.1, a.2] = [b.1, b.2] → a = b := fun a b e => by
    injection e with e1 e2
    injection e2 with e2
    exact Prod.ext e1 e2
  have e : (m.map fun p => [p.1, p.2]) = sortK (l.map fun p => [p.1, p.2]) := by
    refine sortK_eq ?_ ?_ fun k => ?_
    · exact List.pairwise_map.mpr (h1.imp fun {a b} hne e => hne (inj a b e))
    · exact List.pairwise_map.mpr (h2.imp fun {a b} hl => by rw [leK_pt, hl]; rfl)
    · simp only [List.mem_map]
      constructor
      · rintro ⟨p, hp, rfl⟩; exact ⟨p, (h3 p).mp hp, rfl⟩
      · rintro ⟨p, hp, rfl⟩; exact ⟨p, (h3 p).mpr hp, rfl⟩
  have hb : ((l.map fun p => [p.1, p.2]).all fun k => !k.isEmpty) = true := by
    rw [List.all_eq_true]
    intro k hk
    obtain ⟨p, _, rfl⟩ := List.mem_map.mp hk
    rfl
  rw [mite_p hb, ← e, pts_keys]
/-- how many points, each once -/
theorem lenD_pt (l : List (Int × Int)) : lenDM (l.map VM.pt) = ret (.val (.int (ded l).length)) := by
  unfold lenDM
  rw [pts_keys, unKs_map]
  dsimp only
  have inj : ∀ a b : Int × Int, [a.1, a.2] = [b.1, b.2] → a = b := fun a b e => by
    injection e with e1 e2
    injection e2 with e2
    exact Prod.ext e1 e2
  have hp : (ded (l.map fun p => [p.1, p.2])).Perm ((ded l).map fun p => [p.1, p.2]) := by
    refine (List.perm_ext_iff_of_nodup (ded_nodup _) (List.pairwise_map.mpr ((ded_nodup l).imp fun {a b} hne e => hne (inj a b e)))).mpr fun k => ?_
    rw [mem_ded]
    simp only [List.mem_map, mem_ded]
  rw [hp.length_eq, List.length_map]
end VX
namespace VX
open M (ret exc fail draw)
open PySem PySem.Spec PyProof.Rows L2 VE PySem.W
/-! ### list(range(..)), tuple(range(..)) -/
def rgOkB (a b : Int) : Bool := decide (-(2 ^ 62) ≤ a) && decide (a < 2 ^ 62) && decide (-(2 ^ 62) ≤ b) && decide (b < 2 ^ 62) && decide ((b - a).toNat ≤ 2 ^ 24)
theorem rgOkB_ok {a b : Int} (h : rgOkB a b = true) : RgOk a b := by
  unfold rgOkB at h
  simp only [Bool.and_eq_true, decide_eq_true_eq] at h
  exact ⟨h.1.1.1.1, h.1.1.1.2, h.1.1.2, h.1.2, h.2⟩
def bListRg : FM := fun ps => match ps with
  | [.int j] => M.ite (rgOkB 0 j) (br := ⟨ret (.own (rangeP 0 (j - 0).toNat)), fail⟩)
  | [.int i, .int j] => M.ite (rgOkB i j) (br := ⟨ret (.own (rangeP i (j - i).toNat)), fail⟩)
  | _ => fail
def bTupRg : FM := fun ps => match ps with
  | [.int j] => M.ite (rgOkB 0 j) (br := ⟨ret (.val (.tup (rangeP 0 (j - 0).toNat))), fail⟩)
  | [.int i, .int j] => M.ite (rgOkB i j) (br := ⟨ret (.val (.tup (rangeP i (j - i).toNat))), fail⟩)
  | _ => fail
theorem bListRg_ok : FnOkM bListRg opListRg := fun ps Q q => by
  unfold bListRg at q
  split at q
  · have := guard_okA (fun h => rgOkB_ok h) q; exact this
  · have := guard_okA (fun h => rgOkB_ok h) q; exact this
  · exact q.elim
theorem bTupRg_ok : FnOkM bTupRg opTupRg := fun ps Q q => by
  unfold bTupRg at q
  split at q
  · have := guard_okA (fun h => rgOkB_ok h) q; exact this
  · have := guard_okA (fun h => rgOkB_ok h) q; exact this
  · exact q.elim
theorem two_arg {f : FM} {op : SpV} {m m2 : ME} (h : FnOkM f op) : ∀ ρ Q, wE (mCall f (mCons m (mCons m2 mNil))) ρ Q → wCall op (wCons (wE m) (wCons (wE m2) wNil)) ρ Q := fun ρ Q q => by
  have q2 := call_ok h ρ Q q
  unfold wCall wA mCons at q2
  rw [all_bnd] at q2
  refine M.All.imp q2 fun p1 q1 => ?_
  rw [all_bnd, all_bnd] at q1
  refine M.All.imp q1 fun p2 q3 => ?_
  rw [all_bnd] at q3
  exact q3
theorem xe_listRg1 {X : Cx} {e : Expr} {m : ME} (h : VE X e (wCall opListRg (wCons (wE m) wNil))) : XE X e (mCall bListRg (mCons m mNil)) := ve_le h (one_arg bListRg_ok)
theorem xe_listRg2 {X : Cx} {e : Expr} {m m2 : ME} (h : VE X e (wCall opListRg (wCons (wE m) (wCons (wE m2) wNil)))) : XE X e (mCall bListRg (mCons m (mCons m2 mNil))) := ve_le h (two_arg bListRg_ok)
theorem xe_tupRg1 {X : Cx} {e : Expr} {m : ME} (h : VE X e (wCall opTupRg (wCons (wE m) wNil))) : XE X e (mCall bTupRg (mCons m mNil)) := ve_le h (one_arg bTupRg_ok)
theorem xe_tupRg2 {X : Cx} {e : Expr} {m m2 : ME} (h : VE X e (wCall opTupRg (wCons (wE m) (wCons (wE m2) wNil)))) : XE X e (mCall bTupRg (mCons m (mCons m2 mNil))) := ve_le h (two_arg bTupRg_ok)
end VX
namespace VX
open M (ret exc fail draw)
open PySem PySem.Spec PyProof.Rows L2 VE PySem.W
/-! ### repr -/
def shown2 (d : PyData) : Bool := d.showable && decide (d.depth ≤ 64) && decide (d.shown.length ≤ sizeLine)
def reprM (p : PV) : M Sl := match toD p with
  | some d => M.ite (shown2 d) (br := ⟨ret (.val (.str d.shown)), fail⟩)
  | none => match p with
    | .dct0 => ret (.val (.str (PyData.shown (.dict []))))
    | _ => fail
def bRepr : FM := fun ps => match ps with
  | [p] => reprM p
  | _ => fail
theorem bRepr_ok : FnOkM bRepr opRepr := fun ps Q q => by
  unfold bRepr at q
  split at q
  · rename_i p
    unfold reprM at q
    refine ⟨p, rfl, ?_⟩
    split at q
    · rename_i d e
      have := guard_okA (P := d.showable = true ∧ d.depth ≤ 64 ∧ d.shown.length ≤ sizeLine) (fun h => by
        unfold shown2 at h
        simp only [Bool.and_eq_true, decide_eq_true_eq] at h
        exact ⟨h.1.1, h.1.2, h.2⟩) q
      exact .inl ⟨d, e, this.1.1, this.1.2.1, this.1.2.2, this.2⟩
    · split at q
      · exact .inr ⟨rfl, q⟩
      · exact q.elim
  · exact q.elim
end VX
end
section
set_option Elab.async false
set_option linter.all false
set_option maxRecDepth 100000
/-! enumerate of a tuple -/
namespace PySem
open Sem (wp)
open AutoSeq1 (wpAny_loadPart')
theorem vm_meets_enumT (l : Addr) (items : Array Value) (n : Nat) (dct : Option Addr) (sl : Array (Option Value)) :
    Meets (Builtin.«enumerate.__new__» ⟨[.type "enumerate", .ref l], []⟩) (fun _ R s => s.heap.get? l = some { cls := .type "tuple", dict := dct, data := .seq items n, slots := sl } ∧
      R (.ok (.ret (.ref (s.heap.push { cls := .type "tuple_iterator", data := .fields #[.ref l, .int 0 0] }).objs.size)))
        { s with heap := (s.heap.push { cls := .type "tuple_iterator", data := .fields #[.ref l, .int 0 0] }).push { cls := .type "enumerate", data := .fields #[.none, .bool false, .ref s.heap.objs.size, rawInt 0, .none, .none] } }) :=
  .of_wp fun prog w A R s h => by
    obtain ⟨hp, g, d, tk, os⟩ := s; obtain ⟨hl, h⟩ := h
    have hsub := sub_enumerate
    have hL : Heap.IsTuple (Shared.heap ⟨hp, g, d, tk, os⟩) l items := ⟨_, hl, rfl, n, rfl⟩
    wp_walk using wpAny_loadPart' hl
    refine wpAny_stack_any fun st => wpAny_pure ?_
    split
    · rename_i c _ _ _ _ _
      cases (c == Value.type "enumerate")
      · wp_walk using wpAny_loadPart' hl, wpAny_pyIter_tuple hL
        exact ⟨_, rfl, h⟩
      · wp_walk using wpAny_loadPart' hl, wpAny_pyIter_tuple hL
        exact ⟨_, rfl, h⟩
    · wp_walk using wpAny_loadPart' hl, wpAny_pyIter_tuple hL
      exact ⟨_, rfl, h⟩
section
variable {prog : Program} {w : World} {A : Around} {E : Value → Shared → Prop} {s : Shared}
theorem vm_call_enumT {l : Addr} {items : Array Value} {Q : Value → Shared → Prop} (hL : s.heap.IsTuple l items)
    (h : ∀ h', IsEnum h' (s.heap.objs.size + 1) s.heap.objs.size 0 .none → h'.IsTupleIter s.heap.objs.size l 0 → h'.objs.size = s.heap.objs.size + 2 →
      (∀ b o, s.heap.get? b = some o → h'.get? b = some o) → Q (.ref (s.heap.objs.size + 1)) { s with heap := h' }) :
    wpAny (model prog w) A (call (.type "enumerate") [.ref l]) Q E s := by
  obtain ⟨⟨c, dct, dt, sl⟩, hl, hc, n, hd⟩ := hL
  replace hc : c = .type "tuple" := hc
  replace hd : dt = .seq items n := hd
  subst hc hd
  refine callType_new F.called_enumerate (by decide) (F.typeCall_enumerate_1 _) (F.newCall_enumerate_1 _) (fun obj => F.args_object_init_2 obj _) F.entry_enumerate_new
    (vm_meets_enumT l items n dct sl) ⟨hl, ?_⟩
  have hz : (s.heap.push { cls := .type "tuple_iterator", data := .fields #[.ref l, .int 0 0] }).objs.size = s.heap.objs.size + 1 := Heap.size_push ..
  show _ ∧ _
  rw [hz]
  have he : IsEnum ((s.heap.push { cls := .type "tuple_iterator", data := .fields #[.ref l, .int 0 0] }).push
      { cls := .type "enumerate", data := .fields #[.none, .bool false, .ref s.heap.objs.size, rawInt 0, .none, .none] }) (s.heap.objs.size + 1) s.heap.objs.size 0 .none := by
    have := Heap.get?_push_size (s.heap.push { cls := .type "tuple_iterator", data := .fields #[.ref l, .int 0 0] })
      (o := { cls := .type "enumerate", data := .fields #[.none, .bool false, .ref s.heap.objs.size, rawInt 0, .none, .none] }) rfl
    rw [hz] at this; exact this
  refine ⟨⟨_, he, rfl⟩, h _ he ⟨_, Heap.get?_push_of_some _ (Heap.get?_push_size _ rfl), rfl, rfl⟩ (by rw [Heap.size_push, hz]) fun b o x => Heap.get?_push_of_some _ (Heap.get?_push_of_some _ x)⟩
theorem vm_enum_endT {e it l : Addr} {i : Nat} {items : Array Value} {old : Value} {Q : Option Value → Shared → Prop} (hh : A.handled = none)
    (he : IsEnum s.heap e it i old) (hit : s.heap.IsTupleIter it l i) (hl : s.heap.IsTuple l items) (hx : items[i]? = none)
    (hQ : ∀ h', Heap.ExtBut it s.heap h' → Q none { s with heap := h' }) : wpAny (model prog w) A (pyNext (.ref e)) Q E s := by
  have hT : s.TypeIs (.ref e) "enumerate" := ⟨_, he, rfl⟩
  unfold pyNext
  refine wpAny_bind (wpAny_attempt (wpAny_callSpecial?_slot (name := Str.ofString "__next__") hT F.slot_enumerate_next
    (wpAny_call_entry F.slot_enumerate_next hT F.entry_enumerate_next ?_ (F.args_enumerate_next_1 _))))
  show wpAny _ _ (field (.ref e) 2 >>= _) _ _ _
  refine wpAny_bind (wpAny_field he rfl (x := .ref it) rfl ?_)
  refine wpAny_bind (wpAny_nextOf_tuple_end (A := A.in1) hh hit hl hx fun h' x he' hx' => ?_)
  obtain ⟨o, ho, hc⟩ := hx'
  refine wpAny_bind (wpAny_isInstance (T := "StopIteration") (b := true) ⟨o, ho, hc⟩ isSubtype_stop ?_)
  exact wpAny_pure (hQ _ he')
end
end PySem
namespace VE
open PySem PySem.Spec PyProof.Rows L2
def IteT (K : PySem.W.Frag) (a : Addr) : It :=
  ⟨fun i H => ∃ (xs : List V) (x : V), SqT K H a xs ∧ xs[i]? = some x, fun i H v H' => ∃ T x, v = .ref T ∧ H T = none ∧ H' = upd H T (.tup [.int (i : Nat), x]) ∧ ∀ xs, SqT K H a xs → xs[i]? = some x, fun i H => ∃ xs : List V, SqT K H a xs ∧ xs.length ≤ i⟩
theorem turn_enumT {P : Program} {w : World} {K : PySem.W.Frag} {elts : List Expr} {kk : Nat} {tpos : Pos} (a e it : Addr) (hai : a ≠ it) :
    Turn P w K (.Tuple elts kk tpos) (IteT K a) [e, it] e (fun i h => (∃ old, IsEnum h e it ((i : Nat) : Int) old) ∧ h.IsTupleIter it a i ∧ e ≠ it) where
  mem := by simp
  obj := fun i h st b hb => by
    obtain ⟨⟨old, he⟩, ⟨o, ho, hc, hd⟩, _⟩ := st
    have e' : b = e ∨ b = it := by simpa using hb
    rcases e' with z | z
    · rw [z]; exact ⟨_, he, fun v q => nomatch q⟩
    · rw [z]; exact ⟨o, ho, fun v q => by rw [hd] at q; cases q⟩
  keep := fun i h h' st k => let ⟨⟨old, he⟩, hi, hne⟩ := st; ⟨⟨old, k e (by simp) _ he⟩, hi.at fun o q => k it (by simp) o q, hne⟩
  item := by
    intro X hP hw hK hc i pins s σ H E I hf st hg
    subst hP hw hK
    obtain ⟨⟨old, he⟩, hit, hne⟩ := st
    obtain ⟨xs, x, hq, hx⟩ := hg
    obtain ⟨its, rv, p, hz⟩ := I.tuple hq
    obtain ⟨u, hu, ru⟩ := rv.get hx
    have hel : e < s.heap.objs.size := Heap.lt_size he
    have hil : it < s.heap.objs.size := by obtain ⟨_, q, _⟩ := hit; exact Heap.lt_size q
    have hlt : i < its.toArray.size := by
      have := (List.getElem?_eq_some_iff.mp hu).1
      simpa using this
    have hae : e ≠ a := fun z => by
      obtain ⟨o, ho, hcl, _⟩ := p
      rw [← z] at ho
      have := ho.symm.trans he
      injection this with this
      rw [this] at hcl
      exact absurd (show Value.type "enumerate" = Value.type "tuple" from hcl) (fun z => by injection z with z; exact absurd z (by decide))
    refine wpAny_pyNext_enum_itemD (Draws.tuple (A := X.A.in1) (I.ok.hd hc) it a hai its.toArray) he ⟨hit, p⟩ hlt hne (by simp [hne, hae]) fun y h' tk hy ho hst' hT hsz hk => ?_
    have hyu : y = u := by
      have e1 : its.toArray[i]? = some u := by simpa using hu
      rw [e1] at hy; injection hy with hy; exact hy.symm
    subst hyu
    refine ⟨_, rfl, wpAny_letOwnedTupleGo_enum (s := { s with heap := h', toks := tk + 1 }) ho fun h'' he' sb => ?_⟩
    have hT2 : h''.get? s.heap.objs.size = some { cls := .type "tuple", data := .seq #[.int i tk, y] } := (sb.2 _ (Nat.ne_of_gt hel)).trans hT
    have new : ObjOk X.prog X.w (upd H s.heap.objs.size (.tup [.int (i : Nat), x])) h'' s.heap.objs.size (.tup [.int (i : Nat), x]) :=
      ⟨by show 2 ≤ sizeLine; decide, [.int i tk, y], .cons ⟨_, rfl⟩ (.cons ru .nil), ⟨_, hT2, rfl, _, rfl⟩⟩
    have I1 : Inv X pins σ (upd H s.heap.objs.size (.tup [.int (i : Nat), x])) { s with heap := h'', toks := tk + 1 } :=
      I.turnedNew (ch := [e, it]) (fun b ob hb q => (sb.2 b (fun z => hb (by simp [z]))).trans (hk b ob (fun z => hb (by simp [z])) (fun z => hb (by simp [z])) q)) hf (Nat.le_refl _) new
    refine ⟨.ref s.heap.objs.size, _, I1, rfl, ⟨_, x, rfl, I.hok.fresh (Nat.le_refl _), rfl, fun ys hy => by rw [I.tuple_inj hy hq]; exact hx⟩, ⟨⟨y, ?_⟩, hst'.1.at fun o q => (sb.2 it (Ne.symm hne)).trans q, hne⟩, fun b hb => ?_⟩
    · have e1 : ((i + 1 : Nat) : Int) = (i : Int) + 1 := by omega
      rw [e1]; exact he'
    · have hb' : b < s.heap.objs.size := by
        have e' : b = e ∨ b = it := by simpa using hb
        rcases e' with z | z
        · rw [z]; exact hel
        · rw [z]; exact hil
      rw [upd_ne (Nat.ne_of_lt hb')]
      exact (hf b hb).1
  done := by
    intro X hP hw hK hc i pins s σ H E I hf st hg
    subst hP hw hK
    obtain ⟨⟨old, he⟩, hit, hne⟩ := st
    obtain ⟨xs, hq, hx⟩ := hg
    obtain ⟨its, rv, p, hz⟩ := I.tuple hq
    obtain ⟨f0, f1, f2, f3, f4, f5⟩ := hf it (by simp)
    have hl := rv.length
    exact vm_enum_endT (I.ok.hd hc) he hit p (by simp; omega) fun h' eb => ⟨rfl, I.turned (t' := s.toks) (fun b o hb q => eb b o hb q) f0 f1 f3 f4 f5⟩
  self := fun A i s Q E st h => let ⟨⟨_, he⟩, _⟩ := st; wpAny_pyIter_enum he h
def iEnumA (K : PySem.W.Frag) (ta : TA) : TI := fun σ H R => ta σ H fun vs H1 => ∃ a xs, vs = [.ref a] ∧ ((SqL K H1 a xs ∧ R (Ite K a) H1) ∨ (SqT K H1 a xs ∧ R (IteT K a) H1))
theorem pi_enumA {X : Cx} {e : Expr} {ta : TA} {p pos tpos : Pos} {elts : List Expr} {kk : Nat} (hg : Gl X "enumerate") (hm : X.mg "enumerate" = none) (ha : PA X [e] ta) (hs : starEach [e] X.env = [(false, eval e X.env)] := by rfl) :
    PI X (.Tuple elts kk tpos) (.Call (.Name "enumerate" p) [e] [] pos) (iEnumA X.K ta) := by
  refine ⟨fun pins s σ H R I h => ?_⟩
  refine Call_ (ld_blt I hg hm boot_enumerate (PyProof.Rows.callWith_type1 (thn (ha.run pos pins s σ H _ I h) fun us s1 ⟨vs, H1, I1, r1, q1⟩ => ?_) hs rfl))
  obtain ⟨a, xs, ex, q1⟩ := q1
  subst ex
  cases r1 with
  | cons r rr =>
    cases rr
    cases r
    have fp : ∀ b ∈ [s1.heap.objs.size + 1, s1.heap.objs.size], FpOk X pins H1 b := fun b hb => by
      have e' : b = s1.heap.objs.size + 1 ∨ b = s1.heap.objs.size := by simpa using hb
      have hle : s1.heap.objs.size ≤ b := by
        rcases e' with z | z
        · rw [z]; exact Nat.le_add_right _ _
        · rw [z]; exact Nat.le_refl _
      exact I1.fpOk hle (I1.hok.fresh hle)
    rcases q1 with ⟨hq, q⟩ | ⟨hq, q⟩
    · obtain ⟨its, rv, p', hz⟩ := I1.list hq
      refine call_enumerate_list p'.isList fun h' he hit hsz hk => wpAny_pyIter_enum he ?_
      have I2 : Inv X pins σ H1 { s1 with heap := h' } := I1.kept (t' := s1.toks) hk
      exact ⟨s1.heap.objs.size + 1, [s1.heap.objs.size + 1, s1.heap.objs.size], _, _, H1, rfl, I2, turn_enum a (s1.heap.objs.size + 1) s1.heap.objs.size, ⟨⟨.none, he⟩, hit, Nat.succ_ne_self _⟩, fp, q⟩
    · obtain ⟨its, rv, p', hz⟩ := I1.tuple hq
      obtain ⟨o1, ho1, _⟩ := id p'
      have hlt : a < s1.heap.objs.size := Heap.lt_size ho1
      refine vm_call_enumT (show s1.heap.IsTuple a its.toArray from p') fun h' he hit hsz hk => wpAny_pyIter_enum he ?_
      have I2 : Inv X pins σ H1 { s1 with heap := h' } := I1.kept (t' := s1.toks) hk
      exact ⟨s1.heap.objs.size + 1, [s1.heap.objs.size + 1, s1.heap.objs.size], _, _, H1, rfl, I2, turn_enumT a (s1.heap.objs.size + 1) s1.heap.objs.size (Nat.ne_of_lt hlt), ⟨⟨.none, he⟩, hit, Nat.succ_ne_self _⟩, fp, q⟩
def wiEnumA (w : WA) : WI := fun ρ Q => w ρ fun ps ρ1 => match ps with
  | [.lst xs] => Q (enumP 0 xs) ρ1
  | [.tup xs] => Q (enumP 0 xs) ρ1
  | _ => False
theorem itok_enumT {G : Gh} {B F : Hp} {a : Addr} {vs : List V} {xs : List PV} (e1 : SqT G.K F a vs) (r1 : Reps G F vs xs) : ItOk G (IteT G.K a) B F (enumP 0 xs) := by
  intro Fr F' σ ρ i H' sB s R
  have q1 : SqT G.K H' a vs := Same.sqt R.sub (Same.sqt s e1)
  refine ⟨fun h => ⟨vs, q1, by rw [enumP_len] at h; rw [r1.length]; exact h⟩, fun p hp => ?_⟩
  rw [enumP_get, Option.map_eq_some_iff] at hp
  obtain ⟨x, g1, rfl⟩ := hp
  obtain ⟨v, g3, rv⟩ := r1.get g1
  refine ⟨⟨vs, v, q1, g3⟩, fun z H'' yl => ?_⟩
  obtain ⟨T, x', rfl, hT, e, f1⟩ := yl
  subst e
  have hF := R.nF hT
  have f2 := f1 vs q1
  rw [g3] at f2; cases f2
  rw [Nat.zero_add]
  exact ⟨_, same_upd hF, R.laid hT, Rep.tup (SqT.of upd_same) (.cons (Rep.int _) (.cons ((rv.mono s).mono (same_upd hF)) .nil))⟩
section
variable {X : Cx} {pos : Pos}
theorem vi_enumA {e : Expr} {w : WA} {p tpos : Pos} {elts : List Expr} {kk : Nat} (ha : VA X [e] w)
    (hp : PI X (.Tuple elts kk tpos) (.Call (.Name "enumerate" p) [e] [] pos) (iEnumA X.K (eA X.K X.mg w))) : VI X (.Tuple elts kk tpos) (.Call (.Name "enumerate" p) [e] [] pos) (wiEnumA w) := by
  refine PI.imp hp ?_
  rintro σ H Q ⟨hO, Fr, F, ρ, Qv, R, h, k⟩
  refine ⟨hO, Fr, F, ρ, _, R, h, fun vs H' F' ps ρ' s R' rs q => ?_⟩
  split at q
  · cases rs with
    | cons r rs =>
      cases rs
      cases r with
      | lst e1 r1 => exact ⟨_, _, rfl, .inl ⟨.inl (.inl (R'.sub _ _ e1)), k _ H' F' _ ρ' s R' (itok_enum e1 r1) q⟩⟩
  · cases rs with
    | cons r rs =>
      cases rs
      cases r with
      | tup e1 r1 => exact ⟨_, _, rfl, .inr ⟨Same.sqt R'.sub e1, k _ H' F' _ ρ' s R' (itok_enumT e1 r1) q⟩⟩
  · exact q.elim
end
end VE
end
section
set_option Elab.async false
set_option linter.all false
set_option maxRecDepth 100000
namespace VX
open M (ret exc fail draw)
open PySem PySem.Spec PyProof.Rows L2 VE PySem.W
/-! ### enumerate of a list or a tuple -/
def enumA (ps : List PV) : M (List PV) := match ps with
  | [.lst xs] => ret (enumP 0 xs)
  | [.tup xs] => ret (enumP 0 xs)
  | _ => fail
section
variable {X : Cx} {pos : Pos} {tg : Expr}
theorem xi_enumA {e : Expr} {m : MA} (h : VI X tg e (wiEnumA (wA m))) : XI X tg e (iArg enumA m) := vi_le h fun ρ Q q => by
  unfold wI iArg at q
  rw [all_bnd] at q
  refine M.All.imp q fun p1 q1 => ?_
  rw [all_bind] at q1
  unfold enumA at q1
  split at q1
  · rename_i xs e; rw [e]; exact q1
  · rename_i xs e; rw [e]; exact q1
  · exact q1.elim
end
end VX
end
section
set_option Elab.async false
set_option linter.all false
set_option maxRecDepth 100000
open PySem PySem.Spec PyProof.Rows L2 VE VM
namespace NR
/-! ### rays by angle -/
def half (p : Pt) : Int := if 0 < p.2 ∨ (p.2 = 0 ∧ 0 < p.1) then 0 else 1
def ahead (p q : Pt) : Bool := decide (half p < half q) || (decide (half p = half q) && decide (0 < turn p q))
theorem ahead_iff {p q : Pt} : ahead p q = true ↔ half p < half q ∨ (half p = half q ∧ 0 < turn p q) := by
  unfold ahead; simp
theorem half_01 (p : Pt) : half p = 0 ∨ half p = 1 := by unfold half; split <;> simp
theorem half0 {p : Pt} : half p = 0 ↔ (0 < p.2 ∨ (p.2 = 0 ∧ 0 < p.1)) := by unfold half; split <;> simp_all
theorem half1 {p : Pt} (h0 : p ≠ (0, 0)) : half p = 1 ↔ (p.2 < 0 ∨ (p.2 = 0 ∧ p.1 < 0)) := by
  obtain ⟨a, b⟩ := p
  unfold half
  have h : ¬ (a = 0 ∧ b = 0) := fun h => h0 (by rw [h.1, h.2])
  dsimp only
  split <;> constructor <;> intro z <;> omega
theorem turn_self (p : Pt) : turn p p = 0 := by unfold turn; rw [Int.mul_comm]; omega
theorem turn_swap (p q : Pt) : turn q p = -turn p q := by unfold turn; grind
theorem turn_three (p q r : Pt) : turn p r * q.2 = turn p q * r.2 + turn q r * p.2 := by unfold turn; grind
theorem turn_three' (p q r : Pt) : turn p r * q.1 = turn p q * r.1 + turn q r * p.1 := by unfold turn; grind
theorem ahead_irr (p : Pt) : ahead p p = false := by
  cases h : ahead p p with
  | false => rfl
  | true => rcases ahead_iff.mp h with h | ⟨_, h⟩; omega; rw [turn_self] at h; omega
theorem mulpos {a b : Int} (h : 0 < a) (h' : 0 < b) : 0 < a * b := Int.mul_pos h h'
theorem pos_of_mul {a b : Int} (h : 0 < a * b) (hb : 0 < b) : 0 < a := by
  rcases Int.lt_or_le 0 a with h1 | h1
  · exact h1
  · have := Int.mul_nonneg (show (0 : Int) ≤ -a by omega) (Int.le_of_lt hb)
    rw [Int.neg_mul] at this; omega
theorem neg_of_mul {a b : Int} (h : a * b < 0) (hb : b < 0) : 0 < a := by
  have : 0 < a * -b := by rw [Int.mul_neg]; omega
  exact pos_of_mul this (by omega)
theorem turn_trans {p q r : Pt} (hp : p ≠ (0, 0)) (hq : q ≠ (0, 0)) (hr : r ≠ (0, 0)) (h1 : half p = half q) (h2 : half q = half r) (t1 : 0 < turn p q) (t2 : 0 < turn q r) : 0 < turn p r := by
  have e := turn_three p q r
  rcases half_01 q with hh | hh
  · have a1 := half0.mp (h1.trans hh)
    have a2 := half0.mp hh
    have a3 := half0.mp (h2.symm.trans hh)
    have n1 : 0 ≤ turn p q * r.2 := Int.mul_nonneg (by omega) (by omega)
    have n2 : 0 ≤ turn q r * p.2 := Int.mul_nonneg (by omega) (by omega)
    rcases a2 with a2 | ⟨a2, a2'⟩
    · refine pos_of_mul (b := q.2) ?_ a2
      rcases a3 with a3 | ⟨a3, a3'⟩
      · have := mulpos t1 a3; omega
      · exfalso
        unfold turn at t2
        rw [a3] at t2
        have := mulpos a2 a3'
        omega
    · exfalso
      unfold turn at t1
      rw [a2] at t1
      rcases a1 with a1 | ⟨a1, _⟩
      · have := mulpos a1 a2'; omega
      · rw [a1] at t1; omega
  · have a1 := (half1 hp).mp (h1.trans hh)
    have a2 := (half1 hq).mp hh
    have a3 := (half1 hr).mp (h2.symm.trans hh)
    have n1 : 0 ≤ turn p q * -r.2 := Int.mul_nonneg (by omega) (by omega)
    have n2 : 0 ≤ turn q r * -p.2 := Int.mul_nonneg (by omega) (by omega)
    rw [Int.mul_neg] at n1 n2
    rcases a2 with a2 | ⟨a2, a2'⟩
    · refine neg_of_mul (b := q.2) ?_ a2
      rcases a3 with a3 | ⟨a3, a3'⟩
      · have := mulpos t1 (show 0 < -r.2 by omega); rw [Int.mul_neg] at this; omega
      · exfalso
        unfold turn at t2
        rw [a3] at t2
        have := mulpos (show 0 < -q.2 by omega) (show 0 < -r.1 by omega)
        rw [Int.neg_mul_neg] at this
        omega
    · exfalso
      unfold turn at t1
      rw [a2] at t1
      rcases a1 with a1 | ⟨a1, _⟩
      · have := mulpos (show 0 < -p.2 by omega) (show 0 < -q.1 by omega)
        rw [Int.neg_mul_neg] at this
        omega
      · rw [a1] at t1; omega
theorem ahead_trans {p q r : Pt} (hp : p ≠ (0, 0)) (hq : q ≠ (0, 0)) (hr : r ≠ (0, 0)) (h1 : ahead p q = true) (h2 : ahead q r = true) : ahead p r = true := by
  rw [ahead_iff] at *
  rcases h1 with h1 | ⟨h1, t1⟩ <;> rcases h2 with h2 | ⟨h2, t2⟩
  · exact .inl (by omega)
  · exact .inl (by omega)
  · exact .inl (by omega)
  · exact .inr ⟨h1.trans h2, turn_trans hp hq hr h1 h2 t1 t2⟩
theorem ray_nz {p : Pt} (h : Int.gcd p.1 p.2 = 1) : p ≠ (0, 0) := fun e => by rw [e] at h; exact absurd h (by decide)
theorem dvd_cop {k m n : Int} (h1 : Int.gcd k m = 1) (h2 : k ∣ m * n) : k ∣ n := by
  rw [← Int.natAbs_dvd_natAbs] at h2 ⊢
  rw [Int.natAbs_mul] at h2
  exact Nat.Coprime.dvd_of_dvd_mul_left (by rw [Nat.Coprime, ← Int.gcd_eq_natAbs_gcd_natAbs]; exact h1) h2
/-- on one line, both rays: the one or its opposite -/
theorem line_eq {p q : Pt} (hp : Int.gcd p.1 p.2 = 1) (hq : Int.gcd q.1 q.2 = 1) (h : turn p q = 0) : q = p ∨ q = (-p.1, -p.2) := by
  obtain ⟨a, b⟩ := p
  obtain ⟨c, d⟩ := q
  unfold turn at h
  dsimp only at *
  have h : a * d = b * c := by omega
  have hp' : Int.gcd b a = 1 := by rw [Int.gcd_comm]; exact hp
  have hq' : Int.gcd d c = 1 := by rw [Int.gcd_comm]; exact hq
  have d1 : a ∣ c := dvd_cop hp ⟨d, h.symm⟩
  have d2 : c ∣ a := dvd_cop hq ⟨b, by rw [Int.mul_comm d a, h, Int.mul_comm]⟩
  have d3 : b ∣ d := dvd_cop hp' ⟨c, h⟩
  have d4 : d ∣ b := dvd_cop hq' ⟨a, by rw [Int.mul_comm c b, ← h, Int.mul_comm]⟩
  have e1 : c.natAbs = a.natAbs := Nat.dvd_antisymm (Int.natAbs_dvd_natAbs.mpr d2) (Int.natAbs_dvd_natAbs.mpr d1)
  have e2 : d.natAbs = b.natAbs := Nat.dvd_antisymm (Int.natAbs_dvd_natAbs.mpr d4) (Int.natAbs_dvd_natAbs.mpr d3)
  rcases Int.natAbs_eq_natAbs_iff.mp e1 with f1 | f1 <;> rcases Int.natAbs_eq_natAbs_iff.mp e2 with f2 | f2
  · exact .inl (by rw [f1, f2])
  · subst f1; subst f2
    have : c * b = 0 := by grind
    rcases Int.mul_eq_zero.mp this with z | z
    · exact .inr (by rw [z]; rfl)
    · exact .inl (by rw [z]; rfl)
  · subst f1; subst f2
    have : a * d = 0 := by grind
    rcases Int.mul_eq_zero.mp this with z | z
    · exact .inl (by rw [z]; rfl)
    · exact .inr (by rw [z]; rfl)
  · exact .inr (by rw [f1, f2])
theorem half_neg {p : Pt} (h : p ≠ (0, 0)) : half (-p.1, -p.2) ≠ half p := by
  obtain ⟨a, b⟩ := p
  have h : ¬ (a = 0 ∧ b = 0) := fun z => h (by rw [z.1, z.2])
  unfold half
  dsimp only
  split <;> split <;> omega
theorem ahead_tot {p q : Pt} (hp : Int.gcd p.1 p.2 = 1) (hq : Int.gcd q.1 q.2 = 1) (h1 : ahead p q = false) (h2 : ahead q p = false) : p = q := by
  have n1 : ¬ (half p < half q ∨ (half p = half q ∧ 0 < turn p q)) := fun h => by rw [ahead_iff.mpr h] at h1; cases h1
  have n2 : ¬ (half q < half p ∨ (half q = half p ∧ 0 < turn q p)) := fun h => by rw [ahead_iff.mpr h] at h2; cases h2
  have he : half p = half q := by omega
  rw [turn_swap p q] at n2
  have ht : turn p q = 0 := by omega
  rcases line_eq hp hq ht with e | e
  · exact e.symm
  · exact absurd (by rw [← e]; exact he.symm) (half_neg (ray_nz hp))
theorem ahead_asym {p q : Pt} (h : ahead p q = true) : ahead q p = false := by
  cases h2 : ahead q p with
  | false => rfl
  | true =>
    rw [ahead_iff] at h h2
    rw [turn_swap p q] at h2
    omega
/-! ### put in by angle -/
def putAt (l : List Pt) (r : Pt) : List Pt := l.take (l.filter (ahead · r)).length ++ [r] ++ l.drop (l.filter (ahead · r)).length
def putR (l : List Pt) (r : Pt) : List Pt := if r ∈ l then l else putAt l r
def byAngle (rs : List Pt) : List Pt := rs.foldl putR []
def Ray (p : Pt) : Prop := Int.gcd p.1 p.2 = 1
abbrev Srt (l : List Pt) : Prop := l.Pairwise fun a b => ahead a b = true
theorem putAt_cons_ahead {a r : Pt} {l : List Pt} (h : ahead a r = true) : putAt (a :: l) r = a :: putAt l r := by
  unfold putAt
  rw [List.filter_cons_of_pos (by exact h), List.length_cons, List.take_succ_cons, List.drop_succ_cons]; rfl
theorem putAt_cons_not {a r : Pt} {l : List Pt} (hs : Srt (a :: l)) (hr : Ray r) (hl : ∀ x ∈ a :: l, Ray x) (h : ahead a r = false) : putAt (a :: l) r = r :: a :: l := by
  have e : (a :: l).filter (ahead · r) = [] := by
    rw [List.filter_eq_nil_iff]
    intro b hb hbr
    rcases List.mem_cons.mp hb with rfl | hb'
    · rw [h] at hbr; cases hbr
    · have := ahead_trans (ray_nz (hl a List.mem_cons_self)) (ray_nz (hl b hb)) (ray_nz hr) ((List.pairwise_cons.mp hs).1 b hb') hbr
      rw [h] at this; cases this
  unfold putAt
  rw [e]; rfl
theorem putAt_mem {l : List Pt} {r x : Pt} : x ∈ putAt l r ↔ x = r ∨ x ∈ l := by
  unfold putAt
  simp only [List.mem_append, List.mem_singleton]
  constructor
  · rintro ((h | h) | h)
    · exact .inr (List.mem_of_mem_take h)
    · exact .inl h
    · exact .inr (List.mem_of_mem_drop h)
  · rintro (h | h)
    · exact .inl (.inr h)
    · rw [← List.take_append_drop (l.filter (ahead · r)).length l, List.mem_append] at h
      rcases h with h | h
      · exact .inl (.inl h)
      · exact .inr h
theorem putAt_len {l : List Pt} {r : Pt} : (putAt l r).length = l.length + 1 := by
  unfold putAt
  have := List.length_filter_le (ahead · r) l
  simp only [List.length_append, List.length_take, List.length_drop, List.length_cons, List.length_nil]
  omega
theorem putAt_srt {r : Pt} (hr : Ray r) : ∀ {l : List Pt}, Srt l → (∀ x ∈ l, Ray x) → r ∉ l → Srt (putAt l r)
  | [], _, _, _ => by unfold putAt; simp
  | a :: l, hs, hl, hn => by
    cases h : ahead a r with
    | true =>
      rw [putAt_cons_ahead h]
      refine List.pairwise_cons.mpr ⟨fun b hb => ?_, putAt_srt hr (List.pairwise_cons.mp hs).2 (fun x hx => hl x (List.mem_cons_of_mem _ hx)) fun z => hn (List.mem_cons_of_mem _ z)⟩
      rcases putAt_mem.mp hb with rfl | hb
      · exact h
      · exact (List.pairwise_cons.mp hs).1 b hb
    | false =>
      rw [putAt_cons_not hs hr hl h]
      have hra : ahead r a = true := by
        cases h2 : ahead r a with
        | true => rfl
        | false => exact absurd (ahead_tot (hl a List.mem_cons_self) hr h h2) fun e => hn (by rw [e]; exact List.mem_cons_self)
      refine List.pairwise_cons.mpr ⟨fun b hb => ?_, hs⟩
      rcases List.mem_cons.mp hb with rfl | hb'
      · exact hra
      · exact ahead_trans (ray_nz hr) (ray_nz (hl a List.mem_cons_self)) (ray_nz (hl b hb)) hra ((List.pairwise_cons.mp hs).1 b hb')
theorem putR_mem {l : List Pt} {r x : Pt} : x ∈ putR l r ↔ x = r ∨ x ∈ l := by
  unfold putR
  split
  · rename_i h
    exact ⟨fun z => .inr z, fun z => z.elim (fun e => by rw [e]; exact h) id⟩
  · exact putAt_mem
theorem putR_len {l : List Pt} {r : Pt} : (putR l r).length ≤ l.length + 1 := by
  unfold putR; split
  · omega
  · rw [putAt_len]; omega
theorem byAngle_go : ∀ (rs l : List Pt), (∀ x ∈ rs, Ray x) → Srt l → (∀ x ∈ l, Ray x) → Srt (rs.foldl putR l) ∧ (∀ x, x ∈ rs.foldl putR l ↔ x ∈ rs ∨ x ∈ l) ∧ (rs.foldl putR l).length ≤ rs.length + l.length
  | [], l, _, hs, _ => ⟨hs, fun x => by simp, by simp⟩
  | r :: rs, l, hr, hs, hl => by
    have h1 : Srt (putR l r) := by
      unfold putR
      split
      · exact hs
      · rename_i h; exact putAt_srt (hr r List.mem_cons_self) hs hl h
    obtain ⟨a, b, c⟩ := byAngle_go rs (putR l r) (fun x hx => hr x (List.mem_cons_of_mem _ hx)) h1 (fun x hx => by
      rcases putR_mem.mp hx with rfl | hx
      · exact hr _ List.mem_cons_self
      · exact hl x hx)
    refine ⟨a, fun x => ?_, ?_⟩
    · rw [List.foldl_cons, b x, putR_mem, List.mem_cons]
      constructor
      · rintro (h | h | h)
        · exact .inl (.inr h)
        · exact .inl (.inl h)
        · exact .inr h
      · rintro ((h | h) | h)
        · exact .inr (.inl h)
        · exact .inl h
        · exact .inr (.inr h)
    · rw [List.foldl_cons]
      have := putR_len (l := l) (r := r)
      simp only [List.length_cons]
      omega
theorem byAngle_srt {rs : List Pt} (h : ∀ x ∈ rs, Ray x) : Srt (byAngle rs) := (byAngle_go rs [] h .nil (fun _ h => nomatch h)).1
theorem byAngle_mem {rs : List Pt} (h : ∀ x ∈ rs, Ray x) {x : Pt} : x ∈ byAngle rs ↔ x ∈ rs := by
  rw [show (x ∈ byAngle rs) = (x ∈ rs.foldl putR []) from rfl, (byAngle_go rs [] h .nil (fun _ h => nomatch h)).2.1 x]; simp
theorem byAngle_len {rs : List Pt} (h : ∀ x ∈ rs, Ray x) : (byAngle rs).length ≤ rs.length := (byAngle_go rs [] h .nil (fun _ h => nomatch h)).2.2
/-- an order told twice is one list -/
theorem srt_unique : ∀ {l m : List Pt}, Srt l → Srt m → (∀ x, x ∈ l ↔ x ∈ m) → l = m
  | [], [], _, _, _ => rfl
  | [], b :: m, _, _, h => absurd ((h b).mpr List.mem_cons_self) (by simp)
  | a :: l, [], _, _, h => absurd ((h a).mp List.mem_cons_self) (by simp)
  | a :: l, b :: m, h1, h2, h => by
    obtain ⟨a1, a2⟩ := List.pairwise_cons.mp h1
    obtain ⟨b1, b2⟩ := List.pairwise_cons.mp h2
    have e : a = b := by
      rcases List.mem_cons.mp ((h a).mp List.mem_cons_self) with e | e
      · exact e
      · rcases List.mem_cons.mp ((h b).mpr List.mem_cons_self) with f | f
        · exact f.symm
        · have := ahead_asym (b1 a e)
          rw [a1 b f] at this; cases this
    subst e
    congr 1
    refine srt_unique a2 b2 fun x => ⟨fun hx => ?_, fun hx => ?_⟩
    · rcases List.mem_cons.mp ((h x).mp (List.mem_cons_of_mem _ hx)) with e | e
      · subst e; have := a1 x hx; rw [ahead_irr] at this; cases this
      · exact e
    · rcases List.mem_cons.mp ((h x).mpr (List.mem_cons_of_mem _ hx)) with e | e
      · subst e; have := b1 x hx; rw [ahead_irr] at this; cases this
      · exact e
theorem srt_nodup {l : List Pt} (h : Srt l) : l.Nodup := h.imp fun {a b} hab e => by subst e; rw [ahead_irr] at hab; cases hab
theorem byAngle_of_srt {l : List Pt} (hl : ∀ x ∈ l, Ray x) (h : Srt l) : byAngle l = l := srt_unique (byAngle_srt hl) h fun x => byAngle_mem hl
theorem byAngle_perm {l m : List Pt} (hl : ∀ x ∈ l, Ray x) (hm : ∀ x ∈ m, Ray x) (h : ∀ x, x ∈ l ↔ x ∈ m) : byAngle l = byAngle m := srt_unique (byAngle_srt hl) (byAngle_srt hm) fun x => by rw [byAngle_mem hl, byAngle_mem hm, h]
end NR
end
section
set_option Elab.async false
set_option linter.all false
set_option maxRecDepth 100000
set_option maxHeartbeats 4000000
open PySem PySem.Spec PyProof.Rows L2 VE VM VX
open VX.M (ret exc fail draw)
local macro_rules | `(tactic| walk_at "dj") => `(tactic| first | assumption | with_reducible rfl | omega | exact dat_int | exact dat_tup | exact dat_bl | exact dat_lst | exact dat_non | exact dat_str | exact dat_dct | exact dat_pt | exact cmulb_l (by omega) (by omega) | exact cmulb_r (by omega) (by omega) | exact divb (by omega) (by omega) (by omega) | exact szT_of (by simp only [List.length_map, List.length_cons, List.length_nil, List.length_append]; omega) | (simp only [List.length_map, List.length_cons, List.length_nil, List.length_append]; omega))
local macro_rules | `(tactic| walk_at "mx") => `(tactic| simp (config := {decide := false, implicitDefEqProofs := false}) (disch := walk_at "dj") only [runM, seqO, tgI0, app0, ins0, ixN0, ixRd, lenN0, startR, mV, rd, look, mC, mB, mU, mTst, asB, mAndT, mOrT, mNotT, mAndV, mOrV, mNotV, mIfE, mChain, mNil, mCons, bNilM, bConsM, mTup, mLst, mNoPart, asI, mPart, pSl, mSl, mCall, mCallN, bLen, bAbs, bInt, bMax2, bMin2, bList, bTuple, mIxN, mLenN, mNext, mBreak, mCont, mNever, mSeq, mRet, rdN, mRetN, mRet0, mIfS, mDrop, mSet, mPar, sets, tgN, tgZ, tgC, tgT, putIx, tgI, mAsg, augS, mAug, putApp, mAppend, putIns, mInsert, asL, iSeq, rng1_e, rng2_e, rangeI_len, zipM, enumM, iArg, mFor, mComp, mYes, endF, inRd, inRd, mInN, compN, mCompN, mPopAt, pop0, mPopL, popL0, mExtend, ext0, putExt, bSortedQ, bMinD, bMaxD, forStep, compStep, mForL, mCompL, wipeR, backR, VM.noOwnB, pBack, getO,
  okd_ret, bind_ret, bnd_ret, bind_fail, bnd_fail, mite_t, mite_f, add_ii, sub_ii, mul_ii, fdiv_ii, mod_ii, lt_ii, le_ii, gt_ii, ge_ii, neg_i, add_tt, add_ll, eq_ii, ne_ii, eq_bb, ne_bb, eq_ss, ne_ss, eq_pp, ne_pp, eq_lp, ne_lp, eq_tp, ne_tp, in_p, notin_p, is_n, isnot_n, isb_t, isb_f, isnb_t, isnb_f, x_pt0, x_pt1, x_t0, x_t1, x_t2, x_t3, x_l0, x_l1, x_l2, i_int, i_bool, i_tuple, i_list, i_str, szT_of, szd, szdl, bnd_ite, bind_ite, bnd_bnd, bind_bnd, bnd_bind, bind_bind, kIq_int, kIq_bl, kIq_tup, kIq_lst, kIq_str, kIq_non, kIq_hnd, kIq_dct0, kIq_ins, kBq_int, kBq_bl, kBq_tup, kBq_lst, kBq_str, kBq_non, kBq_hnd, kBq_dct0, kBq_ins, kTq_int, kTq_bl, kTq_tup, kTq_lst, kTq_str, kTq_non, kTq_hnd, kTq_dct0, kTq_ins, kLq_int, kLq_bl, kLq_tup, kLq_lst, kLq_str, kLq_non, kLq_hnd, kLq_dct0, kLq_ins, kSq_int, kSq_bl, kSq_tup, kSq_lst, kSq_str, kSq_non, kSq_hnd, kSq_dct0, kSq_ins, isNq_int, isNq_bl, isNq_tup, isNq_lst, isNq_str, isNq_non, isNq_hnd, isNq_dct0, isNq_ins, kIq_pt, kBq_pt, kTq_pt, kLq_pt, kSq_pt,
  Int.cast_ofNat_Int, Int.natCast_add, Int.natCast_one, Int.natCast_zero, pv_val, pv_own, List.set_cons_zero, List.set_cons_succ, List.length_cons, List.length_nil, List.length_map, List.map_cons, List.map_nil, List.replicate_succ, List.replicate_zero, List.nil_append, List.cons_append, List.append_nil, Nat.zero_add, Nat.reduceAdd, Nat.reduceSub, Nat.reduceEqDiff, Nat.reduceLeDiff, decide_true, decide_false, Bool.and_true, Bool.true_and, Bool.and_false, Bool.false_and, Bool.or_true, Bool.true_or, Bool.or_false, Bool.false_or, Bool.not_true, Bool.not_false, List.all_cons, List.all_nil, eq_self, if_true, if_false, Bool.false_eq_true, reduceCtorEq, Option.toList])
open NR
namespace VR
/-- slots thing -/
theorem k_is_integer : ∃ f : FM, f = runM (mRet (mAndV (mCall bIsi (mCons (mV 0) (mCons (mC (.ty "int")) mNil))) (mNotV (mCall bIsi (mCons (mV 0) (mCons (mC (.ty "bool")) mNil)))))) 1 := ⟨_, rfl⟩
noncomputable def c_is_integer : FM := k_is_integer.choose
theorem q_is_integer : c_is_integer = runM (mRet (mAndV (mCall bIsi (mCons (mV 0) (mCons (mC (.ty "int")) mNil))) (mNotV (mCall bIsi (mCons (mV 0) (mCons (mC (.ty "bool")) mNil)))))) 1 := k_is_integer.choose_spec
theorem e_is_integer {p : PV} (h : dat p) : c_is_integer [p] = ret (.val (.bl (isI p))) := by
  rw [q_is_integer]
  walk_at "mx"
  rw [← isI_eq]
  cases kI p <;> walk_at "mx"
/-- slots thing low high -/
theorem k_is_within : ∃ f : FM, f = runM (mRet (mAndV (mCallN 1 c_is_integer (mCons (mV 0) mNil)) (mChain pLe pLe (mV 1) (mV 0) (mV 2)))) 3 := ⟨_, rfl⟩
noncomputable def c_is_within : FM := k_is_within.choose
theorem q_is_within : c_is_within = runM (mRet (mAndV (mCallN 1 c_is_integer (mCons (mV 0) mNil)) (mChain pLe pLe (mV 1) (mV 0) (mV 2)))) 3 := k_is_within.choose_spec
theorem e_is_within {p : PV} {a b : Int} (h : dat p) : c_is_within [p, .int a, .int b] = ret (.val (.bl (within a b p))) := by
  rw [q_is_within]
  walk_at "mx"
  rw [e_is_integer h]
  cases p with
  | int i =>
    simp only [isI, within]
    walk_at "mx"
    by_cases h1 : a ≤ i <;> simp only [h1] <;> walk_at "mx"
  | _ => simp only [isI, within] <;> walk_at "mx"
/-- slots one other -/
theorem k_common_divisor : ∃ f : FM, f = runM (mSeq (mPar [0, 1] (bConsM (mCall bAbs (mCons (mV 0) mNil)) (bConsM (mCall bAbs (mCons (mV 1) mNil)) bNilM))) (mSeq (mWhile (mTst (mB pGt (mV 1) (mC (.int 0)))) (mPar [0, 1] (bConsM (mV 1) (bConsM (mB pMod (mV 0) (mV 1)) bNilM)))) (mRetN 0))) 2 := ⟨_, rfl⟩
noncomputable def c_common_divisor : FM := k_common_divisor.choose
theorem q_common_divisor : c_common_divisor = runM (mSeq (mPar [0, 1] (bConsM (mCall bAbs (mCons (mV 0) mNil)) (bConsM (mCall bAbs (mCons (mV 1) mNil)) bNilM))) (mSeq (mWhile (mTst (mB pGt (mV 1) (mC (.int 0)))) (mPar [0, 1] (bConsM (mV 1) (bConsM (mB pMod (mV 0) (mV 1)) bNilM)))) (mRetN 0))) 2 := k_common_divisor.choose_spec
theorem e_common_divisor {a b : Int} (ha : a.natAbs < 10 ^ 59) (hb : b.natAbs < 10 ^ 59) : c_common_divisor [.int a, .int b] = ret (.val (.int (Int.gcd a b))) := by
  rw [q_common_divisor]
  walk_at "mx"
  obtain ⟨u, hu, e⟩ := mWhile_eq (t := mTst (mB pGt (mV 1) (mC (.int 0)))) (b := mPar [0, 1] (bConsM (mV 1) (bConsM (mB pMod (mV 0) (mV 1)) bNilM)))
    (fun s : Int × Int => [Sl.val (.int s.1), Sl.val (.int s.2)]) (fun s => decide (0 < s.2)) (fun s => (s.2, s.1.fmod s.2)) (fun s => s.2.toNat) (fun s => 0 ≤ s.1 ∧ 0 ≤ s.2) (fun s u => u.1 = Int.gcd s.1 s.2)
    (fun s hi hc => by
      have : s.2 = 0 := by have := of_decide_eq_false hc; omega
      rw [this, Int.gcd_zero_right]; omega)
    (fun s u hi hc hu => by rw [hu]; exact congrArg _ gcd_step)
    (fun s hi => by
      walk_at "mx"
      refine ⟨trivial, fun hc => ?_⟩
      have hp : 0 < s.2 := of_decide_eq_true hc
      have h1 := Int.fmod_lt_of_pos s.1 hp
      have h2 := Int.fmod_nonneg_of_pos s.1 hp
      walk_at "mx"
      exact ⟨trivial, ⟨hi.2, h2⟩, by omega⟩)
    (if a < 0 then -a else a, if b < 0 then -b else b) ⟨abs_nn a, abs_nn b⟩ (by dsimp only; split <;> omega)
  rw [e]
  walk_at "mx"
  rw [hu, gcd_abs]
/-- slots thing one -/
theorem k_is_dot : ∃ f : FM, f = runM (mSeq (mIfS (mOrT (mNotT (mTst (mCall bIsi (mCons (mV 0) (mCons (mC (.ty "tuple")) mNil))))) (mTst (mB pNe (mCall bLen (mCons (mV 0) mNil)) (mC (.int 2))))) (mRet (mC (.bl false))) mNext) (mRet (mCall bAll (mCons (mComp (iSeq (mV 0)) (tgN 1) mYes (mCallN 3 c_is_within (mCons (mV 1) (mCons (mU pNeg (mC (.int 10000))) (mCons (mC (.int 10000)) mNil)))) [1]) mNil)))) 2 := ⟨_, rfl⟩
noncomputable def c_is_dot : FM := k_is_dot.choose
theorem q_is_dot : c_is_dot = runM (mSeq (mIfS (mOrT (mNotT (mTst (mCall bIsi (mCons (mV 0) (mCons (mC (.ty "tuple")) mNil))))) (mTst (mB pNe (mCall bLen (mCons (mV 0) mNil)) (mC (.int 2))))) (mRet (mC (.bl false))) mNext) (mRet (mCall bAll (mCons (mComp (iSeq (mV 0)) (tgN 1) mYes (mCallN 3 c_is_within (mCons (mV 1) (mCons (mU pNeg (mC (.int 10000))) (mCons (mC (.int 10000)) mNil)))) [1]) mNil)))) 2 := k_is_dot.choose_spec
theorem e_is_dot {p : PV} (h : dat2 p) : c_is_dot [p] = ret (.val (.bl (isDot p))) := by
  rw [q_is_dot]
  have hd := dat2_dat h
  cases p with
  | tup xs =>
    match xs, h with
    | [x, y], h =>
      walk_at "mx"
      rw [e_is_within (h x (by simp))]
      walk_at "mx"
      rw [e_is_within (h y (by simp))]
      walk_at "mx"
      rw [show ([PV.bl (within (-10000) 10000 x), PV.bl (within (-10000) 10000 y)] : List PV) = [within (-10000) 10000 x, within (-10000) 10000 y].map PV.bl from rfl, all_b]
      walk_at "mx"
      rfl
    | [], h => walk_at "mx"; rfl
    | [x], h => walk_at "mx"; rfl
    | x :: y :: z :: xs, h =>
      have e : ¬ ((xs.length : Int) + 1 + 1 + 1 = 2) := by omega
      walk_at "mx"
      simp only [decide_eq_false e]
      walk_at "mx"
      rfl
  | _ => walk_at "mx" <;> rfl
/-- slots thing -/
theorem k_is_ray : ∃ f : FM, f = runM (mRet (mAndV (mCallN 1 c_is_dot (mCons (mV 0) mNil)) (mB pEq (mCallN 2 c_common_divisor (mCons (mB pIx (mV 0) (mC (.int 0))) (mCons (mB pIx (mV 0) (mC (.int 1))) mNil))) (mC (.int 1))))) 1 := ⟨_, rfl⟩
noncomputable def c_is_ray : FM := k_is_ray.choose
theorem q_is_ray : c_is_ray = runM (mRet (mAndV (mCallN 1 c_is_dot (mCons (mV 0) mNil)) (mB pEq (mCallN 2 c_common_divisor (mCons (mB pIx (mV 0) (mC (.int 0))) (mCons (mB pIx (mV 0) (mC (.int 1))) mNil))) (mC (.int 1))))) 1 := k_is_ray.choose_spec
theorem okPt_nat {p : Pt} (h : okPt p = true) : p.1.natAbs < 10 ^ 59 ∧ p.2.natAbs < 10 ^ 59 := by have := okPt_iff.mp h; omega
theorem e_is_ray {p : PV} (h : dat2 p) : c_is_ray [p] = ret (.val (.bl (isRay p))) := by
  rw [q_is_ray]
  walk_at "mx"
  rw [e_is_dot h]
  by_cases hp : isDot p = true
  · obtain ⟨z, rfl, hz⟩ := isDot_ex hp
    rw [hp]
    walk_at "mx"
    obtain ⟨h1, h2⟩ := okPt_nat hz
    rw [e_common_divisor h1 h2]
    walk_at "mx"
    rw [isRay_pt]
    unfold okRay
    rw [hz, Bool.true_and]
    congr 4
    exact propext ⟨fun h => by omega, fun h => by omega⟩
  · rw [Bool.not_eq_true] at hp
    rw [hp]
    walk_at "mx"
    have e : isRay p = false := by
      cases h : isRay p with
      | false => rfl
      | true =>
        obtain ⟨z, rfl, hz⟩ := isRay_ex h
        rw [isDot_pt] at hp
        unfold okRay at hz; rw [hp] at hz; cases hz
    rw [e]
/-- slots thing -/
theorem k_check_dot : ∃ f : FM, f = runM (mIfS (mNotT (mTst (mCallN 1 c_is_dot (mCons (mV 0) mNil)))) mNever mNext) 1 := ⟨_, rfl⟩
noncomputable def c_check_dot : FM := k_check_dot.choose
theorem q_check_dot : c_check_dot = runM (mIfS (mNotT (mTst (mCallN 1 c_is_dot (mCons (mV 0) mNil)))) mNever mNext) 1 := k_check_dot.choose_spec
theorem e_check_dot {p : Pt} (h : okPt p = true) : c_check_dot [pt p] = ret (.val .non) := by
  rw [q_check_dot]
  walk_at "mx"
  rw [e_is_dot dat2_pt, isDot_pt, h]
  walk_at "mx"
/-- slots thing -/
theorem k_check_ray : ∃ f : FM, f = runM (mIfS (mNotT (mTst (mCallN 1 c_is_ray (mCons (mV 0) mNil)))) mNever mNext) 1 := ⟨_, rfl⟩
noncomputable def c_check_ray : FM := k_check_ray.choose
theorem q_check_ray : c_check_ray = runM (mIfS (mNotT (mTst (mCallN 1 c_is_ray (mCons (mV 0) mNil)))) mNever mNext) 1 := k_check_ray.choose_spec
theorem e_check_ray {p : Pt} (h : okRay p = true) : c_check_ray [pt p] = ret (.val .non) := by
  rw [q_check_ray]
  walk_at "mx"
  rw [e_is_ray dat2_pt, isRay_pt, h]
  walk_at "mx"
/-- slots one other -/
theorem k_raw_turn : ∃ f : FM, f = runM (mRet (mB pSub (mB pMul (mB pIx (mV 0) (mC (.int 0))) (mB pIx (mV 1) (mC (.int 1)))) (mB pMul (mB pIx (mV 0) (mC (.int 1))) (mB pIx (mV 1) (mC (.int 0)))))) 2 := ⟨_, rfl⟩
noncomputable def c_raw_turn : FM := k_raw_turn.choose
theorem q_raw_turn : c_raw_turn = runM (mRet (mB pSub (mB pMul (mB pIx (mV 0) (mC (.int 0))) (mB pIx (mV 1) (mC (.int 1)))) (mB pMul (mB pIx (mV 0) (mC (.int 1))) (mB pIx (mV 1) (mC (.int 0)))))) 2 := k_raw_turn.choose_spec
theorem e_raw_turn {p q : Pt} (h : lgP p ∨ lgP q) : c_raw_turn [pt p, pt q] = ret (.val (.int (turn p q))) := by
  rw [q_raw_turn]
  have h : cmulB p.1 q.2 = true ∧ cmulB p.2 q.1 = true := by
    rcases h with ⟨h1, h2, h3, h4⟩ | ⟨h1, h2, h3, h4⟩
    · exact ⟨cmulb_l h1 h2, cmulb_l h3 h4⟩
    · exact ⟨cmulb_r h3 h4, cmulb_r h1 h2⟩
  obtain ⟨h1, h2⟩ := h
  walk_at "mx"
  rfl
/-- slots ray -/
theorem k_half_of : ∃ f : FM, f = runM (mRet (mIfE (mOrT (mTst (mB pGt (mB pIx (mV 0) (mC (.int 1))) (mC (.int 0)))) (mAndT (mTst (mB pEq (mB pIx (mV 0) (mC (.int 1))) (mC (.int 0)))) (mTst (mB pGt (mB pIx (mV 0) (mC (.int 0))) (mC (.int 0)))))) (mC (.int 0)) (mC (.int 1)))) 1 := ⟨_, rfl⟩
noncomputable def c_half_of : FM := k_half_of.choose
theorem q_half_of : c_half_of = runM (mRet (mIfE (mOrT (mTst (mB pGt (mB pIx (mV 0) (mC (.int 1))) (mC (.int 0)))) (mAndT (mTst (mB pEq (mB pIx (mV 0) (mC (.int 1))) (mC (.int 0)))) (mTst (mB pGt (mB pIx (mV 0) (mC (.int 0))) (mC (.int 0)))))) (mC (.int 0)) (mC (.int 1)))) 1 := k_half_of.choose_spec
theorem e_half_of {p : Pt} : c_half_of [pt p] = ret (.val (.int (half p))) := by
  rw [q_half_of]; unfold half
  walk_at "mx"
  by_cases h1 : 0 < p.2
  · simp only [h1]; walk_at "mx"; simp
  · simp only [h1]; walk_at "mx"
    by_cases h2 : p.2 = 0
    · simp only [h2]; walk_at "mx"
      by_cases h3 : 0 < p.1
      · simp only [h3]; walk_at "mx"; simp
      · simp only [h3]; walk_at "mx"; simp
    · simp only [h2]; walk_at "mx"; simp
/-- slots one other first last -/
theorem k_comes_ahead : ∃ f : FM, f = runM (mSeq (mPar [2, 3] (bConsM (mCallN 1 c_half_of (mCons (mV 0) mNil)) (bConsM (mCallN 1 c_half_of (mCons (mV 1) mNil)) bNilM))) (mRet (mOrV (mB pLt (mV 2) (mV 3)) (mAndV (mB pEq (mV 2) (mV 3)) (mB pGt (mCallN 2 c_raw_turn (mCons (mV 0) (mCons (mV 1) mNil))) (mC (.int 0))))))) 4 := ⟨_, rfl⟩
noncomputable def c_comes_ahead : FM := k_comes_ahead.choose
theorem q_comes_ahead : c_comes_ahead = runM (mSeq (mPar [2, 3] (bConsM (mCallN 1 c_half_of (mCons (mV 0) mNil)) (bConsM (mCallN 1 c_half_of (mCons (mV 1) mNil)) bNilM))) (mRet (mOrV (mB pLt (mV 2) (mV 3)) (mAndV (mB pEq (mV 2) (mV 3)) (mB pGt (mCallN 2 c_raw_turn (mCons (mV 0) (mCons (mV 1) mNil))) (mC (.int 0))))))) 4 := k_comes_ahead.choose_spec
theorem e_comes_ahead {p q : Pt} (h : lgP p ∨ lgP q) : c_comes_ahead [pt p, pt q] = ret (.val (.bl (NR.ahead p q))) := by
  rw [q_comes_ahead]; unfold NR.ahead
  walk_at "mx"
  rw [e_half_of]
  walk_at "mx"
  rw [e_half_of]
  walk_at "mx"
  by_cases h1 : half p < half q
  · simp only [h1]; walk_at "mx"
  · simp only [h1]; walk_at "mx"
    by_cases h2 : half p = half q
    · simp only [h2]; walk_at "mx"
      rw [e_raw_turn h]
      walk_at "mx"
    · simp only [h2]; walk_at "mx"
/-- slots one other -/
theorem k_is_ahead : ∃ f : FM, f = runM (mSeq (mDrop (mCallN 1 c_check_ray (mCons (mV 0) mNil))) (mSeq (mDrop (mCallN 1 c_check_ray (mCons (mV 1) mNil))) (mRet (mCallN 2 c_comes_ahead (mCons (mV 0) (mCons (mV 1) mNil)))))) 2 := ⟨_, rfl⟩
noncomputable def c_is_ahead : FM := k_is_ahead.choose
theorem q_is_ahead : c_is_ahead = runM (mSeq (mDrop (mCallN 1 c_check_ray (mCons (mV 0) mNil))) (mSeq (mDrop (mCallN 1 c_check_ray (mCons (mV 1) mNil))) (mRet (mCallN 2 c_comes_ahead (mCons (mV 0) (mCons (mV 1) mNil)))))) 2 := k_is_ahead.choose_spec
theorem okRay_ok {p : Pt} (h : okRay p = true) : okPt p = true := by unfold okRay at h; rw [Bool.and_eq_true] at h; exact h.1
theorem okRay_g {p : Pt} (h : okRay p = true) : Ray p := by unfold okRay at h; rw [Bool.and_eq_true] at h; exact (of_decide_eq_true h.2 : Int.gcd p.1 p.2 = 1)
theorem okRay_lg {p : Pt} (h : okRay p = true) : lgP p := lgP_of (smP_of (okRay_ok h))
theorem e_is_ahead {p q : Pt} (hp : okRay p = true) (hq : okRay q = true) : c_is_ahead [pt p, pt q] = ret (.val (.bl (NR.ahead p q))) := by
  rw [q_is_ahead]
  walk_at "mx"
  rw [e_check_ray hp]
  walk_at "mx"
  rw [e_check_ray hq]
  walk_at "mx"
  rw [e_comes_ahead (.inl (okRay_lg hp))]
  walk_at "mx"
/-- slots rays found ray one -/
theorem k_by_angle : ∃ f : FM, f = runM (mSeq (mSet 1 (mLst mNil)) (mSeq (mFor (iSeq (mV 0)) (tgN 2) (mIfS (mTst (mInN pNotIn 1 (mV 2))) (mInsert 1 (mCall bLen (mCons (mCompN 1 (tgN 3) (mTst (mCallN 2 c_comes_ahead (mCons (mV 3) (mCons (mV 2) mNil)))) (mV 3) [3]) mNil)) (mV 2)) mNext)) (mRetN 1))) 4 := ⟨_, rfl⟩
noncomputable def c_by_angle : FM := k_by_angle.choose
theorem q_by_angle : c_by_angle = runM (mSeq (mSet 1 (mLst mNil)) (mSeq (mFor (iSeq (mV 0)) (tgN 2) (mIfS (mTst (mInN pNotIn 1 (mV 2))) (mInsert 1 (mCall bLen (mCons (mCompN 1 (tgN 3) (mTst (mCallN 2 c_comes_ahead (mCons (mV 3) (mCons (mV 2) mNil)))) (mV 3) [3]) mNil)) (mV 2)) mNext)) (mRetN 1))) 4 := k_by_angle.choose_spec
theorem map_take' {α β : Type} (f : α → β) (l : List α) (n : Nat) : (l.map f).take n = (l.take n).map f := by rw [List.map_take]
theorem map_drop' {α β : Type} (f : α → β) (l : List α) (n : Nat) : (l.map f).drop n = (l.drop n).map f := by rw [List.map_drop]
theorem put_fst : ∀ (l : List Pt) (s : List Pt × Sl), (l.foldl (fun s r => (putR s.1 r, Sl.val (pt r))) s).1 = l.foldl putR s.1
  | [], s => rfl
  | x :: l, s => by rw [List.foldl_cons, put_fst]; rfl
theorem e_by_angle {rs : List Pt} (h : ∀ x ∈ rs, lgP x) (hl : rs.length ≤ 1000) {p : PV} (hp : p = .tup (rs.map pt) ∨ p = .lst (rs.map pt)) : c_by_angle [p] = ret (.own ((byAngle rs).map pt)) := by
  rw [q_by_angle]
  suffices H : ∀ f : Out → Rho → M Sl, (∀ x, f .nx [.val p, .own ((byAngle rs).map pt), x, .no] = ret (.own ((byAngle rs).map pt))) → bnd (mForL (tgN 2) (mIfS (mTst (mInN pNotIn 1 (mV 2))) (mInsert 1 (mCall bLen (mCons (mCompN 1 (tgN 3) (mTst (mCallN 2 c_comes_ahead (mCons (mV 3) (mCons (mV 2) mNil)))) (mV 3) [3]) mNil)) (mV 2)) mNext) (rs.map pt) [.val p, .own [], .no, .no]) (f := ⟨f⟩) = ret (.own ((byAngle rs).map pt)) by
    rcases hp with rfl | rfl
    · walk_at "mx"
      refine H _ fun x => ?_
      walk_at "mx"
    · walk_at "mx"
      refine H _ fun x => ?_
      walk_at "mx"
  intro f hf
  refine bnd_for pt (fun s : List Pt × Sl => [Sl.val p, .own (s.1.map pt), s.2, .no]) (fun s r => (putR s.1 r, .val (pt r))) (fun zs s => s.1.length + zs.length ≤ 1000 ∧ (∀ x ∈ zs, lgP x)) rs ([], .no) rfl ⟨by simpa using hl, h⟩ ?_ fun _ => by
    rw [put_fst]; exact hf _
  rintro ⟨l, x⟩ r zs ⟨h1, h2⟩
  dsimp only at h1
  rw [List.length_cons] at h1
  have hr := h2 r List.mem_cons_self
  refine ⟨?_, ?_, fun y hy => h2 y (List.mem_cons_of_mem _ hy)⟩
  · unfold putR
    walk_at "mx"
    by_cases hm : r ∈ l
    · simp only [hm]
      walk_at "mx"
    · simp only [hm]
      walk_at "mx"
      refine bnd_filter pt (fun y => NR.ahead y r) pt l (fun y hy => ?_) ?_
      · walk_at "mx"
        rw [e_comes_ahead (.inr hr)]
        walk_at "mx"
        cases NR.ahead y r <;> walk_at "mx"
      · have := List.length_filter_le (fun y => NR.ahead y r) l
        walk_at "mx"
        rw [mite_p (by rw [Bool.and_eq_true]; exact ⟨decide_eq_true (by omega), decide_eq_true (by omega)⟩)]
        congr 3
        unfold NR.putAt
        rw [Int.toNat_natCast, List.map_append, List.map_append, List.map_take, List.map_drop]
        rfl
  · have := putR_len (l := l) (r := r)
    dsimp only; omega
/-- slots thing one -/
theorem k_are_rays : ∃ f : FM, f = runM (mRet (mAndV (mCall bIsi (mCons (mV 0) (mCons (mC (.ty "tuple")) mNil))) (mAndV (mB pLe (mCall bLen (mCons (mV 0) mNil)) (mC (.int 40))) (mCall bAll (mCons (mComp (iSeq (mV 0)) (tgN 1) mYes (mCallN 1 c_is_ray (mCons (mV 1) mNil)) [1]) mNil))))) 2 := ⟨_, rfl⟩
noncomputable def c_are_rays : FM := k_are_rays.choose
theorem q_are_rays : c_are_rays = runM (mRet (mAndV (mCall bIsi (mCons (mV 0) (mCons (mC (.ty "tuple")) mNil))) (mAndV (mB pLe (mCall bLen (mCons (mV 0) mNil)) (mC (.int 40))) (mCall bAll (mCons (mComp (iSeq (mV 0)) (tgN 1) mYes (mCallN 1 c_is_ray (mCons (mV 1) mNil)) [1]) mNil))))) 2 := k_are_rays.choose_spec
theorem all_map_true {α : Type} {c : α → Bool} {l : List α} (h : ∀ y ∈ l, c y = true) : (l.map c).all id = true := by
  rw [List.all_eq_true]
  intro x hx
  obtain ⟨y, hy, rfl⟩ := List.mem_map.mp hx
  exact h y hy
theorem e_are_rays {rs : List Pt} (h : ∀ x ∈ rs, okRay x = true) (hl : rs.length ≤ 40) : c_are_rays [.tup (rs.map pt)] = ret (.val (.bl true)) := by
  rw [q_are_rays]
  walk_at "mx"
  rw [decide_eq_true (by omega : (rs.length : Int) ≤ 40)]
  walk_at "mx"
  refine bnd_map pt (fun y => PV.bl (okRay y)) rs (fun y hy => ?_) ?_
  · walk_at "mx"
    rw [e_is_ray dat2_pt, isRay_pt]
    walk_at "mx"
  · walk_at "mx"
    rw [show rs.map (fun y => PV.bl (okRay y)) = (rs.map okRay).map PV.bl by rw [List.map_map]; rfl, all_b, all_map_true h]
    walk_at "mx"
/-- slots rays -/
theorem k_in_order : ∃ f : FM, f = runM (mSeq (mIfS (mNotT (mTst (mCallN 1 c_are_rays (mCons (mV 0) mNil)))) mNever mNext) (mRet (mCall bTuple (mCons (mCallN 1 c_by_angle (mCons (mV 0) mNil)) mNil)))) 1 := ⟨_, rfl⟩
noncomputable def c_in_order : FM := k_in_order.choose
theorem q_in_order : c_in_order = runM (mSeq (mIfS (mNotT (mTst (mCallN 1 c_are_rays (mCons (mV 0) mNil)))) mNever mNext) (mRet (mCall bTuple (mCons (mCallN 1 c_by_angle (mCons (mV 0) mNil)) mNil)))) 1 := k_in_order.choose_spec
theorem e_in_order {rs : List Pt} (h : ∀ x ∈ rs, okRay x = true) (hl : rs.length ≤ 40) : c_in_order [.tup (rs.map pt)] = ret (.val (.tup ((byAngle rs).map pt))) := by
  rw [q_in_order]
  walk_at "mx"
  rw [e_are_rays h hl]
  walk_at "mx"
  rw [e_by_angle (fun x hx => okRay_lg (h x hx)) (by omega) (.inl rfl)]
  walk_at "mx"
/-- slots one other -/
theorem k_check_corner : ∃ f : FM, f = runM (mSeq (mDrop (mCallN 1 c_check_ray (mCons (mV 0) mNil))) (mSeq (mDrop (mCallN 1 c_check_ray (mCons (mV 1) mNil))) (mIfS (mTst (mB pLe (mCallN 2 c_raw_turn (mCons (mV 0) (mCons (mV 1) mNil))) (mC (.int 0)))) mNever mNext))) 2 := ⟨_, rfl⟩
noncomputable def c_check_corner : FM := k_check_corner.choose
theorem q_check_corner : c_check_corner = runM (mSeq (mDrop (mCallN 1 c_check_ray (mCons (mV 0) mNil))) (mSeq (mDrop (mCallN 1 c_check_ray (mCons (mV 1) mNil))) (mIfS (mTst (mB pLe (mCallN 2 c_raw_turn (mCons (mV 0) (mCons (mV 1) mNil))) (mC (.int 0)))) mNever mNext))) 2 := k_check_corner.choose_spec
theorem e_check_corner {p q : Pt} (hp : okRay p = true) (hq : okRay q = true) (ht : 0 < turn p q) : c_check_corner [pt p, pt q] = ret (.val .non) := by
  rw [q_check_corner]
  walk_at "mx"
  rw [e_check_ray hp]
  walk_at "mx"
  rw [e_check_ray hq]
  walk_at "mx"
  rw [e_raw_turn (.inl (okRay_lg hp))]
  walk_at "mx"
  rw [decide_eq_false (by omega)]
  walk_at "mx"
/-- slots top bottom by -/
theorem k_fraction : ∃ f : FM, f = runM (mSeq (mSet 2 (mCallN 2 c_common_divisor (mCons (mV 0) (mCons (mV 1) mNil)))) (mRet (mIfE (mTst (mB pGt (mV 1) (mC (.int 0)))) (mTup (mCons (mB pFdiv (mV 0) (mV 2)) (mCons (mB pFdiv (mV 1) (mV 2)) mNil))) (mTup (mCons (mB pFdiv (mU pNeg (mV 0)) (mV 2)) (mCons (mB pFdiv (mU pNeg (mV 1)) (mV 2)) mNil)))))) 3 := ⟨_, rfl⟩
noncomputable def c_fraction : FM := k_fraction.choose
theorem q_fraction : c_fraction = runM (mSeq (mSet 2 (mCallN 2 c_common_divisor (mCons (mV 0) (mCons (mV 1) mNil)))) (mRet (mIfE (mTst (mB pGt (mV 1) (mC (.int 0)))) (mTup (mCons (mB pFdiv (mV 0) (mV 2)) (mCons (mB pFdiv (mV 1) (mV 2)) mNil))) (mTup (mCons (mB pFdiv (mU pNeg (mV 0)) (mV 2)) (mCons (mB pFdiv (mU pNeg (mV 1)) (mV 2)) mNil)))))) 3 := k_fraction.choose_spec
/-- a fraction in lowest terms, the bottom above 0 -/
def low (a b : Int) : Pt := if 0 < b then (a / (Int.gcd a b : Int), b / (Int.gcd a b : Int)) else (-a / (Int.gcd a b : Int), -b / (Int.gcd a b : Int))
theorem e_fraction {a b : Int} (ha : a.natAbs < 1000000000) (hb : b.natAbs < 1000000000) (h0 : b ≠ 0) : c_fraction [.int a, .int b] = ret (.val (pt (low a b))) := by
  rw [q_fraction]
  walk_at "mx"
  rw [e_common_divisor (by omega) (by omega)]
  walk_at "mx"
  have g0 : 0 < Int.gcd a b := Nat.pos_of_ne_zero fun h => by rw [Int.gcd_eq_zero_iff] at h; exact h0 h.2
  have g1 : Int.gcd a b ≤ b.natAbs := Nat.le_of_dvd (by omega) (Int.gcd_dvd_natAbs_right a b)
  unfold low
  by_cases h : 0 < b
  · simp only [h]
    walk_at "mx"
    rw [fdiv_nn, fdiv_nn]; rfl
  · simp only [h]
    walk_at "mx"
    rw [fdiv_nn, fdiv_nn]; rfl
/-- slots one other dot -/
theorem k_check_between : ∃ f : FM, f = runM (mSeq (mDrop (mCallN 1 c_check_ray (mCons (mV 0) mNil))) (mSeq (mDrop (mCallN 1 c_check_ray (mCons (mV 1) mNil))) (mSeq (mDrop (mCallN 1 c_check_dot (mCons (mV 2) mNil))) (mDrop (mCallN 2 c_check_corner (mCons (mV 0) (mCons (mV 1) mNil))))))) 3 := ⟨_, rfl⟩
noncomputable def c_check_between : FM := k_check_between.choose
theorem q_check_between : c_check_between = runM (mSeq (mDrop (mCallN 1 c_check_ray (mCons (mV 0) mNil))) (mSeq (mDrop (mCallN 1 c_check_ray (mCons (mV 1) mNil))) (mSeq (mDrop (mCallN 1 c_check_dot (mCons (mV 2) mNil))) (mDrop (mCallN 2 c_check_corner (mCons (mV 0) (mCons (mV 1) mNil))))))) 3 := k_check_between.choose_spec
theorem e_check_between {p q r : Pt} (hp : okRay p = true) (hq : okRay q = true) (hr : okPt r = true) (ht : 0 < turn p q) : c_check_between [pt p, pt q, pt r] = ret (.val .non) := by
  rw [q_check_between]
  walk_at "mx"
  rw [e_check_ray hp]
  walk_at "mx"
  rw [e_check_ray hq]
  walk_at "mx"
  rw [e_check_dot hr]
  walk_at "mx"
  rw [e_check_corner hp hq ht]
  walk_at "mx"
/-- slots one other dot wide -/
theorem k_between : ∃ f : FM, f = runM (mSeq (mDrop (mCallN 3 c_check_between (mCons (mV 0) (mCons (mV 1) (mCons (mV 2) mNil))))) (mSeq (mSet 3 (mCallN 2 c_raw_turn (mCons (mV 0) (mCons (mV 1) mNil)))) (mRet (mTup (mCons (mCallN 2 c_fraction (mCons (mCallN 2 c_raw_turn (mCons (mV 2) (mCons (mV 1) mNil))) (mCons (mV 3) mNil))) (mCons (mCallN 2 c_fraction (mCons (mCallN 2 c_raw_turn (mCons (mV 0) (mCons (mV 2) mNil))) (mCons (mV 3) mNil))) mNil)))))) 4 := ⟨_, rfl⟩
noncomputable def c_between : FM := k_between.choose
theorem q_between : c_between = runM (mSeq (mDrop (mCallN 3 c_check_between (mCons (mV 0) (mCons (mV 1) (mCons (mV 2) mNil))))) (mSeq (mSet 3 (mCallN 2 c_raw_turn (mCons (mV 0) (mCons (mV 1) mNil)))) (mRet (mTup (mCons (mCallN 2 c_fraction (mCons (mCallN 2 c_raw_turn (mCons (mV 2) (mCons (mV 1) mNil))) (mCons (mV 3) mNil))) (mCons (mCallN 2 c_fraction (mCons (mCallN 2 c_raw_turn (mCons (mV 0) (mCons (mV 2) mNil))) (mCons (mV 3) mNil))) mNil)))))) 4 := k_between.choose_spec
theorem turn_bd {p q : Pt} (hp : okPt p = true) (hq : okPt q = true) : (turn p q).natAbs ≤ 200000000 := by
  have h1 := okPt_iff.mp hp
  have h2 := okPt_iff.mp hq
  unfold turn
  have a1 : (p.1 * q.2).natAbs ≤ 10000 * 10000 := by rw [Int.natAbs_mul]; exact Nat.mul_le_mul (by omega) (by omega)
  have a2 : (p.2 * q.1).natAbs ≤ 10000 * 10000 := by rw [Int.natAbs_mul]; exact Nat.mul_le_mul (by omega) (by omega)
  omega
theorem e_between {p q r : Pt} (hp : okRay p = true) (hq : okRay q = true) (hr : okPt r = true) (ht : 0 < turn p q) : c_between [pt p, pt q, pt r] = ret (.val (.tup [pt (low (turn r q) (turn p q)), pt (low (turn p r) (turn p q))])) := by
  rw [q_between]
  walk_at "mx"
  rw [e_check_between hp hq hr ht]
  walk_at "mx"
  rw [e_raw_turn (.inl (okRay_lg hp))]
  walk_at "mx"
  rw [e_raw_turn (.inr (okRay_lg hq))]
  walk_at "mx"
  have b1 := turn_bd (okRay_ok hp) (okRay_ok hq)
  have b2 := turn_bd hr (okRay_ok hq)
  have b3 := turn_bd (okRay_ok hp) hr
  rw [e_fraction (by omega) (by omega) (by omega)]
  walk_at "mx"
  rw [e_raw_turn (.inl (okRay_lg hp))]
  walk_at "mx"
  rw [e_fraction (by omega) (by omega) (by omega)]
  walk_at "mx"
/-- slots one other dot -/
theorem k_lies_in : ∃ f : FM, f = runM (mRet (mAndV (mB pGe (mCallN 2 c_raw_turn (mCons (mV 0) (mCons (mV 2) mNil))) (mC (.int 0))) (mB pGe (mCallN 2 c_raw_turn (mCons (mV 2) (mCons (mV 1) mNil))) (mC (.int 0))))) 3 := ⟨_, rfl⟩
noncomputable def c_lies_in : FM := k_lies_in.choose
theorem q_lies_in : c_lies_in = runM (mRet (mAndV (mB pGe (mCallN 2 c_raw_turn (mCons (mV 0) (mCons (mV 2) mNil))) (mC (.int 0))) (mB pGe (mCallN 2 c_raw_turn (mCons (mV 2) (mCons (mV 1) mNil))) (mC (.int 0))))) 3 := k_lies_in.choose_spec
theorem e_lies_in {p q r : Pt} (hp : lgP p) (hq : lgP q) : c_lies_in [pt p, pt q, pt r] = ret (.val (.bl (decide (0 ≤ turn p r) && decide (0 ≤ turn r q)))) := by
  rw [q_lies_in]
  walk_at "mx"
  rw [e_raw_turn (.inl hp)]
  walk_at "mx"
  by_cases h : 0 ≤ turn p r
  · simp only [h]
    walk_at "mx"
    rw [e_raw_turn (.inr hq)]
    walk_at "mx"
  · simp only [h]
    walk_at "mx"
/-- slots one other dot -/
theorem k_is_in : ∃ f : FM, f = runM (mSeq (mDrop (mCallN 3 c_check_between (mCons (mV 0) (mCons (mV 1) (mCons (mV 2) mNil))))) (mRet (mCallN 3 c_lies_in (mCons (mV 0) (mCons (mV 1) (mCons (mV 2) mNil)))))) 3 := ⟨_, rfl⟩
noncomputable def c_is_in : FM := k_is_in.choose
theorem q_is_in : c_is_in = runM (mSeq (mDrop (mCallN 3 c_check_between (mCons (mV 0) (mCons (mV 1) (mCons (mV 2) mNil))))) (mRet (mCallN 3 c_lies_in (mCons (mV 0) (mCons (mV 1) (mCons (mV 2) mNil)))))) 3 := k_is_in.choose_spec
theorem e_is_in {p q r : Pt} (hp : okRay p = true) (hq : okRay q = true) (hr : okPt r = true) (ht : 0 < turn p q) : c_is_in [pt p, pt q, pt r] = ret (.val (.bl (decide (0 ≤ turn p r) && decide (0 ≤ turn r q)))) := by
  rw [q_is_in]
  walk_at "mx"
  rw [e_check_between hp hq hr ht]
  walk_at "mx"
  rw [e_lies_in (okRay_lg hp) (okRay_lg hq)]
  walk_at "mx"
end VR
end
section
set_option Elab.async false
set_option linter.all false
set_option maxRecDepth 100000
set_option maxHeartbeats 4000000
open PySem PySem.Spec PyProof.Rows L2 VE
local macro_rules | `(tactic| walk_at "vx") => `(tactic| simp (config := {decide := false}) only [wVar, wC, wBin, wUn, wTst, wAndT, wOrT, wNotT, wAndV, wOrV, wNotV, wIf, wNil, wCons, wTup, wLst, wSl, wNoPart, wPart, wCall, wCallN, wNext, wSeq, wBreak, wCont, wNever, wRet, wRetN, wRet0, wIfS, wDrop, wSet, wPar, wPar3, wgName, wgNil, wgCons, wgTup, wgIx, wAsg, wAug, wAppend, wInsert, bNil, bCons, wParB, wParB3, wAsgB, sets, VM.exB2, VM.exB3, VM.zipP_cons, VM.zipP_nil, VM.compL_cons, VM.compL_nil, wiSeq, wiRng1, wiRng2, wiZip, wiEnum, wFor, wYes, wComp, wChain, wipeR, backR, look, VM.ex2, VM.ex3, VM.eq_int, VM.ne_int, VM.ix_t0, VM.ix_t1, VM.ix_t2, VM.ix_l0, VM.ix_l1, VM.ix_l2, VM.ix_pt0, VM.ix_pt1, VM.eq_bl, VM.ne_bl, VM.eq_str, VM.ne_str, VM.is_non, VM.isnot_non, decide_true, decide_false, decide_eq_true_eq, eq_self, VM.pv_val, VM.pv_own, VM.noOwn_eq, VM.noOwnB, List.all_cons, List.all_nil, Bool.and_self, opInt, opSub, opMod, opFdiv, opPow, opCmpI, opLt, opLe, opGt, opGe, opAdd, opMul, opNeg, opLen, opAbs, opIntC, opMax2, opMin2, opList, opTuple, opSl, opBack, wIxN, wLenN, startR,
  List.set_cons_zero, List.set_cons_succ, List.length_cons, List.length_nil, List.map_cons, List.map_nil, List.replicate_succ, List.replicate_zero, List.nil_append, List.cons_append, Nat.zero_add, Nat.reduceAdd, Nat.reduceSub, if_true, if_false, true_and, and_true, Bool.false_eq_true, ite_true, ite_false, List.cons.injEq, PV.int.injEq, PV.bl.injEq, exists_eq_left, exists_eq_left', exists_and_left, and_self, reduceCtorEq, Bool.not_true, Bool.not_false, ite_self])
local macro_rules | `(tactic| walk_at "vc") => `(tactic| repeat (with_reducible refine And.intro ?_ ?_; focus first | omega | with_reducible rfl | exact VM.szb rfl | exact VM.szlb rfl | exact VM.cmul_l (by omega) (by omega) | exact VM.cmul_r (by omega) (by omega) | exact VM.divok (by omega) (by omega) (by omega) | omega))

namespace VM
theorem atI_get {xs : List PV} {i : Int} {n : Nat} (h : i = n) (hn : n < xs.length) : L2.atI xs i = some xs[n] := by
  subst h
  unfold L2.atI L2.ixN
  simp [hn]
/-- one of a list, whichever -/
def S__law_any : SpV := fun ps Q => ∃ xs, (ps = [.hnd, .lst xs] ∨ ps = [.hnd, .tup xs]) ∧ 0 < xs.length ∧ xs.length < 1000000 ∧ ∀ x ∈ xs, Q (.val x)
def w__law_any (S__law_draw : SpV) : WS := (wRet (wBin opIx (wVar 1) (wCallN 2 S__law_draw (wCons (wVar 0) (wCons (wCall opLen (wCons (wVar 1) wNil)) wNil)))))
theorem v__law_any : SV (w__law_any S__law_draw) 2 S__law_any 2 := by
  rintro ps Q - ⟨xs, rfl | rfl, h0, h1, q⟩
  · unfold w__law_any
    walk_at "vx"
    refine ⟨_, rfl, by omega, by omega, fun r r0 r1 => ?_⟩
    have hr : r.toNat < xs.length := by omega
    exact ⟨xs[r.toNat], atI_get (by omega) hr, q _ (List.getElem_mem hr)⟩
  · unfold w__law_any
    walk_at "vx"
    refine ⟨_, rfl, by omega, by omega, fun r r0 r1 => ?_⟩
    have hr : r.toNat < xs.length := by omega
    exact ⟨xs[r.toNat], atI_get (by omega) hr, q _ (List.getElem_mem hr)⟩
/-- data that is compared with its own like, at most n deep -/
def sameOk : Nat → PV → Prop
  | _, .non => True
  | _, .bl _ => True
  | _, .int _ => True
  | _, .str _ => True
  | n + 1, .tup xs => xs.length ≤ 1000000 ∧ ∀ x ∈ xs, sameOk n x
  | n + 1, .lst xs => xs.length ≤ 1000000 ∧ ∀ x ∈ xs, sameOk n x
  | _, _ => False
theorem sameOk_int {n : Nat} {i : Int} : sameOk n (.int i) := by cases n <;> exact True.intro
theorem sameOk_bl {n : Nat} {i : Bool} : sameOk n (.bl i) := by cases n <;> exact True.intro
theorem sameOk_non {n : Nat} : sameOk n .non := by cases n <;> exact True.intro
theorem sameOk_str {n : Nat} {i : Str} : sameOk n (.str i) := by cases n <;> exact True.intro
theorem sameOk_pt {n : Nat} {p : Pt} : sameOk (n + 1) (pt p) := ⟨by simp, fun x hx => by
  rcases List.mem_cons.mp hx with rfl | hx
  · exact sameOk_int
  · rw [List.mem_singleton.mp hx]; exact sameOk_int⟩
theorem sameOk_lst {α : Type} {n : Nat} {l : List α} {f : α → PV} (h : l.length ≤ 1000000) (hf : ∀ a ∈ l, sameOk n (f a)) : sameOk (n + 1) (.lst (l.map f)) := ⟨by rw [List.length_map]; exact h, fun x hx => by
  obtain ⟨a, ha, rfl⟩ := List.mem_map.mp hx
  exact hf a ha⟩
theorem sameOk_tup {α : Type} {n : Nat} {l : List α} {f : α → PV} (h : l.length ≤ 1000000) (hf : ∀ a ∈ l, sameOk n (f a)) : sameOk (n + 1) (.tup (l.map f)) := ⟨by rw [List.length_map]; exact h, fun x hx => by
  obtain ⟨a, ha, rfl⟩ := List.mem_map.mp hx
  exact hf a ha⟩
theorem sameOk_L {n : Nat} {xs : List PV} (h1 : xs.length ≤ 1000000) (h2 : ∀ x ∈ xs, sameOk n x) : sameOk (n + 1) (.lst xs) := ⟨h1, h2⟩
theorem sameOk_T {n : Nat} {xs : List PV} (h1 : xs.length ≤ 1000000) (h2 : ∀ x ∈ xs, sameOk n x) : sameOk (n + 1) (.tup xs) := ⟨h1, h2⟩
theorem sameOk_dat {n : Nat} {p : PV} (h : sameOk n p) : dat p := by
  cases p <;> first | exact dat_int | exact dat_bl | exact dat_str | exact dat_tup | exact dat_lst | exact dat_non | (cases n <;> exact h.elim)
/-- a thing and its like: true -/
def S__law_same (n : Nat) : SpV := fun ps Q => ∃ p, ps = [p, p] ∧ sameOk n p ∧ Q (.val (.bl true))
/-- the calls behind n levels -/
def S_same' : Nat → SpV
  | 0 => fun _ _ => False
  | n + 1 => S__law_same n
def w__law_same (S__law_same : SpV) : WS := (wSeq (wIfS (wOrT (wTst (wCall opIsi (wCons (wVar 1) (wCons (wC (.ty "tuple")) wNil)))) (wTst (wCall opIsi (wCons (wVar 1) (wCons (wC (.ty "list")) wNil))))) (wSeq (wIfS (wOrT (wTst (wBin opNe (wCall opIsi (wCons (wVar 0) (wCons (wC (.ty "tuple")) wNil))) (wCall opIsi (wCons (wVar 1) (wCons (wC (.ty "tuple")) wNil))))) (wTst (wBin opNe (wCall opIsi (wCons (wVar 0) (wCons (wC (.ty "list")) wNil))) (wCall opIsi (wCons (wVar 1) (wCons (wC (.ty "list")) wNil)))))) (wRet (wC (.bl false))) wNext) (wRet (wAndV (wBin opEq (wCall opLen (wCons (wVar 0) wNil)) (wCall opLen (wCons (wVar 1) wNil))) (wCall opAll (wCons (wComp (wiZip (wCons (wVar 0) (wCons (wVar 1) wNil))) (wgTup 2 (wgCons (wgName 2) (wgCons (wgName 3) wgNil))) wYes (wCallN 2 S__law_same (wCons (wVar 2) (wCons (wVar 3) wNil))) [2, 3]) wNil))))) wNext) (wSeq (wIfS (wOrT (wTst (wBin opNe (wCall opIsi (wCons (wVar 0) (wCons (wC (.ty "bool")) wNil))) (wCall opIsi (wCons (wVar 1) (wCons (wC (.ty "bool")) wNil))))) (wTst (wBin opNe (wBin opIs (wVar 0) (wC .non)) (wBin opIs (wVar 1) (wC .non))))) (wRet (wC (.bl false))) wNext) (wRet (wAndV (wBin opEq (wCall opIsi (wCons (wVar 0) (wCons (wC (.ty "int")) wNil))) (wCall opIsi (wCons (wVar 1) (wCons (wC (.ty "int")) wNil)))) (wBin opEq (wVar 0) (wVar 1))))))
theorem zipP_self (xs : List PV) : zipP xs xs = xs.map fun x => PV.tup [x, x] := by
  unfold zipP
  induction xs with
  | nil => rfl
  | cons x xs ih => simp [ih]
theorem all_true {α : Type} {l : List α} : (l.map fun _ => PV.bl true) = (l.map fun _ => true).map PV.bl := by simp
theorem all_tt {α : Type} {l : List α} : (l.map fun _ => true).all id = true := by
  induction l with
  | nil => rfl
  | cons _ _ ih => rw [List.map_cons, List.all_cons, ih]; rfl
theorem v__law_same (n : Nat) : SV (w__law_same (S_same' n)) 4 (S__law_same n) 2 := by
  rintro ps Q - ⟨p, rfl, hp, q⟩
  have hd := sameOk_dat hp
  unfold w__law_same
  walk_at "vx"
  simp only [isi_tuple hd, isi_list hd, isi_int hd, isi_bool hd, is_non, eq_bl, ne_bl, decide_true]
  have deep : ∀ (xs : List PV), xs.length ≤ 1000000 → (∀ x ∈ xs, ∀ R : Sl → Prop, R (.val (.bl true)) → S_same' n [x, x] R) → ∀ (ρ : Rho) (R : List PV → Rho → Prop), (∀ x, ρ = wipeR [.val x, .val x, .no, .no] [2, 3] → R (xs.map fun _ => .bl true) ρ) → True := fun _ _ _ _ _ _ => trivial
  cases p with
  | tup xs =>
    simp only [kT, kL]
    walk_at "vx"
    cases n with
    | zero => exact hp.elim
    | succ n =>
      rw [zipP_self]
      refine compL_map (fun x => PV.tup [x, x]) (fun _ => .bl true) xs hp.1 (fun y hy k N hk hN => ?_) ?_
      · walk_at "vx"
        exact ⟨y, rfl, hp.2 y hy, hk, hN⟩
      · show opAll [.lst _] _
        rw [all_true, all_bl, all_tt]
        exact q
  | lst xs =>
    simp only [kT, kL]
    walk_at "vx"
    cases n with
    | zero => exact hp.elim
    | succ n =>
      rw [zipP_self]
      refine compL_map (fun x => PV.tup [x, x]) (fun _ => .bl true) xs hp.1 (fun y hy k N hk hN => ?_) ?_
      · walk_at "vx"
        exact ⟨y, rfl, hp.2 y hy, hk, hN⟩
      · show opAll [.lst _] _
        rw [all_true, all_bl, all_tt]
        exact q
  | int i =>
    simp only [kT, kL]
    walk_at "vx"
    exact q
  | bl i =>
    simp only [kT, kL]
    walk_at "vx"
    exact q
  | non =>
    simp only [kT, kL]
    walk_at "vx"
    exact .inl ⟨_, _, rfl, rfl, rfl, rfl, q⟩
  | str x =>
    simp only [kT, kL]
    walk_at "vx"
    exact q
  | _ => cases n <;> exact hp.elim
/-- a thing in n tuples and lists of one -/
inductive Nest (p : PV) : Nat → PV → Prop
  | nil : Nest p 0 p
  | tup {n x} : Nest p n x → Nest p (n + 1) (.tup [x])
  | lst {n x} : Nest p n x → Nest p (n + 1) (.lst [x])
def S__law_deep : SpV := fun ps Q => ∃ p, ps = [.hnd, p] ∧ ∀ n y, 5 ≤ n → n < 50 → Nest p n y → Q (.val y)
def w__law_deep (S__law_any : SpV) (S__law_draw : SpV) : WS := (wSeq (wFor (wiRng1 (wCons (wBin opAdd (wC (.int 5)) (wCallN 2 S__law_draw (wCons (wVar 0) (wCons (wC (.int 45)) wNil)))) wNil)) (wgName 2) (wSet 1 (wCallN 2 S__law_any (wCons (wVar 0) (wCons (wLst (wCons (wTup (wCons (wVar 1) wNil)) (wCons (wLst (wCons (wVar 1) wNil)) wNil))) wNil))))) (wRetN 1))
theorem rangeP_len {a : Int} {n : Nat} : (rangeP a n).length = n := by unfold rangeP; simp
theorem v__law_deep : SV (w__law_deep S__law_any S__law_draw) 3 S__law_deep 2 := by
  rintro ps Q - ⟨p, rfl, q⟩
  unfold w__law_deep
  walk_at "vx"
  refine ⟨_, rfl, by omega, by omega, fun r r0 r1 => ?_⟩
  refine ⟨by omega, by omega, ?_⟩
  refine forL_ind (J := fun rest ρ => ∃ n x l, ρ = [.val .hnd, .val x, l] ∧ Nest p n x ∧ n + rest.length = (5 + r).toNat ∧ ∀ ys, l ≠ .own ys) ?_ ?_ _ _ ⟨0, p, .no, rfl, .nil, by rw [rangeP_len]; omega, fun _ h => nomatch h⟩
  · rintro z zs ρ ⟨n, x, l, rfl, hn, hl, _⟩ N hN
    walk_at "vx"
    refine ⟨sz (by decide), sz (by decide), sz (by decide), _, .inl rfl, by simp, by simp, fun y hy => hN _ ?_⟩
    rw [List.length_cons] at hl
    rcases List.mem_cons.mp hy with rfl | hy
    · exact ⟨n + 1, _, _, rfl, .tup hn, by omega, fun _ h => nomatch h⟩
    · rw [List.mem_singleton.mp hy]
      exact ⟨n + 1, _, _, rfl, .lst hn, by omega, fun _ h => nomatch h⟩
  · rintro ρ ⟨n, x, l, rfl, hn, hl, _⟩
    walk_at "vx"
    exact q n x (by rw [List.length_nil] at hl; omega) (by rw [List.length_nil] at hl; omega) hn
def S__law_is_integer : SpV := S_is_integer
def w__law_is_integer : WS := (wRet (wAndV (wCall opIsi (wCons (wVar 0) (wCons (wC (.ty "int")) wNil))) (wNotV (wCall opIsi (wCons (wVar 0) (wCons (wC (.ty "bool")) wNil))))))
theorem v__law_is_integer : SV w__law_is_integer 1 S__law_is_integer 1 := v_is_integer
def S__law_common : SpV := S_common_divisor
def w__law_common : WS := (wSeq (wPar 0 1 (wCons (wCall opAbs (wCons (wVar 0) wNil)) (wCons (wCall opAbs (wCons (wVar 1) wNil)) wNil))) (wSeq (wWhile (wTst (wBin opGt (wVar 1) (wC (.int 0)))) (wPar 0 1 (wCons (wVar 1) (wCons (wBin opMod (wCall opIntC (wCons (wVar 0) wNil)) (wVar 1)) wNil)))) (wRetN 0)))
theorem v__law_common : SV w__law_common 2 S__law_common 2 := by
  rintro ps Q - ⟨a, b, rfl, q⟩
  unfold w__law_common
  walk_at "vx"
  refine wWhile_ind (fun n ρ => ∃ x y : Int, ρ = [.val (.int x), .val (.int y)] ∧ 0 ≤ x ∧ 0 ≤ y ∧ y.toNat = n ∧ Int.gcd x y = Int.gcd a b) _ ⟨_, _, rfl, abs_nn _, abs_nn _, rfl, gcd_abs a b⟩ ?_
  rintro n ρ ⟨x, y, rfl, hx, hy, rfl, hg⟩ N hN
  walk_at "vx"
  by_cases h : 0 < y
  · simp only [h, decide_true, if_true]
    refine ⟨by omega, hN (x.fmod y).toNat _ ?_ ⟨_, _, rfl, hy, ?_, rfl, gcd_step.trans hg⟩⟩
    · have := Int.fmod_lt_of_pos x h; have := Int.fmod_nonneg_of_pos x h; omega
    · exact Int.fmod_nonneg_of_pos x h
  · have : y = 0 := by omega
    subst this
    simp
    rw [Int.gcd_zero_right] at hg
    have : x = (Int.gcd a b : Int) := by omega
    rw [this]; exact q
def S__law_turn : SpV := S_raw_turn
def w__law_turn : WS := (wRet (wBin opSub (wBin opMul (wBin opIx (wVar 0) (wC (.int 0))) (wBin opIx (wVar 1) (wC (.int 1)))) (wBin opMul (wBin opIx (wVar 0) (wC (.int 1))) (wBin opIx (wVar 1) (wC (.int 0))))))
theorem v__law_turn : SV w__law_turn 2 S__law_turn 2 := v_raw_turn
/-- a ray with numbers to most -/
def S__law_ray : SpV := fun ps Q => ∃ most : Int, ps = [.hnd, .int most] ∧ 1 ≤ most ∧ most ≤ 100000000 ∧ ∀ p : Pt, Int.gcd p.1 p.2 = 1 → -most ≤ p.1 → p.1 ≤ most → -most ≤ p.2 → p.2 ≤ most → Q (.val (pt p))
def w__law_ray (S__law_common : SpV) (S__law_draw : SpV) : WS := (wSeq (wPar 2 3 (wCons (wBin opSub (wCallN 2 S__law_draw (wCons (wVar 0) (wCons (wBin opAdd (wBin opMul (wC (.int 2)) (wVar 1)) (wC (.int 1))) wNil))) (wVar 1)) (wCons (wBin opSub (wCallN 2 S__law_draw (wCons (wVar 0) (wCons (wBin opAdd (wBin opMul (wC (.int 2)) (wVar 1)) (wC (.int 1))) wNil))) (wVar 1)) wNil))) (wSeq (wSet 4 (wCallN 2 S__law_common (wCons (wVar 2) (wCons (wVar 3) wNil)))) (wRet (wIf (wTst (wBin opGt (wVar 4) (wC (.int 0)))) (wTup (wCons (wBin opFdiv (wVar 2) (wVar 4)) (wCons (wBin opFdiv (wVar 3) (wVar 4)) wNil))) (wTup (wCons (wC (.int 1)) (wCons (wC (.int 0)) wNil)))))))
theorem ediv_bd {a m : Int} {g : Nat} (h1 : -m ≤ a) (h2 : a ≤ m) : -m ≤ a / (g : Int) ∧ a / (g : Int) ≤ m := by
  have := Int.natAbs_ediv_le_natAbs a g
  omega
theorem v__law_ray : SV (w__law_ray S__law_common S__law_draw) 5 S__law_ray 2 := by
  rintro ps Q - ⟨m, rfl, m1, m2, q⟩
  unfold w__law_ray
  walk_at "vx"
  refine ⟨cmul_l (by omega) (by omega), _, rfl, by omega, by omega, fun r r0 r1 => ?_⟩
  walk_at "vx"
  refine ⟨cmul_l (by omega) (by omega), _, rfl, by omega, by omega, fun s s0 s1 => ?_⟩
  walk_at "vx"
  refine ⟨_, _, rfl, ?_⟩
  walk_at "vx"
  have hs : smP (r - m, s - m) := ⟨by show _ < r - m; omega, by show r - m < _; omega, by show _ < s - m; omega, by show s - m < _; omega⟩
  by_cases h : 0 < Int.gcd (r - m) (s - m)
  · have h2 := gcd_lt hs
    dsimp only at h2
    rw [if_pos (by simpa using (by omega : (0 : Int) < (Int.gcd (r - m) (s - m) : Int)))]
    refine ⟨divok (by omega) (by omega) (by omega), divok (by omega) (by omega) (by omega), sz (by decide), ?_⟩
    rw [fdiv_nn, fdiv_nn]
    have b1 := ediv_bd (g := Int.gcd (r - m) (s - m)) (show -m ≤ r - m by omega) (show r - m ≤ m by omega)
    have b2 := ediv_bd (g := Int.gcd (r - m) (s - m)) (show -m ≤ s - m by omega) (show s - m ≤ m by omega)
    exact q (_, _) (Int.gcd_ediv_gcd_ediv_gcd h) b1.1 b1.2 b2.1 b2.2
  · rw [if_neg (by simpa using (by omega : ¬ (0 : Int) < (Int.gcd (r - m) (s - m) : Int)))]
    exact ⟨sz (by decide), q (1, 0) (by decide) (by show -m ≤ 1; omega) (by show 1 ≤ m; omega) (by show -m ≤ 0; omega) (by show 0 ≤ m; omega)⟩
end VM
end
section
set_option Elab.async false
set_option linter.all false
set_option maxRecDepth 100000
set_option maxHeartbeats 4000000
open PySem PySem.Spec PyProof.Rows L2 VE VM VX
open VX.M (ret exc fail draw)
local macro_rules | `(tactic| walk_at "dj") => `(tactic| first | assumption | with_reducible rfl | omega | exact dat_int | exact dat_tup | exact dat_bl | exact dat_lst | exact dat_non | exact dat_str | exact dat_dct | exact dat_pt | exact cmulb_l (by omega) (by omega) | exact cmulb_r (by omega) (by omega) | exact divb (by omega) (by omega) (by omega) | exact szT_of (by simp only [List.length_map, List.length_cons, List.length_nil, List.length_append]; omega) | (simp only [List.length_map, List.length_cons, List.length_nil, List.length_append]; omega))
local macro_rules | `(tactic| walk_at "mx") => `(tactic| simp (config := {decide := false, implicitDefEqProofs := false}) (disch := walk_at "dj") only [runM, seqO, tgI0, app0, ins0, ixN0, ixRd, lenN0, startR, mV, rd, look, mC, mB, mU, mTst, asB, mAndT, mOrT, mNotT, mAndV, mOrV, mNotV, mIfE, mChain, mNil, mCons, bNilM, bConsM, mTup, mLst, mNoPart, asI, mPart, pSl, mSl, mCall, mCallN, bLen, bAbs, bInt, bMax2, bMin2, bList, bTuple, mIxN, mLenN, mNext, mBreak, mCont, mNever, mSeq, mRet, rdN, mRetN, mRet0, mIfS, mDrop, mSet, mPar, sets, tgN, tgZ, tgC, tgT, putIx, tgI, mAsg, augS, mAug, putApp, mAppend, putIns, mInsert, asL, iSeq, rng1_e, rng2_e, rangeI_len, zipM, enumM, iArg, mFor, mComp, mYes, endF, inRd, inRd, mInN, compN, mCompN, mPopAt, pop0, mPopL, popL0, mExtend, ext0, putExt, bSortedQ, bMinD, bMaxD, forStep, compStep, mForL, mCompL, wipeR, backR, VM.noOwnB, pBack, getO,
  okd_ret, bind_ret, bnd_ret, bind_fail, bnd_fail, mite_t, mite_f, add_ii, sub_ii, mul_ii, fdiv_ii, mod_ii, lt_ii, le_ii, gt_ii, ge_ii, neg_i, add_tt, add_ll, eq_ii, ne_ii, eq_bb, ne_bb, eq_ss, ne_ss, eq_pp, ne_pp, eq_lp, ne_lp, eq_tp, ne_tp, in_p, notin_p, is_n, isnot_n, isb_t, isb_f, isnb_t, isnb_f, x_pt0, x_pt1, x_t0, x_t1, x_t2, x_t3, x_l0, x_l1, x_l2, i_int, i_bool, i_tuple, i_list, i_str, szT_of, szd, szdl, bnd_ite, bind_ite, bnd_bnd, bind_bnd, bnd_bind, bind_bind, kIq_int, kIq_bl, kIq_tup, kIq_lst, kIq_str, kIq_non, kIq_hnd, kIq_dct0, kIq_ins, kBq_int, kBq_bl, kBq_tup, kBq_lst, kBq_str, kBq_non, kBq_hnd, kBq_dct0, kBq_ins, kTq_int, kTq_bl, kTq_tup, kTq_lst, kTq_str, kTq_non, kTq_hnd, kTq_dct0, kTq_ins, kLq_int, kLq_bl, kLq_tup, kLq_lst, kLq_str, kLq_non, kLq_hnd, kLq_dct0, kLq_ins, kSq_int, kSq_bl, kSq_tup, kSq_lst, kSq_str, kSq_non, kSq_hnd, kSq_dct0, kSq_ins, isNq_int, isNq_bl, isNq_tup, isNq_lst, isNq_str, isNq_non, isNq_hnd, isNq_dct0, isNq_ins, kIq_pt, kBq_pt, kTq_pt, kLq_pt, kSq_pt,
  Int.cast_ofNat_Int, Int.natCast_add, Int.natCast_one, Int.natCast_zero, pv_val, pv_own, List.set_cons_zero, List.set_cons_succ, List.length_cons, List.length_nil, List.length_map, List.map_cons, List.map_nil, List.replicate_succ, List.replicate_zero, List.nil_append, List.cons_append, List.append_nil, Nat.zero_add, Nat.reduceAdd, Nat.reduceSub, Nat.reduceEqDiff, Nat.reduceLeDiff, decide_true, decide_false, Bool.and_true, Bool.true_and, Bool.and_false, Bool.false_and, Bool.or_true, Bool.true_or, Bool.or_false, Bool.false_or, Bool.not_true, Bool.not_false, List.all_cons, List.all_nil, eq_self, if_true, if_false, Bool.false_eq_true, reduceCtorEq, Option.toList])
open NR VR
namespace VL
/-- slots hand some -/
theorem k__law_any : ∃ f : FM, f = runM (mRet (mB pIx (mV 1) (mCallN 2 c__law_draw (mCons (mV 0) (mCons (mCall bLen (mCons (mV 1) mNil)) mNil))))) 2 := ⟨_, rfl⟩
noncomputable def c__law_any : FM := k__law_any.choose
theorem q__law_any : c__law_any = runM (mRet (mB pIx (mV 1) (mCallN 2 c__law_draw (mCons (mV 0) (mCons (mCall bLen (mCons (mV 1) mNil)) mNil))))) 2 := k__law_any.choose_spec
theorem o_any' {xs : List PV} (h0 : 0 < xs.length) (h1 : xs.length < 1000000) {p : PV} (hp : p = .lst xs ∨ p = .tup xs) : Okd (c__law_any [.hnd, p]) fun r => ∃ x ∈ xs, r = .val x := by
  rw [q__law_any]
  rcases hp with rfl | rfl
  · walk_at "mx"
    refine st_draw (by omega) (by omega) fun r r0 r1 => ?_
    have hr : r.toNat < xs.length := by omega
    have e : pIx (.lst xs) (.int r) = ret (.val xs[r.toNat]) := ixl (VM.atI_get (by omega) hr)
    walk_at "mx"
    rw [e]
    walk_at "mx"
    exact ⟨_, List.getElem_mem hr, rfl⟩
  · walk_at "mx"
    refine st_draw (by omega) (by omega) fun r r0 r1 => ?_
    have hr : r.toNat < xs.length := by omega
    have e : pIx (.tup xs) (.int r) = ret (.val xs[r.toNat]) := ixt (VM.atI_get (by omega) hr)
    walk_at "mx"
    rw [e]
    walk_at "mx"
    exact ⟨_, List.getElem_mem hr, rfl⟩
theorem o__law_any {xs : List PV} (h0 : 0 < xs.length) (h1 : xs.length < 1000000) : Okd (c__law_any [.hnd, .lst xs]) fun r => ∃ x ∈ xs, r = .val x := o_any' h0 h1 (.inl rfl)
open Classical in
/-- a thing and its like -/
noncomputable def c__law_same : FM := fun ps => if ∃ p, ps = [p, p] ∧ sameOk 9 p then ret (.val (.bl true)) else fail
theorem same_ok : FnOkM c__law_same (S__law_same 9) := fun ps Q h => by
  unfold c__law_same at h
  split at h
  · rename_i hp
    obtain ⟨p, e, hs⟩ := hp
    exact ⟨p, e, hs, h⟩
  · exact h.elim
theorem e__law_same {p q : PV} (e : p = q) (h : sameOk 9 p) : c__law_same [p, q] = ret (.val (.bl true)) := by
  subst e
  unfold c__law_same
  rw [if_pos ⟨p, rfl, h⟩]
/-- slots one other -/
theorem k__law_common : ∃ f : FM, f = runM (mSeq (mPar [0, 1] (bConsM (mCall bAbs (mCons (mV 0) mNil)) (bConsM (mCall bAbs (mCons (mV 1) mNil)) bNilM))) (mSeq (mWhile (mTst (mB pGt (mV 1) (mC (.int 0)))) (mPar [0, 1] (bConsM (mV 1) (bConsM (mB pMod (mCall bInt (mCons (mV 0) mNil)) (mV 1)) bNilM)))) (mRetN 0))) 2 := ⟨_, rfl⟩
noncomputable def c__law_common : FM := k__law_common.choose
theorem q__law_common : c__law_common = runM (mSeq (mPar [0, 1] (bConsM (mCall bAbs (mCons (mV 0) mNil)) (bConsM (mCall bAbs (mCons (mV 1) mNil)) bNilM))) (mSeq (mWhile (mTst (mB pGt (mV 1) (mC (.int 0)))) (mPar [0, 1] (bConsM (mV 1) (bConsM (mB pMod (mCall bInt (mCons (mV 0) mNil)) (mV 1)) bNilM)))) (mRetN 0))) 2 := k__law_common.choose_spec
theorem e__law_common {a b : Int} (ha : a.natAbs < 10 ^ 59) (hb : b.natAbs < 10 ^ 59) : c__law_common [.int a, .int b] = ret (.val (.int (Int.gcd a b))) := by
  rw [q__law_common]
  walk_at "mx"
  refine bnd_while (fun s : Int × Int => [Sl.val (.int s.1), Sl.val (.int s.2)]) (fun s => decide (0 < s.2)) (fun s => (s.2, s.1.fmod s.2)) (fun s => s.2.toNat) (fun s => 0 ≤ s.1 ∧ 0 ≤ s.2) (fun s u => u.1 = Int.gcd s.1 s.2)
    (if a < 0 then -a else a, if b < 0 then -b else b) rfl ⟨abs_nn a, abs_nn b⟩ (by dsimp only; split <;> omega)
    (fun s hi hc => by
      have : s.2 = 0 := by have := of_decide_eq_false hc; omega
      rw [this, Int.gcd_zero_right]; omega)
    (fun s u hi hc hu => by rw [hu]; exact congrArg _ gcd_step)
    (fun s hi => by
      walk_at "mx"
      refine ⟨trivial, fun hc => ?_⟩
      have hp : 0 < s.2 := of_decide_eq_true hc
      have h1 := Int.fmod_lt_of_pos s.1 hp
      have h2 := Int.fmod_nonneg_of_pos s.1 hp
      walk_at "mx"
      exact ⟨trivial, ⟨hi.2, h2⟩, by omega⟩)
    fun u hu => ?_
  walk_at "mx"
  rw [hu, gcd_abs]
/-- slots one other -/
theorem k__law_turn : ∃ f : FM, f = runM (mRet (mB pSub (mB pMul (mB pIx (mV 0) (mC (.int 0))) (mB pIx (mV 1) (mC (.int 1)))) (mB pMul (mB pIx (mV 0) (mC (.int 1))) (mB pIx (mV 1) (mC (.int 0)))))) 2 := ⟨_, rfl⟩
noncomputable def c__law_turn : FM := k__law_turn.choose
theorem q__law_turn : c__law_turn = runM (mRet (mB pSub (mB pMul (mB pIx (mV 0) (mC (.int 0))) (mB pIx (mV 1) (mC (.int 1)))) (mB pMul (mB pIx (mV 0) (mC (.int 1))) (mB pIx (mV 1) (mC (.int 0)))))) 2 := k__law_turn.choose_spec
theorem e__law_turn {p q : Pt} (h : lgP p ∨ lgP q) : c__law_turn [pt p, pt q] = ret (.val (.int (turn p q))) := by
  have := e_raw_turn h
  rw [q_raw_turn] at this
  rw [q__law_turn]; exact this
/-- numbers to most -/
def Bd (m : Int) (p : Pt) : Prop := -m ≤ p.1 ∧ p.1 ≤ m ∧ -m ≤ p.2 ∧ p.2 ≤ m
/-- slots hand most x y by -/
theorem k__law_ray : ∃ f : FM, f = runM (mSeq (mPar [2, 3] (bConsM (mB pSub (mCallN 2 c__law_draw (mCons (mV 0) (mCons (mB pAdd (mB pMul (mC (.int 2)) (mV 1)) (mC (.int 1))) mNil))) (mV 1)) (bConsM (mB pSub (mCallN 2 c__law_draw (mCons (mV 0) (mCons (mB pAdd (mB pMul (mC (.int 2)) (mV 1)) (mC (.int 1))) mNil))) (mV 1)) bNilM))) (mSeq (mSet 4 (mCallN 2 c__law_common (mCons (mV 2) (mCons (mV 3) mNil)))) (mRet (mIfE (mTst (mB pGt (mV 4) (mC (.int 0)))) (mTup (mCons (mB pFdiv (mV 2) (mV 4)) (mCons (mB pFdiv (mV 3) (mV 4)) mNil))) (mTup (mCons (mC (.int 1)) (mCons (mC (.int 0)) mNil))))))) 5 := ⟨_, rfl⟩
noncomputable def c__law_ray : FM := k__law_ray.choose
theorem q__law_ray : c__law_ray = runM (mSeq (mPar [2, 3] (bConsM (mB pSub (mCallN 2 c__law_draw (mCons (mV 0) (mCons (mB pAdd (mB pMul (mC (.int 2)) (mV 1)) (mC (.int 1))) mNil))) (mV 1)) (bConsM (mB pSub (mCallN 2 c__law_draw (mCons (mV 0) (mCons (mB pAdd (mB pMul (mC (.int 2)) (mV 1)) (mC (.int 1))) mNil))) (mV 1)) bNilM))) (mSeq (mSet 4 (mCallN 2 c__law_common (mCons (mV 2) (mCons (mV 3) mNil)))) (mRet (mIfE (mTst (mB pGt (mV 4) (mC (.int 0)))) (mTup (mCons (mB pFdiv (mV 2) (mV 4)) (mCons (mB pFdiv (mV 3) (mV 4)) mNil))) (mTup (mCons (mC (.int 1)) (mCons (mC (.int 0)) mNil))))))) 5 := k__law_ray.choose_spec
theorem o__law_ray {m : Int} (h1 : 1 ≤ m) (h2 : m ≤ 100000000) : Okd (c__law_ray [.hnd, .int m]) fun r => ∃ p : Pt, r = .val (pt p) ∧ Ray p ∧ Bd m p := by
  rw [q__law_ray]
  walk_at "mx"
  refine st_draw (by omega) (by omega) fun r r0 r1 => ?_
  walk_at "mx"
  refine st_draw (by omega) (by omega) fun s s0 s1 => ?_
  walk_at "mx"
  rw [e__law_common (by omega) (by omega)]
  walk_at "mx"
  by_cases h : 0 < Int.gcd (r - m) (s - m)
  · have hs : smP (r - m, s - m) := ⟨by show _ < r - m; omega, by show r - m < _; omega, by show _ < s - m; omega, by show s - m < _; omega⟩
    have g1 := gcd_lt hs
    dsimp only at g1
    have h' : (0 : Int) < (Int.gcd (r - m) (s - m) : Int) := by omega
    simp only [h']
    walk_at "mx"
    rw [fdiv_nn, fdiv_nn]
    have b1 := ediv_bd (g := Int.gcd (r - m) (s - m)) (show -m ≤ r - m by omega) (show r - m ≤ m by omega)
    have b2 := ediv_bd (g := Int.gcd (r - m) (s - m)) (show -m ≤ s - m by omega) (show s - m ≤ m by omega)
    exact ⟨(_, _), rfl, Int.gcd_ediv_gcd_ediv_gcd h, b1.1, b1.2, b2.1, b2.2⟩
  · have h' : ¬ (0 : Int) < (Int.gcd (r - m) (s - m) : Int) := by omega
    simp only [h']
    walk_at "mx"
    exact ⟨(1, 0), rfl, (by decide : Int.gcd 1 0 = 1), by show -m ≤ 1; omega, by show 1 ≤ m; omega, by show -m ≤ 0; omega, by show 0 ≤ m; omega⟩
theorem perm_erase {α : Type} : ∀ {l : List α} {n : Nat} (h : n < l.length), (l[n] :: l.eraseIdx n).Perm l
  | a :: l, 0, _ => .refl _
  | a :: l, n + 1, h => by
    rw [List.getElem_cons_succ, List.eraseIdx_cons_succ]
    exact (List.Perm.swap _ _ _).trans ((perm_erase (by simpa using h)).cons a)
theorem e_popRd {xs : List PV} {i : Nat} {k : Int} {ρ : Rho} (h0 : 0 ≤ k) (h1 : k < xs.length) (h2 : xs.length ≤ 1000000) : popRd (.own xs) i k ρ = ret (.val (xs[k.toNat]'(by omega)), ρ.set i (.own (xs.eraseIdx k.toNat))) := by
  unfold popRd
  dsimp only
  have e63 : (2 : Int) ^ 63 = 9223372036854775808 := by decide
  have hc : (decide (-(9223372036854775808 : Int) ≤ k) && decide (k < 9223372036854775808)) = true := by simp only [Bool.and_eq_true, decide_eq_true_eq]; exact ⟨by omega, by omega⟩
  rw [e63, mite_p hc]
  have e : seqIndex? k xs.length = some k.toNat := by
    unfold seqIndex?
    have n0 : ¬ k < 0 := by omega
    have hc : (decide (0 ≤ k) && decide (k < (xs.length : Int))) = true := by simp only [Bool.and_eq_true, decide_eq_true_eq]; exact ⟨h0, h1⟩
    simp only [n0, if_false, hc, if_true]
  have hr : k.toNat < xs.length := by omega
  have e2 : xs[k.toNat]? = some (xs[k.toNat]'hr) := List.getElem?_eq_getElem hr
  simp only [e, e2]
/-- slots hand things pool found -/
theorem k__law_mixed : ∃ f : FM, f = runM (mSeq (mPar [2, 3] (bConsM (mCall bList (mCons (mV 1) mNil)) (bConsM (mLst mNil) bNilM))) (mSeq (mWhile (mTst (mB pGt (mLenN 2) (mC (.int 0)))) (mAppend 3 (mPopAt 2 (mCallN 2 c__law_draw (mCons (mV 0) (mCons (mLenN 2) mNil)))))) (mRetN 3))) 4 := ⟨_, rfl⟩
noncomputable def c__law_mixed : FM := k__law_mixed.choose
theorem q__law_mixed : c__law_mixed = runM (mSeq (mPar [2, 3] (bConsM (mCall bList (mCons (mV 1) mNil)) (bConsM (mLst mNil) bNilM))) (mSeq (mWhile (mTst (mB pGt (mLenN 2) (mC (.int 0)))) (mAppend 3 (mPopAt 2 (mCallN 2 c__law_draw (mCons (mV 0) (mCons (mLenN 2) mNil)))))) (mRetN 3))) 4 := k__law_mixed.choose_spec
/-- the same things in some order -/
theorem o__law_mixed {xs : List PV} (hl : xs.length ≤ 100000) : Okd (c__law_mixed [.hnd, .lst xs]) fun r => ∃ ys, r = .own ys ∧ ys.Perm xs := by
  rw [q__law_mixed]
  walk_at "mx"
  refine st_while (fun n ρ => ∃ us ys, ρ = [.val .hnd, .val (.lst xs), .own us, .own ys] ∧ (ys ++ us).Perm xs ∧ us.length = n) xs.length (by omega) ⟨xs, [], rfl, .refl _, rfl⟩ ?_
  rintro n ρ ⟨us, ys, rfl, hp, rfl⟩
  have hz := hp.length_eq
  rw [List.length_append] at hz
  walk_at "mx"
  by_cases h : (0 : Int) < us.length
  · simp only [h, decide_true]
    walk_at "mx"
    refine st_draw (by omega) (by omega) fun r r0 r1 => ?_
    walk_at "mx"
    rw [e_popRd r0 r1 (by omega)]
    walk_at "mx"
    have hr : r.toNat < us.length := by omega
    refine ⟨us.length - 1, by omega, _, _, rfl, ?_, by rw [List.length_eraseIdx, if_pos hr]⟩
    refine List.Perm.trans ?_ hp
    rw [List.append_assoc]
    refine List.Perm.append_left _ ?_
    exact perm_erase hr
  · simp only [h, decide_false]
    walk_at "mx"
    have hu : us = [] := List.eq_nil_of_length_eq_zero (by omega)
    subst hu
    rw [List.append_nil] at hp
    exact ⟨ys, rfl, hp⟩
end VL
end
section
set_option Elab.async false
set_option linter.all false
set_option maxRecDepth 100000
open PySem PySem.Spec PyProof.Rows L2 VE VM
namespace NP
/-! ### the lower chain over dots in order -/
def crs (a b d : Pt) : Int := (b.1 - a.1) * (d.2 - a.2) - (b.2 - a.2) * (d.1 - a.1)
/-- a comes ahead of b: by x, then by y -/
def lx (a b : Pt) : Prop := a.1 < b.1 ∨ (a.1 = b.1 ∧ a.2 < b.2)
theorem lx_trans {a b c : Pt} (h1 : lx a b) (h2 : lx b c) : lx a c := by unfold lx at *; omega
theorem lx_irr {a : Pt} : ¬ lx a a := by unfold lx; omega
theorem lx_tot {a b : Pt} (h : a ≠ b) : lx a b ∨ lx b a := by
  obtain ⟨a1, a2⟩ := a
  obtain ⟨b1, b2⟩ := b
  unfold lx
  dsimp only
  by_cases h1 : a1 = b1
  · have : a2 ≠ b2 := fun e => h (by rw [h1, e])
    omega
  · omega
theorem crs_rot (a b d : Pt) : crs b d a = crs a b d := by unfold crs; grind
theorem crs_swap (a b d : Pt) : crs a d b = -crs a b d := by unfold crs; grind
theorem crs_self (a b : Pt) : crs a b b = 0 := by unfold crs; grind
theorem crs_self' (a b : Pt) : crs a b a = 0 := by unfold crs; grind
/-- the stack, its top first -/
def popW : List Pt → Pt → List Pt
  | b :: a :: r, d => if crs a b d ≤ 0 then popW (a :: r) d else b :: a :: r
  | st, _ => st
def stepS (st : List Pt) (d : Pt) : List Pt := d :: popW st d
def chainS (ds : List Pt) : List Pt := ds.foldl stepS []
def chain (ds : List Pt) : List Pt := (chainS ds).reverse
theorem popW_nil (d : Pt) : popW [] d = [] := rfl
theorem popW_one (a d : Pt) : popW [a] d = [a] := rfl
theorem popW_two (a b d : Pt) (r : List Pt) : popW (b :: a :: r) d = if crs a b d ≤ 0 then popW (a :: r) d else b :: a :: r := rfl
/-- each three in a row turn left -/
def Cvx : List Pt → Prop
  | c :: b :: a :: r => 0 < crs a b c ∧ Cvx (b :: a :: r)
  | _ => True
theorem Cvx.tail {a : Pt} {l : List Pt} (h : Cvx (a :: l)) : Cvx l := by
  match l, h with
  | [], _ => trivial
  | [_], _ => trivial
  | _ :: _ :: _, h => exact h.2
theorem popW_sub {d x : Pt} : ∀ {st : List Pt}, x ∈ popW st d → x ∈ st
  | [], h => h
  | [_], h => h
  | b :: a :: r, h => by
    rw [popW_two] at h
    split at h
    · exact List.mem_cons_of_mem _ (popW_sub h)
    · exact h
theorem popW_cvx {d : Pt} : ∀ {st : List Pt}, Cvx st → Cvx (d :: popW st d)
  | [], _ => trivial
  | [_], _ => trivial
  | b :: a :: r, h => by
    rw [popW_two]
    split
    · exact popW_cvx h.tail
    · rename_i hc
      exact ⟨by omega, h⟩
theorem popW_suf {d : Pt} : ∀ {st : List Pt}, ∃ t, st = t ++ popW st d
  | [] => ⟨[], rfl⟩
  | [_] => ⟨[], rfl⟩
  | b :: a :: r => by
    rw [popW_two]
    split
    · obtain ⟨t, e⟩ := popW_suf (d := d) (st := a :: r)
      exact ⟨b :: t, by rw [List.cons_append, ← e]⟩
    · exact ⟨[], rfl⟩
theorem popW_last {d : Pt} : ∀ {st : List Pt}, st ≠ [] → popW st d ≠ []
  | [], h => absurd rfl h
  | [_], _ => by rw [popW_one]; simp
  | b :: a :: r, _ => by
    rw [popW_two]
    split
    · exact popW_last (by simp)
    · simp
/-! vectors to the right -/
def cr (u v : Pt) : Int := u.1 * v.2 - u.2 * v.1
def Rt (u : Pt) : Prop := 0 < u.1 ∨ (u.1 = 0 ∧ 0 < u.2)
def sub (b a : Pt) : Pt := (b.1 - a.1, b.2 - a.2)
theorem crs_cr (a b d : Pt) : crs a b d = cr (sub b a) (sub d a) := rfl
theorem rt_of {a b : Pt} (h : lx a b) : Rt (sub b a) := by unfold lx at h; unfold Rt sub; dsimp only; omega
theorem mul_nn {a b : Int} (h1 : 0 ≤ a) (h2 : 0 ≤ b) : 0 ≤ a * b := Int.mul_nonneg h1 h2
theorem nn_of_mul {a b : Int} (h : 0 ≤ a * b) (hb : 0 < b) : 0 ≤ a := by
  rcases Int.lt_or_le a 0 with h1 | h1
  · have := Int.mul_pos (show 0 < -a by omega) hb
    rw [Int.neg_mul] at this; omega
  · exact h1
/-- angles to the right add up -/
theorem cr_le {u v w : Pt} (hu : Rt u) (hv : Rt v) (hw : Rt w) (h1 : 0 ≤ cr u v) (h2 : 0 ≤ cr v w) : 0 ≤ cr u w := by
  have e : cr u w * v.1 = cr u v * w.1 + cr v w * u.1 := by unfold cr; grind
  have hu1 : 0 ≤ u.1 := by unfold Rt at hu; omega
  have hw1 : 0 ≤ w.1 := by unfold Rt at hw; omega
  rcases hv with hv | ⟨hv, hv2⟩
  · refine nn_of_mul (b := v.1) ?_ hv
    have := mul_nn h1 hw1
    have := mul_nn h2 hu1
    omega
  · -- v points up: w is up too
    unfold cr at h1 h2 ⊢
    rw [hv] at h1 h2
    have hw0 : w.1 = 0 := by
      rcases Int.lt_or_le 0 w.1 with z | z
      · have := Int.mul_pos hv2 z; omega
      · omega
    have hw2 : 0 < w.2 := by unfold Rt at hw; omega
    rw [hw0]
    have := mul_nn hu1 (Int.le_of_lt hw2)
    omega
theorem cr_lt {u v w : Pt} (hu : Rt u) (hv : Rt v) (hw : Rt w) (h1 : 0 < cr u v) (h2 : 0 < cr v w) : 0 < cr u w := by
  have e : cr u w * v.1 = cr u v * w.1 + cr v w * u.1 := by unfold cr; grind
  have hu1 : 0 ≤ u.1 := by unfold Rt at hu; omega
  have hw1 : 0 ≤ w.1 := by unfold Rt at hw; omega
  rcases hv with hv | ⟨hv, hv2⟩
  · refine NR.pos_of_mul (b := v.1) ?_ hv
    have hu2 : 0 < u.1 := by
      rcases Int.lt_or_le 0 u.1 with z | z
      · exact z
      · have z0 : u.1 = 0 := by omega
        have hup : 0 < u.2 := by unfold Rt at hu; omega
        unfold cr at h1
        rw [z0] at h1
        have := Int.mul_pos hup hv; omega
    have := mul_nn (Int.le_of_lt h1) hw1
    have := Int.mul_pos h2 hu2
    omega
  · unfold cr at h2
    rw [hv] at h2
    have := mul_nn (Int.le_of_lt hv2) hw1
    omega
/-- what lies left of two sides of a chain that turns left -/
theorem crs_on {a b c d : Pt} (h1 : lx a b) (h2 : lx b c) (h3 : lx c d) (t1 : 0 < crs a b c) (t2 : 0 < crs b c d) : 0 < crs a b d := by
  have e1 : crs a b c = cr (sub b a) (sub c b) := by unfold crs cr sub; grind
  have e2 : crs b c d = cr (sub c b) (sub d c) := by unfold crs cr sub; grind
  have e3 : crs a b d = cr (sub b a) (sub c b) + cr (sub b a) (sub d c) := by unfold crs cr sub; grind
  rw [e1] at t1; rw [e2] at t2; rw [e3]
  have := cr_lt (rt_of h1) (rt_of h2) (rt_of h3) t1 t2
  omega
/-- on or left of each side of the stack -/
def Abv : List Pt → Pt → Prop
  | b :: a :: r, p => 0 ≤ crs a b p ∧ Abv (a :: r) p
  | _, _ => True
/-- the stack falls -/
def Dsc (st : List Pt) : Prop := st.Pairwise fun b a => lx a b
theorem Abv.tail {b p : Pt} {l : List Pt} (h : Abv (b :: l) p) : Abv l p := by
  match l, h with
  | [], _ => trivial
  | _ :: _, h => exact h.2
theorem popW_abv {d p : Pt} : ∀ {st : List Pt}, Abv st p → Abv (popW st d) p
  | [], _ => trivial
  | [_], _ => trivial
  | b :: a :: r, h => by
    rw [popW_two]
    split
    · exact popW_abv h.tail
    · exact h
/-- the new side has all dots ahead on its left -/
theorem new_side {d p : Pt} (hpd : lx p d) : ∀ {st : List Pt} {b : Pt}, Dsc (b :: st) → (∀ x ∈ b :: st, lx x d) → Abv (b :: st) p → (∀ x ∈ (b :: st).getLast?, x = p ∨ lx x p) → ((p = b ∨ lx p b) ∨ 0 ≤ crs b d p) →
    ∀ b' r', popW (b :: st) d = b' :: r' → 0 ≤ crs b' d p
  | [], b, hd, hx, ha, hl, hb, b', r', e => by
    rw [popW_one] at e
    cases e
    rcases hb with (rfl | hb) | hb
    · rw [crs_self']; exact Int.le_refl _
    · rcases hl b (by simp) with rfl | h
      · exact absurd hb lx_irr
      · exact absurd (lx_trans h hb) lx_irr
    · exact hb
  | a :: r, b, hd, hx, ha, hl, hb, b', r', e => by
    have hab : lx a b := (List.pairwise_cons.mp hd).1 a List.mem_cons_self
    have hbd : lx b d := hx b List.mem_cons_self
    have had : lx a d := hx a (List.mem_cons_of_mem _ List.mem_cons_self)
    rw [popW_two] at e
    split at e
    · rename_i hc
      refine new_side hpd (List.pairwise_cons.mp hd).2 (fun x hx' => hx x (List.mem_cons_of_mem _ hx')) ha.tail (fun x hx' => hl x (by rw [List.getLast?_cons_cons]; exact hx')) ?_ b' r' e
      by_cases hpa : p = a
      · exact .inl (.inl hpa)
      · rcases lx_tot hpa with h | h
        · exact .inl (.inr h)
        · refine .inr ?_
          have e1 : cr (sub d a) (sub b a) = -crs a b d := by unfold cr sub crs; grind
          exact cr_le (u := sub d a) (v := sub b a) (w := sub p a) (rt_of had) (rt_of hab) (rt_of h) (by rw [e1]; omega) ha.1
    · rename_i hc
      cases e
      rcases hb with (rfl | hb) | hb
      · rw [crs_self']; exact Int.le_refl _
      · have e1 : cr (sub b p) (sub b a) = crs a b p := by unfold cr sub crs; grind
        have e2 : cr (sub b a) (sub d b) = crs a b d := by unfold cr sub crs; grind
        have e3 : cr (sub b p) (sub d b) = crs b d p := by unfold cr sub crs; grind
        rw [← e3]
        exact cr_le (rt_of hb) (rt_of hab) (rt_of hbd) (by rw [e1]; exact ha.1) (by rw [e2]; omega)
      · exact hb
theorem popW_dsc {d : Pt} {st : List Pt} (h : Dsc st) : Dsc (popW st d) := by
  obtain ⟨t, e⟩ := popW_suf (d := d) (st := st)
  unfold Dsc at *
  rw [e] at h
  exact (List.pairwise_append.mp h).2.1
theorem popW_bot {d : Pt} {st : List Pt} (h : st ≠ []) : (popW st d).getLast? = st.getLast? := by
  obtain ⟨t, e⟩ := popW_suf (d := d) (st := st)
  have := popW_last (d := d) h
  conv => rhs; rw [e]
  rw [List.getLast?_append]
  cases hh : (popW st d).getLast? with
  | none => exact absurd (List.getLast?_eq_none_iff.mp hh) this
  | some x => rfl
theorem cvx_abv {d : Pt} : ∀ {l : List Pt}, Cvx (d :: l) → Dsc (d :: l) → Abv l d
  | [], _, _ => trivial
  | [_], _, _ => trivial
  | b :: a :: r, h, hd => by
    obtain ⟨hbd, hb⟩ := List.pairwise_cons.mp hd
    obtain ⟨hab, ha⟩ := List.pairwise_cons.mp hb
    refine ⟨Int.le_of_lt h.1, cvx_abv ?_ (List.pairwise_cons.mpr ⟨fun x hx => hbd x (List.mem_cons_of_mem _ hx), ha⟩)⟩
    match r, h, ha, hab, hbd with
    | [], _, _, _, _ => trivial
    | a' :: r, h, ha, hab, hbd =>
      have k := h.2
      exact ⟨crs_on ((List.pairwise_cons.mp ha).1 a' List.mem_cons_self) (hab a List.mem_cons_self) (hbd b List.mem_cons_self) k.1 h.1, k.2⟩
/-- what the stack is, of the dots P -/
structure Low (P st : List Pt) : Prop where
  dsc : Dsc st
  cvx : Cvx st
  sub : ∀ x ∈ st, x ∈ P
  abv : ∀ p ∈ P, Abv st p
  top : ∀ x ∈ st.head?, ∀ p ∈ P, p = x ∨ lx p x
  bot : ∀ x ∈ st.getLast?, ∀ p ∈ P, x = p ∨ lx x p
  ne : P ≠ [] → st ≠ []
theorem Low.nil : Low [] [] := ⟨.nil, trivial, fun x h => h, fun p h => absurd h (by simp), fun x h => absurd h (by simp), fun x h => absurd h (by simp), fun h => absurd rfl h⟩
theorem Low.step {P st : List Pt} {d : Pt} (L : Low P st) (hd : ∀ p ∈ P, lx p d) : Low (P ++ [d]) (stepS st d) := by
  unfold stepS
  cases hst : st with
  | nil =>
    have hP : P = [] := by
      cases P with
      | nil => rfl
      | cons p P => exact absurd hst (L.ne (by simp))
    subst hP
    rw [popW_nil]
    exact ⟨by unfold Dsc; simp, trivial, fun x h => by simpa using h, fun p h => trivial, fun x h p hp => by simp at h hp; exact .inl (by rw [hp, h]), fun x h p hp => by simp at h hp; exact .inl (by rw [hp, h]), fun _ => by simp⟩
  | cons b r =>
    rw [← hst]
    have hne : st ≠ [] := by rw [hst]; simp
    have hx : ∀ x ∈ st, lx x d := fun x h => hd x (L.sub x h)
    have hb : ∀ p ∈ P, p = b ∨ lx p b := L.top b (by rw [hst]; rfl)
    obtain ⟨b', r', e⟩ : ∃ b' r', popW st d = b' :: r' := by
      cases z : popW st d with
      | nil => exact absurd z (popW_last hne)
      | cons b' r' => exact ⟨b', r', rfl⟩
    have hsub : ∀ x ∈ b' :: r', x ∈ st := fun x h => popW_sub (d := d) (by rw [e]; exact h)
    have hdsc : Dsc (b' :: r') := by rw [← e]; exact popW_dsc L.dsc
    have side : ∀ p ∈ P, 0 ≤ crs b' d p := fun p hp => by
      have h1 := L.dsc; have h2 := L.abv p hp; have h3 : ∀ x ∈ st.getLast?, x = p ∨ lx x p := fun x h => L.bot x h p hp
      rw [hst] at h1 h2 h3 e hx
      exact new_side (hd p hp) h1 hx h2 h3 (.inl (hb p hp)) b' r' e
    refine ⟨?_, popW_cvx L.cvx, fun x h => ?_, fun p hp => ?_, fun x h p hp => ?_, fun x h p hp => ?_, fun _ => by simp⟩
    · rw [e]
      exact List.pairwise_cons.mpr ⟨fun a ha => hx a (hsub a ha), hdsc⟩
    · rcases List.mem_cons.mp h with rfl | h
      · exact List.mem_append_right _ (by simp)
      · exact List.mem_append_left _ (L.sub x (popW_sub h))
    · rw [e]
      have hab : Abv (b' :: r') p := by
        rcases List.mem_append.mp hp with hp | hp
        · rw [← e]; exact popW_abv (L.abv p hp)
        · have hp : p = d := by simpa using hp
          subst hp
          exact cvx_abv (by rw [← e]; exact popW_cvx L.cvx) (List.pairwise_cons.mpr ⟨fun a ha => hx a (hsub a ha), hdsc⟩)
      refine ⟨?_, hab⟩
      rcases List.mem_append.mp hp with hp | hp
      · exact side p hp
      · have hp : p = d := by simpa using hp
        subst hp
        rw [crs_self]; exact Int.le_refl _
    · have h : d = x := by simpa using h
      subst h
      rcases List.mem_append.mp hp with hp | hp
      · exact .inr (hd p hp)
      · exact .inl (by simpa using hp)
    · rw [e, List.getLast?_cons_cons, ← e, popW_bot hne] at h
      rcases List.mem_append.mp hp with hp | hp
      · exact L.bot x h p hp
      · have hp : p = d := by simpa using hp
        subst hp
        exact .inr (hx x (List.mem_of_getLast? h))
/-- the chain of dots in order -/
theorem low_chain {ds : List Pt} (h : ds.Pairwise lx) : Low ds (chainS ds) := by
  suffices H : ∀ (ds P st : List Pt), Low P st → (P ++ ds).Pairwise lx → Low (P ++ ds) (ds.foldl stepS st) from H ds [] [] Low.nil h
  intro ds
  induction ds with
  | nil => intro P st L _; rw [List.append_nil]; exact L
  | cons d ds ih =>
    intro P st L hp
    have hd : ∀ p ∈ P, lx p d := fun p h => (List.pairwise_append.mp hp).2.2 p h d List.mem_cons_self
    have := ih (P ++ [d]) (stepS st d) (L.step hd) (by rw [List.append_assoc]; exact hp)
    rw [List.append_assoc] at this
    exact this
/-! ### a chain is told by what it bounds -/
theorem cr_col {u v w : Pt} (hv : Rt v) (hw : Rt w) (h0 : cr v w = 0) (h : 0 < cr u w) : 0 < cr u v := by
  have e : cr u w * v.1 = cr u v * w.1 + cr v w * u.1 := by unfold cr; grind
  rw [h0, Int.zero_mul, Int.add_zero] at e
  have hw1 : 0 ≤ w.1 := by unfold Rt at hw; omega
  rcases hv with hv | ⟨hv, hv2⟩
  · have k := Int.mul_pos h hv
    rcases Int.lt_or_le 0 (cr u v) with z | z
    · exact z
    · have := mul_nn (show 0 ≤ -cr u v by omega) hw1
      rw [Int.neg_mul] at this; omega
  · unfold cr at h0 h ⊢
    rw [hv] at h0 ⊢
    have w0 : w.1 = 0 := by
      rcases Int.lt_or_le 0 w.1 with z | z
      · have := Int.mul_pos hv2 z; omega
      · omega
    have w2 : 0 < w.2 := by unfold Rt at hw; omega
    rw [w0] at h
    have u1 : 0 < u.1 := NR.pos_of_mul (b := w.2) (by omega) w2
    have := Int.mul_pos u1 hv2
    omega
theorem last_lx {h : Pt} {l : List Pt} (hd : Dsc (h :: l)) {x : Pt} (hx : x ∈ (h :: l).getLast?) : x = h ∨ lx x h := by
  rcases List.mem_cons.mp (List.mem_of_getLast? hx) with e | e
  · exact .inl e
  · exact .inr ((List.pairwise_cons.mp hd).1 x e)
theorem next_not {h b b' : Pt} {r r' : List Pt} (hd2 : Dsc (h :: b' :: r')) (hc2 : Cvx (h :: b' :: r')) (ha2 : Abv (h :: b' :: r') b) (hz : crs b h b' = 0) (hbb : lx b b') (hlast : ∀ x ∈ (h :: b' :: r').getLast?, x = b ∨ lx x b) : False := by
  cases r' with
  | nil =>
    rcases hlast b' (by simp) with rfl | h'
    · exact lx_irr hbb
    · exact lx_irr (lx_trans h' hbb)
  | cons a' r' =>
    have h1 : lx b' h := (List.pairwise_cons.mp hd2).1 b' List.mem_cons_self
    have t1 : 0 < crs a' b' h := hc2.1
    have t2 : 0 ≤ crs a' b' b := ha2.2.1
    have e1 : cr (sub b' a') (sub h b') = crs a' b' h := by unfold cr sub crs; grind
    have e2 : cr (sub b' a') (sub b' b) = -crs a' b' b := by unfold cr sub crs; grind
    have e3 : cr (sub b' b) (sub h b') = -crs b h b' := by unfold cr sub crs; grind
    have := cr_col (u := sub b' a') (v := sub b' b) (w := sub h b') (rt_of hbb) (rt_of h1) (by rw [e3, hz]; rfl) (by rw [e1]; exact t1)
    omega
theorem chain_unique : ∀ {l m : List Pt} {h : Pt}, Dsc (h :: l) → Dsc (h :: m) → Cvx (h :: l) → Cvx (h :: m) → (∀ x ∈ h :: m, Abv (h :: l) x) → (∀ x ∈ h :: l, Abv (h :: m) x) → (h :: l).getLast? = (h :: m).getLast? → l = m
  | [], [], _, _, _, _, _, _, _, _ => rfl
  | [], b' :: r', h, _, d2, _, _, _, _, e => by
    have hm : h ∈ (h :: b' :: r').getLast? := by rw [← e]; simp
    rw [List.getLast?_cons_cons] at hm
    exact absurd ((List.pairwise_cons.mp d2).1 h (List.mem_of_getLast? hm)) lx_irr
  | b :: r, [], h, d1, _, _, _, _, _, e => by
    have hm : h ∈ (h :: b :: r).getLast? := by rw [e]; simp
    rw [List.getLast?_cons_cons] at hm
    exact absurd ((List.pairwise_cons.mp d1).1 h (List.mem_of_getLast? hm)) lx_irr
  | b :: r, b' :: r', h, d1, d2, c1, c2, a1, a2, e => by
    have z1 : 0 ≤ crs b h b' := (a1 b' (by simp)).1
    have z2 : 0 ≤ crs b' h b := (a2 b (by simp)).1
    have ez : crs b' h b = -crs b h b' := by unfold crs; grind
    have hz : crs b h b' = 0 := by omega
    have hz' : crs b' h b = 0 := by omega
    have d1' := (List.pairwise_cons.mp d1).2
    have d2' := (List.pairwise_cons.mp d2).2
    have e' : (b :: r).getLast? = (b' :: r').getLast? := by rw [List.getLast?_cons_cons, List.getLast?_cons_cons] at e; exact e
    have hbb : b = b' := by
      by_cases hb : b = b'
      · exact hb
      · exfalso
        rcases lx_tot hb with h1 | h1
        · exact next_not (r := r) d2 c2 (a2 b (by simp)) hz h1 fun x hx => last_lx d1' (by rw [e', ← List.getLast?_cons_cons (a := h)]; exact hx)
        · exact next_not (r := r') d1 c1 (a1 b' (by simp)) hz' h1 fun x hx => last_lx d2' (by rw [← e', ← List.getLast?_cons_cons (a := h)]; exact hx)
    subst hbb
    rw [chain_unique d1' d2' c1.tail c2.tail (fun x hx => (a1 x (List.mem_cons_of_mem _ hx)).tail) (fun x hx => (a2 x (List.mem_cons_of_mem _ hx)).tail) e']
theorem lx_anti {a b : Pt} (h1 : a = b ∨ lx a b) (h2 : b = a ∨ lx b a) : a = b := by
  rcases h1 with h1 | h1
  · exact h1
  · rcases h2 with h2 | h2
    · exact h2.symm
    · exact absurd (lx_trans h1 h2) lx_irr
/-- of dots, and of some of them that hold the chain, one chain -/
theorem chain_of_sub {ds es : List Pt} (hd : ds.Pairwise lx) (he : es.Pairwise lx) (h1 : ∀ x ∈ es, x ∈ ds) (h2 : ∀ x ∈ chainS ds, x ∈ es) : chainS es = chainS ds := by
  have L1 := low_chain hd
  have L2 := low_chain he
  cases e1 : chainS ds with
  | nil =>
    have hds : ds = [] := by
      cases ds with
      | nil => rfl
      | cons p P => exact absurd e1 (L1.ne (by simp))
    have hes : es = [] := by
      cases es with
      | nil => rfl
      | cons p P => exact absurd (h1 p List.mem_cons_self) (by rw [hds]; simp)
    rw [hes]; rfl
  | cons h l =>
    have hh : h ∈ es := h2 h (by rw [e1]; exact List.mem_cons_self)
    cases e2 : chainS es with
    | nil => exact absurd e2 (L2.ne (fun z => by rw [z] at hh; exact absurd hh (by simp)))
    | cons h' m =>
      rw [e1] at L1 h2
      rw [e2] at L2
      have hh' : h' ∈ ds := h1 h' (L2.sub h' List.mem_cons_self)
      have eh : h = h' := lx_anti (L2.top h' rfl h hh) (L1.top h rfl h' hh')
      subst eh
      congr 1
      refine (chain_unique L1.dsc L2.dsc L1.cvx L2.cvx (fun x hx => L1.abv x (h1 x (L2.sub x hx))) (fun x hx => L2.abv x (h2 x hx)) ?_).symm
      cases b1 : (h :: l).getLast? with
      | none => exact absurd b1 (by simp)
      | some u =>
        cases b2 : (h :: m).getLast? with
        | none => exact absurd b2 (by simp)
        | some v =>
          have hu : u ∈ es := h2 u (List.mem_of_getLast? b1)
          have hv : v ∈ ds := h1 v (L2.sub v (List.mem_of_getLast? b2))
          rw [lx_anti (L1.bot u b1 v hv) (L2.bot v b2 u hu)]
/-! ### the other way about: dots from the greatest on -/
def ng (p : Pt) : Pt := (-p.1, -p.2)
theorem ng_ng (p : Pt) : ng (ng p) = p := by unfold ng; simp
theorem crs_ng (a b d : Pt) : crs (ng a) (ng b) (ng d) = crs a b d := by unfold crs ng; grind
theorem lx_ng {a b : Pt} : lx (ng a) (ng b) ↔ lx b a := by unfold lx ng; dsimp only; omega
theorem popW_ng (d : Pt) : ∀ st : List Pt, popW (st.map ng) (ng d) = (popW st d).map ng
  | [] => rfl
  | [_] => rfl
  | b :: a :: r => by
    rw [List.map_cons, List.map_cons, popW_two, popW_two, crs_ng]
    split
    · exact popW_ng d (a :: r)
    · rfl
theorem chain_ng (ds : List Pt) : chainS (ds.map ng) = (chainS ds).map ng := by
  suffices H : ∀ (ds st : List Pt), (ds.map ng).foldl stepS (st.map ng) = (ds.foldl stepS st).map ng from H ds []
  intro ds
  induction ds with
  | nil => intro st; rfl
  | cons d ds ih =>
    intro st
    rw [List.map_cons, List.foldl_cons, List.foldl_cons]
    have : stepS (st.map ng) (ng d) = (stepS st d).map ng := by unfold stepS; rw [popW_ng, List.map_cons]
    rw [this]
    exact ih _
/-! ### the hull of dots in order -/
/-- least and greatest stand in the chain -/
theorem chain_ends {ds : List Pt} (hd : ds.Pairwise lx) {a b : Pt} (ha : a ∈ ds) (hb : b ∈ ds) (hab : a ≠ b) : ∃ h l u, chainS ds = h :: l ∧ u ∈ l ∧ (∀ p ∈ ds, p = h ∨ lx p h) ∧ (∀ p ∈ ds, u = p ∨ lx u p) := by
  have L := low_chain hd
  cases e : chainS ds with
  | nil => exact absurd e (L.ne (fun z => by rw [z] at ha; exact absurd ha (by simp)))
  | cons h l =>
    rw [e] at L
    have ht := L.top h rfl
    cases l with
    | nil =>
      have hb2 := L.bot h (by simp)
      exact absurd ((lx_anti (hb2 a ha) (ht a ha)).symm.trans (lx_anti (hb2 b hb) (ht b hb))) hab
    | cons b' r =>
      cases eu : (h :: b' :: r).getLast? with
      | none => exact absurd eu (by simp)
      | some u =>
        refine ⟨h, b' :: r, u, rfl, ?_, ht, L.bot u eu⟩
        rw [List.getLast?_cons_cons] at eu
        exact List.mem_of_getLast? eu
def hullS (ds : List Pt) : List Pt := (chainS ds).reverse.dropLast ++ (chainS ds.reverse).reverse.dropLast
theorem desc_asc {ds : List Pt} (h : ds.Pairwise lx) : (ds.reverse.map ng).Pairwise lx := by
  rw [List.pairwise_map, List.pairwise_reverse]
  exact h.imp fun h => lx_ng.mpr h
theorem chain_desc (ds : List Pt) : chainS ds.reverse = (chainS (ds.reverse.map ng)).map ng := by
  rw [chain_ng, List.map_map]
  have : (ng ∘ ng) = id := funext fun p => ng_ng p
  rw [this, List.map_id]
theorem rev_drop {α : Type} {h : α} {l : List α} : (h :: l).reverse.dropLast = l.reverse := by
  rw [List.reverse_cons, List.dropLast_concat]
theorem hull_mem {ds : List Pt} (hd : ds.Pairwise lx) {a b : Pt} (ha : a ∈ ds) (hb : b ∈ ds) (hab : a ≠ b) {x : Pt} : x ∈ hullS ds ↔ x ∈ chainS ds ∨ x ∈ chainS ds.reverse := by
  obtain ⟨h, l, u, e1, hu, ht, hbt⟩ := chain_ends hd ha hb hab
  obtain ⟨h2, l2, u2, e2, hu2, ht2, hbt2⟩ := chain_ends (desc_asc hd) (a := ng a) (b := ng b) (by simp only [List.mem_map, List.mem_reverse]; exact ⟨a, ha, rfl⟩) (by simp only [List.mem_map, List.mem_reverse]; exact ⟨b, hb, rfl⟩) (fun z => hab (by rw [← ng_ng a, z, ng_ng]))
  have L := low_chain hd
  have L2 := low_chain (desc_asc hd)
  have hin : h ∈ ds := L.sub h (by rw [e1]; exact List.mem_cons_self)
  have uin : u ∈ ds := L.sub u (by rw [e1]; exact List.mem_cons_of_mem _ hu)
  have back : ∀ {y : Pt}, y ∈ chainS (ds.reverse.map ng) → ng y ∈ ds := fun {y} hy => by
    have := L2.sub y hy
    simp only [List.mem_map, List.mem_reverse] at this
    obtain ⟨z, hz, rfl⟩ := this
    rw [ng_ng]; exact hz
  have fwd : ∀ {y : Pt}, y ∈ ds → ng y ∈ ds.reverse.map ng := fun {y} hy => by
    simp only [List.mem_map, List.mem_reverse]; exact ⟨y, hy, rfl⟩
  -- the greatest is the other chain's bottom, the least its top
  have g1 : ng u2 = h := by
    have k1 := hbt2 (ng h) (fwd hin)
    have k2 := ht (ng u2) (back (by rw [e2]; exact List.mem_cons_of_mem _ hu2))
    refine lx_anti k2 (k1.imp (fun z => by rw [z, ng_ng]) fun z => ?_)
    have := lx_ng.mpr z
    rw [ng_ng] at this; exact this
  have g2 : ng h2 = u := by
    have k1 := ht2 (ng u) (fwd uin)
    have k2 := hbt (ng h2) (back (by rw [e2]; exact List.mem_cons_self))
    refine (lx_anti k2 (k1.imp (fun z => by rw [← z, ng_ng]) fun z => ?_)).symm
    have := lx_ng.mpr z
    rw [ng_ng] at this; exact this
  unfold hullS
  rw [chain_desc, e1, e2, List.map_cons, rev_drop, rev_drop, List.mem_append, List.mem_reverse, List.mem_reverse, List.mem_cons, List.mem_cons]
  have m1 : h ∈ l2.map ng := List.mem_map.mpr ⟨u2, hu2, g1⟩
  constructor
  · rintro (z | z)
    · exact .inl (.inr z)
    · exact .inr (.inr z)
  · rintro ((rfl | z) | (rfl | z))
    · exact .inr m1
    · exact .inl z
    · exact .inl (by rw [g2]; exact hu)
    · exact .inr z
theorem chain_sub {ds : List Pt} (hd : ds.Pairwise lx) : ∀ x ∈ chainS ds, x ∈ ds := (low_chain hd).sub
theorem chainR_sub {ds : List Pt} (hd : ds.Pairwise lx) : ∀ x ∈ chainS ds.reverse, x ∈ ds := fun x hx => by
  rw [chain_desc, List.mem_map] at hx
  obtain ⟨y, hy, rfl⟩ := hx
  have := (low_chain (desc_asc hd)).sub y hy
  simp only [List.mem_map, List.mem_reverse] at this
  obtain ⟨z, hz, rfl⟩ := this
  rw [ng_ng]; exact hz
/-- the hull of the hull's own corners is the hull -/
theorem hull_hull {ds V : List Pt} (hd : ds.Pairwise lx) {a b : Pt} (ha : a ∈ ds) (hb : b ∈ ds) (hab : a ≠ b) (hV : V.Pairwise lx) (hm : ∀ x, x ∈ V ↔ x ∈ hullS ds) : hullS V = hullS ds := by
  have mem : ∀ x, x ∈ V ↔ x ∈ chainS ds ∨ x ∈ chainS ds.reverse := fun x => (hm x).trans (hull_mem hd ha hb hab)
  have sub : ∀ x ∈ V, x ∈ ds := fun x hx => ((mem x).mp hx).elim (chain_sub hd x) (chainR_sub hd x)
  have e1 : chainS V = chainS ds := chain_of_sub hd hV sub fun x hx => (mem x).mpr (.inl hx)
  have e2 : chainS (V.reverse.map ng) = chainS (ds.reverse.map ng) := by
    refine chain_of_sub (desc_asc hd) (desc_asc hV) (fun x hx => ?_) fun x hx => ?_
    · simp only [List.mem_map, List.mem_reverse] at hx ⊢
      obtain ⟨y, hy, rfl⟩ := hx
      exact ⟨y, sub y hy, rfl⟩
    · have : ng x ∈ V := (mem _).mpr (.inr (by rw [chain_desc]; exact List.mem_map.mpr ⟨x, hx, rfl⟩))
      simp only [List.mem_map, List.mem_reverse]
      exact ⟨ng x, this, ng_ng x⟩
  unfold hullS
  rw [e1, chain_desc V, chain_desc ds, e2]
end NP
end
section
set_option Elab.async false
set_option linter.all false
set_option maxRecDepth 100000
set_option maxHeartbeats 4000000
open PySem PySem.Spec PyProof.Rows L2 VE VM VX
open VX.M (ret exc fail draw)
local macro_rules | `(tactic| walk_at "dj") => `(tactic| first | assumption | with_reducible rfl | omega | exact dat_int | exact dat_tup | exact dat_bl | exact dat_lst | exact dat_non | exact dat_str | exact dat_dct | exact dat_pt | exact cmulb_l (by omega) (by omega) | exact cmulb_r (by omega) (by omega) | exact divb (by omega) (by omega) (by omega) | exact szT_of (by simp only [List.length_map, List.length_cons, List.length_nil, List.length_append]; omega) | (simp only [List.length_map, List.length_cons, List.length_nil, List.length_append]; omega))
local macro_rules | `(tactic| walk_at "mx") => `(tactic| simp (config := {decide := false, implicitDefEqProofs := false}) (disch := walk_at "dj") only [runM, seqO, tgI0, app0, ins0, ixN0, ixRd, lenN0, startR, mV, rd, look, mC, mB, mU, mTst, asB, mAndT, mOrT, mNotT, mAndV, mOrV, mNotV, mIfE, mChain, mNil, mCons, bNilM, bConsM, mTup, mLst, mNoPart, asI, mPart, pSl, mSl, mCall, mCallN, bLen, bAbs, bInt, bMax2, bMin2, bList, bTuple, mIxN, mLenN, mNext, mBreak, mCont, mNever, mSeq, mRet, rdN, mRetN, mRet0, mIfS, mDrop, mSet, mPar, sets, tgN, tgZ, tgC, tgT, putIx, tgI, mAsg, augS, mAug, putApp, mAppend, putIns, mInsert, asL, iSeq, rng1_e, rng2_e, rangeI_len, zipM, enumM, enumA, iArg, mFor, mComp, mYes, endF, inRd, inRd, mInN, compN, mCompN, mPopAt, pop0, mPopL, popL0, mExtend, ext0, putExt, bSortedQ, bMinD, bMaxD, forStep, compStep, mForL, mCompL, wipeR, backR, VM.noOwnB, pBack, getO,
  okd_ret, bind_ret, bnd_ret, bind_fail, bnd_fail, mite_t, mite_f, add_ii, sub_ii, mul_ii, fdiv_ii, mod_ii, lt_ii, le_ii, gt_ii, ge_ii, neg_i, add_tt, add_ll, eq_ii, ne_ii, eq_bb, ne_bb, eq_ss, ne_ss, eq_pp, ne_pp, eq_lp, ne_lp, eq_tp, ne_tp, in_p, notin_p, is_n, isnot_n, isb_t, isb_f, isnb_t, isnb_f, x_pt0, x_pt1, x_t0, x_t1, x_t2, x_t3, x_l0, x_l1, x_l2, i_int, i_bool, i_tuple, i_list, i_str, szT_of, szd, szdl, bnd_ite, bind_ite, bnd_bnd, bind_bnd, bnd_bind, bind_bind, kIq_int, kIq_bl, kIq_tup, kIq_lst, kIq_str, kIq_non, kIq_hnd, kIq_dct0, kIq_ins, kBq_int, kBq_bl, kBq_tup, kBq_lst, kBq_str, kBq_non, kBq_hnd, kBq_dct0, kBq_ins, kTq_int, kTq_bl, kTq_tup, kTq_lst, kTq_str, kTq_non, kTq_hnd, kTq_dct0, kTq_ins, kLq_int, kLq_bl, kLq_tup, kLq_lst, kLq_str, kLq_non, kLq_hnd, kLq_dct0, kLq_ins, kSq_int, kSq_bl, kSq_tup, kSq_lst, kSq_str, kSq_non, kSq_hnd, kSq_dct0, kSq_ins, isNq_int, isNq_bl, isNq_tup, isNq_lst, isNq_str, isNq_non, isNq_hnd, isNq_dct0, isNq_ins, kIq_pt, kBq_pt, kTq_pt, kLq_pt, kSq_pt,
  Int.cast_ofNat_Int, Int.natCast_add, Int.natCast_one, Int.natCast_zero, pv_val, pv_own, List.set_cons_zero, List.set_cons_succ, List.length_cons, List.length_nil, List.length_map, List.map_cons, List.map_nil, List.replicate_succ, List.replicate_zero, List.nil_append, List.cons_append, List.append_nil, Nat.zero_add, Nat.reduceAdd, Nat.reduceSub, Nat.reduceEqDiff, Nat.reduceLeDiff, decide_true, decide_false, Bool.and_true, Bool.true_and, Bool.and_false, Bool.false_and, Bool.or_true, Bool.true_or, Bool.or_false, Bool.false_or, Bool.not_true, Bool.not_false, List.all_cons, List.all_nil, eq_self, if_true, if_false, Bool.false_eq_true, reduceCtorEq, Option.toList])
open NR VR NP
namespace VP
/-- slots one other -/
theorem k_less : ∃ f : FM, f = runM (mRet (mTup (mCons (mB pSub (mB pIx (mV 0) (mC (.int 0))) (mB pIx (mV 1) (mC (.int 0)))) (mCons (mB pSub (mB pIx (mV 0) (mC (.int 1))) (mB pIx (mV 1) (mC (.int 1)))) mNil)))) 2 := ⟨_, rfl⟩
noncomputable def c_less : FM := k_less.choose
theorem q_less : c_less = runM (mRet (mTup (mCons (mB pSub (mB pIx (mV 0) (mC (.int 0))) (mB pIx (mV 1) (mC (.int 0)))) (mCons (mB pSub (mB pIx (mV 0) (mC (.int 1))) (mB pIx (mV 1) (mC (.int 1)))) mNil)))) 2 := k_less.choose_spec
theorem e_less {p q : Pt} : c_less [pt p, pt q] = ret (.val (pt (NP.sub p q))) := by
  rw [q_less]
  walk_at "mx"
  rfl
/-- slots dots found dot -/
theorem k_chain_by : ∃ f : FM, f = runM (mSeq (mSet 1 (mLst mNil)) (mSeq (mFor (iSeq (mV 0)) (tgN 2) (mSeq (mWhile (mAndT (mTst (mB pGt (mLenN 1) (mC (.int 1)))) (mTst (mB pLe (mCallN 2 c_raw_turn (mCons (mCallN 2 c_less (mCons (mIxN 1 (mU pNeg (mC (.int 1)))) (mCons (mIxN 1 (mU pNeg (mC (.int 2)))) mNil))) (mCons (mCallN 2 c_less (mCons (mV 2) (mCons (mIxN 1 (mU pNeg (mC (.int 2)))) mNil))) mNil))) (mC (.int 0))))) (mDrop (mPopL 1))) (mAppend 1 (mV 2)))) (mRetN 1))) 3 := ⟨_, rfl⟩
noncomputable def c_chain_by : FM := k_chain_by.choose
theorem q_chain_by : c_chain_by = runM (mSeq (mSet 1 (mLst mNil)) (mSeq (mFor (iSeq (mV 0)) (tgN 2) (mSeq (mWhile (mAndT (mTst (mB pGt (mLenN 1) (mC (.int 1)))) (mTst (mB pLe (mCallN 2 c_raw_turn (mCons (mCallN 2 c_less (mCons (mIxN 1 (mU pNeg (mC (.int 1)))) (mCons (mIxN 1 (mU pNeg (mC (.int 2)))) mNil))) (mCons (mCallN 2 c_less (mCons (mV 2) (mCons (mIxN 1 (mU pNeg (mC (.int 2)))) mNil))) mNil))) (mC (.int 0))))) (mDrop (mPopL 1))) (mAppend 1 (mV 2)))) (mRetN 1))) 3 := k_chain_by.choose_spec
theorem crs_turn (a b d : Pt) : turn (NP.sub b a) (NP.sub d a) = crs a b d := rfl
/-- the loop's test and turn -/
def wc (d : Pt) : List Pt → Bool
  | b :: a :: _ => decide (crs a b d ≤ 0)
  | _ => false
theorem popW_go (d : Pt) : ∀ st : List Pt, wc d st = false → popW st d = st
  | [], _ => rfl
  | [_], _ => rfl
  | b :: a :: r, h => by rw [popW_two, if_neg (of_decide_eq_false h)]
theorem popW_turn (d : Pt) : ∀ st : List Pt, wc d st = true → popW st d = popW st.tail d
  | b :: a :: r, h => by rw [popW_two, if_pos (of_decide_eq_true h)]; rfl
  | [], h => by cases h
  | [_], h => by cases h
theorem at_m1 {xs : List PV} {x : PV} : L2.atI (xs ++ [x]) (-1) = some x := by
  unfold L2.atI L2.ixN
  simp
  rw [if_pos (by omega)]
  show (xs ++ [x])[(-1 + ((xs.length : Int) + 1)).toNat]? = some x
  rw [show (-1 + ((xs.length : Int) + 1)).toNat = xs.length by omega, List.getElem?_concat_length]
theorem at_m2 {xs : List PV} {x y : PV} : L2.atI (xs ++ [x, y]) (-2) = some x := by
  unfold L2.atI L2.ixN
  simp
  rw [if_pos (by omega)]
  show (xs ++ [x, y])[(-2 + ((xs.length : Int) + 2)).toNat]? = some x
  rw [show (-2 + ((xs.length : Int) + 2)).toNat = xs.length by omega, List.getElem?_append_right (Nat.le_refl _), Nat.sub_self]; rfl
theorem e_popL {xs : List PV} {x : PV} {i : Nat} {ρ : Rho} : popL0 (.own (xs ++ [x])) i ρ = ret (.val x, ρ.set i (.own xs)) := by
  unfold popL0
  simp
theorem e_chain_by {ds : List Pt} (h : ∀ x ∈ ds, okPt x = true) (hl : ds.length ≤ 1000) : c_chain_by [.lst (ds.map pt)] = ret (.own ((chain ds).map pt)) := by
  rw [q_chain_by]
  walk_at "mx"
  refine bnd_for pt (fun s : List Pt × Sl => [Sl.val (.lst (ds.map pt)), .own (s.1.reverse.map pt), s.2]) (fun s d => (stepS s.1 d, .val (pt d))) (fun zs s => s.1.length + zs.length ≤ 1000 ∧ (∀ x ∈ zs, okPt x = true) ∧ ∀ x ∈ s.1, okPt x = true) ds ([], .no) rfl ⟨by simpa using hl, h, fun x hx => absurd hx (by simp)⟩ ?_ fun _ => ?_
  · rintro ⟨st, x⟩ d zs ⟨h1, h2, h3⟩
    dsimp only at h1 h3
    rw [List.length_cons] at h1
    refine ⟨?_, ?_⟩
    · walk_at "mx"
      refine bnd_while (fun st : List Pt => [Sl.val (.lst (ds.map pt)), .own (st.reverse.map pt), .val (pt d)]) (wc d) List.tail List.length (fun st => st.length ≤ 1000 ∧ ∀ x ∈ st, okPt x = true) (fun s u => u = popW s d) st rfl ⟨by omega, h3⟩ (by omega)
        (fun s _ hc => (popW_go d s hc).symm) (fun s u _ hc hu => by rw [hu, popW_turn d s hc]) (fun s hi => ?_) fun u hu => ?_
      · match s, hi with
        | [], _ =>
          walk_at "mx"
          exact ⟨rfl, fun hc => by cases hc⟩
        | [a], _ =>
          walk_at "mx"
          exact ⟨rfl, fun hc => by cases hc⟩
        | b :: a :: r, hi =>
          have e1 : (b :: a :: r).reverse.map pt = r.reverse.map pt ++ [pt a, pt b] := by simp
          have l1 : (r.reverse.map pt ++ [pt a, pt b]).length = r.length + 2 := by simp
          have x1 : L2.atI (r.reverse.map pt ++ [pt a, pt b]) (-1) = some (pt b) := by
            rw [show r.reverse.map pt ++ [pt a, pt b] = (r.reverse.map pt ++ [pt a]) ++ [pt b] from by simp]; exact at_m1
          have x2 : L2.atI (r.reverse.map pt ++ [pt a, pt b]) (-2) = some (pt a) := at_m2
          have lg : ∀ x y : Pt, okPt x = true → okPt y = true → lgP (NP.sub x y) := fun x y hx hy => by
            have := okPt_iff.mp hx; have := okPt_iff.mp hy
            unfold lgP NP.sub; dsimp only; omega
          have ob := hi.2 b (by simp)
          have oa := hi.2 a (by simp)
          have hpop : popL0 (.own (r.reverse.map pt ++ [pt a, pt b])) 1 [Sl.val (.lst (ds.map pt)), .own (r.reverse.map pt ++ [pt a, pt b]), .val (pt d)] = ret (.val (pt b), [Sl.val (.lst (ds.map pt)), .own ((a :: r).reverse.map pt), .val (pt d)]) := by
            rw [show r.reverse.map pt ++ [pt a, pt b] = ((a :: r).reverse.map pt) ++ [pt b] from by simp]; exact e_popL
          have hl1 : (1 : Int) < ((r.reverse.map pt ++ [pt a, pt b]).length : Int) := by rw [l1]; omega
          rw [e1]
          refine ⟨?_, fun hc => ⟨?_, ⟨by have := hi.1; simp at this ⊢; omega, fun x hx => hi.2 x (List.mem_cons_of_mem _ hx)⟩, by simp⟩⟩
          · walk_at "mx"
            simp only [hl1]
            walk_at "mx"
            simp only [x1]
            walk_at "mx"
            simp only [x2]
            walk_at "mx"
            rw [e_less]
            walk_at "mx"
            simp only [x2]
            walk_at "mx"
            rw [e_less]
            walk_at "mx"
            rw [e_raw_turn (.inl (lg b a ob oa)), crs_turn]
            walk_at "mx"
            rfl
          · show bnd (popL0 (.own (r.reverse.map pt ++ [pt a, pt b])) 1 [Sl.val (.lst (ds.map pt)), .own (r.reverse.map pt ++ [pt a, pt b]), .val (pt d)]) (f := ⟨fun _ ρ1 => ret (Out.nx, ρ1)⟩) = _
            rw [hpop]
            rfl
      · subst hu
        have pl : (popW st d).length ≤ st.length := by
          obtain ⟨t, e⟩ := popW_suf (d := d) (st := st)
          conv => rhs; rw [e]
          rw [List.length_append]; omega
        walk_at "mx"
        rw [List.length_reverse]
        walk_at "mx"
        unfold stepS
        rw [List.reverse_cons, List.map_append]
        rfl
    · have pl : (popW st d).length ≤ st.length := by
        obtain ⟨t, e⟩ := popW_suf (d := d) (st := st)
        conv => rhs; rw [e]
        rw [List.length_append]; omega
      refine ⟨by dsimp only; unfold stepS; rw [List.length_cons]; omega, fun y hy => h2 y (List.mem_cons_of_mem _ hy), fun y hy => ?_⟩
      rcases List.mem_cons.mp hy with rfl | hy
      · exact h2 _ List.mem_cons_self
      · exact h3 y (popW_sub hy)
  · walk_at "mx"
    have key : ∀ (l st : List Pt) (x : Sl), (l.foldl (fun (s : List Pt × Sl) d => (stepS s.1 d, Sl.val (pt d))) (st, x)).1 = l.foldl stepS st := by
      intro l
      induction l with
      | nil => intro st x; rfl
      | cons y l ih => intro st x; exact ih _ _
    rw [key]
    rfl
theorem ltb_lx {a b : Pt} : Do.ltb a b = true ↔ lx a b := by
  show (decide (a.1 < b.1) || (decide (a.1 = b.1) && decide (a.2 < b.2))) = true ↔ _
  unfold lx; simp
theorem asc_ok {S : List Pt} (h : S.Pairwise lx) : S.Nodup ∧ S.Pairwise fun a b => Do.ltb b a = false :=
  ⟨h.imp fun {a b} h e => by subst e; exact lx_irr h, h.imp fun {a b} h => by
    cases z : Do.ltb b a with
    | false => rfl
    | true => exact absurd (lx_trans h (ltb_lx.mp z)) lx_irr⟩
/-- slots dots some dot -/
theorem k_raw_hull : ∃ f : FM, f = runM (mSeq (mSet 1 (mCall bSortedD (mCons (mV 0) mNil))) (mSeq (mIfS (mTst (mB pLt (mCall bLen (mCons (mV 1) mNil)) (mC (.int 2)))) (mRet (mCall bTuple (mCons (mV 1) mNil))) mNext) (mRet (mCall bTuple (mCons (mB pAdd (mSl (mCallN 1 c_chain_by (mCons (mV 1) mNil)) mNoPart (mPart (mU pNeg (mC (.int 1))))) (mSl (mCallN 1 c_chain_by (mCons (mU pBack (mV 1)) mNil)) mNoPart (mPart (mU pNeg (mC (.int 1)))))) mNil))))) 3 := ⟨_, rfl⟩
noncomputable def c_raw_hull : FM := k_raw_hull.choose
theorem q_raw_hull : c_raw_hull = runM (mSeq (mSet 1 (mCall bSortedD (mCons (mV 0) mNil))) (mSeq (mIfS (mTst (mB pLt (mCall bLen (mCons (mV 1) mNil)) (mC (.int 2)))) (mRet (mCall bTuple (mCons (mV 1) mNil))) mNext) (mRet (mCall bTuple (mCons (mB pAdd (mSl (mCallN 1 c_chain_by (mCons (mV 1) mNil)) mNoPart (mPart (mU pNeg (mC (.int 1))))) (mSl (mCallN 1 c_chain_by (mCons (mU pBack (mV 1)) mNil)) mNoPart (mPart (mU pNeg (mC (.int 1)))))) mNil))))) 3 := k_raw_hull.choose_spec
end VP
end
section
set_option Elab.async false
set_option linter.all false
set_option maxRecDepth 100000
open VM
namespace NP
/-! ### sides: what they are, of all dots -/
/-- a dot on the way between two, both too -/
def Btw (a b p : Pt) : Prop := p = a ∨ p = b ∨ (lx a p ∧ lx p b) ∨ (lx b p ∧ lx p a)
def Edge (P : List Pt) (a b : Pt) : Prop := a ∈ P ∧ b ∈ P ∧ a ≠ b ∧ ∀ p ∈ P, 0 ≤ crs a b p ∧ (crs a b p = 0 → Btw a b p)
theorem Abv.drop {p : Pt} : ∀ {s l : List Pt}, Abv (s ++ l) p → Abv l p
  | [], _, h => h
  | _ :: s, l, h => Abv.drop (s := s) h.tail
theorem Cvx.drop : ∀ {s l : List Pt}, Cvx (s ++ l) → Cvx l
  | [], _, h => h
  | _ :: s, l, h => Cvx.drop (s := s) h.tail
theorem cr_col2 {u v w : Pt} (hv : Rt v) (hw : Rt w) (h0 : cr v w = 0) (h : 0 < cr w u) : 0 < cr v u := by
  have e1 : cr (ng u) w = cr w u := by unfold cr ng; grind
  have e2 : cr (ng u) v = cr v u := by unfold cr ng; grind
  rw [← e2]
  exact cr_col hv hw h0 (by rw [e1]; exact h)
theorem edge_low {P st s t : List Pt} {a b : Pt} (L : Low P st) (e : st = s ++ b :: a :: t) : lx a b ∧ Edge P a b := by
  have hd := L.dsc
  have hc := L.cvx
  unfold Dsc at hd
  rw [e] at hd hc
  have hd1 := (List.pairwise_append.mp hd).2.1
  have hab : lx a b := (List.pairwise_cons.mp hd1).1 a List.mem_cons_self
  refine ⟨hab, L.sub a (by rw [e]; simp), L.sub b (by rw [e]; simp), fun z => by rw [z] at hab; exact lx_irr hab, fun p hp => ?_⟩
  have ha := L.abv p hp
  rw [e] at ha
  refine ⟨ha.drop.1, fun h0 => ?_⟩
  by_cases h1 : p = a
  · exact .inl h1
  by_cases h2 : p = b
  · exact .inr (.inl h2)
  rcases lx_tot h1 with h1 | h1
  · exfalso
    match t, e, hd1, hc.drop, ha.drop with
    | [], e, _, _, _ =>
      rcases L.bot a (by rw [e]; simp) p hp with z | z
      · rw [z] at h1; exact lx_irr h1
      · exact lx_irr (lx_trans z h1)
    | z :: t, e, hd1, hc, ha =>
      have t1 : 0 < crs z a b := hc.1
      have t2 : 0 ≤ crs z a p := ha.2.1
      have hza : lx z a := (List.pairwise_cons.mp (List.pairwise_cons.mp hd1).2).1 z List.mem_cons_self
      have e1 : cr (sub a z) (sub b a) = crs z a b := by unfold cr sub crs; grind
      have e2 : cr (sub a p) (sub b a) = crs a b p := by unfold cr sub crs; grind
      have e3 : cr (sub a z) (sub a p) = -crs z a p := by unfold cr sub crs; grind
      have := cr_col (u := sub a z) (v := sub a p) (w := sub b a) (rt_of h1) (rt_of hab) (by rw [e2]; exact h0) (by rw [e1]; exact t1)
      omega
  · rcases lx_tot h2 with h2 | h2
    · exact .inr (.inr (.inl ⟨h1, h2⟩))
    · exfalso
      rcases List.eq_nil_or_concat s with hs | ⟨s', c, hs⟩
      · subst hs
        rcases L.top b (by rw [e]; rfl) p hp with z | z
        · rw [z] at h2; exact lx_irr h2
        · exact lx_irr (lx_trans z h2)
      · rw [List.concat_eq_append] at hs
        subst hs
        rw [List.append_assoc, List.cons_append, List.nil_append] at hd hc ha
        have hd2 := (List.pairwise_append.mp hd).2.1
        have t1 : 0 < crs a b c := hc.drop.1
        have t2 : 0 ≤ crs b c p := ha.drop.1
        have e1 : cr (sub b a) (sub c b) = crs a b c := by unfold cr sub crs; grind
        have e2 : cr (sub p b) (sub b a) = -crs a b p := by unfold cr sub crs; grind
        have e3 : cr (sub p b) (sub c b) = -crs b c p := by unfold cr sub crs; grind
        have := cr_col2 (u := sub c b) (v := sub p b) (w := sub b a) (rt_of h2) (rt_of hab) (by rw [e2, h0]; rfl) (by rw [e1]; exact t1)
        omega
theorem find_step {a : Pt} : ∀ {st : List Pt}, st ≠ [] → (∀ x ∈ st.head?, lx a x) → (∀ x ∈ st.getLast?, x = a ∨ lx x a) → ∃ s t c c', st = s ++ c' :: c :: t ∧ (c = a ∨ lx c a) ∧ lx a c'
  | [], h, _, _ => absurd rfl h
  | [x], _, h1, h2 => by
    exfalso
    have h1 := h1 x rfl
    rcases h2 x (by simp) with z | z
    · rw [z] at h1; exact lx_irr h1
    · exact lx_irr (lx_trans z h1)
  | c' :: c :: r, _, h1, h2 => by
    by_cases z : c = a
    · exact ⟨[], r, c, c', rfl, .inl z, h1 c' rfl⟩
    · rcases lx_tot z with z | z
      · exact ⟨[], r, c, c', rfl, .inr z, h1 c' rfl⟩
      · obtain ⟨s, t, d, d', e, k1, k2⟩ := find_step (a := a) (st := c :: r) (by simp) (fun x hx => by simp at hx; rw [← hx]; exact z) (fun x hx => h2 x (by rw [List.getLast?_cons_cons]; exact hx))
        exact ⟨c' :: s, t, d, d', by rw [e]; rfl, k1, k2⟩
theorem Btw.lo {a b p : Pt} (hab : lx a b) (h : Btw a b p) : p = a ∨ lx a p := by
  rcases h with h | h | h | h
  · exact .inl h
  · exact .inr (by rw [h]; exact hab)
  · exact .inr h.1
  · exact absurd (lx_trans (lx_trans hab h.1) h.2) lx_irr
theorem Btw.hi {a b p : Pt} (hab : lx a b) (h : Btw a b p) : p = b ∨ lx p b := by
  rcases h with h | h | h | h
  · exact .inr (by rw [h]; exact hab)
  · exact .inl h
  · exact .inr h.2
  · exact absurd (lx_trans (lx_trans hab h.1) h.2) lx_irr
theorem low_edge {P st : List Pt} {a b : Pt} (L : Low P st) (hab : lx a b) (E : Edge P a b) : ∃ s t, st = s ++ b :: a :: t := by
  obtain ⟨ha, hb, _, hE⟩ := E
  have ne : st ≠ [] := L.ne (fun z => by rw [z] at ha; exact absurd ha (by simp))
  obtain ⟨s, t, c, c', e, h1, h2⟩ := find_step (a := a) ne (fun x hx => by
    rcases L.top x hx b hb with z | z
    · rw [← z]; exact hab
    · exact lx_trans hab z) (fun x hx => L.bot x hx a ha)
  have hd := L.dsc
  have hc := L.cvx
  unfold Dsc at hd
  rw [e] at hd hc
  have hd1 := (List.pairwise_append.mp hd).2.1
  have hcc : lx c c' := (List.pairwise_cons.mp hd1).1 c List.mem_cons_self
  have inc : c ∈ P := L.sub c (by rw [e]; simp)
  have inc' : c' ∈ P := L.sub c' (by rw [e]; simp)
  have A : ∀ p ∈ P, Abv (c' :: c :: t) p := fun p hp => by
    have := L.abv p hp
    rw [e] at this
    exact this.drop
  have hca : c = a := by
    rcases h1 with h1 | h1
    · exact h1
    exfalso
    have t1 : 0 ≤ crs c c' a := (A a ha).1
    have t2 := hE c inc
    have t3 := hE c' inc'
    have e1 : cr (sub a c) (sub b a) = crs a b c := by unfold cr sub crs; grind
    have e2 : cr (sub b a) (sub c' a) = crs a b c' := by unfold cr sub crs; grind
    have e3 : cr (sub a c) (sub c' a) = -crs c c' a := by unfold cr sub crs; grind
    have := cr_le (u := sub a c) (v := sub b a) (w := sub c' a) (rt_of h1) (rt_of hab) (rt_of h2) (by omega) (by omega)
    -- all on one line
    have z : cr (sub a c) (sub c' a) = 0 := by omega
    have z2 : crs a b c = 0 := by
      by_cases y : crs a b c = 0
      · exact y
      · have := cr_col2 (u := sub b a) (v := sub c' a) (w := sub a c) (rt_of h2) (rt_of h1) (by unfold cr at z ⊢; grind) (by omega)
        have e4 : cr (sub c' a) (sub b a) = -crs a b c' := by unfold cr sub crs; grind
        omega
    rcases (t2.2 z2).lo hab with y | y
    · rw [y] at h1; exact lx_irr h1
    · exact lx_irr (lx_trans y h1)
  subst hca
  have t1 : 0 ≤ crs c c' b := (A b hb).1
  have t2 := hE c' inc'
  have e1 : crs c c' b = -crs c b c' := by unfold crs; grind
  have z : crs c b c' = 0 := by omega
  have hbc : b = c' := by
    rcases (t2.2 z).hi hab with y | y
    · exact y.symm
    exfalso
    rcases List.eq_nil_or_concat s with hs | ⟨s', x, hs⟩
    · subst hs
      rcases L.top c' (by rw [e]; rfl) b hb with w | w
      · rw [w] at y; exact lx_irr y
      · exact lx_irr (lx_trans w y)
    · rw [List.concat_eq_append] at hs
      subst hs
      rw [List.append_assoc, List.cons_append, List.nil_append] at hc
      have ab := L.abv b hb
      rw [e, List.append_assoc, List.cons_append, List.nil_append] at ab
      have k1 : 0 < crs c c' x := hc.drop.1
      have k2 : 0 ≤ crs c' x b := ab.drop.1
      have e1 : cr (sub c' c) (sub x c') = crs c c' x := by unfold cr sub crs; grind
      have e2 : cr (sub b c') (sub c' c) = crs c b c' := by unfold cr sub crs; grind
      have e3 : cr (sub b c') (sub x c') = -crs c' x b := by unfold cr sub crs; grind
      have := cr_col2 (u := sub x c') (v := sub b c') (w := sub c' c) (rt_of y) (rt_of hcc) (by rw [e2]; exact z) (by rw [e1]; exact k1)
      omega
  subst hbc
  exact ⟨s, t, e⟩
/-! ### round the hull -/
def adj : List Pt → List (Pt × Pt)
  | a :: b :: r => (a, b) :: adj (b :: r)
  | _ => []
def cyc (W : List Pt) : List (Pt × Pt) := adj (W ++ W.take 1)
theorem mem_adj {a b : Pt} : ∀ {l : List Pt}, (a, b) ∈ adj l ↔ ∃ s t, l = s ++ a :: b :: t
  | [] => ⟨fun h => absurd h (by simp [adj]), fun ⟨s, t, e⟩ => by simp at e⟩
  | [x] => ⟨fun h => absurd h (by simp [adj]), fun ⟨s, t, e⟩ => by have := congrArg List.length e; simp at this; omega⟩
  | x :: y :: r => by
    show (a, b) ∈ (x, y) :: adj (y :: r) ↔ _
    rw [List.mem_cons]
    constructor
    · rintro (h | h)
      · cases h; exact ⟨[], r, rfl⟩
      · obtain ⟨s, t, e⟩ := mem_adj.mp h
        exact ⟨x :: s, t, by rw [e]; rfl⟩
    · rintro ⟨s, t, e⟩
      cases s with
      | nil => injection e with e1 e2; injection e2 with e2 e3; exact .inl (by rw [e1, e2])
      | cons z s => injection e with e1 e2; exact .inr (mem_adj.mpr ⟨s, t, e2⟩)
theorem adj_app : ∀ (l : List Pt) (x : Pt) (r : List Pt), adj (l ++ x :: r) = adj (l ++ [x]) ++ adj (x :: r)
  | [], x, r => rfl
  | [y], x, r => rfl
  | y :: z :: l, x, r => by
    show (y, z) :: adj (z :: l ++ x :: r) = (y, z) :: adj (z :: l ++ [x]) ++ _
    rw [adj_app (z :: l) x r]; rfl
theorem Btw_ng {a b p : Pt} : Btw (ng a) (ng b) (ng p) ↔ Btw a b p := by
  have inj : ∀ {x y : Pt}, ng x = ng y ↔ x = y := fun {x y} => ⟨fun h => by rw [← ng_ng x, h, ng_ng], fun h => by rw [h]⟩
  unfold Btw
  rw [inj, inj, lx_ng, lx_ng, lx_ng, lx_ng]
  constructor
  · rintro (h | h | h | h)
    · exact .inl h
    · exact .inr (.inl h)
    · exact .inr (.inr (.inr ⟨h.2, h.1⟩))
    · exact .inr (.inr (.inl ⟨h.2, h.1⟩))
  · rintro (h | h | h | h)
    · exact .inl h
    · exact .inr (.inl h)
    · exact .inr (.inr (.inr ⟨h.2, h.1⟩))
    · exact .inr (.inr (.inl ⟨h.2, h.1⟩))
theorem ng_mem {ds : List Pt} {x : Pt} : ng x ∈ ds.reverse.map ng ↔ x ∈ ds := by
  rw [List.mem_map]
  constructor
  · rintro ⟨y, hy, e⟩
    rw [List.mem_reverse] at hy
    have : y = x := by rw [← ng_ng y, e, ng_ng]
    rw [← this]; exact hy
  · intro h
    exact ⟨x, List.mem_reverse.mpr h, rfl⟩
theorem Edge_ng {ds : List Pt} {a b : Pt} : Edge (ds.reverse.map ng) (ng a) (ng b) ↔ Edge ds a b := by
  unfold Edge
  rw [ng_mem, ng_mem]
  constructor
  · rintro ⟨h1, h2, h3, h4⟩
    refine ⟨h1, h2, fun z => h3 (by rw [z]), fun p hp => ?_⟩
    have := h4 (ng p) (ng_mem.mpr hp)
    rw [crs_ng, Btw_ng] at this; exact this
  · rintro ⟨h1, h2, h3, h4⟩
    refine ⟨h1, h2, fun z => h3 (by rw [← ng_ng a, z, ng_ng]), fun p hp => ?_⟩
    have hp : ng p ∈ ds := by rw [← ng_mem, ng_ng]; exact hp
    have := h4 (ng p) hp
    rw [← ng_ng p, crs_ng, Btw_ng]; exact this
/-- ends of both chains -/
theorem chains {ds : List Pt} (hd : ds.Pairwise lx) {a b : Pt} (ha : a ∈ ds) (hb : b ∈ ds) (hab : a ≠ b) :
    ∃ m M l u, (chainS ds).reverse = m :: l ++ [M] ∧ (chainS ds.reverse).reverse = M :: u ++ [m] ∧ (∀ p ∈ ds, m = p ∨ lx m p) ∧ ∀ p ∈ ds, p = M ∨ lx p M := by
  have main : ∀ {ds : List Pt}, ds.Pairwise lx → ∀ {a b : Pt}, a ∈ ds → b ∈ ds → a ≠ b → ∃ m M l, (chainS ds).reverse = m :: l ++ [M] ∧ (∀ p ∈ ds, m = p ∨ lx m p) ∧ (∀ p ∈ ds, p = M ∨ lx p M) ∧ m ∈ ds ∧ M ∈ ds := by
    intro ds hd a b ha hb hab
    have L := low_chain hd
    cases e : chainS ds with
    | nil => exact absurd e (L.ne (fun z => by rw [z] at ha; exact absurd ha (by simp)))
    | cons h l =>
      rw [e] at L
      have ht := L.top h rfl
      rcases List.eq_nil_or_concat l with hl | ⟨l', u, hl⟩
      · subst hl
        have hb2 := L.bot h (by simp)
        exact absurd ((lx_anti (hb2 a ha) (ht a ha)).symm.trans (lx_anti (hb2 b hb) (ht b hb))) hab
      · rw [List.concat_eq_append] at hl
        subst hl
        exact ⟨u, h, l'.reverse, by simp, L.bot u (by rw [← List.cons_append, List.getLast?_concat]; rfl), ht, L.sub u (by simp), L.sub h (by simp)⟩
  obtain ⟨m, M, l, e1, hm, hM, im, iM⟩ := main hd ha hb hab
  obtain ⟨m2, M2, u, e2, hm2, hM2, im2, iM2⟩ := main (desc_asc hd) (ng_mem.mpr ha) (ng_mem.mpr hb) (fun z => hab (by rw [← ng_ng a, z, ng_ng]))
  have e3 : (chainS ds.reverse).reverse = ng m2 :: u.map ng ++ [ng M2] := by
    rw [chain_desc, ← List.map_reverse, e2]; simp
  have i2 : ng m2 ∈ ds := by rw [← ng_mem, ng_ng]; exact im2
  have i3 : ng M2 ∈ ds := by rw [← ng_mem, ng_ng]; exact iM2
  have g1 : ng m2 = M := by
    have k1 := hM (ng m2) i2
    have k2 := hm2 (ng M) (ng_mem.mpr iM)
    refine lx_anti k1 (k2.imp (fun z => by rw [z, ng_ng]) fun z => ?_)
    have := lx_ng.mpr z
    rw [ng_ng] at this; exact this
  have g2 : ng M2 = m := by
    have k1 := hm (ng M2) i3
    have k2 := hM2 (ng m) (ng_mem.mpr im)
    refine lx_anti (k2.imp (fun z => by rw [← z, ng_ng]) fun z => ?_) k1
    have := lx_ng.mpr z
    rw [ng_ng] at this; exact this
  exact ⟨m, M, l, u.map ng, e1, by rw [e3, g1, g2], hm, hM⟩
theorem drop_last {α : Type} (l : List α) (x : α) : (l ++ [x]).dropLast = l := List.dropLast_concat
theorem cyc_hull {ds : List Pt} (hd : ds.Pairwise lx) {a b : Pt} (ha : a ∈ ds) (hb : b ∈ ds) (hab : a ≠ b) : cyc (hullS ds) = adj (chainS ds).reverse ++ adj (chainS ds.reverse).reverse := by
  obtain ⟨m, M, l, u, e1, e2, _, _⟩ := chains hd ha hb hab
  unfold hullS
  rw [e1, e2, drop_last, drop_last]
  unfold cyc
  show adj (m :: l ++ M :: u ++ [m]) = _
  rw [show m :: l ++ M :: u ++ [m] = m :: l ++ M :: (u ++ [m]) from by simp, adj_app (m :: l) M (u ++ [m])]
  rfl
/-- the sides of the hull -/
theorem edge_iff {ds : List Pt} (hd : ds.Pairwise lx) {x y : Pt} (hx : x ∈ ds) (hy : y ∈ ds) (hxy : x ≠ y) {a b : Pt} : (a, b) ∈ cyc (hullS ds) ↔ Edge ds a b := by
  rw [cyc_hull hd hx hy hxy, List.mem_append, mem_adj, mem_adj]
  have rv : ∀ {st s t : List Pt} {a b : Pt}, st.reverse = s ++ a :: b :: t ↔ st = t.reverse ++ b :: a :: s.reverse := fun {st s t a b} => by
    constructor
    · intro h
      rw [← List.reverse_reverse st, h]; simp
    · intro h
      rw [h]; simp
  constructor
  · rintro (⟨s, t, e⟩ | ⟨s, t, e⟩)
    · exact (edge_low (low_chain hd) (rv.mp e)).2
    · rw [chain_desc, ← List.map_reverse] at e
      have e' : (chainS (ds.reverse.map ng)).reverse = s.map ng ++ ng a :: ng b :: t.map ng := by
        have := congrArg (List.map ng) e
        rw [List.map_map, show ng ∘ ng = id from funext ng_ng, List.map_id] at this
        rw [this]; simp
      exact Edge_ng.mp (edge_low (low_chain (desc_asc hd)) (rv.mp e')).2
  · intro E
    rcases lx_tot E.2.2.1 with h | h
    · obtain ⟨s, t, e⟩ := low_edge (low_chain hd) h E
      exact .inl ⟨t.reverse, s.reverse, rv.mpr (by simpa using e)⟩
    · obtain ⟨s, t, e⟩ := low_edge (low_chain (desc_asc hd)) (lx_ng.mpr h) (Edge_ng.mpr E)
      refine .inr ⟨t.reverse.map ng, s.reverse.map ng, ?_⟩
      rw [chain_desc, e]
      simp [ng_ng]
end NP
end
section
set_option Elab.async false
set_option linter.all false
set_option maxRecDepth 100000
open VM
namespace NP
/-! ### dots in order -/
instance lx_dec (a b : Pt) : Decidable (lx a b) := by unfold lx; infer_instance
def ins (x : Pt) : List Pt → List Pt
  | [] => [x]
  | y :: r => if x = y then y :: r else if lx x y then x :: y :: r else y :: ins x r
def srt (l : List Pt) : List Pt := l.foldr ins []
theorem mem_ins {x a : Pt} : ∀ {l : List Pt}, a ∈ ins x l ↔ a = x ∨ a ∈ l
  | [] => by simp [ins]
  | y :: r => by
    unfold ins
    split
    · rename_i h; subst h; simp
    · split
      · simp
      · rw [List.mem_cons, mem_ins, List.mem_cons]
        constructor
        · rintro (h | h | h)
          · exact .inr (.inl h)
          · exact .inl h
          · exact .inr (.inr h)
        · rintro (h | h | h)
          · exact .inr (.inl h)
          · exact .inl h
          · exact .inr (.inr h)
theorem ins_asc {x : Pt} : ∀ {l : List Pt}, l.Pairwise lx → (ins x l).Pairwise lx
  | [], _ => by simp [ins]
  | y :: r, h => by
    unfold ins
    split
    · exact h
    · rename_i hn
      obtain ⟨h1, h2⟩ := List.pairwise_cons.mp h
      split
      · rename_i hl
        refine List.pairwise_cons.mpr ⟨fun a ha => ?_, h⟩
        rcases List.mem_cons.mp ha with rfl | ha
        · exact hl
        · exact lx_trans hl (h1 a ha)
      · rename_i hl
        refine List.pairwise_cons.mpr ⟨fun a ha => ?_, ins_asc h2⟩
        rcases mem_ins.mp ha with rfl | ha
        · exact (lx_tot hn).resolve_left hl
        · exact h1 a ha
theorem mem_srt {a : Pt} : ∀ {l : List Pt}, a ∈ srt l ↔ a ∈ l
  | [] => by simp [srt]
  | x :: l => by
    show a ∈ ins x (srt l) ↔ _
    rw [mem_ins, mem_srt, List.mem_cons]
theorem srt_asc : ∀ {l : List Pt}, (srt l).Pairwise lx
  | [] => by simp [srt]
  | x :: l => ins_asc srt_asc
theorem asc_nodup {l : List Pt} (h : l.Pairwise lx) : l.Nodup := h.imp fun {a b} h e => by rw [e] at h; exact lx_irr h
theorem asc_ext : ∀ {l m : List Pt}, l.Pairwise lx → m.Pairwise lx → (∀ x, x ∈ l ↔ x ∈ m) → l = m
  | [], [], _, _, _ => rfl
  | [], y :: m, _, _, h => absurd ((h y).mpr List.mem_cons_self) (by simp)
  | x :: l, [], _, _, h => absurd ((h x).mp List.mem_cons_self) (by simp)
  | x :: l, y :: m, h1, h2, h => by
    obtain ⟨a1, a2⟩ := List.pairwise_cons.mp h1
    obtain ⟨b1, b2⟩ := List.pairwise_cons.mp h2
    have e : x = y := by
      rcases List.mem_cons.mp ((h x).mp List.mem_cons_self) with e | e
      · exact e
      · rcases List.mem_cons.mp ((h y).mpr List.mem_cons_self) with e' | e'
        · exact e'.symm
        · exact absurd (lx_trans (b1 x e) (a1 y e')) lx_irr
    subst e
    rw [asc_ext a2 b2 fun z => ⟨fun hz => ?_, fun hz => ?_⟩]
    · rcases List.mem_cons.mp ((h z).mp (List.mem_cons_of_mem _ hz)) with e | e
      · subst e; exact absurd (a1 z hz) lx_irr
      · exact e
    · rcases List.mem_cons.mp ((h z).mpr (List.mem_cons_of_mem _ hz)) with e | e
      · subst e; exact absurd (b1 z hz) lx_irr
      · exact e
theorem srt_ext {l m : List Pt} (h : ∀ x, x ∈ l ↔ x ∈ m) : srt l = srt m := asc_ext srt_asc srt_asc fun x => by rw [mem_srt, mem_srt]; exact h x
theorem srt_len : ∀ {l : List Pt}, (srt l).length ≤ l.length
  | [] => by simp [srt]
  | x :: l => by
    show (ins x (srt l)).length ≤ _
    have : ∀ m : List Pt, (ins x m).length ≤ m.length + 1 := by
      intro m
      induction m with
      | nil => simp [ins]
      | cons y m ih => unfold ins; split <;> (try split) <;> simp <;> omega
    have := this (srt l)
    have := srt_len (l := l)
    simp only [List.length_cons]; omega
/-! ### the hull of any dots -/
def hullP (l : List Pt) : List Pt := if (srt l).length < 2 then srt l else hullS (srt l)
theorem hullP_ext {l m : List Pt} (h : ∀ x, x ∈ l ↔ x ∈ m) : hullP l = hullP m := by unfold hullP; rw [srt_ext h]
theorem two_of {l : List Pt} (h : ¬ (srt l).length < 2) : ∃ a b, a ∈ srt l ∧ b ∈ srt l ∧ a ≠ b := by
  match e : srt l, h with
  | [], h => exact absurd (by simp) h
  | [_], h => exact absurd (by simp) h
  | a :: b :: r, _ =>
    refine ⟨a, b, by simp, by simp, fun z => ?_⟩
    have := srt_asc (l := l)
    rw [e] at this
    have := (List.pairwise_cons.mp this).1 b List.mem_cons_self
    rw [z] at this; exact lx_irr this
theorem two_le {l : List Pt} {a b : Pt} (ha : a ∈ l) (hb : b ∈ l) (h : a ≠ b) : ¬ (srt l).length < 2 := by
  rw [← mem_srt] at ha hb
  match e : srt l, ha, hb with
  | [x], ha, hb =>
    rw [List.mem_singleton] at ha hb
    exact absurd (ha.trans hb.symm) h
  | _ :: _ :: _, _, _ => simp only [List.length_cons]; omega
theorem Edge_ext {P Q : List Pt} (h : ∀ x, x ∈ P ↔ x ∈ Q) {a b : Pt} : Edge P a b ↔ Edge Q a b := by
  unfold Edge
  rw [h, h]
  exact ⟨fun ⟨h1, h2, h3, h4⟩ => ⟨h1, h2, h3, fun p hp => h4 p ((h p).mpr hp)⟩, fun ⟨h1, h2, h3, h4⟩ => ⟨h1, h2, h3, fun p hp => h4 p ((h p).mp hp)⟩⟩
/-- the sides of the hull are those that have all dots on them or on their left -/
theorem hull_edge {l : List Pt} {x y : Pt} (hx : x ∈ l) (hy : y ∈ l) (hxy : x ≠ y) {a b : Pt} : (a, b) ∈ cyc (hullP l) ↔ Edge l a b := by
  unfold hullP
  rw [if_neg (two_le hx hy hxy), edge_iff srt_asc (mem_srt.mpr hx) (mem_srt.mpr hy) hxy]
  exact Edge_ext fun x => mem_srt
theorem hullP_sub {l : List Pt} {p : Pt} (h : p ∈ hullP l) : p ∈ l := by
  unfold hullP at h
  split at h
  · exact mem_srt.mp h
  · unfold hullS at h
    rcases List.mem_append.mp h with h | h
    · exact mem_srt.mp (chain_sub srt_asc p (List.mem_reverse.mp (List.dropLast_subset _ h)))
    · exact mem_srt.mp (chainR_sub srt_asc p (List.mem_reverse.mp (List.dropLast_subset _ h)))
theorem mem_cyc {a b : Pt} {W : List Pt} (h : (a, b) ∈ cyc W) : a ∈ W ∧ b ∈ W := by
  unfold cyc at h
  obtain ⟨s, t, e⟩ := mem_adj.mp h
  have hb : b ∈ W ++ W.take 1 := by rw [e]; simp
  have hb' : b ∈ W := by
    rcases List.mem_append.mp hb with z | z
    · exact z
    · exact List.mem_of_mem_take z
  refine ⟨?_, hb'⟩
  match W, e with
  | [], e => simp at e
  | x :: r, e =>
    rw [List.take_succ_cons, List.take_zero] at e
    have e' : x :: r ++ [x] = (s ++ [a]) ++ (b :: t) := by rw [e]; simp
    rcases List.eq_nil_or_concat (b :: t) with z | ⟨u, w, z⟩
    · exact absurd z (by simp)
    · rw [List.concat_eq_append] at z
      rw [z, ← List.append_assoc] at e'
      have := (List.append_inj_left' e' (by simp))
      rw [this]; simp
theorem cyc_succ {W : List Pt} {p : Pt} (h : p ∈ W) : ∃ q, (p, q) ∈ cyc W := by
  obtain ⟨s, t, e⟩ := List.append_of_mem h
  unfold cyc
  cases t with
  | cons q t => exact ⟨q, mem_adj.mpr ⟨s, t ++ W.take 1, by conv => lhs; rw [e]
                                                            simp [e]⟩⟩
  | nil =>
    match W, e with
    | [], e => simp at e
    | x :: r, e => exact ⟨x, mem_adj.mpr ⟨s, [], by rw [e]; cases s <;> simp_all⟩⟩
theorem cyc_pred {W : List Pt} {q : Pt} (h : q ∈ W) : ∃ p, (p, q) ∈ cyc W := by
  obtain ⟨s, t, e⟩ := List.append_of_mem h
  unfold cyc
  rcases List.eq_nil_or_concat s with z | ⟨s', p, z⟩
  · subst z
    rw [List.nil_append] at e
    subst e
    rcases List.eq_nil_or_concat (q :: t) with z | ⟨u, w, z⟩
    · exact absurd z (by simp)
    · rw [List.concat_eq_append] at z
      refine ⟨w, mem_adj.mpr ⟨u, [], ?_⟩⟩
      rw [List.take_succ_cons, List.take_zero, z]; simp
  · rw [List.concat_eq_append] at z
    subst z
    exact ⟨p, mem_adj.mpr ⟨s', t ++ W.take 1, by conv => lhs; rw [e]
                                                 simp [e]⟩⟩
theorem mid0 {u v d : Pt} (hu : Rt u) (hv : Rt v) (h0 : cr u v = 0) (h1 : cr d u ≤ 0) (h2 : 0 ≤ cr d v) : cr d u = 0 ∧ cr d v = 0 := by
  have sw : ∀ x y : Pt, cr x y = -cr y x := fun x y => by unfold cr; grind
  have k1 : cr d v = 0 := by
    rcases Int.lt_or_le 0 (cr d v) with h | h
    · have := cr_col hu hv h0 h; omega
    · omega
  refine ⟨?_, k1⟩
  rcases Int.lt_or_le (cr d u) 0 with h | h
  · have := cr_col2 (u := d) hv hu (by rw [sw, h0]; rfl) (by rw [sw]; omega)
    have := sw v d
    omega
  · omega
/-- corners: none lies on a side of others -/
theorem hull_strict {l : List Pt} {a b p : Pt} (hab : (a, b) ∈ cyc (hullP l)) (hne : a ≠ b) (hp : p ∈ hullP l) : p = a ∨ p = b ∨ 0 < crs a b p := by
  have ha := hullP_sub (mem_cyc hab).1
  have hb := hullP_sub (mem_cyc hab).2
  have hE := (hull_edge ha hb hne).mp hab
  have hp' := hullP_sub hp
  obtain ⟨h0, hbt⟩ := hE.2.2.2 p hp'
  rcases Int.lt_or_le 0 (crs a b p) with h | h
  · exact .inr (.inr h)
  have z : crs a b p = 0 := by omega
  obtain ⟨q, hq⟩ := cyc_succ hp
  have hQ := (hull_edge ha hb hne).mp hq
  rcases hbt z with h | h | h
  · exact .inl h
  · exact .inr (.inl h)
  exfalso
  have pa := hQ.2.2.2 a ha
  have pb := hQ.2.2.2 b hb
  -- a and b stand on both sides of p
  have key : crs p q a = 0 ∧ crs p q b = 0 := by
    rcases h with h | h
    · have e1 : cr (sub p a) (sub b p) = -crs a b p := by unfold cr sub crs; grind
      have e2 : cr (sub q p) (sub p a) = -crs p q a := by unfold cr sub crs; grind
      have e3 : cr (sub q p) (sub b p) = crs p q b := by unfold cr sub crs; grind
      have := mid0 (rt_of h.1) (rt_of h.2) (by rw [e1, z]; rfl) (d := sub q p) (by omega) (by omega)
      omega
    · have e1 : cr (sub p b) (sub a p) = crs a b p := by unfold cr sub crs; grind
      have e2 : cr (sub q p) (sub p b) = -crs p q b := by unfold cr sub crs; grind
      have e3 : cr (sub q p) (sub a p) = crs p q a := by unfold cr sub crs; grind
      have := mid0 (rt_of h.1) (rt_of h.2) (by rw [e1, z]) (d := sub q p) (by omega) (by omega)
      omega
  have ba := pa.2 key.1
  have bb := pb.2 key.2
  have hne1 : a ≠ p := fun z => by subst z; rcases h with h | h <;> exact lx_irr (by first | exact h.1 | exact h.2)
  have hne2 : b ≠ p := fun z => by subst z; rcases h with h | h <;> exact lx_irr (by first | exact h.2 | exact h.1)
  have d1 : ∀ {x : Pt}, x ≠ p → Btw p q x → (lx p x ∧ lx p q) ∨ (lx x p ∧ lx q p) := fun {x} hx hb => by
    rcases hb with z | z | z | z
    · exact absurd z hx
    · rw [z]
      rcases lx_tot hQ.2.2.1 with y | y
      · exact .inl ⟨y, y⟩
      · exact .inr ⟨y, y⟩
    · exact .inl ⟨z.1, lx_trans z.1 z.2⟩
    · exact .inr ⟨z.2, lx_trans z.1 z.2⟩
  have k1 := d1 hne1 ba
  have k2 := d1 hne2 bb
  rcases h with h | h
  · rcases k1 with k1 | k1
    · exact lx_irr (lx_trans h.1 k1.1)
    · rcases k2 with k2 | k2
      · exact lx_irr (lx_trans k1.2 k2.2)
      · exact lx_irr (lx_trans h.2 k2.1)
  · rcases k2 with k2 | k2
    · exact lx_irr (lx_trans h.1 k2.1)
    · rcases k1 with k1 | k1
      · exact lx_irr (lx_trans k1.2 k2.2)
      · exact lx_irr (lx_trans h.2 k1.1)
end NP
end
section
set_option Elab.async false
set_option linter.all false
set_option maxRecDepth 100000
open VM
namespace NP
/-! ### corners round, led by tables -/
theorem adj_fst : ∀ (l : List Pt) (x : Pt), (adj (l ++ [x])).map Prod.fst = l
  | [], _ => rfl
  | [_], _ => rfl
  | a :: b :: l, x => by
    show a :: (adj (b :: l ++ [x])).map Prod.fst = _
    rw [adj_fst (b :: l) x]
theorem cyc_fst (W : List Pt) : (cyc W).map Prod.fst = W := by
  match W with
  | [] => rfl
  | x :: r => exact adj_fst (x :: r) x
theorem cyc_len (W : List Pt) : (cyc W).length = W.length := by
  conv => rhs; rw [← cyc_fst W]
  rw [List.length_map]
theorem inj_nodup {α β : Type} {f : α → β} : ∀ {l : List α}, (l.map f).Nodup → ∀ {x y : α}, x ∈ l → y ∈ l → f x = f y → x = y
  | [], _, _, _, h, _, _ => absurd h (by simp)
  | a :: l, hn, x, y, hx, hy, e => by
    rw [List.map_cons, List.nodup_cons] at hn
    rcases List.mem_cons.mp hx with hx1 | hx1
    · rcases List.mem_cons.mp hy with hy1 | hy1
      · rw [hx1, hy1]
      · subst hx1; exact absurd (by rw [e]; exact List.mem_map_of_mem hy1) hn.1
    · rcases List.mem_cons.mp hy with hy1 | hy1
      · subst hy1; exact absurd (by rw [← e]; exact List.mem_map_of_mem hx1) hn.1
      · exact inj_nodup hn.2 hx1 hy1 e
theorem nodup_of_map {α β : Type} {f : α → β} {l : List α} (h : (l.map f).Nodup) : l.Nodup := (List.pairwise_map.mp h).imp fun {a b} h e => h (by rw [e])
theorem nodup_map {α β : Type} {f : α → β} {l : List α} (inj : ∀ a b, f a = f b → a = b) (h : l.Nodup) : (l.map f).Nodup := List.pairwise_map.mpr (h.imp fun {a b} h e => h (inj a b e))
theorem nodup_rev {α : Type} {l : List α} : l.reverse.Nodup ↔ l.Nodup := by
  unfold List.Nodup
  rw [List.pairwise_reverse]
  exact ⟨fun h => h.imp fun {a b} h => h.symm, fun h => h.imp fun {a b} h => h.symm⟩
theorem cyc_nodup {W : List Pt} (h : W.Nodup) : (cyc W).Nodup := nodup_of_map (f := Prod.fst) (by rw [cyc_fst]; exact h)
theorem cyc_fun {W : List Pt} (h : W.Nodup) {a b b' : Pt} (h1 : (a, b) ∈ cyc W) (h2 : (a, b') ∈ cyc W) : b = b' := by
  have := inj_nodup (f := Prod.fst) (l := cyc W) (by rw [cyc_fst]; exact h) h1 h2 rfl
  injection this
theorem hull_nodup {l : List Pt} : (hullP l).Nodup := by
  unfold hullP
  split
  · exact asc_nodup srt_asc
  · rename_i h2
    obtain ⟨a, b, ha, hb, hab⟩ := two_of h2
    obtain ⟨m, M, l', u, e1, e2, hm, hM⟩ := chains srt_asc ha hb hab
    have L1 := low_chain (srt_asc (l := l))
    have L2 := low_chain (desc_asc (srt_asc (l := l)))
    have n1 : (m :: l' ++ [M]).Nodup := by
      rw [← e1]
      exact nodup_rev.mpr (List.Pairwise.imp (R := fun b a => lx a b) (fun {a b} h e => by subst e; exact lx_irr h) L1.dsc)
    have n2 : (M :: u ++ [m]).Nodup := by
      rw [← e2]
      refine nodup_rev.mpr ?_
      rw [chain_desc]
      refine nodup_map (fun a b e => by rw [← ng_ng a, e, ng_ng]) (List.Pairwise.imp (R := fun b a => lx a b) (fun {a b} h e => by subst e; exact lx_irr h) L2.dsc)
    have cy := cyc_hull srt_asc ha hb hab
    unfold hullS
    rw [e1, e2, drop_last, drop_last]
    refine List.nodup_append.mpr ⟨(List.nodup_append.mp n1).1, (List.nodup_append.mp n2).1, fun x hx y hy e => ?_⟩
    subst e
    have nx : ∀ {W : List Pt} {z : Pt}, x ∈ W → ∃ q, (x, q) ∈ adj (W ++ [z]) := fun {W z} hx => by
      have : x ∈ (adj (W ++ [z])).map Prod.fst := by rw [adj_fst]; exact hx
      obtain ⟨⟨p, q⟩, hp, e⟩ := List.mem_map.mp this
      dsimp only at e
      subst e
      exact ⟨q, hp⟩
    obtain ⟨q, hq⟩ := nx (z := M) hx
    obtain ⟨q', hq'⟩ := nx (z := m) hy
    rw [← e1] at hq
    rw [← e2] at hq'
    have rv : ∀ {st s t : List Pt} {a b : Pt}, st.reverse = s ++ a :: b :: t → st = t.reverse ++ b :: a :: s.reverse := fun {st s t a b} h => by
      rw [← List.reverse_reverse st, h]; simp
    have E1 : lx x q ∧ Edge (srt l) x q := by
      obtain ⟨s, t, e⟩ := mem_adj.mp hq
      exact edge_low L1 (rv e)
    have E2 : lx q' x ∧ Edge (srt l) x q' := by
      obtain ⟨s, t, e⟩ := mem_adj.mp hq'
      rw [chain_desc, ← List.map_reverse] at e
      have e' : (chainS ((srt l).reverse.map ng)).reverse = s.map ng ++ ng x :: ng q' :: t.map ng := by
        have := congrArg (List.map ng) e
        rw [List.map_map, show ng ∘ ng = id from funext ng_ng, List.map_id] at this
        rw [this]; simp
      have := edge_low L2 (rv e')
      exact ⟨lx_ng.mp this.1, Edge_ng.mp this.2⟩
    have h1 := E1.2.2.2.2 q' E2.2.2.1
    have h2 := E2.2.2.2.2 q E1.2.2.1
    have e3 : crs x q' q = -crs x q q' := by unfold crs; grind
    rcases h1.2 (by omega) with z | z | z | z
    · have := E2.1; rw [z] at this; exact lx_irr this
    · have := E2.1; rw [z] at this; exact lx_irr (lx_trans this E1.1)
    · exact lx_irr (lx_trans E2.1 z.1)
    · exact lx_irr (lx_trans E1.1 (lx_trans z.1 z.2))
/-- corners of a round lot, round -/
structure Cx (W : List Pt) : Prop where
  nd : W.Nodup
  st : ∀ a b, (a, b) ∈ cyc W → a ≠ b ∧ ∀ p ∈ W, p = a ∨ p = b ∨ 0 < crs a b p
theorem hull_cx {l : List Pt} {x y : Pt} (hx : x ∈ l) (hy : y ∈ l) (hxy : x ≠ y) : Cx (hullP l) :=
  ⟨hull_nodup, fun a b h => ⟨((hull_edge hx hy hxy).mp h).2.2.1, fun p hp => hull_strict h ((hull_edge hx hy hxy).mp h).2.2.1 hp⟩⟩
theorem Cx.edge {W : List Pt} (h : Cx W) {a b : Pt} (hab : (a, b) ∈ cyc W) : Edge W a b := by
  obtain ⟨ha, hb⟩ := mem_cyc hab
  obtain ⟨hne, hs⟩ := h.st a b hab
  refine ⟨ha, hb, hne, fun p hp => ?_⟩
  rcases hs p hp with rfl | rfl | z
  · rw [crs_self']; exact ⟨Int.le_refl _, fun _ => .inl rfl⟩
  · rw [crs_self]; exact ⟨Int.le_refl _, fun _ => .inr (.inl rfl)⟩
  · exact ⟨Int.le_of_lt z, fun e => by omega⟩
theorem Cx.two {W : List Pt} (h : Cx W) (ne : W ≠ []) : ∃ x y, x ∈ W ∧ y ∈ W ∧ x ≠ y := by
  cases W with
  | nil => exact absurd rfl ne
  | cons x r =>
    obtain ⟨q, hq⟩ := cyc_succ (W := x :: r) (p := x) List.mem_cons_self
    exact ⟨x, q, List.mem_cons_self, (mem_cyc hq).2, (h.st x q hq).1⟩
theorem cx_mem {W : List Pt} (h : Cx W) (ne : W ≠ []) {a b : Pt} : (a, b) ∈ cyc (hullP W) ↔ (a, b) ∈ cyc W := by
  obtain ⟨x, y, hx, hy, hxy⟩ := h.two ne
  constructor
  · intro hh
    have ha := hullP_sub (mem_cyc hh).1
    obtain ⟨q, hq⟩ := cyc_succ ha
    have := (hull_edge hx hy hxy).mpr (h.edge hq)
    rw [cyc_fun hull_nodup hh this]; exact hq
  · intro hh
    exact (hull_edge hx hy hxy).mpr (h.edge hh)
theorem cx_perm {W : List Pt} (h : Cx W) : (cyc (hullP W)).Perm (cyc W) := by
  by_cases ne : W = []
  · subst ne; exact .refl _
  · exact (List.perm_ext_iff_of_nodup (cyc_nodup hull_nodup) (cyc_nodup h.nd)).mpr fun ⟨a, b⟩ => cx_mem h ne
theorem cx_all {W : List Pt} (h : Cx W) : (hullP W).Perm W := by
  have := (cx_perm h).map Prod.fst
  rwa [cyc_fst, cyc_fst] at this
theorem adj_map (f : Pt → Pt) : ∀ l : List Pt, adj (l.map f) = (adj l).map fun p => (f p.1, f p.2)
  | [] => rfl
  | [_] => rfl
  | a :: b :: l => by
    show (f a, f b) :: adj ((b :: l).map f) = _
    rw [adj_map f (b :: l)]; rfl
theorem cyc_map (f : Pt → Pt) (W : List Pt) : cyc (W.map f) = (cyc W).map fun p => (f p.1, f p.2) := by
  unfold cyc
  rw [← List.map_take, ← List.map_append, adj_map]
/-- round the other way -/
def rv : List Pt → List Pt
  | [] => []
  | x :: r => x :: r.reverse
theorem mem_rv {x : Pt} : ∀ {W : List Pt}, x ∈ rv W ↔ x ∈ W
  | [] => Iff.rfl
  | y :: r => by unfold rv; simp
theorem adj_snoc (l : List Pt) (a b : Pt) : adj (l ++ [a, b]) = adj (l ++ [a]) ++ [(a, b)] := adj_app l a [b]
theorem adj_rev : ∀ l : List Pt, adj l.reverse = ((adj l).map Prod.swap).reverse
  | [] => rfl
  | [_] => rfl
  | a :: b :: l => by
    rw [List.reverse_cons, List.reverse_cons, List.append_assoc]
    show adj (l.reverse ++ [b, a]) = (((a, b) :: adj (b :: l)).map Prod.swap).reverse
    rw [adj_snoc, ← List.reverse_cons, adj_rev (b :: l)]
    simp
theorem cyc_rv : ∀ W : List Pt, cyc (rv W) = ((cyc W).map Prod.swap).reverse
  | [] => rfl
  | x :: r => by
    unfold cyc rv
    show adj (x :: r.reverse ++ [x]) = ((adj (x :: r ++ [x])).map Prod.swap).reverse
    rw [← adj_rev]
    simp
theorem rv_nodup : ∀ {W : List Pt}, W.Nodup → (rv W).Nodup
  | [], h => h
  | x :: r, h => by
    obtain ⟨h1, h2⟩ := List.nodup_cons.mp h
    exact List.nodup_cons.mpr ⟨fun z => h1 (List.mem_reverse.mp z), nodup_rev.mpr h2⟩
/-- tables that turn as they are -/
theorem Cx.led {W : List Pt} (h : Cx W) {f : Pt → Pt} (hf : ∀ a b d, crs (f a) (f b) (f d) = crs a b d) (inj : ∀ a b, f a = f b → a = b) : Cx (W.map f) := by
  refine ⟨nodup_map inj h.nd, fun a b hab => ?_⟩
  rw [cyc_map, List.mem_map] at hab
  obtain ⟨⟨u, v⟩, hu, e⟩ := hab
  injection e with e1 e2
  subst e1 e2
  obtain ⟨h1, h2⟩ := h.st u v hu
  refine ⟨fun z => h1 (inj _ _ z), fun p hp => ?_⟩
  obtain ⟨q, hq, rfl⟩ := List.mem_map.mp hp
  rw [hf]
  exact (h2 q hq).imp (fun z => by rw [z]) fun z => z.imp (fun z => by rw [z]) id
/-- tables that turn about -/
theorem Cx.flip {W : List Pt} (h : Cx W) {f : Pt → Pt} (hf : ∀ a b d, crs (f a) (f b) (f d) = -crs a b d) (inj : ∀ a b, f a = f b → a = b) : Cx (rv (W.map f)) := by
  refine ⟨rv_nodup (nodup_map inj h.nd), fun a b hab => ?_⟩
  rw [cyc_rv, List.mem_reverse, cyc_map, List.map_map, List.mem_map] at hab
  obtain ⟨⟨u, v⟩, hu, e⟩ := hab
  injection e with e1 e2
  subst e1 e2
  obtain ⟨h1, h2⟩ := h.st u v hu
  refine ⟨fun z => h1 (inj _ _ z).symm, fun p hp => ?_⟩
  rw [mem_rv] at hp
  obtain ⟨q, hq, rfl⟩ := List.mem_map.mp hp
  have e : crs (f v) (f u) (f q) = crs u v q := by
    have := hf u v q
    unfold crs at this ⊢; grind
  show f q = f v ∨ f q = f u ∨ 0 < crs (f v) (f u) (f q)
  rw [e]
  rcases h2 q hq with z | z | z
  · exact .inr (.inl (by rw [z]))
  · exact .inl (by rw [z])
  · exact .inr (.inr z)
theorem led_perm {W : List Pt} (h : Cx W) {f : Pt → Pt} (hf : ∀ a b d, crs (f a) (f b) (f d) = crs a b d) (inj : ∀ a b, f a = f b → a = b) : (cyc (hullP (W.map f))).Perm ((cyc W).map fun p => (f p.1, f p.2)) := by
  rw [← cyc_map]
  exact cx_perm (h.led hf inj)
theorem flip_perm {W : List Pt} (h : Cx W) {f : Pt → Pt} (hf : ∀ a b d, crs (f a) (f b) (f d) = -crs a b d) (inj : ∀ a b, f a = f b → a = b) : (cyc (hullP (W.map f))).Perm ((cyc W).map fun p => (f p.2, f p.1)) := by
  have e : hullP (W.map f) = hullP (rv (W.map f)) := hullP_ext fun x => mem_rv.symm
  rw [e]
  have := cx_perm (h.flip hf inj)
  rw [cyc_rv, cyc_map] at this
  refine this.trans ((List.reverse_perm _).trans (.of_eq ?_))
  rw [List.map_map]; rfl
theorem walk_eq {C : Pt → Pt → Prop} (hC : ∀ a b b', C a b → C a b' → b = b') : ∀ {l m : List Pt} {x z : Pt}, (∀ a b, (a, b) ∈ adj (x :: l ++ [z]) → C a b) → (∀ a b, (a, b) ∈ adj (x :: m ++ [z]) → C a b) → z ∉ l → z ∉ m → l = m
  | [], [], _, _, _, _, _, _ => rfl
  | [], y :: m, x, z, h1, h2, _, n2 => by
    have := hC x z y (h1 x z (by simp [adj])) (h2 x y (by simp [adj]))
    exact absurd (by rw [this]; simp) n2
  | y :: l, [], x, z, h1, h2, n1, _ => by
    have := hC x z y (h2 x z (by simp [adj])) (h1 x y (by simp [adj]))
    exact absurd (by rw [this]; simp) n1
  | y :: l, y' :: m, x, z, h1, h2, n1, n2 => by
    have e := hC x y y' (h1 x y (by simp [adj])) (h2 x y' (by simp [adj]))
    subst e
    rw [walk_eq hC (x := y) (z := z) (l := l) (m := m) (fun a b h => h1 a b (List.mem_cons_of_mem _ h)) (fun a b h => h2 a b (List.mem_cons_of_mem _ h)) (fun h => n1 (List.mem_cons_of_mem _ h)) fun h => n2 (List.mem_cons_of_mem _ h)]
/-- the hull begins at the least dot -/
theorem hull_head {l : List Pt} {x : Pt} (h : (hullP l).head? = some x) : ∀ p ∈ l, x = p ∨ lx x p := by
  intro p hp
  rw [← mem_srt] at hp
  unfold hullP at h
  split at h
  · match e : srt l, h, hp with
    | [y], h, hp =>
      have h : y = x := by simpa using h
      exact .inl (by rw [← h]; exact (List.mem_singleton.mp hp).symm)
    | y :: z :: r, _, _ => rename_i h2 _ _; rw [e] at h2; simp at h2; omega
  · rename_i h2
    obtain ⟨a, b, ha, hb, hab⟩ := two_of h2
    obtain ⟨m, M, l', u, e1, e2, hm, hM⟩ := chains srt_asc ha hb hab
    unfold hullS at h
    rw [e1, drop_last] at h
    have h : m = x := by simpa using h
    rw [← h]; exact hm p hp
/-- a round lot that begins at its least corner is its own hull -/
theorem cx_fix {x : Pt} {r : List Pt} (h : Cx (x :: r)) (hx : ∀ p ∈ x :: r, x = p ∨ lx x p) : hullP (x :: r) = x :: r := by
  have P := cx_all h
  cases e : hullP (x :: r) with
  | nil => rw [e] at P; exact absurd P.length_eq (by simp)
  | cons y m =>
    have hy : y = x := by
      have h1 : y ∈ x :: r := hullP_sub (by rw [e]; simp)
      exact lx_anti (hull_head (by rw [e]; rfl) x (by simp)) (hx y h1)
    subst hy
    have n1 := hull_nodup (l := y :: r)
    rw [e] at n1
    congr 1
    refine walk_eq (C := fun a b => (a, b) ∈ cyc (y :: r)) (fun a b b' => cyc_fun h.nd) (x := y) (z := y) (fun a b hab => ?_) (fun a b hab => hab) (List.nodup_cons.mp n1).1 (List.nodup_cons.mp h.nd).1
    rw [← cx_mem h (by simp), e]; exact hab
theorem hull_fix {l : List Pt} {x y : Pt} (hx : x ∈ l) (hy : y ∈ l) (hxy : x ≠ y) : hullP (hullP l) = hullP l := by
  have C := hull_cx hx hy hxy
  cases e : hullP l with
  | nil => rfl
  | cons z r =>
    rw [e] at C
    exact cx_fix C fun p hp => hull_head (by rw [e]; rfl) p (hullP_sub (by rw [e]; exact hp))
end NP
end
section
set_option Elab.async false
set_option linter.all false
set_option maxRecDepth 100000
set_option maxHeartbeats 4000000
open PySem PySem.Spec PyProof.Rows L2 VE VM VX
open VX.M (ret exc fail draw)
local macro_rules | `(tactic| walk_at "dj") => `(tactic| first | assumption | with_reducible rfl | omega | exact dat_int | exact dat_tup | exact dat_bl | exact dat_lst | exact dat_non | exact dat_str | exact dat_dct | exact dat_pt | exact cmulb_l (by omega) (by omega) | exact cmulb_r (by omega) (by omega) | exact divb (by omega) (by omega) (by omega) | exact szT_of (by simp only [List.length_map, List.length_cons, List.length_nil, List.length_append]; omega) | (simp only [List.length_map, List.length_cons, List.length_nil, List.length_append]; omega))
local macro_rules | `(tactic| walk_at "mx") => `(tactic| simp (config := {decide := false, implicitDefEqProofs := false}) (disch := walk_at "dj") only [runM, seqO, tgI0, app0, ins0, ixN0, ixRd, lenN0, startR, mV, rd, look, mC, mB, mU, mTst, asB, mAndT, mOrT, mNotT, mAndV, mOrV, mNotV, mIfE, mChain, mNil, mCons, bNilM, bConsM, mTup, mLst, mNoPart, asI, mPart, pSl, mSl, mCall, mCallN, bLen, bAbs, bInt, bMax2, bMin2, bList, bTuple, mIxN, mLenN, mNext, mBreak, mCont, mNever, mSeq, mRet, rdN, mRetN, mRet0, mIfS, mDrop, mSet, mPar, sets, tgN, tgZ, tgC, tgT, putIx, tgI, mAsg, augS, mAug, putApp, mAppend, putIns, mInsert, asL, iSeq, rng1_e, rng2_e, rangeI_len, zipM, enumM, enumA, iArg, mFor, mComp, mYes, endF, inRd, inRd, mInN, compN, mCompN, mPopAt, pop0, mPopL, popL0, mExtend, ext0, putExt, bSortedQ, bMinD, bMaxD, forStep, compStep, mForL, mCompL, wipeR, backR, VM.noOwnB, pBack, getO,
  okd_ret, bind_ret, bnd_ret, bind_fail, bnd_fail, mite_t, mite_f, add_ii, sub_ii, mul_ii, fdiv_ii, mod_ii, lt_ii, le_ii, gt_ii, ge_ii, neg_i, add_tt, add_ll, eq_ii, ne_ii, eq_bb, ne_bb, eq_ss, ne_ss, eq_pp, ne_pp, eq_lp, ne_lp, eq_tp, ne_tp, in_p, notin_p, is_n, isnot_n, isb_t, isb_f, isnb_t, isnb_f, x_pt0, x_pt1, x_t0, x_t1, x_t2, x_t3, x_l0, x_l1, x_l2, i_int, i_bool, i_tuple, i_list, i_str, szT_of, szd, szdl, bnd_ite, bind_ite, bnd_bnd, bind_bnd, bnd_bind, bind_bind, kIq_int, kIq_bl, kIq_tup, kIq_lst, kIq_str, kIq_non, kIq_hnd, kIq_dct0, kIq_ins, kBq_int, kBq_bl, kBq_tup, kBq_lst, kBq_str, kBq_non, kBq_hnd, kBq_dct0, kBq_ins, kTq_int, kTq_bl, kTq_tup, kTq_lst, kTq_str, kTq_non, kTq_hnd, kTq_dct0, kTq_ins, kLq_int, kLq_bl, kLq_tup, kLq_lst, kLq_str, kLq_non, kLq_hnd, kLq_dct0, kLq_ins, kSq_int, kSq_bl, kSq_tup, kSq_lst, kSq_str, kSq_non, kSq_hnd, kSq_dct0, kSq_ins, isNq_int, isNq_bl, isNq_tup, isNq_lst, isNq_str, isNq_non, isNq_hnd, isNq_dct0, isNq_ins, kIq_pt, kBq_pt, kTq_pt, kLq_pt, kSq_pt,
  Int.cast_ofNat_Int, Int.natCast_add, Int.natCast_one, Int.natCast_zero, pv_val, pv_own, List.set_cons_zero, List.set_cons_succ, List.length_cons, List.length_nil, List.length_map, List.map_cons, List.map_nil, List.replicate_succ, List.replicate_zero, List.nil_append, List.cons_append, List.append_nil, Nat.zero_add, Nat.reduceAdd, Nat.reduceSub, Nat.reduceEqDiff, Nat.reduceLeDiff, decide_true, decide_false, Bool.and_true, Bool.true_and, Bool.and_false, Bool.false_and, Bool.or_true, Bool.true_or, Bool.or_false, Bool.false_or, Bool.not_true, Bool.not_false, List.all_cons, List.all_nil, eq_self, if_true, if_false, Bool.false_eq_true, reduceCtorEq, Option.toList])
open NR VR NP
namespace VP
theorem cut_m1 {α : Type} {xs : List α} : cutP xs none (some (-1)) = xs.dropLast := by
  unfold cutP HT.sIx
  simp only [show ((-1 : Int) < 0) from by decide, if_true]
  show (xs.drop 0).take _ = _
  rw [List.drop_zero, List.dropLast_eq_take]
  congr 1
  omega
theorem sort_pts {l : List Pt} : sortDM (l.map pt) = ret (.own ((srt l).map pt)) := by
  obtain ⟨h1, h2⟩ := asc_ok (srt_asc (l := l))
  exact sortD_pt l h1 h2 fun p => mem_srt
theorem chain_len {ds : List Pt} : (chain ds).length ≤ ds.length := by
  unfold chain chainS
  rw [List.length_reverse]
  have pl : ∀ (st : List Pt) (d : Pt), (popW st d).length ≤ st.length := fun st d => by
    obtain ⟨t, e⟩ := popW_suf (d := d) (st := st)
    conv => rhs; rw [e]
    rw [List.length_append]; omega
  have : ∀ (ds st : List Pt), (ds.foldl stepS st).length ≤ st.length + ds.length := by
    intro ds
    induction ds with
    | nil => intro st; exact Nat.le_refl _
    | cons d ds ih =>
      intro st
      have := ih (stepS st d)
      have := pl st d
      rw [List.foldl_cons, List.length_cons]
      have e : (stepS st d).length = (popW st d).length + 1 := rfl
      omega
  have := this ds []
  simpa using this
theorem e_raw_hull {ds : List Pt} (ok : ∀ x ∈ ds, okPt x = true) (hl : ds.length ≤ 1000) {p : PV} (hp : p = .tup (ds.map pt) ∨ p = .lst (ds.map pt)) : c_raw_hull [p] = ret (.val (.tup ((hullP ds).map pt))) := by
  have l1 : (srt ds).length ≤ 1000 := Nat.le_trans srt_len hl
  have okS : ∀ x ∈ srt ds, okPt x = true := fun x hx => ok x (mem_srt.mp hx)
  have okR : ∀ x ∈ (srt ds).reverse, okPt x = true := fun x hx => okS x (List.mem_reverse.mp hx)
  have body : bSortedD [p] = ret (.own ((srt ds).map pt)) := by
    rcases hp with rfl | rfl <;> exact sort_pts
  rw [q_raw_hull]
  walk_at "mx"
  rw [body]
  walk_at "mx"
  unfold hullP
  by_cases h : (srt ds).length < 2
  · rw [if_pos h]
    have h' : ((srt ds).length : Int) < 2 := by omega
    simp only [decide_eq_true h']
    walk_at "mx"
  · rw [if_neg h]
    have h' : ¬ ((srt ds).length : Int) < 2 := by omega
    simp only [decide_eq_false h']
    walk_at "mx"
    rw [e_chain_by okS l1]
    walk_at "mx"
    rw [← List.map_reverse, e_chain_by okR (by rw [List.length_reverse]; exact l1)]
    walk_at "mx"
    rw [cut_m1, cut_m1]
    have k1 := chain_len (ds := srt ds)
    have k2 := chain_len (ds := (srt ds).reverse)
    rw [List.length_reverse] at k2
    have : (List.map pt (chain (srt ds))).dropLast.length + (List.map pt (chain (srt ds).reverse)).dropLast.length ≤ 1000000 := by
      rw [List.length_dropLast, List.length_dropLast, List.length_map, List.length_map]; omega
    walk_at "mx"
    rw [← List.map_dropLast, ← List.map_dropLast, ← List.map_append]
    rfl
/-- slots thing one -/
theorem k_are_dots : ∃ f : FM, f = runM (mRet (mAndV (mCall bIsi (mCons (mV 0) (mCons (mC (.ty "tuple")) mNil))) (mAndV (mChain pLe pLe (mC (.int 1)) (mCall bLen (mCons (mV 0) mNil)) (mC (.int 40))) (mCall bAll (mCons (mComp (iSeq (mV 0)) (tgN 1) mYes (mCallN 1 c_is_dot (mCons (mV 1) mNil)) [1]) mNil))))) 2 := ⟨_, rfl⟩
noncomputable def c_are_dots : FM := k_are_dots.choose
theorem q_are_dots : c_are_dots = runM (mRet (mAndV (mCall bIsi (mCons (mV 0) (mCons (mC (.ty "tuple")) mNil))) (mAndV (mChain pLe pLe (mC (.int 1)) (mCall bLen (mCons (mV 0) mNil)) (mC (.int 40))) (mCall bAll (mCons (mComp (iSeq (mV 0)) (tgN 1) mYes (mCallN 1 c_is_dot (mCons (mV 1) mNil)) [1]) mNil))))) 2 := k_are_dots.choose_spec
theorem e_are_dots {ds : List Pt} (ok : ∀ x ∈ ds, okPt x = true) (h1 : 1 ≤ ds.length) (h2 : ds.length ≤ 40) : c_are_dots [.tup (ds.map pt)] = ret (.val (.bl true)) := by
  rw [q_are_dots]
  walk_at "mx"
  rw [decide_eq_true (by omega : (1 : Int) ≤ (ds.length : Int))]
  walk_at "mx"
  rw [decide_eq_true (by omega : (ds.length : Int) ≤ 40)]
  walk_at "mx"
  refine bnd_map pt (fun y => PV.bl (okPt y)) ds (fun y hy => ?_) ?_
  · walk_at "mx"
    rw [e_is_dot dat2_pt, isDot_pt]
    walk_at "mx"
  · walk_at "mx"
    rw [show ds.map (fun y => PV.bl (okPt y)) = (ds.map okPt).map PV.bl by rw [List.map_map]; rfl, all_b, all_map_true ok]
    walk_at "mx"
/-- slots thing -/
theorem k_check_dots : ∃ f : FM, f = runM (mIfS (mNotT (mTst (mCallN 1 c_are_dots (mCons (mV 0) mNil)))) mNever mNext) 1 := ⟨_, rfl⟩
noncomputable def c_check_dots : FM := k_check_dots.choose
theorem q_check_dots : c_check_dots = runM (mIfS (mNotT (mTst (mCallN 1 c_are_dots (mCons (mV 0) mNil)))) mNever mNext) 1 := k_check_dots.choose_spec
theorem e_check_dots {ds : List Pt} (ok : ∀ x ∈ ds, okPt x = true) (h1 : 1 ≤ ds.length) (h2 : ds.length ≤ 40) : c_check_dots [.tup (ds.map pt)] = ret (.val .non) := by
  rw [q_check_dots]
  walk_at "mx"
  rw [e_are_dots ok h1 h2]
  walk_at "mx"
/-- slots dots -/
theorem k_hull : ∃ f : FM, f = runM (mSeq (mDrop (mCallN 1 c_check_dots (mCons (mV 0) mNil))) (mRet (mCallN 1 c_raw_hull (mCons (mV 0) mNil)))) 1 := ⟨_, rfl⟩
noncomputable def c_hull : FM := k_hull.choose
theorem q_hull : c_hull = runM (mSeq (mDrop (mCallN 1 c_check_dots (mCons (mV 0) mNil))) (mRet (mCallN 1 c_raw_hull (mCons (mV 0) mNil)))) 1 := k_hull.choose_spec
theorem e_hull {ds : List Pt} (ok : ∀ x ∈ ds, okPt x = true) (h1 : 1 ≤ ds.length) (h2 : ds.length ≤ 40) : c_hull [.tup (ds.map pt)] = ret (.val (.tup ((hullP ds).map pt))) := by
  rw [q_hull]
  walk_at "mx"
  rw [e_check_dots ok h1 h2]
  walk_at "mx"
  rw [e_raw_hull ok (by omega) (.inl rfl)]
  walk_at "mx"
/-- a polygon's corners -/
structure Pg (W : List Pt) : Prop where
  ok : ∀ x ∈ W, okPt x = true
  lo : 3 ≤ W.length
  hi : W.length ≤ 40
  fx : hullP W = W
/-- slots thing -/
theorem k_is_polygon : ∃ f : FM, f = runM (mRet (mAndV (mCallN 1 c_are_dots (mCons (mV 0) mNil)) (mAndV (mB pGt (mCall bLen (mCons (mV 0) mNil)) (mC (.int 2))) (mB pEq (mCallN 1 c_raw_hull (mCons (mV 0) mNil)) (mV 0))))) 1 := ⟨_, rfl⟩
noncomputable def c_is_polygon : FM := k_is_polygon.choose
theorem q_is_polygon : c_is_polygon = runM (mRet (mAndV (mCallN 1 c_are_dots (mCons (mV 0) mNil)) (mAndV (mB pGt (mCall bLen (mCons (mV 0) mNil)) (mC (.int 2))) (mB pEq (mCallN 1 c_raw_hull (mCons (mV 0) mNil)) (mV 0))))) 1 := k_is_polygon.choose_spec
theorem e_is_polygon {W : List Pt} (h : Pg W) : c_is_polygon [.tup (W.map pt)] = ret (.val (.bl true)) := by
  have h1 := h.lo
  have h2 := h.hi
  rw [q_is_polygon]
  walk_at "mx"
  rw [e_are_dots h.ok (by omega) h2]
  walk_at "mx"
  rw [decide_eq_true (by omega : (2 : Int) < (W.length : Int))]
  walk_at "mx"
  rw [e_raw_hull h.ok (by omega) (.inl rfl), h.fx]
  walk_at "mx"
/-- slots thing -/
theorem k_check_polygon : ∃ f : FM, f = runM (mIfS (mNotT (mTst (mCallN 1 c_is_polygon (mCons (mV 0) mNil)))) mNever mNext) 1 := ⟨_, rfl⟩
noncomputable def c_check_polygon : FM := k_check_polygon.choose
theorem q_check_polygon : c_check_polygon = runM (mIfS (mNotT (mTst (mCallN 1 c_is_polygon (mCons (mV 0) mNil)))) mNever mNext) 1 := k_check_polygon.choose_spec
theorem e_check_polygon {W : List Pt} (h : Pg W) : c_check_polygon [.tup (W.map pt)] = ret (.val .non) := by
  rw [q_check_polygon]
  walk_at "mx"
  rw [e_is_polygon h]
  walk_at "mx"
end VP
end
section
set_option Elab.async false
set_option linter.all false
set_option maxRecDepth 100000
open VM NR
namespace NP
/-! ### sizes -/
/-- twice the area -/
def dbl (W : List Pt) : Int := ((cyc W).map fun p => turn p.1 p.2).sum
def gc (p : Pt) : Int := (Int.gcd p.1 p.2 : Int)
/-- dots on the border -/
def rim (W : List Pt) : Int := ((cyc W).map fun p => gc (sub p.2 p.1)).sum
def odd1 (p : Pt) : Int := if p.1 % 2 = 0 ∧ p.2 % 2 = 0 then 0 else 1
theorem gc_par (p : Pt) : gc p % 2 = odd1 p := by
  unfold gc odd1
  have h1 : (Int.gcd p.1 p.2 : Int) ∣ p.1 := Int.gcd_dvd_left ..
  have h2 : (Int.gcd p.1 p.2 : Int) ∣ p.2 := Int.gcd_dvd_right ..
  split
  · rename_i h
    have : (2 : Int) ∣ Int.gcd p.1 p.2 := Int.dvd_coe_gcd (Int.dvd_of_emod_eq_zero h.1) (Int.dvd_of_emod_eq_zero h.2)
    omega
  · rename_i h
    have : ¬ (2 : Int) ∣ Int.gcd p.1 p.2 := fun z => h ⟨Int.emod_eq_zero_of_dvd (Int.dvd_trans z h1), Int.emod_eq_zero_of_dvd (Int.dvd_trans z h2)⟩
    omega
theorem mul_par (a b : Int) : (a * b) % 2 = (a % 2) * (b % 2) % 2 := Int.mul_emod a b 2
theorem side_par (p q : Pt) : (turn p q + gc (sub q p)) % 2 = (odd1 p + odd1 q) % 2 := by
  have h := gc_par (sub q p)
  have m1 := mul_par p.1 q.2
  have m2 := mul_par p.2 q.1
  have e : turn p q = p.1 * q.2 - p.2 * q.1 := rfl
  unfold odd1 at h ⊢
  have e1 : (sub q p).1 = q.1 - p.1 := rfl
  have e2 : (sub q p).2 = q.2 - p.2 := rfl
  rw [e1, e2] at h
  rw [e]
  generalize gc (sub q p) = g at h ⊢
  generalize p.1 * q.2 = x at m1 ⊢
  generalize p.2 * q.1 = y at m2 ⊢
  rcases Int.emod_two_eq p.1 with a | a <;> rcases Int.emod_two_eq p.2 with b | b <;> rcases Int.emod_two_eq q.1 with c | c <;> rcases Int.emod_two_eq q.2 with d | d <;> rw [a, d] at m1 <;> rw [b, c] at m2 <;> simp only [a, b, c, d, Int.mul_zero, Int.zero_mul, Int.mul_one, Int.one_mul] at m1 m2 ⊢ <;> (split at h) <;> simp <;> omega
theorem adj_tel : ∀ (f : Pt → Int) (l : List Pt) (x y : Pt), ∃ k : Int, ((adj (x :: l ++ [y])).map fun p => f p.1 + f p.2).sum = f x + f y + 2 * k
  | f, [], x, y => ⟨0, by simp [adj]⟩
  | f, z :: l, x, y => by
    obtain ⟨k, e⟩ := adj_tel f l z y
    refine ⟨f z + k, ?_⟩
    show (((x, z) :: adj (z :: l ++ [y])).map fun p : Pt × Pt => f p.1 + f p.2).sum = _
    rw [List.map_cons, List.sum_cons, e]
    show f x + f z + _ = _
    omega
theorem sum_par {α : Type} (f g : α → Int) : ∀ (l : List α), (∀ x ∈ l, f x % 2 = g x % 2) → (l.map f).sum % 2 = (l.map g).sum % 2
  | [], _ => rfl
  | x :: l, h => by
    have h1 := h x List.mem_cons_self
    have h2 := sum_par f g l fun y hy => h y (List.mem_cons_of_mem _ hy)
    simp only [List.map_cons, List.sum_cons]
    omega
theorem sum_add {α : Type} (f g : α → Int) : ∀ l : List α, (l.map fun x => f x + g x).sum = (l.map f).sum + (l.map g).sum
  | [] => rfl
  | x :: l => by
    simp only [List.map_cons, List.sum_cons, sum_add f g l]; omega
/-- area and border go together -/
theorem dbl_rim (W : List Pt) : (dbl W + rim W) % 2 = 0 := by
  unfold dbl rim
  rw [← sum_add, sum_par _ (fun p : Pt × Pt => odd1 p.1 + odd1 p.2) _ fun p _ => side_par p.1 p.2]
  cases W with
  | nil => rfl
  | cons x l =>
    obtain ⟨k, e⟩ := adj_tel odd1 l x x
    unfold cyc
    rw [show x :: l ++ List.take 1 (x :: l) = x :: l ++ [x] from rfl, e]
    omega
theorem gc_pos {p : Pt} (h : p ≠ (0, 0)) : 1 ≤ gc p := by
  unfold gc
  have : 0 < Int.gcd p.1 p.2 := by
    rcases Nat.eq_zero_or_pos (Int.gcd p.1 p.2) with z | z
    · rw [Int.gcd_eq_zero_iff] at z
      exact absurd (Prod.ext z.1 z.2) h
    · exact z
  omega
theorem sub_ne {a b : Pt} (h : a ≠ b) : sub b a ≠ (0, 0) := fun z => h <| by
  unfold sub at z
  injection z with z1 z2
  exact Prod.ext (by omega) (by omega)
theorem sum_ge {α : Type} {f : α → Int} {n : Int} : ∀ {l : List α}, (∀ x ∈ l, n ≤ f x) → n * l.length ≤ (l.map f).sum
  | [], _ => by simp
  | x :: l, h => by
    have h1 := h x List.mem_cons_self
    have h2 := sum_ge (l := l) fun y hy => h y (List.mem_cons_of_mem _ hy)
    rw [List.map_cons, List.sum_cons, List.length_cons]
    have : n * ((l.length + 1 : Nat) : Int) = n * l.length + n := by rw [Int.natCast_add, Int.mul_add]; omega
    omega
theorem sum_le {α : Type} {f : α → Int} {n : Int} : ∀ {l : List α}, (∀ x ∈ l, f x ≤ n) → (l.map f).sum ≤ n * l.length
  | [], _ => by simp
  | x :: l, h => by
    have h1 := h x List.mem_cons_self
    have h2 := sum_le (l := l) fun y hy => h y (List.mem_cons_of_mem _ hy)
    rw [List.map_cons, List.sum_cons, List.length_cons]
    have : n * ((l.length + 1 : Nat) : Int) = n * l.length + n := by rw [Int.natCast_add, Int.mul_add]; omega
    omega
theorem rim_ge {W : List Pt} (h : Cx W) : (W.length : Int) ≤ rim W := by
  have := sum_ge (f := fun p : Pt × Pt => gc (sub p.2 p.1)) (n := 1) (l := cyc W) fun p hp => gc_pos (sub_ne (h.st p.1 p.2 hp).1)
  rw [cyc_len] at this
  unfold rim; omega
/-- the area from any dot on -/
theorem dbl_from (o : Pt) (W : List Pt) : dbl W = ((cyc W).map fun p => crs o p.1 p.2).sum := by
  have e : ∀ p : Pt × Pt, crs o p.1 p.2 = turn p.1 p.2 + (turn o p.1 - turn o p.2) := fun p => by unfold crs turn; grind
  rw [List.map_congr_left fun p _ => e p, sum_add]
  have z : ((cyc W).map fun p : Pt × Pt => turn o p.1 - turn o p.2).sum = 0 := by
    cases W with
    | nil => rfl
    | cons x l =>
      have : ∀ (l : List Pt) (x y : Pt), ((adj (x :: l ++ [y])).map fun p : Pt × Pt => turn o p.1 - turn o p.2).sum = turn o x - turn o y := by
        intro l
        induction l with
        | nil => intro x y; simp [adj]
        | cons z l ih =>
          intro x y
          show (((x, z) :: adj (z :: l ++ [y])).map fun p : Pt × Pt => turn o p.1 - turn o p.2).sum = _
          rw [List.map_cons, List.sum_cons, ih]
          show turn o x - turn o z + _ = _
          omega
      unfold cyc
      rw [show x :: l ++ List.take 1 (x :: l) = x :: l ++ [x] from rfl, this]
      omega
  rw [z]; unfold dbl; omega
theorem sum_nn {α : Type} {f : α → Int} : ∀ {l : List α} {x : α}, (∀ x ∈ l, 0 ≤ f x) → x ∈ l → f x ≤ (l.map f).sum
  | y :: l, x, h, hx => by
    have h1 := h y List.mem_cons_self
    have h2 := sum_ge (n := 0) (f := f) (l := l) fun z hz => h z (List.mem_cons_of_mem _ hz)
    rw [List.map_cons, List.sum_cons]
    rcases List.mem_cons.mp hx with rfl | hx
    · omega
    · have := sum_nn (fun z hz => h z (List.mem_cons_of_mem _ hz)) hx
      omega
theorem dbl_pos {W : List Pt} (h : Cx W) (hl : 3 ≤ W.length) : 0 < dbl W := by
  match W, h, hl with
  | o :: b :: c :: r, h, _ =>
    rw [dbl_from o]
    have hm : (b, c) ∈ cyc (o :: b :: c :: r) := by
      unfold cyc
      exact mem_adj.mpr ⟨[o], r ++ [o], by simp⟩
    have hn := h.nd
    have h1 : o ≠ b := fun z => by simp [z] at hn
    have h2 : o ≠ c := fun z => by simp [z] at hn
    have t : 0 < crs b c o := by
      rcases (h.st b c hm).2 o (by simp) with z | z | z
      · exact absurd z h1
      · exact absurd z h2
      · exact z
    have e : ∀ p q : Pt, crs o p q = crs p q o := fun p q => by unfold crs; grind
    have := sum_nn (f := fun p : Pt × Pt => crs o p.1 p.2) (l := cyc (o :: b :: c :: r)) (x := (b, c)) (fun p hp => by
      show 0 ≤ crs o p.1 p.2
      rw [e]
      rcases (h.st p.1 p.2 hp).2 o (by simp) with z | z | z
      · rw [z, crs_self']; exact Int.le_refl _
      · rw [z, crs_self]; exact Int.le_refl _
      · exact Int.le_of_lt z) hm
    have t' : 0 < crs o b c := by rw [e]; exact t
    exact Int.lt_of_lt_of_le t' this
end NP
end
section
set_option Elab.async false
set_option linter.all false
set_option maxRecDepth 100000
set_option maxHeartbeats 4000000
open PySem PySem.Spec PyProof.Rows L2 VE VM VX
open VX.M (ret exc fail draw)
local macro_rules | `(tactic| walk_at "dj") => `(tactic| first | assumption | with_reducible rfl | omega | exact dat_int | exact dat_tup | exact dat_bl | exact dat_lst | exact dat_non | exact dat_str | exact dat_dct | exact dat_pt | exact cmulb_l (by omega) (by omega) | exact cmulb_r (by omega) (by omega) | exact divb (by omega) (by omega) (by omega) | exact szT_of (by simp only [List.length_map, List.length_cons, List.length_nil, List.length_append]; omega) | (simp only [List.length_map, List.length_cons, List.length_nil, List.length_append]; omega))
local macro_rules | `(tactic| walk_at "mx") => `(tactic| simp (config := {decide := false, implicitDefEqProofs := false}) (disch := walk_at "dj") only [runM, seqO, tgI0, app0, ins0, ixN0, ixRd, lenN0, startR, mV, rd, look, mC, mB, mU, mTst, asB, mAndT, mOrT, mNotT, mAndV, mOrV, mNotV, mIfE, mChain, mNil, mCons, bNilM, bConsM, mTup, mLst, mNoPart, asI, mPart, pSl, mSl, mCall, mCallN, bLen, bAbs, bInt, bMax2, bMin2, bList, bTuple, mIxN, mLenN, mNext, mBreak, mCont, mNever, mSeq, mRet, rdN, mRetN, mRet0, mIfS, mDrop, mSet, mPar, sets, tgN, tgZ, tgC, tgT, putIx, tgI, mAsg, augS, mAug, putApp, mAppend, putIns, mInsert, asL, iSeq, rng1_e, rng2_e, rangeI_len, zipM, enumM, enumA, iArg, mFor, mComp, mYes, endF, inRd, inRd, mInN, compN, mCompN, mPopAt, pop0, mPopL, popL0, mExtend, ext0, putExt, bSortedQ, bMinD, bMaxD, forStep, compStep, mForL, mCompL, wipeR, backR, VM.noOwnB, pBack, getO,
  okd_ret, bind_ret, bnd_ret, bind_fail, bnd_fail, mite_t, mite_f, add_ii, sub_ii, mul_ii, fdiv_ii, mod_ii, lt_ii, le_ii, gt_ii, ge_ii, neg_i, add_tt, add_ll, eq_ii, ne_ii, eq_bb, ne_bb, eq_ss, ne_ss, eq_pp, ne_pp, eq_lp, ne_lp, eq_tp, ne_tp, in_p, notin_p, is_n, isnot_n, isb_t, isb_f, isnb_t, isnb_f, x_pt0, x_pt1, x_t0, x_t1, x_t2, x_t3, x_l0, x_l1, x_l2, i_int, i_bool, i_tuple, i_list, i_str, szT_of, szd, szdl, bnd_ite, bind_ite, bnd_bnd, bind_bnd, bnd_bind, bind_bind, kIq_int, kIq_bl, kIq_tup, kIq_lst, kIq_str, kIq_non, kIq_hnd, kIq_dct0, kIq_ins, kBq_int, kBq_bl, kBq_tup, kBq_lst, kBq_str, kBq_non, kBq_hnd, kBq_dct0, kBq_ins, kTq_int, kTq_bl, kTq_tup, kTq_lst, kTq_str, kTq_non, kTq_hnd, kTq_dct0, kTq_ins, kLq_int, kLq_bl, kLq_tup, kLq_lst, kLq_str, kLq_non, kLq_hnd, kLq_dct0, kLq_ins, kSq_int, kSq_bl, kSq_tup, kSq_lst, kSq_str, kSq_non, kSq_hnd, kSq_dct0, kSq_ins, isNq_int, isNq_bl, isNq_tup, isNq_lst, isNq_str, isNq_non, isNq_hnd, isNq_dct0, isNq_ins, kIq_pt, kBq_pt, kTq_pt, kLq_pt, kSq_pt,
  Int.cast_ofNat_Int, Int.natCast_add, Int.natCast_one, Int.natCast_zero, pv_val, pv_own, List.set_cons_zero, List.set_cons_succ, List.length_cons, List.length_nil, List.length_map, List.map_cons, List.map_nil, List.replicate_succ, List.replicate_zero, List.nil_append, List.cons_append, List.append_nil, Nat.zero_add, Nat.reduceAdd, Nat.reduceSub, Nat.reduceEqDiff, Nat.reduceLeDiff, decide_true, decide_false, Bool.and_true, Bool.true_and, Bool.and_false, Bool.false_and, Bool.or_true, Bool.true_or, Bool.or_false, Bool.false_or, Bool.not_true, Bool.not_false, List.all_cons, List.all_nil, eq_self, if_true, if_false, Bool.false_eq_true, reduceCtorEq, Option.toList])
open NR VR NP
namespace VP
theorem enum_map {α : Type} (f : α → PV) : ∀ (xs : List α) (n : Nat), enumP n (xs.map f) = (xs.zipIdx n).map fun z => PV.tup [.int (z.2 : Int), f z.1]
  | [], _ => rfl
  | x :: xs, n => by
    rw [List.map_cons, List.zipIdx_cons, List.map_cons]
    show PV.tup [.int (n : Int), f x] :: enumP (n + 1) (xs.map f) = _
    rw [enum_map f xs (n + 1)]
theorem enum_cyc (W : List Pt) : enumP 0 (W.map pt) = (cyc W).zipIdx.map fun z => PV.tup [.int (z.2 : Int), pt z.1.1] := by
  have := enum_map (fun p : Pt × Pt => pt p.1) (cyc W) 0
  rw [← this]
  conv => lhs; rw [← cyc_fst W]
  rw [List.map_map]; rfl
theorem adj_get : ∀ {l : List Pt} {i : Nat} {a b : Pt}, (adj l)[i]? = some (a, b) → l[i]? = some a ∧ l[i + 1]? = some b
  | [], i, a, b, h => by simp [adj] at h
  | [_], i, a, b, h => by simp [adj] at h
  | x :: y :: r, 0, a, b, h => by
    have : (x, y) = (a, b) := by simpa [adj] using h
    injection this with e1 e2
    subst e1 e2
    exact ⟨rfl, rfl⟩
  | x :: y :: r, i + 1, a, b, h => by
    have h' : (adj (y :: r))[i]? = some (a, b) := by simpa [adj] using h
    have := adj_get h'
    exact ⟨by rw [List.getElem?_cons_succ]; exact this.1, by rw [List.getElem?_cons_succ]; exact this.2⟩
theorem cyc_get {W : List Pt} {i : Nat} {a b : Pt} (h : (cyc W)[i]? = some (a, b)) : W[i]? = some a ∧ W[(i + 1) % W.length]? = some b := by
  have hi : i < W.length := by
    have := (List.getElem?_eq_some_iff.mp h).1
    rwa [cyc_len] at this
  unfold cyc at h
  obtain ⟨h1, h2⟩ := adj_get h
  rw [List.getElem?_append_left hi] at h1
  refine ⟨h1, ?_⟩
  by_cases e : i + 1 < W.length
  · rw [Nat.mod_eq_of_lt e]
    rw [List.getElem?_append_left e] at h2; exact h2
  · have e' : i + 1 = W.length := by omega
    rw [List.getElem?_append_right (by omega), e', Nat.sub_self] at h2
    rw [e', Nat.mod_self]
    cases W with
    | nil => exact absurd hi (by simp)
    | cons x r => exact h2
theorem at_nat {W : List Pt} {n : Nat} {b : Pt} (h : W[n]? = some b) : pIx (.tup (W.map pt)) (.int (n : Int)) = ret (.val (pt b)) := by
  have hl := (List.getElem?_eq_some_iff.mp h)
  obtain ⟨hn, e⟩ := hl
  refine ixt ?_
  rw [VM.atI_get rfl (by rw [List.length_map]; exact hn), List.getElem_map, e]
theorem at_next {W : List Pt} {z : (Pt × Pt) × Nat} (hz : z ∈ (cyc W).zipIdx) : pIx (.tup (W.map pt)) (.int (Int.fmod ((z.2 : Int) + 1) (W.length : Int))) = ret (.val (pt z.1.2)) := by
  obtain ⟨⟨a, b⟩, i⟩ := z
  have h := List.mem_zipIdx_iff_getElem?.mp hz
  have := (cyc_get h).2
  have e : Int.fmod ((i : Int) + 1) (W.length : Int) = (((i + 1) % W.length : Nat) : Int) := by
    rw [Int.fmod_eq_emod_of_nonneg _ (by omega)]; rfl
  dsimp only
  rw [e]
  exact at_nat this
theorem zix_map {α : Type} (F : α → PV) (l : List α) : (l.zipIdx.map fun z => F z.1) = l.map F := by
  have : (l.zipIdx.map Prod.fst) = l := by simp
  conv => rhs; rw [← this]
  rw [List.map_map]; rfl
theorem zix_mem {α : Type} {l : List α} {z : α × Nat} (h : z ∈ l.zipIdx) : z.1 ∈ l := List.mem_of_getElem? (List.mem_zipIdx_iff_getElem?.mp h)
theorem ok_lg {p : Pt} (h : okPt p = true) : lgP p := lgP_of (smP_of h)
def prP (p : Pt × Pt) : PV := .tup [pt p.1, pt p.2]
/-- slots polygon at corner -/
theorem k_pairs_of : ∃ f : FM, f = runM (mRet (mComp (iArg enumA (mCons (mV 0) mNil)) (tgT 2 (tgC (tgN 1) (tgC (tgN 2) tgZ))) mYes (mTup (mCons (mV 2) (mCons (mB pIx (mV 0) (mB pMod (mB pAdd (mV 1) (mC (.int 1))) (mCall bLen (mCons (mV 0) mNil)))) mNil))) [1, 2])) 3 := ⟨_, rfl⟩
noncomputable def c_pairs_of : FM := k_pairs_of.choose
theorem q_pairs_of : c_pairs_of = runM (mRet (mComp (iArg enumA (mCons (mV 0) mNil)) (tgT 2 (tgC (tgN 1) (tgC (tgN 2) tgZ))) mYes (mTup (mCons (mV 2) (mCons (mB pIx (mV 0) (mB pMod (mB pAdd (mV 1) (mC (.int 1))) (mCall bLen (mCons (mV 0) mNil)))) mNil))) [1, 2])) 3 := k_pairs_of.choose_spec
theorem e_pairs_of {W : List Pt} (hl : W.length ≤ 1000) (h0 : 0 < W.length) : c_pairs_of [.tup (W.map pt)] = ret (.own ((cyc W).map prP)) := by
  have hc := cyc_len W
  rw [q_pairs_of]
  walk_at "mx"
  rw [enum_cyc]
  refine bnd_map (fun z : (Pt × Pt) × Nat => PV.tup [.int (z.2 : Int), pt z.1.1]) (fun z => prP z.1) _ (fun z hz => ?_) ?_
  · walk_at "mx"
    rw [at_next hz]
    walk_at "mx"
    rfl
  · rw [zix_map prP]
    walk_at "mx"
/-- slots polygon at corner -/
theorem k_sides_of : ∃ f : FM, f = runM (mRet (mComp (iArg enumA (mCons (mV 0) mNil)) (tgT 2 (tgC (tgN 1) (tgC (tgN 2) tgZ))) mYes (mCallN 2 c_less (mCons (mB pIx (mV 0) (mB pMod (mB pAdd (mV 1) (mC (.int 1))) (mCall bLen (mCons (mV 0) mNil)))) (mCons (mV 2) mNil))) [1, 2])) 3 := ⟨_, rfl⟩
noncomputable def c_sides_of : FM := k_sides_of.choose
theorem q_sides_of : c_sides_of = runM (mRet (mComp (iArg enumA (mCons (mV 0) mNil)) (tgT 2 (tgC (tgN 1) (tgC (tgN 2) tgZ))) mYes (mCallN 2 c_less (mCons (mB pIx (mV 0) (mB pMod (mB pAdd (mV 1) (mC (.int 1))) (mCall bLen (mCons (mV 0) mNil)))) (mCons (mV 2) mNil))) [1, 2])) 3 := k_sides_of.choose_spec
theorem e_sides_of {W : List Pt} (hl : W.length ≤ 1000) (h0 : 0 < W.length) : c_sides_of [.tup (W.map pt)] = ret (.own ((cyc W).map fun p => pt (NP.sub p.2 p.1))) := by
  have hc := cyc_len W
  rw [q_sides_of]
  walk_at "mx"
  rw [enum_cyc]
  refine bnd_map (fun z : (Pt × Pt) × Nat => PV.tup [.int (z.2 : Int), pt z.1.1]) (fun z => pt (NP.sub z.1.2 z.1.1)) _ (fun z hz => ?_) ?_
  · walk_at "mx"
    rw [at_next hz]
    walk_at "mx"
    rw [e_less]
    walk_at "mx"
  · rw [zix_map (fun p : Pt × Pt => pt (NP.sub p.2 p.1))]
    walk_at "mx"
/-- slots polygon at corner -/
theorem k_raw_double : ∃ f : FM, f = runM (mRet (mCall bSum (mCons (mComp (iArg enumA (mCons (mV 0) mNil)) (tgT 2 (tgC (tgN 1) (tgC (tgN 2) tgZ))) mYes (mCallN 2 c_raw_turn (mCons (mV 2) (mCons (mB pIx (mV 0) (mB pMod (mB pAdd (mV 1) (mC (.int 1))) (mCall bLen (mCons (mV 0) mNil)))) mNil))) [1, 2]) mNil))) 3 := ⟨_, rfl⟩
noncomputable def c_raw_double : FM := k_raw_double.choose
theorem q_raw_double : c_raw_double = runM (mRet (mCall bSum (mCons (mComp (iArg enumA (mCons (mV 0) mNil)) (tgT 2 (tgC (tgN 1) (tgC (tgN 2) tgZ))) mYes (mCallN 2 c_raw_turn (mCons (mV 2) (mCons (mB pIx (mV 0) (mB pMod (mB pAdd (mV 1) (mC (.int 1))) (mCall bLen (mCons (mV 0) mNil)))) mNil))) [1, 2]) mNil))) 3 := k_raw_double.choose_spec
theorem e_raw_double {W : List Pt} (ok : ∀ x ∈ W, okPt x = true) (hl : W.length ≤ 1000) (h0 : 0 < W.length) : c_raw_double [.tup (W.map pt)] = ret (.val (.int (dbl W))) := by
  have hc := cyc_len W
  rw [q_raw_double]
  walk_at "mx"
  rw [enum_cyc]
  refine bnd_map (fun z : (Pt × Pt) × Nat => PV.tup [.int (z.2 : Int), pt z.1.1]) (fun z => PV.int (turn z.1.1 z.1.2)) _ (fun z hz => ?_) ?_
  · walk_at "mx"
    rw [at_next hz]
    walk_at "mx"
    rw [e_raw_turn (.inl (ok_lg (ok _ (mem_cyc (zix_mem hz)).1)))]
    walk_at "mx"
  · rw [zix_map (fun p : Pt × Pt => PV.int (turn p.1 p.2))]
    walk_at "mx"
    rw [show (cyc W).map (fun p : Pt × Pt => PV.int (turn p.1 p.2)) = ((cyc W).map fun p => turn p.1 p.2).map PV.int by rw [List.map_map]; rfl, sum_b]
    walk_at "mx"
    rfl
theorem sub_nat {p q : Pt} (hp : okPt p = true) (hq : okPt q = true) : (NP.sub p q).1.natAbs < 10 ^ 59 ∧ (NP.sub p q).2.natAbs < 10 ^ 59 := by
  have := okPt_iff.mp hp
  have := okPt_iff.mp hq
  unfold NP.sub; dsimp only; omega
/-- slots polygon side -/
theorem k_raw_border : ∃ f : FM, f = runM (mRet (mCall bSum (mCons (mComp (iSeq (mCallN 1 c_sides_of (mCons (mV 0) mNil))) (tgN 1) mYes (mCallN 2 c_common_divisor (mCons (mB pIx (mV 1) (mC (.int 0))) (mCons (mB pIx (mV 1) (mC (.int 1))) mNil))) [1]) mNil))) 2 := ⟨_, rfl⟩
noncomputable def c_raw_border : FM := k_raw_border.choose
theorem q_raw_border : c_raw_border = runM (mRet (mCall bSum (mCons (mComp (iSeq (mCallN 1 c_sides_of (mCons (mV 0) mNil))) (tgN 1) mYes (mCallN 2 c_common_divisor (mCons (mB pIx (mV 1) (mC (.int 0))) (mCons (mB pIx (mV 1) (mC (.int 1))) mNil))) [1]) mNil))) 2 := k_raw_border.choose_spec
theorem e_raw_border {W : List Pt} (ok : ∀ x ∈ W, okPt x = true) (hl : W.length ≤ 1000) (h0 : 0 < W.length) : c_raw_border [.tup (W.map pt)] = ret (.val (.int (rim W))) := by
  have hc := cyc_len W
  rw [q_raw_border]
  walk_at "mx"
  rw [e_sides_of hl h0]
  walk_at "mx"
  rw [show (cyc W).map (fun p : Pt × Pt => pt (NP.sub p.2 p.1)) = ((cyc W).map fun p => NP.sub p.2 p.1).map pt by rw [List.map_map]; rfl]
  refine bnd_map pt (fun z => PV.int (gc z)) _ (fun z hz => ?_) ?_
  · obtain ⟨p, hp, rfl⟩ := List.mem_map.mp hz
    have hm := mem_cyc hp
    obtain ⟨s1, s2⟩ := sub_nat (ok _ hm.2) (ok _ hm.1)
    walk_at "mx"
    rw [e_common_divisor s1 s2]
    walk_at "mx"
    rfl
  · walk_at "mx"
    rw [List.map_map, show (cyc W).map ((fun z : Pt => PV.int (gc z)) ∘ fun p : Pt × Pt => NP.sub p.2 p.1) = ((cyc W).map fun p => gc (NP.sub p.2 p.1)).map PV.int by rw [List.map_map]; rfl, sum_b]
    walk_at "mx"
    rfl
end VP
end
section
set_option Elab.async false
set_option linter.all false
set_option maxRecDepth 100000
set_option maxHeartbeats 4000000
open PySem PySem.Spec PyProof.Rows L2 VE VM VX
open VX.M (ret exc fail draw)
local macro_rules | `(tactic| walk_at "dj") => `(tactic| first | assumption | with_reducible rfl | omega | exact dat_int | exact dat_tup | exact dat_bl | exact dat_lst | exact dat_non | exact dat_str | exact dat_dct | exact dat_pt | exact cmulb_l (by omega) (by omega) | exact cmulb_r (by omega) (by omega) | exact divb (by omega) (by omega) (by omega) | exact szT_of (by simp only [List.length_map, List.length_cons, List.length_nil, List.length_append]; omega) | (simp only [List.length_map, List.length_cons, List.length_nil, List.length_append]; omega))
local macro_rules | `(tactic| walk_at "mx") => `(tactic| simp (config := {decide := false, implicitDefEqProofs := false}) (disch := walk_at "dj") only [runM, seqO, tgI0, app0, ins0, ixN0, ixRd, lenN0, startR, mV, rd, look, mC, mB, mU, mTst, asB, mAndT, mOrT, mNotT, mAndV, mOrV, mNotV, mIfE, mChain, mNil, mCons, bNilM, bConsM, mTup, mLst, mNoPart, asI, mPart, pSl, mSl, mCall, mCallN, bLen, bAbs, bInt, bMax2, bMin2, bList, bTuple, mIxN, mLenN, mNext, mBreak, mCont, mNever, mSeq, mRet, rdN, mRetN, mRet0, mIfS, mDrop, mSet, mPar, sets, tgN, tgZ, tgC, tgT, putIx, tgI, mAsg, augS, mAug, putApp, mAppend, putIns, mInsert, asL, iSeq, rng1_e, rng2_e, rangeI_len, zipM, enumM, enumA, iArg, mFor, mComp, mYes, endF, inRd, inRd, mInN, compN, mCompN, mPopAt, pop0, mPopL, popL0, mExtend, ext0, putExt, bSortedQ, bMinD, bMaxD, forStep, compStep, mForL, mCompL, wipeR, backR, VM.noOwnB, pBack, getO,
  okd_ret, bind_ret, bnd_ret, bind_fail, bnd_fail, mite_t, mite_f, add_ii, sub_ii, mul_ii, fdiv_ii, mod_ii, lt_ii, le_ii, gt_ii, ge_ii, neg_i, add_tt, add_ll, eq_ii, ne_ii, eq_bb, ne_bb, eq_ss, ne_ss, eq_pp, ne_pp, eq_lp, ne_lp, eq_tp, ne_tp, in_p, notin_p, is_n, isnot_n, isb_t, isb_f, isnb_t, isnb_f, x_pt0, x_pt1, x_t0, x_t1, x_t2, x_t3, x_l0, x_l1, x_l2, i_int, i_bool, i_tuple, i_list, i_str, szT_of, szd, szdl, bnd_ite, bind_ite, bnd_bnd, bind_bnd, bnd_bind, bind_bind, kIq_int, kIq_bl, kIq_tup, kIq_lst, kIq_str, kIq_non, kIq_hnd, kIq_dct0, kIq_ins, kBq_int, kBq_bl, kBq_tup, kBq_lst, kBq_str, kBq_non, kBq_hnd, kBq_dct0, kBq_ins, kTq_int, kTq_bl, kTq_tup, kTq_lst, kTq_str, kTq_non, kTq_hnd, kTq_dct0, kTq_ins, kLq_int, kLq_bl, kLq_tup, kLq_lst, kLq_str, kLq_non, kLq_hnd, kLq_dct0, kLq_ins, kSq_int, kSq_bl, kSq_tup, kSq_lst, kSq_str, kSq_non, kSq_hnd, kSq_dct0, kSq_ins, isNq_int, isNq_bl, isNq_tup, isNq_lst, isNq_str, isNq_non, isNq_hnd, isNq_dct0, isNq_ins, kIq_pt, kBq_pt, kTq_pt, kLq_pt, kSq_pt,
  Int.cast_ofNat_Int, Int.natCast_add, Int.natCast_one, Int.natCast_zero, pv_val, pv_own, List.set_cons_zero, List.set_cons_succ, List.length_cons, List.length_nil, List.length_map, List.map_cons, List.map_nil, List.replicate_succ, List.replicate_zero, List.nil_append, List.cons_append, List.append_nil, Nat.zero_add, Nat.reduceAdd, Nat.reduceSub, Nat.reduceEqDiff, Nat.reduceLeDiff, decide_true, decide_false, Bool.and_true, Bool.true_and, Bool.and_false, Bool.false_and, Bool.or_true, Bool.true_or, Bool.or_false, Bool.false_or, Bool.not_true, Bool.not_false, List.all_cons, List.all_nil, eq_self, if_true, if_false, Bool.false_eq_true, reduceCtorEq, Option.toList])
open NR VR NP
namespace VP
theorem turn_bd {p q : Pt} (hp : okPt p = true) (hq : okPt q = true) : -200000000 ≤ turn p q ∧ turn p q ≤ 200000000 := by
  have h1 := okPt_iff.mp hp
  have h2 := okPt_iff.mp hq
  have key : ∀ a b : Int, -10000 ≤ a → a ≤ 10000 → -10000 ≤ b → b ≤ 10000 → -100000000 ≤ a * b ∧ a * b ≤ 100000000 := fun a b a1 a2 b1 b2 => by
    have n1 := Int.mul_nonneg (show 0 ≤ 10000 - a by omega) (show 0 ≤ 10000 - b by omega)
    have n2 := Int.mul_nonneg (show 0 ≤ 10000 + a by omega) (show 0 ≤ 10000 + b by omega)
    have n3 := Int.mul_nonneg (show 0 ≤ 10000 - a by omega) (show 0 ≤ 10000 + b by omega)
    have n4 := Int.mul_nonneg (show 0 ≤ 10000 + a by omega) (show 0 ≤ 10000 - b by omega)
    constructor <;> grind
  have k1 := key p.1 q.2 h1.1 h1.2.1 h2.2.2.1 h2.2.2.2
  have k2 := key p.2 q.1 h1.2.2.1 h1.2.2.2 h2.1 h2.2.1
  unfold turn; omega
theorem dbl_bd {W : List Pt} (h : Pg W) : -8000000000 ≤ dbl W ∧ dbl W ≤ 8000000000 := by
  have h1 := sum_ge (f := fun p : Pt × Pt => turn p.1 p.2) (n := -200000000) (l := cyc W) fun p hp => (turn_bd (h.ok _ (mem_cyc hp).1) (h.ok _ (mem_cyc hp).2)).1
  have h2 := sum_le (f := fun p : Pt × Pt => turn p.1 p.2) (n := 200000000) (l := cyc W) fun p hp => (turn_bd (h.ok _ (mem_cyc hp).1) (h.ok _ (mem_cyc hp).2)).2
  rw [cyc_len] at h1 h2
  have := h.hi
  unfold dbl; omega
theorem gc_bd {p q : Pt} (hp : okPt p = true) (hq : okPt q = true) : 0 ≤ gc (NP.sub q p) ∧ gc (NP.sub q p) ≤ 20000 := by
  have h1 := okPt_iff.mp hp
  have h2 := okPt_iff.mp hq
  unfold gc
  refine ⟨Int.natCast_nonneg _, ?_⟩
  by_cases z : (NP.sub q p).1 = 0
  · rw [z, Int.gcd_zero_left]
    have : (NP.sub q p).2 = q.2 - p.2 := rfl
    omega
  · have := Int.gcd_le_natAbs_left (NP.sub q p).2 z
    have e : (NP.sub q p).1 = q.1 - p.1 := rfl
    omega
theorem rim_bd {W : List Pt} (h : Pg W) : 0 ≤ rim W ∧ rim W ≤ 800000 := by
  have h1 := sum_ge (f := fun p : Pt × Pt => gc (NP.sub p.2 p.1)) (n := 0) (l := cyc W) fun p hp => (gc_bd (h.ok _ (mem_cyc hp).1) (h.ok _ (mem_cyc hp).2)).1
  have h2 := sum_le (f := fun p : Pt × Pt => gc (NP.sub p.2 p.1)) (n := 20000) (l := cyc W) fun p hp => (gc_bd (h.ok _ (mem_cyc hp).1) (h.ok _ (mem_cyc hp).2)).2
  rw [cyc_len] at h1 h2
  have := h.hi
  unfold rim; omega
theorem Pg.two {W : List Pt} (h : Pg W) : ∃ x y, x ∈ W ∧ y ∈ W ∧ x ≠ y := by
  have hl := h.lo
  have hn := hull_nodup (l := W)
  rw [h.fx] at hn
  match W, hl, hn with
  | a :: b :: r, _, hn => exact ⟨a, b, by simp, by simp, fun z => by simp [z] at hn⟩
theorem Pg.cx {W : List Pt} (h : Pg W) : Cx W := by
  obtain ⟨x, y, hx, hy, hxy⟩ := h.two
  have := hull_cx hx hy hxy
  rwa [h.fx] at this
theorem Pg.pos {W : List Pt} (h : Pg W) : 0 < W.length := by have := h.lo; omega
/-- slots polygon times most -/
theorem k_check_times : ∃ f : FM, f = runM (mSeq (mDrop (mCallN 1 c_check_polygon (mCons (mV 0) mNil))) (mIfS (mNotT (mTst (mCallN 3 c_is_within (mCons (mV 1) (mCons (mC (.int 1)) (mCons (mV 2) mNil)))))) mNever mNext)) 3 := ⟨_, rfl⟩
noncomputable def c_check_times : FM := k_check_times.choose
theorem q_check_times : c_check_times = runM (mSeq (mDrop (mCallN 1 c_check_polygon (mCons (mV 0) mNil))) (mIfS (mNotT (mTst (mCallN 3 c_is_within (mCons (mV 1) (mCons (mC (.int 1)) (mCons (mV 2) mNil)))))) mNever mNext)) 3 := k_check_times.choose_spec
theorem e_check_times {W : List Pt} (h : Pg W) {t m : Int} (h1 : 1 ≤ t) (h2 : t ≤ m) : c_check_times [.tup (W.map pt), .int t, .int m] = ret (.val .non) := by
  rw [q_check_times]
  walk_at "mx"
  rw [e_check_polygon h]
  walk_at "mx"
  rw [e_is_within dat_int, show within 1 m (.int t) = true from by unfold within; simp [h1, h2]]
  walk_at "mx"
/-- slots area border times -/
theorem k_dots_by : ∃ f : FM, f = runM (mRet (mB pAdd (mB pFdiv (mB pAdd (mB pMul (mB pMul (mV 0) (mV 2)) (mV 2)) (mB pMul (mV 1) (mV 2))) (mC (.int 2))) (mC (.int 1)))) 3 := ⟨_, rfl⟩
noncomputable def c_dots_by : FM := k_dots_by.choose
theorem q_dots_by : c_dots_by = runM (mRet (mB pAdd (mB pFdiv (mB pAdd (mB pMul (mB pMul (mV 0) (mV 2)) (mV 2)) (mB pMul (mV 1) (mV 2))) (mC (.int 2))) (mC (.int 1)))) 3 := k_dots_by.choose_spec
theorem e_dots_by {a b t : Int} (ha : -8000000000 ≤ a ∧ a ≤ 8000000000) (hb : 0 ≤ b ∧ b ≤ 800000) (ht : -1000000 ≤ t ∧ t ≤ 1000000) : c_dots_by [.int a, .int b, .int t] = ret (.val (.int ((a * t * t + b * t).fdiv 2 + 1))) := by
  rw [q_dots_by]
  walk_at "mx"
/-- slots polygon times -/
theorem k_dots_in : ∃ f : FM, f = runM (mSeq (mDrop (mCallN 3 c_check_times (mCons (mV 0) (mCons (mV 1) (mCons (mC (.int 1000000)) mNil))))) (mRet (mCallN 3 c_dots_by (mCons (mCallN 1 c_raw_double (mCons (mV 0) mNil)) (mCons (mCallN 1 c_raw_border (mCons (mV 0) mNil)) (mCons (mV 1) mNil)))))) 2 := ⟨_, rfl⟩
noncomputable def c_dots_in : FM := k_dots_in.choose
theorem q_dots_in : c_dots_in = runM (mSeq (mDrop (mCallN 3 c_check_times (mCons (mV 0) (mCons (mV 1) (mCons (mC (.int 1000000)) mNil))))) (mRet (mCallN 3 c_dots_by (mCons (mCallN 1 c_raw_double (mCons (mV 0) mNil)) (mCons (mCallN 1 c_raw_border (mCons (mV 0) mNil)) (mCons (mV 1) mNil)))))) 2 := k_dots_in.choose_spec
theorem e_dots_in {W : List Pt} (h : Pg W) {t : Int} (h1 : 1 ≤ t) (h2 : t ≤ 1000000) : c_dots_in [.tup (W.map pt), .int t] = ret (.val (.int ((dbl W * t * t + rim W * t).fdiv 2 + 1))) := by
  have hp := h.hi
  rw [q_dots_in]
  walk_at "mx"
  rw [e_check_times h h1 h2]
  walk_at "mx"
  rw [e_raw_double h.ok (by omega) h.pos]
  walk_at "mx"
  rw [e_raw_border h.ok (by omega) h.pos]
  walk_at "mx"
  rw [e_dots_by (dbl_bd h) (rim_bd h) (by omega)]
  walk_at "mx"
/-- slots first second number area border -/
theorem k_by_growth : ∃ f : FM, f = runM (mSeq (mFor (iSeq (mTup (mCons (mV 0) (mCons (mV 1) mNil)))) (tgN 2) (mIfS (mOrT (mNotT (mTst (mCallN 1 c_is_integer (mCons (mV 2) mNil)))) (mTst (mB pLt (mV 2) (mC (.int 0))))) mNever mNext)) (mSeq (mSet 3 (mB pAdd (mB pSub (mV 1) (mB pMul (mC (.int 2)) (mV 0))) (mC (.int 1)))) (mSeq (mSet 4 (mB pSub (mB pMul (mC (.int 2)) (mB pSub (mV 0) (mC (.int 1)))) (mV 3))) (mRet (mIfE (mAndT (mTst (mB pGt (mV 3) (mC (.int 0)))) (mTst (mB pGe (mV 4) (mC (.int 3))))) (mTup (mCons (mV 3) (mCons (mV 4) mNil))) (mC .non)))))) 5 := ⟨_, rfl⟩
noncomputable def c_by_growth : FM := k_by_growth.choose
theorem q_by_growth : c_by_growth = runM (mSeq (mFor (iSeq (mTup (mCons (mV 0) (mCons (mV 1) mNil)))) (tgN 2) (mIfS (mOrT (mNotT (mTst (mCallN 1 c_is_integer (mCons (mV 2) mNil)))) (mTst (mB pLt (mV 2) (mC (.int 0))))) mNever mNext)) (mSeq (mSet 3 (mB pAdd (mB pSub (mV 1) (mB pMul (mC (.int 2)) (mV 0))) (mC (.int 1)))) (mSeq (mSet 4 (mB pSub (mB pMul (mC (.int 2)) (mB pSub (mV 0) (mC (.int 1)))) (mV 3))) (mRet (mIfE (mAndT (mTst (mB pGt (mV 3) (mC (.int 0)))) (mTst (mB pGe (mV 4) (mC (.int 3))))) (mTup (mCons (mV 3) (mCons (mV 4) mNil))) (mC .non)))))) 5 := k_by_growth.choose_spec
def growB (f s : Int) : PV := if 0 < s - 2 * f + 1 ∧ 3 ≤ 2 * (f - 1) - (s - 2 * f + 1) then pt (s - 2 * f + 1, 2 * (f - 1) - (s - 2 * f + 1)) else .non
theorem e_by_growth {f s : Int} (hf : 0 ≤ f) (hs : 0 ≤ s) (bf : f < 1000000000000) : c_by_growth [.int f, .int s] = ret (.val (growB f s)) := by
  have nf : ¬ f < 0 := by omega
  have ns : ¬ s < 0 := by omega
  rw [q_by_growth]
  walk_at "mx"
  rw [e_is_integer dat_int]
  walk_at "mx"
  simp only [isI]
  walk_at "mx"
  simp only [decide_eq_false nf]
  walk_at "mx"
  rw [e_is_integer dat_int]
  walk_at "mx"
  simp only [isI]
  walk_at "mx"
  simp only [decide_eq_false ns]
  walk_at "mx"
  unfold growB
  by_cases c1 : 0 < s - 2 * f + 1
  · simp only [decide_eq_true c1]
    walk_at "mx"
    by_cases c2 : 3 ≤ 2 * (f - 1) - (s - 2 * f + 1)
    · simp only [decide_eq_true c2, c1, c2]
      walk_at "mx"
      rfl
    · simp only [decide_eq_false c2, c1, c2]
      walk_at "mx"
      simp only [and_false, if_false]
  · simp only [decide_eq_false c1, c1]
    walk_at "mx"
    simp only [false_and, if_false]
end VP
end
section
set_option Elab.async false
set_option linter.all false
set_option maxRecDepth 100000
set_option maxHeartbeats 4000000
open PySem PySem.Spec PyProof.Rows L2 VE
local macro_rules | `(tactic| walk_at "vx") => `(tactic| simp (config := {decide := false}) only [wVar, wC, wBin, wUn, wTst, wAndT, wOrT, wNotT, wAndV, wOrV, wNotV, wIf, wNil, wCons, wTup, wLst, wSl, wNoPart, wPart, wCall, wCallN, wNext, wSeq, wBreak, wCont, wNever, wRet, wRetN, wRet0, wIfS, wDrop, wSet, wPar, wPar3, wgName, wgNil, wgCons, wgTup, wgIx, wAsg, wAug, wAppend, wInsert, bNil, bCons, wParB, wParB3, wAsgB, sets, VM.exB2, VM.exB3, VM.zipP_cons, VM.zipP_nil, VM.compL_cons, VM.compL_nil, wiSeq, wiRng1, wiRng2, wiZip, wiEnum, wFor, wYes, wComp, wChain, wipeR, backR, look, VM.ex2, VM.ex3, VM.eq_int, VM.ne_int, VM.ix_t0, VM.ix_t1, VM.ix_t2, VM.ix_l0, VM.ix_l1, VM.ix_l2, VM.ix_pt0, VM.ix_pt1, VM.eq_bl, VM.ne_bl, VM.eq_str, VM.ne_str, VM.is_non, VM.isnot_non, decide_true, decide_false, decide_eq_true_eq, eq_self, VM.pv_val, VM.pv_own, VM.noOwn_eq, VM.noOwnB, List.all_cons, List.all_nil, Bool.and_self, opInt, opSub, opMod, opFdiv, opPow, opCmpI, opLt, opLe, opGt, opGe, opAdd, opMul, opNeg, opLen, opAbs, opIntC, opMax2, opMin2, opList, opTuple, opSl, opBack, wIxN, wLenN, startR,
  List.set_cons_zero, List.set_cons_succ, List.length_cons, List.length_nil, List.map_cons, List.map_nil, List.replicate_succ, List.replicate_zero, List.nil_append, List.cons_append, Nat.zero_add, Nat.reduceAdd, Nat.reduceSub, if_true, if_false, true_and, and_true, Bool.false_eq_true, ite_true, ite_false, List.cons.injEq, PV.int.injEq, PV.bl.injEq, exists_eq_left, exists_eq_left', exists_and_left, and_self, reduceCtorEq, Bool.not_true, Bool.not_false, ite_self])
local macro_rules | `(tactic| walk_at "vc") => `(tactic| repeat (with_reducible refine And.intro ?_ ?_; focus first | omega | with_reducible rfl | exact VM.szb rfl | exact VM.szlb rfl | exact VM.cmul_l (by omega) (by omega) | exact VM.cmul_r (by omega) (by omega) | exact VM.divok (by omega) (by omega) (by omega) | omega))

namespace VM
/-! ### things that are shown -/
structure ShD (d : PyData) (n w : Nat) : Prop where
  sh : d.showable = true
  dep : d.depth ≤ n
  lf : d.leavesShort 40 = true
  wt : d.weight ≤ w
structure ShDs (ds : List PyData) (n w : Nat) : Prop where
  sh : PyData.showableAll ds = true
  dep : PyData.depthAll ds ≤ n
  lf : PyData.leavesShortAll 40 ds = true
  wt : PyData.weightAll ds ≤ w
/-- shown, at most n deep, of that weight -/
def Sh (p : PV) (n w : Nat) : Prop := ∃ d, toD p = some d ∧ ShD d n w
def Shs (ps : List PV) (n w : Nat) : Prop := ∃ ds, toDs ps = some ds ∧ ShDs ds n w
theorem sh_non : Sh .non 0 0 := ⟨_, rfl, rfl, Nat.le_refl _, rfl, Nat.le_refl _⟩
theorem sh_bl {b : Bool} : Sh (.bl b) 0 0 := ⟨_, rfl, rfl, Nat.le_refl _, rfl, Nat.le_refl _⟩
theorem log2_lt_128 {i : Int} (h : i.natAbs < 10 ^ 32) : i.natAbs.log2 < 128 := by
  by_cases h0 : i.natAbs = 0
  · rw [h0]; decide
  · exact (Nat.log2_lt h0).mpr (Nat.lt_trans h (by decide))
theorem sh_int {i : Int} (h : i.natAbs < 10 ^ 32) : Sh (.int i) 0 128 := by
  have l := log2_lt_128 h
  refine ⟨_, rfl, ?_, Nat.le_refl _, ?_, ?_⟩
  · simp only [PyData.showable, decide_eq_true_eq]; omega
  · simp only [PyData.leavesShort, decide_eq_true_eq, PyData.shown]
    have e := int_text_length_le10 (a := i) (k := 32) (by decide) h
    have : (Str.ofString (toString i)).length ≤ 40 := by rw [PySem.ofString_length]; omega
    exact decide_eq_true this
  · simp only [PyData.weight]
    split <;> omega
theorem shs_nil : Shs [] 0 0 := ⟨[], rfl, rfl, Nat.le_refl _, rfl, Nat.le_refl _⟩
theorem shs_cons {p : PV} {ps : List PV} {a b m n : Nat} (h : Sh p a m) (h' : Shs ps b n) : Shs (p :: ps) (max a b) (m + 1 + n) := by
  obtain ⟨d, e, h⟩ := h
  obtain ⟨ds, e', h'⟩ := h'
  refine ⟨d :: ds, by simp only [toDs, e, e'], ?_, ?_, ?_, ?_⟩
  · simp only [PyData.showableAll, h.sh, h'.sh, Bool.and_self]
  · have := h.dep; have := h'.dep; simp only [PyData.depthAll]; omega
  · simp only [PyData.leavesShortAll, h.lf, h'.lf, Bool.and_self]
  · have := h.wt; have := h'.wt; simp only [PyData.weightAll]; omega
theorem sh_tup {ps : List PV} {n w : Nat} (h : Shs ps n w) : Sh (.tup ps) (n + 1) w := by
  obtain ⟨ds, e, h⟩ := h
  refine ⟨.tuple ds, toD_tup e, ?_, ?_, ?_, ?_⟩
  · simp only [PyData.showable]; exact h.sh
  · simp only [PyData.depth]; exact Nat.succ_le_succ h.dep
  · simp only [PyData.leavesShort]; exact h.lf
  · simp only [PyData.weight]; exact h.wt
theorem sh_lst {ps : List PV} {n w : Nat} (h : Shs ps n w) : Sh (.lst ps) (n + 1) w := by
  obtain ⟨ds, e, h⟩ := h
  refine ⟨.list ds, toD_lst e, ?_, ?_, ?_, ?_⟩
  · simp only [PyData.showable]; exact h.sh
  · simp only [PyData.depth]; exact Nat.succ_le_succ h.dep
  · simp only [PyData.leavesShort]; exact h.lf
  · simp only [PyData.weight]; exact h.wt
theorem sh_str {x : Str} {w : Nat} (h : (x.cps.toList.all fun c => decide (c < 16 ^ 8)) = true) (hw : x.cps.size ≤ w) : Sh (.str x) 0 w := by
  refine ⟨_, rfl, rfl, Nat.le_refl _, ?_, ?_⟩
  · simp only [PyData.leavesShort]; exact h
  · simp only [PyData.weight]; exact hw
theorem Sh.up {p : PV} {n w n' w' : Nat} (h : Sh p n w) (h1 : n ≤ n') (h2 : w ≤ w') : Sh p n' w' := by
  obtain ⟨d, e, h⟩ := h
  exact ⟨d, e, h.sh, Nat.le_trans h.dep h1, h.lf, Nat.le_trans h.wt h2⟩
theorem sh_nest {p y : PV} {n a w : Nat} (h : Sh p a w) (hn : Nest p n y) : Sh y (a + n) (w + n) := by
  induction hn with
  | nil => exact h
  | tup _ ih => exact (sh_tup (shs_cons ih shs_nil)).up (by omega) (by omega)
  | lst _ ih => exact (sh_lst (shs_cons ih shs_nil)).up (by omega) (by omega)
theorem sh_chars {x : Str} (h : ∀ c ∈ x.cps.toList, c < 1114112) : (x.cps.toList.all fun c => decide (c < 16 ^ 8)) = true := by
  rw [List.all_eq_true]
  intro c hc
  have := h c hc
  exact decide_eq_true (by omega)
theorem chars_of (s : String) : ∀ c ∈ (Str.ofString s).cps.toList, c < 1114112 := by
  intro c hc
  have e : (Str.ofString s).cps.toList = s.toList.map Char.toNat := by rw [Str.ofString_eq_toList]
  rw [e] at hc
  obtain ⟨ch, _, rfl⟩ := List.mem_map.mp hc
  have := ch.valid
  unfold UInt32.isValidChar Nat.isValidChar at this
  show ch.val.toNat < _
  omega
theorem sh_text {i : Int} (h : i.natAbs < 10 ^ 32) : Sh (.str (toString i)) 0 40 := by
  refine sh_str (sh_chars (chars_of _)) ?_
  have e := int_text_length_le10 (a := i) (k := 32) (by decide) h
  have : (Str.ofString (toString i)).length ≤ 40 := by rw [PySem.ofString_length]; omega
  exact this
/-- what is shown of it, if it can be shown: any text -/
def Shown (p : PV) : Prop := (∃ n w, n ≤ 64 ∧ w ≤ 10000 ∧ Sh p n w) ∨ p = .dct0
theorem repr_of {p : PV} (h : Shown p) : ∃ x, ∀ Q : Sl → Prop, Q (.val (.str x)) → opRepr [p] Q := by
  rcases h with ⟨n, w, hn, hw, d, e, h⟩ | rfl
  · refine ⟨d.shown, fun Q q => ⟨p, rfl, .inl ⟨d, e, h.sh, Nat.le_trans h.dep hn, ?_, q⟩⟩⟩
    have h1 := PyData.shown_le 40 (by omega) d h.lf
    have h2 := h.wt
    have : 42 * d.weight ≤ 42 * 10000 := Nat.mul_le_mul_left 42 (by omega)
    rw [sizeLine_eq]; omega
  · exact ⟨_, fun Q q => ⟨.dct0, rfl, .inr ⟨rfl, q⟩⟩⟩
end VM
end
section
set_option Elab.async false
set_option linter.all false
set_option maxRecDepth 100000
set_option maxHeartbeats 4000000
open PySem PySem.Spec PyProof.Rows L2 VE VM VX
open VX.M (ret exc fail draw)
local macro_rules | `(tactic| walk_at "dj") => `(tactic| first | assumption | with_reducible rfl | omega | exact dat_int | exact dat_tup | exact dat_bl | exact dat_lst | exact dat_non | exact dat_str | exact dat_dct | exact dat_pt | exact cmulb_l (by omega) (by omega) | exact cmulb_r (by omega) (by omega) | exact divb (by omega) (by omega) (by omega) | exact szT_of (by simp only [List.length_map, List.length_cons, List.length_nil, List.length_append]; omega) | (simp only [List.length_map, List.length_cons, List.length_nil, List.length_append]; omega))
local macro_rules | `(tactic| walk_at "mx") => `(tactic| simp (config := {decide := false, implicitDefEqProofs := false}) (disch := walk_at "dj") only [runM, seqO, tgI0, app0, ins0, ixN0, ixRd, lenN0, startR, mV, rd, look, mC, mB, mU, mTst, asB, mAndT, mOrT, mNotT, mAndV, mOrV, mNotV, mIfE, mChain, mNil, mCons, bNilM, bConsM, mTup, mLst, mNoPart, asI, mPart, pSl, mSl, mCall, mCallN, bLen, bAbs, bInt, bMax2, bMin2, bList, bTuple, mIxN, mLenN, mNext, mBreak, mCont, mNever, mSeq, mRet, rdN, mRetN, mRet0, mIfS, mDrop, mSet, mPar, sets, tgN, tgZ, tgC, tgT, putIx, tgI, mAsg, augS, mAug, putApp, mAppend, putIns, mInsert, asL, iSeq, rng1_e, rng2_e, rangeI_len, zipM, enumM, enumA, iArg, mFor, mComp, mYes, endF, inRd, inRd, mInN, compN, mCompN, mPopAt, pop0, mPopL, popL0, mExtend, ext0, putExt, bSortedQ, bMinD, bMaxD, forStep, compStep, mForL, mCompL, wipeR, backR, VM.noOwnB, pBack, getO,
  okd_ret, bind_ret, bnd_ret, bind_fail, bnd_fail, mite_t, mite_f, add_ii, sub_ii, mul_ii, fdiv_ii, mod_ii, lt_ii, le_ii, gt_ii, ge_ii, neg_i, add_tt, add_ll, eq_ii, ne_ii, eq_bb, ne_bb, eq_ss, ne_ss, eq_pp, ne_pp, eq_lp, ne_lp, eq_tp, ne_tp, in_p, notin_p, is_n, isnot_n, isb_t, isb_f, isnb_t, isnb_f, x_pt0, x_pt1, x_t0, x_t1, x_t2, x_t3, x_l0, x_l1, x_l2, i_int, i_bool, i_tuple, i_list, i_str, szT_of, szd, szdl, bnd_ite, bind_ite, bnd_bnd, bind_bnd, bnd_bind, bind_bind, kIq_int, kIq_bl, kIq_tup, kIq_lst, kIq_str, kIq_non, kIq_hnd, kIq_dct0, kIq_ins, kBq_int, kBq_bl, kBq_tup, kBq_lst, kBq_str, kBq_non, kBq_hnd, kBq_dct0, kBq_ins, kTq_int, kTq_bl, kTq_tup, kTq_lst, kTq_str, kTq_non, kTq_hnd, kTq_dct0, kTq_ins, kLq_int, kLq_bl, kLq_tup, kLq_lst, kLq_str, kLq_non, kLq_hnd, kLq_dct0, kLq_ins, kSq_int, kSq_bl, kSq_tup, kSq_lst, kSq_str, kSq_non, kSq_hnd, kSq_dct0, kSq_ins, isNq_int, isNq_bl, isNq_tup, isNq_lst, isNq_str, isNq_non, isNq_hnd, isNq_dct0, isNq_ins, kIq_pt, kBq_pt, kTq_pt, kLq_pt, kSq_pt,
  Int.cast_ofNat_Int, Int.natCast_add, Int.natCast_one, Int.natCast_zero, pv_val, pv_own, List.set_cons_zero, List.set_cons_succ, List.length_cons, List.length_nil, List.length_map, List.map_cons, List.map_nil, List.replicate_succ, List.replicate_zero, List.nil_append, List.cons_append, List.append_nil, Nat.zero_add, Nat.reduceAdd, Nat.reduceSub, Nat.reduceEqDiff, Nat.reduceLeDiff, decide_true, decide_false, Bool.and_true, Bool.true_and, Bool.and_false, Bool.false_and, Bool.or_true, Bool.true_or, Bool.or_false, Bool.false_or, Bool.not_true, Bool.not_false, List.all_cons, List.all_nil, eq_self, if_true, if_false, Bool.false_eq_true, reduceCtorEq, Option.toList])

namespace VX
/-- what is shown, as a tree -/
theorem e_repr {p : PV} (h : Shown p) : ∃ x, bRepr [p] = ret (.val (.str x)) := by
  rcases h with ⟨n, w, hn, hw, d, e, h⟩ | rfl
  · refine ⟨d.shown, ?_⟩
    have hl : d.shown.length ≤ sizeLine := by
      have h1 := PyData.shown_le 40 (by omega) d h.lf
      have h2 := h.wt
      have : 42 * d.weight ≤ 42 * 10000 := Nat.mul_le_mul_left 42 (by omega)
      rw [sizeLine_eq]; omega
    unfold bRepr reprM
    simp only [e]
    refine mite_p ?_
    unfold shown2
    simp only [Bool.and_eq_true, decide_eq_true_eq]
    exact ⟨⟨h.sh, Nat.le_trans h.dep hn⟩, hl⟩
  · exact ⟨_, rfl⟩
theorem shown_of {p : PV} {n w : Nat} (h : Sh p n w) (hn : n ≤ 64) (hw : w ≤ 10000) : Shown p := .inl ⟨n, w, hn, hw, h⟩
theorem sh_pt {p : Pt} (h1 : p.1.natAbs < 10 ^ 32) (h2 : p.2.natAbs < 10 ^ 32) : Sh (pt p) 1 300 := (sh_tup (shs_cons (sh_int h1) (shs_cons (sh_int h2) shs_nil))).up (by decide) (by decide)
theorem shs_map {α : Type} (f : α → PV) {n w : Nat} : ∀ {l : List α}, (∀ x ∈ l, Sh (f x) n w) → Shs (l.map f) n ((w + 1) * l.length)
  | [], _ => by
    obtain ⟨ds, e, h⟩ := shs_nil
    exact ⟨ds, e, h.sh, Nat.le_trans h.dep (Nat.zero_le _), h.lf, Nat.le_trans h.wt (Nat.zero_le _)⟩
  | x :: l, h => by
    have h1 := shs_cons (h x List.mem_cons_self) (shs_map f fun y hy => h y (List.mem_cons_of_mem _ hy))
    obtain ⟨ds, e, h1⟩ := h1
    refine ⟨ds, e, h1.sh, Nat.le_trans h1.dep (by omega), h1.lf, Nat.le_trans h1.wt ?_⟩
    rw [List.length_cons, Nat.mul_add]; omega
end VX
end
section
set_option Elab.async false
set_option linter.all false
set_option maxRecDepth 100000
set_option maxHeartbeats 4000000
open PySem PySem.Spec PyProof.Rows L2 VE VM VX
open VX.M (ret exc fail draw)
local macro_rules | `(tactic| walk_at "dj") => `(tactic| first | assumption | with_reducible rfl | omega | exact dat_int | exact dat_tup | exact dat_bl | exact dat_lst | exact dat_non | exact dat_str | exact dat_dct | exact dat_pt | exact cmulb_l (by omega) (by omega) | exact cmulb_r (by omega) (by omega) | exact divb (by omega) (by omega) (by omega) | exact szT_of (by simp only [List.length_map, List.length_cons, List.length_nil, List.length_append]; omega) | (simp only [List.length_map, List.length_cons, List.length_nil, List.length_append]; omega))
local macro_rules | `(tactic| walk_at "mx") => `(tactic| simp (config := {decide := false, implicitDefEqProofs := false}) (disch := walk_at "dj") only [runM, seqO, tgI0, app0, ins0, ixN0, ixRd, lenN0, startR, mV, rd, look, mC, mB, mU, mTst, asB, mAndT, mOrT, mNotT, mAndV, mOrV, mNotV, mIfE, mChain, mNil, mCons, bNilM, bConsM, mTup, mLst, mNoPart, asI, mPart, pSl, mSl, mCall, mCallN, bLen, bAbs, bInt, bMax2, bMin2, bList, bTuple, mIxN, mLenN, mNext, mBreak, mCont, mNever, mSeq, mRet, rdN, mRetN, mRet0, mIfS, mDrop, mSet, mPar, sets, tgN, tgZ, tgC, tgT, putIx, tgI, mAsg, augS, mAug, putApp, mAppend, putIns, mInsert, asL, iSeq, rng1_e, rng2_e, rangeI_len, zipM, enumM, enumA, iArg, mFor, mComp, mYes, endF, inRd, inRd, mInN, compN, mCompN, mPopAt, pop0, mPopL, popL0, mExtend, ext0, putExt, bSortedQ, bMinD, bMaxD, forStep, compStep, mForL, mCompL, wipeR, backR, VM.noOwnB, pBack, getO,
  okd_ret, bind_ret, bnd_ret, bind_fail, bnd_fail, mite_t, mite_f, add_ii, sub_ii, mul_ii, fdiv_ii, mod_ii, lt_ii, le_ii, gt_ii, ge_ii, neg_i, add_tt, add_ll, eq_ii, ne_ii, eq_bb, ne_bb, eq_ss, ne_ss, eq_pp, ne_pp, eq_lp, ne_lp, eq_tp, ne_tp, in_p, notin_p, is_n, isnot_n, isb_t, isb_f, isnb_t, isnb_f, x_pt0, x_pt1, x_t0, x_t1, x_t2, x_t3, x_l0, x_l1, x_l2, i_int, i_bool, i_tuple, i_list, i_str, szT_of, szd, szdl, bnd_ite, bind_ite, bnd_bnd, bind_bnd, bnd_bind, bind_bind, kIq_int, kIq_bl, kIq_tup, kIq_lst, kIq_str, kIq_non, kIq_hnd, kIq_dct0, kIq_ins, kBq_int, kBq_bl, kBq_tup, kBq_lst, kBq_str, kBq_non, kBq_hnd, kBq_dct0, kBq_ins, kTq_int, kTq_bl, kTq_tup, kTq_lst, kTq_str, kTq_non, kTq_hnd, kTq_dct0, kTq_ins, kLq_int, kLq_bl, kLq_tup, kLq_lst, kLq_str, kLq_non, kLq_hnd, kLq_dct0, kLq_ins, kSq_int, kSq_bl, kSq_tup, kSq_lst, kSq_str, kSq_non, kSq_hnd, kSq_dct0, kSq_ins, isNq_int, isNq_bl, isNq_tup, isNq_lst, isNq_str, isNq_non, isNq_hnd, isNq_dct0, isNq_ins, kIq_pt, kBq_pt, kTq_pt, kLq_pt, kSq_pt,
  Int.cast_ofNat_Int, Int.natCast_add, Int.natCast_one, Int.natCast_zero, pv_val, pv_own, List.set_cons_zero, List.set_cons_succ, List.length_cons, List.length_nil, List.length_map, List.map_cons, List.map_nil, List.replicate_succ, List.replicate_zero, List.nil_append, List.cons_append, List.append_nil, Nat.zero_add, Nat.reduceAdd, Nat.reduceSub, Nat.reduceEqDiff, Nat.reduceLeDiff, decide_true, decide_false, Bool.and_true, Bool.true_and, Bool.and_false, Bool.false_and, Bool.or_true, Bool.true_or, Bool.or_false, Bool.false_or, Bool.not_true, Bool.not_false, List.all_cons, List.all_nil, eq_self, if_true, if_false, Bool.false_eq_true, reduceCtorEq, Option.toList])
open NR VR VL NP VP
namespace V75
/-- slots hand things -/
theorem k__law_some : ∃ f : FM, f = runM (mRet (mB pIx (mV 1) (mCallN 2 c__law_draw (mCons (mV 0) (mCons (mCall bLen (mCons (mV 1) mNil)) mNil))))) 2 := ⟨_, rfl⟩
noncomputable def c__law_some : FM := k__law_some.choose
theorem q__law_some : c__law_some = runM (mRet (mB pIx (mV 1) (mCallN 2 c__law_draw (mCons (mV 0) (mCons (mCall bLen (mCons (mV 1) mNil)) mNil))))) 2 := k__law_some.choose_spec
theorem o__law_some {xs : List PV} (h0 : 0 < xs.length) (h1 : xs.length < 1000000) : Okd (c__law_some [.hnd, .lst xs]) fun r => ∃ x ∈ xs, r = .val x := by
  rw [q__law_some]
  walk_at "mx"
  refine st_draw (by omega) (by omega) fun r r0 r1 => ?_
  have hr : r.toNat < xs.length := by omega
  have e : pIx (.lst xs) (.int r) = ret (.val xs[r.toNat]) := ixl (VM.atI_get (by omega) hr)
  walk_at "mx"
  rw [e]
  walk_at "mx"
  exact ⟨_, List.getElem_mem hr, rfl⟩
/-- slots one other -/
theorem k__law_part : ∃ f : FM, f = runM (mSeq (mPar [0, 1] (bConsM (mCall bAbs (mCons (mV 0) mNil)) (bConsM (mCall bAbs (mCons (mV 1) mNil)) bNilM))) (mSeq (mWhile (mTst (mB pGt (mV 1) (mC (.int 0)))) (mPar [0, 1] (bConsM (mV 1) (bConsM (mB pMod (mCall bInt (mCons (mV 0) mNil)) (mV 1)) bNilM)))) (mRetN 0))) 2 := ⟨_, rfl⟩
noncomputable def c__law_part : FM := k__law_part.choose
theorem q__law_part : c__law_part = runM (mSeq (mPar [0, 1] (bConsM (mCall bAbs (mCons (mV 0) mNil)) (bConsM (mCall bAbs (mCons (mV 1) mNil)) bNilM))) (mSeq (mWhile (mTst (mB pGt (mV 1) (mC (.int 0)))) (mPar [0, 1] (bConsM (mV 1) (bConsM (mB pMod (mCall bInt (mCons (mV 0) mNil)) (mV 1)) bNilM)))) (mRetN 0))) 2 := k__law_part.choose_spec
theorem e__law_part {a b : Int} (ha : a.natAbs < 10 ^ 59) (hb : b.natAbs < 10 ^ 59) : c__law_part [.int a, .int b] = ret (.val (.int (Int.gcd a b))) := by
  have := e__law_common ha hb
  rw [q__law_common] at this
  rw [q__law_part]; exact this
/-- slots one two three x y -/
theorem k__law_turn : ∃ f : FM, f = runM (mSeq (mPar [3, 4] (bConsM (mB pSub (mB pIx (mV 2) (mC (.int 0))) (mB pIx (mV 0) (mC (.int 0)))) (bConsM (mB pSub (mB pIx (mV 2) (mC (.int 1))) (mB pIx (mV 0) (mC (.int 1)))) bNilM))) (mRet (mB pSub (mB pMul (mB pSub (mB pIx (mV 1) (mC (.int 0))) (mB pIx (mV 0) (mC (.int 0)))) (mV 4)) (mB pMul (mB pSub (mB pIx (mV 1) (mC (.int 1))) (mB pIx (mV 0) (mC (.int 1)))) (mV 3))))) 5 := ⟨_, rfl⟩
noncomputable def c__law_turn : FM := k__law_turn.choose
theorem q__law_turn : c__law_turn = runM (mSeq (mPar [3, 4] (bConsM (mB pSub (mB pIx (mV 2) (mC (.int 0))) (mB pIx (mV 0) (mC (.int 0)))) (bConsM (mB pSub (mB pIx (mV 2) (mC (.int 1))) (mB pIx (mV 0) (mC (.int 1)))) bNilM))) (mRet (mB pSub (mB pMul (mB pSub (mB pIx (mV 1) (mC (.int 0))) (mB pIx (mV 0) (mC (.int 0)))) (mV 4)) (mB pMul (mB pSub (mB pIx (mV 1) (mC (.int 1))) (mB pIx (mV 0) (mC (.int 1)))) (mV 3))))) 5 := k__law_turn.choose_spec
theorem e__law_turn {a b d : Pt} (ha : okPt a = true) (hb : okPt b = true) (hd : okPt d = true) : c__law_turn [pt a, pt b, pt d] = ret (.val (.int (crs a b d))) := by
  have := okPt_iff.mp ha
  have := okPt_iff.mp hb
  have := okPt_iff.mp hd
  rw [q__law_turn]
  walk_at "mx"
  rfl
/-- slots dots some both row found dot -/
theorem k__law_hull : ∃ f : FM, f = runM (mSeq (mSet 1 (mCall bSortedSet (mCons (mV 0) mNil))) (mSeq (mSet 2 (mLst mNil)) (mSeq (mFor (iSeq (mTup (mCons (mV 1) (mCons (mU pBack (mV 1)) mNil)))) (tgN 3) (mSeq (mSet 4 (mLst mNil)) (mSeq (mFor (iSeq (mV 3)) (tgN 5) (mSeq (mWhile (mAndT (mTst (mB pGt (mLenN 4) (mC (.int 1)))) (mTst (mB pLe (mCallN 3 c__law_turn (mCons (mIxN 4 (mU pNeg (mC (.int 2)))) (mCons (mIxN 4 (mU pNeg (mC (.int 1)))) (mCons (mV 5) mNil)))) (mC (.int 0))))) (mDrop (mPopL 4))) (mAppend 4 (mV 5)))) (mSet 2 (mB pAdd (mV 2) (mSl (mV 4) mNoPart (mPart (mU pNeg (mC (.int 1)))))))))) (mRet (mCall bTuple (mCons (mV 2) mNil)))))) 6 := ⟨_, rfl⟩
noncomputable def c__law_hull : FM := k__law_hull.choose
theorem q__law_hull : c__law_hull = runM (mSeq (mSet 1 (mCall bSortedSet (mCons (mV 0) mNil))) (mSeq (mSet 2 (mLst mNil)) (mSeq (mFor (iSeq (mTup (mCons (mV 1) (mCons (mU pBack (mV 1)) mNil)))) (tgN 3) (mSeq (mSet 4 (mLst mNil)) (mSeq (mFor (iSeq (mV 3)) (tgN 5) (mSeq (mWhile (mAndT (mTst (mB pGt (mLenN 4) (mC (.int 1)))) (mTst (mB pLe (mCallN 3 c__law_turn (mCons (mIxN 4 (mU pNeg (mC (.int 2)))) (mCons (mIxN 4 (mU pNeg (mC (.int 1)))) (mCons (mV 5) mNil)))) (mC (.int 0))))) (mDrop (mPopL 4))) (mAppend 4 (mV 5)))) (mSet 2 (mB pAdd (mV 2) (mSl (mV 4) mNoPart (mPart (mU pNeg (mC (.int 1)))))))))) (mRet (mCall bTuple (mCons (mV 2) mNil)))))) 6 := k__law_hull.choose_spec
/-- a row's chain -/
theorem row_chain {ds : List Pt} (h : ∀ x ∈ ds, okPt x = true) (hl : ds.length ≤ 1000) {a b c d z : Sl} {β : Type} {R : M β} {f : Out → Rho → M β}
    (k : ∀ z, f .nx [a, b, c, d, .own ((chain ds).map pt), z] = R) :
    bnd (mForL (tgN 5) (mSeq (mWhile (mAndT (mTst (mB pGt (mLenN 4) (mC (.int 1)))) (mTst (mB pLe (mCallN 3 c__law_turn (mCons (mIxN 4 (mU pNeg (mC (.int 2)))) (mCons (mIxN 4 (mU pNeg (mC (.int 1)))) (mCons (mV 5) mNil)))) (mC (.int 0))))) (mDrop (mPopL 4))) (mAppend 4 (mV 5))) (ds.map pt) [a, b, c, d, .own [], z]) (f := ⟨f⟩) = R := by
  refine bnd_for pt (fun s : List Pt × Sl => [a, b, c, d, .own (s.1.reverse.map pt), s.2]) (fun s d => (stepS s.1 d, .val (pt d))) (fun zs s => s.1.length + zs.length ≤ 1000 ∧ (∀ x ∈ zs, okPt x = true) ∧ ∀ x ∈ s.1, okPt x = true) ds ([], z) rfl ⟨by simpa using hl, h, fun x hx => absurd hx (by simp)⟩ ?_ fun _ => ?_
  · rintro ⟨st, x⟩ e zs ⟨h1, h2, h3⟩
    dsimp only at h1 h3
    rw [List.length_cons] at h1
    have oe := h2 e List.mem_cons_self
    refine ⟨?_, ?_⟩
    · walk_at "mx"
      refine bnd_while (fun st : List Pt => [a, b, c, d, .own (st.reverse.map pt), .val (pt e)]) (wc e) List.tail List.length (fun st => st.length ≤ 1000 ∧ ∀ x ∈ st, okPt x = true) (fun s u => u = popW s e) st rfl ⟨by omega, h3⟩ (by omega)
        (fun s _ hc => (popW_go e s hc).symm) (fun s u _ hc hu => by rw [hu, popW_turn e s hc]) (fun s hi => ?_) fun u hu => ?_
      · match s, hi with
        | [], _ =>
          walk_at "mx"
          exact ⟨rfl, fun hc => by cases hc⟩
        | [u], _ =>
          walk_at "mx"
          exact ⟨rfl, fun hc => by cases hc⟩
        | v :: u :: r, hi =>
          have e1 : (v :: u :: r).reverse.map pt = r.reverse.map pt ++ [pt u, pt v] := by simp
          have l1 : (r.reverse.map pt ++ [pt u, pt v]).length = r.length + 2 := by simp
          have x1 : L2.atI (r.reverse.map pt ++ [pt u, pt v]) (-1) = some (pt v) := by
            rw [show r.reverse.map pt ++ [pt u, pt v] = (r.reverse.map pt ++ [pt u]) ++ [pt v] from by simp]; exact at_m1
          have x2 : L2.atI (r.reverse.map pt ++ [pt u, pt v]) (-2) = some (pt u) := at_m2
          have ov := hi.2 v (by simp)
          have ou := hi.2 u (by simp)
          have hpop : popL0 (.own (r.reverse.map pt ++ [pt u, pt v])) 4 [a, b, c, d, .own (r.reverse.map pt ++ [pt u, pt v]), .val (pt e)] = ret (.val (pt v), [a, b, c, d, .own ((u :: r).reverse.map pt), .val (pt e)]) := by
            rw [show r.reverse.map pt ++ [pt u, pt v] = ((u :: r).reverse.map pt) ++ [pt v] from by simp]; exact e_popL
          have hl1 : (1 : Int) < ((r.reverse.map pt ++ [pt u, pt v]).length : Int) := by rw [l1]; omega
          rw [e1]
          refine ⟨?_, fun hc => ⟨?_, ⟨by have := hi.1; simp at this ⊢; omega, fun x hx => hi.2 x (List.mem_cons_of_mem _ hx)⟩, by simp⟩⟩
          · walk_at "mx"
            simp only [hl1]
            walk_at "mx"
            simp only [x2]
            walk_at "mx"
            simp only [x1]
            walk_at "mx"
            rw [e__law_turn ou ov oe]
            walk_at "mx"
            rfl
          · show bnd (popL0 (.own (r.reverse.map pt ++ [pt u, pt v])) 4 [a, b, c, d, .own (r.reverse.map pt ++ [pt u, pt v]), .val (pt e)]) (f := ⟨fun _ ρ1 => ret (Out.nx, ρ1)⟩) = _
            rw [hpop]
            rfl
      · subst hu
        have pl : (popW st e).length ≤ st.length := by
          obtain ⟨t, q⟩ := popW_suf (d := e) (st := st)
          conv => rhs; rw [q]
          rw [List.length_append]; omega
        walk_at "mx"
        rw [List.length_reverse]
        walk_at "mx"
        unfold stepS
        rw [List.reverse_cons, List.map_append]
        rfl
    · have pl : (popW st e).length ≤ st.length := by
        obtain ⟨t, q⟩ := popW_suf (d := e) (st := st)
        conv => rhs; rw [q]
        rw [List.length_append]; omega
      refine ⟨by dsimp only; unfold stepS; rw [List.length_cons]; omega, fun y hy => h2 y (List.mem_cons_of_mem _ hy), fun y hy => ?_⟩
      rcases List.mem_cons.mp hy with rfl | hy
      · exact h2 _ List.mem_cons_self
      · exact h3 y (popW_sub hy)
  · have key : ∀ (l st : List Pt) (x : Sl), (l.foldl (fun (s : List Pt × Sl) d => (stepS s.1 d, Sl.val (pt d))) (st, x)).1 = l.foldl stepS st := by
      intro l
      induction l with
      | nil => intro st x; rfl
      | cons y l ih => intro st x; exact ih _ _
    rw [key]
    exact k _
/-- one dot's hull is nothing here -/
def lawHull (ds : List Pt) : List Pt := if (srt ds).length < 2 then [] else hullP ds
theorem lawHull_eq (ds : List Pt) : lawHull ds = (chain (srt ds)).dropLast ++ (chain (srt ds).reverse).dropLast := by
  unfold lawHull hullP
  split
  · rename_i h
    match e : srt ds, h with
    | [], _ => rfl
    | [a], _ => rfl
    | _ :: _ :: _, h => simp at h; omega
  · rfl
theorem e__law_hull {ds : List Pt} (ok : ∀ x ∈ ds, okPt x = true) (hl : ds.length < 64) : c__law_hull [.lst (ds.map pt)] = ret (.val (.tup ((lawHull ds).map pt))) := by
  have l1 : (srt ds).length ≤ 1000 := Nat.le_trans srt_len (by omega)
  have okS : ∀ x ∈ srt ds, okPt x = true := fun x hx => ok x (mem_srt.mp hx)
  have okR : ∀ x ∈ (srt ds).reverse, okPt x = true := fun x hx => okS x (List.mem_reverse.mp hx)
  obtain ⟨h1, h2⟩ := asc_ok (srt_asc (l := ds))
  have k1 := chain_len (ds := srt ds)
  have k2 := chain_len (ds := (srt ds).reverse)
  rw [List.length_reverse] at k2
  rw [q__law_hull]
  walk_at "mx"
  rw [sortedSet_pt ds hl h1 h2 fun p => mem_srt]
  walk_at "mx"
  refine row_chain okS l1 fun z => ?_
  have z1 : (List.map pt (chain (srt ds))).dropLast.length ≤ 1000 := by rw [List.length_dropLast, List.length_map]; omega
  walk_at "mx"
  rw [cut_m1]
  walk_at "mx"
  rw [← List.map_reverse]
  refine row_chain okR (by rw [List.length_reverse]; exact l1) fun z => ?_
  have z2 : (List.map pt (chain (srt ds).reverse)).dropLast.length ≤ 1000 := by rw [List.length_dropLast, List.length_map]; omega
  walk_at "mx"
  rw [cut_m1]
  walk_at "mx"
  rw [lawHull_eq, List.map_append, List.map_dropLast, List.map_dropLast]
end V75
end
section
set_option Elab.async false
set_option linter.all false
set_option maxRecDepth 100000
set_option maxHeartbeats 4000000
open PySem PySem.Spec PyProof.Rows L2 VE VM VX
open VX.M (ret exc fail draw)
local macro_rules | `(tactic| walk_at "dj") => `(tactic| first | assumption | with_reducible rfl | omega | exact dat_int | exact dat_tup | exact dat_bl | exact dat_lst | exact dat_non | exact dat_str | exact dat_dct | exact dat_pt | exact cmulb_l (by omega) (by omega) | exact cmulb_r (by omega) (by omega) | exact divb (by omega) (by omega) (by omega) | exact szT_of (by simp only [List.length_map, List.length_cons, List.length_nil, List.length_append]; omega) | (simp only [List.length_map, List.length_cons, List.length_nil, List.length_append]; omega))
local macro_rules | `(tactic| walk_at "mx") => `(tactic| simp (config := {decide := false, implicitDefEqProofs := false}) (disch := walk_at "dj") only [runM, seqO, tgI0, app0, ins0, ixN0, ixRd, lenN0, startR, mV, rd, look, mC, mB, mU, mTst, asB, mAndT, mOrT, mNotT, mAndV, mOrV, mNotV, mIfE, mChain, mNil, mCons, bNilM, bConsM, mTup, mLst, mNoPart, asI, mPart, pSl, mSl, mCall, mCallN, bLen, bAbs, bInt, bMax2, bMin2, bList, bTuple, mIxN, mLenN, mNext, mBreak, mCont, mNever, mSeq, mRet, rdN, mRetN, mRet0, mIfS, mDrop, mSet, mPar, sets, tgN, tgZ, tgC, tgT, putIx, tgI, mAsg, augS, mAug, putApp, mAppend, putIns, mInsert, asL, iSeq, rng1_e, rng2_e, rangeI_len, zipM, enumM, enumA, iArg, mFor, mComp, mYes, endF, inRd, inRd, mInN, compN, mCompN, mPopAt, pop0, mPopL, popL0, mExtend, ext0, putExt, bSortedQ, bMinD, bMaxD, forStep, compStep, mForL, mCompL, wipeR, backR, VM.noOwnB, pBack, getO,
  okd_ret, bind_ret, bnd_ret, bind_fail, bnd_fail, mite_t, mite_f, add_ii, sub_ii, mul_ii, fdiv_ii, mod_ii, lt_ii, le_ii, gt_ii, ge_ii, neg_i, add_tt, add_ll, eq_ii, ne_ii, eq_bb, ne_bb, eq_ss, ne_ss, eq_pp, ne_pp, eq_lp, ne_lp, eq_tp, ne_tp, in_p, notin_p, is_n, isnot_n, isb_t, isb_f, isnb_t, isnb_f, x_pt0, x_pt1, x_t0, x_t1, x_t2, x_t3, x_l0, x_l1, x_l2, i_int, i_bool, i_tuple, i_list, i_str, szT_of, szd, szdl, bnd_ite, bind_ite, bnd_bnd, bind_bnd, bnd_bind, bind_bind, kIq_int, kIq_bl, kIq_tup, kIq_lst, kIq_str, kIq_non, kIq_hnd, kIq_dct0, kIq_ins, kBq_int, kBq_bl, kBq_tup, kBq_lst, kBq_str, kBq_non, kBq_hnd, kBq_dct0, kBq_ins, kTq_int, kTq_bl, kTq_tup, kTq_lst, kTq_str, kTq_non, kTq_hnd, kTq_dct0, kTq_ins, kLq_int, kLq_bl, kLq_tup, kLq_lst, kLq_str, kLq_non, kLq_hnd, kLq_dct0, kLq_ins, kSq_int, kSq_bl, kSq_tup, kSq_lst, kSq_str, kSq_non, kSq_hnd, kSq_dct0, kSq_ins, isNq_int, isNq_bl, isNq_tup, isNq_lst, isNq_str, isNq_non, isNq_hnd, isNq_dct0, isNq_ins, kIq_pt, kBq_pt, kTq_pt, kLq_pt, kSq_pt,
  Int.cast_ofNat_Int, Int.natCast_add, Int.natCast_one, Int.natCast_zero, pv_val, pv_own, List.set_cons_zero, List.set_cons_succ, List.length_cons, List.length_nil, List.length_map, List.map_cons, List.map_nil, List.replicate_succ, List.replicate_zero, List.nil_append, List.cons_append, List.append_nil, Nat.zero_add, Nat.reduceAdd, Nat.reduceSub, Nat.reduceEqDiff, Nat.reduceLeDiff, decide_true, decide_false, Bool.and_true, Bool.true_and, Bool.and_false, Bool.false_and, Bool.or_true, Bool.true_or, Bool.or_false, Bool.false_or, Bool.not_true, Bool.not_false, List.all_cons, List.all_nil, eq_self, if_true, if_false, Bool.false_eq_true, reduceCtorEq, Option.toList])
open NR VR VL NP VP
namespace V75
theorem hull_len (ds : List Pt) : (hullP ds).length ≤ 2 * ds.length := by
  unfold hullP
  have l0 := srt_len (l := ds)
  split
  · omega
  · have k1 := chain_len (ds := srt ds)
    have k2 := chain_len (ds := (srt ds).reverse)
    rw [List.length_reverse] at k2
    have : hullS (srt ds) = (chain (srt ds)).dropLast ++ (chain (srt ds).reverse).dropLast := rfl
    rw [this, List.length_append, List.length_dropLast, List.length_dropLast]; omega
theorem pg_hull {ds : List Pt} (ok : ∀ x ∈ ds, okPt x = true) (hl : ds.length ≤ 20) (h : 3 ≤ (hullP ds).length) : Pg (hullP ds) := by
  have hn := hull_nodup (l := ds)
  have h2 : ¬ (srt ds).length < 2 := fun z => by
    unfold hullP at h
    rw [if_pos z] at h; omega
  obtain ⟨a, b, ha, hb, hab⟩ := two_of h2
  have := hull_len ds
  exact ⟨fun x hx => ok x (hullP_sub hx), h, by omega, hull_fix (mem_srt.mp ha) (mem_srt.mp hb) hab⟩
theorem pg_law {ds : List Pt} (ok : ∀ x ∈ ds, okPt x = true) (hl : ds.length ≤ 20) (h : 3 ≤ (lawHull ds).length) : Pg (lawHull ds) := by
  unfold lawHull at h ⊢
  split at h
  · simp at h
  · rename_i z; rw [if_neg z]; exact pg_hull ok hl h
theorem pg_plain {x y : Int} (x1 : 1 ≤ x) (x2 : x ≤ 4) (y1 : 1 ≤ y) (y2 : y ≤ 4) : Pg [(0, 0), (x, 0), (0, y)] := by
  have hx : x ∈ ([1, 2, 3, 4] : List Int) := by simp; omega
  have hy : y ∈ ([1, 2, 3, 4] : List Int) := by simp; omega
  have : ∀ x ∈ ([1, 2, 3, 4] : List Int), ∀ y ∈ ([1, 2, 3, 4] : List Int), (∀ p ∈ ([(0, 0), (x, 0), (0, y)] : List Pt), okPt p = true) ∧ hullP [(0, 0), (x, 0), (0, y)] = [(0, 0), (x, 0), (0, y)] := by decide +kernel
  have := this x hx y hy
  exact ⟨this.1, by simp, by simp, this.2⟩
/-- slots hand most wide dots turn x y found -/
theorem k__law_polygon : ∃ f : FM, f = runM (mSeq (mSet 2 (mCallN 2 c__law_some (mCons (mV 0) (mCons (mLst (mCons (mC (.int 2)) (mCons (mC (.int 4)) (mCons (mV 1) mNil)))) mNil)))) (mSeq (mSet 3 (mLst mNil)) (mSeq (mFor (iArg rng1 (mCons (mB pAdd (mC (.int 3)) (mCallN 2 c__law_draw (mCons (mV 0) (mCons (mC (.int 6)) mNil)))) mNil)) (tgN 4) (mSeq (mPar [5, 6] (bConsM (mCallN 2 c__law_draw (mCons (mV 0) (mCons (mB pAdd (mB pMul (mC (.int 2)) (mV 2)) (mC (.int 1))) mNil))) (bConsM (mCallN 2 c__law_draw (mCons (mV 0) (mCons (mB pAdd (mB pMul (mC (.int 2)) (mV 2)) (mC (.int 1))) mNil))) bNilM))) (mAppend 3 (mTup (mCons (mB pSub (mV 5) (mV 2)) (mCons (mB pSub (mV 6) (mV 2)) mNil)))))) (mSeq (mSet 7 (mCallN 1 c__law_hull (mCons (mV 3) mNil))) (mSeq (mPar [5, 6] (bConsM (mB pAdd (mC (.int 1)) (mCallN 2 c__law_draw (mCons (mV 0) (mCons (mC (.int 4)) mNil)))) (bConsM (mB pAdd (mC (.int 1)) (mCallN 2 c__law_draw (mCons (mV 0) (mCons (mC (.int 4)) mNil)))) bNilM))) (mRet (mIfE (mTst (mB pGt (mCall bLen (mCons (mV 7) mNil)) (mC (.int 2)))) (mV 7) (mTup (mCons (mTup (mCons (mC (.int 0)) (mCons (mC (.int 0)) mNil))) (mCons (mTup (mCons (mV 5) (mCons (mC (.int 0)) mNil))) (mCons (mTup (mCons (mC (.int 0)) (mCons (mV 6) mNil))) mNil))))))))))) 8 := ⟨_, rfl⟩
noncomputable def c__law_polygon : FM := k__law_polygon.choose
theorem q__law_polygon : c__law_polygon = runM (mSeq (mSet 2 (mCallN 2 c__law_some (mCons (mV 0) (mCons (mLst (mCons (mC (.int 2)) (mCons (mC (.int 4)) (mCons (mV 1) mNil)))) mNil)))) (mSeq (mSet 3 (mLst mNil)) (mSeq (mFor (iArg rng1 (mCons (mB pAdd (mC (.int 3)) (mCallN 2 c__law_draw (mCons (mV 0) (mCons (mC (.int 6)) mNil)))) mNil)) (tgN 4) (mSeq (mPar [5, 6] (bConsM (mCallN 2 c__law_draw (mCons (mV 0) (mCons (mB pAdd (mB pMul (mC (.int 2)) (mV 2)) (mC (.int 1))) mNil))) (bConsM (mCallN 2 c__law_draw (mCons (mV 0) (mCons (mB pAdd (mB pMul (mC (.int 2)) (mV 2)) (mC (.int 1))) mNil))) bNilM))) (mAppend 3 (mTup (mCons (mB pSub (mV 5) (mV 2)) (mCons (mB pSub (mV 6) (mV 2)) mNil)))))) (mSeq (mSet 7 (mCallN 1 c__law_hull (mCons (mV 3) mNil))) (mSeq (mPar [5, 6] (bConsM (mB pAdd (mC (.int 1)) (mCallN 2 c__law_draw (mCons (mV 0) (mCons (mC (.int 4)) mNil)))) (bConsM (mB pAdd (mC (.int 1)) (mCallN 2 c__law_draw (mCons (mV 0) (mCons (mC (.int 4)) mNil)))) bNilM))) (mRet (mIfE (mTst (mB pGt (mCall bLen (mCons (mV 7) mNil)) (mC (.int 2)))) (mV 7) (mTup (mCons (mTup (mCons (mC (.int 0)) (mCons (mC (.int 0)) mNil))) (mCons (mTup (mCons (mV 5) (mCons (mC (.int 0)) mNil))) (mCons (mTup (mCons (mC (.int 0)) (mCons (mV 6) mNil))) mNil))))))))))) 8 := k__law_polygon.choose_spec
theorem o__law_polygon {m : Int} (m1 : 4 ≤ m) (m2 : m ≤ 1000) : Okd (c__law_polygon [.hnd, .int m]) fun r => ∃ W, r = .val (.tup (W.map pt)) ∧ Pg W := by
  rw [q__law_polygon]
  walk_at "mx"
  refine st_call (o__law_some (by simp) (by simp)) ?_
  rintro _ ⟨w, hw, rfl⟩
  have hm : ∃ v : Int, w = .int v ∧ 2 ≤ v ∧ v ≤ 1000 := by
    simp only [List.mem_cons, List.not_mem_nil, or_false] at hw
    rcases hw with rfl | rfl | rfl
    · exact ⟨_, rfl, by decide, by decide⟩
    · exact ⟨_, rfl, by decide, by decide⟩
    · exact ⟨_, rfl, by omega, by omega⟩
  clear hw
  obtain ⟨v, rfl, v1, v2⟩ := hm
  walk_at "mx"
  refine st_draw (by omega) (by omega) fun n n0 n1 => ?_
  walk_at "mx"
  refine st_for PV.int (fun zs ρ => ∃ (ds : List Pt) (t x y : Sl), ρ = [.val .hnd, .val (.int m), .val (.int v), .own (ds.map pt), t, x, y, .no] ∧ ds.length + zs.length ≤ 8 ∧ ∀ p ∈ ds, okPt p = true) _ ⟨[], .no, .no, .no, rfl, by rw [rangeI_len]; simp; omega, by simp⟩ ?_ ?_
  · rintro z zs ρ ⟨ds, t, x, y, rfl, hl, ok⟩
    rw [List.length_cons] at hl
    walk_at "mx"
    refine st_draw (by omega) (by omega) fun r r0 r1 => ?_
    walk_at "mx"
    refine st_draw (by omega) (by omega) fun s s0 s1 => ?_
    walk_at "mx"
    refine ⟨ds ++ [(r - v, s - v)], _, _, _, by rw [List.map_append]; rfl, by rw [List.length_append, List.length_singleton]; omega, fun p hp => ?_⟩
    rcases List.mem_append.mp hp with hp | hp
    · exact ok p hp
    · rw [List.mem_singleton.mp hp, okPt_iff]; dsimp only; omega
  · rintro ρ ⟨ds, t, x, y, rfl, hl, ok⟩
    simp only [List.length_nil, Nat.add_zero] at hl
    walk_at "mx"
    rw [e__law_hull ok (by omega)]
    walk_at "mx"
    refine st_draw (by omega) (by omega) fun r r0 r1 => ?_
    walk_at "mx"
    refine st_draw (by omega) (by omega) fun s s0 s1 => ?_
    walk_at "mx"
    by_cases c : (2 : Int) < ((lawHull ds).length : Int)
    · simp only [decide_eq_true c]
      walk_at "mx"
      exact ⟨_, rfl, pg_law ok (by omega) (by omega)⟩
    · simp only [decide_eq_false c]
      walk_at "mx"
      exact ⟨[(0, 0), (1 + r, 0), (0, 1 + s)], rfl, pg_plain (by omega) (by omega) (by omega) (by omega)⟩
theorem adj_zip : ∀ (l : List Pt) (x : Pt), adj (l ++ [x]) = l.zip (l.drop 1 ++ [x])
  | [], _ => rfl
  | [_], _ => rfl
  | a :: b :: l, x => by
    show (a, b) :: adj (b :: l ++ [x]) = _
    rw [adj_zip (b :: l) x]; rfl
theorem cyc_zip (W : List Pt) : cyc W = W.zip (W.drop 1 ++ W.take 1) := by
  cases W with
  | nil => rfl
  | cons x r =>
    unfold cyc
    rw [show List.take 1 (x :: r) = [x] from rfl, adj_zip]
theorem zip_cyc (W : List Pt) : zipP (W.map pt) ((W.drop 1).map pt ++ (W.take 1).map pt) = (cyc W).map prP := by
  rw [cyc_zip, ← List.map_append]
  unfold zipP
  rw [List.zip_map, List.map_map]; rfl
/-- slots polygon area border one other -/
theorem k__law_sizes : ∃ f : FM, f = runM (mSeq (mAsg (mTup (mCons (mC (.int 0)) (mCons (mC (.int 0)) mNil))) (tgT 2 (tgC (tgN 1) (tgC (tgN 2) tgZ)))) (mSeq (mFor (iArg zipM (mCons (mV 0) (mCons (mB pAdd (mSl (mV 0) (mPart (mC (.int 1))) mNoPart) (mSl (mV 0) mNoPart (mPart (mC (.int 1))))) mNil))) (tgT 2 (tgC (tgN 3) (tgC (tgN 4) tgZ))) (mSeq (mSet 1 (mB pSub (mB pAdd (mV 1) (mB pMul (mB pIx (mV 3) (mC (.int 0))) (mB pIx (mV 4) (mC (.int 1))))) (mB pMul (mB pIx (mV 3) (mC (.int 1))) (mB pIx (mV 4) (mC (.int 0)))))) (mSet 2 (mB pAdd (mV 2) (mCallN 2 c__law_part (mCons (mB pSub (mB pIx (mV 4) (mC (.int 0))) (mB pIx (mV 3) (mC (.int 0)))) (mCons (mB pSub (mB pIx (mV 4) (mC (.int 1))) (mB pIx (mV 3) (mC (.int 1)))) mNil))))))) (mRet (mTup (mCons (mV 1) (mCons (mV 2) mNil)))))) 5 := ⟨_, rfl⟩
noncomputable def c__law_sizes : FM := k__law_sizes.choose
theorem q__law_sizes : c__law_sizes = runM (mSeq (mAsg (mTup (mCons (mC (.int 0)) (mCons (mC (.int 0)) mNil))) (tgT 2 (tgC (tgN 1) (tgC (tgN 2) tgZ)))) (mSeq (mFor (iArg zipM (mCons (mV 0) (mCons (mB pAdd (mSl (mV 0) (mPart (mC (.int 1))) mNoPart) (mSl (mV 0) mNoPart (mPart (mC (.int 1))))) mNil))) (tgT 2 (tgC (tgN 3) (tgC (tgN 4) tgZ))) (mSeq (mSet 1 (mB pSub (mB pAdd (mV 1) (mB pMul (mB pIx (mV 3) (mC (.int 0))) (mB pIx (mV 4) (mC (.int 1))))) (mB pMul (mB pIx (mV 3) (mC (.int 1))) (mB pIx (mV 4) (mC (.int 0)))))) (mSet 2 (mB pAdd (mV 2) (mCallN 2 c__law_part (mCons (mB pSub (mB pIx (mV 4) (mC (.int 0))) (mB pIx (mV 3) (mC (.int 0)))) (mCons (mB pSub (mB pIx (mV 4) (mC (.int 1))) (mB pIx (mV 3) (mC (.int 1)))) mNil))))))) (mRet (mTup (mCons (mV 1) (mCons (mV 2) mNil)))))) 5 := k__law_sizes.choose_spec
theorem e__law_sizes {W : List Pt} (h : Pg W) : c__law_sizes [.tup (W.map pt)] = ret (.val (pt (dbl W, rim W))) := by
  have hi := h.hi
  have hl : ((W.drop 1).map pt).length + ((W.take 1).map pt).length ≤ 1000 := by rw [List.length_map, List.length_map, List.length_drop, List.length_take]; omega
  rw [q__law_sizes]
  walk_at "mx"
  rw [cut_from (by omega), cut_to (by omega), show Int.toNat 1 = 1 from rfl, ← List.map_drop, ← List.map_take]
  walk_at "mx"
  rw [zip_cyc]
  refine bnd_for prP (fun s : Int × Int × Sl × Sl => [Sl.val (.tup (W.map pt)), .val (.int s.1), .val (.int s.2.1), s.2.2.1, s.2.2.2]) (fun s p => (s.1 + p.1.1 * p.2.2 - p.1.2 * p.2.1, s.2.1 + gc (NP.sub p.2 p.1), .val (pt p.1), .val (pt p.2))) (fun zs s => ∀ p ∈ zs, okPt p.1 = true ∧ okPt p.2 = true) (cyc W) (0, 0, .no, .no) rfl (fun p hp => ⟨h.ok _ (mem_cyc hp).1, h.ok _ (mem_cyc hp).2⟩) ?_ fun _ => ?_
  · rintro ⟨a, b, x, y⟩ ⟨p, q⟩ zs hz
    obtain ⟨o1, o2⟩ := hz (p, q) List.mem_cons_self
    have b1 := okPt_iff.mp o1
    have b2 := okPt_iff.mp o2
    dsimp only at b1 b2
    refine ⟨?_, fun r hr => hz r (List.mem_cons_of_mem _ hr)⟩
    unfold prP
    dsimp only
    walk_at "mx"
    rw [e__law_part (by omega) (by omega)]
    walk_at "mx"
    rfl
  · have key : ∀ (l : List (Pt × Pt)) (a b : Int) (x y : Sl), ∃ x' y', l.foldl (fun (s : Int × Int × Sl × Sl) p => (s.1 + p.1.1 * p.2.2 - p.1.2 * p.2.1, s.2.1 + gc (NP.sub p.2 p.1), Sl.val (pt p.1), Sl.val (pt p.2))) (a, b, x, y) = (a + (l.map fun p => turn p.1 p.2).sum, b + (l.map fun p => gc (NP.sub p.2 p.1)).sum, x', y') := by
      intro l
      induction l with
      | nil => intro a b x y; exact ⟨x, y, by simp⟩
      | cons p l ih =>
        intro a b x y
        obtain ⟨x', y', e⟩ := ih (a + p.1.1 * p.2.2 - p.1.2 * p.2.1) (b + gc (NP.sub p.2 p.1)) (.val (pt p.1)) (.val (pt p.2))
        refine ⟨x', y', ?_⟩
        rw [List.foldl_cons, e, List.map_cons, List.sum_cons, List.map_cons, List.sum_cons]
        congr 1
        · unfold turn; omega
        · congr 1; omega
    obtain ⟨x', y', e⟩ := key (cyc W) 0 0 .no .no
    rw [e]
    walk_at "mx"
    rw [Int.zero_add, Int.zero_add]
    rfl
theorem grow_back {W : List Pt} (h : Pg W) : growB ((dbl W * 1 * 1 + rim W * 1).fdiv 2 + 1) ((dbl W * 2 * 2 + rim W * 2).fdiv 2 + 1) = pt (dbl W, rim W) := by
  have h1 := dbl_rim W
  have h2 := dbl_pos h.cx h.lo
  have h3 := rim_ge h.cx
  have h4 := h.lo
  rw [Int.fdiv_eq_ediv_of_nonneg _ (by decide), Int.fdiv_eq_ediv_of_nonneg _ (by decide)]
  generalize dbl W = d at *
  generalize rim W = r at *
  have e1 : (d * 2 * 2 + r * 2) / 2 = 2 * d + r := by omega
  have e2 : (d * 1 * 1 + r * 1) / 2 * 2 = d + r := by omega
  rw [e1]
  unfold growB
  generalize (d * 1 * 1 + r * 1) / 2 = f at *
  rw [if_pos (by omega)]
  congr 1
  exact Prod.ext (by dsimp only; omega) (by dsimp only; omega)
theorem shown_pt {p : Pt} (h1 : p.1.natAbs < 10 ^ 32) (h2 : p.2.natAbs < 10 ^ 32) : Shown (pt p) := shown_of (sh_pt h1 h2) (by decide) (by decide)
/-- slots polygon due -/
theorem k__law_is_polygon_right : ∃ f : FM, f = runM (mSeq (mSet 1 (mCallN 1 c__law_sizes (mCons (mV 0) mNil))) (mRet (mB pEq (mCall bRepr (mCons (mCallN 2 c_by_growth (mCons (mCallN 2 c_dots_in (mCons (mV 0) (mCons (mC (.int 1)) mNil))) (mCons (mCallN 2 c_dots_in (mCons (mV 0) (mCons (mC (.int 2)) mNil))) mNil))) mNil)) (mCall bRepr (mCons (mV 1) mNil))))) 2 := ⟨_, rfl⟩
noncomputable def c__law_is_polygon_right : FM := k__law_is_polygon_right.choose
theorem q__law_is_polygon_right : c__law_is_polygon_right = runM (mSeq (mSet 1 (mCallN 1 c__law_sizes (mCons (mV 0) mNil))) (mRet (mB pEq (mCall bRepr (mCons (mCallN 2 c_by_growth (mCons (mCallN 2 c_dots_in (mCons (mV 0) (mCons (mC (.int 1)) mNil))) (mCons (mCallN 2 c_dots_in (mCons (mV 0) (mCons (mC (.int 2)) mNil))) mNil))) mNil)) (mCall bRepr (mCons (mV 1) mNil))))) 2 := k__law_is_polygon_right.choose_spec
theorem e__law_is_polygon_right {W : List Pt} (h : Pg W) : c__law_is_polygon_right [.tup (W.map pt)] = ret (.val (.bl true)) := by
  have b1 := dbl_bd h
  have b2 := rim_bd h
  have h2 := dbl_pos h.cx h.lo
  rw [q__law_is_polygon_right]
  walk_at "mx"
  rw [e__law_sizes h]
  walk_at "mx"
  rw [e_dots_in h (by decide) (by decide)]
  walk_at "mx"
  rw [e_dots_in h (by decide) (by decide)]
  walk_at "mx"
  have f1 : (dbl W * 1 * 1 + rim W * 1).fdiv 2 = (dbl W * 1 * 1 + rim W * 1) / 2 := Int.fdiv_eq_ediv_of_nonneg _ (by decide)
  have f2 : (dbl W * 2 * 2 + rim W * 2).fdiv 2 = (dbl W * 2 * 2 + rim W * 2) / 2 := Int.fdiv_eq_ediv_of_nonneg _ (by decide)
  rw [e_by_growth (by omega) (by omega) (by omega), grow_back h]
  walk_at "mx"
  obtain ⟨x, hx⟩ := e_repr (shown_pt (p := (dbl W, rim W)) (by dsimp only; omega) (by dsimp only; omega))
  rw [hx]
  walk_at "mx"
  rw [hx]
  walk_at "mx"
/-- slots first second area border -/
theorem k__law_back : ∃ f : FM, f = runM (mSeq (mSet 2 (mB pAdd (mB pSub (mV 1) (mB pMul (mC (.int 2)) (mV 0))) (mC (.int 1)))) (mSeq (mSet 3 (mB pSub (mB pSub (mB pMul (mC (.int 2)) (mV 0)) (mC (.int 2))) (mV 2))) (mRet (mIfE (mAndT (mTst (mB pGt (mV 2) (mC (.int 0)))) (mTst (mB pGt (mV 3) (mC (.int 2))))) (mTup (mCons (mV 2) (mCons (mV 3) mNil))) (mC .non))))) 4 := ⟨_, rfl⟩
noncomputable def c__law_back : FM := k__law_back.choose
theorem q__law_back : c__law_back = runM (mSeq (mSet 2 (mB pAdd (mB pSub (mV 1) (mB pMul (mC (.int 2)) (mV 0))) (mC (.int 1)))) (mSeq (mSet 3 (mB pSub (mB pSub (mB pMul (mC (.int 2)) (mV 0)) (mC (.int 2))) (mV 2))) (mRet (mIfE (mAndT (mTst (mB pGt (mV 2) (mC (.int 0)))) (mTst (mB pGt (mV 3) (mC (.int 2))))) (mTup (mCons (mV 2) (mCons (mV 3) mNil))) (mC .non))))) 4 := k__law_back.choose_spec
theorem e__law_back {f s : Int} (bf : 0 ≤ f ∧ f < 1000000000000) : c__law_back [.int f, .int s] = ret (.val (growB f s)) := by
  rw [q__law_back]
  walk_at "mx"
  unfold growB
  have e : 2 * f - 2 - (s - 2 * f + 1) = 2 * (f - 1) - (s - 2 * f + 1) := by omega
  rw [e]
  by_cases c1 : 0 < s - 2 * f + 1
  · simp only [decide_eq_true c1]
    walk_at "mx"
    by_cases c2 : 3 ≤ 2 * (f - 1) - (s - 2 * f + 1)
    · have c2' : 2 < 2 * (f - 1) - (s - 2 * f + 1) := by omega
      simp only [decide_eq_true c2', c1, c2]
      walk_at "mx"
      rfl
    · have c2' : ¬ 2 < 2 * (f - 1) - (s - 2 * f + 1) := by omega
      simp only [decide_eq_false c2', c1, c2]
      walk_at "mx"
      simp only [and_false, if_false]
  · simp only [decide_eq_false c1, c1]
    walk_at "mx"
    simp only [false_and, if_false]
end V75
end
section
set_option Elab.async false
set_option linter.all false
set_option maxRecDepth 100000
set_option maxHeartbeats 4000000
open PySem PySem.Spec PyProof.Rows L2 VE VM VX
open VX.M (ret exc fail draw)
local macro_rules | `(tactic| walk_at "dj") => `(tactic| first | assumption | with_reducible rfl | omega | exact dat_int | exact dat_tup | exact dat_bl | exact dat_lst | exact dat_non | exact dat_str | exact dat_dct | exact dat_pt | exact cmulb_l (by omega) (by omega) | exact cmulb_r (by omega) (by omega) | exact divb (by omega) (by omega) (by omega) | exact szT_of (by simp only [List.length_map, List.length_cons, List.length_nil, List.length_append]; omega) | (simp only [List.length_map, List.length_cons, List.length_nil, List.length_append]; omega))
local macro_rules | `(tactic| walk_at "mx") => `(tactic| simp (config := {decide := false, implicitDefEqProofs := false}) (disch := walk_at "dj") only [runM, seqO, tgI0, app0, ins0, ixN0, ixRd, lenN0, startR, mV, rd, look, mC, mB, mU, mTst, asB, mAndT, mOrT, mNotT, mAndV, mOrV, mNotV, mIfE, mChain, mNil, mCons, bNilM, bConsM, mTup, mLst, mNoPart, asI, mPart, pSl, mSl, mCall, mCallN, bLen, bAbs, bInt, bMax2, bMin2, bList, bTuple, mIxN, mLenN, mNext, mBreak, mCont, mNever, mSeq, mRet, rdN, mRetN, mRet0, mIfS, mDrop, mSet, mPar, sets, tgN, tgZ, tgC, tgT, putIx, tgI, mAsg, augS, mAug, putApp, mAppend, putIns, mInsert, asL, iSeq, rng1_e, rng2_e, rangeI_len, zipM, enumM, enumA, iArg, mFor, mComp, mYes, endF, inRd, inRd, mInN, compN, mCompN, mPopAt, pop0, mPopL, popL0, mExtend, ext0, putExt, bSortedQ, bMinD, bMaxD, forStep, compStep, mForL, mCompL, wipeR, backR, VM.noOwnB, pBack, getO,
  okd_ret, bind_ret, bnd_ret, bind_fail, bnd_fail, mite_t, mite_f, add_ii, sub_ii, mul_ii, fdiv_ii, mod_ii, lt_ii, le_ii, gt_ii, ge_ii, neg_i, add_tt, add_ll, eq_ii, ne_ii, eq_bb, ne_bb, eq_ss, ne_ss, eq_pp, ne_pp, eq_lp, ne_lp, eq_tp, ne_tp, in_p, notin_p, is_n, isnot_n, isb_t, isb_f, isnb_t, isnb_f, x_pt0, x_pt1, x_t0, x_t1, x_t2, x_t3, x_l0, x_l1, x_l2, i_int, i_bool, i_tuple, i_list, i_str, szT_of, szd, szdl, bnd_ite, bind_ite, bnd_bnd, bind_bnd, bnd_bind, bind_bind, kIq_int, kIq_bl, kIq_tup, kIq_lst, kIq_str, kIq_non, kIq_hnd, kIq_dct0, kIq_ins, kBq_int, kBq_bl, kBq_tup, kBq_lst, kBq_str, kBq_non, kBq_hnd, kBq_dct0, kBq_ins, kTq_int, kTq_bl, kTq_tup, kTq_lst, kTq_str, kTq_non, kTq_hnd, kTq_dct0, kTq_ins, kLq_int, kLq_bl, kLq_tup, kLq_lst, kLq_str, kLq_non, kLq_hnd, kLq_dct0, kLq_ins, kSq_int, kSq_bl, kSq_tup, kSq_lst, kSq_str, kSq_non, kSq_hnd, kSq_dct0, kSq_ins, isNq_int, isNq_bl, isNq_tup, isNq_lst, isNq_str, isNq_non, isNq_hnd, isNq_dct0, isNq_ins, kIq_pt, kBq_pt, kTq_pt, kLq_pt, kSq_pt,
  Int.cast_ofNat_Int, Int.natCast_add, Int.natCast_one, Int.natCast_zero, pv_val, pv_own, List.set_cons_zero, List.set_cons_succ, List.length_cons, List.length_nil, List.length_map, List.map_cons, List.map_nil, List.replicate_succ, List.replicate_zero, List.nil_append, List.cons_append, List.append_nil, Nat.zero_add, Nat.reduceAdd, Nat.reduceSub, Nat.reduceEqDiff, Nat.reduceLeDiff, decide_true, decide_false, Bool.and_true, Bool.true_and, Bool.and_false, Bool.false_and, Bool.or_true, Bool.true_or, Bool.or_false, Bool.false_or, Bool.not_true, Bool.not_false, List.all_cons, List.all_nil, eq_self, if_true, if_false, Bool.false_eq_true, reduceCtorEq, Option.toList])
open NR VR VL NP VP
namespace V75
theorem eq_two {a b c d : Int} : pEq (.lst [.int a, .int b]) (.lst [.int c, .int d]) = ret (.val (.bl (decide (([a, b] : List Int) = [c, d])))) := eq_dm' (α := List Int) (a := [a, b]) (b := [c, d]) (by decide)
theorem shown_grow {f s : Int} (hf : f.natAbs < 10 ^ 20) (hs : s.natAbs < 10 ^ 20) : Shown (growB f s) := by
  unfold growB
  split
  · exact shown_pt (by dsimp only; omega) (by dsimp only; omega)
  · exact shown_of sh_non (by decide) (by decide)
/-- slots hand area border first second told -/
theorem k__law_is_pair_right : ∃ f : FM, f = runM (mSeq (mPar [1, 2] (bConsM (mB pSub (mCallN 2 c__law_draw (mCons (mV 0) (mCons (mC (.int 30)) mNil))) (mC (.int 2))) (bConsM (mCallN 2 c__law_draw (mCons (mV 0) (mCons (mC (.int 30)) mNil))) bNilM))) (mSeq (mPar [3, 4] (bConsM (mCallN 2 c__law_draw (mCons (mV 0) (mCons (mC (.int 60)) mNil))) (bConsM (mCallN 2 c__law_draw (mCons (mV 0) (mCons (mC (.int 200)) mNil))) bNilM))) (mSeq (mIfS (mAndT (mTst (mB pGt (mCallN 2 c__law_draw (mCons (mV 0) (mCons (mC (.int 3)) mNil))) (mC (.int 0)))) (mTst (mB pEq (mB pMod (mCall bInt (mCons (mB pAdd (mV 1) (mV 2)) mNil)) (mC (.int 2))) (mC (.int 0))))) (mPar [3, 4] (bConsM (mCall bMax2 (mCons (mC (.int 0)) (mCons (mB pAdd (mB pFdiv (mB pAdd (mV 1) (mV 2)) (mC (.int 2))) (mC (.int 1))) mNil))) (bConsM (mCall bMax2 (mCons (mC (.int 0)) (mCons (mB pAdd (mB pAdd (mB pMul (mC (.int 2)) (mV 1)) (mV 2)) (mC (.int 1))) mNil))) bNilM))) mNext) (mSeq (mSet 5 (mCallN 2 c_by_growth (mCons (mV 3) (mCons (mV 4) mNil)))) (mSeq (mIfS (mTst (mB pNe (mCall bRepr (mCons (mV 5) mNil)) (mCall bRepr (mCons (mCallN 2 c__law_back (mCons (mV 3) (mCons (mV 4) mNil))) mNil)))) (mRet (mC (.bl false))) mNext) (mSeq (mIfS (mTst (mB pIs (mV 5) (mC .non))) (mRet (mC (.bl true))) mNext) (mRet (mB pEq (mLst (mCons (mB pAdd (mB pFdiv (mB pAdd (mB pIx (mV 5) (mC (.int 0))) (mB pIx (mV 5) (mC (.int 1)))) (mC (.int 2))) (mC (.int 1))) (mCons (mB pAdd (mB pAdd (mB pMul (mC (.int 2)) (mB pIx (mV 5) (mC (.int 0)))) (mB pIx (mV 5) (mC (.int 1)))) (mC (.int 1))) mNil))) (mLst (mCons (mV 3) (mCons (mV 4) mNil))))))))))) 6 := ⟨_, rfl⟩
noncomputable def c__law_is_pair_right : FM := k__law_is_pair_right.choose
theorem q__law_is_pair_right : c__law_is_pair_right = runM (mSeq (mPar [1, 2] (bConsM (mB pSub (mCallN 2 c__law_draw (mCons (mV 0) (mCons (mC (.int 30)) mNil))) (mC (.int 2))) (bConsM (mCallN 2 c__law_draw (mCons (mV 0) (mCons (mC (.int 30)) mNil))) bNilM))) (mSeq (mPar [3, 4] (bConsM (mCallN 2 c__law_draw (mCons (mV 0) (mCons (mC (.int 60)) mNil))) (bConsM (mCallN 2 c__law_draw (mCons (mV 0) (mCons (mC (.int 200)) mNil))) bNilM))) (mSeq (mIfS (mAndT (mTst (mB pGt (mCallN 2 c__law_draw (mCons (mV 0) (mCons (mC (.int 3)) mNil))) (mC (.int 0)))) (mTst (mB pEq (mB pMod (mCall bInt (mCons (mB pAdd (mV 1) (mV 2)) mNil)) (mC (.int 2))) (mC (.int 0))))) (mPar [3, 4] (bConsM (mCall bMax2 (mCons (mC (.int 0)) (mCons (mB pAdd (mB pFdiv (mB pAdd (mV 1) (mV 2)) (mC (.int 2))) (mC (.int 1))) mNil))) (bConsM (mCall bMax2 (mCons (mC (.int 0)) (mCons (mB pAdd (mB pAdd (mB pMul (mC (.int 2)) (mV 1)) (mV 2)) (mC (.int 1))) mNil))) bNilM))) mNext) (mSeq (mSet 5 (mCallN 2 c_by_growth (mCons (mV 3) (mCons (mV 4) mNil)))) (mSeq (mIfS (mTst (mB pNe (mCall bRepr (mCons (mV 5) mNil)) (mCall bRepr (mCons (mCallN 2 c__law_back (mCons (mV 3) (mCons (mV 4) mNil))) mNil)))) (mRet (mC (.bl false))) mNext) (mSeq (mIfS (mTst (mB pIs (mV 5) (mC .non))) (mRet (mC (.bl true))) mNext) (mRet (mB pEq (mLst (mCons (mB pAdd (mB pFdiv (mB pAdd (mB pIx (mV 5) (mC (.int 0))) (mB pIx (mV 5) (mC (.int 1)))) (mC (.int 2))) (mC (.int 1))) (mCons (mB pAdd (mB pAdd (mB pMul (mC (.int 2)) (mB pIx (mV 5) (mC (.int 0)))) (mB pIx (mV 5) (mC (.int 1)))) (mC (.int 1))) mNil))) (mLst (mCons (mV 3) (mCons (mV 4) mNil))))))))))) 6 := k__law_is_pair_right.choose_spec
theorem o__law_is_pair_right : Okd (c__law_is_pair_right [.hnd]) fun r => r = .val (.bl true) := by
  rw [q__law_is_pair_right]
  walk_at "mx"
  refine st_draw (by omega) (by omega) fun a a0 a1 => ?_
  walk_at "mx"
  refine st_draw (by omega) (by omega) fun b b0 b1 => ?_
  walk_at "mx"
  refine st_draw (by omega) (by omega) fun f f0 f1 => ?_
  walk_at "mx"
  refine st_draw (by omega) (by omega) fun s s0 s1 => ?_
  walk_at "mx"
  refine st_draw (by omega) (by omega) fun t t0 t1 => ?_
  walk_at "mx"
  by_cases c1 : 0 < t
  · simp only [decide_eq_true c1]
    walk_at "mx"
    by_cases c2 : (a - 2 + b).fmod 2 = 0
    · simp only [decide_eq_true c2]
      walk_at "mx"
      have g1 : 0 ≤ (if (a - 2 + b).fdiv 2 + 1 > 0 then (a - 2 + b).fdiv 2 + 1 else 0) ∧ (if (a - 2 + b).fdiv 2 + 1 > 0 then (a - 2 + b).fdiv 2 + 1 else 0) < 1000 := by
        rw [Int.fdiv_eq_ediv_of_nonneg _ (by decide)]; omega
      have g2 : 0 ≤ (if 2 * (a - 2) + b + 1 > 0 then 2 * (a - 2) + b + 1 else 0) ∧ (if 2 * (a - 2) + b + 1 > 0 then 2 * (a - 2) + b + 1 else 0) < 1000 := by omega
      clear f0 f1 s0 s1
      generalize (if (a - 2 + b).fdiv 2 + 1 > 0 then (a - 2 + b).fdiv 2 + 1 else 0) = f at g1 ⊢
      generalize (if 2 * (a - 2) + b + 1 > 0 then 2 * (a - 2) + b + 1 else 0) = s at g2 ⊢
      rw [e_by_growth (by omega) (by omega) (by omega)]
      walk_at "mx"
      obtain ⟨x, hx⟩ := e_repr (shown_grow (f := f) (s := s) (by omega) (by omega))
      rw [hx]
      walk_at "mx"
      rw [e__law_back ⟨by omega, by omega⟩]
      walk_at "mx"
      rw [hx]
      walk_at "mx"
      unfold growB
      by_cases c : 0 < s - 2 * f + 1 ∧ 3 ≤ 2 * (f - 1) - (s - 2 * f + 1)
      · rw [if_pos c, show isN (pt (s - 2 * f + 1, 2 * (f - 1) - (s - 2 * f + 1))) = false from rfl]
        walk_at "mx"
        rw [eq_two]
        walk_at "mx"
        have e1 : (s - 2 * f + 1 + (2 * (f - 1) - (s - 2 * f + 1))).fdiv 2 + 1 = f := by
          rw [Int.fdiv_eq_ediv_of_nonneg _ (by decide)]; omega
        have e2 : 2 * (s - 2 * f + 1) + (2 * (f - 1) - (s - 2 * f + 1)) + 1 = s := by omega
        rw [e1, e2]
        simp
      · rw [if_neg c]
        walk_at "mx"
    · simp only [decide_eq_false c2]
      walk_at "mx"
      rw [e_by_growth (by omega) (by omega) (by omega)]
      walk_at "mx"
      obtain ⟨x, hx⟩ := e_repr (shown_grow (f := f) (s := s) (by omega) (by omega))
      rw [hx]
      walk_at "mx"
      rw [e__law_back ⟨by omega, by omega⟩]
      walk_at "mx"
      rw [hx]
      walk_at "mx"
      unfold growB
      by_cases c : 0 < s - 2 * f + 1 ∧ 3 ≤ 2 * (f - 1) - (s - 2 * f + 1)
      · rw [if_pos c, show isN (pt (s - 2 * f + 1, 2 * (f - 1) - (s - 2 * f + 1))) = false from rfl]
        walk_at "mx"
        rw [eq_two]
        walk_at "mx"
        have e1 : (s - 2 * f + 1 + (2 * (f - 1) - (s - 2 * f + 1))).fdiv 2 + 1 = f := by
          rw [Int.fdiv_eq_ediv_of_nonneg _ (by decide)]; omega
        have e2 : 2 * (s - 2 * f + 1) + (2 * (f - 1) - (s - 2 * f + 1)) + 1 = s := by omega
        rw [e1, e2]
        simp
      · rw [if_neg c]
        walk_at "mx"
  · simp only [decide_eq_false c1]
    walk_at "mx"
    rw [e_by_growth (by omega) (by omega) (by omega)]
    walk_at "mx"
    obtain ⟨x, hx⟩ := e_repr (shown_grow (f := f) (s := s) (by omega) (by omega))
    rw [hx]
    walk_at "mx"
    rw [e__law_back ⟨by omega, by omega⟩]
    walk_at "mx"
    rw [hx]
    walk_at "mx"
    unfold growB
    by_cases c : 0 < s - 2 * f + 1 ∧ 3 ≤ 2 * (f - 1) - (s - 2 * f + 1)
    · rw [if_pos c, show isN (pt (s - 2 * f + 1, 2 * (f - 1) - (s - 2 * f + 1))) = false from rfl]
      walk_at "mx"
      rw [eq_two]
      walk_at "mx"
      have e1 : (s - 2 * f + 1 + (2 * (f - 1) - (s - 2 * f + 1))).fdiv 2 + 1 = f := by
        rw [Int.fdiv_eq_ediv_of_nonneg _ (by decide)]; omega
      have e2 : 2 * (s - 2 * f + 1) + (2 * (f - 1) - (s - 2 * f + 1)) + 1 = s := by omega
      rw [e1, e2]
      simp
    · rw [if_neg c]
      walk_at "mx"
/-- slots script hand known turn -/
noncomputable def s_law : MS := (mSeq (mSet 2 (mLst (mCons (mCallN 2 c_by_growth (mCons (mC (.int 3)) (mCons (mC (.int 6)) mNil))) (mCons (mCallN 2 c_by_growth (mCons (mC (.int 9)) (mCons (mC (.int 25)) mNil))) (mCons (mCallN 2 c_by_growth (mCons (mC (.int 4)) (mCons (mC (.int 9)) mNil))) (mCons (mCallN 2 c_by_growth (mCons (mC (.int 3)) (mCons (mC (.int 5)) mNil))) (mCons (mCallN 2 c_by_growth (mCons (mC (.int 0)) (mCons (mC (.int 0)) mNil))) (mCons (mCallN 2 c_by_growth (mCons (mC (.int 2)) (mCons (mC (.int 4)) mNil))) mNil)))))))) (mSeq (mIfS (mTst (mB pNe (mCall bRepr (mCons (mV 2) mNil)) (mCall bRepr (mCons (mLst (mCons (mTup (mCons (mC (.int 1)) (mCons (mC (.int 3)) mNil))) (mCons (mTup (mCons (mC (.int 8)) (mCons (mC (.int 8)) mNil))) (mCons (mTup (mCons (mC (.int 2)) (mCons (mC (.int 4)) mNil))) (mCons (mC .non) (mCons (mC .non) (mCons (mC .non) mNil))))))) mNil)))) (mRet (mC (.bl false))) mNext) (mSeq (mFor (iArg rng1 (mCons (mC (.int 8)) mNil)) (tgN 3) (mIfS (mOrT (mNotT (mTst (mCallN 1 c__law_is_polygon_right (mCons (mCallN 2 c__law_polygon (mCons (mV 1) (mCons (mC (.int 40)) mNil))) mNil)))) (mNotT (mTst (mCallN 1 c__law_is_pair_right (mCons (mV 1) mNil))))) (mRet (mC (.bl false))) mNext)) (mRet (mC (.bl true))))))
def n_law : Nat := 4
theorem k_grow (f s : Int) (v : PV) (h1 : 0 ≤ f := by decide) (h2 : 0 ≤ s := by decide) (h3 : f < 1000000000000 := by decide) (e : growB f s = v := by rfl) : c_by_growth [.int f, .int s] = ret (.val v) := by
  rw [e_by_growth h1 h2 h3, e]
theorem o_law : Okd (bnd (s_law (startL n_law)) (f := ⟨fun o _ => endF o⟩)) fun r => r = .val (.bl true) := by
  unfold s_law n_law startL
  walk_at "mx"
  rw [k_grow 3 6 (pt (1, 3))]
  walk_at "mx"
  rw [k_grow 9 25 (pt (8, 8))]
  walk_at "mx"
  rw [k_grow 4 9 (pt (2, 4))]
  walk_at "mx"
  rw [k_grow 3 5 .non]
  walk_at "mx"
  rw [k_grow 0 0 .non]
  walk_at "mx"
  rw [k_grow 2 4 .non]
  walk_at "mx"
  have hs : Shown (.lst [pt (1, 3), pt (8, 8), pt (2, 4), .non, .non, .non]) := shown_of (sh_lst (shs_cons (sh_pt (by decide) (by decide)) (shs_cons (sh_pt (by decide) (by decide)) (shs_cons (sh_pt (by decide) (by decide)) (shs_cons sh_non (shs_cons sh_non (shs_cons sh_non shs_nil))))))) (by decide) (by decide)
  obtain ⟨x, hx⟩ := e_repr hs
  rw [hx]
  walk_at "mx"
  rw [show bRepr [.lst [.tup [.int 1, .int 3], .tup [.int 8, .int 8], .tup [.int 2, .int 4], .non, .non, .non]] = ret (.val (.str x)) from hx]
  walk_at "mx"
  generalize hH : Sl.val (PV.lst [_, _, _, _, _, _]) = H
  refine st_for PV.int (fun _ ρ => ∃ x : Sl, ρ = [.no, .val .hnd, H, x]) _ ⟨_, rfl⟩ ?_ ?_
  · rintro z zs ρ ⟨x, rfl⟩
    walk_at "mx"
    refine st_call (o__law_polygon (by omega) (by omega)) ?_
    rintro _ ⟨W, rfl, hW⟩
    walk_at "mx"
    rw [e__law_is_polygon_right hW]
    walk_at "mx"
    refine st_call o__law_is_pair_right ?_
    rintro _ rfl
    walk_at "mx"
    exact ⟨_, rfl⟩
  · rintro ρ ⟨x, rfl⟩
    walk_at "mx"
end V75
end
section
set_option Elab.async false
set_option linter.all false
set_option maxRecDepth 100000
namespace VE
open PySem PySem.Spec PyProof.Rows L2
/-! ### draws of other constants: printed by fam.py -/
namespace F13
def t_draw1 (K : PySem.W.Frag) : TS := tIfS (tAnd (tTest (tOp rEq (hx K 2) (cI 0))) (tTest (tOp (rI0 fun i j => .bl (decide (i < j))) (hx K 1) (tCB (rLenS K) (tCons (hx K 0) tNil)))))
  (tSeq (tAsg (tOp (rIxL K) (hx K 0) (hx K 1)) (gName 2)) (tSeq (hset 1 (tAddI (hx K 1) (cI 1)))
    (tSeq (hset 3 (tModI (tInt (tAddI (tAddI (tMulI (hx K 3) (cI 69621)) (tMulI (tVar 2) (cI 40692))) (cI 337))) (cI 2147483629)))
      (tIfS (tTest (tOp (rI0 fun i j => .bl (decide (j ≤ i))) (tVar 2) (tOp (rI CPow fun i j => .int (i ^ j.toNat)) (cI 10) (cI 18)))) (hset 2 (tVar 2)) tNext)))) tNext
def t_draw2 (K : PySem.W.Frag) : TS := tIfS (tTest (tOp (rI0 fun i j => .bl (decide (j < i))) (hx K 2) (cI 0)))
  (tSeq (tAsg (tModI (tInt (hx K 2)) (tVar 1)) (gName 3)) (tSeq (hset 2 (tDivI (hx K 2) (tVar 1))) (tRet (tVar 3)))) tNext
def t_d3d : TS := tRet (tModI (tInt (tDivI (tVar 4) (cI 16))) (tVar 1))
def t_d3c : TS := tSeq (tAsg (tModI (tInt (tMulI (tVar 4) (tAddI (tDivI (tVar 4) (cI 2003)) (cI 40014)))) (cI 2147483563)) (gName 4)) t_d3d
def t_d3b : TS := tSeq (tAsg (tModI (tInt (tMulI (tVar 4) (tAddI (tDivI (tVar 4) (cI 1009)) (cI 69621)))) (cI 2147483647)) (gName 4)) t_d3c
def t_draw3 (K : PySem.W.Frag) : TS := tSeq (hset 4 (tAddI (hx K 4) (cI 1)))
  (tSeq (tAsg (tModI (tInt (tMulI (tInt (tAddI (hx K 3) (tMulI (cI 7919) (hx K 4)))) (cI 48271))) (cI 2147483647)) (gName 4)) t_d3b)
def t_draw (K : PySem.W.Frag) : TS := tSeq (t_draw1 K) (tSeq (t_draw2 K) (t_draw3 K))
theorem d3d_read {x0 x2 x3 : Option V} {z many : Int} {D : Ends} {H : Hp} (hm : 0 < many) (q : ∀ r, 0 ≤ r → r < many → D.rt (.int r) H) : t_d3d D [x0, some (.int many), x2, x3, some (.int z)] H :=
  ⟨.int z, rfl, z, 16, rfl, rfl, ⟨by decide, by decide⟩, .inl ⟨_, rfl, .int many, rfl, z / 16, many, rfl, rfl, hm, q _ (Int.emod_nonneg _ (by omega)) (Int.emod_lt_of_pos _ hm)⟩⟩
theorem d3c_read {x0 x2 x3 : Option V} {z many : Int} {D : Ends} {H : Hp} (hm : 0 < many) (h1 : 0 ≤ z) (h2 : z < 2147483647) (q : ∀ r, 0 ≤ r → r < many → D.rt (.int r) H) : t_d3c D [x0, some (.int many), x2, x3, some (.int z)] H :=
  ⟨.int z, rfl, .int z, rfl, z, 2003, rfl, rfl, ⟨by decide, by decide⟩, z / 2003, 40014, rfl, rfl, z, z / 2003 + 40014, rfl, rfl, .inl (by omega), .inl ⟨_, rfl, z * (z / 2003 + 40014), 2147483563, rfl, rfl, by omega, d3d_read (z := z * (z / 2003 + 40014) % 2147483563) hm q⟩⟩
theorem d3b_read {x0 x2 x3 : Option V} {z many : Int} {D : Ends} {H : Hp} (hm : 0 < many) (h1 : 0 ≤ z) (h2 : z < 2147483647) (q : ∀ r, 0 ≤ r → r < many → D.rt (.int r) H) : t_d3b D [x0, some (.int many), x2, x3, some (.int z)] H :=
  ⟨.int z, rfl, .int z, rfl, z, 1009, rfl, rfl, ⟨by decide, by decide⟩, z / 1009, 69621, rfl, rfl, z, z / 1009 + 69621, rfl, rfl, .inl (by omega), .inl ⟨_, rfl, z * (z / 1009 + 69621), 2147483647, rfl, rfl, by omega, d3c_read (z := z * (z / 1009 + 69621) % 2147483647) hm (Int.emod_nonneg _ (by omega)) (Int.emod_lt_of_pos _ (by omega)) q⟩⟩
/-- the slots: hand, many, cell, digit, number -/
theorem draw3_read {K : PySem.W.Frag} {G : Gh} {Fr F H : Hp} {a c : Addr} {cs : List Int} {i b m n many : Int} {x2 x3 x4 : Option V} {D : Ends} (R : RB G Fr F H) (hO : G.hO = some a) (hH : H a = some (.lst [.ref c, .int i, .int b, .int m, .int n])) (hc : F c = some (.lst (cs.map V.int))) (hl : cs.length ≤ 63) (h0 : 0 ≤ i)
    (hm : 0 < many) (q : ∀ r H', 0 ≤ r → r < many → RB G Fr F H' → D.rt (.int r) H') : t_draw3 K D [some (.ref a), some (.int many), x2, x3, x4] H := by
  refine ⟨.ref a, rfl, a, _, 4, _, rfl, rfl, SqL.of hH, rfl, _, _, rfl, rfl, .ref a, rfl, a, _, 4, 4, rfl, rfl, hH, rfl, ?_⟩
  have R2 := hand_step (H := H) (vs := []) (ws := [.ref c, .int i, .int b, .int m, .int (n + 1)]) R hO h0 rfl hc hl
  have h2 : (upd H a (.lst ([V.ref c, .int i, .int b, .int m, .int n].set 4 (.int (n + 1))))) a = some (.lst [.ref c, .int i, .int b, .int m, .int (n + 1)]) := upd_same
  refine ⟨.ref a, rfl, a, _, 3, _, rfl, rfl, SqL.of h2, rfl, .ref a, rfl, a, _, 4, _, rfl, rfl, SqL.of h2, rfl, 7919, n + 1, rfl, rfl, .inl (by omega), m, 7919 * (n + 1), rfl, rfl, .inl ⟨_, rfl, m + 7919 * (n + 1), 48271, rfl, rfl, .inr (by omega), .inl ⟨_, rfl, (m + 7919 * (n + 1)) * 48271, 2147483647, rfl, rfl, by omega, ?_⟩⟩⟩
  exact d3b_read (z := (m + 7919 * (n + 1)) * 48271 % 2147483647) hm (Int.emod_nonneg _ (by omega)) (Int.emod_lt_of_pos _ (by omega)) fun r r0 rm => q r _ r0 rm R2
theorem draw2_read {K : PySem.W.Frag} {G : Gh} {Fr F H : Hp} {a c : Addr} {cs : List Int} {i b m n many : Int} {x2 x3 x4 : Option V} {D : Ends} (R : RB G Fr F H) (hO : G.hO = some a) (hH : H a = some (.lst [.ref c, .int i, .int b, .int m, .int n])) (hc : F c = some (.lst (cs.map V.int))) (hl : cs.length ≤ 63) (h0 : 0 ≤ i)
    (hm : 0 < many) (hm2 : many < 1073741824) (q : ∀ r H', 0 ≤ r → r < many → RB G Fr F H' → D.rt (.int r) H') : tSeq (t_draw2 K) (t_draw3 K) D [some (.ref a), some (.int many), x2, x3, x4] H := by
  refine ⟨.ref a, rfl, a, _, 2, _, rfl, rfl, SqL.of hH, rfl, _, _, rfl, rfl, _, rfl, ?_⟩
  by_cases hb : 0 < b
  · rw [decide_eq_true hb]
    refine iteT ⟨.ref a, rfl, a, _, 2, _, rfl, rfl, SqL.of hH, rfl, .inl ⟨_, rfl, .int many, rfl, b, many, rfl, rfl, hm, ?_⟩⟩
    refine ⟨.ref a, rfl, a, _, 2, _, rfl, rfl, SqL.of hH, rfl, .int many, rfl, b, many, rfl, rfl, ⟨hm, hm2⟩, .ref a, rfl, a, _, 2, 2, rfl, rfl, hH, rfl, ?_⟩
    exact ⟨.int (b % many), rfl, q _ _ (Int.emod_nonneg _ (by omega)) (Int.emod_lt_of_pos _ hm) (hand_step (vs := []) R hO h0 rfl hc hl)⟩
  · rw [decide_eq_false hb]
    exact iteF (draw3_read R hO hH hc hl h0 hm q)
theorem draw_read {K : PySem.W.Frag} {G : Gh} {Fr F H : Hp} {a c : Addr} {cs : List Int} {i b m n many : Int} {x2 x3 x4 : Option V} {D : Ends} (R : RB G Fr F H) (hO : G.hO = some a) (hH : H a = some (.lst [.ref c, .int i, .int b, .int m, .int n])) (hc : F c = some (.lst (cs.map V.int))) (hl : cs.length ≤ 63) (h0 : 0 ≤ i)
    (hm : 0 < many) (hm2 : many < 1073741824) (q : ∀ r H', 0 ≤ r → r < many → RB G Fr F H' → D.rt (.int r) H') : t_draw K D [some (.ref a), some (.int many), x2, x3, x4] H := by
  have hcH : H c = some (.lst (cs.map V.int)) := R.sub _ _ hc
  have hca : c ≠ a := fun z => by subst z; rw [(R.hand c hO).1] at hc; cases hc
  have e2 : decide (V.int b = V.int 0) = decide (b = 0) := by
    by_cases h : b = 0
    · subst h; rfl
    · rw [decide_eq_false h, decide_eq_false (fun z => h (V.int.inj z))]
  refine ⟨.ref a, rfl, a, _, 2, _, rfl, rfl, SqL.of hH, rfl, rfl, _, rfl, ?_⟩
  rw [e2]
  by_cases hb : b = 0
  · rw [decide_eq_true hb]
    refine iteT ⟨.ref a, rfl, a, _, 1, _, rfl, rfl, SqL.of hH, rfl, .ref a, rfl, a, _, 0, _, rfl, rfl, SqL.of hH, rfl, c, _, rfl, .inl (SqL.of hcH), _, _, rfl, rfl, _, rfl, ?_⟩
    by_cases hi : i < ((cs.map V.int).length : Int)
    · rw [decide_eq_true hi]
      refine iteT ?_
      obtain ⟨j, rfl⟩ : ∃ j : Nat, i = j := ⟨i.toNat, by omega⟩
      have hj : j < cs.length := by simpa using hi
      have hat : L2.atI (cs.map V.int) (j : Int) = some (.int cs[j]) := atI_nat (by rw [List.getElem?_map, List.getElem?_eq_getElem hj]; rfl)
      refine ⟨.ref a, rfl, a, _, 0, _, rfl, rfl, SqL.of hH, rfl, .ref a, rfl, a, _, 1, _, rfl, rfl, SqL.of hH, rfl, c, _, (j : Int), .int cs[j], rfl, rfl, SqL.of hcH, hat, ?_⟩
      refine ⟨.ref a, rfl, a, _, 1, _, rfl, rfl, SqL.of hH, rfl, (j : Int), 1, rfl, rfl, .ref a, rfl, a, _, 1, 1, rfl, rfl, hH, rfl, ?_⟩
      have R2 := hand_step (H := H) (vs := []) (ws := [V.ref c, .int (j + 1 : Int), .int b, .int m, .int n]) R hO (by omega) rfl hc hl
      have h2 : (upd H a (.lst ([V.ref c, .int (j : Int), .int b, .int m, .int n].set 1 (.int ((j : Int) + 1))))) a = some (.lst [.ref c, .int ((j : Int) + 1), .int b, .int m, .int n]) := upd_same
      refine ⟨.ref a, rfl, a, _, 3, _, rfl, rfl, SqL.of h2, rfl, m, 69621, rfl, rfl, .inr (by omega), .int cs[j], rfl, cs[j], 40692, rfl, rfl, .inr (by omega), m * 69621, cs[j] * 40692, rfl, rfl, m * 69621 + cs[j] * 40692, 337, rfl, rfl, .inl ⟨_, rfl, m * 69621 + cs[j] * 40692 + 337, 2147483629, rfl, rfl, by omega, .ref a, rfl, a, _, 3, 3, rfl, rfl, h2, rfl, ?_⟩⟩
      have R3 := hand_step (H := upd H a (.lst [V.ref c, .int (j + 1 : Int), .int b, .int m, .int n])) (vs := []) (ws := [V.ref c, .int (j + 1 : Int), .int b, .int ((m * 69621 + cs[j] * 40692 + 337) % 2147483629), .int n]) R2 hO (by omega) rfl hc hl
      have h3 : (upd (upd H a (.lst ([V.ref c, .int (j : Int), .int b, .int m, .int n].set 1 (.int ((j : Int) + 1))))) a (.lst ([V.ref c, .int ((j : Int) + 1), .int b, .int m, .int n].set 3 (.int ((m * 69621 + cs[j] * 40692 + 337) % 2147483629))))) a = some (.lst [.ref c, .int ((j : Int) + 1), .int b, .int ((m * 69621 + cs[j] * 40692 + 337) % 2147483629), .int n]) := upd_same
      refine ⟨.int cs[j], rfl, 10, 18, rfl, rfl, ⟨by decide, by decide, by decide⟩, cs[j], (10 : Int) ^ 18, rfl, rfl, _, rfl, ?_⟩
      by_cases hg : (10 : Int) ^ 18 ≤ cs[j]
      · rw [decide_eq_true hg]
        refine iteT ⟨.int cs[j], rfl, .ref a, rfl, a, _, 2, 2, rfl, rfl, h3, rfl, ?_⟩
        exact draw2_read (hand_step (vs := []) R3 hO (by omega) rfl hc hl) hO upd_same hc hl (by omega) hm hm2 q
      · rw [decide_eq_false hg]
        exact iteF (draw2_read R3 hO h3 hc hl (by omega) hm hm2 q)
    · rw [decide_eq_false hi]
      exact iteF (draw2_read R hO hH hc hl h0 hm hm2 q)
  · rw [decide_eq_false hb]
    exact iteF (iteF (draw2_read R hO hH hc hl h0 hm hm2 q))
theorem draw_body {K : PySem.W.Frag} {mg : Str → Option Value} {vs : List V} {H : Hp} {Q : VK} {E : XK} (h : vsp K mg 2 S__law_draw vs H Q E) : t_draw K { nx := fun _ H' => Q .non H', rt := Q } (L2.start ["hand", "many", "cell", "digit", "number"] vs) H := by
  obtain ⟨_, hO, Fr, F, ps, Qv, R, rs, ⟨m, rfl, m1, m2, hq⟩, k⟩ := h
  cases rs with
  | cons r1 rs =>
    cases rs with
    | cons r2 rs =>
      cases rs
      cases r1 with
      | hnd e =>
        cases r2
        obtain ⟨hF, c, cs, i, b, mm, n, e1, e2, e3, e4⟩ := R.hand _ e
        exact draw_read (G := ⟨K, mg, hO⟩) R e e1 e2 e3 e4 m1 m2 fun r H' r0 rm R' => k (.int r) H' F (.val (.int r)) (Same.refl F) R' (Rep.int r) (hq r r0 rm)
section
variable {P : Program} {w : World} {K : PySem.W.Frag} {mg : Str → Option Value} {base : Heap} {qual : Str} {params : Arguments} {st : Stmt} {rest : List Stmt} {scope : Scope} {f fH : Addr} {fd fdH : FuncData}
theorem fnG_draw {body : List Stmt} (F : FunD K "_law_draw" "_law_draw" params body scope [] [] f fd) (Sc : FnScope ["hand", "many", "cell", "digit", "number"] ["hand", "many"] scope)
    (hd : ∀ (cdv : Value) (A : Around) (outer : List Env) (s : Shared) (H : Hp), PSs (cxOf CX0 P w K mg base ["hand", "many", "cell", "digit", "number"] "_law_draw" scope f cdv A outer s H E0).nox body (t_draw K)) : FnG P w K mg base 1 f fd ["hand", "many"] (vsp K mg 2 S__law_draw) := by
  obtain ⟨oc, od, dV, kV, doc, pm, an, cdv, ct, osl, e, lk, hcd, _, _⟩ := F.ex
  subst e
  exact fnG_of lk hcd Sc (fun vs H Q E h => h.1) fun A outer s H vs Q _ h => ⟨_, PSs.nox (hd cdv A outer s H), draw_body h⟩
end
end F13
namespace F25
def t_draw1 (K : PySem.W.Frag) : TS := tIfS (tAnd (tTest (tOp rEq (hx K 2) (cI 0))) (tTest (tOp (rI0 fun i j => .bl (decide (i < j))) (hx K 1) (tCB (rLenS K) (tCons (hx K 0) tNil)))))
  (tSeq (tAsg (tOp (rIxL K) (hx K 0) (hx K 1)) (gName 2)) (tSeq (hset 1 (tAddI (hx K 1) (cI 1)))
    (tSeq (hset 3 (tModI (tInt (tAddI (tAddI (tMulI (hx K 3) (cI 69621)) (tVar 2)) (cI 29))) (cI 2147483629)))
      (tIfS (tTest (tOp (rI0 fun i j => .bl (decide (j ≤ i))) (tVar 2) (tOp (rI CPow fun i j => .int (i ^ j.toNat)) (cI 10) (cI 18)))) (hset 2 (tVar 2)) tNext)))) tNext
def t_draw2 (K : PySem.W.Frag) : TS := tIfS (tTest (tOp (rI0 fun i j => .bl (decide (j < i))) (hx K 2) (cI 0)))
  (tSeq (tAsg (tModI (tInt (hx K 2)) (tVar 1)) (gName 3)) (tSeq (hset 2 (tDivI (hx K 2) (tVar 1))) (tRet (tVar 3)))) tNext
def t_d3d : TS := tRet (tModI (tInt (tDivI (tVar 4) (cI 16))) (tVar 1))
def t_d3c : TS := tSeq (tAsg (tModI (tInt (tMulI (tVar 4) (tAddI (tDivI (tVar 4) (cI 2003)) (cI 40692)))) (cI 2147483399)) (gName 4)) t_d3d
def t_d3b : TS := tSeq (tAsg (tModI (tInt (tMulI (tVar 4) (tAddI (tDivI (tVar 4) (cI 1009)) (cI 69621)))) (cI 2147483647)) (gName 4)) t_d3c
def t_draw3 (K : PySem.W.Frag) : TS := tSeq (hset 4 (tAddI (hx K 4) (cI 1)))
  (tSeq (tAsg (tModI (tInt (tMulI (tInt (tAddI (hx K 3) (tMulI (cI 7919) (hx K 4)))) (cI 48271))) (cI 2147483647)) (gName 4)) t_d3b)
def t_draw (K : PySem.W.Frag) : TS := tSeq (t_draw1 K) (tSeq (t_draw2 K) (t_draw3 K))
theorem d3d_read {x0 x2 x3 : Option V} {z many : Int} {D : Ends} {H : Hp} (hm : 0 < many) (q : ∀ r, 0 ≤ r → r < many → D.rt (.int r) H) : t_d3d D [x0, some (.int many), x2, x3, some (.int z)] H :=
  ⟨.int z, rfl, z, 16, rfl, rfl, ⟨by decide, by decide⟩, .inl ⟨_, rfl, .int many, rfl, z / 16, many, rfl, rfl, hm, q _ (Int.emod_nonneg _ (by omega)) (Int.emod_lt_of_pos _ hm)⟩⟩
theorem d3c_read {x0 x2 x3 : Option V} {z many : Int} {D : Ends} {H : Hp} (hm : 0 < many) (h1 : 0 ≤ z) (h2 : z < 2147483647) (q : ∀ r, 0 ≤ r → r < many → D.rt (.int r) H) : t_d3c D [x0, some (.int many), x2, x3, some (.int z)] H :=
  ⟨.int z, rfl, .int z, rfl, z, 2003, rfl, rfl, ⟨by decide, by decide⟩, z / 2003, 40692, rfl, rfl, z, z / 2003 + 40692, rfl, rfl, .inl (by omega), .inl ⟨_, rfl, z * (z / 2003 + 40692), 2147483399, rfl, rfl, by omega, d3d_read (z := z * (z / 2003 + 40692) % 2147483399) hm q⟩⟩
theorem d3b_read {x0 x2 x3 : Option V} {z many : Int} {D : Ends} {H : Hp} (hm : 0 < many) (h1 : 0 ≤ z) (h2 : z < 2147483647) (q : ∀ r, 0 ≤ r → r < many → D.rt (.int r) H) : t_d3b D [x0, some (.int many), x2, x3, some (.int z)] H :=
  ⟨.int z, rfl, .int z, rfl, z, 1009, rfl, rfl, ⟨by decide, by decide⟩, z / 1009, 69621, rfl, rfl, z, z / 1009 + 69621, rfl, rfl, .inl (by omega), .inl ⟨_, rfl, z * (z / 1009 + 69621), 2147483647, rfl, rfl, by omega, d3c_read (z := z * (z / 1009 + 69621) % 2147483647) hm (Int.emod_nonneg _ (by omega)) (Int.emod_lt_of_pos _ (by omega)) q⟩⟩
/-- the slots: hand, many, cell, digit, number -/
theorem draw3_read {K : PySem.W.Frag} {G : Gh} {Fr F H : Hp} {a c : Addr} {cs : List Int} {i b m n many : Int} {x2 x3 x4 : Option V} {D : Ends} (R : RB G Fr F H) (hO : G.hO = some a) (hH : H a = some (.lst [.ref c, .int i, .int b, .int m, .int n])) (hc : F c = some (.lst (cs.map V.int))) (hl : cs.length ≤ 63) (h0 : 0 ≤ i)
    (hm : 0 < many) (q : ∀ r H', 0 ≤ r → r < many → RB G Fr F H' → D.rt (.int r) H') : t_draw3 K D [some (.ref a), some (.int many), x2, x3, x4] H := by
  refine ⟨.ref a, rfl, a, _, 4, _, rfl, rfl, SqL.of hH, rfl, _, _, rfl, rfl, .ref a, rfl, a, _, 4, 4, rfl, rfl, hH, rfl, ?_⟩
  have R2 := hand_step (H := H) (vs := []) (ws := [.ref c, .int i, .int b, .int m, .int (n + 1)]) R hO h0 rfl hc hl
  have h2 : (upd H a (.lst ([V.ref c, .int i, .int b, .int m, .int n].set 4 (.int (n + 1))))) a = some (.lst [.ref c, .int i, .int b, .int m, .int (n + 1)]) := upd_same
  refine ⟨.ref a, rfl, a, _, 3, _, rfl, rfl, SqL.of h2, rfl, .ref a, rfl, a, _, 4, _, rfl, rfl, SqL.of h2, rfl, 7919, n + 1, rfl, rfl, .inl (by omega), m, 7919 * (n + 1), rfl, rfl, .inl ⟨_, rfl, m + 7919 * (n + 1), 48271, rfl, rfl, .inr (by omega), .inl ⟨_, rfl, (m + 7919 * (n + 1)) * 48271, 2147483647, rfl, rfl, by omega, ?_⟩⟩⟩
  exact d3b_read (z := (m + 7919 * (n + 1)) * 48271 % 2147483647) hm (Int.emod_nonneg _ (by omega)) (Int.emod_lt_of_pos _ (by omega)) fun r r0 rm => q r _ r0 rm R2
theorem draw2_read {K : PySem.W.Frag} {G : Gh} {Fr F H : Hp} {a c : Addr} {cs : List Int} {i b m n many : Int} {x2 x3 x4 : Option V} {D : Ends} (R : RB G Fr F H) (hO : G.hO = some a) (hH : H a = some (.lst [.ref c, .int i, .int b, .int m, .int n])) (hc : F c = some (.lst (cs.map V.int))) (hl : cs.length ≤ 63) (h0 : 0 ≤ i)
    (hm : 0 < many) (hm2 : many < 1073741824) (q : ∀ r H', 0 ≤ r → r < many → RB G Fr F H' → D.rt (.int r) H') : tSeq (t_draw2 K) (t_draw3 K) D [some (.ref a), some (.int many), x2, x3, x4] H := by
  refine ⟨.ref a, rfl, a, _, 2, _, rfl, rfl, SqL.of hH, rfl, _, _, rfl, rfl, _, rfl, ?_⟩
  by_cases hb : 0 < b
  · rw [decide_eq_true hb]
    refine iteT ⟨.ref a, rfl, a, _, 2, _, rfl, rfl, SqL.of hH, rfl, .inl ⟨_, rfl, .int many, rfl, b, many, rfl, rfl, hm, ?_⟩⟩
    refine ⟨.ref a, rfl, a, _, 2, _, rfl, rfl, SqL.of hH, rfl, .int many, rfl, b, many, rfl, rfl, ⟨hm, hm2⟩, .ref a, rfl, a, _, 2, 2, rfl, rfl, hH, rfl, ?_⟩
    exact ⟨.int (b % many), rfl, q _ _ (Int.emod_nonneg _ (by omega)) (Int.emod_lt_of_pos _ hm) (hand_step (vs := []) R hO h0 rfl hc hl)⟩
  · rw [decide_eq_false hb]
    exact iteF (draw3_read R hO hH hc hl h0 hm q)
theorem draw_read {K : PySem.W.Frag} {G : Gh} {Fr F H : Hp} {a c : Addr} {cs : List Int} {i b m n many : Int} {x2 x3 x4 : Option V} {D : Ends} (R : RB G Fr F H) (hO : G.hO = some a) (hH : H a = some (.lst [.ref c, .int i, .int b, .int m, .int n])) (hc : F c = some (.lst (cs.map V.int))) (hl : cs.length ≤ 63) (h0 : 0 ≤ i)
    (hm : 0 < many) (hm2 : many < 1073741824) (q : ∀ r H', 0 ≤ r → r < many → RB G Fr F H' → D.rt (.int r) H') : t_draw K D [some (.ref a), some (.int many), x2, x3, x4] H := by
  have hcH : H c = some (.lst (cs.map V.int)) := R.sub _ _ hc
  have hca : c ≠ a := fun z => by subst z; rw [(R.hand c hO).1] at hc; cases hc
  have e2 : decide (V.int b = V.int 0) = decide (b = 0) := by
    by_cases h : b = 0
    · subst h; rfl
    · rw [decide_eq_false h, decide_eq_false (fun z => h (V.int.inj z))]
  refine ⟨.ref a, rfl, a, _, 2, _, rfl, rfl, SqL.of hH, rfl, rfl, _, rfl, ?_⟩
  rw [e2]
  by_cases hb : b = 0
  · rw [decide_eq_true hb]
    refine iteT ⟨.ref a, rfl, a, _, 1, _, rfl, rfl, SqL.of hH, rfl, .ref a, rfl, a, _, 0, _, rfl, rfl, SqL.of hH, rfl, c, _, rfl, .inl (SqL.of hcH), _, _, rfl, rfl, _, rfl, ?_⟩
    by_cases hi : i < ((cs.map V.int).length : Int)
    · rw [decide_eq_true hi]
      refine iteT ?_
      obtain ⟨j, rfl⟩ : ∃ j : Nat, i = j := ⟨i.toNat, by omega⟩
      have hj : j < cs.length := by simpa using hi
      have hat : L2.atI (cs.map V.int) (j : Int) = some (.int cs[j]) := atI_nat (by rw [List.getElem?_map, List.getElem?_eq_getElem hj]; rfl)
      refine ⟨.ref a, rfl, a, _, 0, _, rfl, rfl, SqL.of hH, rfl, .ref a, rfl, a, _, 1, _, rfl, rfl, SqL.of hH, rfl, c, _, (j : Int), .int cs[j], rfl, rfl, SqL.of hcH, hat, ?_⟩
      refine ⟨.ref a, rfl, a, _, 1, _, rfl, rfl, SqL.of hH, rfl, (j : Int), 1, rfl, rfl, .ref a, rfl, a, _, 1, 1, rfl, rfl, hH, rfl, ?_⟩
      have R2 := hand_step (H := H) (vs := []) (ws := [V.ref c, .int (j + 1 : Int), .int b, .int m, .int n]) R hO (by omega) rfl hc hl
      have h2 : (upd H a (.lst ([V.ref c, .int (j : Int), .int b, .int m, .int n].set 1 (.int ((j : Int) + 1))))) a = some (.lst [.ref c, .int ((j : Int) + 1), .int b, .int m, .int n]) := upd_same
      refine ⟨.ref a, rfl, a, _, 3, _, rfl, rfl, SqL.of h2, rfl, m, 69621, rfl, rfl, .inr (by omega), .int cs[j], rfl, m * 69621, cs[j], rfl, rfl, m * 69621 + cs[j], 29, rfl, rfl, .inl ⟨_, rfl, m * 69621 + cs[j] + 29, 2147483629, rfl, rfl, by omega, .ref a, rfl, a, _, 3, 3, rfl, rfl, h2, rfl, ?_⟩⟩
      have R3 := hand_step (H := upd H a (.lst [V.ref c, .int (j + 1 : Int), .int b, .int m, .int n])) (vs := []) (ws := [V.ref c, .int (j + 1 : Int), .int b, .int ((m * 69621 + cs[j] + 29) % 2147483629), .int n]) R2 hO (by omega) rfl hc hl
      have h3 : (upd (upd H a (.lst ([V.ref c, .int (j : Int), .int b, .int m, .int n].set 1 (.int ((j : Int) + 1))))) a (.lst ([V.ref c, .int ((j : Int) + 1), .int b, .int m, .int n].set 3 (.int ((m * 69621 + cs[j] + 29) % 2147483629))))) a = some (.lst [.ref c, .int ((j : Int) + 1), .int b, .int ((m * 69621 + cs[j] + 29) % 2147483629), .int n]) := upd_same
      refine ⟨.int cs[j], rfl, 10, 18, rfl, rfl, ⟨by decide, by decide, by decide⟩, cs[j], (10 : Int) ^ 18, rfl, rfl, _, rfl, ?_⟩
      by_cases hg : (10 : Int) ^ 18 ≤ cs[j]
      · rw [decide_eq_true hg]
        refine iteT ⟨.int cs[j], rfl, .ref a, rfl, a, _, 2, 2, rfl, rfl, h3, rfl, ?_⟩
        exact draw2_read (hand_step (vs := []) R3 hO (by omega) rfl hc hl) hO upd_same hc hl (by omega) hm hm2 q
      · rw [decide_eq_false hg]
        exact iteF (draw2_read R3 hO h3 hc hl (by omega) hm hm2 q)
    · rw [decide_eq_false hi]
      exact iteF (draw2_read R hO hH hc hl h0 hm hm2 q)
  · rw [decide_eq_false hb]
    exact iteF (iteF (draw2_read R hO hH hc hl h0 hm hm2 q))
theorem draw_body {K : PySem.W.Frag} {mg : Str → Option Value} {vs : List V} {H : Hp} {Q : VK} {E : XK} (h : vsp K mg 2 S__law_draw vs H Q E) : t_draw K { nx := fun _ H' => Q .non H', rt := Q } (L2.start ["hand", "many", "cell", "digit", "number"] vs) H := by
  obtain ⟨_, hO, Fr, F, ps, Qv, R, rs, ⟨m, rfl, m1, m2, hq⟩, k⟩ := h
  cases rs with
  | cons r1 rs =>
    cases rs with
    | cons r2 rs =>
      cases rs
      cases r1 with
      | hnd e =>
        cases r2
        obtain ⟨hF, c, cs, i, b, mm, n, e1, e2, e3, e4⟩ := R.hand _ e
        exact draw_read (G := ⟨K, mg, hO⟩) R e e1 e2 e3 e4 m1 m2 fun r H' r0 rm R' => k (.int r) H' F (.val (.int r)) (Same.refl F) R' (Rep.int r) (hq r r0 rm)
section
variable {P : Program} {w : World} {K : PySem.W.Frag} {mg : Str → Option Value} {base : Heap} {qual : Str} {params : Arguments} {st : Stmt} {rest : List Stmt} {scope : Scope} {f fH : Addr} {fd fdH : FuncData}
theorem fnG_draw {body : List Stmt} (F : FunD K "_law_draw" "_law_draw" params body scope [] [] f fd) (Sc : FnScope ["hand", "many", "cell", "digit", "number"] ["hand", "many"] scope)
    (hd : ∀ (cdv : Value) (A : Around) (outer : List Env) (s : Shared) (H : Hp), PSs (cxOf CX0 P w K mg base ["hand", "many", "cell", "digit", "number"] "_law_draw" scope f cdv A outer s H E0).nox body (t_draw K)) : FnG P w K mg base 1 f fd ["hand", "many"] (vsp K mg 2 S__law_draw) := by
  obtain ⟨oc, od, dV, kV, doc, pm, an, cdv, ct, osl, e, lk, hcd, _, _⟩ := F.ex
  subst e
  exact fnG_of lk hcd Sc (fun vs H Q E h => h.1) fun A outer s H vs Q _ h => ⟨_, PSs.nox (hd cdv A outer s H), draw_body h⟩
end
end F25
namespace F35
def t_draw1 (K : PySem.W.Frag) : TS := tIfS (tAnd (tTest (tOp rEq (hx K 2) (cI 0))) (tTest (tOp (rI0 fun i j => .bl (decide (i < j))) (hx K 1) (tCB (rLenS K) (tCons (hx K 0) tNil)))))
  (tSeq (tAsg (tOp (rIxL K) (hx K 0) (hx K 1)) (gName 2)) (tSeq (hset 1 (tAddI (hx K 1) (cI 1)))
    (tSeq (hset 3 (tModI (tInt (tAddI (tAddI (tMulI (hx K 3) (cI 69621)) (tVar 2)) (cI 311))) (cI 2147483629)))
      (tIfS (tTest (tOp (rI0 fun i j => .bl (decide (j ≤ i))) (tVar 2) (tOp (rI CPow fun i j => .int (i ^ j.toNat)) (cI 10) (cI 18)))) (hset 2 (tVar 2)) tNext)))) tNext
def t_draw2 (K : PySem.W.Frag) : TS := tIfS (tTest (tOp (rI0 fun i j => .bl (decide (j < i))) (hx K 2) (cI 0)))
  (tSeq (tAsg (tModI (tInt (hx K 2)) (tVar 1)) (gName 3)) (tSeq (hset 2 (tDivI (hx K 2) (tVar 1))) (tRet (tVar 3)))) tNext
def t_d3d : TS := tRet (tModI (tInt (tDivI (tVar 4) (cI 16))) (tVar 1))
def t_d3c : TS := tSeq (tAsg (tModI (tInt (tMulI (tVar 4) (tAddI (tDivI (tVar 4) (cI 2003)) (cI 40692)))) (cI 2147483399)) (gName 4)) t_d3d
def t_d3b : TS := tSeq (tAsg (tModI (tInt (tMulI (tVar 4) (tAddI (tDivI (tVar 4) (cI 1009)) (cI 69621)))) (cI 2147483647)) (gName 4)) t_d3c
def t_draw3 (K : PySem.W.Frag) : TS := tSeq (hset 4 (tAddI (hx K 4) (cI 1)))
  (tSeq (tAsg (tModI (tInt (tMulI (tInt (tAddI (hx K 3) (tMulI (cI 7919) (hx K 4)))) (cI 48271))) (cI 2147483647)) (gName 4)) t_d3b)
def t_draw (K : PySem.W.Frag) : TS := tSeq (t_draw1 K) (tSeq (t_draw2 K) (t_draw3 K))
theorem d3d_read {x0 x2 x3 : Option V} {z many : Int} {D : Ends} {H : Hp} (hm : 0 < many) (q : ∀ r, 0 ≤ r → r < many → D.rt (.int r) H) : t_d3d D [x0, some (.int many), x2, x3, some (.int z)] H :=
  ⟨.int z, rfl, z, 16, rfl, rfl, ⟨by decide, by decide⟩, .inl ⟨_, rfl, .int many, rfl, z / 16, many, rfl, rfl, hm, q _ (Int.emod_nonneg _ (by omega)) (Int.emod_lt_of_pos _ hm)⟩⟩
theorem d3c_read {x0 x2 x3 : Option V} {z many : Int} {D : Ends} {H : Hp} (hm : 0 < many) (h1 : 0 ≤ z) (h2 : z < 2147483647) (q : ∀ r, 0 ≤ r → r < many → D.rt (.int r) H) : t_d3c D [x0, some (.int many), x2, x3, some (.int z)] H :=
  ⟨.int z, rfl, .int z, rfl, z, 2003, rfl, rfl, ⟨by decide, by decide⟩, z / 2003, 40692, rfl, rfl, z, z / 2003 + 40692, rfl, rfl, .inl (by omega), .inl ⟨_, rfl, z * (z / 2003 + 40692), 2147483399, rfl, rfl, by omega, d3d_read (z := z * (z / 2003 + 40692) % 2147483399) hm q⟩⟩
theorem d3b_read {x0 x2 x3 : Option V} {z many : Int} {D : Ends} {H : Hp} (hm : 0 < many) (h1 : 0 ≤ z) (h2 : z < 2147483647) (q : ∀ r, 0 ≤ r → r < many → D.rt (.int r) H) : t_d3b D [x0, some (.int many), x2, x3, some (.int z)] H :=
  ⟨.int z, rfl, .int z, rfl, z, 1009, rfl, rfl, ⟨by decide, by decide⟩, z / 1009, 69621, rfl, rfl, z, z / 1009 + 69621, rfl, rfl, .inl (by omega), .inl ⟨_, rfl, z * (z / 1009 + 69621), 2147483647, rfl, rfl, by omega, d3c_read (z := z * (z / 1009 + 69621) % 2147483647) hm (Int.emod_nonneg _ (by omega)) (Int.emod_lt_of_pos _ (by omega)) q⟩⟩
/-- the slots: hand, many, cell, digit, number -/
theorem draw3_read {K : PySem.W.Frag} {G : Gh} {Fr F H : Hp} {a c : Addr} {cs : List Int} {i b m n many : Int} {x2 x3 x4 : Option V} {D : Ends} (R : RB G Fr F H) (hO : G.hO = some a) (hH : H a = some (.lst [.ref c, .int i, .int b, .int m, .int n])) (hc : F c = some (.lst (cs.map V.int))) (hl : cs.length ≤ 63) (h0 : 0 ≤ i)
    (hm : 0 < many) (q : ∀ r H', 0 ≤ r → r < many → RB G Fr F H' → D.rt (.int r) H') : t_draw3 K D [some (.ref a), some (.int many), x2, x3, x4] H := by
  refine ⟨.ref a, rfl, a, _, 4, _, rfl, rfl, SqL.of hH, rfl, _, _, rfl, rfl, .ref a, rfl, a, _, 4, 4, rfl, rfl, hH, rfl, ?_⟩
  have R2 := hand_step (H := H) (vs := []) (ws := [.ref c, .int i, .int b, .int m, .int (n + 1)]) R hO h0 rfl hc hl
  have h2 : (upd H a (.lst ([V.ref c, .int i, .int b, .int m, .int n].set 4 (.int (n + 1))))) a = some (.lst [.ref c, .int i, .int b, .int m, .int (n + 1)]) := upd_same
  refine ⟨.ref a, rfl, a, _, 3, _, rfl, rfl, SqL.of h2, rfl, .ref a, rfl, a, _, 4, _, rfl, rfl, SqL.of h2, rfl, 7919, n + 1, rfl, rfl, .inl (by omega), m, 7919 * (n + 1), rfl, rfl, .inl ⟨_, rfl, m + 7919 * (n + 1), 48271, rfl, rfl, .inr (by omega), .inl ⟨_, rfl, (m + 7919 * (n + 1)) * 48271, 2147483647, rfl, rfl, by omega, ?_⟩⟩⟩
  exact d3b_read (z := (m + 7919 * (n + 1)) * 48271 % 2147483647) hm (Int.emod_nonneg _ (by omega)) (Int.emod_lt_of_pos _ (by omega)) fun r r0 rm => q r _ r0 rm R2
theorem draw2_read {K : PySem.W.Frag} {G : Gh} {Fr F H : Hp} {a c : Addr} {cs : List Int} {i b m n many : Int} {x2 x3 x4 : Option V} {D : Ends} (R : RB G Fr F H) (hO : G.hO = some a) (hH : H a = some (.lst [.ref c, .int i, .int b, .int m, .int n])) (hc : F c = some (.lst (cs.map V.int))) (hl : cs.length ≤ 63) (h0 : 0 ≤ i)
    (hm : 0 < many) (hm2 : many < 1073741824) (q : ∀ r H', 0 ≤ r → r < many → RB G Fr F H' → D.rt (.int r) H') : tSeq (t_draw2 K) (t_draw3 K) D [some (.ref a), some (.int many), x2, x3, x4] H := by
  refine ⟨.ref a, rfl, a, _, 2, _, rfl, rfl, SqL.of hH, rfl, _, _, rfl, rfl, _, rfl, ?_⟩
  by_cases hb : 0 < b
  · rw [decide_eq_true hb]
    refine iteT ⟨.ref a, rfl, a, _, 2, _, rfl, rfl, SqL.of hH, rfl, .inl ⟨_, rfl, .int many, rfl, b, many, rfl, rfl, hm, ?_⟩⟩
    refine ⟨.ref a, rfl, a, _, 2, _, rfl, rfl, SqL.of hH, rfl, .int many, rfl, b, many, rfl, rfl, ⟨hm, hm2⟩, .ref a, rfl, a, _, 2, 2, rfl, rfl, hH, rfl, ?_⟩
    exact ⟨.int (b % many), rfl, q _ _ (Int.emod_nonneg _ (by omega)) (Int.emod_lt_of_pos _ hm) (hand_step (vs := []) R hO h0 rfl hc hl)⟩
  · rw [decide_eq_false hb]
    exact iteF (draw3_read R hO hH hc hl h0 hm q)
theorem draw_read {K : PySem.W.Frag} {G : Gh} {Fr F H : Hp} {a c : Addr} {cs : List Int} {i b m n many : Int} {x2 x3 x4 : Option V} {D : Ends} (R : RB G Fr F H) (hO : G.hO = some a) (hH : H a = some (.lst [.ref c, .int i, .int b, .int m, .int n])) (hc : F c = some (.lst (cs.map V.int))) (hl : cs.length ≤ 63) (h0 : 0 ≤ i)
    (hm : 0 < many) (hm2 : many < 1073741824) (q : ∀ r H', 0 ≤ r → r < many → RB G Fr F H' → D.rt (.int r) H') : t_draw K D [some (.ref a), some (.int many), x2, x3, x4] H := by
  have hcH : H c = some (.lst (cs.map V.int)) := R.sub _ _ hc
  have hca : c ≠ a := fun z => by subst z; rw [(R.hand c hO).1] at hc; cases hc
  have e2 : decide (V.int b = V.int 0) = decide (b = 0) := by
    by_cases h : b = 0
    · subst h; rfl
    · rw [decide_eq_false h, decide_eq_false (fun z => h (V.int.inj z))]
  refine ⟨.ref a, rfl, a, _, 2, _, rfl, rfl, SqL.of hH, rfl, rfl, _, rfl, ?_⟩
  rw [e2]
  by_cases hb : b = 0
  · rw [decide_eq_true hb]
    refine iteT ⟨.ref a, rfl, a, _, 1, _, rfl, rfl, SqL.of hH, rfl, .ref a, rfl, a, _, 0, _, rfl, rfl, SqL.of hH, rfl, c, _, rfl, .inl (SqL.of hcH), _, _, rfl, rfl, _, rfl, ?_⟩
    by_cases hi : i < ((cs.map V.int).length : Int)
    · rw [decide_eq_true hi]
      refine iteT ?_
      obtain ⟨j, rfl⟩ : ∃ j : Nat, i = j := ⟨i.toNat, by omega⟩
      have hj : j < cs.length := by simpa using hi
      have hat : L2.atI (cs.map V.int) (j : Int) = some (.int cs[j]) := atI_nat (by rw [List.getElem?_map, List.getElem?_eq_getElem hj]; rfl)
      refine ⟨.ref a, rfl, a, _, 0, _, rfl, rfl, SqL.of hH, rfl, .ref a, rfl, a, _, 1, _, rfl, rfl, SqL.of hH, rfl, c, _, (j : Int), .int cs[j], rfl, rfl, SqL.of hcH, hat, ?_⟩
      refine ⟨.ref a, rfl, a, _, 1, _, rfl, rfl, SqL.of hH, rfl, (j : Int), 1, rfl, rfl, .ref a, rfl, a, _, 1, 1, rfl, rfl, hH, rfl, ?_⟩
      have R2 := hand_step (H := H) (vs := []) (ws := [V.ref c, .int (j + 1 : Int), .int b, .int m, .int n]) R hO (by omega) rfl hc hl
      have h2 : (upd H a (.lst ([V.ref c, .int (j : Int), .int b, .int m, .int n].set 1 (.int ((j : Int) + 1))))) a = some (.lst [.ref c, .int ((j : Int) + 1), .int b, .int m, .int n]) := upd_same
      refine ⟨.ref a, rfl, a, _, 3, _, rfl, rfl, SqL.of h2, rfl, m, 69621, rfl, rfl, .inr (by omega), .int cs[j], rfl, m * 69621, cs[j], rfl, rfl, m * 69621 + cs[j], 311, rfl, rfl, .inl ⟨_, rfl, m * 69621 + cs[j] + 311, 2147483629, rfl, rfl, by omega, .ref a, rfl, a, _, 3, 3, rfl, rfl, h2, rfl, ?_⟩⟩
      have R3 := hand_step (H := upd H a (.lst [V.ref c, .int (j + 1 : Int), .int b, .int m, .int n])) (vs := []) (ws := [V.ref c, .int (j + 1 : Int), .int b, .int ((m * 69621 + cs[j] + 311) % 2147483629), .int n]) R2 hO (by omega) rfl hc hl
      have h3 : (upd (upd H a (.lst ([V.ref c, .int (j : Int), .int b, .int m, .int n].set 1 (.int ((j : Int) + 1))))) a (.lst ([V.ref c, .int ((j : Int) + 1), .int b, .int m, .int n].set 3 (.int ((m * 69621 + cs[j] + 311) % 2147483629))))) a = some (.lst [.ref c, .int ((j : Int) + 1), .int b, .int ((m * 69621 + cs[j] + 311) % 2147483629), .int n]) := upd_same
      refine ⟨.int cs[j], rfl, 10, 18, rfl, rfl, ⟨by decide, by decide, by decide⟩, cs[j], (10 : Int) ^ 18, rfl, rfl, _, rfl, ?_⟩
      by_cases hg : (10 : Int) ^ 18 ≤ cs[j]
      · rw [decide_eq_true hg]
        refine iteT ⟨.int cs[j], rfl, .ref a, rfl, a, _, 2, 2, rfl, rfl, h3, rfl, ?_⟩
        exact draw2_read (hand_step (vs := []) R3 hO (by omega) rfl hc hl) hO upd_same hc hl (by omega) hm hm2 q
      · rw [decide_eq_false hg]
        exact iteF (draw2_read R3 hO h3 hc hl (by omega) hm hm2 q)
    · rw [decide_eq_false hi]
      exact iteF (draw2_read R hO hH hc hl h0 hm hm2 q)
  · rw [decide_eq_false hb]
    exact iteF (iteF (draw2_read R hO hH hc hl h0 hm hm2 q))
theorem draw_body {K : PySem.W.Frag} {mg : Str → Option Value} {vs : List V} {H : Hp} {Q : VK} {E : XK} (h : vsp K mg 2 S__law_draw vs H Q E) : t_draw K { nx := fun _ H' => Q .non H', rt := Q } (L2.start ["hand", "many", "cell", "digit", "number"] vs) H := by
  obtain ⟨_, hO, Fr, F, ps, Qv, R, rs, ⟨m, rfl, m1, m2, hq⟩, k⟩ := h
  cases rs with
  | cons r1 rs =>
    cases rs with
    | cons r2 rs =>
      cases rs
      cases r1 with
      | hnd e =>
        cases r2
        obtain ⟨hF, c, cs, i, b, mm, n, e1, e2, e3, e4⟩ := R.hand _ e
        exact draw_read (G := ⟨K, mg, hO⟩) R e e1 e2 e3 e4 m1 m2 fun r H' r0 rm R' => k (.int r) H' F (.val (.int r)) (Same.refl F) R' (Rep.int r) (hq r r0 rm)
section
variable {P : Program} {w : World} {K : PySem.W.Frag} {mg : Str → Option Value} {base : Heap} {qual : Str} {params : Arguments} {st : Stmt} {rest : List Stmt} {scope : Scope} {f fH : Addr} {fd fdH : FuncData}
theorem fnG_draw {body : List Stmt} (F : FunD K "_law_draw" "_law_draw" params body scope [] [] f fd) (Sc : FnScope ["hand", "many", "cell", "digit", "number"] ["hand", "many"] scope)
    (hd : ∀ (cdv : Value) (A : Around) (outer : List Env) (s : Shared) (H : Hp), PSs (cxOf CX0 P w K mg base ["hand", "many", "cell", "digit", "number"] "_law_draw" scope f cdv A outer s H E0).nox body (t_draw K)) : FnG P w K mg base 1 f fd ["hand", "many"] (vsp K mg 2 S__law_draw) := by
  obtain ⟨oc, od, dV, kV, doc, pm, an, cdv, ct, osl, e, lk, hcd, _, _⟩ := F.ex
  subst e
  exact fnG_of lk hcd Sc (fun vs H Q E h => h.1) fun A outer s H vs Q _ h => ⟨_, PSs.nox (hd cdv A outer s H), draw_body h⟩
end
end F35
namespace F44
def t_draw1 (K : PySem.W.Frag) : TS := tIfS (tAnd (tTest (tOp rEq (hx K 2) (cI 0))) (tTest (tOp (rI0 fun i j => .bl (decide (i < j))) (hx K 1) (tCB (rLenS K) (tCons (hx K 0) tNil)))))
  (tSeq (tAsg (tOp (rIxL K) (hx K 0) (hx K 1)) (gName 2)) (tSeq (hset 1 (tAddI (hx K 1) (cI 1)))
    (tSeq (hset 3 (tModI (tInt (tAddI (tAddI (tMulI (hx K 3) (cI 69621)) (tMulI (tVar 2) (cI 40692))) (cI 31))) (cI 2147483629)))
      (tIfS (tTest (tOp (rI0 fun i j => .bl (decide (j ≤ i))) (tVar 2) (tOp (rI CPow fun i j => .int (i ^ j.toNat)) (cI 10) (cI 18)))) (hset 2 (tVar 2)) tNext)))) tNext
def t_draw2 (K : PySem.W.Frag) : TS := tIfS (tTest (tOp (rI0 fun i j => .bl (decide (j < i))) (hx K 2) (cI 0)))
  (tSeq (tAsg (tModI (tInt (hx K 2)) (tVar 1)) (gName 3)) (tSeq (hset 2 (tDivI (hx K 2) (tVar 1))) (tRet (tVar 3)))) tNext
def t_d3d : TS := tRet (tModI (tInt (tDivI (tVar 4) (cI 16))) (tVar 1))
def t_d3c : TS := tSeq (tAsg (tModI (tInt (tMulI (tVar 4) (tAddI (tDivI (tVar 4) (cI 2003)) (cI 40014)))) (cI 2147483563)) (gName 4)) t_d3d
def t_d3b : TS := tSeq (tAsg (tModI (tInt (tMulI (tVar 4) (tAddI (tDivI (tVar 4) (cI 1009)) (cI 69621)))) (cI 2147483647)) (gName 4)) t_d3c
def t_draw3 (K : PySem.W.Frag) : TS := tSeq (hset 4 (tAddI (hx K 4) (cI 1)))
  (tSeq (tAsg (tModI (tInt (tMulI (tInt (tAddI (hx K 3) (tMulI (cI 7919) (hx K 4)))) (cI 48271))) (cI 2147483647)) (gName 4)) t_d3b)
def t_draw (K : PySem.W.Frag) : TS := tSeq (t_draw1 K) (tSeq (t_draw2 K) (t_draw3 K))
theorem d3d_read {x0 x2 x3 : Option V} {z many : Int} {D : Ends} {H : Hp} (hm : 0 < many) (q : ∀ r, 0 ≤ r → r < many → D.rt (.int r) H) : t_d3d D [x0, some (.int many), x2, x3, some (.int z)] H :=
  ⟨.int z, rfl, z, 16, rfl, rfl, ⟨by decide, by decide⟩, .inl ⟨_, rfl, .int many, rfl, z / 16, many, rfl, rfl, hm, q _ (Int.emod_nonneg _ (by omega)) (Int.emod_lt_of_pos _ hm)⟩⟩
theorem d3c_read {x0 x2 x3 : Option V} {z many : Int} {D : Ends} {H : Hp} (hm : 0 < many) (h1 : 0 ≤ z) (h2 : z < 2147483647) (q : ∀ r, 0 ≤ r → r < many → D.rt (.int r) H) : t_d3c D [x0, some (.int many), x2, x3, some (.int z)] H :=
  ⟨.int z, rfl, .int z, rfl, z, 2003, rfl, rfl, ⟨by decide, by decide⟩, z / 2003, 40014, rfl, rfl, z, z / 2003 + 40014, rfl, rfl, .inl (by omega), .inl ⟨_, rfl, z * (z / 2003 + 40014), 2147483563, rfl, rfl, by omega, d3d_read (z := z * (z / 2003 + 40014) % 2147483563) hm q⟩⟩
theorem d3b_read {x0 x2 x3 : Option V} {z many : Int} {D : Ends} {H : Hp} (hm : 0 < many) (h1 : 0 ≤ z) (h2 : z < 2147483647) (q : ∀ r, 0 ≤ r → r < many → D.rt (.int r) H) : t_d3b D [x0, some (.int many), x2, x3, some (.int z)] H :=
  ⟨.int z, rfl, .int z, rfl, z, 1009, rfl, rfl, ⟨by decide, by decide⟩, z / 1009, 69621, rfl, rfl, z, z / 1009 + 69621, rfl, rfl, .inl (by omega), .inl ⟨_, rfl, z * (z / 1009 + 69621), 2147483647, rfl, rfl, by omega, d3c_read (z := z * (z / 1009 + 69621) % 2147483647) hm (Int.emod_nonneg _ (by omega)) (Int.emod_lt_of_pos _ (by omega)) q⟩⟩
/-- the slots: hand, many, cell, digit, number -/
theorem draw3_read {K : PySem.W.Frag} {G : Gh} {Fr F H : Hp} {a c : Addr} {cs : List Int} {i b m n many : Int} {x2 x3 x4 : Option V} {D : Ends} (R : RB G Fr F H) (hO : G.hO = some a) (hH : H a = some (.lst [.ref c, .int i, .int b, .int m, .int n])) (hc : F c = some (.lst (cs.map V.int))) (hl : cs.length ≤ 63) (h0 : 0 ≤ i)
    (hm : 0 < many) (q : ∀ r H', 0 ≤ r → r < many → RB G Fr F H' → D.rt (.int r) H') : t_draw3 K D [some (.ref a), some (.int many), x2, x3, x4] H := by
  refine ⟨.ref a, rfl, a, _, 4, _, rfl, rfl, SqL.of hH, rfl, _, _, rfl, rfl, .ref a, rfl, a, _, 4, 4, rfl, rfl, hH, rfl, ?_⟩
  have R2 := hand_step (H := H) (vs := []) (ws := [.ref c, .int i, .int b, .int m, .int (n + 1)]) R hO h0 rfl hc hl
  have h2 : (upd H a (.lst ([V.ref c, .int i, .int b, .int m, .int n].set 4 (.int (n + 1))))) a = some (.lst [.ref c, .int i, .int b, .int m, .int (n + 1)]) := upd_same
  refine ⟨.ref a, rfl, a, _, 3, _, rfl, rfl, SqL.of h2, rfl, .ref a, rfl, a, _, 4, _, rfl, rfl, SqL.of h2, rfl, 7919, n + 1, rfl, rfl, .inl (by omega), m, 7919 * (n + 1), rfl, rfl, .inl ⟨_, rfl, m + 7919 * (n + 1), 48271, rfl, rfl, .inr (by omega), .inl ⟨_, rfl, (m + 7919 * (n + 1)) * 48271, 2147483647, rfl, rfl, by omega, ?_⟩⟩⟩
  exact d3b_read (z := (m + 7919 * (n + 1)) * 48271 % 2147483647) hm (Int.emod_nonneg _ (by omega)) (Int.emod_lt_of_pos _ (by omega)) fun r r0 rm => q r _ r0 rm R2
theorem draw2_read {K : PySem.W.Frag} {G : Gh} {Fr F H : Hp} {a c : Addr} {cs : List Int} {i b m n many : Int} {x2 x3 x4 : Option V} {D : Ends} (R : RB G Fr F H) (hO : G.hO = some a) (hH : H a = some (.lst [.ref c, .int i, .int b, .int m, .int n])) (hc : F c = some (.lst (cs.map V.int))) (hl : cs.length ≤ 63) (h0 : 0 ≤ i)
    (hm : 0 < many) (hm2 : many < 1073741824) (q : ∀ r H', 0 ≤ r → r < many → RB G Fr F H' → D.rt (.int r) H') : tSeq (t_draw2 K) (t_draw3 K) D [some (.ref a), some (.int many), x2, x3, x4] H := by
  refine ⟨.ref a, rfl, a, _, 2, _, rfl, rfl, SqL.of hH, rfl, _, _, rfl, rfl, _, rfl, ?_⟩
  by_cases hb : 0 < b
  · rw [decide_eq_true hb]
    refine iteT ⟨.ref a, rfl, a, _, 2, _, rfl, rfl, SqL.of hH, rfl, .inl ⟨_, rfl, .int many, rfl, b, many, rfl, rfl, hm, ?_⟩⟩
    refine ⟨.ref a, rfl, a, _, 2, _, rfl, rfl, SqL.of hH, rfl, .int many, rfl, b, many, rfl, rfl, ⟨hm, hm2⟩, .ref a, rfl, a, _, 2, 2, rfl, rfl, hH, rfl, ?_⟩
    exact ⟨.int (b % many), rfl, q _ _ (Int.emod_nonneg _ (by omega)) (Int.emod_lt_of_pos _ hm) (hand_step (vs := []) R hO h0 rfl hc hl)⟩
  · rw [decide_eq_false hb]
    exact iteF (draw3_read R hO hH hc hl h0 hm q)
theorem draw_read {K : PySem.W.Frag} {G : Gh} {Fr F H : Hp} {a c : Addr} {cs : List Int} {i b m n many : Int} {x2 x3 x4 : Option V} {D : Ends} (R : RB G Fr F H) (hO : G.hO = some a) (hH : H a = some (.lst [.ref c, .int i, .int b, .int m, .int n])) (hc : F c = some (.lst (cs.map V.int))) (hl : cs.length ≤ 63) (h0 : 0 ≤ i)
    (hm : 0 < many) (hm2 : many < 1073741824) (q : ∀ r H', 0 ≤ r → r < many → RB G Fr F H' → D.rt (.int r) H') : t_draw K D [some (.ref a), some (.int many), x2, x3, x4] H := by
  have hcH : H c = some (.lst (cs.map V.int)) := R.sub _ _ hc
  have hca : c ≠ a := fun z => by subst z; rw [(R.hand c hO).1] at hc; cases hc
  have e2 : decide (V.int b = V.int 0) = decide (b = 0) := by
    by_cases h : b = 0
    · subst h; rfl
    · rw [decide_eq_false h, decide_eq_false (fun z => h (V.int.inj z))]
  refine ⟨.ref a, rfl, a, _, 2, _, rfl, rfl, SqL.of hH, rfl, rfl, _, rfl, ?_⟩
  rw [e2]
  by_cases hb : b = 0
  · rw [decide_eq_true hb]
    refine iteT ⟨.ref a, rfl, a, _, 1, _, rfl, rfl, SqL.of hH, rfl, .ref a, rfl, a, _, 0, _, rfl, rfl, SqL.of hH, rfl, c, _, rfl, .inl (SqL.of hcH), _, _, rfl, rfl, _, rfl, ?_⟩
    by_cases hi : i < ((cs.map V.int).length : Int)
    · rw [decide_eq_true hi]
      refine iteT ?_
      obtain ⟨j, rfl⟩ : ∃ j : Nat, i = j := ⟨i.toNat, by omega⟩
      have hj : j < cs.length := by simpa using hi
      have hat : L2.atI (cs.map V.int) (j : Int) = some (.int cs[j]) := atI_nat (by rw [List.getElem?_map, List.getElem?_eq_getElem hj]; rfl)
      refine ⟨.ref a, rfl, a, _, 0, _, rfl, rfl, SqL.of hH, rfl, .ref a, rfl, a, _, 1, _, rfl, rfl, SqL.of hH, rfl, c, _, (j : Int), .int cs[j], rfl, rfl, SqL.of hcH, hat, ?_⟩
      refine ⟨.ref a, rfl, a, _, 1, _, rfl, rfl, SqL.of hH, rfl, (j : Int), 1, rfl, rfl, .ref a, rfl, a, _, 1, 1, rfl, rfl, hH, rfl, ?_⟩
      have R2 := hand_step (H := H) (vs := []) (ws := [V.ref c, .int (j + 1 : Int), .int b, .int m, .int n]) R hO (by omega) rfl hc hl
      have h2 : (upd H a (.lst ([V.ref c, .int (j : Int), .int b, .int m, .int n].set 1 (.int ((j : Int) + 1))))) a = some (.lst [.ref c, .int ((j : Int) + 1), .int b, .int m, .int n]) := upd_same
      refine ⟨.ref a, rfl, a, _, 3, _, rfl, rfl, SqL.of h2, rfl, m, 69621, rfl, rfl, .inr (by omega), .int cs[j], rfl, cs[j], 40692, rfl, rfl, .inr (by omega), m * 69621, cs[j] * 40692, rfl, rfl, m * 69621 + cs[j] * 40692, 31, rfl, rfl, .inl ⟨_, rfl, m * 69621 + cs[j] * 40692 + 31, 2147483629, rfl, rfl, by omega, .ref a, rfl, a, _, 3, 3, rfl, rfl, h2, rfl, ?_⟩⟩
      have R3 := hand_step (H := upd H a (.lst [V.ref c, .int (j + 1 : Int), .int b, .int m, .int n])) (vs := []) (ws := [V.ref c, .int (j + 1 : Int), .int b, .int ((m * 69621 + cs[j] * 40692 + 31) % 2147483629), .int n]) R2 hO (by omega) rfl hc hl
      have h3 : (upd (upd H a (.lst ([V.ref c, .int (j : Int), .int b, .int m, .int n].set 1 (.int ((j : Int) + 1))))) a (.lst ([V.ref c, .int ((j : Int) + 1), .int b, .int m, .int n].set 3 (.int ((m * 69621 + cs[j] * 40692 + 31) % 2147483629))))) a = some (.lst [.ref c, .int ((j : Int) + 1), .int b, .int ((m * 69621 + cs[j] * 40692 + 31) % 2147483629), .int n]) := upd_same
      refine ⟨.int cs[j], rfl, 10, 18, rfl, rfl, ⟨by decide, by decide, by decide⟩, cs[j], (10 : Int) ^ 18, rfl, rfl, _, rfl, ?_⟩
      by_cases hg : (10 : Int) ^ 18 ≤ cs[j]
      · rw [decide_eq_true hg]
        refine iteT ⟨.int cs[j], rfl, .ref a, rfl, a, _, 2, 2, rfl, rfl, h3, rfl, ?_⟩
        exact draw2_read (hand_step (vs := []) R3 hO (by omega) rfl hc hl) hO upd_same hc hl (by omega) hm hm2 q
      · rw [decide_eq_false hg]
        exact iteF (draw2_read R3 hO h3 hc hl (by omega) hm hm2 q)
    · rw [decide_eq_false hi]
      exact iteF (draw2_read R hO hH hc hl h0 hm hm2 q)
  · rw [decide_eq_false hb]
    exact iteF (iteF (draw2_read R hO hH hc hl h0 hm hm2 q))
theorem draw_body {K : PySem.W.Frag} {mg : Str → Option Value} {vs : List V} {H : Hp} {Q : VK} {E : XK} (h : vsp K mg 2 S__law_draw vs H Q E) : t_draw K { nx := fun _ H' => Q .non H', rt := Q } (L2.start ["hand", "below", "cell", "digit", "number"] vs) H := by
  obtain ⟨_, hO, Fr, F, ps, Qv, R, rs, ⟨m, rfl, m1, m2, hq⟩, k⟩ := h
  cases rs with
  | cons r1 rs =>
    cases rs with
    | cons r2 rs =>
      cases rs
      cases r1 with
      | hnd e =>
        cases r2
        obtain ⟨hF, c, cs, i, b, mm, n, e1, e2, e3, e4⟩ := R.hand _ e
        exact draw_read (G := ⟨K, mg, hO⟩) R e e1 e2 e3 e4 m1 m2 fun r H' r0 rm R' => k (.int r) H' F (.val (.int r)) (Same.refl F) R' (Rep.int r) (hq r r0 rm)
section
variable {P : Program} {w : World} {K : PySem.W.Frag} {mg : Str → Option Value} {base : Heap} {qual : Str} {params : Arguments} {st : Stmt} {rest : List Stmt} {scope : Scope} {f fH : Addr} {fd fdH : FuncData}
theorem fnG_draw {body : List Stmt} (F : FunD K "_law_draw" "_law_draw" params body scope [] [] f fd) (Sc : FnScope ["hand", "below", "cell", "digit", "number"] ["hand", "below"] scope)
    (hd : ∀ (cdv : Value) (A : Around) (outer : List Env) (s : Shared) (H : Hp), PSs (cxOf CX0 P w K mg base ["hand", "below", "cell", "digit", "number"] "_law_draw" scope f cdv A outer s H E0).nox body (t_draw K)) : FnG P w K mg base 1 f fd ["hand", "below"] (vsp K mg 2 S__law_draw) := by
  obtain ⟨oc, od, dV, kV, doc, pm, an, cdv, ct, osl, e, lk, hcd, _, _⟩ := F.ex
  subst e
  exact fnG_of lk hcd Sc (fun vs H Q E h => h.1) fun A outer s H vs Q _ h => ⟨_, PSs.nox (hd cdv A outer s H), draw_body h⟩
end
end F44
namespace F62
def t_draw1 (K : PySem.W.Frag) : TS := tIfS (tAnd (tTest (tOp rEq (hx K 2) (cI 0))) (tTest (tOp (rI0 fun i j => .bl (decide (i < j))) (hx K 1) (tCB (rLenS K) (tCons (hx K 0) tNil)))))
  (tSeq (tAsg (tOp (rIxL K) (hx K 0) (hx K 1)) (gName 2)) (tSeq (hset 1 (tAddI (hx K 1) (cI 1)))
    (tSeq (hset 3 (tModI (tInt (tAddI (tAddI (tMulI (hx K 3) (cI 69621)) (tMulI (tVar 2) (cI 40692))) (cI 43))) (cI 2147483629)))
      (tIfS (tTest (tOp (rI0 fun i j => .bl (decide (j ≤ i))) (tVar 2) (tOp (rI CPow fun i j => .int (i ^ j.toNat)) (cI 10) (cI 18)))) (hset 2 (tVar 2)) tNext)))) tNext
def t_draw2 (K : PySem.W.Frag) : TS := tIfS (tTest (tOp (rI0 fun i j => .bl (decide (j < i))) (hx K 2) (cI 0)))
  (tSeq (tAsg (tModI (tInt (hx K 2)) (tVar 1)) (gName 3)) (tSeq (hset 2 (tDivI (hx K 2) (tVar 1))) (tRet (tVar 3)))) tNext
def t_d3d : TS := tRet (tModI (tInt (tDivI (tVar 4) (cI 16))) (tVar 1))
def t_d3c : TS := tSeq (tAsg (tModI (tInt (tMulI (tVar 4) (tAddI (tDivI (tVar 4) (cI 2003)) (cI 40014)))) (cI 2147483563)) (gName 4)) t_d3d
def t_d3b : TS := tSeq (tAsg (tModI (tInt (tMulI (tVar 4) (tAddI (tDivI (tVar 4) (cI 1009)) (cI 69621)))) (cI 2147483647)) (gName 4)) t_d3c
def t_draw3 (K : PySem.W.Frag) : TS := tSeq (hset 4 (tAddI (hx K 4) (cI 1)))
  (tSeq (tAsg (tModI (tInt (tMulI (tInt (tAddI (hx K 3) (tMulI (cI 7919) (hx K 4)))) (cI 48271))) (cI 2147483647)) (gName 4)) t_d3b)
def t_draw (K : PySem.W.Frag) : TS := tSeq (t_draw1 K) (tSeq (t_draw2 K) (t_draw3 K))
theorem d3d_read {x0 x2 x3 : Option V} {z many : Int} {D : Ends} {H : Hp} (hm : 0 < many) (q : ∀ r, 0 ≤ r → r < many → D.rt (.int r) H) : t_d3d D [x0, some (.int many), x2, x3, some (.int z)] H :=
  ⟨.int z, rfl, z, 16, rfl, rfl, ⟨by decide, by decide⟩, .inl ⟨_, rfl, .int many, rfl, z / 16, many, rfl, rfl, hm, q _ (Int.emod_nonneg _ (by omega)) (Int.emod_lt_of_pos _ hm)⟩⟩
theorem d3c_read {x0 x2 x3 : Option V} {z many : Int} {D : Ends} {H : Hp} (hm : 0 < many) (h1 : 0 ≤ z) (h2 : z < 2147483647) (q : ∀ r, 0 ≤ r → r < many → D.rt (.int r) H) : t_d3c D [x0, some (.int many), x2, x3, some (.int z)] H :=
  ⟨.int z, rfl, .int z, rfl, z, 2003, rfl, rfl, ⟨by decide, by decide⟩, z / 2003, 40014, rfl, rfl, z, z / 2003 + 40014, rfl, rfl, .inl (by omega), .inl ⟨_, rfl, z * (z / 2003 + 40014), 2147483563, rfl, rfl, by omega, d3d_read (z := z * (z / 2003 + 40014) % 2147483563) hm q⟩⟩
theorem d3b_read {x0 x2 x3 : Option V} {z many : Int} {D : Ends} {H : Hp} (hm : 0 < many) (h1 : 0 ≤ z) (h2 : z < 2147483647) (q : ∀ r, 0 ≤ r → r < many → D.rt (.int r) H) : t_d3b D [x0, some (.int many), x2, x3, some (.int z)] H :=
  ⟨.int z, rfl, .int z, rfl, z, 1009, rfl, rfl, ⟨by decide, by decide⟩, z / 1009, 69621, rfl, rfl, z, z / 1009 + 69621, rfl, rfl, .inl (by omega), .inl ⟨_, rfl, z * (z / 1009 + 69621), 2147483647, rfl, rfl, by omega, d3c_read (z := z * (z / 1009 + 69621) % 2147483647) hm (Int.emod_nonneg _ (by omega)) (Int.emod_lt_of_pos _ (by omega)) q⟩⟩
/-- the slots: hand, many, cell, digit, number -/
theorem draw3_read {K : PySem.W.Frag} {G : Gh} {Fr F H : Hp} {a c : Addr} {cs : List Int} {i b m n many : Int} {x2 x3 x4 : Option V} {D : Ends} (R : RB G Fr F H) (hO : G.hO = some a) (hH : H a = some (.lst [.ref c, .int i, .int b, .int m, .int n])) (hc : F c = some (.lst (cs.map V.int))) (hl : cs.length ≤ 63) (h0 : 0 ≤ i)
    (hm : 0 < many) (q : ∀ r H', 0 ≤ r → r < many → RB G Fr F H' → D.rt (.int r) H') : t_draw3 K D [some (.ref a), some (.int many), x2, x3, x4] H := by
  refine ⟨.ref a, rfl, a, _, 4, _, rfl, rfl, SqL.of hH, rfl, _, _, rfl, rfl, .ref a, rfl, a, _, 4, 4, rfl, rfl, hH, rfl, ?_⟩
  have R2 := hand_step (H := H) (vs := []) (ws := [.ref c, .int i, .int b, .int m, .int (n + 1)]) R hO h0 rfl hc hl
  have h2 : (upd H a (.lst ([V.ref c, .int i, .int b, .int m, .int n].set 4 (.int (n + 1))))) a = some (.lst [.ref c, .int i, .int b, .int m, .int (n + 1)]) := upd_same
  refine ⟨.ref a, rfl, a, _, 3, _, rfl, rfl, SqL.of h2, rfl, .ref a, rfl, a, _, 4, _, rfl, rfl, SqL.of h2, rfl, 7919, n + 1, rfl, rfl, .inl (by omega), m, 7919 * (n + 1), rfl, rfl, .inl ⟨_, rfl, m + 7919 * (n + 1), 48271, rfl, rfl, .inr (by omega), .inl ⟨_, rfl, (m + 7919 * (n + 1)) * 48271, 2147483647, rfl, rfl, by omega, ?_⟩⟩⟩
  exact d3b_read (z := (m + 7919 * (n + 1)) * 48271 % 2147483647) hm (Int.emod_nonneg _ (by omega)) (Int.emod_lt_of_pos _ (by omega)) fun r r0 rm => q r _ r0 rm R2
theorem draw2_read {K : PySem.W.Frag} {G : Gh} {Fr F H : Hp} {a c : Addr} {cs : List Int} {i b m n many : Int} {x2 x3 x4 : Option V} {D : Ends} (R : RB G Fr F H) (hO : G.hO = some a) (hH : H a = some (.lst [.ref c, .int i, .int b, .int m, .int n])) (hc : F c = some (.lst (cs.map V.int))) (hl : cs.length ≤ 63) (h0 : 0 ≤ i)
    (hm : 0 < many) (hm2 : many < 1073741824) (q : ∀ r H', 0 ≤ r → r < many → RB G Fr F H' → D.rt (.int r) H') : tSeq (t_draw2 K) (t_draw3 K) D [some (.ref a), some (.int many), x2, x3, x4] H := by
  refine ⟨.ref a, rfl, a, _, 2, _, rfl, rfl, SqL.of hH, rfl, _, _, rfl, rfl, _, rfl, ?_⟩
  by_cases hb : 0 < b
  · rw [decide_eq_true hb]
    refine iteT ⟨.ref a, rfl, a, _, 2, _, rfl, rfl, SqL.of hH, rfl, .inl ⟨_, rfl, .int many, rfl, b, many, rfl, rfl, hm, ?_⟩⟩
    refine ⟨.ref a, rfl, a, _, 2, _, rfl, rfl, SqL.of hH, rfl, .int many, rfl, b, many, rfl, rfl, ⟨hm, hm2⟩, .ref a, rfl, a, _, 2, 2, rfl, rfl, hH, rfl, ?_⟩
    exact ⟨.int (b % many), rfl, q _ _ (Int.emod_nonneg _ (by omega)) (Int.emod_lt_of_pos _ hm) (hand_step (vs := []) R hO h0 rfl hc hl)⟩
  · rw [decide_eq_false hb]
    exact iteF (draw3_read R hO hH hc hl h0 hm q)
theorem draw_read {K : PySem.W.Frag} {G : Gh} {Fr F H : Hp} {a c : Addr} {cs : List Int} {i b m n many : Int} {x2 x3 x4 : Option V} {D : Ends} (R : RB G Fr F H) (hO : G.hO = some a) (hH : H a = some (.lst [.ref c, .int i, .int b, .int m, .int n])) (hc : F c = some (.lst (cs.map V.int))) (hl : cs.length ≤ 63) (h0 : 0 ≤ i)
    (hm : 0 < many) (hm2 : many < 1073741824) (q : ∀ r H', 0 ≤ r → r < many → RB G Fr F H' → D.rt (.int r) H') : t_draw K D [some (.ref a), some (.int many), x2, x3, x4] H := by
  have hcH : H c = some (.lst (cs.map V.int)) := R.sub _ _ hc
  have hca : c ≠ a := fun z => by subst z; rw [(R.hand c hO).1] at hc; cases hc
  have e2 : decide (V.int b = V.int 0) = decide (b = 0) := by
    by_cases h : b = 0
    · subst h; rfl
    · rw [decide_eq_false h, decide_eq_false (fun z => h (V.int.inj z))]
  refine ⟨.ref a, rfl, a, _, 2, _, rfl, rfl, SqL.of hH, rfl, rfl, _, rfl, ?_⟩
  rw [e2]
  by_cases hb : b = 0
  · rw [decide_eq_true hb]
    refine iteT ⟨.ref a, rfl, a, _, 1, _, rfl, rfl, SqL.of hH, rfl, .ref a, rfl, a, _, 0, _, rfl, rfl, SqL.of hH, rfl, c, _, rfl, .inl (SqL.of hcH), _, _, rfl, rfl, _, rfl, ?_⟩
    by_cases hi : i < ((cs.map V.int).length : Int)
    · rw [decide_eq_true hi]
      refine iteT ?_
      obtain ⟨j, rfl⟩ : ∃ j : Nat, i = j := ⟨i.toNat, by omega⟩
      have hj : j < cs.length := by simpa using hi
      have hat : L2.atI (cs.map V.int) (j : Int) = some (.int cs[j]) := atI_nat (by rw [List.getElem?_map, List.getElem?_eq_getElem hj]; rfl)
      refine ⟨.ref a, rfl, a, _, 0, _, rfl, rfl, SqL.of hH, rfl, .ref a, rfl, a, _, 1, _, rfl, rfl, SqL.of hH, rfl, c, _, (j : Int), .int cs[j], rfl, rfl, SqL.of hcH, hat, ?_⟩
      refine ⟨.ref a, rfl, a, _, 1, _, rfl, rfl, SqL.of hH, rfl, (j : Int), 1, rfl, rfl, .ref a, rfl, a, _, 1, 1, rfl, rfl, hH, rfl, ?_⟩
      have R2 := hand_step (H := H) (vs := []) (ws := [V.ref c, .int (j + 1 : Int), .int b, .int m, .int n]) R hO (by omega) rfl hc hl
      have h2 : (upd H a (.lst ([V.ref c, .int (j : Int), .int b, .int m, .int n].set 1 (.int ((j : Int) + 1))))) a = some (.lst [.ref c, .int ((j : Int) + 1), .int b, .int m, .int n]) := upd_same
      refine ⟨.ref a, rfl, a, _, 3, _, rfl, rfl, SqL.of h2, rfl, m, 69621, rfl, rfl, .inr (by omega), .int cs[j], rfl, cs[j], 40692, rfl, rfl, .inr (by omega), m * 69621, cs[j] * 40692, rfl, rfl, m * 69621 + cs[j] * 40692, 43, rfl, rfl, .inl ⟨_, rfl, m * 69621 + cs[j] * 40692 + 43, 2147483629, rfl, rfl, by omega, .ref a, rfl, a, _, 3, 3, rfl, rfl, h2, rfl, ?_⟩⟩
      have R3 := hand_step (H := upd H a (.lst [V.ref c, .int (j + 1 : Int), .int b, .int m, .int n])) (vs := []) (ws := [V.ref c, .int (j + 1 : Int), .int b, .int ((m * 69621 + cs[j] * 40692 + 43) % 2147483629), .int n]) R2 hO (by omega) rfl hc hl
      have h3 : (upd (upd H a (.lst ([V.ref c, .int (j : Int), .int b, .int m, .int n].set 1 (.int ((j : Int) + 1))))) a (.lst ([V.ref c, .int ((j : Int) + 1), .int b, .int m, .int n].set 3 (.int ((m * 69621 + cs[j] * 40692 + 43) % 2147483629))))) a = some (.lst [.ref c, .int ((j : Int) + 1), .int b, .int ((m * 69621 + cs[j] * 40692 + 43) % 2147483629), .int n]) := upd_same
      refine ⟨.int cs[j], rfl, 10, 18, rfl, rfl, ⟨by decide, by decide, by decide⟩, cs[j], (10 : Int) ^ 18, rfl, rfl, _, rfl, ?_⟩
      by_cases hg : (10 : Int) ^ 18 ≤ cs[j]
      · rw [decide_eq_true hg]
        refine iteT ⟨.int cs[j], rfl, .ref a, rfl, a, _, 2, 2, rfl, rfl, h3, rfl, ?_⟩
        exact draw2_read (hand_step (vs := []) R3 hO (by omega) rfl hc hl) hO upd_same hc hl (by omega) hm hm2 q
      · rw [decide_eq_false hg]
        exact iteF (draw2_read R3 hO h3 hc hl (by omega) hm hm2 q)
    · rw [decide_eq_false hi]
      exact iteF (draw2_read R hO hH hc hl h0 hm hm2 q)
  · rw [decide_eq_false hb]
    exact iteF (iteF (draw2_read R hO hH hc hl h0 hm hm2 q))
theorem draw_body {K : PySem.W.Frag} {mg : Str → Option Value} {vs : List V} {H : Hp} {Q : VK} {E : XK} (h : vsp K mg 2 S__law_draw vs H Q E) : t_draw K { nx := fun _ H' => Q .non H', rt := Q } (L2.start ["hand", "many", "cell", "digit", "number"] vs) H := by
  obtain ⟨_, hO, Fr, F, ps, Qv, R, rs, ⟨m, rfl, m1, m2, hq⟩, k⟩ := h
  cases rs with
  | cons r1 rs =>
    cases rs with
    | cons r2 rs =>
      cases rs
      cases r1 with
      | hnd e =>
        cases r2
        obtain ⟨hF, c, cs, i, b, mm, n, e1, e2, e3, e4⟩ := R.hand _ e
        exact draw_read (G := ⟨K, mg, hO⟩) R e e1 e2 e3 e4 m1 m2 fun r H' r0 rm R' => k (.int r) H' F (.val (.int r)) (Same.refl F) R' (Rep.int r) (hq r r0 rm)
section
variable {P : Program} {w : World} {K : PySem.W.Frag} {mg : Str → Option Value} {base : Heap} {qual : Str} {params : Arguments} {st : Stmt} {rest : List Stmt} {scope : Scope} {f fH : Addr} {fd fdH : FuncData}
theorem fnG_draw {body : List Stmt} (F : FunD K "_law_draw" "_law_draw" params body scope [] [] f fd) (Sc : FnScope ["hand", "many", "cell", "digit", "number"] ["hand", "many"] scope)
    (hd : ∀ (cdv : Value) (A : Around) (outer : List Env) (s : Shared) (H : Hp), PSs (cxOf CX0 P w K mg base ["hand", "many", "cell", "digit", "number"] "_law_draw" scope f cdv A outer s H E0).nox body (t_draw K)) : FnG P w K mg base 1 f fd ["hand", "many"] (vsp K mg 2 S__law_draw) := by
  obtain ⟨oc, od, dV, kV, doc, pm, an, cdv, ct, osl, e, lk, hcd, _, _⟩ := F.ex
  subst e
  exact fnG_of lk hcd Sc (fun vs H Q E h => h.1) fun A outer s H vs Q _ h => ⟨_, PSs.nox (hd cdv A outer s H), draw_body h⟩
end
end F62
namespace F95
def t_draw1 (K : PySem.W.Frag) : TS := tIfS (tAnd (tTest (tOp rEq (hx K 2) (cI 0))) (tTest (tOp (rI0 fun i j => .bl (decide (i < j))) (hx K 1) (tCB (rLenS K) (tCons (hx K 0) tNil)))))
  (tSeq (tAsg (tOp (rIxL K) (hx K 0) (hx K 1)) (gName 2)) (tSeq (hset 1 (tAddI (hx K 1) (cI 1)))
    (tSeq (hset 3 (tModI (tInt (tAddI (tAddI (tMulI (hx K 3) (cI 69621)) (tVar 2)) (cI 43))) (cI 2147483629)))
      (tIfS (tTest (tOp (rI0 fun i j => .bl (decide (j ≤ i))) (tVar 2) (tOp (rI CPow fun i j => .int (i ^ j.toNat)) (cI 10) (cI 18)))) (hset 2 (tVar 2)) tNext)))) tNext
def t_draw2 (K : PySem.W.Frag) : TS := tIfS (tTest (tOp (rI0 fun i j => .bl (decide (j < i))) (hx K 2) (cI 0)))
  (tSeq (tAsg (tModI (tInt (hx K 2)) (tVar 1)) (gName 3)) (tSeq (hset 2 (tDivI (hx K 2) (tVar 1))) (tRet (tVar 3)))) tNext
def t_d3d : TS := tRet (tModI (tInt (tDivI (tVar 4) (cI 16))) (tVar 1))
def t_d3c : TS := tSeq (tAsg (tModI (tInt (tMulI (tVar 4) (tAddI (tDivI (tVar 4) (cI 2003)) (cI 40692)))) (cI 2147483399)) (gName 4)) t_d3d
def t_d3b : TS := tSeq (tAsg (tModI (tInt (tMulI (tVar 4) (tAddI (tDivI (tVar 4) (cI 1009)) (cI 69621)))) (cI 2147483647)) (gName 4)) t_d3c
def t_draw3 (K : PySem.W.Frag) : TS := tSeq (hset 4 (tAddI (hx K 4) (cI 1)))
  (tSeq (tAsg (tModI (tInt (tMulI (tInt (tAddI (hx K 3) (tMulI (cI 7919) (hx K 4)))) (cI 48271))) (cI 2147483647)) (gName 4)) t_d3b)
def t_draw (K : PySem.W.Frag) : TS := tSeq (t_draw1 K) (tSeq (t_draw2 K) (t_draw3 K))
theorem d3d_read {x0 x2 x3 : Option V} {z many : Int} {D : Ends} {H : Hp} (hm : 0 < many) (q : ∀ r, 0 ≤ r → r < many → D.rt (.int r) H) : t_d3d D [x0, some (.int many), x2, x3, some (.int z)] H :=
  ⟨.int z, rfl, z, 16, rfl, rfl, ⟨by decide, by decide⟩, .inl ⟨_, rfl, .int many, rfl, z / 16, many, rfl, rfl, hm, q _ (Int.emod_nonneg _ (by omega)) (Int.emod_lt_of_pos _ hm)⟩⟩
theorem d3c_read {x0 x2 x3 : Option V} {z many : Int} {D : Ends} {H : Hp} (hm : 0 < many) (h1 : 0 ≤ z) (h2 : z < 2147483647) (q : ∀ r, 0 ≤ r → r < many → D.rt (.int r) H) : t_d3c D [x0, some (.int many), x2, x3, some (.int z)] H :=
  ⟨.int z, rfl, .int z, rfl, z, 2003, rfl, rfl, ⟨by decide, by decide⟩, z / 2003, 40692, rfl, rfl, z, z / 2003 + 40692, rfl, rfl, .inl (by omega), .inl ⟨_, rfl, z * (z / 2003 + 40692), 2147483399, rfl, rfl, by omega, d3d_read (z := z * (z / 2003 + 40692) % 2147483399) hm q⟩⟩
theorem d3b_read {x0 x2 x3 : Option V} {z many : Int} {D : Ends} {H : Hp} (hm : 0 < many) (h1 : 0 ≤ z) (h2 : z < 2147483647) (q : ∀ r, 0 ≤ r → r < many → D.rt (.int r) H) : t_d3b D [x0, some (.int many), x2, x3, some (.int z)] H :=
  ⟨.int z, rfl, .int z, rfl, z, 1009, rfl, rfl, ⟨by decide, by decide⟩, z / 1009, 69621, rfl, rfl, z, z / 1009 + 69621, rfl, rfl, .inl (by omega), .inl ⟨_, rfl, z * (z / 1009 + 69621), 2147483647, rfl, rfl, by omega, d3c_read (z := z * (z / 1009 + 69621) % 2147483647) hm (Int.emod_nonneg _ (by omega)) (Int.emod_lt_of_pos _ (by omega)) q⟩⟩
/-- the slots: hand, many, cell, digit, number -/
theorem draw3_read {K : PySem.W.Frag} {G : Gh} {Fr F H : Hp} {a c : Addr} {cs : List Int} {i b m n many : Int} {x2 x3 x4 : Option V} {D : Ends} (R : RB G Fr F H) (hO : G.hO = some a) (hH : H a = some (.lst [.ref c, .int i, .int b, .int m, .int n])) (hc : F c = some (.lst (cs.map V.int))) (hl : cs.length ≤ 63) (h0 : 0 ≤ i)
    (hm : 0 < many) (q : ∀ r H', 0 ≤ r → r < many → RB G Fr F H' → D.rt (.int r) H') : t_draw3 K D [some (.ref a), some (.int many), x2, x3, x4] H := by
  refine ⟨.ref a, rfl, a, _, 4, _, rfl, rfl, SqL.of hH, rfl, _, _, rfl, rfl, .ref a, rfl, a, _, 4, 4, rfl, rfl, hH, rfl, ?_⟩
  have R2 := hand_step (H := H) (vs := []) (ws := [.ref c, .int i, .int b, .int m, .int (n + 1)]) R hO h0 rfl hc hl
  have h2 : (upd H a (.lst ([V.ref c, .int i, .int b, .int m, .int n].set 4 (.int (n + 1))))) a = some (.lst [.ref c, .int i, .int b, .int m, .int (n + 1)]) := upd_same
  refine ⟨.ref a, rfl, a, _, 3, _, rfl, rfl, SqL.of h2, rfl, .ref a, rfl, a, _, 4, _, rfl, rfl, SqL.of h2, rfl, 7919, n + 1, rfl, rfl, .inl (by omega), m, 7919 * (n + 1), rfl, rfl, .inl ⟨_, rfl, m + 7919 * (n + 1), 48271, rfl, rfl, .inr (by omega), .inl ⟨_, rfl, (m + 7919 * (n + 1)) * 48271, 2147483647, rfl, rfl, by omega, ?_⟩⟩⟩
  exact d3b_read (z := (m + 7919 * (n + 1)) * 48271 % 2147483647) hm (Int.emod_nonneg _ (by omega)) (Int.emod_lt_of_pos _ (by omega)) fun r r0 rm => q r _ r0 rm R2
theorem draw2_read {K : PySem.W.Frag} {G : Gh} {Fr F H : Hp} {a c : Addr} {cs : List Int} {i b m n many : Int} {x2 x3 x4 : Option V} {D : Ends} (R : RB G Fr F H) (hO : G.hO = some a) (hH : H a = some (.lst [.ref c, .int i, .int b, .int m, .int n])) (hc : F c = some (.lst (cs.map V.int))) (hl : cs.length ≤ 63) (h0 : 0 ≤ i)
    (hm : 0 < many) (hm2 : many < 1073741824) (q : ∀ r H', 0 ≤ r → r < many → RB G Fr F H' → D.rt (.int r) H') : tSeq (t_draw2 K) (t_draw3 K) D [some (.ref a), some (.int many), x2, x3, x4] H := by
  refine ⟨.ref a, rfl, a, _, 2, _, rfl, rfl, SqL.of hH, rfl, _, _, rfl, rfl, _, rfl, ?_⟩
  by_cases hb : 0 < b
  · rw [decide_eq_true hb]
    refine iteT ⟨.ref a, rfl, a, _, 2, _, rfl, rfl, SqL.of hH, rfl, .inl ⟨_, rfl, .int many, rfl, b, many, rfl, rfl, hm, ?_⟩⟩
    refine ⟨.ref a, rfl, a, _, 2, _, rfl, rfl, SqL.of hH, rfl, .int many, rfl, b, many, rfl, rfl, ⟨hm, hm2⟩, .ref a, rfl, a, _, 2, 2, rfl, rfl, hH, rfl, ?_⟩
    exact ⟨.int (b % many), rfl, q _ _ (Int.emod_nonneg _ (by omega)) (Int.emod_lt_of_pos _ hm) (hand_step (vs := []) R hO h0 rfl hc hl)⟩
  · rw [decide_eq_false hb]
    exact iteF (draw3_read R hO hH hc hl h0 hm q)
theorem draw_read {K : PySem.W.Frag} {G : Gh} {Fr F H : Hp} {a c : Addr} {cs : List Int} {i b m n many : Int} {x2 x3 x4 : Option V} {D : Ends} (R : RB G Fr F H) (hO : G.hO = some a) (hH : H a = some (.lst [.ref c, .int i, .int b, .int m, .int n])) (hc : F c = some (.lst (cs.map V.int))) (hl : cs.length ≤ 63) (h0 : 0 ≤ i)
    (hm : 0 < many) (hm2 : many < 1073741824) (q : ∀ r H', 0 ≤ r → r < many → RB G Fr F H' → D.rt (.int r) H') : t_draw K D [some (.ref a), some (.int many), x2, x3, x4] H := by
  have hcH : H c = some (.lst (cs.map V.int)) := R.sub _ _ hc
  have hca : c ≠ a := fun z => by subst z; rw [(R.hand c hO).1] at hc; cases hc
  have e2 : decide (V.int b = V.int 0) = decide (b = 0) := by
    by_cases h : b = 0
    · subst h; rfl
    · rw [decide_eq_false h, decide_eq_false (fun z => h (V.int.inj z))]
  refine ⟨.ref a, rfl, a, _, 2, _, rfl, rfl, SqL.of hH, rfl, rfl, _, rfl, ?_⟩
  rw [e2]
  by_cases hb : b = 0
  · rw [decide_eq_true hb]
    refine iteT ⟨.ref a, rfl, a, _, 1, _, rfl, rfl, SqL.of hH, rfl, .ref a, rfl, a, _, 0, _, rfl, rfl, SqL.of hH, rfl, c, _, rfl, .inl (SqL.of hcH), _, _, rfl, rfl, _, rfl, ?_⟩
    by_cases hi : i < ((cs.map V.int).length : Int)
    · rw [decide_eq_true hi]
      refine iteT ?_
      obtain ⟨j, rfl⟩ : ∃ j : Nat, i = j := ⟨i.toNat, by omega⟩
      have hj : j < cs.length := by simpa using hi
      have hat : L2.atI (cs.map V.int) (j : Int) = some (.int cs[j]) := atI_nat (by rw [List.getElem?_map, List.getElem?_eq_getElem hj]; rfl)
      refine ⟨.ref a, rfl, a, _, 0, _, rfl, rfl, SqL.of hH, rfl, .ref a, rfl, a, _, 1, _, rfl, rfl, SqL.of hH, rfl, c, _, (j : Int), .int cs[j], rfl, rfl, SqL.of hcH, hat, ?_⟩
      refine ⟨.ref a, rfl, a, _, 1, _, rfl, rfl, SqL.of hH, rfl, (j : Int), 1, rfl, rfl, .ref a, rfl, a, _, 1, 1, rfl, rfl, hH, rfl, ?_⟩
      have R2 := hand_step (H := H) (vs := []) (ws := [V.ref c, .int (j + 1 : Int), .int b, .int m, .int n]) R hO (by omega) rfl hc hl
      have h2 : (upd H a (.lst ([V.ref c, .int (j : Int), .int b, .int m, .int n].set 1 (.int ((j : Int) + 1))))) a = some (.lst [.ref c, .int ((j : Int) + 1), .int b, .int m, .int n]) := upd_same
      refine ⟨.ref a, rfl, a, _, 3, _, rfl, rfl, SqL.of h2, rfl, m, 69621, rfl, rfl, .inr (by omega), .int cs[j], rfl, m * 69621, cs[j], rfl, rfl, m * 69621 + cs[j], 43, rfl, rfl, .inl ⟨_, rfl, m * 69621 + cs[j] + 43, 2147483629, rfl, rfl, by omega, .ref a, rfl, a, _, 3, 3, rfl, rfl, h2, rfl, ?_⟩⟩
      have R3 := hand_step (H := upd H a (.lst [V.ref c, .int (j + 1 : Int), .int b, .int m, .int n])) (vs := []) (ws := [V.ref c, .int (j + 1 : Int), .int b, .int ((m * 69621 + cs[j] + 43) % 2147483629), .int n]) R2 hO (by omega) rfl hc hl
      have h3 : (upd (upd H a (.lst ([V.ref c, .int (j : Int), .int b, .int m, .int n].set 1 (.int ((j : Int) + 1))))) a (.lst ([V.ref c, .int ((j : Int) + 1), .int b, .int m, .int n].set 3 (.int ((m * 69621 + cs[j] + 43) % 2147483629))))) a = some (.lst [.ref c, .int ((j : Int) + 1), .int b, .int ((m * 69621 + cs[j] + 43) % 2147483629), .int n]) := upd_same
      refine ⟨.int cs[j], rfl, 10, 18, rfl, rfl, ⟨by decide, by decide, by decide⟩, cs[j], (10 : Int) ^ 18, rfl, rfl, _, rfl, ?_⟩
      by_cases hg : (10 : Int) ^ 18 ≤ cs[j]
      · rw [decide_eq_true hg]
        refine iteT ⟨.int cs[j], rfl, .ref a, rfl, a, _, 2, 2, rfl, rfl, h3, rfl, ?_⟩
        exact draw2_read (hand_step (vs := []) R3 hO (by omega) rfl hc hl) hO upd_same hc hl (by omega) hm hm2 q
      · rw [decide_eq_false hg]
        exact iteF (draw2_read R3 hO h3 hc hl (by omega) hm hm2 q)
    · rw [decide_eq_false hi]
      exact iteF (draw2_read R hO hH hc hl h0 hm hm2 q)
  · rw [decide_eq_false hb]
    exact iteF (iteF (draw2_read R hO hH hc hl h0 hm hm2 q))
theorem draw_body {K : PySem.W.Frag} {mg : Str → Option Value} {vs : List V} {H : Hp} {Q : VK} {E : XK} (h : vsp K mg 2 S__law_draw vs H Q E) : t_draw K { nx := fun _ H' => Q .non H', rt := Q } (L2.start ["hand", "span", "cell", "digit", "number"] vs) H := by
  obtain ⟨_, hO, Fr, F, ps, Qv, R, rs, ⟨m, rfl, m1, m2, hq⟩, k⟩ := h
  cases rs with
  | cons r1 rs =>
    cases rs with
    | cons r2 rs =>
      cases rs
      cases r1 with
      | hnd e =>
        cases r2
        obtain ⟨hF, c, cs, i, b, mm, n, e1, e2, e3, e4⟩ := R.hand _ e
        exact draw_read (G := ⟨K, mg, hO⟩) R e e1 e2 e3 e4 m1 m2 fun r H' r0 rm R' => k (.int r) H' F (.val (.int r)) (Same.refl F) R' (Rep.int r) (hq r r0 rm)
section
variable {P : Program} {w : World} {K : PySem.W.Frag} {mg : Str → Option Value} {base : Heap} {qual : Str} {params : Arguments} {st : Stmt} {rest : List Stmt} {scope : Scope} {f fH : Addr} {fd fdH : FuncData}
theorem fnG_draw {body : List Stmt} (F : FunD K "_law_draw" "_law_draw" params body scope [] [] f fd) (Sc : FnScope ["hand", "span", "cell", "digit", "number"] ["hand", "span"] scope)
    (hd : ∀ (cdv : Value) (A : Around) (outer : List Env) (s : Shared) (H : Hp), PSs (cxOf CX0 P w K mg base ["hand", "span", "cell", "digit", "number"] "_law_draw" scope f cdv A outer s H E0).nox body (t_draw K)) : FnG P w K mg base 1 f fd ["hand", "span"] (vsp K mg 2 S__law_draw) := by
  obtain ⟨oc, od, dV, kV, doc, pm, an, cdv, ct, osl, e, lk, hcd, _, _⟩ := F.ex
  subst e
  exact fnG_of lk hcd Sc (fun vs H Q E h => h.1) fun A outer s H vs Q _ h => ⟨_, PSs.nox (hd cdv A outer s H), draw_body h⟩
end
end F95
namespace H1
def t_hand (K : PySem.W.Frag) (c c2 : Int) : TS := tSeq (tAsg (tLc (iList K (tSl (rSlL K) (tVar 0) tNoPart (tPart (cI 63)))) (gName 2) tYes (tCB rAbs (tCons (tInt (tVar 2)) tNil)) [2]) (gName 1))
  (tRet (tLst (tCons (tVar 1) (tCons (cI 0) (tCons (cI 0) (tCons (tAddI (cI c) (tMulI (cI c2) (tCB (rLenS K) (tCons (tVar 1) tNil)))) (tCons (cI 0) tNil)))))))
theorem hand_body {K : PySem.W.Frag} {c c2 : Int} (hc2 : -1000000 < c2 ∧ c2 < 1000000) {vs : List V} {H : Hp} {Q : VK} {E : XK} (h : spHand K vs H Q E) : t_hand K c c2 { nx := fun _ H' => Q .non H', rt := Q } (L2.start ["script", "cells", "cell"] vs) H := by
  obtain ⟨a, ns, rfl, hS, hl, q⟩ := h
  refine ⟨.ref a, rfl, 63, rfl, a, _, rfl, hS, fun d hd => ?_⟩
  obtain ⟨ms, em, hm⟩ := cutV_map ns none (some 63)
  rw [em]
  refine ⟨d, rfl, ⟨_, SqL.of upd_same⟩, fun D hD => ?_⟩
  have nDd : D ≠ d := fun z => by subst z; rw [upd_same] at hD; cases hD
  have HD : H D = none := by rw [upd_ne nDd] at hD; exact hD
  refine lc_list (K := K) (a := d) (xs := ms.map V.int) (fun i H2 => Same H H2 ∧ H2 d = some (.lst (ms.map V.int)) ∧ ∃ cs : List Int, cs.length = i ∧ H2 D = some (.lst (cs.map V.int))) ⟨(same_upd hd).trans (same_upd hD), ?_, [], rfl, upd_same⟩ (fun i H2 _ p => SqL.of p.2.1) ?_ ?_
  · rw [upd_ne nDd.symm, upd_same]
  · rintro i x H2 hx ⟨s2, e2, cs, hc, hD2⟩
    refine ⟨rfl, ?_⟩
    dsimp only [tYes]
    rw [if_pos rfl]
    rw [List.getElem?_map, Option.map_eq_some_iff] at hx
    obtain ⟨n, hn, rfl⟩ := hx
    have hi : i < ms.length := (List.getElem?_eq_some_iff.mp hn).1
    refine ⟨.int n, rfl, .inl ⟨n, rfl, n, rfl, cs.map V.int, hD2, ?_, ?_⟩⟩
    · rw [List.length_map, sizeLine_eq]; omega
    · refine ⟨fun b o e => ?_, ?_, cs ++ [if n < 0 then -n else n], ?_, ?_⟩
      · have hb : b ≠ D := ne_of_none e HD
        rw [upd_ne hb]; exact s2 b o e
      · rw [upd_ne nDd.symm]; exact e2
      · rw [List.length_append, hc]; rfl
      · rw [upd_same, List.map_append]; rfl
  · rintro H2 ⟨s2, e2, cs, hc, hD2⟩
    rw [List.length_map] at hc
    refine ⟨.ref D, rfl, .ref D, rfl, D, _, rfl, .inl (SqL.of hD2), c2, ((cs.map V.int).length : Int), rfl, rfl, .inl (by omega), c, c2 * ((cs.map V.int).length : Int), rfl, rfl, ?_, fun p hp => ?_⟩
    · show 5 ≤ sizeLine
      rw [sizeLine_eq]; omega
    · have HpD : p ≠ D := fun z => by subst z; rw [hD2] at hp; cases hp
      have Hp0 : H p = none := Same.free s2 hp
      exact q _ p D cs _ (s2.trans (same_upd hp)) Hp0 HpD upd_same (by rw [upd_ne HpD.symm]; exact hD2) (by omega)
section
variable {P : Program} {w : World} {K : PySem.W.Frag} {mg : Str → Option Value} {base : Heap} {qual : Str} {params : Arguments} {st : Stmt} {rest : List Stmt} {scope : Scope} {f fH : Addr} {fd fdH : FuncData}
theorem fnG_hand {c c2 : Int} {body : List Stmt} (F : FunD K "_law_hand" "_law_hand" params body scope [] [] f fd) (Sc : FnScope ["script", "cells", "cell"] ["script"] scope)
    (hc2 : -1000000 < c2 ∧ c2 < 1000000) (hd : ∀ (cdv : Value) (A : Around) (outer : List Env) (s : Shared) (H : Hp), PSs (cxOf CX0 P w K mg base ["script", "cells", "cell"] "_law_hand" scope f cdv A outer s H E0).nox body (t_hand K c c2)) : FnG P w K mg base 1 f fd ["script"] (spHand K) := by
  obtain ⟨oc, od, dV, kV, doc, pm, an, cdv, ct, osl, e, lk, hcd, _, _⟩ := F.ex
  subst e
  exact fnG_of lk hcd Sc (fun vs H Q E ⟨a, ns, e, _⟩ => by rw [e]; rfl) fun A outer s H vs Q _ h => ⟨_, PSs.nox (hd cdv A outer s H), hand_body hc2 h⟩
end
end H1
namespace H1a
def t_hand (K : PySem.W.Frag) (c c2 : Int) : TS := tSeq (tAsg (tLc (iList K (tSl (rSlL K) (tVar 0) tNoPart (tPart (cI 63)))) (gName 2) tYes (tCB rAbs (tCons (tInt (tVar 2)) tNil)) [2]) (gName 1))
  (tRet (tLst (tCons (tVar 1) (tCons (cI 0) (tCons (cI 0) (tCons (tAddI (cI c) (tMulI (cI c2) (tCB (rLenS K) (tCons (tVar 1) tNil)))) (tCons (cI 0) tNil)))))))
theorem hand_body {K : PySem.W.Frag} {c c2 : Int} (hc2 : -1000000 < c2 ∧ c2 < 1000000) {vs : List V} {H : Hp} {Q : VK} {E : XK} (h : spHand K vs H Q E) : t_hand K c c2 { nx := fun _ H' => Q .non H', rt := Q } (L2.start ["script", "all_cells", "cell"] vs) H := by
  obtain ⟨a, ns, rfl, hS, hl, q⟩ := h
  refine ⟨.ref a, rfl, 63, rfl, a, _, rfl, hS, fun d hd => ?_⟩
  obtain ⟨ms, em, hm⟩ := cutV_map ns none (some 63)
  rw [em]
  refine ⟨d, rfl, ⟨_, SqL.of upd_same⟩, fun D hD => ?_⟩
  have nDd : D ≠ d := fun z => by subst z; rw [upd_same] at hD; cases hD
  have HD : H D = none := by rw [upd_ne nDd] at hD; exact hD
  refine lc_list (K := K) (a := d) (xs := ms.map V.int) (fun i H2 => Same H H2 ∧ H2 d = some (.lst (ms.map V.int)) ∧ ∃ cs : List Int, cs.length = i ∧ H2 D = some (.lst (cs.map V.int))) ⟨(same_upd hd).trans (same_upd hD), ?_, [], rfl, upd_same⟩ (fun i H2 _ p => SqL.of p.2.1) ?_ ?_
  · rw [upd_ne nDd.symm, upd_same]
  · rintro i x H2 hx ⟨s2, e2, cs, hc, hD2⟩
    refine ⟨rfl, ?_⟩
    dsimp only [tYes]
    rw [if_pos rfl]
    rw [List.getElem?_map, Option.map_eq_some_iff] at hx
    obtain ⟨n, hn, rfl⟩ := hx
    have hi : i < ms.length := (List.getElem?_eq_some_iff.mp hn).1
    refine ⟨.int n, rfl, .inl ⟨n, rfl, n, rfl, cs.map V.int, hD2, ?_, ?_⟩⟩
    · rw [List.length_map, sizeLine_eq]; omega
    · refine ⟨fun b o e => ?_, ?_, cs ++ [if n < 0 then -n else n], ?_, ?_⟩
      · have hb : b ≠ D := ne_of_none e HD
        rw [upd_ne hb]; exact s2 b o e
      · rw [upd_ne nDd.symm]; exact e2
      · rw [List.length_append, hc]; rfl
      · rw [upd_same, List.map_append]; rfl
  · rintro H2 ⟨s2, e2, cs, hc, hD2⟩
    rw [List.length_map] at hc
    refine ⟨.ref D, rfl, .ref D, rfl, D, _, rfl, .inl (SqL.of hD2), c2, ((cs.map V.int).length : Int), rfl, rfl, .inl (by omega), c, c2 * ((cs.map V.int).length : Int), rfl, rfl, ?_, fun p hp => ?_⟩
    · show 5 ≤ sizeLine
      rw [sizeLine_eq]; omega
    · have HpD : p ≠ D := fun z => by subst z; rw [hD2] at hp; cases hp
      have Hp0 : H p = none := Same.free s2 hp
      exact q _ p D cs _ (s2.trans (same_upd hp)) Hp0 HpD upd_same (by rw [upd_ne HpD.symm]; exact hD2) (by omega)
section
variable {P : Program} {w : World} {K : PySem.W.Frag} {mg : Str → Option Value} {base : Heap} {qual : Str} {params : Arguments} {st : Stmt} {rest : List Stmt} {scope : Scope} {f fH : Addr} {fd fdH : FuncData}
theorem fnG_hand {c c2 : Int} {body : List Stmt} (F : FunD K "_law_hand" "_law_hand" params body scope [] [] f fd) (Sc : FnScope ["script", "all_cells", "cell"] ["script"] scope)
    (hc2 : -1000000 < c2 ∧ c2 < 1000000) (hd : ∀ (cdv : Value) (A : Around) (outer : List Env) (s : Shared) (H : Hp), PSs (cxOf CX0 P w K mg base ["script", "all_cells", "cell"] "_law_hand" scope f cdv A outer s H E0).nox body (t_hand K c c2)) : FnG P w K mg base 1 f fd ["script"] (spHand K) := by
  obtain ⟨oc, od, dV, kV, doc, pm, an, cdv, ct, osl, e, lk, hcd, _, _⟩ := F.ex
  subst e
  exact fnG_of lk hcd Sc (fun vs H Q E ⟨a, ns, e, _⟩ => by rw [e]; rfl) fun A outer s H vs Q _ h => ⟨_, PSs.nox (hd cdv A outer s H), hand_body hc2 h⟩
end
end H1a
namespace H2
def t_hand (K : PySem.W.Frag) (c c2 : Int) : TS := tSeq (tAsg (tLc (iList K (tSl (rSlL K) (tVar 0) tNoPart (tPart (cI 63)))) (gName 2) tYes (tModI (tInt (tCB rAbs (tCons (tInt (tVar 2)) tNil))) (tOp (rI CPow fun i j => .int (i ^ j.toNat)) (cI 10) (cI 36))) [2]) (gName 1))
  (tRet (tLst (tCons (tVar 1) (tCons (cI 0) (tCons (cI 0) (tCons (tAddI (cI c) (tMulI (cI c2) (tCB (rLenS K) (tCons (tVar 1) tNil)))) (tCons (cI 0) tNil)))))))
theorem hand_body {K : PySem.W.Frag} {c c2 : Int} (hc2 : -1000000 < c2 ∧ c2 < 1000000) {vs : List V} {H : Hp} {Q : VK} {E : XK} (h : spHand K vs H Q E) : t_hand K c c2 { nx := fun _ H' => Q .non H', rt := Q } (L2.start ["script", "cells", "cell"] vs) H := by
  obtain ⟨a, ns, rfl, hS, hl, q⟩ := h
  refine ⟨.ref a, rfl, 63, rfl, a, _, rfl, hS, fun d hd => ?_⟩
  obtain ⟨ms, em, hm⟩ := cutV_map ns none (some 63)
  rw [em]
  refine ⟨d, rfl, ⟨_, SqL.of upd_same⟩, fun D hD => ?_⟩
  have nDd : D ≠ d := fun z => by subst z; rw [upd_same] at hD; cases hD
  have HD : H D = none := by rw [upd_ne nDd] at hD; exact hD
  refine lc_list (K := K) (a := d) (xs := ms.map V.int) (fun i H2 => Same H H2 ∧ H2 d = some (.lst (ms.map V.int)) ∧ ∃ cs : List Int, cs.length = i ∧ H2 D = some (.lst (cs.map V.int))) ⟨(same_upd hd).trans (same_upd hD), ?_, [], rfl, upd_same⟩ (fun i H2 _ p => SqL.of p.2.1) ?_ ?_
  · rw [upd_ne nDd.symm, upd_same]
  · rintro i x H2 hx ⟨s2, e2, cs, hc, hD2⟩
    refine ⟨rfl, ?_⟩
    dsimp only [tYes]
    rw [if_pos rfl]
    rw [List.getElem?_map, Option.map_eq_some_iff] at hx
    obtain ⟨n, hn, rfl⟩ := hx
    have hi : i < ms.length := (List.getElem?_eq_some_iff.mp hn).1
    refine ⟨.int n, rfl, .inl ⟨n, rfl, n, rfl, .inl ⟨_, rfl, 10, 36, rfl, rfl, ⟨by decide, by decide, by decide⟩, (if n < 0 then -n else n), (10 : Int) ^ 36, rfl, rfl, show (0 : Int) < 10 ^ 36 from by decide, cs.map V.int, hD2, ?_, ?_⟩⟩⟩
    · rw [List.length_map, sizeLine_eq]; omega
    · refine ⟨fun b o e => ?_, ?_, cs ++ [(if n < 0 then -n else n) % (10 : Int) ^ 36], ?_, ?_⟩
      · have hb : b ≠ D := ne_of_none e HD
        rw [upd_ne hb]; exact s2 b o e
      · rw [upd_ne nDd.symm]; exact e2
      · rw [List.length_append, hc]; rfl
      · rw [upd_same, List.map_append]; rfl
  · rintro H2 ⟨s2, e2, cs, hc, hD2⟩
    rw [List.length_map] at hc
    refine ⟨.ref D, rfl, .ref D, rfl, D, _, rfl, .inl (SqL.of hD2), c2, ((cs.map V.int).length : Int), rfl, rfl, .inl (by omega), c, c2 * ((cs.map V.int).length : Int), rfl, rfl, ?_, fun p hp => ?_⟩
    · show 5 ≤ sizeLine
      rw [sizeLine_eq]; omega
    · have HpD : p ≠ D := fun z => by subst z; rw [hD2] at hp; cases hp
      have Hp0 : H p = none := Same.free s2 hp
      exact q _ p D cs _ (s2.trans (same_upd hp)) Hp0 HpD upd_same (by rw [upd_ne HpD.symm]; exact hD2) (by omega)
section
variable {P : Program} {w : World} {K : PySem.W.Frag} {mg : Str → Option Value} {base : Heap} {qual : Str} {params : Arguments} {st : Stmt} {rest : List Stmt} {scope : Scope} {f fH : Addr} {fd fdH : FuncData}
theorem fnG_hand {c c2 : Int} {body : List Stmt} (F : FunD K "_law_hand" "_law_hand" params body scope [] [] f fd) (Sc : FnScope ["script", "cells", "cell"] ["script"] scope)
    (hc2 : -1000000 < c2 ∧ c2 < 1000000) (hd : ∀ (cdv : Value) (A : Around) (outer : List Env) (s : Shared) (H : Hp), PSs (cxOf CX0 P w K mg base ["script", "cells", "cell"] "_law_hand" scope f cdv A outer s H E0).nox body (t_hand K c c2)) : FnG P w K mg base 1 f fd ["script"] (spHand K) := by
  obtain ⟨oc, od, dV, kV, doc, pm, an, cdv, ct, osl, e, lk, hcd, _, _⟩ := F.ex
  subst e
  exact fnG_of lk hcd Sc (fun vs H Q E ⟨a, ns, e, _⟩ => by rw [e]; rfl) fun A outer s H vs Q _ h => ⟨_, PSs.nox (hd cdv A outer s H), hand_body hc2 h⟩
end
end H2
end VE
end
section
set_option Elab.async false
set_option linter.all false
set_option maxRecDepth 100000
set_option maxHeartbeats 0
namespace K75
open PySem PySem.Spec PyProof.Rows L2 VE VX
def topS (i : Nat) : Stmt := PySem.Challenge.pw_fanrounds_k75_whole_growth_told_back.main.body.getD i (.Pass ⟨0, 0, 0, 0⟩)
structure Facts (mg : Str → Option Value) : Prop where
  m_abs : mg "abs" = none
  m_all : mg "all" = none
  m_bool : mg "bool" = none
  m_enumerate : mg "enumerate" = none
  m_int : mg "int" = none
  m_isinstance : mg "isinstance" = none
  m_len : mg "len" = none
  m_max : mg "max" = none
  m_range : mg "range" = none
  m_repr : mg "repr" = none
  m_set : mg "set" = none
  m_sorted : mg "sorted" = none
  m_sum : mg "sum" = none
  m_tuple : mg "tuple" = none
  m_zip : mg "zip" = none
  c_MOST_DOTS : ∃ t, mg "MOST_DOTS" = some (.int 40 t)
  c_MOST_PLACE : ∃ t, mg "MOST_PLACE" = some (.int 10000 t)
  c_MOST_TIMES : ∃ t, mg "MOST_TIMES" = some (.int 1000000 t)
section
variable {P : Program} {w : World} {K : PySem.W.Frag} {mg : Str → Option Value} {base : Heap} {f : Addr} {cdv : Value} {A : Around} {outer : List Env} {s : Shared} {H : Hp} {k : Nat}
theorem sc_is_integer : FnScope ["thing"] ["thing"] (defScope (topS 6)) := ⟨rfl, rfl, rfl, by decide +kernel, rfl, by decide +kernel, by decide +kernel⟩
theorem d_is_integer (T : Facts mg) (hk : 0 ≤ k) (hr : RoomG k (A.deeper (envOfC "is_integer" (defScope (topS 6)) s.heap.objs.size f cdv))) : XSs (cxOf CX0 P w K mg base ["thing"] "is_integer" (defScope (topS 6)) f cdv A outer s H E0).nox (defBody (topS 6)) (mRet (mAndV (mCall bIsi (mCons (mV 0) (mCons (mC (.ty "int")) mNil))) (mNotV (mCall bIsi (mCons (mV 0) (mCons (mC (.ty "bool")) mNil)))))) :=
  have nd : (["thing"] : List Str).Nodup := sc_is_integer.nd
  (xss_one (xs_ret (xe_and (xe_b (ve_callB call_isi ser_isi (gl_by (defScope (topS 6))) T.m_isinstance boot_isinstance (xa_cons (xe_v (ve_name (i := 0) rfl (vis_by (sc := (defScope (topS 6))) (by decide +kernel)))) (xa_cons (xe_c (ve_gty (gl_by (defScope (topS 6))) T.m_int boot_int)) xa_nil))) bIsi_ok) (xe_one (xe_not (xe_b (ve_callB call_isi ser_isi (gl_by (defScope (topS 6))) T.m_isinstance boot_isinstance (xa_cons (xe_v (ve_name (i := 0) rfl (vis_by (sc := (defScope (topS 6))) (by decide +kernel)))) (xa_cons (xe_c (ve_gty (gl_by (defScope (topS 6))) T.m_bool boot_bool)) xa_nil))) bIsi_ok))))))
theorem sc_is_within : FnScope ["thing", "low", "high"] ["thing", "low", "high"] (defScope (topS 7)) := ⟨rfl, rfl, rfl, by decide +kernel, rfl, by decide +kernel, by decide +kernel⟩
theorem d_is_within (T : Facts mg) (C_is_integer : Cal P w K mg base "is_integer" 1 1 (VX.SM VR.c_is_integer)) (hk : 1 ≤ k) (hr : RoomG k (A.deeper (envOfC "is_within" (defScope (topS 7)) s.heap.objs.size f cdv))) : XSs (cxOf CX0 P w K mg base ["thing", "low", "high"] "is_within" (defScope (topS 7)) f cdv A outer s H E0).nox (defBody (topS 7)) (mRet (mAndV (mCallN 1 VR.c_is_integer (mCons (mV 0) mNil)) (mChain pLe pLe (mV 1) (mV 0) (mV 2)))) :=
  have nd : (["thing", "low", "high"] : List Str).Nodup := sc_is_within.nd
  (xss_one (xs_ret (xe_and (xe_f (ve_call C_is_integer (hr.mono (by first | omega | exact Nat.le_refl _)) (gl_by (defScope (topS 7))) (xa_cons (xe_v (ve_name (i := 0) rfl (vis_by (sc := (defScope (topS 7))) (by decide +kernel)))) xa_nil))) (xe_one (xe_chain (ve_chain op_le op_le ser_cmpI ser_cmpI (xe_v (ve_name (i := 1) rfl (vis_by (sc := (defScope (topS 7))) (by decide +kernel)))) (xe_v (ve_name (i := 0) rfl (vis_by (sc := (defScope (topS 7))) (by decide +kernel)))) (xe_v (ve_name (i := 2) rfl (vis_by (sc := (defScope (topS 7))) (by decide +kernel))))) pLe_ok pLe_ok)))))
theorem sc_is_dot : FnScope ["thing", "one"] ["thing"] (defScope (topS 8)) := ⟨rfl, rfl, rfl, by decide +kernel, rfl, by decide +kernel, by decide +kernel⟩
theorem d_is_dot (T : Facts mg) (C_is_within : Cal P w K mg base "is_within" 3 2 (VX.SM VR.c_is_within)) (hk : 2 ≤ k) (hr : RoomG k (A.deeper (envOfC "is_dot" (defScope (topS 8)) s.heap.objs.size f cdv))) : XSs (cxOf CX0 P w K mg base ["thing", "one"] "is_dot" (defScope (topS 8)) f cdv A outer s H E0).nox (defBody (topS 8)) (mSeq (mIfS (mOrT (mNotT (mTst (mCall bIsi (mCons (mV 0) (mCons (mC (.ty "tuple")) mNil))))) (mTst (mB pNe (mCall bLen (mCons (mV 0) mNil)) (mC (.int 2))))) (mRet (mC (.bl false))) mNext) (mRet (mCall bAll (mCons (mComp (iSeq (mV 0)) (tgN 1) mYes (mCallN 3 VR.c_is_within (mCons (mV 1) (mCons (mU pNeg (mC (.int 10000))) (mCons (mC (.int 10000)) mNil)))) [1]) mNil)))) :=
  have nd : (["thing", "one"] : List Str).Nodup := sc_is_dot.nd
  (xss_cons (xs_if (xt_bool (xw_or (xt_not (xt_of (vt_val (xe_b (ve_callB call_isi ser_isi (gl_by (defScope (topS 8))) T.m_isinstance boot_isinstance (xa_cons (xe_v (ve_name (i := 0) rfl (vis_by (sc := (defScope (topS 8))) (by decide +kernel)))) (xa_cons (xe_c (ve_gty (gl_by (defScope (topS 8))) T.m_tuple boot_tuple)) xa_nil))) bIsi_ok)))) (xw_or1 (xt_cmp (vt_ne (hu64 hr) (xe_b (ve_callB call_lenA ser_len (gl_by (defScope (topS 8))) T.m_len boot_len (xa_cons (xe_v (ve_name (i := 0) rfl (vis_by (sc := (defScope (topS 8))) (by decide +kernel)))) xa_nil)) bLen_ok) (xe_c ve_int)) pNe_ok)))) (xss_one (xs_ret (xe_c ve_bl))) xss_nil) (xss_one (xs_ret (xe_b (ve_callB (cr_all rfl) ser_all (gl_by (defScope (topS 8))) T.m_all boot_all (xa_cons (xe_comp (ve_comp (own := [("one", 1)]) rfl nd (xi_seq (xe_v (ve_name (i := 0) rfl (vis_by (sc := (defScope (topS 8))) (by decide +kernel))))) (blkOk_by (N := ["thing", "one"]) (sc := (defScope (topS 8))) (by decide +kernel)) (fun _ _ _ _ _ => (xg_name (vg_name (i := 1) nd rfl (by first | exact loc_by (sc := (relS _ (defScope (topS 8)))) (by decide +kernel)) (hf := .inr (lcl_by (sc := (relS _ (defScope (topS 8)))) (by decide +kernel)))))) (fun _ _ _ _ _ => xts_nil) (fun _ _ _ _ _ => (xe_f (ve_call C_is_within (hr.mono (by first | omega | exact Nat.le_refl _)) (gl_by (relS _ (defScope (topS 8)))) (xa_cons (xe_v (ve_name (i := 1) rfl (by first | exact vis_by (sc := (relS _ (defScope (topS 8)))) (by decide +kernel)))) (xa_cons (xe_un (ve_neg (xe_c (ve_gint (gl_by (relS _ (defScope (topS 8)))) T.c_MOST_PLACE))) pNeg_ok) (xa_cons (xe_c (ve_gint (gl_by (relS _ (defScope (topS 8)))) T.c_MOST_PLACE)) xa_nil)))))) (by decide))) xa_nil)) bAll_ok))))
theorem sc_common_divisor : FnScope ["one", "other"] ["one", "other"] (defScope (topS 9)) := ⟨rfl, rfl, rfl, by decide +kernel, rfl, by decide +kernel, by decide +kernel⟩
theorem d_common_divisor (T : Facts mg) (hk : 0 ≤ k) (hr : RoomG k (A.deeper (envOfC "common_divisor" (defScope (topS 9)) s.heap.objs.size f cdv))) : XSs (cxOf CX0 P w K mg base ["one", "other"] "common_divisor" (defScope (topS 9)) f cdv A outer s H E0).nox (defBody (topS 9)) (mSeq (mPar [0, 1] (bConsM (mCall bAbs (mCons (mV 0) mNil)) (bConsM (mCall bAbs (mCons (mV 1) mNil)) bNilM))) (mSeq (mWhile (mTst (mB pGt (mV 1) (mC (.int 0)))) (mPar [0, 1] (bConsM (mV 1) (bConsM (mB pMod (mV 0) (mV 1)) bNilM)))) (mRetN 0))) :=
  have nd : (["one", "other"] : List Str).Nodup := sc_common_divisor.nd
  (xss_cons (xs_par2 (vs_parB (i := 0) (j := 1) rfl nd rfl rfl (by decide) (lcl_by (sc := (defScope (topS 9))) (by decide +kernel)) (lcl_by (sc := (defScope (topS 9))) (by decide +kernel)) (xb_cons (xe_b (ve_callB call_abs ser_abs (gl_by (defScope (topS 9))) T.m_abs boot_abs (xa_cons (xe_v (ve_name (i := 0) rfl (vis_by (sc := (defScope (topS 9))) (by decide +kernel)))) xa_nil)) bAbs_ok) (xb_cons (xe_b (ve_callB call_abs ser_abs (gl_by (defScope (topS 9))) T.m_abs boot_abs (xa_cons (xe_v (ve_name (i := 1) rfl (vis_by (sc := (defScope (topS 9))) (by decide +kernel)))) xa_nil)) bAbs_ok) xb_nil)) (by rfl))) (xss_cons (xs_while (vs_while PassesOwn.never (xt_cmp (vt_gt (xe_v (ve_name (i := 1) rfl (vis_by (sc := (defScope (topS 9))) (by decide +kernel)))) (xe_c ve_int)) pGt_ok) (xss_one (xs_par2 (vs_parB (i := 0) (j := 1) rfl nd rfl rfl (by decide) (lcl_by (sc := (defScope (topS 9))) (by decide +kernel)) (lcl_by (sc := (defScope (topS 9))) (by decide +kernel)) (xb_cons (xe_v (ve_name (i := 1) rfl (vis_by (sc := (defScope (topS 9))) (by decide +kernel)))) (xb_cons (xe_bin (ve_mod (xe_v (ve_name (i := 0) rfl (vis_by (sc := (defScope (topS 9))) (by decide +kernel)))) (xe_v (ve_name (i := 1) rfl (vis_by (sc := (defScope (topS 9))) (by decide +kernel))))) pMod_ok) xb_nil)) (by rfl)))))) (xss_one (xs_retN (vs_retN (i := 0) rfl (vis_by (sc := (defScope (topS 9))) (by decide +kernel)))))))
theorem sc_raw_turn : FnScope ["one", "other"] ["one", "other"] (defScope (topS 10)) := ⟨rfl, rfl, rfl, by decide +kernel, rfl, by decide +kernel, by decide +kernel⟩
theorem d_raw_turn (T : Facts mg) (hk : 0 ≤ k) (hr : RoomG k (A.deeper (envOfC "raw_turn" (defScope (topS 10)) s.heap.objs.size f cdv))) : XSs (cxOf CX0 P w K mg base ["one", "other"] "raw_turn" (defScope (topS 10)) f cdv A outer s H E0).nox (defBody (topS 10)) (mRet (mB pSub (mB pMul (mB pIx (mV 0) (mC (.int 0))) (mB pIx (mV 1) (mC (.int 1)))) (mB pMul (mB pIx (mV 0) (mC (.int 1))) (mB pIx (mV 1) (mC (.int 0)))))) :=
  have nd : (["one", "other"] : List Str).Nodup := sc_raw_turn.nd
  (xss_one (xs_ret (xe_bin (ve_sub (xe_bin (ve_mul (xe_bin (ve_ix (xe_v (ve_name (i := 0) rfl (vis_by (sc := (defScope (topS 10))) (by decide +kernel)))) (xe_c ve_int)) pIx_ok) (xe_bin (ve_ix (xe_v (ve_name (i := 1) rfl (vis_by (sc := (defScope (topS 10))) (by decide +kernel)))) (xe_c ve_int)) pIx_ok)) pMul_ok) (xe_bin (ve_mul (xe_bin (ve_ix (xe_v (ve_name (i := 0) rfl (vis_by (sc := (defScope (topS 10))) (by decide +kernel)))) (xe_c ve_int)) pIx_ok) (xe_bin (ve_ix (xe_v (ve_name (i := 1) rfl (vis_by (sc := (defScope (topS 10))) (by decide +kernel)))) (xe_c ve_int)) pIx_ok)) pMul_ok)) pSub_ok)))
theorem sc_are_dots : FnScope ["thing", "one"] ["thing"] (defScope (topS 13)) := ⟨rfl, rfl, rfl, by decide +kernel, rfl, by decide +kernel, by decide +kernel⟩
theorem d_are_dots (T : Facts mg) (C_is_dot : Cal P w K mg base "is_dot" 1 3 (VX.SM VR.c_is_dot)) (hk : 3 ≤ k) (hr : RoomG k (A.deeper (envOfC "are_dots" (defScope (topS 13)) s.heap.objs.size f cdv))) : XSs (cxOf CX0 P w K mg base ["thing", "one"] "are_dots" (defScope (topS 13)) f cdv A outer s H E0).nox (defBody (topS 13)) (mRet (mAndV (mCall bIsi (mCons (mV 0) (mCons (mC (.ty "tuple")) mNil))) (mAndV (mChain pLe pLe (mC (.int 1)) (mCall bLen (mCons (mV 0) mNil)) (mC (.int 40))) (mCall bAll (mCons (mComp (iSeq (mV 0)) (tgN 1) mYes (mCallN 1 VR.c_is_dot (mCons (mV 1) mNil)) [1]) mNil))))) :=
  have nd : (["thing", "one"] : List Str).Nodup := sc_are_dots.nd
  (xss_one (xs_ret (xe_and (xe_b (ve_callB call_isi ser_isi (gl_by (defScope (topS 13))) T.m_isinstance boot_isinstance (xa_cons (xe_v (ve_name (i := 0) rfl (vis_by (sc := (defScope (topS 13))) (by decide +kernel)))) (xa_cons (xe_c (ve_gty (gl_by (defScope (topS 13))) T.m_tuple boot_tuple)) xa_nil))) bIsi_ok) (xe_and (xe_chain (ve_chain op_le op_le ser_cmpI ser_cmpI (xe_c ve_int) (xe_b (ve_callB call_lenA ser_len (gl_by (defScope (topS 13))) T.m_len boot_len (xa_cons (xe_v (ve_name (i := 0) rfl (vis_by (sc := (defScope (topS 13))) (by decide +kernel)))) xa_nil)) bLen_ok) (xe_c (ve_gint (gl_by (defScope (topS 13))) T.c_MOST_DOTS))) pLe_ok pLe_ok) (xe_one (xe_b (ve_callB (cr_all rfl) ser_all (gl_by (defScope (topS 13))) T.m_all boot_all (xa_cons (xe_comp (ve_comp (own := [("one", 1)]) rfl nd (xi_seq (xe_v (ve_name (i := 0) rfl (vis_by (sc := (defScope (topS 13))) (by decide +kernel))))) (blkOk_by (N := ["thing", "one"]) (sc := (defScope (topS 13))) (by decide +kernel)) (fun _ _ _ _ _ => (xg_name (vg_name (i := 1) nd rfl (by first | exact loc_by (sc := (relS _ (defScope (topS 13)))) (by decide +kernel)) (hf := .inr (lcl_by (sc := (relS _ (defScope (topS 13)))) (by decide +kernel)))))) (fun _ _ _ _ _ => xts_nil) (fun _ _ _ _ _ => (xe_f (ve_call C_is_dot (hr.mono (by first | omega | exact Nat.le_refl _)) (gl_by (relS _ (defScope (topS 13)))) (xa_cons (xe_v (ve_name (i := 1) rfl (by first | exact vis_by (sc := (relS _ (defScope (topS 13)))) (by decide +kernel)))) xa_nil)))) (by decide))) xa_nil)) bAll_ok))))))
theorem sc_less : FnScope ["one", "other"] ["one", "other"] (defScope (topS 14)) := ⟨rfl, rfl, rfl, by decide +kernel, rfl, by decide +kernel, by decide +kernel⟩
theorem d_less (T : Facts mg) (hk : 0 ≤ k) (hr : RoomG k (A.deeper (envOfC "less" (defScope (topS 14)) s.heap.objs.size f cdv))) : XSs (cxOf CX0 P w K mg base ["one", "other"] "less" (defScope (topS 14)) f cdv A outer s H E0).nox (defBody (topS 14)) (mRet (mTup (mCons (mB pSub (mB pIx (mV 0) (mC (.int 0))) (mB pIx (mV 1) (mC (.int 0)))) (mCons (mB pSub (mB pIx (mV 0) (mC (.int 1))) (mB pIx (mV 1) (mC (.int 1)))) mNil)))) :=
  have nd : (["one", "other"] : List Str).Nodup := sc_less.nd
  (xss_one (xs_ret (xe_tup (xa_cons (xe_bin (ve_sub (xe_bin (ve_ix (xe_v (ve_name (i := 0) rfl (vis_by (sc := (defScope (topS 14))) (by decide +kernel)))) (xe_c ve_int)) pIx_ok) (xe_bin (ve_ix (xe_v (ve_name (i := 1) rfl (vis_by (sc := (defScope (topS 14))) (by decide +kernel)))) (xe_c ve_int)) pIx_ok)) pSub_ok) (xa_cons (xe_bin (ve_sub (xe_bin (ve_ix (xe_v (ve_name (i := 0) rfl (vis_by (sc := (defScope (topS 14))) (by decide +kernel)))) (xe_c ve_int)) pIx_ok) (xe_bin (ve_ix (xe_v (ve_name (i := 1) rfl (vis_by (sc := (defScope (topS 14))) (by decide +kernel)))) (xe_c ve_int)) pIx_ok)) pSub_ok) xa_nil)))))
theorem sc_chain_by : FnScope ["dots", "found", "dot"] ["dots"] (defScope (topS 15)) := ⟨rfl, rfl, rfl, by decide +kernel, rfl, by decide +kernel, by decide +kernel⟩
theorem d_chain_by (T : Facts mg) (C_less : Cal P w K mg base "less" 2 1 (VX.SM VP.c_less)) (C_raw_turn : Cal P w K mg base "raw_turn" 2 1 (VX.SM VR.c_raw_turn)) (hk : 1 ≤ k) (hr : RoomG k (A.deeper (envOfC "chain_by" (defScope (topS 15)) s.heap.objs.size f cdv))) : XSs (cxOf CX0 P w K mg base ["dots", "found", "dot"] "chain_by" (defScope (topS 15)) f cdv A outer s H E0).nox (defBody (topS 15)) (mSeq (mSet 1 (mLst mNil)) (mSeq (mFor (iSeq (mV 0)) (tgN 2) (mSeq (mWhile (mAndT (mTst (mB pGt (mLenN 1) (mC (.int 1)))) (mTst (mB pLe (mCallN 2 VR.c_raw_turn (mCons (mCallN 2 VP.c_less (mCons (mIxN 1 (mU pNeg (mC (.int 1)))) (mCons (mIxN 1 (mU pNeg (mC (.int 2)))) mNil))) (mCons (mCallN 2 VP.c_less (mCons (mV 2) (mCons (mIxN 1 (mU pNeg (mC (.int 2)))) mNil))) mNil))) (mC (.int 0))))) (mDrop (mPopL 1))) (mAppend 1 (mV 2)))) (mRetN 1))) :=
  have nd : (["dots", "found", "dot"] : List Str).Nodup := sc_chain_by.nd
  (xss_cons (xs_set (vs_set (i := 1) nd rfl (loc_by (sc := (defScope (topS 15))) (by decide +kernel)) (xe_lst xa_nil))) (xss_cons (xs_for (vs_for PassesOwn.never rfl (xi_seq (xe_v (ve_name (i := 0) rfl (vis_by (sc := (defScope (topS 15))) (by decide +kernel))))) (xg_name (vg_name (i := 2) nd rfl (loc_by (sc := (defScope (topS 15))) (by decide +kernel)) (hf := .inl rfl))) (xss_cons (xs_while (vs_while PassesOwn.never (xt_bool (xw_and (xt_cmp (vt_gt (xe_lenN (ve_lenN (i := 1) rfl (vis_by (sc := (defScope (topS 15))) (by decide +kernel)) (gl_by (defScope (topS 15))) T.m_len)) (xe_c ve_int)) pGt_ok) (xw_and1 (xt_cmp (vt_le (xe_f (ve_call C_raw_turn (hr.mono (by first | omega | exact Nat.le_refl _)) (gl_by (defScope (topS 15))) (xa_cons (xe_f (ve_call C_less (hr.mono (by first | omega | exact Nat.le_refl _)) (gl_by (defScope (topS 15))) (xa_cons (xe_ixN (ve_ixN (i := 1) rfl (vis_by (sc := (defScope (topS 15))) (by decide +kernel)) (xe_un (ve_neg (xe_c ve_int)) pNeg_ok))) (xa_cons (xe_ixN (ve_ixN (i := 1) rfl (vis_by (sc := (defScope (topS 15))) (by decide +kernel)) (xe_un (ve_neg (xe_c ve_int)) pNeg_ok))) xa_nil)))) (xa_cons (xe_f (ve_call C_less (hr.mono (by first | omega | exact Nat.le_refl _)) (gl_by (defScope (topS 15))) (xa_cons (xe_v (ve_name (i := 2) rfl (vis_by (sc := (defScope (topS 15))) (by decide +kernel)))) (xa_cons (xe_ixN (ve_ixN (i := 1) rfl (vis_by (sc := (defScope (topS 15))) (by decide +kernel)) (xe_un (ve_neg (xe_c ve_int)) pNeg_ok))) xa_nil)))) xa_nil)))) (xe_c ve_int)) pLe_ok)))) (xss_one (xs_expr (vs_expr (xe_popL (ve_popL (i := 1) rfl (vis_by (sc := (defScope (topS 15))) (by decide +kernel)) (pe_bm0 PySem.F.plainAttrs_list PySem.F.slot_list_pop PySem.F.type_list_pop mt_pop (pe_var (i := 1) rfl (vis_by (sc := (defScope (topS 15))) (by decide +kernel))))))))))) (xss_one (xs_append (vs_append (i := 1) rfl (vis_by (sc := (defScope (topS 15))) (by decide +kernel)) (xe_v (ve_name (i := 2) rfl (vis_by (sc := (defScope (topS 15))) (by decide +kernel)))) (pe_bm PySem.F.plainAttrs_list PySem.F.slot_list_append PySem.F.type_list_append mt_append (pe_var (i := 1) rfl (vis_by (sc := (defScope (topS 15))) (by decide +kernel))) (pa_cons (xe_v (ve_name (i := 2) rfl (vis_by (sc := (defScope (topS 15))) (by decide +kernel)))) pa_nil)))))))) (xss_one (xs_retN (vs_retN (i := 1) rfl (vis_by (sc := (defScope (topS 15))) (by decide +kernel)))))))
theorem sc_raw_hull : FnScope ["dots", "some", "dot"] ["dots"] (defScope (topS 16)) := ⟨rfl, rfl, rfl, by decide +kernel, rfl, by decide +kernel, by decide +kernel⟩
theorem d_raw_hull (T : Facts mg) (C_chain_by : Cal P w K mg base "chain_by" 1 2 (VX.SM VP.c_chain_by)) (hk : 2 ≤ k) (hr : RoomG k (A.deeper (envOfC "raw_hull" (defScope (topS 16)) s.heap.objs.size f cdv))) : XSs (cxOf CX0 P w K mg base ["dots", "some", "dot"] "raw_hull" (defScope (topS 16)) f cdv A outer s H E0).nox (defBody (topS 16)) (mSeq (mSet 1 (mCall bSortedD (mCons (mV 0) mNil))) (mSeq (mIfS (mTst (mB pLt (mCall bLen (mCons (mV 1) mNil)) (mC (.int 2)))) (mRet (mCall bTuple (mCons (mV 1) mNil))) mNext) (mRet (mCall bTuple (mCons (mB pAdd (mSl (mCallN 1 VP.c_chain_by (mCons (mV 1) mNil)) mNoPart (mPart (mU pNeg (mC (.int 1))))) (mSl (mCallN 1 VP.c_chain_by (mCons (mU pBack (mV 1)) mNil)) mNoPart (mPart (mU pNeg (mC (.int 1)))))) mNil))))) :=
  have nd : (["dots", "some", "dot"] : List Str).Nodup := sc_raw_hull.nd
  (xss_cons (xs_set (vs_set (i := 1) nd rfl (loc_by (sc := (defScope (topS 16))) (by decide +kernel)) (xe_sortedD (ve_sortedDc hr rfl (gl_by (defScope (topS 16))) T.m_sorted (by decide) (blkOk_by (own := [("dot", 2)]) (N := ["dots", "some", "dot"]) (sc := (defScope (topS 16))) (by decide +kernel)) (by decide) rfl (xe_v (ve_name (i := 0) rfl (vis_by (sc := (defScope (topS 16))) (by decide +kernel)))))))) (xss_cons (xs_if (xt_cmp (vt_lt (xe_b (ve_callB call_lenA ser_len (gl_by (defScope (topS 16))) T.m_len boot_len (xa_cons (xe_v (ve_name (i := 1) rfl (vis_by (sc := (defScope (topS 16))) (by decide +kernel)))) xa_nil)) bLen_ok) (xe_c ve_int)) pLt_ok) (xss_one (xs_ret (xe_b (ve_callTy call_tuple_of ser_tuple (gl_by (defScope (topS 16))) T.m_tuple boot_tuple (xa_cons (xe_v (ve_name (i := 1) rfl (vis_by (sc := (defScope (topS 16))) (by decide +kernel)))) xa_nil)) bTuple_ok))) xss_nil) (xss_one (xs_ret (xe_b (ve_callTy call_tuple_of ser_tuple (gl_by (defScope (topS 16))) T.m_tuple boot_tuple (xa_cons (xe_bin (ve_add (xe_slice (xe_f (ve_call C_chain_by (hr.mono (by first | omega | exact Nat.le_refl _)) (gl_by (defScope (topS 16))) (xa_cons (xe_v (ve_name (i := 1) rfl (vis_by (sc := (defScope (topS 16))) (by decide +kernel)))) xa_nil))) xo_none (xo_some (xe_un (ve_neg (xe_c ve_int)) pNeg_ok))) (xe_slice (xe_f (ve_call C_chain_by (hr.mono (by first | omega | exact Nat.le_refl _)) (gl_by (defScope (topS 16))) (xa_cons (xe_un (ve_back (xe_v (ve_name (i := 1) rfl (vis_by (sc := (defScope (topS 16))) (by decide +kernel))))) pBack_ok) xa_nil))) xo_none (xo_some (xe_un (ve_neg (xe_c ve_int)) pNeg_ok)))) pAdd_ok) xa_nil)) bTuple_ok)))))
theorem sc_is_polygon : FnScope ["thing"] ["thing"] (defScope (topS 17)) := ⟨rfl, rfl, rfl, by decide +kernel, rfl, by decide +kernel, by decide +kernel⟩
theorem d_is_polygon (T : Facts mg) (C_are_dots : Cal P w K mg base "are_dots" 1 4 (VX.SM VP.c_are_dots)) (C_raw_hull : Cal P w K mg base "raw_hull" 1 3 (VX.SM VP.c_raw_hull)) (hk : 4 ≤ k) (hr : RoomG k (A.deeper (envOfC "is_polygon" (defScope (topS 17)) s.heap.objs.size f cdv))) : XSs (cxOf CX0 P w K mg base ["thing"] "is_polygon" (defScope (topS 17)) f cdv A outer s H E0).nox (defBody (topS 17)) (mRet (mAndV (mCallN 1 VP.c_are_dots (mCons (mV 0) mNil)) (mAndV (mB pGt (mCall bLen (mCons (mV 0) mNil)) (mC (.int 2))) (mB pEq (mCallN 1 VP.c_raw_hull (mCons (mV 0) mNil)) (mV 0))))) :=
  have nd : (["thing"] : List Str).Nodup := sc_is_polygon.nd
  (xss_one (xs_ret (xe_and (xe_f (ve_call C_are_dots (hr.mono (by first | omega | exact Nat.le_refl _)) (gl_by (defScope (topS 17))) (xa_cons (xe_v (ve_name (i := 0) rfl (vis_by (sc := (defScope (topS 17))) (by decide +kernel)))) xa_nil))) (xe_and (xe_bin (ve_gt (xe_b (ve_callB call_lenA ser_len (gl_by (defScope (topS 17))) T.m_len boot_len (xa_cons (xe_v (ve_name (i := 0) rfl (vis_by (sc := (defScope (topS 17))) (by decide +kernel)))) xa_nil)) bLen_ok) (xe_c ve_int)) pGt_ok) (xe_one (xe_bin (ve_eq (hu64 hr) (xe_f (ve_call C_raw_hull (hr.mono (by first | omega | exact Nat.le_refl _)) (gl_by (defScope (topS 17))) (xa_cons (xe_v (ve_name (i := 0) rfl (vis_by (sc := (defScope (topS 17))) (by decide +kernel)))) xa_nil))) (xe_v (ve_name (i := 0) rfl (vis_by (sc := (defScope (topS 17))) (by decide +kernel))))) pEq_ok))))))
theorem sc_check_polygon : FnScope ["thing"] ["thing"] (defScope (topS 18)) := ⟨rfl, rfl, rfl, by decide +kernel, rfl, by decide +kernel, by decide +kernel⟩
theorem d_check_polygon (T : Facts mg) (C_is_polygon : Cal P w K mg base "is_polygon" 1 5 (VX.SM VP.c_is_polygon)) (hk : 5 ≤ k) (hr : RoomG k (A.deeper (envOfC "check_polygon" (defScope (topS 18)) s.heap.objs.size f cdv))) : XSs (cxOf CX0 P w K mg base ["thing"] "check_polygon" (defScope (topS 18)) f cdv A outer s H E0).nox (defBody (topS 18)) (mIfS (mNotT (mTst (mCallN 1 VP.c_is_polygon (mCons (mV 0) mNil)))) mNever mNext) :=
  have nd : (["thing"] : List Str).Nodup := sc_check_polygon.nd
  (xss_one (xs_if (xt_not (xt_of (vt_val (xe_f (ve_call C_is_polygon (hr.mono (by first | omega | exact Nat.le_refl _)) (gl_by (defScope (topS 18))) (xa_cons (xe_v (ve_name (i := 0) rfl (vis_by (sc := (defScope (topS 18))) (by decide +kernel)))) xa_nil)))))) (xss_one xs_never) xss_nil))
theorem sc_sides_of : FnScope ["polygon", "at", "corner"] ["polygon"] (defScope (topS 19)) := ⟨rfl, rfl, rfl, by decide +kernel, rfl, by decide +kernel, by decide +kernel⟩
theorem d_sides_of (T : Facts mg) (C_less : Cal P w K mg base "less" 2 1 (VX.SM VP.c_less)) (hk : 1 ≤ k) (hr : RoomG k (A.deeper (envOfC "sides_of" (defScope (topS 19)) s.heap.objs.size f cdv))) : XSs (cxOf CX0 P w K mg base ["polygon", "at", "corner"] "sides_of" (defScope (topS 19)) f cdv A outer s H E0).nox (defBody (topS 19)) (mRet (mComp (iArg enumA (mCons (mV 0) mNil)) (tgT 2 (tgC (tgN 1) (tgC (tgN 2) tgZ))) mYes (mCallN 2 VP.c_less (mCons (mB pIx (mV 0) (mB pMod (mB pAdd (mV 1) (mC (.int 1))) (mCall bLen (mCons (mV 0) mNil)))) (mCons (mV 2) mNil))) [1, 2])) :=
  have nd : (["polygon", "at", "corner"] : List Str).Nodup := sc_sides_of.nd
  (xss_one (xs_ret (xe_comp (ve_comp (own := [("at", 1), ("corner", 2)]) rfl nd (xi_enumA (vi_enumA (xa_cons (xe_v (ve_name (i := 0) rfl (vis_by (sc := (defScope (topS 19))) (by decide +kernel)))) xa_nil) (pi_enumA (gl_by (defScope (topS 19))) T.m_enumerate (xa_cons (xe_v (ve_name (i := 0) rfl (vis_by (sc := (defScope (topS 19))) (by decide +kernel)))) xa_nil)))) (blkOk_by (N := ["polygon", "at", "corner"]) (sc := (defScope (topS 19))) (by decide +kernel)) (fun _ _ _ _ _ => (xg_tup rfl (xgs_cons (xg_name (vg_name (i := 1) nd rfl (by first | exact loc_by (sc := (relS _ (defScope (topS 19)))) (by decide +kernel)) (hf := .inr (lcl_by (sc := (relS _ (defScope (topS 19)))) (by decide +kernel))))) (xgs_cons (xg_name (vg_name (i := 2) nd rfl (by first | exact loc_by (sc := (relS _ (defScope (topS 19)))) (by decide +kernel)) (hf := .inr (lcl_by (sc := (relS _ (defScope (topS 19)))) (by decide +kernel))))) xgs_nil)))) (fun _ _ _ _ _ => xts_nil) (fun _ _ _ _ _ => (xe_f (ve_call C_less (hr.mono (by first | omega | exact Nat.le_refl _)) (gl_by (relS _ (defScope (topS 19)))) (xa_cons (xe_bin (ve_ix (xe_v (ve_name (i := 0) rfl (by first | exact vis_by (sc := (relS _ (defScope (topS 19)))) (by decide +kernel)))) (xe_bin (ve_mod (xe_bin (ve_add (xe_v (ve_name (i := 1) rfl (by first | exact vis_by (sc := (relS _ (defScope (topS 19)))) (by decide +kernel)))) (xe_c ve_int)) pAdd_ok) (xe_b (ve_callB call_lenA ser_len (gl_by (relS _ (defScope (topS 19)))) T.m_len boot_len (xa_cons (xe_v (ve_name (i := 0) rfl (by first | exact vis_by (sc := (relS _ (defScope (topS 19)))) (by decide +kernel)))) xa_nil)) bLen_ok)) pMod_ok)) pIx_ok) (xa_cons (xe_v (ve_name (i := 2) rfl (by first | exact vis_by (sc := (relS _ (defScope (topS 19)))) (by decide +kernel)))) xa_nil))))) (by decide)))))
theorem sc_raw_double : FnScope ["polygon", "at", "corner"] ["polygon"] (defScope (topS 20)) := ⟨rfl, rfl, rfl, by decide +kernel, rfl, by decide +kernel, by decide +kernel⟩
theorem d_raw_double (T : Facts mg) (C_raw_turn : Cal P w K mg base "raw_turn" 2 1 (VX.SM VR.c_raw_turn)) (hk : 1 ≤ k) (hr : RoomG k (A.deeper (envOfC "raw_double" (defScope (topS 20)) s.heap.objs.size f cdv))) : XSs (cxOf CX0 P w K mg base ["polygon", "at", "corner"] "raw_double" (defScope (topS 20)) f cdv A outer s H E0).nox (defBody (topS 20)) (mRet (mCall bSum (mCons (mComp (iArg enumA (mCons (mV 0) mNil)) (tgT 2 (tgC (tgN 1) (tgC (tgN 2) tgZ))) mYes (mCallN 2 VR.c_raw_turn (mCons (mV 2) (mCons (mB pIx (mV 0) (mB pMod (mB pAdd (mV 1) (mC (.int 1))) (mCall bLen (mCons (mV 0) mNil)))) mNil))) [1, 2]) mNil))) :=
  have nd : (["polygon", "at", "corner"] : List Str).Nodup := sc_raw_double.nd
  (xss_one (xs_ret (xe_b (ve_callB (cr_sum rfl) ser_sum (gl_by (defScope (topS 20))) T.m_sum boot_sum (xa_cons (xe_comp (ve_comp (own := [("at", 1), ("corner", 2)]) rfl nd (xi_enumA (vi_enumA (xa_cons (xe_v (ve_name (i := 0) rfl (vis_by (sc := (defScope (topS 20))) (by decide +kernel)))) xa_nil) (pi_enumA (gl_by (defScope (topS 20))) T.m_enumerate (xa_cons (xe_v (ve_name (i := 0) rfl (vis_by (sc := (defScope (topS 20))) (by decide +kernel)))) xa_nil)))) (blkOk_by (N := ["polygon", "at", "corner"]) (sc := (defScope (topS 20))) (by decide +kernel)) (fun _ _ _ _ _ => (xg_tup rfl (xgs_cons (xg_name (vg_name (i := 1) nd rfl (by first | exact loc_by (sc := (relS _ (defScope (topS 20)))) (by decide +kernel)) (hf := .inr (lcl_by (sc := (relS _ (defScope (topS 20)))) (by decide +kernel))))) (xgs_cons (xg_name (vg_name (i := 2) nd rfl (by first | exact loc_by (sc := (relS _ (defScope (topS 20)))) (by decide +kernel)) (hf := .inr (lcl_by (sc := (relS _ (defScope (topS 20)))) (by decide +kernel))))) xgs_nil)))) (fun _ _ _ _ _ => xts_nil) (fun _ _ _ _ _ => (xe_f (ve_call C_raw_turn (hr.mono (by first | omega | exact Nat.le_refl _)) (gl_by (relS _ (defScope (topS 20)))) (xa_cons (xe_v (ve_name (i := 2) rfl (by first | exact vis_by (sc := (relS _ (defScope (topS 20)))) (by decide +kernel)))) (xa_cons (xe_bin (ve_ix (xe_v (ve_name (i := 0) rfl (by first | exact vis_by (sc := (relS _ (defScope (topS 20)))) (by decide +kernel)))) (xe_bin (ve_mod (xe_bin (ve_add (xe_v (ve_name (i := 1) rfl (by first | exact vis_by (sc := (relS _ (defScope (topS 20)))) (by decide +kernel)))) (xe_c ve_int)) pAdd_ok) (xe_b (ve_callB call_lenA ser_len (gl_by (relS _ (defScope (topS 20)))) T.m_len boot_len (xa_cons (xe_v (ve_name (i := 0) rfl (by first | exact vis_by (sc := (relS _ (defScope (topS 20)))) (by decide +kernel)))) xa_nil)) bLen_ok)) pMod_ok)) pIx_ok) xa_nil))))) (by decide))) xa_nil)) bSum_ok)))
theorem sc_raw_border : FnScope ["polygon", "side"] ["polygon"] (defScope (topS 21)) := ⟨rfl, rfl, rfl, by decide +kernel, rfl, by decide +kernel, by decide +kernel⟩
theorem d_raw_border (T : Facts mg) (C_common_divisor : Cal P w K mg base "common_divisor" 2 1 (VX.SM VR.c_common_divisor)) (C_sides_of : Cal P w K mg base "sides_of" 1 2 (VX.SM VP.c_sides_of)) (hk : 2 ≤ k) (hr : RoomG k (A.deeper (envOfC "raw_border" (defScope (topS 21)) s.heap.objs.size f cdv))) : XSs (cxOf CX0 P w K mg base ["polygon", "side"] "raw_border" (defScope (topS 21)) f cdv A outer s H E0).nox (defBody (topS 21)) (mRet (mCall bSum (mCons (mComp (iSeq (mCallN 1 VP.c_sides_of (mCons (mV 0) mNil))) (tgN 1) mYes (mCallN 2 VR.c_common_divisor (mCons (mB pIx (mV 1) (mC (.int 0))) (mCons (mB pIx (mV 1) (mC (.int 1))) mNil))) [1]) mNil))) :=
  have nd : (["polygon", "side"] : List Str).Nodup := sc_raw_border.nd
  (xss_one (xs_ret (xe_b (ve_callB (cr_sum rfl) ser_sum (gl_by (defScope (topS 21))) T.m_sum boot_sum (xa_cons (xe_comp (ve_comp (own := [("side", 1)]) rfl nd (xi_seq (xe_f (ve_call C_sides_of (hr.mono (by first | omega | exact Nat.le_refl _)) (gl_by (defScope (topS 21))) (xa_cons (xe_v (ve_name (i := 0) rfl (vis_by (sc := (defScope (topS 21))) (by decide +kernel)))) xa_nil)))) (blkOk_by (N := ["polygon", "side"]) (sc := (defScope (topS 21))) (by decide +kernel)) (fun _ _ _ _ _ => (xg_name (vg_name (i := 1) nd rfl (by first | exact loc_by (sc := (relS _ (defScope (topS 21)))) (by decide +kernel)) (hf := .inr (lcl_by (sc := (relS _ (defScope (topS 21)))) (by decide +kernel)))))) (fun _ _ _ _ _ => xts_nil) (fun _ _ _ _ _ => (xe_f (ve_call C_common_divisor (hr.mono (by first | omega | exact Nat.le_refl _)) (gl_by (relS _ (defScope (topS 21)))) (xa_cons (xe_bin (ve_ix (xe_v (ve_name (i := 1) rfl (by first | exact vis_by (sc := (relS _ (defScope (topS 21)))) (by decide +kernel)))) (xe_c ve_int)) pIx_ok) (xa_cons (xe_bin (ve_ix (xe_v (ve_name (i := 1) rfl (by first | exact vis_by (sc := (relS _ (defScope (topS 21)))) (by decide +kernel)))) (xe_c ve_int)) pIx_ok) xa_nil))))) (by decide))) xa_nil)) bSum_ok)))
theorem sc_check_times : FnScope ["polygon", "times", "most"] ["polygon", "times", "most"] (defScope (topS 24)) := ⟨rfl, rfl, rfl, by decide +kernel, rfl, by decide +kernel, by decide +kernel⟩
theorem d_check_times (T : Facts mg) (C_check_polygon : Cal P w K mg base "check_polygon" 1 6 (VX.SM VP.c_check_polygon)) (C_is_within : Cal P w K mg base "is_within" 3 2 (VX.SM VR.c_is_within)) (hk : 6 ≤ k) (hr : RoomG k (A.deeper (envOfC "check_times" (defScope (topS 24)) s.heap.objs.size f cdv))) : XSs (cxOf CX0 P w K mg base ["polygon", "times", "most"] "check_times" (defScope (topS 24)) f cdv A outer s H E0).nox (defBody (topS 24)) (mSeq (mDrop (mCallN 1 VP.c_check_polygon (mCons (mV 0) mNil))) (mIfS (mNotT (mTst (mCallN 3 VR.c_is_within (mCons (mV 1) (mCons (mC (.int 1)) (mCons (mV 2) mNil)))))) mNever mNext)) :=
  have nd : (["polygon", "times", "most"] : List Str).Nodup := sc_check_times.nd
  (xss_cons (xs_expr (vs_expr (xe_f (ve_call C_check_polygon (hr.mono (by first | omega | exact Nat.le_refl _)) (gl_by (defScope (topS 24))) (xa_cons (xe_v (ve_name (i := 0) rfl (vis_by (sc := (defScope (topS 24))) (by decide +kernel)))) xa_nil))))) (xss_one (xs_if (xt_not (xt_of (vt_val (xe_f (ve_call C_is_within (hr.mono (by first | omega | exact Nat.le_refl _)) (gl_by (defScope (topS 24))) (xa_cons (xe_v (ve_name (i := 1) rfl (vis_by (sc := (defScope (topS 24))) (by decide +kernel)))) (xa_cons (xe_c ve_int) (xa_cons (xe_v (ve_name (i := 2) rfl (vis_by (sc := (defScope (topS 24))) (by decide +kernel)))) xa_nil)))))))) (xss_one xs_never) xss_nil)))
theorem sc_dots_by : FnScope ["area", "border", "times"] ["area", "border", "times"] (defScope (topS 25)) := ⟨rfl, rfl, rfl, by decide +kernel, rfl, by decide +kernel, by decide +kernel⟩
theorem d_dots_by (T : Facts mg) (hk : 0 ≤ k) (hr : RoomG k (A.deeper (envOfC "dots_by" (defScope (topS 25)) s.heap.objs.size f cdv))) : XSs (cxOf CX0 P w K mg base ["area", "border", "times"] "dots_by" (defScope (topS 25)) f cdv A outer s H E0).nox (defBody (topS 25)) (mRet (mB pAdd (mB pFdiv (mB pAdd (mB pMul (mB pMul (mV 0) (mV 2)) (mV 2)) (mB pMul (mV 1) (mV 2))) (mC (.int 2))) (mC (.int 1)))) :=
  have nd : (["area", "border", "times"] : List Str).Nodup := sc_dots_by.nd
  (xss_one (xs_ret (xe_bin (ve_add (xe_bin (ve_fdiv (xe_bin (ve_add (xe_bin (ve_mul (xe_bin (ve_mul (xe_v (ve_name (i := 0) rfl (vis_by (sc := (defScope (topS 25))) (by decide +kernel)))) (xe_v (ve_name (i := 2) rfl (vis_by (sc := (defScope (topS 25))) (by decide +kernel))))) pMul_ok) (xe_v (ve_name (i := 2) rfl (vis_by (sc := (defScope (topS 25))) (by decide +kernel))))) pMul_ok) (xe_bin (ve_mul (xe_v (ve_name (i := 1) rfl (vis_by (sc := (defScope (topS 25))) (by decide +kernel)))) (xe_v (ve_name (i := 2) rfl (vis_by (sc := (defScope (topS 25))) (by decide +kernel))))) pMul_ok)) pAdd_ok) (xe_c ve_int)) pFdiv_ok) (xe_c ve_int)) pAdd_ok)))
theorem sc_dots_in : FnScope ["polygon", "times"] ["polygon", "times"] (defScope (topS 26)) := ⟨rfl, rfl, rfl, by decide +kernel, rfl, by decide +kernel, by decide +kernel⟩
theorem d_dots_in (T : Facts mg) (C_check_times : Cal P w K mg base "check_times" 3 7 (VX.SM VP.c_check_times)) (C_dots_by : Cal P w K mg base "dots_by" 3 1 (VX.SM VP.c_dots_by)) (C_raw_border : Cal P w K mg base "raw_border" 1 3 (VX.SM VP.c_raw_border)) (C_raw_double : Cal P w K mg base "raw_double" 1 2 (VX.SM VP.c_raw_double)) (hk : 7 ≤ k) (hr : RoomG k (A.deeper (envOfC "dots_in" (defScope (topS 26)) s.heap.objs.size f cdv))) : XSs (cxOf CX0 P w K mg base ["polygon", "times"] "dots_in" (defScope (topS 26)) f cdv A outer s H E0).nox (defBody (topS 26)) (mSeq (mDrop (mCallN 3 VP.c_check_times (mCons (mV 0) (mCons (mV 1) (mCons (mC (.int 1000000)) mNil))))) (mRet (mCallN 3 VP.c_dots_by (mCons (mCallN 1 VP.c_raw_double (mCons (mV 0) mNil)) (mCons (mCallN 1 VP.c_raw_border (mCons (mV 0) mNil)) (mCons (mV 1) mNil)))))) :=
  have nd : (["polygon", "times"] : List Str).Nodup := sc_dots_in.nd
  (xss_cons (xs_expr (vs_expr (xe_f (ve_call C_check_times (hr.mono (by first | omega | exact Nat.le_refl _)) (gl_by (defScope (topS 26))) (xa_cons (xe_v (ve_name (i := 0) rfl (vis_by (sc := (defScope (topS 26))) (by decide +kernel)))) (xa_cons (xe_v (ve_name (i := 1) rfl (vis_by (sc := (defScope (topS 26))) (by decide +kernel)))) (xa_cons (xe_c (ve_gint (gl_by (defScope (topS 26))) T.c_MOST_TIMES)) xa_nil))))))) (xss_one (xs_ret (xe_f (ve_call C_dots_by (hr.mono (by first | omega | exact Nat.le_refl _)) (gl_by (defScope (topS 26))) (xa_cons (xe_f (ve_call C_raw_double (hr.mono (by first | omega | exact Nat.le_refl _)) (gl_by (defScope (topS 26))) (xa_cons (xe_v (ve_name (i := 0) rfl (vis_by (sc := (defScope (topS 26))) (by decide +kernel)))) xa_nil))) (xa_cons (xe_f (ve_call C_raw_border (hr.mono (by first | omega | exact Nat.le_refl _)) (gl_by (defScope (topS 26))) (xa_cons (xe_v (ve_name (i := 0) rfl (vis_by (sc := (defScope (topS 26))) (by decide +kernel)))) xa_nil))) (xa_cons (xe_v (ve_name (i := 1) rfl (vis_by (sc := (defScope (topS 26))) (by decide +kernel)))) xa_nil))))))))
theorem sc_by_growth : FnScope ["first", "second", "number", "area", "border"] ["first", "second"] (defScope (topS 27)) := ⟨rfl, rfl, rfl, by decide +kernel, rfl, by decide +kernel, by decide +kernel⟩
theorem d_by_growth (T : Facts mg) (C_is_integer : Cal P w K mg base "is_integer" 1 1 (VX.SM VR.c_is_integer)) (hk : 1 ≤ k) (hr : RoomG k (A.deeper (envOfC "by_growth" (defScope (topS 27)) s.heap.objs.size f cdv))) : XSs (cxOf CX0 P w K mg base ["first", "second", "number", "area", "border"] "by_growth" (defScope (topS 27)) f cdv A outer s H E0).nox (defBody (topS 27)) (mSeq (mFor (iSeq (mTup (mCons (mV 0) (mCons (mV 1) mNil)))) (tgN 2) (mIfS (mOrT (mNotT (mTst (mCallN 1 VR.c_is_integer (mCons (mV 2) mNil)))) (mTst (mB pLt (mV 2) (mC (.int 0))))) mNever mNext)) (mSeq (mSet 3 (mB pAdd (mB pSub (mV 1) (mB pMul (mC (.int 2)) (mV 0))) (mC (.int 1)))) (mSeq (mSet 4 (mB pSub (mB pMul (mC (.int 2)) (mB pSub (mV 0) (mC (.int 1)))) (mV 3))) (mRet (mIfE (mAndT (mTst (mB pGt (mV 3) (mC (.int 0)))) (mTst (mB pGe (mV 4) (mC (.int 3))))) (mTup (mCons (mV 3) (mCons (mV 4) mNil))) (mC .non)))))) :=
  have nd : (["first", "second", "number", "area", "border"] : List Str).Nodup := sc_by_growth.nd
  (xss_cons (xs_for (vs_for PassesOwn.never rfl (xi_seq (xe_tup (xa_cons (xe_v (ve_name (i := 0) rfl (vis_by (sc := (defScope (topS 27))) (by decide +kernel)))) (xa_cons (xe_v (ve_name (i := 1) rfl (vis_by (sc := (defScope (topS 27))) (by decide +kernel)))) xa_nil)))) (xg_name (vg_name (i := 2) nd rfl (loc_by (sc := (defScope (topS 27))) (by decide +kernel)) (hf := .inl rfl))) (xss_one (xs_if (xt_bool (xw_or (xt_not (xt_of (vt_val (xe_f (ve_call C_is_integer (hr.mono (by first | omega | exact Nat.le_refl _)) (gl_by (defScope (topS 27))) (xa_cons (xe_v (ve_name (i := 2) rfl (vis_by (sc := (defScope (topS 27))) (by decide +kernel)))) xa_nil)))))) (xw_or1 (xt_cmp (vt_lt (xe_v (ve_name (i := 2) rfl (vis_by (sc := (defScope (topS 27))) (by decide +kernel)))) (xe_c ve_int)) pLt_ok)))) (xss_one xs_never) xss_nil)))) (xss_cons (xs_set (vs_set (i := 3) nd rfl (loc_by (sc := (defScope (topS 27))) (by decide +kernel)) (xe_bin (ve_add (xe_bin (ve_sub (xe_v (ve_name (i := 1) rfl (vis_by (sc := (defScope (topS 27))) (by decide +kernel)))) (xe_bin (ve_mul (xe_c ve_int) (xe_v (ve_name (i := 0) rfl (vis_by (sc := (defScope (topS 27))) (by decide +kernel))))) pMul_ok)) pSub_ok) (xe_c ve_int)) pAdd_ok))) (xss_cons (xs_set (vs_set (i := 4) nd rfl (loc_by (sc := (defScope (topS 27))) (by decide +kernel)) (xe_bin (ve_sub (xe_bin (ve_mul (xe_c ve_int) (xe_bin (ve_sub (xe_v (ve_name (i := 0) rfl (vis_by (sc := (defScope (topS 27))) (by decide +kernel)))) (xe_c ve_int)) pSub_ok)) pMul_ok) (xe_v (ve_name (i := 3) rfl (vis_by (sc := (defScope (topS 27))) (by decide +kernel))))) pSub_ok))) (xss_one (xs_ret (xe_ifexp (xt_bool (xw_and (xt_cmp (vt_gt (xe_v (ve_name (i := 3) rfl (vis_by (sc := (defScope (topS 27))) (by decide +kernel)))) (xe_c ve_int)) pGt_ok) (xw_and1 (xt_cmp (vt_ge (xe_v (ve_name (i := 4) rfl (vis_by (sc := (defScope (topS 27))) (by decide +kernel)))) (xe_c ve_int)) pGe_ok)))) (xe_tup (xa_cons (xe_v (ve_name (i := 3) rfl (vis_by (sc := (defScope (topS 27))) (by decide +kernel)))) (xa_cons (xe_v (ve_name (i := 4) rfl (vis_by (sc := (defScope (topS 27))) (by decide +kernel)))) xa_nil))) (xe_c ve_non)))))))
theorem sc__law_hand : FnScope ["script", "cells", "cell"] ["script"] (defScope (topS 29)) := ⟨rfl, rfl, rfl, by decide +kernel, rfl, by decide +kernel, by decide +kernel⟩
theorem d__law_hand (T : Facts mg) : PSs (cxOf CX0 P w K mg base ["script", "cells", "cell"] "_law_hand" (defScope (topS 29)) f cdv A outer s H E0).nox (defBody (topS 29)) (H2.t_hand K 1459 5) :=
  have nd : (["script", "cells", "cell"] : List Str).Nodup := sc__law_hand.nd
  (pss_cons (ps_setLc (i := 1) (own := [("cell", 2)]) (tt := tYes) rfl nd rfl (lcl_by (sc := (defScope (topS 29))) (by decide +kernel)) (sw_true rfl (lcl_by (sc := (defScope (topS 29))) (by decide +kernel)) rfl (by decide +kernel)) (pi_list (pe_slice sl_list (pe_var (i := 0) rfl (vis_by (sc := (defScope (topS 29))) (by decide +kernel))) po_none (po_some pe_int))) (blkOk_by (N := ["script", "cells", "cell"]) (sc := (defScope (topS 29))) (by decide +kernel)) (fun _ _ _ _ _ => (pg_name (i := 2) nd rfl (by first | exact loc_by (sc := (relS _ (defScope (topS 29)))) (by decide +kernel)) (hf := .inr (lcl_by (sc := (relS _ (defScope (topS 29)))) (by decide +kernel))))) (fun _ _ _ _ _ => pts_nil) (fun _ _ _ _ _ => (pe_op op_mod (pe_callTy call_int1 (gl_by (relS _ (defScope (topS 29)))) T.m_int boot_int (pa_cons (pe_callB call_abs (gl_by (relS _ (defScope (topS 29)))) T.m_abs boot_abs (pa_cons (pe_callTy call_int1 (gl_by (relS _ (defScope (topS 29)))) T.m_int boot_int (pa_cons (pe_var (i := 2) rfl (by first | exact vis_by (sc := (relS _ (defScope (topS 29)))) (by decide +kernel))) pa_nil)) pa_nil)) pa_nil)) (pe_op op_pow pe_int pe_int)))) (pss_one (ps_ret (pe_lst (pa_cons (pe_var (i := 1) rfl (vis_by (sc := (defScope (topS 29))) (by decide +kernel))) (pa_cons pe_int (pa_cons pe_int (pa_cons (pe_op op_add pe_int (pe_op op_mul pe_int (pe_callB call_len_seq (gl_by (defScope (topS 29))) T.m_len boot_len (pa_cons (pe_var (i := 1) rfl (vis_by (sc := (defScope (topS 29))) (by decide +kernel))) pa_nil)))) (pa_cons pe_int pa_nil)))))))))
theorem sc__law_draw : FnScope ["hand", "many", "cell", "digit", "number"] ["hand", "many"] (defScope (topS 30)) := ⟨rfl, rfl, rfl, by decide +kernel, rfl, by decide +kernel, by decide +kernel⟩
theorem d__law_draw (T : Facts mg) : PSs (cxOf CX0 P w K mg base ["hand", "many", "cell", "digit", "number"] "_law_draw" (defScope (topS 30)) f cdv A outer s H E0).nox (defBody (topS 30)) (F62.t_draw K) :=
  have nd : (["hand", "many", "cell", "digit", "number"] : List Str).Nodup := sc__law_draw.nd
  (pss_cons (ps_if (PW.pt (pw_and (pt_cmpR op_eq (pe_ix ix_list (pe_var (i := 0) rfl (vis_by (sc := (defScope (topS 30))) (by decide +kernel))) pe_int (fun _ _ => rfl)) pe_int (nomark _)) (pw_and1 (pt_cmpR op_lt (pe_ix ix_list (pe_var (i := 0) rfl (vis_by (sc := (defScope (topS 30))) (by decide +kernel))) pe_int (fun _ _ => rfl)) (pe_callB call_len_seq (gl_by (defScope (topS 30))) T.m_len boot_len (pa_cons (pe_ix ix_list (pe_var (i := 0) rfl (vis_by (sc := (defScope (topS 30))) (by decide +kernel))) pe_int (fun _ _ => rfl)) pa_nil)) (nomark _))))) (pss_cons (ps_set (i := 2) nd rfl (loc_by (sc := (defScope (topS 30))) (by decide +kernel)) (pe_ix ix_list (pe_ix ix_list (pe_var (i := 0) rfl (vis_by (sc := (defScope (topS 30))) (by decide +kernel))) pe_int (fun _ _ => rfl)) (pe_ix ix_list (pe_var (i := 0) rfl (vis_by (sc := (defScope (topS 30))) (by decide +kernel))) pe_int (fun _ _ => rfl)) (fun _ _ => rfl))) (pss_cons (ps_asg (pe_op op_add (pe_ix ix_list (pe_var (i := 0) rfl (vis_by (sc := (defScope (topS 30))) (by decide +kernel))) pe_int (fun _ _ => rfl)) pe_int) (pg_sub (pe_var (i := 0) rfl (vis_by (sc := (defScope (topS 30))) (by decide +kernel))) pe_int set_list)) (pss_cons (ps_asg (pe_op op_mod (pe_callTy call_int1 (gl_by (defScope (topS 30))) T.m_int boot_int (pa_cons (pe_op op_add (pe_op op_add (pe_op op_mul (pe_ix ix_list (pe_var (i := 0) rfl (vis_by (sc := (defScope (topS 30))) (by decide +kernel))) pe_int (fun _ _ => rfl)) pe_int) (pe_op op_mul (pe_var (i := 2) rfl (vis_by (sc := (defScope (topS 30))) (by decide +kernel))) pe_int)) pe_int) pa_nil)) pe_int) (pg_sub (pe_var (i := 0) rfl (vis_by (sc := (defScope (topS 30))) (by decide +kernel))) pe_int set_list)) (pss_one (ps_if (pt_cmpR op_ge (pe_var (i := 2) rfl (vis_by (sc := (defScope (topS 30))) (by decide +kernel))) (pe_op op_pow pe_int pe_int) (nomark _)) (pss_one (ps_asg (pe_var (i := 2) rfl (vis_by (sc := (defScope (topS 30))) (by decide +kernel))) (pg_sub (pe_var (i := 0) rfl (vis_by (sc := (defScope (topS 30))) (by decide +kernel))) pe_int set_list))) pss_nil))))) pss_nil) (pss_cons (ps_if (pt_cmpR op_gt (pe_ix ix_list (pe_var (i := 0) rfl (vis_by (sc := (defScope (topS 30))) (by decide +kernel))) pe_int (fun _ _ => rfl)) pe_int (nomark _)) (pss_cons (ps_set (i := 3) nd rfl (loc_by (sc := (defScope (topS 30))) (by decide +kernel)) (pe_op op_mod (pe_callTy call_int1 (gl_by (defScope (topS 30))) T.m_int boot_int (pa_cons (pe_ix ix_list (pe_var (i := 0) rfl (vis_by (sc := (defScope (topS 30))) (by decide +kernel))) pe_int (fun _ _ => rfl)) pa_nil)) (pe_var (i := 1) rfl (vis_by (sc := (defScope (topS 30))) (by decide +kernel))))) (pss_cons (ps_asg (pe_op op_fdiv (pe_ix ix_list (pe_var (i := 0) rfl (vis_by (sc := (defScope (topS 30))) (by decide +kernel))) pe_int (fun _ _ => rfl)) (pe_var (i := 1) rfl (vis_by (sc := (defScope (topS 30))) (by decide +kernel)))) (pg_sub (pe_var (i := 0) rfl (vis_by (sc := (defScope (topS 30))) (by decide +kernel))) pe_int set_list)) (pss_one (ps_ret (pe_var (i := 3) rfl (vis_by (sc := (defScope (topS 30))) (by decide +kernel))))))) pss_nil) (pss_cons (ps_asg (pe_op op_add (pe_ix ix_list (pe_var (i := 0) rfl (vis_by (sc := (defScope (topS 30))) (by decide +kernel))) pe_int (fun _ _ => rfl)) pe_int) (pg_sub (pe_var (i := 0) rfl (vis_by (sc := (defScope (topS 30))) (by decide +kernel))) pe_int set_list)) (pss_cons (ps_set (i := 4) nd rfl (loc_by (sc := (defScope (topS 30))) (by decide +kernel)) (pe_op op_mod (pe_callTy call_int1 (gl_by (defScope (topS 30))) T.m_int boot_int (pa_cons (pe_op op_mul (pe_callTy call_int1 (gl_by (defScope (topS 30))) T.m_int boot_int (pa_cons (pe_op op_add (pe_ix ix_list (pe_var (i := 0) rfl (vis_by (sc := (defScope (topS 30))) (by decide +kernel))) pe_int (fun _ _ => rfl)) (pe_op op_mul pe_int (pe_ix ix_list (pe_var (i := 0) rfl (vis_by (sc := (defScope (topS 30))) (by decide +kernel))) pe_int (fun _ _ => rfl)))) pa_nil)) pe_int) pa_nil)) pe_int)) (pss_cons (ps_set (i := 4) nd rfl (loc_by (sc := (defScope (topS 30))) (by decide +kernel)) (pe_op op_mod (pe_callTy call_int1 (gl_by (defScope (topS 30))) T.m_int boot_int (pa_cons (pe_op op_mul (pe_var (i := 4) rfl (vis_by (sc := (defScope (topS 30))) (by decide +kernel))) (pe_op op_add (pe_op op_fdiv (pe_var (i := 4) rfl (vis_by (sc := (defScope (topS 30))) (by decide +kernel))) pe_int) pe_int)) pa_nil)) pe_int)) (pss_cons (ps_set (i := 4) nd rfl (loc_by (sc := (defScope (topS 30))) (by decide +kernel)) (pe_op op_mod (pe_callTy call_int1 (gl_by (defScope (topS 30))) T.m_int boot_int (pa_cons (pe_op op_mul (pe_var (i := 4) rfl (vis_by (sc := (defScope (topS 30))) (by decide +kernel))) (pe_op op_add (pe_op op_fdiv (pe_var (i := 4) rfl (vis_by (sc := (defScope (topS 30))) (by decide +kernel))) pe_int) pe_int)) pa_nil)) pe_int)) (pss_one (ps_ret (pe_op op_mod (pe_callTy call_int1 (gl_by (defScope (topS 30))) T.m_int boot_int (pa_cons (pe_op op_fdiv (pe_var (i := 4) rfl (vis_by (sc := (defScope (topS 30))) (by decide +kernel))) pe_int) pa_nil)) (pe_var (i := 1) rfl (vis_by (sc := (defScope (topS 30))) (by decide +kernel))))))))))))
theorem sc__law_some : FnScope ["hand", "things"] ["hand", "things"] (defScope (topS 31)) := ⟨rfl, rfl, rfl, by decide +kernel, rfl, by decide +kernel, by decide +kernel⟩
theorem d__law_some (T : Facts mg) (C__law_draw : Cal P w K mg base "_law_draw" 2 1 (VX.SM VX.c__law_draw)) (hk : 1 ≤ k) (hr : RoomG k (A.deeper (envOfC "_law_some" (defScope (topS 31)) s.heap.objs.size f cdv))) : XSs (cxOf CX0 P w K mg base ["hand", "things"] "_law_some" (defScope (topS 31)) f cdv A outer s H E0).nox (defBody (topS 31)) (mRet (mB pIx (mV 1) (mCallN 2 VX.c__law_draw (mCons (mV 0) (mCons (mCall bLen (mCons (mV 1) mNil)) mNil))))) :=
  have nd : (["hand", "things"] : List Str).Nodup := sc__law_some.nd
  (xss_one (xs_ret (xe_bin (ve_ix (xe_v (ve_name (i := 1) rfl (vis_by (sc := (defScope (topS 31))) (by decide +kernel)))) (xe_f (ve_call C__law_draw (hr.mono (by first | omega | exact Nat.le_refl _)) (gl_by (defScope (topS 31))) (xa_cons (xe_v (ve_name (i := 0) rfl (vis_by (sc := (defScope (topS 31))) (by decide +kernel)))) (xa_cons (xe_b (ve_callB call_lenA ser_len (gl_by (defScope (topS 31))) T.m_len boot_len (xa_cons (xe_v (ve_name (i := 1) rfl (vis_by (sc := (defScope (topS 31))) (by decide +kernel)))) xa_nil)) bLen_ok) xa_nil))))) pIx_ok)))
theorem sc__law_part : FnScope ["one", "other"] ["one", "other"] (defScope (topS 32)) := ⟨rfl, rfl, rfl, by decide +kernel, rfl, by decide +kernel, by decide +kernel⟩
theorem d__law_part (T : Facts mg) (hk : 0 ≤ k) (hr : RoomG k (A.deeper (envOfC "_law_part" (defScope (topS 32)) s.heap.objs.size f cdv))) : XSs (cxOf CX0 P w K mg base ["one", "other"] "_law_part" (defScope (topS 32)) f cdv A outer s H E0).nox (defBody (topS 32)) (mSeq (mPar [0, 1] (bConsM (mCall bAbs (mCons (mV 0) mNil)) (bConsM (mCall bAbs (mCons (mV 1) mNil)) bNilM))) (mSeq (mWhile (mTst (mB pGt (mV 1) (mC (.int 0)))) (mPar [0, 1] (bConsM (mV 1) (bConsM (mB pMod (mCall bInt (mCons (mV 0) mNil)) (mV 1)) bNilM)))) (mRetN 0))) :=
  have nd : (["one", "other"] : List Str).Nodup := sc__law_part.nd
  (xss_cons (xs_par2 (vs_parB (i := 0) (j := 1) rfl nd rfl rfl (by decide) (lcl_by (sc := (defScope (topS 32))) (by decide +kernel)) (lcl_by (sc := (defScope (topS 32))) (by decide +kernel)) (xb_cons (xe_b (ve_callB call_abs ser_abs (gl_by (defScope (topS 32))) T.m_abs boot_abs (xa_cons (xe_v (ve_name (i := 0) rfl (vis_by (sc := (defScope (topS 32))) (by decide +kernel)))) xa_nil)) bAbs_ok) (xb_cons (xe_b (ve_callB call_abs ser_abs (gl_by (defScope (topS 32))) T.m_abs boot_abs (xa_cons (xe_v (ve_name (i := 1) rfl (vis_by (sc := (defScope (topS 32))) (by decide +kernel)))) xa_nil)) bAbs_ok) xb_nil)) (by rfl))) (xss_cons (xs_while (vs_while PassesOwn.never (xt_cmp (vt_gt (xe_v (ve_name (i := 1) rfl (vis_by (sc := (defScope (topS 32))) (by decide +kernel)))) (xe_c ve_int)) pGt_ok) (xss_one (xs_par2 (vs_parB (i := 0) (j := 1) rfl nd rfl rfl (by decide) (lcl_by (sc := (defScope (topS 32))) (by decide +kernel)) (lcl_by (sc := (defScope (topS 32))) (by decide +kernel)) (xb_cons (xe_v (ve_name (i := 1) rfl (vis_by (sc := (defScope (topS 32))) (by decide +kernel)))) (xb_cons (xe_bin (ve_mod (xe_b (ve_callTy call_int1 ser_intC (gl_by (defScope (topS 32))) T.m_int boot_int (xa_cons (xe_v (ve_name (i := 0) rfl (vis_by (sc := (defScope (topS 32))) (by decide +kernel)))) xa_nil)) bInt_ok) (xe_v (ve_name (i := 1) rfl (vis_by (sc := (defScope (topS 32))) (by decide +kernel))))) pMod_ok) xb_nil)) (by rfl)))))) (xss_one (xs_retN (vs_retN (i := 0) rfl (vis_by (sc := (defScope (topS 32))) (by decide +kernel)))))))
theorem sc__law_turn : FnScope ["one", "two", "three", "x", "y"] ["one", "two", "three"] (defScope (topS 33)) := ⟨rfl, rfl, rfl, by decide +kernel, rfl, by decide +kernel, by decide +kernel⟩
theorem d__law_turn (T : Facts mg) (hk : 0 ≤ k) (hr : RoomG k (A.deeper (envOfC "_law_turn" (defScope (topS 33)) s.heap.objs.size f cdv))) : XSs (cxOf CX0 P w K mg base ["one", "two", "three", "x", "y"] "_law_turn" (defScope (topS 33)) f cdv A outer s H E0).nox (defBody (topS 33)) (mSeq (mPar [3, 4] (bConsM (mB pSub (mB pIx (mV 2) (mC (.int 0))) (mB pIx (mV 0) (mC (.int 0)))) (bConsM (mB pSub (mB pIx (mV 2) (mC (.int 1))) (mB pIx (mV 0) (mC (.int 1)))) bNilM))) (mRet (mB pSub (mB pMul (mB pSub (mB pIx (mV 1) (mC (.int 0))) (mB pIx (mV 0) (mC (.int 0)))) (mV 4)) (mB pMul (mB pSub (mB pIx (mV 1) (mC (.int 1))) (mB pIx (mV 0) (mC (.int 1)))) (mV 3))))) :=
  have nd : (["one", "two", "three", "x", "y"] : List Str).Nodup := sc__law_turn.nd
  (xss_cons (xs_par2 (vs_parB (i := 3) (j := 4) rfl nd rfl rfl (by decide) (lcl_by (sc := (defScope (topS 33))) (by decide +kernel)) (lcl_by (sc := (defScope (topS 33))) (by decide +kernel)) (xb_cons (xe_bin (ve_sub (xe_bin (ve_ix (xe_v (ve_name (i := 2) rfl (vis_by (sc := (defScope (topS 33))) (by decide +kernel)))) (xe_c ve_int)) pIx_ok) (xe_bin (ve_ix (xe_v (ve_name (i := 0) rfl (vis_by (sc := (defScope (topS 33))) (by decide +kernel)))) (xe_c ve_int)) pIx_ok)) pSub_ok) (xb_cons (xe_bin (ve_sub (xe_bin (ve_ix (xe_v (ve_name (i := 2) rfl (vis_by (sc := (defScope (topS 33))) (by decide +kernel)))) (xe_c ve_int)) pIx_ok) (xe_bin (ve_ix (xe_v (ve_name (i := 0) rfl (vis_by (sc := (defScope (topS 33))) (by decide +kernel)))) (xe_c ve_int)) pIx_ok)) pSub_ok) xb_nil)) (by rfl))) (xss_one (xs_ret (xe_bin (ve_sub (xe_bin (ve_mul (xe_bin (ve_sub (xe_bin (ve_ix (xe_v (ve_name (i := 1) rfl (vis_by (sc := (defScope (topS 33))) (by decide +kernel)))) (xe_c ve_int)) pIx_ok) (xe_bin (ve_ix (xe_v (ve_name (i := 0) rfl (vis_by (sc := (defScope (topS 33))) (by decide +kernel)))) (xe_c ve_int)) pIx_ok)) pSub_ok) (xe_v (ve_name (i := 4) rfl (vis_by (sc := (defScope (topS 33))) (by decide +kernel))))) pMul_ok) (xe_bin (ve_mul (xe_bin (ve_sub (xe_bin (ve_ix (xe_v (ve_name (i := 1) rfl (vis_by (sc := (defScope (topS 33))) (by decide +kernel)))) (xe_c ve_int)) pIx_ok) (xe_bin (ve_ix (xe_v (ve_name (i := 0) rfl (vis_by (sc := (defScope (topS 33))) (by decide +kernel)))) (xe_c ve_int)) pIx_ok)) pSub_ok) (xe_v (ve_name (i := 3) rfl (vis_by (sc := (defScope (topS 33))) (by decide +kernel))))) pMul_ok)) pSub_ok))))
theorem sc__law_hull : FnScope ["dots", "some", "both", "row", "found", "dot"] ["dots"] (defScope (topS 34)) := ⟨rfl, rfl, rfl, by decide +kernel, rfl, by decide +kernel, by decide +kernel⟩
theorem d__law_hull (T : Facts mg) (C__law_turn : Cal P w K mg base "_law_turn" 3 1 (VX.SM V75.c__law_turn)) (hk : 1 ≤ k) (hr : RoomG k (A.deeper (envOfC "_law_hull" (defScope (topS 34)) s.heap.objs.size f cdv))) : XSs (cxOf CX0 P w K mg base ["dots", "some", "both", "row", "found", "dot"] "_law_hull" (defScope (topS 34)) f cdv A outer s H E0).nox (defBody (topS 34)) (mSeq (mSet 1 (mCall bSortedSet (mCons (mV 0) mNil))) (mSeq (mSet 2 (mLst mNil)) (mSeq (mFor (iSeq (mTup (mCons (mV 1) (mCons (mU pBack (mV 1)) mNil)))) (tgN 3) (mSeq (mSet 4 (mLst mNil)) (mSeq (mFor (iSeq (mV 3)) (tgN 5) (mSeq (mWhile (mAndT (mTst (mB pGt (mLenN 4) (mC (.int 1)))) (mTst (mB pLe (mCallN 3 V75.c__law_turn (mCons (mIxN 4 (mU pNeg (mC (.int 2)))) (mCons (mIxN 4 (mU pNeg (mC (.int 1)))) (mCons (mV 5) mNil)))) (mC (.int 0))))) (mDrop (mPopL 4))) (mAppend 4 (mV 5)))) (mSet 2 (mB pAdd (mV 2) (mSl (mV 4) mNoPart (mPart (mU pNeg (mC (.int 1)))))))))) (mRet (mCall bTuple (mCons (mV 2) mNil)))))) :=
  have nd : (["dots", "some", "both", "row", "found", "dot"] : List Str).Nodup := sc__law_hull.nd
  (xss_cons (xs_set (vs_set (i := 1) nd rfl (loc_by (sc := (defScope (topS 34))) (by decide +kernel)) (xe_sortedSet (ve_sortedSet hr rfl (gl_by (defScope (topS 34))) T.m_sorted (gl_by (defScope (topS 34))) T.m_set (xe_v (ve_name (i := 0) rfl (vis_by (sc := (defScope (topS 34))) (by decide +kernel)))))))) (xss_cons (xs_set (vs_set (i := 2) nd rfl (loc_by (sc := (defScope (topS 34))) (by decide +kernel)) (xe_lst xa_nil))) (xss_cons (xs_for (vs_for PassesOwn.never rfl (xi_seq (xe_tup (xa_cons (xe_v (ve_name (i := 1) rfl (vis_by (sc := (defScope (topS 34))) (by decide +kernel)))) (xa_cons (xe_un (ve_back (xe_v (ve_name (i := 1) rfl (vis_by (sc := (defScope (topS 34))) (by decide +kernel))))) pBack_ok) xa_nil)))) (xg_name (vg_name (i := 3) nd rfl (loc_by (sc := (defScope (topS 34))) (by decide +kernel)) (hf := .inl rfl))) (xss_cons (xs_set (vs_set (i := 4) nd rfl (loc_by (sc := (defScope (topS 34))) (by decide +kernel)) (xe_lst xa_nil))) (xss_cons (xs_for (vs_for PassesOwn.never rfl (xi_seq (xe_v (ve_name (i := 3) rfl (vis_by (sc := (defScope (topS 34))) (by decide +kernel))))) (xg_name (vg_name (i := 5) nd rfl (loc_by (sc := (defScope (topS 34))) (by decide +kernel)) (hf := .inl rfl))) (xss_cons (xs_while (vs_while PassesOwn.never (xt_bool (xw_and (xt_cmp (vt_gt (xe_lenN (ve_lenN (i := 4) rfl (vis_by (sc := (defScope (topS 34))) (by decide +kernel)) (gl_by (defScope (topS 34))) T.m_len)) (xe_c ve_int)) pGt_ok) (xw_and1 (xt_cmp (vt_le (xe_f (ve_call C__law_turn (hr.mono (by first | omega | exact Nat.le_refl _)) (gl_by (defScope (topS 34))) (xa_cons (xe_ixN (ve_ixN (i := 4) rfl (vis_by (sc := (defScope (topS 34))) (by decide +kernel)) (xe_un (ve_neg (xe_c ve_int)) pNeg_ok))) (xa_cons (xe_ixN (ve_ixN (i := 4) rfl (vis_by (sc := (defScope (topS 34))) (by decide +kernel)) (xe_un (ve_neg (xe_c ve_int)) pNeg_ok))) (xa_cons (xe_v (ve_name (i := 5) rfl (vis_by (sc := (defScope (topS 34))) (by decide +kernel)))) xa_nil))))) (xe_c ve_int)) pLe_ok)))) (xss_one (xs_expr (vs_expr (xe_popL (ve_popL (i := 4) rfl (vis_by (sc := (defScope (topS 34))) (by decide +kernel)) (pe_bm0 PySem.F.plainAttrs_list PySem.F.slot_list_pop PySem.F.type_list_pop mt_pop (pe_var (i := 4) rfl (vis_by (sc := (defScope (topS 34))) (by decide +kernel))))))))))) (xss_one (xs_append (vs_append (i := 4) rfl (vis_by (sc := (defScope (topS 34))) (by decide +kernel)) (xe_v (ve_name (i := 5) rfl (vis_by (sc := (defScope (topS 34))) (by decide +kernel)))) (pe_bm PySem.F.plainAttrs_list PySem.F.slot_list_append PySem.F.type_list_append mt_append (pe_var (i := 4) rfl (vis_by (sc := (defScope (topS 34))) (by decide +kernel))) (pa_cons (xe_v (ve_name (i := 5) rfl (vis_by (sc := (defScope (topS 34))) (by decide +kernel)))) pa_nil)))))))) (xss_one (xs_set (vs_set (i := 2) nd rfl (loc_by (sc := (defScope (topS 34))) (by decide +kernel)) (xe_bin (ve_add (xe_v (ve_name (i := 2) rfl (vis_by (sc := (defScope (topS 34))) (by decide +kernel)))) (xe_slice (xe_v (ve_name (i := 4) rfl (vis_by (sc := (defScope (topS 34))) (by decide +kernel)))) xo_none (xo_some (xe_un (ve_neg (xe_c ve_int)) pNeg_ok)))) pAdd_ok)))))))) (xss_one (xs_ret (xe_b (ve_callTy call_tuple_of ser_tuple (gl_by (defScope (topS 34))) T.m_tuple boot_tuple (xa_cons (xe_v (ve_name (i := 2) rfl (vis_by (sc := (defScope (topS 34))) (by decide +kernel)))) xa_nil)) bTuple_ok))))))
theorem sc__law_polygon : FnScope ["hand", "most", "wide", "dots", "turn", "x", "y", "found"] ["hand", "most"] (defScope (topS 35)) := ⟨rfl, rfl, rfl, by decide +kernel, rfl, by decide +kernel, by decide +kernel⟩
theorem d__law_polygon (T : Facts mg) (C__law_draw : Cal P w K mg base "_law_draw" 2 1 (VX.SM VX.c__law_draw)) (C__law_hull : Cal P w K mg base "_law_hull" 1 2 (VX.SM V75.c__law_hull)) (C__law_some : Cal P w K mg base "_law_some" 2 2 (VX.SM V75.c__law_some)) (hk : 2 ≤ k) (hr : RoomG k (A.deeper (envOfC "_law_polygon" (defScope (topS 35)) s.heap.objs.size f cdv))) : XSs (cxOf CX0 P w K mg base ["hand", "most", "wide", "dots", "turn", "x", "y", "found"] "_law_polygon" (defScope (topS 35)) f cdv A outer s H E0).nox (defBody (topS 35)) (mSeq (mSet 2 (mCallN 2 V75.c__law_some (mCons (mV 0) (mCons (mLst (mCons (mC (.int 2)) (mCons (mC (.int 4)) (mCons (mV 1) mNil)))) mNil)))) (mSeq (mSet 3 (mLst mNil)) (mSeq (mFor (iArg rng1 (mCons (mB pAdd (mC (.int 3)) (mCallN 2 VX.c__law_draw (mCons (mV 0) (mCons (mC (.int 6)) mNil)))) mNil)) (tgN 4) (mSeq (mPar [5, 6] (bConsM (mCallN 2 VX.c__law_draw (mCons (mV 0) (mCons (mB pAdd (mB pMul (mC (.int 2)) (mV 2)) (mC (.int 1))) mNil))) (bConsM (mCallN 2 VX.c__law_draw (mCons (mV 0) (mCons (mB pAdd (mB pMul (mC (.int 2)) (mV 2)) (mC (.int 1))) mNil))) bNilM))) (mAppend 3 (mTup (mCons (mB pSub (mV 5) (mV 2)) (mCons (mB pSub (mV 6) (mV 2)) mNil)))))) (mSeq (mSet 7 (mCallN 1 V75.c__law_hull (mCons (mV 3) mNil))) (mSeq (mPar [5, 6] (bConsM (mB pAdd (mC (.int 1)) (mCallN 2 VX.c__law_draw (mCons (mV 0) (mCons (mC (.int 4)) mNil)))) (bConsM (mB pAdd (mC (.int 1)) (mCallN 2 VX.c__law_draw (mCons (mV 0) (mCons (mC (.int 4)) mNil)))) bNilM))) (mRet (mIfE (mTst (mB pGt (mCall bLen (mCons (mV 7) mNil)) (mC (.int 2)))) (mV 7) (mTup (mCons (mTup (mCons (mC (.int 0)) (mCons (mC (.int 0)) mNil))) (mCons (mTup (mCons (mV 5) (mCons (mC (.int 0)) mNil))) (mCons (mTup (mCons (mC (.int 0)) (mCons (mV 6) mNil))) mNil))))))))))) :=
  have nd : (["hand", "most", "wide", "dots", "turn", "x", "y", "found"] : List Str).Nodup := sc__law_polygon.nd
  (xss_cons (xs_set (vs_set (i := 2) nd rfl (loc_by (sc := (defScope (topS 35))) (by decide +kernel)) (xe_f (ve_call C__law_some (hr.mono (by first | omega | exact Nat.le_refl _)) (gl_by (defScope (topS 35))) (xa_cons (xe_v (ve_name (i := 0) rfl (vis_by (sc := (defScope (topS 35))) (by decide +kernel)))) (xa_cons (xe_lst (xa_cons (xe_c ve_int) (xa_cons (xe_c ve_int) (xa_cons (xe_v (ve_name (i := 1) rfl (vis_by (sc := (defScope (topS 35))) (by decide +kernel)))) xa_nil)))) xa_nil)))))) (xss_cons (xs_set (vs_set (i := 3) nd rfl (loc_by (sc := (defScope (topS 35))) (by decide +kernel)) (xe_lst xa_nil))) (xss_cons (xs_for (vs_for PassesOwn.never rfl (xi_rng1 (vi_rng1 (gl_by (defScope (topS 35))) T.m_range (xa_cons (xe_bin (ve_add (xe_c ve_int) (xe_f (ve_call C__law_draw (hr.mono (by first | omega | exact Nat.le_refl _)) (gl_by (defScope (topS 35))) (xa_cons (xe_v (ve_name (i := 0) rfl (vis_by (sc := (defScope (topS 35))) (by decide +kernel)))) (xa_cons (xe_c ve_int) xa_nil))))) pAdd_ok) xa_nil))) (xg_name (vg_name (i := 4) nd rfl (loc_by (sc := (defScope (topS 35))) (by decide +kernel)) (hf := .inl rfl))) (xss_cons (xs_par2 (vs_parB (i := 5) (j := 6) rfl nd rfl rfl (by decide) (lcl_by (sc := (defScope (topS 35))) (by decide +kernel)) (lcl_by (sc := (defScope (topS 35))) (by decide +kernel)) (xb_cons (xe_f (ve_call C__law_draw (hr.mono (by first | omega | exact Nat.le_refl _)) (gl_by (defScope (topS 35))) (xa_cons (xe_v (ve_name (i := 0) rfl (vis_by (sc := (defScope (topS 35))) (by decide +kernel)))) (xa_cons (xe_bin (ve_add (xe_bin (ve_mul (xe_c ve_int) (xe_v (ve_name (i := 2) rfl (vis_by (sc := (defScope (topS 35))) (by decide +kernel))))) pMul_ok) (xe_c ve_int)) pAdd_ok) xa_nil)))) (xb_cons (xe_f (ve_call C__law_draw (hr.mono (by first | omega | exact Nat.le_refl _)) (gl_by (defScope (topS 35))) (xa_cons (xe_v (ve_name (i := 0) rfl (vis_by (sc := (defScope (topS 35))) (by decide +kernel)))) (xa_cons (xe_bin (ve_add (xe_bin (ve_mul (xe_c ve_int) (xe_v (ve_name (i := 2) rfl (vis_by (sc := (defScope (topS 35))) (by decide +kernel))))) pMul_ok) (xe_c ve_int)) pAdd_ok) xa_nil)))) xb_nil)) (by rfl))) (xss_one (xs_append (vs_append (i := 3) rfl (vis_by (sc := (defScope (topS 35))) (by decide +kernel)) (xe_tup (xa_cons (xe_bin (ve_sub (xe_v (ve_name (i := 5) rfl (vis_by (sc := (defScope (topS 35))) (by decide +kernel)))) (xe_v (ve_name (i := 2) rfl (vis_by (sc := (defScope (topS 35))) (by decide +kernel))))) pSub_ok) (xa_cons (xe_bin (ve_sub (xe_v (ve_name (i := 6) rfl (vis_by (sc := (defScope (topS 35))) (by decide +kernel)))) (xe_v (ve_name (i := 2) rfl (vis_by (sc := (defScope (topS 35))) (by decide +kernel))))) pSub_ok) xa_nil))) (pe_bm PySem.F.plainAttrs_list PySem.F.slot_list_append PySem.F.type_list_append mt_append (pe_var (i := 3) rfl (vis_by (sc := (defScope (topS 35))) (by decide +kernel))) (pa_cons (xe_tup (xa_cons (xe_bin (ve_sub (xe_v (ve_name (i := 5) rfl (vis_by (sc := (defScope (topS 35))) (by decide +kernel)))) (xe_v (ve_name (i := 2) rfl (vis_by (sc := (defScope (topS 35))) (by decide +kernel))))) pSub_ok) (xa_cons (xe_bin (ve_sub (xe_v (ve_name (i := 6) rfl (vis_by (sc := (defScope (topS 35))) (by decide +kernel)))) (xe_v (ve_name (i := 2) rfl (vis_by (sc := (defScope (topS 35))) (by decide +kernel))))) pSub_ok) xa_nil))) pa_nil)))))))) (xss_cons (xs_set (vs_set (i := 7) nd rfl (loc_by (sc := (defScope (topS 35))) (by decide +kernel)) (xe_f (ve_call C__law_hull (hr.mono (by first | omega | exact Nat.le_refl _)) (gl_by (defScope (topS 35))) (xa_cons (xe_v (ve_name (i := 3) rfl (vis_by (sc := (defScope (topS 35))) (by decide +kernel)))) xa_nil))))) (xss_cons (xs_par2 (vs_parB (i := 5) (j := 6) rfl nd rfl rfl (by decide) (lcl_by (sc := (defScope (topS 35))) (by decide +kernel)) (lcl_by (sc := (defScope (topS 35))) (by decide +kernel)) (xb_cons (xe_bin (ve_add (xe_c ve_int) (xe_f (ve_call C__law_draw (hr.mono (by first | omega | exact Nat.le_refl _)) (gl_by (defScope (topS 35))) (xa_cons (xe_v (ve_name (i := 0) rfl (vis_by (sc := (defScope (topS 35))) (by decide +kernel)))) (xa_cons (xe_c ve_int) xa_nil))))) pAdd_ok) (xb_cons (xe_bin (ve_add (xe_c ve_int) (xe_f (ve_call C__law_draw (hr.mono (by first | omega | exact Nat.le_refl _)) (gl_by (defScope (topS 35))) (xa_cons (xe_v (ve_name (i := 0) rfl (vis_by (sc := (defScope (topS 35))) (by decide +kernel)))) (xa_cons (xe_c ve_int) xa_nil))))) pAdd_ok) xb_nil)) (by rfl))) (xss_one (xs_ret (xe_ifexp (xt_cmp (vt_gt (xe_b (ve_callB call_lenA ser_len (gl_by (defScope (topS 35))) T.m_len boot_len (xa_cons (xe_v (ve_name (i := 7) rfl (vis_by (sc := (defScope (topS 35))) (by decide +kernel)))) xa_nil)) bLen_ok) (xe_c ve_int)) pGt_ok) (xe_v (ve_name (i := 7) rfl (vis_by (sc := (defScope (topS 35))) (by decide +kernel)))) (xe_tup (xa_cons (xe_tup (xa_cons (xe_c ve_int) (xa_cons (xe_c ve_int) xa_nil))) (xa_cons (xe_tup (xa_cons (xe_v (ve_name (i := 5) rfl (vis_by (sc := (defScope (topS 35))) (by decide +kernel)))) (xa_cons (xe_c ve_int) xa_nil))) (xa_cons (xe_tup (xa_cons (xe_c ve_int) (xa_cons (xe_v (ve_name (i := 6) rfl (vis_by (sc := (defScope (topS 35))) (by decide +kernel)))) xa_nil))) xa_nil))))))))))))
theorem sc__law_sizes : FnScope ["polygon", "area", "border", "one", "other"] ["polygon"] (defScope (topS 36)) := ⟨rfl, rfl, rfl, by decide +kernel, rfl, by decide +kernel, by decide +kernel⟩
theorem d__law_sizes (T : Facts mg) (C__law_part : Cal P w K mg base "_law_part" 2 1 (VX.SM V75.c__law_part)) (hk : 1 ≤ k) (hr : RoomG k (A.deeper (envOfC "_law_sizes" (defScope (topS 36)) s.heap.objs.size f cdv))) : XSs (cxOf CX0 P w K mg base ["polygon", "area", "border", "one", "other"] "_law_sizes" (defScope (topS 36)) f cdv A outer s H E0).nox (defBody (topS 36)) (mSeq (mAsg (mTup (mCons (mC (.int 0)) (mCons (mC (.int 0)) mNil))) (tgT 2 (tgC (tgN 1) (tgC (tgN 2) tgZ)))) (mSeq (mFor (iArg zipM (mCons (mV 0) (mCons (mB pAdd (mSl (mV 0) (mPart (mC (.int 1))) mNoPart) (mSl (mV 0) mNoPart (mPart (mC (.int 1))))) mNil))) (tgT 2 (tgC (tgN 3) (tgC (tgN 4) tgZ))) (mSeq (mSet 1 (mB pSub (mB pAdd (mV 1) (mB pMul (mB pIx (mV 3) (mC (.int 0))) (mB pIx (mV 4) (mC (.int 1))))) (mB pMul (mB pIx (mV 3) (mC (.int 1))) (mB pIx (mV 4) (mC (.int 0)))))) (mSet 2 (mB pAdd (mV 2) (mCallN 2 V75.c__law_part (mCons (mB pSub (mB pIx (mV 4) (mC (.int 0))) (mB pIx (mV 3) (mC (.int 0)))) (mCons (mB pSub (mB pIx (mV 4) (mC (.int 1))) (mB pIx (mV 3) (mC (.int 1)))) mNil))))))) (mRet (mTup (mCons (mV 1) (mCons (mV 2) mNil)))))) :=
  have nd : (["polygon", "area", "border", "one", "other"] : List Str).Nodup := sc__law_sizes.nd
  (xss_cons (xs_asg (vs_asg (xe_tup (xa_cons (xe_c ve_int) (xa_cons (xe_c ve_int) xa_nil))) (xg_tup rfl (xgs_cons (xg_name (vg_name (i := 1) nd rfl (loc_by (sc := (defScope (topS 36))) (by decide +kernel)) (hf := .inl rfl))) (xgs_cons (xg_name (vg_name (i := 2) nd rfl (loc_by (sc := (defScope (topS 36))) (by decide +kernel)) (hf := .inl rfl))) xgs_nil))))) (xss_cons (xs_for (vs_for PassesOwn.never rfl (xi_zip (vi_zip (gl_by (defScope (topS 36))) T.m_zip (xa_cons (xe_v (ve_name (i := 0) rfl (vis_by (sc := (defScope (topS 36))) (by decide +kernel)))) (xa_cons (xe_bin (ve_add (xe_slice (xe_v (ve_name (i := 0) rfl (vis_by (sc := (defScope (topS 36))) (by decide +kernel)))) (xo_some (xe_c ve_int)) xo_none) (xe_slice (xe_v (ve_name (i := 0) rfl (vis_by (sc := (defScope (topS 36))) (by decide +kernel)))) xo_none (xo_some (xe_c ve_int)))) pAdd_ok) xa_nil)) (RZ.pi_zipA (gl_by (defScope (topS 36))) T.m_zip (xa_cons (xe_v (ve_name (i := 0) rfl (vis_by (sc := (defScope (topS 36))) (by decide +kernel)))) (xa_cons (xe_bin (ve_add (xe_slice (xe_v (ve_name (i := 0) rfl (vis_by (sc := (defScope (topS 36))) (by decide +kernel)))) (xo_some (xe_c ve_int)) xo_none) (xe_slice (xe_v (ve_name (i := 0) rfl (vis_by (sc := (defScope (topS 36))) (by decide +kernel)))) xo_none (xo_some (xe_c ve_int)))) pAdd_ok) xa_nil))))) (xg_tup rfl (xgs_cons (xg_name (vg_name (i := 3) nd rfl (loc_by (sc := (defScope (topS 36))) (by decide +kernel)) (hf := .inl rfl))) (xgs_cons (xg_name (vg_name (i := 4) nd rfl (loc_by (sc := (defScope (topS 36))) (by decide +kernel)) (hf := .inl rfl))) xgs_nil))) (xss_cons (xs_set (vs_set (i := 1) nd rfl (loc_by (sc := (defScope (topS 36))) (by decide +kernel)) (xe_bin (ve_sub (xe_bin (ve_add (xe_v (ve_name (i := 1) rfl (vis_by (sc := (defScope (topS 36))) (by decide +kernel)))) (xe_bin (ve_mul (xe_bin (ve_ix (xe_v (ve_name (i := 3) rfl (vis_by (sc := (defScope (topS 36))) (by decide +kernel)))) (xe_c ve_int)) pIx_ok) (xe_bin (ve_ix (xe_v (ve_name (i := 4) rfl (vis_by (sc := (defScope (topS 36))) (by decide +kernel)))) (xe_c ve_int)) pIx_ok)) pMul_ok)) pAdd_ok) (xe_bin (ve_mul (xe_bin (ve_ix (xe_v (ve_name (i := 3) rfl (vis_by (sc := (defScope (topS 36))) (by decide +kernel)))) (xe_c ve_int)) pIx_ok) (xe_bin (ve_ix (xe_v (ve_name (i := 4) rfl (vis_by (sc := (defScope (topS 36))) (by decide +kernel)))) (xe_c ve_int)) pIx_ok)) pMul_ok)) pSub_ok))) (xss_one (xs_set (vs_set (i := 2) nd rfl (loc_by (sc := (defScope (topS 36))) (by decide +kernel)) (xe_bin (ve_add (xe_v (ve_name (i := 2) rfl (vis_by (sc := (defScope (topS 36))) (by decide +kernel)))) (xe_f (ve_call C__law_part (hr.mono (by first | omega | exact Nat.le_refl _)) (gl_by (defScope (topS 36))) (xa_cons (xe_bin (ve_sub (xe_bin (ve_ix (xe_v (ve_name (i := 4) rfl (vis_by (sc := (defScope (topS 36))) (by decide +kernel)))) (xe_c ve_int)) pIx_ok) (xe_bin (ve_ix (xe_v (ve_name (i := 3) rfl (vis_by (sc := (defScope (topS 36))) (by decide +kernel)))) (xe_c ve_int)) pIx_ok)) pSub_ok) (xa_cons (xe_bin (ve_sub (xe_bin (ve_ix (xe_v (ve_name (i := 4) rfl (vis_by (sc := (defScope (topS 36))) (by decide +kernel)))) (xe_c ve_int)) pIx_ok) (xe_bin (ve_ix (xe_v (ve_name (i := 3) rfl (vis_by (sc := (defScope (topS 36))) (by decide +kernel)))) (xe_c ve_int)) pIx_ok)) pSub_ok) xa_nil))))) pAdd_ok))))))) (xss_one (xs_ret (xe_tup (xa_cons (xe_v (ve_name (i := 1) rfl (vis_by (sc := (defScope (topS 36))) (by decide +kernel)))) (xa_cons (xe_v (ve_name (i := 2) rfl (vis_by (sc := (defScope (topS 36))) (by decide +kernel)))) xa_nil)))))))
theorem sc__law_back : FnScope ["first", "second", "area", "border"] ["first", "second"] (defScope (topS 37)) := ⟨rfl, rfl, rfl, by decide +kernel, rfl, by decide +kernel, by decide +kernel⟩
theorem d__law_back (T : Facts mg) (hk : 0 ≤ k) (hr : RoomG k (A.deeper (envOfC "_law_back" (defScope (topS 37)) s.heap.objs.size f cdv))) : XSs (cxOf CX0 P w K mg base ["first", "second", "area", "border"] "_law_back" (defScope (topS 37)) f cdv A outer s H E0).nox (defBody (topS 37)) (mSeq (mSet 2 (mB pAdd (mB pSub (mV 1) (mB pMul (mC (.int 2)) (mV 0))) (mC (.int 1)))) (mSeq (mSet 3 (mB pSub (mB pSub (mB pMul (mC (.int 2)) (mV 0)) (mC (.int 2))) (mV 2))) (mRet (mIfE (mAndT (mTst (mB pGt (mV 2) (mC (.int 0)))) (mTst (mB pGt (mV 3) (mC (.int 2))))) (mTup (mCons (mV 2) (mCons (mV 3) mNil))) (mC .non))))) :=
  have nd : (["first", "second", "area", "border"] : List Str).Nodup := sc__law_back.nd
  (xss_cons (xs_set (vs_set (i := 2) nd rfl (loc_by (sc := (defScope (topS 37))) (by decide +kernel)) (xe_bin (ve_add (xe_bin (ve_sub (xe_v (ve_name (i := 1) rfl (vis_by (sc := (defScope (topS 37))) (by decide +kernel)))) (xe_bin (ve_mul (xe_c ve_int) (xe_v (ve_name (i := 0) rfl (vis_by (sc := (defScope (topS 37))) (by decide +kernel))))) pMul_ok)) pSub_ok) (xe_c ve_int)) pAdd_ok))) (xss_cons (xs_set (vs_set (i := 3) nd rfl (loc_by (sc := (defScope (topS 37))) (by decide +kernel)) (xe_bin (ve_sub (xe_bin (ve_sub (xe_bin (ve_mul (xe_c ve_int) (xe_v (ve_name (i := 0) rfl (vis_by (sc := (defScope (topS 37))) (by decide +kernel))))) pMul_ok) (xe_c ve_int)) pSub_ok) (xe_v (ve_name (i := 2) rfl (vis_by (sc := (defScope (topS 37))) (by decide +kernel))))) pSub_ok))) (xss_one (xs_ret (xe_ifexp (xt_bool (xw_and (xt_cmp (vt_gt (xe_v (ve_name (i := 2) rfl (vis_by (sc := (defScope (topS 37))) (by decide +kernel)))) (xe_c ve_int)) pGt_ok) (xw_and1 (xt_cmp (vt_gt (xe_v (ve_name (i := 3) rfl (vis_by (sc := (defScope (topS 37))) (by decide +kernel)))) (xe_c ve_int)) pGt_ok)))) (xe_tup (xa_cons (xe_v (ve_name (i := 2) rfl (vis_by (sc := (defScope (topS 37))) (by decide +kernel)))) (xa_cons (xe_v (ve_name (i := 3) rfl (vis_by (sc := (defScope (topS 37))) (by decide +kernel)))) xa_nil))) (xe_c ve_non))))))
theorem sc__law_is_polygon_right : FnScope ["polygon", "due"] ["polygon"] (defScope (topS 38)) := ⟨rfl, rfl, rfl, by decide +kernel, rfl, by decide +kernel, by decide +kernel⟩
theorem d__law_is_polygon_right (T : Facts mg) (C__law_sizes : Cal P w K mg base "_law_sizes" 1 2 (VX.SM V75.c__law_sizes)) (C_by_growth : Cal P w K mg base "by_growth" 2 2 (VX.SM VP.c_by_growth)) (C_dots_in : Cal P w K mg base "dots_in" 2 8 (VX.SM VP.c_dots_in)) (hk : 8 ≤ k) (hr : RoomG k (A.deeper (envOfC "_law_is_polygon_right" (defScope (topS 38)) s.heap.objs.size f cdv))) : XSs (cxOf CX0 P w K mg base ["polygon", "due"] "_law_is_polygon_right" (defScope (topS 38)) f cdv A outer s H E0).nox (defBody (topS 38)) (mSeq (mSet 1 (mCallN 1 V75.c__law_sizes (mCons (mV 0) mNil))) (mRet (mB pEq (mCall bRepr (mCons (mCallN 2 VP.c_by_growth (mCons (mCallN 2 VP.c_dots_in (mCons (mV 0) (mCons (mC (.int 1)) mNil))) (mCons (mCallN 2 VP.c_dots_in (mCons (mV 0) (mCons (mC (.int 2)) mNil))) mNil))) mNil)) (mCall bRepr (mCons (mV 1) mNil))))) :=
  have nd : (["polygon", "due"] : List Str).Nodup := sc__law_is_polygon_right.nd
  (xss_cons (xs_set (vs_set (i := 1) nd rfl (loc_by (sc := (defScope (topS 38))) (by decide +kernel)) (xe_f (ve_call C__law_sizes (hr.mono (by first | omega | exact Nat.le_refl _)) (gl_by (defScope (topS 38))) (xa_cons (xe_v (ve_name (i := 0) rfl (vis_by (sc := (defScope (topS 38))) (by decide +kernel)))) xa_nil))))) (xss_one (xs_ret (xe_bin (ve_eq (hu64 hr) (xe_b (ve_callB (call_reprD rfl hr) ser_repr (gl_by (defScope (topS 38))) T.m_repr boot_repr (xa_cons (xe_f (ve_call C_by_growth (hr.mono (by first | omega | exact Nat.le_refl _)) (gl_by (defScope (topS 38))) (xa_cons (xe_f (ve_call C_dots_in (hr.mono (by first | omega | exact Nat.le_refl _)) (gl_by (defScope (topS 38))) (xa_cons (xe_v (ve_name (i := 0) rfl (vis_by (sc := (defScope (topS 38))) (by decide +kernel)))) (xa_cons (xe_c ve_int) xa_nil)))) (xa_cons (xe_f (ve_call C_dots_in (hr.mono (by first | omega | exact Nat.le_refl _)) (gl_by (defScope (topS 38))) (xa_cons (xe_v (ve_name (i := 0) rfl (vis_by (sc := (defScope (topS 38))) (by decide +kernel)))) (xa_cons (xe_c ve_int) xa_nil)))) xa_nil)))) xa_nil)) bRepr_ok) (xe_b (ve_callB (call_reprD rfl hr) ser_repr (gl_by (defScope (topS 38))) T.m_repr boot_repr (xa_cons (xe_v (ve_name (i := 1) rfl (vis_by (sc := (defScope (topS 38))) (by decide +kernel)))) xa_nil)) bRepr_ok)) pEq_ok))))
theorem sc__law_is_pair_right : FnScope ["hand", "area", "border", "first", "second", "told"] ["hand"] (defScope (topS 39)) := ⟨rfl, rfl, rfl, by decide +kernel, rfl, by decide +kernel, by decide +kernel⟩
theorem d__law_is_pair_right (T : Facts mg) (C__law_back : Cal P w K mg base "_law_back" 2 1 (VX.SM V75.c__law_back)) (C__law_draw : Cal P w K mg base "_law_draw" 2 1 (VX.SM VX.c__law_draw)) (C_by_growth : Cal P w K mg base "by_growth" 2 2 (VX.SM VP.c_by_growth)) (hk : 2 ≤ k) (hr : RoomG k (A.deeper (envOfC "_law_is_pair_right" (defScope (topS 39)) s.heap.objs.size f cdv))) : XSs (cxOf CX0 P w K mg base ["hand", "area", "border", "first", "second", "told"] "_law_is_pair_right" (defScope (topS 39)) f cdv A outer s H E0).nox (defBody (topS 39)) (mSeq (mPar [1, 2] (bConsM (mB pSub (mCallN 2 VX.c__law_draw (mCons (mV 0) (mCons (mC (.int 30)) mNil))) (mC (.int 2))) (bConsM (mCallN 2 VX.c__law_draw (mCons (mV 0) (mCons (mC (.int 30)) mNil))) bNilM))) (mSeq (mPar [3, 4] (bConsM (mCallN 2 VX.c__law_draw (mCons (mV 0) (mCons (mC (.int 60)) mNil))) (bConsM (mCallN 2 VX.c__law_draw (mCons (mV 0) (mCons (mC (.int 200)) mNil))) bNilM))) (mSeq (mIfS (mAndT (mTst (mB pGt (mCallN 2 VX.c__law_draw (mCons (mV 0) (mCons (mC (.int 3)) mNil))) (mC (.int 0)))) (mTst (mB pEq (mB pMod (mCall bInt (mCons (mB pAdd (mV 1) (mV 2)) mNil)) (mC (.int 2))) (mC (.int 0))))) (mPar [3, 4] (bConsM (mCall bMax2 (mCons (mC (.int 0)) (mCons (mB pAdd (mB pFdiv (mB pAdd (mV 1) (mV 2)) (mC (.int 2))) (mC (.int 1))) mNil))) (bConsM (mCall bMax2 (mCons (mC (.int 0)) (mCons (mB pAdd (mB pAdd (mB pMul (mC (.int 2)) (mV 1)) (mV 2)) (mC (.int 1))) mNil))) bNilM))) mNext) (mSeq (mSet 5 (mCallN 2 VP.c_by_growth (mCons (mV 3) (mCons (mV 4) mNil)))) (mSeq (mIfS (mTst (mB pNe (mCall bRepr (mCons (mV 5) mNil)) (mCall bRepr (mCons (mCallN 2 V75.c__law_back (mCons (mV 3) (mCons (mV 4) mNil))) mNil)))) (mRet (mC (.bl false))) mNext) (mSeq (mIfS (mTst (mB pIs (mV 5) (mC .non))) (mRet (mC (.bl true))) mNext) (mRet (mB pEq (mLst (mCons (mB pAdd (mB pFdiv (mB pAdd (mB pIx (mV 5) (mC (.int 0))) (mB pIx (mV 5) (mC (.int 1)))) (mC (.int 2))) (mC (.int 1))) (mCons (mB pAdd (mB pAdd (mB pMul (mC (.int 2)) (mB pIx (mV 5) (mC (.int 0)))) (mB pIx (mV 5) (mC (.int 1)))) (mC (.int 1))) mNil))) (mLst (mCons (mV 3) (mCons (mV 4) mNil))))))))))) :=
  have nd : (["hand", "area", "border", "first", "second", "told"] : List Str).Nodup := sc__law_is_pair_right.nd
  (xss_cons (xs_par2 (vs_parB (i := 1) (j := 2) rfl nd rfl rfl (by decide) (lcl_by (sc := (defScope (topS 39))) (by decide +kernel)) (lcl_by (sc := (defScope (topS 39))) (by decide +kernel)) (xb_cons (xe_bin (ve_sub (xe_f (ve_call C__law_draw (hr.mono (by first | omega | exact Nat.le_refl _)) (gl_by (defScope (topS 39))) (xa_cons (xe_v (ve_name (i := 0) rfl (vis_by (sc := (defScope (topS 39))) (by decide +kernel)))) (xa_cons (xe_c ve_int) xa_nil)))) (xe_c ve_int)) pSub_ok) (xb_cons (xe_f (ve_call C__law_draw (hr.mono (by first | omega | exact Nat.le_refl _)) (gl_by (defScope (topS 39))) (xa_cons (xe_v (ve_name (i := 0) rfl (vis_by (sc := (defScope (topS 39))) (by decide +kernel)))) (xa_cons (xe_c ve_int) xa_nil)))) xb_nil)) (by rfl))) (xss_cons (xs_par2 (vs_parB (i := 3) (j := 4) rfl nd rfl rfl (by decide) (lcl_by (sc := (defScope (topS 39))) (by decide +kernel)) (lcl_by (sc := (defScope (topS 39))) (by decide +kernel)) (xb_cons (xe_f (ve_call C__law_draw (hr.mono (by first | omega | exact Nat.le_refl _)) (gl_by (defScope (topS 39))) (xa_cons (xe_v (ve_name (i := 0) rfl (vis_by (sc := (defScope (topS 39))) (by decide +kernel)))) (xa_cons (xe_c ve_int) xa_nil)))) (xb_cons (xe_f (ve_call C__law_draw (hr.mono (by first | omega | exact Nat.le_refl _)) (gl_by (defScope (topS 39))) (xa_cons (xe_v (ve_name (i := 0) rfl (vis_by (sc := (defScope (topS 39))) (by decide +kernel)))) (xa_cons (xe_c ve_int) xa_nil)))) xb_nil)) (by rfl))) (xss_cons (xs_if (xt_bool (xw_and (xt_cmp (vt_gt (xe_f (ve_call C__law_draw (hr.mono (by first | omega | exact Nat.le_refl _)) (gl_by (defScope (topS 39))) (xa_cons (xe_v (ve_name (i := 0) rfl (vis_by (sc := (defScope (topS 39))) (by decide +kernel)))) (xa_cons (xe_c ve_int) xa_nil)))) (xe_c ve_int)) pGt_ok) (xw_and1 (xt_cmp (vt_eq (hu64 hr) (xe_bin (ve_mod (xe_b (ve_callTy call_int1 ser_intC (gl_by (defScope (topS 39))) T.m_int boot_int (xa_cons (xe_bin (ve_add (xe_v (ve_name (i := 1) rfl (vis_by (sc := (defScope (topS 39))) (by decide +kernel)))) (xe_v (ve_name (i := 2) rfl (vis_by (sc := (defScope (topS 39))) (by decide +kernel))))) pAdd_ok) xa_nil)) bInt_ok) (xe_c ve_int)) pMod_ok) (xe_c ve_int)) pEq_ok)))) (xss_one (xs_par2 (vs_parB (i := 3) (j := 4) rfl nd rfl rfl (by decide) (lcl_by (sc := (defScope (topS 39))) (by decide +kernel)) (lcl_by (sc := (defScope (topS 39))) (by decide +kernel)) (xb_cons (xe_b (ve_callB (call_max2 rfl) ser_max2 (gl_by (defScope (topS 39))) T.m_max boot_max (xa_cons (xe_c ve_int) (xa_cons (xe_bin (ve_add (xe_bin (ve_fdiv (xe_bin (ve_add (xe_v (ve_name (i := 1) rfl (vis_by (sc := (defScope (topS 39))) (by decide +kernel)))) (xe_v (ve_name (i := 2) rfl (vis_by (sc := (defScope (topS 39))) (by decide +kernel))))) pAdd_ok) (xe_c ve_int)) pFdiv_ok) (xe_c ve_int)) pAdd_ok) xa_nil))) bMax2_ok) (xb_cons (xe_b (ve_callB (call_max2 rfl) ser_max2 (gl_by (defScope (topS 39))) T.m_max boot_max (xa_cons (xe_c ve_int) (xa_cons (xe_bin (ve_add (xe_bin (ve_add (xe_bin (ve_mul (xe_c ve_int) (xe_v (ve_name (i := 1) rfl (vis_by (sc := (defScope (topS 39))) (by decide +kernel))))) pMul_ok) (xe_v (ve_name (i := 2) rfl (vis_by (sc := (defScope (topS 39))) (by decide +kernel))))) pAdd_ok) (xe_c ve_int)) pAdd_ok) xa_nil))) bMax2_ok) xb_nil)) (by rfl)))) xss_nil) (xss_cons (xs_set (vs_set (i := 5) nd rfl (loc_by (sc := (defScope (topS 39))) (by decide +kernel)) (xe_f (ve_call C_by_growth (hr.mono (by first | omega | exact Nat.le_refl _)) (gl_by (defScope (topS 39))) (xa_cons (xe_v (ve_name (i := 3) rfl (vis_by (sc := (defScope (topS 39))) (by decide +kernel)))) (xa_cons (xe_v (ve_name (i := 4) rfl (vis_by (sc := (defScope (topS 39))) (by decide +kernel)))) xa_nil)))))) (xss_cons (xs_if (xt_cmp (vt_ne (hu64 hr) (xe_b (ve_callB (call_reprD rfl hr) ser_repr (gl_by (defScope (topS 39))) T.m_repr boot_repr (xa_cons (xe_v (ve_name (i := 5) rfl (vis_by (sc := (defScope (topS 39))) (by decide +kernel)))) xa_nil)) bRepr_ok) (xe_b (ve_callB (call_reprD rfl hr) ser_repr (gl_by (defScope (topS 39))) T.m_repr boot_repr (xa_cons (xe_f (ve_call C__law_back (hr.mono (by first | omega | exact Nat.le_refl _)) (gl_by (defScope (topS 39))) (xa_cons (xe_v (ve_name (i := 3) rfl (vis_by (sc := (defScope (topS 39))) (by decide +kernel)))) (xa_cons (xe_v (ve_name (i := 4) rfl (vis_by (sc := (defScope (topS 39))) (by decide +kernel)))) xa_nil)))) xa_nil)) bRepr_ok)) pNe_ok) (xss_one (xs_ret (xe_c ve_bl))) xss_nil) (xss_cons (xs_if (xt_cmp (vt_is (xe_v (ve_name (i := 5) rfl (vis_by (sc := (defScope (topS 39))) (by decide +kernel)))) (xe_c ve_non)) pIs_ok) (xss_one (xs_ret (xe_c ve_bl))) xss_nil) (xss_one (xs_ret (xe_bin (ve_eq (hu64 hr) (xe_lst (xa_cons (xe_bin (ve_add (xe_bin (ve_fdiv (xe_bin (ve_add (xe_bin (ve_ix (xe_v (ve_name (i := 5) rfl (vis_by (sc := (defScope (topS 39))) (by decide +kernel)))) (xe_c ve_int)) pIx_ok) (xe_bin (ve_ix (xe_v (ve_name (i := 5) rfl (vis_by (sc := (defScope (topS 39))) (by decide +kernel)))) (xe_c ve_int)) pIx_ok)) pAdd_ok) (xe_c ve_int)) pFdiv_ok) (xe_c ve_int)) pAdd_ok) (xa_cons (xe_bin (ve_add (xe_bin (ve_add (xe_bin (ve_mul (xe_c ve_int) (xe_bin (ve_ix (xe_v (ve_name (i := 5) rfl (vis_by (sc := (defScope (topS 39))) (by decide +kernel)))) (xe_c ve_int)) pIx_ok)) pMul_ok) (xe_bin (ve_ix (xe_v (ve_name (i := 5) rfl (vis_by (sc := (defScope (topS 39))) (by decide +kernel)))) (xe_c ve_int)) pIx_ok)) pAdd_ok) (xe_c ve_int)) pAdd_ok) xa_nil))) (xe_lst (xa_cons (xe_v (ve_name (i := 3) rfl (vis_by (sc := (defScope (topS 39))) (by decide +kernel)))) (xa_cons (xe_v (ve_name (i := 4) rfl (vis_by (sc := (defScope (topS 39))) (by decide +kernel)))) xa_nil)))) pEq_ok)))))))))
theorem sc_law : FnScope ["script", "hand", "known", "turn"] ["script"] (defScope (topS 40)) := ⟨rfl, rfl, rfl, by decide +kernel, rfl, by decide +kernel, by decide +kernel⟩
theorem d_law (T : Facts mg) (C__law_is_pair_right : Cal P w K mg base "_law_is_pair_right" 1 3 (VX.SM V75.c__law_is_pair_right)) (C__law_is_polygon_right : Cal P w K mg base "_law_is_polygon_right" 1 9 (VX.SM V75.c__law_is_polygon_right)) (C__law_polygon : Cal P w K mg base "_law_polygon" 2 3 (VX.SM V75.c__law_polygon)) (C_by_growth : Cal P w K mg base "by_growth" 2 2 (VX.SM VP.c_by_growth)) (hk : 9 ≤ k) (hr : RoomG k (A.deeper (envOfC "law" (defScope (topS 40)) s.heap.objs.size f cdv))) : XSs (cxOf CX0 P w K mg base ["script", "hand", "known", "turn"] "law" (defScope (topS 40)) f cdv A outer s H E0).nox ((defBody (topS 40)).drop 1) (mSeq (mSet 2 (mLst (mCons (mCallN 2 VP.c_by_growth (mCons (mC (.int 3)) (mCons (mC (.int 6)) mNil))) (mCons (mCallN 2 VP.c_by_growth (mCons (mC (.int 9)) (mCons (mC (.int 25)) mNil))) (mCons (mCallN 2 VP.c_by_growth (mCons (mC (.int 4)) (mCons (mC (.int 9)) mNil))) (mCons (mCallN 2 VP.c_by_growth (mCons (mC (.int 3)) (mCons (mC (.int 5)) mNil))) (mCons (mCallN 2 VP.c_by_growth (mCons (mC (.int 0)) (mCons (mC (.int 0)) mNil))) (mCons (mCallN 2 VP.c_by_growth (mCons (mC (.int 2)) (mCons (mC (.int 4)) mNil))) mNil)))))))) (mSeq (mIfS (mTst (mB pNe (mCall bRepr (mCons (mV 2) mNil)) (mCall bRepr (mCons (mLst (mCons (mTup (mCons (mC (.int 1)) (mCons (mC (.int 3)) mNil))) (mCons (mTup (mCons (mC (.int 8)) (mCons (mC (.int 8)) mNil))) (mCons (mTup (mCons (mC (.int 2)) (mCons (mC (.int 4)) mNil))) (mCons (mC .non) (mCons (mC .non) (mCons (mC .non) mNil))))))) mNil)))) (mRet (mC (.bl false))) mNext) (mSeq (mFor (iArg rng1 (mCons (mC (.int 8)) mNil)) (tgN 3) (mIfS (mOrT (mNotT (mTst (mCallN 1 V75.c__law_is_polygon_right (mCons (mCallN 2 V75.c__law_polygon (mCons (mV 1) (mCons (mC (.int 40)) mNil))) mNil)))) (mNotT (mTst (mCallN 1 V75.c__law_is_pair_right (mCons (mV 1) mNil))))) (mRet (mC (.bl false))) mNext)) (mRet (mC (.bl true)))))) :=
  have nd : (["script", "hand", "known", "turn"] : List Str).Nodup := sc_law.nd
  (xss_cons (xs_set (vs_set (i := 2) nd rfl (loc_by (sc := (defScope (topS 40))) (by decide +kernel)) (xe_lst (xa_cons (xe_f (ve_call C_by_growth (hr.mono (by first | omega | exact Nat.le_refl _)) (gl_by (defScope (topS 40))) (xa_cons (xe_c ve_int) (xa_cons (xe_c ve_int) xa_nil)))) (xa_cons (xe_f (ve_call C_by_growth (hr.mono (by first | omega | exact Nat.le_refl _)) (gl_by (defScope (topS 40))) (xa_cons (xe_c ve_int) (xa_cons (xe_c ve_int) xa_nil)))) (xa_cons (xe_f (ve_call C_by_growth (hr.mono (by first | omega | exact Nat.le_refl _)) (gl_by (defScope (topS 40))) (xa_cons (xe_c ve_int) (xa_cons (xe_c ve_int) xa_nil)))) (xa_cons (xe_f (ve_call C_by_growth (hr.mono (by first | omega | exact Nat.le_refl _)) (gl_by (defScope (topS 40))) (xa_cons (xe_c ve_int) (xa_cons (xe_c ve_int) xa_nil)))) (xa_cons (xe_f (ve_call C_by_growth (hr.mono (by first | omega | exact Nat.le_refl _)) (gl_by (defScope (topS 40))) (xa_cons (xe_c ve_int) (xa_cons (xe_c ve_int) xa_nil)))) (xa_cons (xe_f (ve_call C_by_growth (hr.mono (by first | omega | exact Nat.le_refl _)) (gl_by (defScope (topS 40))) (xa_cons (xe_c ve_int) (xa_cons (xe_c ve_int) xa_nil)))) xa_nil))))))))) (xss_cons (xs_if (xt_cmp (vt_ne (hu64 hr) (xe_b (ve_callB (call_reprD rfl hr) ser_repr (gl_by (defScope (topS 40))) T.m_repr boot_repr (xa_cons (xe_v (ve_name (i := 2) rfl (vis_by (sc := (defScope (topS 40))) (by decide +kernel)))) xa_nil)) bRepr_ok) (xe_b (ve_callB (call_reprD rfl hr) ser_repr (gl_by (defScope (topS 40))) T.m_repr boot_repr (xa_cons (xe_lst (xa_cons (xe_tup (xa_cons (xe_c ve_int) (xa_cons (xe_c ve_int) xa_nil))) (xa_cons (xe_tup (xa_cons (xe_c ve_int) (xa_cons (xe_c ve_int) xa_nil))) (xa_cons (xe_tup (xa_cons (xe_c ve_int) (xa_cons (xe_c ve_int) xa_nil))) (xa_cons (xe_c ve_non) (xa_cons (xe_c ve_non) (xa_cons (xe_c ve_non) xa_nil))))))) xa_nil)) bRepr_ok)) pNe_ok) (xss_one (xs_ret (xe_c ve_bl))) xss_nil) (xss_cons (xs_for (vs_for PassesOwn.never rfl (xi_rng1 (vi_rng1 (gl_by (defScope (topS 40))) T.m_range (xa_cons (xe_c ve_int) xa_nil))) (xg_name (vg_name (i := 3) nd rfl (loc_by (sc := (defScope (topS 40))) (by decide +kernel)) (hf := .inl rfl))) (xss_one (xs_if (xt_bool (xw_or (xt_not (xt_of (vt_val (xe_f (ve_call C__law_is_polygon_right (hr.mono (by first | omega | exact Nat.le_refl _)) (gl_by (defScope (topS 40))) (xa_cons (xe_f (ve_call C__law_polygon (hr.mono (by first | omega | exact Nat.le_refl _)) (gl_by (defScope (topS 40))) (xa_cons (xe_v (ve_name (i := 1) rfl (vis_by (sc := (defScope (topS 40))) (by decide +kernel)))) (xa_cons (xe_c ve_int) xa_nil)))) xa_nil)))))) (xw_or1 (xt_not (xt_of (vt_val (xe_f (ve_call C__law_is_pair_right (hr.mono (by first | omega | exact Nat.le_refl _)) (gl_by (defScope (topS 40))) (xa_cons (xe_v (ve_name (i := 1) rfl (vis_by (sc := (defScope (topS 40))) (by decide +kernel)))) xa_nil))))))))) (xss_one (xs_ret (xe_c ve_bl))) xss_nil)))) (xss_one (xs_ret (xe_c ve_bl))))))
end
section
variable {P : Program} {w : World} {K : PySem.W.Frag} {mg : Str → Option Value} {base : Heap} {f fH : Addr} {fd fdH : FuncData}
abbrev FnP (K : PySem.W.Frag) (x : Str) (st : Stmt) (f : Addr) (fd : FuncData) : Prop := FunD K x x (defArgs st) (defBody st) (defScope st) [] [] f fd
theorem a__law_hand (T : Facts mg) (F : FnP K "_law_hand" (topS 29) fH fdH) : FnG P w K mg base 1 fH fdH ["script"] (spHand K) := H2.fnG_hand F sc__law_hand (by decide) fun cdv A outer s H => d__law_hand T
theorem a__law_back (T : Facts mg) (F : FnP K "_law_back" (topS 37) f fd) (hg : mg "_law_back" = some (.ref f)) : Cal P w K mg base "_law_back" 2 1 (VX.SM V75.c__law_back) := by
  rw [V75.q__law_back]
  exact cal_of F hg sc__law_back rfl (fun _ _ _ _ _ _ us hl => match us, hl with | [_, _], _ => rfl) (fun cdv A outer s H hr => d__law_back T  (Nat.le_refl _) hr) VX.v_run
theorem a__law_draw (T : Facts mg) (F : FnP K "_law_draw" (topS 30) f fd) (hg : mg "_law_draw" = some (.ref f)) : Cal P w K mg base "_law_draw" 2 1 (VX.SM VX.c__law_draw) := Cal.imp (S := S__law_draw) ⟨f, fd, _, F62.fnG_draw F sc__law_draw fun cdv A outer s H => d__law_draw T, hg, F.kp, F.bindsN fun _ _ _ _ _ _ us hl => match us, hl with | [_, _], _ => rfl⟩ VX.draw_ok
theorem a_is_integer (T : Facts mg) (F : FnP K "is_integer" (topS 6) f fd) (hg : mg "is_integer" = some (.ref f)) : Cal P w K mg base "is_integer" 1 1 (VX.SM VR.c_is_integer) := by
  rw [VR.q_is_integer]
  exact cal_of F hg sc_is_integer rfl (fun _ _ _ _ _ _ us hl => match us, hl with | [_], _ => rfl) (fun cdv A outer s H hr => d_is_integer T  (Nat.le_refl _) hr) VX.v_run
theorem a_by_growth (T : Facts mg) (C_is_integer : Cal P w K mg base "is_integer" 1 1 (VX.SM VR.c_is_integer)) (F : FnP K "by_growth" (topS 27) f fd) (hg : mg "by_growth" = some (.ref f)) : Cal P w K mg base "by_growth" 2 2 (VX.SM VP.c_by_growth) := by
  rw [VP.q_by_growth]
  exact cal_of F hg sc_by_growth rfl (fun _ _ _ _ _ _ us hl => match us, hl with | [_, _], _ => rfl) (fun cdv A outer s H hr => d_by_growth T C_is_integer (Nat.le_refl _) hr) VX.v_run
theorem a__law_is_pair_right (T : Facts mg) (C__law_back : Cal P w K mg base "_law_back" 2 1 (VX.SM V75.c__law_back)) (C__law_draw : Cal P w K mg base "_law_draw" 2 1 (VX.SM VX.c__law_draw)) (C_by_growth : Cal P w K mg base "by_growth" 2 2 (VX.SM VP.c_by_growth)) (F : FnP K "_law_is_pair_right" (topS 39) f fd) (hg : mg "_law_is_pair_right" = some (.ref f)) : Cal P w K mg base "_law_is_pair_right" 1 3 (VX.SM V75.c__law_is_pair_right) := by
  rw [V75.q__law_is_pair_right]
  exact cal_of F hg sc__law_is_pair_right rfl (fun _ _ _ _ _ _ us hl => match us, hl with | [_], _ => rfl) (fun cdv A outer s H hr => d__law_is_pair_right T C__law_back C__law_draw C_by_growth (Nat.le_refl _) hr) VX.v_run
theorem a__law_part (T : Facts mg) (F : FnP K "_law_part" (topS 32) f fd) (hg : mg "_law_part" = some (.ref f)) : Cal P w K mg base "_law_part" 2 1 (VX.SM V75.c__law_part) := by
  rw [V75.q__law_part]
  exact cal_of F hg sc__law_part rfl (fun _ _ _ _ _ _ us hl => match us, hl with | [_, _], _ => rfl) (fun cdv A outer s H hr => d__law_part T  (Nat.le_refl _) hr) VX.v_run
theorem a__law_sizes (T : Facts mg) (C__law_part : Cal P w K mg base "_law_part" 2 1 (VX.SM V75.c__law_part)) (F : FnP K "_law_sizes" (topS 36) f fd) (hg : mg "_law_sizes" = some (.ref f)) : Cal P w K mg base "_law_sizes" 1 2 (VX.SM V75.c__law_sizes) := by
  rw [V75.q__law_sizes]
  exact cal_of F hg sc__law_sizes rfl (fun _ _ _ _ _ _ us hl => match us, hl with | [_], _ => rfl) (fun cdv A outer s H hr => d__law_sizes T C__law_part (Nat.le_refl _) hr) VX.v_run
theorem a_is_within (T : Facts mg) (C_is_integer : Cal P w K mg base "is_integer" 1 1 (VX.SM VR.c_is_integer)) (F : FnP K "is_within" (topS 7) f fd) (hg : mg "is_within" = some (.ref f)) : Cal P w K mg base "is_within" 3 2 (VX.SM VR.c_is_within) := by
  rw [VR.q_is_within]
  exact cal_of F hg sc_is_within rfl (fun _ _ _ _ _ _ us hl => match us, hl with | [_, _, _], _ => rfl) (fun cdv A outer s H hr => d_is_within T C_is_integer (Nat.le_refl _) hr) VX.v_run
theorem a_is_dot (T : Facts mg) (C_is_within : Cal P w K mg base "is_within" 3 2 (VX.SM VR.c_is_within)) (F : FnP K "is_dot" (topS 8) f fd) (hg : mg "is_dot" = some (.ref f)) : Cal P w K mg base "is_dot" 1 3 (VX.SM VR.c_is_dot) := by
  rw [VR.q_is_dot]
  exact cal_of F hg sc_is_dot rfl (fun _ _ _ _ _ _ us hl => match us, hl with | [_], _ => rfl) (fun cdv A outer s H hr => d_is_dot T C_is_within (Nat.le_refl _) hr) VX.v_run
theorem a_are_dots (T : Facts mg) (C_is_dot : Cal P w K mg base "is_dot" 1 3 (VX.SM VR.c_is_dot)) (F : FnP K "are_dots" (topS 13) f fd) (hg : mg "are_dots" = some (.ref f)) : Cal P w K mg base "are_dots" 1 4 (VX.SM VP.c_are_dots) := by
  rw [VP.q_are_dots]
  exact cal_of F hg sc_are_dots rfl (fun _ _ _ _ _ _ us hl => match us, hl with | [_], _ => rfl) (fun cdv A outer s H hr => d_are_dots T C_is_dot (Nat.le_refl _) hr) VX.v_run
theorem a_less (T : Facts mg) (F : FnP K "less" (topS 14) f fd) (hg : mg "less" = some (.ref f)) : Cal P w K mg base "less" 2 1 (VX.SM VP.c_less) := by
  rw [VP.q_less]
  exact cal_of F hg sc_less rfl (fun _ _ _ _ _ _ us hl => match us, hl with | [_, _], _ => rfl) (fun cdv A outer s H hr => d_less T  (Nat.le_refl _) hr) VX.v_run
theorem a_raw_turn (T : Facts mg) (F : FnP K "raw_turn" (topS 10) f fd) (hg : mg "raw_turn" = some (.ref f)) : Cal P w K mg base "raw_turn" 2 1 (VX.SM VR.c_raw_turn) := by
  rw [VR.q_raw_turn]
  exact cal_of F hg sc_raw_turn rfl (fun _ _ _ _ _ _ us hl => match us, hl with | [_, _], _ => rfl) (fun cdv A outer s H hr => d_raw_turn T  (Nat.le_refl _) hr) VX.v_run
theorem a_chain_by (T : Facts mg) (C_less : Cal P w K mg base "less" 2 1 (VX.SM VP.c_less)) (C_raw_turn : Cal P w K mg base "raw_turn" 2 1 (VX.SM VR.c_raw_turn)) (F : FnP K "chain_by" (topS 15) f fd) (hg : mg "chain_by" = some (.ref f)) : Cal P w K mg base "chain_by" 1 2 (VX.SM VP.c_chain_by) := by
  rw [VP.q_chain_by]
  exact cal_of F hg sc_chain_by rfl (fun _ _ _ _ _ _ us hl => match us, hl with | [_], _ => rfl) (fun cdv A outer s H hr => d_chain_by T C_less C_raw_turn (Nat.le_refl _) hr) VX.v_run
theorem a_raw_hull (T : Facts mg) (C_chain_by : Cal P w K mg base "chain_by" 1 2 (VX.SM VP.c_chain_by)) (F : FnP K "raw_hull" (topS 16) f fd) (hg : mg "raw_hull" = some (.ref f)) : Cal P w K mg base "raw_hull" 1 3 (VX.SM VP.c_raw_hull) := by
  rw [VP.q_raw_hull]
  exact cal_of F hg sc_raw_hull rfl (fun _ _ _ _ _ _ us hl => match us, hl with | [_], _ => rfl) (fun cdv A outer s H hr => d_raw_hull T C_chain_by (Nat.le_refl _) hr) VX.v_run
theorem a_is_polygon (T : Facts mg) (C_are_dots : Cal P w K mg base "are_dots" 1 4 (VX.SM VP.c_are_dots)) (C_raw_hull : Cal P w K mg base "raw_hull" 1 3 (VX.SM VP.c_raw_hull)) (F : FnP K "is_polygon" (topS 17) f fd) (hg : mg "is_polygon" = some (.ref f)) : Cal P w K mg base "is_polygon" 1 5 (VX.SM VP.c_is_polygon) := by
  rw [VP.q_is_polygon]
  exact cal_of F hg sc_is_polygon rfl (fun _ _ _ _ _ _ us hl => match us, hl with | [_], _ => rfl) (fun cdv A outer s H hr => d_is_polygon T C_are_dots C_raw_hull (Nat.le_refl _) hr) VX.v_run
theorem a_check_polygon (T : Facts mg) (C_is_polygon : Cal P w K mg base "is_polygon" 1 5 (VX.SM VP.c_is_polygon)) (F : FnP K "check_polygon" (topS 18) f fd) (hg : mg "check_polygon" = some (.ref f)) : Cal P w K mg base "check_polygon" 1 6 (VX.SM VP.c_check_polygon) := by
  rw [VP.q_check_polygon]
  exact cal_of F hg sc_check_polygon rfl (fun _ _ _ _ _ _ us hl => match us, hl with | [_], _ => rfl) (fun cdv A outer s H hr => d_check_polygon T C_is_polygon (Nat.le_refl _) hr) VX.v_run
theorem a_check_times (T : Facts mg) (C_check_polygon : Cal P w K mg base "check_polygon" 1 6 (VX.SM VP.c_check_polygon)) (C_is_within : Cal P w K mg base "is_within" 3 2 (VX.SM VR.c_is_within)) (F : FnP K "check_times" (topS 24) f fd) (hg : mg "check_times" = some (.ref f)) : Cal P w K mg base "check_times" 3 7 (VX.SM VP.c_check_times) := by
  rw [VP.q_check_times]
  exact cal_of F hg sc_check_times rfl (fun _ _ _ _ _ _ us hl => match us, hl with | [_, _, _], _ => rfl) (fun cdv A outer s H hr => d_check_times T C_check_polygon C_is_within (Nat.le_refl _) hr) VX.v_run
theorem a_dots_by (T : Facts mg) (F : FnP K "dots_by" (topS 25) f fd) (hg : mg "dots_by" = some (.ref f)) : Cal P w K mg base "dots_by" 3 1 (VX.SM VP.c_dots_by) := by
  rw [VP.q_dots_by]
  exact cal_of F hg sc_dots_by rfl (fun _ _ _ _ _ _ us hl => match us, hl with | [_, _, _], _ => rfl) (fun cdv A outer s H hr => d_dots_by T  (Nat.le_refl _) hr) VX.v_run
theorem a_common_divisor (T : Facts mg) (F : FnP K "common_divisor" (topS 9) f fd) (hg : mg "common_divisor" = some (.ref f)) : Cal P w K mg base "common_divisor" 2 1 (VX.SM VR.c_common_divisor) := by
  rw [VR.q_common_divisor]
  exact cal_of F hg sc_common_divisor rfl (fun _ _ _ _ _ _ us hl => match us, hl with | [_, _], _ => rfl) (fun cdv A outer s H hr => d_common_divisor T  (Nat.le_refl _) hr) VX.v_run
theorem a_sides_of (T : Facts mg) (C_less : Cal P w K mg base "less" 2 1 (VX.SM VP.c_less)) (F : FnP K "sides_of" (topS 19) f fd) (hg : mg "sides_of" = some (.ref f)) : Cal P w K mg base "sides_of" 1 2 (VX.SM VP.c_sides_of) := by
  rw [VP.q_sides_of]
  exact cal_of F hg sc_sides_of rfl (fun _ _ _ _ _ _ us hl => match us, hl with | [_], _ => rfl) (fun cdv A outer s H hr => d_sides_of T C_less (Nat.le_refl _) hr) VX.v_run
theorem a_raw_border (T : Facts mg) (C_common_divisor : Cal P w K mg base "common_divisor" 2 1 (VX.SM VR.c_common_divisor)) (C_sides_of : Cal P w K mg base "sides_of" 1 2 (VX.SM VP.c_sides_of)) (F : FnP K "raw_border" (topS 21) f fd) (hg : mg "raw_border" = some (.ref f)) : Cal P w K mg base "raw_border" 1 3 (VX.SM VP.c_raw_border) := by
  rw [VP.q_raw_border]
  exact cal_of F hg sc_raw_border rfl (fun _ _ _ _ _ _ us hl => match us, hl with | [_], _ => rfl) (fun cdv A outer s H hr => d_raw_border T C_common_divisor C_sides_of (Nat.le_refl _) hr) VX.v_run
theorem a_raw_double (T : Facts mg) (C_raw_turn : Cal P w K mg base "raw_turn" 2 1 (VX.SM VR.c_raw_turn)) (F : FnP K "raw_double" (topS 20) f fd) (hg : mg "raw_double" = some (.ref f)) : Cal P w K mg base "raw_double" 1 2 (VX.SM VP.c_raw_double) := by
  rw [VP.q_raw_double]
  exact cal_of F hg sc_raw_double rfl (fun _ _ _ _ _ _ us hl => match us, hl with | [_], _ => rfl) (fun cdv A outer s H hr => d_raw_double T C_raw_turn (Nat.le_refl _) hr) VX.v_run
theorem a_dots_in (T : Facts mg) (C_check_times : Cal P w K mg base "check_times" 3 7 (VX.SM VP.c_check_times)) (C_dots_by : Cal P w K mg base "dots_by" 3 1 (VX.SM VP.c_dots_by)) (C_raw_border : Cal P w K mg base "raw_border" 1 3 (VX.SM VP.c_raw_border)) (C_raw_double : Cal P w K mg base "raw_double" 1 2 (VX.SM VP.c_raw_double)) (F : FnP K "dots_in" (topS 26) f fd) (hg : mg "dots_in" = some (.ref f)) : Cal P w K mg base "dots_in" 2 8 (VX.SM VP.c_dots_in) := by
  rw [VP.q_dots_in]
  exact cal_of F hg sc_dots_in rfl (fun _ _ _ _ _ _ us hl => match us, hl with | [_, _], _ => rfl) (fun cdv A outer s H hr => d_dots_in T C_check_times C_dots_by C_raw_border C_raw_double (Nat.le_refl _) hr) VX.v_run
theorem a__law_is_polygon_right (T : Facts mg) (C__law_sizes : Cal P w K mg base "_law_sizes" 1 2 (VX.SM V75.c__law_sizes)) (C_by_growth : Cal P w K mg base "by_growth" 2 2 (VX.SM VP.c_by_growth)) (C_dots_in : Cal P w K mg base "dots_in" 2 8 (VX.SM VP.c_dots_in)) (F : FnP K "_law_is_polygon_right" (topS 38) f fd) (hg : mg "_law_is_polygon_right" = some (.ref f)) : Cal P w K mg base "_law_is_polygon_right" 1 9 (VX.SM V75.c__law_is_polygon_right) := by
  rw [V75.q__law_is_polygon_right]
  exact cal_of F hg sc__law_is_polygon_right rfl (fun _ _ _ _ _ _ us hl => match us, hl with | [_], _ => rfl) (fun cdv A outer s H hr => d__law_is_polygon_right T C__law_sizes C_by_growth C_dots_in (Nat.le_refl _) hr) VX.v_run
theorem a__law_turn (T : Facts mg) (F : FnP K "_law_turn" (topS 33) f fd) (hg : mg "_law_turn" = some (.ref f)) : Cal P w K mg base "_law_turn" 3 1 (VX.SM V75.c__law_turn) := by
  rw [V75.q__law_turn]
  exact cal_of F hg sc__law_turn rfl (fun _ _ _ _ _ _ us hl => match us, hl with | [_, _, _], _ => rfl) (fun cdv A outer s H hr => d__law_turn T  (Nat.le_refl _) hr) VX.v_run
theorem a__law_hull (T : Facts mg) (C__law_turn : Cal P w K mg base "_law_turn" 3 1 (VX.SM V75.c__law_turn)) (F : FnP K "_law_hull" (topS 34) f fd) (hg : mg "_law_hull" = some (.ref f)) : Cal P w K mg base "_law_hull" 1 2 (VX.SM V75.c__law_hull) := by
  rw [V75.q__law_hull]
  exact cal_of F hg sc__law_hull rfl (fun _ _ _ _ _ _ us hl => match us, hl with | [_], _ => rfl) (fun cdv A outer s H hr => d__law_hull T C__law_turn (Nat.le_refl _) hr) VX.v_run
theorem a__law_some (T : Facts mg) (C__law_draw : Cal P w K mg base "_law_draw" 2 1 (VX.SM VX.c__law_draw)) (F : FnP K "_law_some" (topS 31) f fd) (hg : mg "_law_some" = some (.ref f)) : Cal P w K mg base "_law_some" 2 2 (VX.SM V75.c__law_some) := by
  rw [V75.q__law_some]
  exact cal_of F hg sc__law_some rfl (fun _ _ _ _ _ _ us hl => match us, hl with | [_, _], _ => rfl) (fun cdv A outer s H hr => d__law_some T C__law_draw (Nat.le_refl _) hr) VX.v_run
theorem a__law_polygon (T : Facts mg) (C__law_draw : Cal P w K mg base "_law_draw" 2 1 (VX.SM VX.c__law_draw)) (C__law_hull : Cal P w K mg base "_law_hull" 1 2 (VX.SM V75.c__law_hull)) (C__law_some : Cal P w K mg base "_law_some" 2 2 (VX.SM V75.c__law_some)) (F : FnP K "_law_polygon" (topS 35) f fd) (hg : mg "_law_polygon" = some (.ref f)) : Cal P w K mg base "_law_polygon" 2 3 (VX.SM V75.c__law_polygon) := by
  rw [V75.q__law_polygon]
  exact cal_of F hg sc__law_polygon rfl (fun _ _ _ _ _ _ us hl => match us, hl with | [_, _], _ => rfl) (fun cdv A outer s H hr => d__law_polygon T C__law_draw C__law_hull C__law_some (Nat.le_refl _) hr) VX.v_run
theorem a_law (T : Facts mg) (FH : FnP K "_law_hand" (topS 29) fH fdH) (gH : mg "_law_hand" = some (.ref fH)) (C__law_is_pair_right : Cal P w K mg base "_law_is_pair_right" 1 3 (VX.SM V75.c__law_is_pair_right)) (C__law_is_polygon_right : Cal P w K mg base "_law_is_polygon_right" 1 9 (VX.SM V75.c__law_is_polygon_right)) (C__law_polygon : Cal P w K mg base "_law_polygon" 2 3 (VX.SM V75.c__law_polygon)) (C_by_growth : Cal P w K mg base "by_growth" 2 2 (VX.SM VP.c_by_growth)) (F : FnP K "law" (topS 40) f fd) : FnG P w K mg base 10 f fd ["script"] (spLaw K) :=
  fnG_law (st := (defBody (topS 40)).getD 0 (.Pass ⟨0, 0, 0, 0⟩)) (rest := (defBody (topS 40)).drop 1) (N := ["script", "hand", "known", "turn"]) F sc_law (by decide) ((a__law_hand T FH).mono (by decide))
    (fun cdv A outer s H hr => ps_set (i := 1) sc_law.nd rfl (loc_by (sc := (defScope (topS 40))) (by decide +kernel)) (pe_callG (a__law_hand T FH) (hr.mono (by decide)) (gl_by (defScope (topS 40))) gH FH.kp (FH.bindsN (fun _ _ _ _ _ _ us hl => match us, hl with | [_], _ => rfl)) (pa_cons (pe_var (i := 0) rfl (vis_by (sc := (defScope (topS 40))) (by decide +kernel))) pa_nil) (by decide) rfl rfl) rfl (.inl rfl))
    (fun cdv A outer s H hr => d_law T C__law_is_pair_right C__law_is_polygon_right C__law_polygon C_by_growth (Nat.le_refl _) hr) (VX.law_run (s := V75.s_law) (n := 4) V75.o_law.all)
end
def dfD (x : Str) (i : Nat) : He.DefD := ⟨(x, none), x, x, defArgs (topS i), defBody (topS i), defScope (topS i), [], []⟩
def fn : List He.DefD := ([dfD "is_integer" 6, dfD "is_within" 7, dfD "is_dot" 8, dfD "common_divisor" 9, dfD "raw_turn" 10, dfD "are_dots" 13, dfD "less" 14, dfD "chain_by" 15, dfD "raw_hull" 16, dfD "is_polygon" 17, dfD "check_polygon" 18, dfD "sides_of" 19, dfD "raw_double" 20, dfD "raw_border" 21, dfD "check_times" 24, dfD "dots_by" 25, dfD "dots_in" 26, dfD "by_growth" 27, dfD "_law_hand" 29, dfD "_law_draw" 30, dfD "_law_some" 31, dfD "_law_part" 32, dfD "_law_turn" 33, dfD "_law_hull" 34, dfD "_law_polygon" 35, dfD "_law_sizes" 36, dfD "_law_back" 37, dfD "_law_is_polygon_right" 38] : List He.DefD) ++ ([dfD "_law_is_pair_right" 39, dfD "law" 40] : List He.DefD)
def fa : List He.Fa := ([.glo "is_integer", .glo "is_within", .glo "is_dot", .glo "common_divisor", .glo "raw_turn", .glo "are_dots", .glo "less", .glo "chain_by", .glo "raw_hull", .glo "is_polygon", .glo "check_polygon", .glo "sides_of", .glo "raw_double", .glo "raw_border", .glo "check_times", .glo "dots_by", .glo "dots_in", .glo "by_growth", .glo "_law_hand", .glo "_law_draw", .glo "_law_some", .glo "_law_part", .glo "_law_turn", .glo "_law_hull", .glo "_law_polygon", .glo "_law_sizes", .glo "_law_back", .glo "_law_is_polygon_right"] : List He.Fa) ++ ([.glo "_law_is_pair_right", .glo "law", .free "abs", .free "all", .free "bool", .free "enumerate", .free "int", .free "isinstance", .free "len", .free "max", .free "range", .free "repr", .free "set", .free "sorted", .free "sum", .free "tuple", .free "zip", .int "MOST_DOTS" 40, .int "MOST_PLACE" 10000, .int "MOST_TIMES" 1000000] : List He.Fa)
abbrev R : PySem.W.OpenRow := PySem.W.OpenLaw.row PySem.Challenge.rw_fanrounds_k75_whole_growth_told_back
abbrev hk : PySem.W.Hook := He.hookD 4 fa fn
def ob (s : PySem.W.SharedT) : He.AlD := He.obsDG 4 fa fn (HandSHeadRun.getT s)
theorem ob_eq (s : PySem.W.SharedT) : ob s = hk.obs s.abs := He.obsDG_eq (HandSHeadRun.getT_eq s)
def nms : List Str := (["FanError", "NoNumber", "NoPolygon", "MOST_PLACE", "is_integer", "is_within", "is_dot", "common_divisor", "raw_turn", "MOST_DOTS", "are_dots", "less", "chain_by", "raw_hull", "is_polygon", "check_polygon", "sides_of", "raw_double", "raw_border", "MOST_TIMES", "check_times", "dots_by", "dots_in", "by_growth", "_law_hand", "_law_draw", "_law_some", "_law_part"] : List Str) ++ (["_law_turn", "_law_hull", "_law_polygon", "_law_sizes", "_law_back", "_law_is_polygon_right", "_law_is_pair_right"] : List Str)
theorem run (w : World) : HandSHeadRun.RunEq R (PySem.W.view R.prog [40]) hk ob 8000 nms w := by
  intro os
  kernel_rfl
theorem facts {K : PySem.W.Frag} {h : Heap} {mg : Str → Option Value} (X : K.In h) (G : h.Ns mainGlobals mg) (c : He.SaysD fa fn K) : Facts mg := ⟨He.free_ok X G (c.fact 30 rfl), He.free_ok X G (c.fact 31 rfl), He.free_ok X G (c.fact 32 rfl), He.free_ok X G (c.fact 33 rfl), He.free_ok X G (c.fact 34 rfl), He.free_ok X G (c.fact 35 rfl), He.free_ok X G (c.fact 36 rfl), He.free_ok X G (c.fact 37 rfl), He.free_ok X G (c.fact 38 rfl), He.free_ok X G (c.fact 39 rfl), He.free_ok X G (c.fact 40 rfl), He.free_ok X G (c.fact 41 rfl), He.free_ok X G (c.fact 42 rfl), He.free_ok X G (c.fact 43 rfl), He.free_ok X G (c.fact 44 rfl), He.int_ok X G (c.fact 45 rfl), He.int_ok X G (c.fact 46 rfl), He.int_ok X G (c.fact 47 rfl)⟩
theorem all_ {P : Program} {w : World} {K : PySem.W.Frag} {h : Heap} {mg : Str → Option Value} {f : Addr} (X : K.In h) (G : h.Ns mainGlobals mg) (hfa : mg ("law" : Str) = some (.ref f)) (c : He.SaysD fa fn K) :
    ∃ fd : FuncData, (∀ (s : Shared) (v : Value), BindsTo s fd ⟨[v], []⟩ [("script", v)]) ∧ ∀ base : Heap, K.In base → base.Ns mainGlobals mg → FnG P w K mg base 10 f fd ["script"] (spLaw K) := by
  have T := facts X G c
  obtain ⟨fd__law_hand, F__law_hand⟩ := c.def_ 18 (d := dfD "_law_hand" 29) rfl
  have g__law_hand : mg "_law_hand" = _ := He.glo_ok X G (c.fact 18 (f := .glo "_law_hand") rfl)
  obtain ⟨fd__law_back, F__law_back⟩ := c.def_ 26 (d := dfD "_law_back" 37) rfl
  have g__law_back : mg "_law_back" = _ := He.glo_ok X G (c.fact 26 (f := .glo "_law_back") rfl)
  obtain ⟨fd__law_draw, F__law_draw⟩ := c.def_ 19 (d := dfD "_law_draw" 30) rfl
  have g__law_draw : mg "_law_draw" = _ := He.glo_ok X G (c.fact 19 (f := .glo "_law_draw") rfl)
  obtain ⟨fd_is_integer, F_is_integer⟩ := c.def_ 0 (d := dfD "is_integer" 6) rfl
  have g_is_integer : mg "is_integer" = _ := He.glo_ok X G (c.fact 0 (f := .glo "is_integer") rfl)
  obtain ⟨fd_by_growth, F_by_growth⟩ := c.def_ 17 (d := dfD "by_growth" 27) rfl
  have g_by_growth : mg "by_growth" = _ := He.glo_ok X G (c.fact 17 (f := .glo "by_growth") rfl)
  obtain ⟨fd__law_is_pair_right, F__law_is_pair_right⟩ := c.def_ 28 (d := dfD "_law_is_pair_right" 39) rfl
  have g__law_is_pair_right : mg "_law_is_pair_right" = _ := He.glo_ok X G (c.fact 28 (f := .glo "_law_is_pair_right") rfl)
  obtain ⟨fd__law_part, F__law_part⟩ := c.def_ 21 (d := dfD "_law_part" 32) rfl
  have g__law_part : mg "_law_part" = _ := He.glo_ok X G (c.fact 21 (f := .glo "_law_part") rfl)
  obtain ⟨fd__law_sizes, F__law_sizes⟩ := c.def_ 25 (d := dfD "_law_sizes" 36) rfl
  have g__law_sizes : mg "_law_sizes" = _ := He.glo_ok X G (c.fact 25 (f := .glo "_law_sizes") rfl)
  obtain ⟨fd_is_within, F_is_within⟩ := c.def_ 1 (d := dfD "is_within" 7) rfl
  have g_is_within : mg "is_within" = _ := He.glo_ok X G (c.fact 1 (f := .glo "is_within") rfl)
  obtain ⟨fd_is_dot, F_is_dot⟩ := c.def_ 2 (d := dfD "is_dot" 8) rfl
  have g_is_dot : mg "is_dot" = _ := He.glo_ok X G (c.fact 2 (f := .glo "is_dot") rfl)
  obtain ⟨fd_are_dots, F_are_dots⟩ := c.def_ 5 (d := dfD "are_dots" 13) rfl
  have g_are_dots : mg "are_dots" = _ := He.glo_ok X G (c.fact 5 (f := .glo "are_dots") rfl)
  obtain ⟨fd_less, F_less⟩ := c.def_ 6 (d := dfD "less" 14) rfl
  have g_less : mg "less" = _ := He.glo_ok X G (c.fact 6 (f := .glo "less") rfl)
  obtain ⟨fd_raw_turn, F_raw_turn⟩ := c.def_ 4 (d := dfD "raw_turn" 10) rfl
  have g_raw_turn : mg "raw_turn" = _ := He.glo_ok X G (c.fact 4 (f := .glo "raw_turn") rfl)
  obtain ⟨fd_chain_by, F_chain_by⟩ := c.def_ 7 (d := dfD "chain_by" 15) rfl
  have g_chain_by : mg "chain_by" = _ := He.glo_ok X G (c.fact 7 (f := .glo "chain_by") rfl)
  obtain ⟨fd_raw_hull, F_raw_hull⟩ := c.def_ 8 (d := dfD "raw_hull" 16) rfl
  have g_raw_hull : mg "raw_hull" = _ := He.glo_ok X G (c.fact 8 (f := .glo "raw_hull") rfl)
  obtain ⟨fd_is_polygon, F_is_polygon⟩ := c.def_ 9 (d := dfD "is_polygon" 17) rfl
  have g_is_polygon : mg "is_polygon" = _ := He.glo_ok X G (c.fact 9 (f := .glo "is_polygon") rfl)
  obtain ⟨fd_check_polygon, F_check_polygon⟩ := c.def_ 10 (d := dfD "check_polygon" 18) rfl
  have g_check_polygon : mg "check_polygon" = _ := He.glo_ok X G (c.fact 10 (f := .glo "check_polygon") rfl)
  obtain ⟨fd_check_times, F_check_times⟩ := c.def_ 14 (d := dfD "check_times" 24) rfl
  have g_check_times : mg "check_times" = _ := He.glo_ok X G (c.fact 14 (f := .glo "check_times") rfl)
  obtain ⟨fd_dots_by, F_dots_by⟩ := c.def_ 15 (d := dfD "dots_by" 25) rfl
  have g_dots_by : mg "dots_by" = _ := He.glo_ok X G (c.fact 15 (f := .glo "dots_by") rfl)
  obtain ⟨fd_common_divisor, F_common_divisor⟩ := c.def_ 3 (d := dfD "common_divisor" 9) rfl
  have g_common_divisor : mg "common_divisor" = _ := He.glo_ok X G (c.fact 3 (f := .glo "common_divisor") rfl)
  obtain ⟨fd_sides_of, F_sides_of⟩ := c.def_ 11 (d := dfD "sides_of" 19) rfl
  have g_sides_of : mg "sides_of" = _ := He.glo_ok X G (c.fact 11 (f := .glo "sides_of") rfl)
  obtain ⟨fd_raw_border, F_raw_border⟩ := c.def_ 13 (d := dfD "raw_border" 21) rfl
  have g_raw_border : mg "raw_border" = _ := He.glo_ok X G (c.fact 13 (f := .glo "raw_border") rfl)
  obtain ⟨fd_raw_double, F_raw_double⟩ := c.def_ 12 (d := dfD "raw_double" 20) rfl
  have g_raw_double : mg "raw_double" = _ := He.glo_ok X G (c.fact 12 (f := .glo "raw_double") rfl)
  obtain ⟨fd_dots_in, F_dots_in⟩ := c.def_ 16 (d := dfD "dots_in" 26) rfl
  have g_dots_in : mg "dots_in" = _ := He.glo_ok X G (c.fact 16 (f := .glo "dots_in") rfl)
  obtain ⟨fd__law_is_polygon_right, F__law_is_polygon_right⟩ := c.def_ 27 (d := dfD "_law_is_polygon_right" 38) rfl
  have g__law_is_polygon_right : mg "_law_is_polygon_right" = _ := He.glo_ok X G (c.fact 27 (f := .glo "_law_is_polygon_right") rfl)
  obtain ⟨fd__law_turn, F__law_turn⟩ := c.def_ 22 (d := dfD "_law_turn" 33) rfl
  have g__law_turn : mg "_law_turn" = _ := He.glo_ok X G (c.fact 22 (f := .glo "_law_turn") rfl)
  obtain ⟨fd__law_hull, F__law_hull⟩ := c.def_ 23 (d := dfD "_law_hull" 34) rfl
  have g__law_hull : mg "_law_hull" = _ := He.glo_ok X G (c.fact 23 (f := .glo "_law_hull") rfl)
  obtain ⟨fd__law_some, F__law_some⟩ := c.def_ 20 (d := dfD "_law_some" 31) rfl
  have g__law_some : mg "_law_some" = _ := He.glo_ok X G (c.fact 20 (f := .glo "_law_some") rfl)
  obtain ⟨fd__law_polygon, F__law_polygon⟩ := c.def_ 24 (d := dfD "_law_polygon" 35) rfl
  have g__law_polygon : mg "_law_polygon" = _ := He.glo_ok X G (c.fact 24 (f := .glo "_law_polygon") rfl)
  obtain ⟨fd_law, F_law⟩ := c.def_ 29 (d := dfD "law" 40) rfl
  have e := hfa.symm.trans (He.glo_ok X G (c.fact 29 (f := .glo "law") rfl))
  cases e
  have b := FunD.bindsA (ps := ["script"]) F_law fun _ _ _ _ _ _ us hl => match us, hl with | [_], _ => rfl
  refine ⟨fd_law, fun s v => b s [v] rfl, fun base _ _ => ?_⟩
  have C__law_back := a__law_back (P := P) (w := w) (base := base) T F__law_back g__law_back
  have C__law_draw := a__law_draw (P := P) (w := w) (base := base) T F__law_draw g__law_draw
  have C_is_integer := a_is_integer (P := P) (w := w) (base := base) T F_is_integer g_is_integer
  have C_by_growth := a_by_growth (P := P) (w := w) (base := base) T C_is_integer F_by_growth g_by_growth
  have C__law_is_pair_right := a__law_is_pair_right (P := P) (w := w) (base := base) T C__law_back C__law_draw C_by_growth F__law_is_pair_right g__law_is_pair_right
  have C__law_part := a__law_part (P := P) (w := w) (base := base) T F__law_part g__law_part
  have C__law_sizes := a__law_sizes (P := P) (w := w) (base := base) T C__law_part F__law_sizes g__law_sizes
  have C_is_within := a_is_within (P := P) (w := w) (base := base) T C_is_integer F_is_within g_is_within
  have C_is_dot := a_is_dot (P := P) (w := w) (base := base) T C_is_within F_is_dot g_is_dot
  have C_are_dots := a_are_dots (P := P) (w := w) (base := base) T C_is_dot F_are_dots g_are_dots
  have C_less := a_less (P := P) (w := w) (base := base) T F_less g_less
  have C_raw_turn := a_raw_turn (P := P) (w := w) (base := base) T F_raw_turn g_raw_turn
  have C_chain_by := a_chain_by (P := P) (w := w) (base := base) T C_less C_raw_turn F_chain_by g_chain_by
  have C_raw_hull := a_raw_hull (P := P) (w := w) (base := base) T C_chain_by F_raw_hull g_raw_hull
  have C_is_polygon := a_is_polygon (P := P) (w := w) (base := base) T C_are_dots C_raw_hull F_is_polygon g_is_polygon
  have C_check_polygon := a_check_polygon (P := P) (w := w) (base := base) T C_is_polygon F_check_polygon g_check_polygon
  have C_check_times := a_check_times (P := P) (w := w) (base := base) T C_check_polygon C_is_within F_check_times g_check_times
  have C_dots_by := a_dots_by (P := P) (w := w) (base := base) T F_dots_by g_dots_by
  have C_common_divisor := a_common_divisor (P := P) (w := w) (base := base) T F_common_divisor g_common_divisor
  have C_sides_of := a_sides_of (P := P) (w := w) (base := base) T C_less F_sides_of g_sides_of
  have C_raw_border := a_raw_border (P := P) (w := w) (base := base) T C_common_divisor C_sides_of F_raw_border g_raw_border
  have C_raw_double := a_raw_double (P := P) (w := w) (base := base) T C_raw_turn F_raw_double g_raw_double
  have C_dots_in := a_dots_in (P := P) (w := w) (base := base) T C_check_times C_dots_by C_raw_border C_raw_double F_dots_in g_dots_in
  have C__law_is_polygon_right := a__law_is_polygon_right (P := P) (w := w) (base := base) T C__law_sizes C_by_growth C_dots_in F__law_is_polygon_right g__law_is_polygon_right
  have C__law_turn := a__law_turn (P := P) (w := w) (base := base) T F__law_turn g__law_turn
  have C__law_hull := a__law_hull (P := P) (w := w) (base := base) T C__law_turn F__law_hull g__law_hull
  have C__law_some := a__law_some (P := P) (w := w) (base := base) T C__law_draw F__law_some g__law_some
  have C__law_polygon := a__law_polygon (P := P) (w := w) (base := base) T C__law_draw C__law_hull C__law_some F__law_polygon g__law_polygon
  exact a_law T F__law_hand g__law_hand C__law_is_pair_right C__law_is_polygon_right C__law_polygon C_by_growth F_law
end K75
open PySem PySem.W PySem.Calls PyProof.Rows
theorem PySem.Challenge.cw_fanrounds_k75_whole_growth_told_back_holds : PySem.Challenge.rw_fanrounds_k75_whole_growth_told_back.Holds := by
  w_on; o_law
  refine HandSHeadRun.head_any (r := K75.R) (q := view K75.R.prog [40]) (H := K75.hk) (ob := K75.ob) (M := 8000) (loose := K75.nms) (d := HandSHeadRun.topDef K75.R.prog 40) (kwd := []) K75.ob_eq
    (by kernel_rfl) (fun s => by kernel_rfl) K75.run (by kernel_rfl) (by kernel_rfl) (by kernel_rfl) (by rfl) (by first | assumption | decide +kernel) (by decide +kernel) ⟨rfl, rfl, rfl, rfl, rfl, by decide +kernel⟩ ?hw ?hc
  case hw => w_witness2
  case hc =>
    refine VE.walkG (l := PySem.Challenge.rw_fanrounds_k75_whole_growth_told_back) (k := 10) (x := "script") rfl (by kernel_rfl) ⟨⟨rfl, by decide, by decide⟩, rfl⟩ ?F
    intro w mg fa h Y G hmg0
    obtain ⟨K, KX, c⟩ := Y
    have hmg : mg ("law" : PySem.Str) = some (.ref fa) := by
      have e : (HandSHeadRun.topDef K75.R.prog 40).name = ("law" : PySem.Str) := by kernel_rfl
      rw [← e]
      exact hmg0
    obtain ⟨fd, hb, hF⟩ := K75.all_ (P := PySem.Challenge.rw_fanrounds_k75_whole_growth_told_back.prog) (w := w) KX G hmg c
    exact ⟨K, fd, KX, hb, hF⟩
end
