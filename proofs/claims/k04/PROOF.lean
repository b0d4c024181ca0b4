import PyProof.Rows.All
import HandS.ForMost
import HandS.Exc
import HandS.ExcOwn
import HandS.WordsExc
import HandS.TryOnly
import HandS.Defaults
import HandS.Star
import HandS.Flow
import HandS.Wide
import HandS.SortInts
import HandS.TupAny
import HandS.Conv
import HandS.Deep
import HandS.IsInst
import HandS.HeadHook2
import HandS.Style
import KE.KSortedM
import HandS.CallSlots
import HandS.Zip
import HandS.SlotsOwn
import Wide.All
import OpenK.AllK
import Wide.FinOn
import KE.KStateDown
import HandS.Head0
import HandS.Head1
import HandS.Head2
import HandS.HeadEnd
import HandS.HeadHook1
import PySem.Challenge.RW_plainask_k04_box_within
set_option Elab.async false
set_option linter.all false
set_option maxRecDepth 100000
set_option maxHeartbeats 0
/-! Dl0: Python values as data, what represents them, the state of a frame. -/
namespace Dl
open PySem L2

/-! ### data -/
inductive D where
  | non | bl (b : Bool) | int (i : Int) | str (x : Str)
  | lst (xs : List D) | tup (xs : List D)
  | obj (c : Str) (ns : List Str) (ds : List D)
  | dic (ks vs : List D)
  | scr (ns : List Int)
  | ty (n : String) | cls (c : Str)
  deriving Inhabited

section
variable (K : PySem.W.Frag) (G : Hp)
mutual
def Rp : D → V → Prop
  | .non, v => v = .non
  | .bl b, v => v = .bl b
  | .int i, v => v = .int i
  | .str x, v => v = .str x
  | .lst ds, v => ∃ a xs, v = .ref a ∧ G a = some (.lst xs) ∧ RpL ds xs
  | .tup ds, v => ∃ a xs, v = .ref a ∧ SqT K G a xs ∧ RpL ds xs
  | .obj c ns ds, v => ∃ a dx xs, v = .ref a ∧ G a = some (.ins (He.ga K c) dx (ns.zip xs)) ∧ G dx = some (.own a) ∧ ns.length = ds.length ∧ RpL ds xs
  | .dic ks vs, v => ∃ a kvs, v = .ref a ∧ G a = some (.dK kvs) ∧ RpL ks (kvs.map fun p => kV p.1) ∧ RpL vs (kvs.map fun p => p.2)
  | .scr ns, v => ∃ a, v = .ref a ∧ SqL K G a (ns.map V.int)
  | .ty n, v => v = .ty n
  | .cls c, v => v = .ref (He.ga K c)
def RpL : List D → List V → Prop
  | [], xs => xs = []
  | d :: ds, xs => ∃ x r, xs = x :: r ∧ Rp d x ∧ RpL ds r
end
end

theorem Same.seqt {K : PySem.W.Frag} {H H' : Hp} {a : Addr} {xs : List V} (e : Same H H') (h : SqT K H a xs) : SqT K H' a xs := by
  rcases h with (h | ⟨o, h⟩) | h
  · exact .inl (.inl (e _ _ h))
  · exact .inl (.inr ⟨o, e _ _ h⟩)
  · exact .inr h

section
variable {K : PySem.W.Frag} {G G' : Hp}
mutual
theorem Rp.mono (e : Same G G') : ∀ (d : D) (v : V), Rp K G d v → Rp K G' d v
  | .non, _, h => h
  | .bl _, _, h => h
  | .int _, _, h => h
  | .str _, _, h => h
  | .lst ds, _, ⟨a, xs, h1, h2, h3⟩ => ⟨a, xs, h1, e _ _ h2, RpL.mono e ds xs h3⟩
  | .tup ds, _, ⟨a, xs, h1, h2, h3⟩ => ⟨a, xs, h1, Same.seqt e h2, RpL.mono e ds xs h3⟩
  | .obj c ns ds, _, ⟨a, dx, xs, h1, h2, h3, hl, h4⟩ => ⟨a, dx, xs, h1, e _ _ h2, e _ _ h3, hl, RpL.mono e ds xs h4⟩
  | .dic ks vs, _, ⟨a, kvs, h1, h2, h3, h4⟩ => ⟨a, kvs, h1, e _ _ h2, RpL.mono e ks _ h3, RpL.mono e vs _ h4⟩
  | .scr ns, _, ⟨a, h1, h2⟩ => ⟨a, h1, e.seq h2⟩
  | .ty _, _, h => h
  | .cls _, _, h => h
theorem RpL.mono (e : Same G G') : ∀ (ds : List D) (xs : List V), RpL K G ds xs → RpL K G' ds xs
  | [], _, h => h
  | d :: ds, _, ⟨x, r, h1, h2, h3⟩ => ⟨x, r, h1, Rp.mono e d x h2, RpL.mono e ds r h3⟩
end
theorem RpL.length : ∀ {ds : List D} {xs : List V}, RpL K G ds xs → xs.length = ds.length
  | [], _, h => by cases h; rfl
  | d :: ds, _, ⟨x, r, h1, h2, h3⟩ => by rw [h1, List.length_cons, List.length_cons, h3.length]
theorem RpL.get : ∀ {ds : List D} {xs : List V} {i : Nat} {d : D}, RpL K G ds xs → ds[i]? = some d → ∃ x, xs[i]? = some x ∧ Rp K G d x
  | [], _, _, _, _, e => by cases e
  | d :: ds, _, 0, _, ⟨x, r, h1, h2, h3⟩, e => by
    rw [List.getElem?_cons_zero] at e; cases e
    exact ⟨x, by rw [h1]; rfl, h2⟩
  | d :: ds, _, i + 1, _, ⟨x, r, h1, h2, h3⟩, e => by
    rw [List.getElem?_cons_succ] at e
    obtain ⟨y, q1, q2⟩ := h3.get e
    exact ⟨y, by rw [h1, List.getElem?_cons_succ]; exact q1, q2⟩
theorem RpL.get' : ∀ {ds : List D} {xs : List V} {i : Nat} {x : V}, RpL K G ds xs → xs[i]? = some x → ∃ d, ds[i]? = some d ∧ Rp K G d x
  | [], _, _, _, h, e => by cases h; cases e
  | d :: ds, _, 0, _, ⟨x, r, h1, h2, h3⟩, e => by
    rw [h1, List.getElem?_cons_zero] at e; cases e
    exact ⟨d, rfl, h2⟩
  | d :: ds, _, i + 1, _, ⟨x, r, h1, h2, h3⟩, e => by
    rw [h1, List.getElem?_cons_succ] at e
    obtain ⟨y, q1, q2⟩ := h3.get' e
    exact ⟨y, by rw [List.getElem?_cons_succ]; exact q1, q2⟩
theorem RpL.append : ∀ {ds es : List D} {xs ys : List V}, RpL K G ds xs → RpL K G es ys → RpL K G (ds ++ es) (xs ++ ys)
  | [], _, _, _, h, k => by cases h; exact k
  | d :: ds, _, _, _, ⟨x, r, h1, h2, h3⟩, k => ⟨x, r ++ _, by rw [h1]; rfl, h2, h3.append k⟩
theorem RpL.one {d : D} {v : V} (h : Rp K G d v) : RpL K G [d] [v] := ⟨v, [], rfl, h, rfl⟩
theorem RpL.set : ∀ {ds : List D} {xs : List V} {d : D} {v : V} (i : Nat), RpL K G ds xs → Rp K G d v → RpL K G (ds.set i d) (xs.set i v)
  | [], _, _, _, _, h, _ => by cases h; rfl
  | d :: ds, _, _, _, 0, ⟨x, r, h1, h2, h3⟩, k => by subst h1; exact ⟨_, r, rfl, k, h3⟩
  | d :: ds, _, _, _, i + 1, ⟨x, r, h1, h2, h3⟩, k => by subst h1; exact ⟨x, r.set i _, rfl, h2, h3.set i k⟩
theorem RpL.drop : ∀ {ds : List D} {xs : List V} (i : Nat), RpL K G ds xs → RpL K G (ds.drop i) (xs.drop i)
  | [], _, i, h => by cases h; simp [RpL]
  | d :: ds, _, 0, h => h
  | d :: ds, _, i + 1, ⟨x, r, h1, h2, h3⟩ => by subst h1; exact h3.drop i
theorem RpL.take : ∀ {ds : List D} {xs : List V} (i : Nat), RpL K G ds xs → RpL K G (ds.take i) (xs.take i)
  | [], _, i, h => by cases h; simp [RpL]
  | d :: ds, _, 0, h => by simp [RpL]
  | d :: ds, _, i + 1, ⟨x, r, h1, h2, h3⟩ => by subst h1; exact ⟨x, r.take i, rfl, h2, h3.take i⟩
theorem RpL.ints : ∀ {ns : List Int}, RpL K G (ns.map D.int) (ns.map V.int)
  | [] => rfl
  | n :: ns => ⟨.int n, ns.map V.int, rfl, rfl, RpL.ints⟩
theorem RpL.of_ints : ∀ {ns : List Int} {xs : List V}, RpL K G (ns.map D.int) xs → xs = ns.map V.int
  | [], _, h => h
  | n :: ns, _, ⟨x, r, h1, h2, h3⟩ => by
    have h4 : x = .int n := h2
    rw [h1, h4, h3.of_ints]; rfl
end

/-! ### the state of a frame -/
inductive S where
  | no | val (d : D) | own (d : D)
  deriving Inhabited
/-- what stays as it is through a frame's run: F, the objects of others; s0, the arguments as they came -/
structure Cn where
  F : Hp
  s0 : L2.St

/-- an object of the frame's own at a: it may be changed -/
def Ow (K : PySem.W.Frag) (F G H : Hp) (a : Addr) : D → Prop
  | .lst ds => ∃ xs, H a = some (.lst xs) ∧ RpL K G ds xs
  | .obj c ns ds => ∃ dx xs, H a = some (.ins (He.ga K c) dx (ns.zip xs)) ∧ H dx = some (.own a) ∧ G dx = none ∧ F dx = none ∧ dx ≠ a ∧ ns.length = ds.length ∧ RpL K G ds xs
  | .dic ks vs => ∃ kvs, H a = some (.dK kvs) ∧ RpL K G ks (kvs.map fun p => kV p.1) ∧ RpL K G vs (kvs.map fun p => p.2)
  | _ => False

structure Rst (K : PySem.W.Frag) (c : Cn) (G H : Hp) (σ : L2.St) (ρ : List S) : Prop where
  fh : Same c.F H
  gh : Same G H
  fg : ∀ a o, c.F a = some o → G a = none
  len : ρ.length = σ.length
  val : ∀ (i : Nat) (d : D), ρ[i]? = some (.val d) → ∃ v, σ[i]? = some (some v) ∧ Rp K G d v
  own : ∀ (i : Nat) (d : D), ρ[i]? = some (.own d) → ∃ a, σ[i]? = some (some (.ref a)) ∧ G a = none ∧ c.F a = none ∧ Ow K c.F G H a d
  ne : ∀ (i j : Nat) (d e : D) (a : Addr), ρ[i]? = some (.own d) → ρ[j]? = some (.own e) → σ[i]? = some (some (.ref a)) → σ[j]? = some (some (.ref a)) → i = j
  par : ∀ (i : Nat) (d : D), ρ[i]? = some (.own d) → i < c.s0.length → σ[i]? = c.s0[i]?

/-- what an expression gives: a value that stands still; a new object of the frame's own; the object of a slot -/
inductive Rv where
  | val (d : D) | own (d : D) | ali (i : Nat)
  deriving Inhabited
def RpR (K : PySem.W.Frag) (c : Cn) (G H : Hp) (σ : L2.St) (ρ : List S) (v : V) : Rv → Prop
  | .val d => Rp K G d v
  | .own d => ∃ a, v = .ref a ∧ G a = none ∧ c.F a = none ∧ Ow K c.F G H a d ∧ ∀ (i : Nat) (e : D), ρ[i]? = some (.own e) → σ[i]? ≠ some (some (.ref a))
  | .ali i => σ[i]? = some (some v)

theorem Ow.gmono {K : PySem.W.Frag} {F G G' H : Hp} {a : Addr} {d : D} (e : Same G G') (hd : ∀ b, H b = some (.own a) → G b = none → G' b = none) (h : Ow K F G H a d) : Ow K F G' H a d := by
  cases d with
  | lst ds => obtain ⟨xs, h1, h2⟩ := h; exact ⟨xs, h1, h2.mono e⟩
  | obj c ns ds => obtain ⟨dx, xs, h1, h2, h3, h4, h5, hl, h6⟩ := h; exact ⟨dx, xs, h1, h2, hd dx h2 h3, h4, h5, hl, h6.mono e⟩
  | dic ks vs => obtain ⟨kvs, h1, h2, h3⟩ := h; exact ⟨kvs, h1, h2.mono e, h3.mono e⟩
  | _ => exact h.elim
/-- what stands at an own object's place is no tuple, no dict of an instance -/
theorem Ow.at {K : PySem.W.Frag} {F G H : Hp} {a : Addr} {d : D} (h : Ow K F G H a d) : ∃ o, H a = some o ∧ (∀ b, o ≠ .own b) := by
  cases d with
  | lst ds => obtain ⟨xs, h1, h2⟩ := h; exact ⟨_, h1, fun b z => nomatch z⟩
  | obj c ns ds => obtain ⟨dx, xs, h1, _⟩ := h; exact ⟨_, h1, fun b z => nomatch z⟩
  | dic ks vs => obtain ⟨kvs, h1, _⟩ := h; exact ⟨_, h1, fun b z => nomatch z⟩
  | _ => exact h.elim

/-! ### freezing -/
/-- the object at a, frozen -/
theorem frz {K : PySem.W.Frag} {F G H : Hp} {a : Addr} {d : D} (gh : Same G H) (fg : ∀ b o, F b = some o → G b = none) (ga : G a = none) (fa : F a = none) (h : Ow K F G H a d) :
    ∃ G', Same G G' ∧ Same G' H ∧ (∀ b o, F b = some o → G' b = none) ∧ Rp K G' d (.ref a) ∧ ∀ b, G' b ≠ G b → b = a ∨ H b = some (.own a) := by
  cases d with
  | lst ds =>
    obtain ⟨xs, h1, h2⟩ := h
    have s1 : Same G (upd G a (.lst xs)) := fun b o e => by rw [upd_ne (ne_of_none e ga)]; exact e
    refine ⟨upd G a (.lst xs), s1, fun b o e => ?_, fun b o e => ?_, ⟨a, xs, rfl, upd_same, h2.mono s1⟩, fun b hb => ?_⟩
    · by_cases q : b = a
      · subst q; rw [upd_same] at e; cases e; exact h1
      · rw [upd_ne q] at e; exact gh _ _ e
    · rw [upd_ne (ne_of_none e fa)]; exact fg _ _ e
    · by_cases q : b = a
      · exact .inl q
      · exact absurd (upd_ne q) hb
  | dic ks vs =>
    obtain ⟨kvs, h1, h2, h3⟩ := h
    have s1 : Same G (upd G a (.dK kvs)) := fun b o e => by rw [upd_ne (ne_of_none e ga)]; exact e
    refine ⟨upd G a (.dK kvs), s1, fun b o e => ?_, fun b o e => ?_, ⟨a, kvs, rfl, upd_same, h2.mono s1, h3.mono s1⟩, fun b hb => ?_⟩
    · by_cases q : b = a
      · subst q; rw [upd_same] at e; cases e; exact h1
      · rw [upd_ne q] at e; exact gh _ _ e
    · rw [upd_ne (ne_of_none e fa)]; exact fg _ _ e
    · by_cases q : b = a
      · exact .inl q
      · exact absurd (upd_ne q) hb
  | obj c ns ds =>
    obtain ⟨dx, xs, h1, h2, h3, h4, h5, hl, h6⟩ := h
    have s1 : Same G (upd (upd G dx (.own a)) a (.ins (He.ga K c) dx (ns.zip xs))) := fun b o e => by rw [upd_ne (ne_of_none e ga), upd_ne (ne_of_none e h3)]; exact e
    refine ⟨_, s1, fun b o e => ?_, fun b o e => ?_, ⟨a, dx, xs, rfl, upd_same, by rw [upd_ne h5, upd_same], hl, h6.mono s1⟩, fun b hb => ?_⟩
    · by_cases q : b = a
      · subst q; rw [upd_same] at e; cases e; exact h1
      · rw [upd_ne q] at e
        by_cases q2 : b = dx
        · subst q2; rw [upd_same] at e; cases e; exact h2
        · rw [upd_ne q2] at e; exact gh _ _ e
    · rw [upd_ne (ne_of_none e fa), upd_ne (ne_of_none e h4)]; exact fg _ _ e
    · by_cases q : b = a
      · exact .inl q
      · by_cases q2 : b = dx
        · subst q2; exact .inr h2
        · rw [upd_ne q, upd_ne q2] at hb; exact absurd rfl hb
  | _ => exact h.elim

section
variable {K : PySem.W.Frag} {c : Cn} {G G' H H' : Hp} {σ : L2.St} {ρ : List S} {v : V} {d : D} {i : Nat}
/-- the ground grows by what no slot owns -/
theorem Rst.ground (R : Rst K c G H σ ρ) (s1 : Same G G') (s2 : Same G' H) (fg : ∀ b o, c.F b = some o → G' b = none)
    (ok : ∀ (i : Nat) (d : D) (a : Addr), ρ[i]? = some (.own d) → σ[i]? = some (some (.ref a)) → G' a = none ∧ ∀ b, H b = some (.own a) → G b = none → G' b = none) : Rst K c G' H σ ρ where
  fh := R.fh
  gh := s2
  fg := fg
  len := R.len
  val := fun i d e => let ⟨v, h1, h2⟩ := R.val i d e; ⟨v, h1, h2.mono s1⟩
  own := fun i d e => let ⟨a, h1, h2, h3, h4⟩ := R.own i d e; ⟨a, h1, (ok i d a e h1).1, h3, h4.gmono s1 (ok i d a e h1).2⟩
  ne := R.ne
  par := R.par
/-- a slot is set anew: to a value, or to nothing -/
theorem Rst.set_val (R : Rst K c G H σ ρ) (i : Nat) (h : Rp K G d v) : Rst K c G H (σ.set i (some v)) (ρ.set i (.val d)) where
  fh := R.fh
  gh := R.gh
  fg := R.fg
  len := by rw [List.length_set, List.length_set, R.len]
  val := fun j e q => by
    by_cases hj : j = i
    · subst hj
      have hl : j < ρ.length := by
        by_cases hl : j < ρ.length
        · exact hl
        · rw [List.getElem?_eq_none (by simpa using hl)] at q; cases q
      rw [List.getElem?_set_self hl] at q
      cases q
      exact ⟨v, by rw [List.getElem?_set_self (R.len ▸ hl)], h⟩
    · rw [List.getElem?_set_ne (Ne.symm hj)] at q ⊢
      exact R.val j e q
  own := fun j e q => by
    by_cases hj : j = i
    · subst hj
      by_cases hl : j < ρ.length
      · rw [List.getElem?_set_self hl] at q; cases q
      · rw [List.getElem?_eq_none (by simpa using hl)] at q; cases q
    · rw [List.getElem?_set_ne (Ne.symm hj)] at q ⊢
      exact R.own j e q
  ne := fun j k e f a q1 q2 r1 r2 => by
    have nj : ∀ (j : Nat) (e : D), (ρ.set i (.val d))[j]? = some (.own e) → j ≠ i := fun j e q hj => by
      subst hj
      by_cases hl : j < ρ.length
      · rw [List.getElem?_set_self hl] at q; cases q
      · rw [List.getElem?_eq_none (by simpa using hl)] at q; cases q
    have hj := nj j e q1
    have hk := nj k f q2
    rw [List.getElem?_set_ne (Ne.symm hj)] at q1 r1
    rw [List.getElem?_set_ne (Ne.symm hk)] at q2 r2
    exact R.ne j k e f a q1 q2 r1 r2
  par := fun j e q hl => by
    have hj : j ≠ i := fun hj => by
      subst hj
      by_cases hl : j < ρ.length
      · rw [List.getElem?_set_self hl] at q; cases q
      · rw [List.getElem?_eq_none (by simpa using hl)] at q; cases q
    rw [List.getElem?_set_ne (Ne.symm hj)] at q ⊢
    exact R.par j e q hl
theorem set_get {α : Type} {l : List α} {i : Nat} {x : α} (h : l[i]? = some x) : l.set i x = l := by
  apply List.ext_getElem?
  intro j
  by_cases hj : j = i
  · subst hj
    have hl : j < l.length := (List.getElem?_eq_some_iff.mp h).1
    rw [List.getElem?_set_self hl, h]
  · rw [List.getElem?_set_ne (Ne.symm hj)]
/-- the slot's object is frozen -/
theorem Rst.freeze (R : Rst K c G H σ ρ) (h : ρ[i]? = some (.own d)) : ∃ v G', σ[i]? = some (some v) ∧ Same G G' ∧ Rst K c G' H σ (ρ.set i (.val d)) ∧ Rp K G' d v := by
  obtain ⟨a, h1, h2, h3, h4⟩ := R.own i d h
  obtain ⟨G', s1, s2, fg, r, dif⟩ := frz R.gh R.fg h2 h3 h4
  have hl : i < ρ.length := (List.getElem?_eq_some_iff.mp h).1
  have nj : ∀ (j : Nat) (e : D), (ρ.set i (.val d))[j]? = some (.own e) → j ≠ i ∧ ρ[j]? = some (.own e) := fun j e q => by
    by_cases hj : j = i
    · subst hj; rw [List.getElem?_set_self hl] at q; cases q
    · rw [List.getElem?_set_ne (Ne.symm hj)] at q; exact ⟨hj, q⟩
  have ok : ∀ (j : Nat) (e : D) (b : Addr), j ≠ i → ρ[j]? = some (.own e) → σ[j]? = some (some (.ref b)) → G' b = none ∧ ∀ b', H b' = some (.own b) → G b' = none → G' b' = none := fun j e b hj q r1 => by
    have hb : b ≠ a := fun z => by subst z; exact hj (R.ne j i e d b q h r1 h1)
    obtain ⟨b', k1, k2, k3, k4⟩ := R.own j e q
    rw [r1] at k1; cases k1
    obtain ⟨o, ho, hno⟩ := k4.at
    have same : ∀ x, G x = none → x ≠ a → H x ≠ some (.own a) → G' x = none := fun x gx xa xo => by
      by_cases z : G' x = G x
      · rw [z, gx]
      · rcases dif x z with z | z
        · exact absurd z xa
        · exact absurd z xo
    refine ⟨same b k2 hb (fun z => hno a (by rw [ho] at z; exact Option.some.inj z)), fun x hx gx => same x gx (fun z => ?_) (fun z => ?_)⟩
    · subst z
      obtain ⟨o', ho', hno'⟩ := h4.at
      rw [ho'] at hx; exact hno' b (Option.some.inj hx)
    · rw [z] at hx; cases hx; exact hb rfl
  refine ⟨.ref a, G', h1, s1, ⟨R.fh, s2, fg, by rw [List.length_set, R.len], fun j e q => ?_, fun j e q => ?_, fun j k e f b q1 q2 r1 r2 => ?_, fun j e q hl => ?_⟩, r⟩
  · by_cases hj : j = i
    · subst hj; rw [List.getElem?_set_self hl] at q; cases q; exact ⟨.ref a, h1, r⟩
    · rw [List.getElem?_set_ne (Ne.symm hj)] at q
      obtain ⟨v, k1, k2⟩ := R.val j e q
      exact ⟨v, k1, k2.mono s1⟩
  · obtain ⟨hj, q'⟩ := nj j e q
    obtain ⟨b, k1, k2, k3, k4⟩ := R.own j e q'
    obtain ⟨z1, z2⟩ := ok j e b hj q' k1
    exact ⟨b, k1, z1, k3, k4.gmono s1 z2⟩
  · exact R.ne j k e f b (nj j e q1).2 (nj k f q2).2 r1 r2
  · exact R.par j e (nj j e q).2 hl
/-- a new object is frozen -/
theorem Rst.freeze_new (R : Rst K c G H σ ρ) (h : RpR K c G H σ ρ v (.own d)) : ∃ G', Same G G' ∧ Rst K c G' H σ ρ ∧ Rp K G' d v := by
  obtain ⟨a, rfl, h2, h3, h4, h5⟩ := h
  obtain ⟨G', s1, s2, fg, r, dif⟩ := frz R.gh R.fg h2 h3 h4
  refine ⟨G', s1, R.ground s1 s2 fg fun j e b q r1 => ?_, r⟩
  have hb : b ≠ a := fun z => by subst z; exact h5 j e q r1
  obtain ⟨b', k1, k2, k3, k4⟩ := R.own j e q
  rw [r1] at k1; cases k1
  obtain ⟨o, ho, hno⟩ := k4.at
  have same : ∀ x, G x = none → x ≠ a → H x ≠ some (.own a) → G' x = none := fun x gx xa xo => by
    by_cases z : G' x = G x
    · rw [z, gx]
    · rcases dif x z with z | z
      · exact absurd z xa
      · exact absurd z xo
  refine ⟨same b k2 hb (fun z => hno a (by rw [ho] at z; exact Option.some.inj z)), fun x hx gx => same x gx (fun z => ?_) (fun z => ?_)⟩
  · subst z
    obtain ⟨o', ho', hno'⟩ := h4.at
    rw [ho'] at hx; exact hno' b (Option.some.inj hx)
  · rw [z] at hx; cases hx; exact hb rfl
end
end Dl

/-! Dl1: the monad of a frame's run, readings by data, expressions. -/
namespace Dl
open PySem L2

/-! ### runs -/
/-- an exception: its class's name, its fields -/
structure Xn where
  c : Str
  ns : List Str := []
  ds : List D := []
inductive Ot (α : Type) where
  | ok (a : α) (ρ : List S) | ex (e : Xn) (ρ : List S)
def M (α : Type) : Type := List S → Option (Ot α)
def M.pure {α : Type} (a : α) : M α := fun ρ => some (.ok a ρ)
def M.bind {α β : Type} (f : M α) (k : α → M β) : M β := fun ρ => match f ρ with
  | some (.ok a ρ') => k a ρ'
  | some (.ex e ρ') => some (.ex e ρ')
  | none => none
instance : Monad M where
  pure := M.pure
  bind := M.bind
def M.fail {α : Type} : M α := fun _ => none
def ofO {α : Type} (o : Option α) : M α := fun ρ => o.map fun a => .ok a ρ
theorem bind_eq {α β : Type} (f : M α) (k : α → M β) (ρ : List S) : (f >>= k) ρ = (match f ρ with
  | some (.ok a ρ') => k a ρ'
  | some (.ex e ρ') => some (.ex e ρ')
  | none => none) := rfl
theorem pure_eq {α : Type} (a : α) (ρ : List S) : (pure a : M α) ρ = some (.ok a ρ) := rfl
theorem bind_ok {α β : Type} {f : M α} {k : α → M β} {ρ ρ' : List S} {a : α} (h : f ρ = some (.ok a ρ')) : (f >>= k) ρ = k a ρ' := by
  show M.bind f k ρ = _
  unfold M.bind; rw [h]
/-- what holds of a run's end -/
def wpM {α : Type} (o : Option (Ot α)) (OK : α → List S → Prop) (EX : Xn → List S → Prop) : Prop := match o with
  | some (.ok a ρ) => OK a ρ
  | some (.ex e ρ) => EX e ρ
  | none => False
theorem wpM_bind {α β : Type} {f : M α} {k : α → M β} {ρ : List S} {OK : β → List S → Prop} {EX : Xn → List S → Prop} (h : wpM ((f >>= k) ρ) OK EX) : wpM (f ρ) (fun a ρ' => wpM (k a ρ') OK EX) EX := by
  rw [bind_eq] at h
  revert h
  cases f ρ with
  | none => exact fun h => h
  | some o => cases o <;> exact fun h => h
theorem wpM_mono {α : Type} {o : Option (Ot α)} {OK OK' : α → List S → Prop} {EX EX' : Xn → List S → Prop} (h : wpM o OK EX) (h1 : ∀ a ρ, OK a ρ → OK' a ρ) (h2 : ∀ e ρ, EX e ρ → EX' e ρ) : wpM o OK' EX' := by
  revert h
  cases o with
  | none => exact fun h => h
  | some o => cases o with
    | ok a ρ => exact h1 a ρ
    | ex e ρ => exact h2 e ρ

/-- an exception as it lies -/
def XAt (K : PySem.W.Frag) (G H : Hp) (e : Xn) (cls : Value) (d : Option Addr) : Prop :=
  cls = .ref (He.ga K e.c) ∧ match e.ns with
  | [] => True
  | ns => ∃ dx fvs, d = some dx ∧ H dx = some (.xd fvs) ∧ ∃ xs, fvs = ns.zip xs ∧ RpL K G e.ds xs ∧ ns.length = e.ds.length
abbrev WX0 : WX := fun _ _ _ _ => False
def EXk (K : PySem.W.Frag) (c : Cn) (W : WX) (σ : L2.St) (G : Hp) : Xn → List S → Prop := fun e ρ' =>
  ∀ cls d G' H', Rst K c G' H' σ ρ' → Same G G' → XAt K G' H' e cls d → W cls d σ H'
theorem EXk.mono {K : PySem.W.Frag} {c : Cn} {W : WX} {σ : L2.St} {G G1 : Hp} {e : Xn} {ρ : List S} (s : Same G G1) (h : EXk K c W σ G e ρ) : EXk K c W σ G1 e ρ :=
  fun cls d G' H' R s' x => h cls d G' H' R (s.trans s') x

/-- a reading by data -/
def tg {α β : Type} (K : PySem.W.Frag) (W : WX) (rep : Cn → Hp → Hp → L2.St → List S → β → α → Prop) (f : M α) : L2.St → Hp → (β → Hp → Prop) → Prop := fun σ H Q =>
  ∃ c G ρ, Rst K c G H σ ρ ∧ wpM (f ρ) (fun a ρ' => ∀ b G' H', Rst K c G' H' σ ρ' → Same G G' → rep c G' H' σ ρ' b a → Q b H') (EXk K c W σ G)
abbrev repE (K : PySem.W.Frag) : Cn → Hp → Hp → L2.St → List S → V → Rv → Prop := fun c G H σ ρ v r => RpR K c G H σ ρ v r
abbrev repT : Cn → Hp → Hp → L2.St → List S → Bool → Bool → Prop := fun _ _ _ _ _ b a => b = a
/-- several values, each one settled -/
def RpRs (K : PySem.W.Frag) (G : Hp) (σ : L2.St) : List V → List Rv → Prop
  | [], [] => True
  | v :: vs, .val d :: rs => Rp K G d v ∧ RpRs K G σ vs rs
  | v :: vs, .ali i :: rs => σ[i]? = some (some v) ∧ RpRs K G σ vs rs
  | _, _ => False
abbrev repA (K : PySem.W.Frag) : Cn → Hp → Hp → L2.St → List S → List V → List Rv → Prop := fun _ G _ σ _ vs rs => RpRs K G σ vs rs
abbrev tD (K : PySem.W.Frag) (W : WX) (f : M Rv) : TE := tg K W (repE K) f
abbrev tDT (K : PySem.W.Frag) (W : WX) (f : M Bool) : TT := tg K W repT f
abbrev tDA (K : PySem.W.Frag) (W : WX) (f : M (List Rv)) : TA := tg K W (repA K) f

theorem tg_step {α β γ : Type} {K : PySem.W.Frag} {W : WX} {rep : Cn → Hp → Hp → L2.St → List S → β → α → Prop} {c : Cn} {G0 G H : Hp} {σ : L2.St} {ρ : List S} {f : M α} {k : α → M γ} {OK : γ → List S → Prop} {Q : β → Hp → Prop}
    (R : Rst K c G H σ ρ) (s0 : Same G0 G) (h : wpM ((f >>= k) ρ) OK (EXk K c W σ G0))
    (next : ∀ a ρ1 b G1 H1, Rst K c G1 H1 σ ρ1 → Same G0 G1 → Same G G1 → rep c G1 H1 σ ρ1 b a → wpM (k a ρ1) OK (EXk K c W σ G0) → Q b H1) : tg K W rep f σ H Q :=
  ⟨c, G, ρ, R, wpM_mono (wpM_bind h) (fun a ρ1 hk b G1 H1 R1 s1 r => next a ρ1 b G1 H1 R1 (s0.trans s1) s1 r hk) fun _ _ x => x.mono s0⟩

structure DE (X : Cx) (W : WX) (e : Expr) (f : M Rv) : Prop where
  pe : PE X e (tD X.K W f)
structure DT (X : Cx) (W : WX) (e : Expr) (f : M Bool) : Prop where
  pt : PT X e (tDT X.K W f)
structure DW (X : Cx) (W : WX) (e : Expr) (f : M Bool) : Prop where
  pw : PW X e (tDT X.K W f)
structure DA (X : Cx) (W : WX) (es : List Expr) (f : M (List Rv)) : Prop where
  pa : PA X es (tDA X.K W f)

section
variable {X : Cx} {e : Expr} {es : List Expr} {t t' : TE}
theorem _root_.L2.PE.weak (h : PE X e t) (w : ∀ σ H Q, t' σ H Q → t σ H Q) : PE X e t' := ⟨fun pins s σ H Q I q => h.run pins s σ H Q I (w σ H Q q)⟩
theorem _root_.L2.PT.weak {t t' : TT} (h : PT X e t) (w : ∀ σ H Q, t' σ H Q → t σ H Q) : PT X e t' := ⟨fun pins s σ H Q I q => h.run pins s σ H Q I (w σ H Q q)⟩
theorem _root_.L2.PW.weak {t t' : TT} (h : PW X e t) (w : ∀ σ H Q, t' σ H Q → t σ H Q) : PW X e t' := ⟨fun wh pins s σ H Q I q => h.run wh pins s σ H Q I (w σ H Q q)⟩
theorem _root_.L2.PA.weak {t t' : TA} (h : PA X es t) (w : ∀ σ H Q, t' σ H Q → t σ H Q) : PA X es t' := ⟨fun pos pins s σ H Q I q => h.run pos pins s σ H Q I (w σ H Q q)⟩
theorem _root_.L2.PS.weak {st : Stmt} {t t' : TS} (h : PS X st t) (w : ∀ D σ H, t' D σ H → t D σ H) : PS X st t' := ⟨fun pins s σ H D I q => h.run pins s σ H D I (w D σ H q)⟩
theorem _root_.L2.PSs.weak {st : List Stmt} {t t' : TS} (h : PSs X st t) (w : ∀ D σ H, t' D σ H → t D σ H) : PSs X st t' := ⟨fun pins s σ H D I q => h.run pins s σ H D I (w D σ H q)⟩
end

/-! ### reading what a value is -/
/-- the value is to be read as d -/
def Rh (K : PySem.W.Frag) (c : Cn) (G H : Hp) (d : D) (v : V) : Prop := Rp K G d v ∨ ∃ a, v = .ref a ∧ G a = none ∧ c.F a = none ∧ Ow K c.F G H a d
def peek (r : Rv) : M D := fun ρ => match r with
  | .val d => some (.ok d ρ)
  | .own d => some (.ok d ρ)
  | .ali i => match ρ[i]? with
    | some (.val d) => some (.ok d ρ)
    | some (.own d) => some (.ok d ρ)
    | _ => none
/-- a value to be kept: what is the frame's own is frozen -/
def toV (r : Rv) : M D := fun ρ => match r with
  | .val d => some (.ok d ρ)
  | .own d => some (.ok d ρ)
  | .ali i => match ρ[i]? with
    | some (.val d) => some (.ok d ρ)
    | some (.own d) => some (.ok d (ρ.set i (.val d)))
    | _ => none
def settle : Rv → Rv
  | .own d => .val d
  | r => r
def peeks : List Rv → M (List D)
  | [] => pure []
  | r :: rs => do
    let d ← peek r
    let ds ← peeks rs
    pure (d :: ds)
def toVs : List Rv → M (List D)
  | [] => pure []
  | r :: rs => do
    let d ← toV r
    let ds ← toVs rs
    pure (d :: ds)
section
variable {K : PySem.W.Frag} {c : Cn} {G G' H H' : Hp} {σ : L2.St} {ρ ρ' : List S} {v : V} {d : D} {r : Rv} {rs : List Rv} {vs : List V}
theorem peek_ok (R : Rst K c G H σ ρ) (h : RpR K c G H σ ρ v r) (p : peek r ρ = some (.ok d ρ')) : ρ' = ρ ∧ Rh K c G H d v := by
  cases r with
  | val e => cases p; exact ⟨rfl, .inl h⟩
  | own e => cases p; obtain ⟨a, h1, h2, h3, h4, _⟩ := h; exact ⟨rfl, .inr ⟨a, h1, h2, h3, h4⟩⟩
  | ali i =>
    have h1 : σ[i]? = some (some v) := h
    unfold peek at p
    dsimp only at p
    cases q : ρ[i]? with
    | none => rw [q] at p; cases p
    | some s =>
      rw [q] at p
      cases s with
      | no => cases p
      | val e =>
        cases p
        obtain ⟨w, k1, k2⟩ := R.val i _ q
        rw [h1] at k1; cases k1
        exact ⟨rfl, .inl k2⟩
      | own e =>
        cases p
        obtain ⟨a, k1, k2, k3, k4⟩ := R.own i _ q
        rw [h1] at k1; cases k1
        exact ⟨rfl, .inr ⟨a, rfl, k2, k3, k4⟩⟩
theorem peek_wp {OK : D → List S → Prop} {EX : Xn → List S → Prop} (R : Rst K c G H σ ρ) (h : RpR K c G H σ ρ v r) (w : wpM (peek r ρ) OK EX) : ∃ d, Rh K c G H d v ∧ OK d ρ := by
  cases p : peek r ρ with
  | none => rw [p] at w; exact w.elim
  | some o =>
    rw [p] at w
    cases o with
    | ok d ρ' => obtain ⟨e, k⟩ := peek_ok R h p; subst e; exact ⟨d, k, w⟩
    | ex e ρ' =>
      exfalso
      cases r with
      | val e => cases p
      | own e => cases p
      | ali i =>
        unfold peek at p
        dsimp only at p
        cases q : ρ[i]? with
        | none => rw [q] at p; cases p
        | some s => rw [q] at p; cases s <;> cases p
theorem settle_ok (R : Rst K c G H σ ρ) (h : RpR K c G H σ ρ v r) : ∃ G', Same G G' ∧ Rst K c G' H σ ρ ∧ RpRs K G' σ [v] [settle r] := by
  cases r with
  | val e => exact ⟨G, Same.refl G, R, h, trivial⟩
  | own e => obtain ⟨G', s, R', q⟩ := R.freeze_new h; exact ⟨G', s, R', q, trivial⟩
  | ali i => exact ⟨G, Same.refl G, R, h, trivial⟩
theorem toV_wp {OK : D → List S → Prop} {EX : Xn → List S → Prop} (R : Rst K c G H σ ρ) (h : RpR K c G H σ ρ v r) (w : wpM (toV r ρ) OK EX) : ∃ d G' ρ', Same G G' ∧ Rst K c G' H σ ρ' ∧ Rp K G' d v ∧ OK d ρ' := by
  cases r with
  | val e => exact ⟨e, G, ρ, Same.refl G, R, h, w⟩
  | own e => obtain ⟨G', s, R', q⟩ := R.freeze_new h; exact ⟨e, G', ρ, s, R', q, w⟩
  | ali i =>
    have h1 : σ[i]? = some (some v) := h
    unfold toV at w
    dsimp only at w
    cases q : ρ[i]? with
    | none => rw [q] at w; exact w.elim
    | some s =>
      rw [q] at w
      cases s with
      | no => exact w.elim
      | val e =>
        obtain ⟨x, k1, k2⟩ := R.val i _ q
        rw [h1] at k1; cases k1
        exact ⟨e, G, ρ, Same.refl G, R, k2, w⟩
      | own e =>
        obtain ⟨x, G', k1, s, R', k2⟩ := R.freeze q
        rw [h1] at k1; cases k1
        exact ⟨e, G', _, s, R', k2, w⟩
theorem RpRs.mono (s : Same G G') : ∀ {vs : List V} {rs : List Rv}, RpRs K G σ vs rs → RpRs K G' σ vs rs
  | [], [], _ => trivial
  | v :: vs, .val d :: rs, ⟨h1, h2⟩ => ⟨h1.mono s, h2.mono s⟩
  | v :: vs, .ali i :: rs, ⟨h1, h2⟩ => ⟨h1, h2.mono s⟩
  | [], _ :: _, h => h.elim
  | _ :: _, [], h => h.elim
  | _ :: _, .own _ :: _, h => h.elim
/-- a settled value stands whatever comes -/
theorem RpRs.one (h : RpRs K G σ [v] [r]) : ∀ {c : Cn} {H : Hp} {ρ : List S}, RpR K c G H σ ρ v r := by
  intro c H ρ
  cases r with
  | val d => exact h.1
  | own d => exact h.elim
  | ali i => exact h.1
theorem RpRs.cons (h : RpRs K G σ [v] [r]) (k : RpRs K G σ vs rs) : RpRs K G σ (v :: vs) (r :: rs) := by
  cases r with
  | val d => exact ⟨h.1, k⟩
  | own d => exact h.elim
  | ali i => exact ⟨h.1, k⟩
theorem RpRs.head (h : RpRs K G σ (v :: vs) (r :: rs)) : RpRs K G σ [v] [r] ∧ RpRs K G σ vs rs := by
  cases r with
  | val d => exact ⟨⟨h.1, trivial⟩, h.2⟩
  | own d => exact h.elim
  | ali i => exact ⟨⟨h.1, trivial⟩, h.2⟩
theorem RpRs.nil_of : ∀ {vs : List V}, RpRs K G σ vs [] → vs = []
  | [], _ => rfl
  | _ :: _, h => h.elim
theorem RpRs.cons_of : ∀ {vs : List V}, RpRs K G σ vs (r :: rs) → ∃ v vs', vs = v :: vs' ∧ RpRs K G σ [v] [r] ∧ RpRs K G σ vs' rs
  | [], h => h.elim
  | v :: vs, h => ⟨v, vs, rfl, h.head⟩
/-- the values by what they may be read as -/
def RhL (K : PySem.W.Frag) (c : Cn) (G H : Hp) : List D → List V → Prop
  | [], vs => vs = []
  | d :: ds, vs => ∃ v r, vs = v :: r ∧ Rh K c G H d v ∧ RhL K c G H ds r
theorem peeks_wp : ∀ {rs : List Rv} {vs : List V} {OK : List D → List S → Prop} {EX : Xn → List S → Prop}, Rst K c G H σ ρ → RpRs K G σ vs rs → wpM (peeks rs ρ) OK EX → ∃ ds, RhL K c G H ds vs ∧ OK ds ρ
  | [], vs, OK, EX, R, h, w => by
    have e := h.nil_of
    subst e
    exact ⟨[], rfl, w⟩
  | r :: rs, vs, OK, EX, R, h, w => by
    obtain ⟨v, vs', rfl, h1, h2⟩ := h.cons_of
    obtain ⟨d, k1, w1⟩ := peek_wp R h1.one (wpM_bind w)
    obtain ⟨ds, k2, w2⟩ := peeks_wp R h2 (wpM_bind w1)
    exact ⟨d :: ds, ⟨v, vs', rfl, k1, k2⟩, w2⟩
theorem toVs_wp : ∀ {rs : List Rv} {vs : List V} {G : Hp} {ρ : List S} {OK : List D → List S → Prop} {EX : Xn → List S → Prop}, Rst K c G H σ ρ → RpRs K G σ vs rs → wpM (toVs rs ρ) OK EX →
    ∃ ds G' ρ', Same G G' ∧ Rst K c G' H σ ρ' ∧ RpL K G' ds vs ∧ OK ds ρ'
  | [], vs, G, ρ, OK, EX, R, h, w => by
    have e := h.nil_of
    subst e
    exact ⟨[], G, ρ, Same.refl G, R, rfl, w⟩
  | r :: rs, vs, G, ρ, OK, EX, R, h, w => by
    obtain ⟨v, vs', rfl, h1, h2⟩ := h.cons_of
    obtain ⟨d, G1, ρ1, s1, R1, k1, w1⟩ := toV_wp R h1.one (wpM_bind w)
    obtain ⟨ds, G2, ρ2, s2, R2, k2, w2⟩ := toVs_wp R1 (h2.mono s1) (wpM_bind w1)
    exact ⟨d :: ds, G2, ρ2, s1.trans s2, R2, ⟨v, vs', rfl, k1.mono s2, k2⟩, w2⟩
end

/-! ### names, constants -/
def eVar (i : Nat) : M Rv := fun ρ => match ρ[i]? with
  | some (.val d) => some (.ok (.val d) ρ)
  | some (.own _) => some (.ok (.ali i) ρ)
  | _ => none
def eC (d : D) : M Rv := pure (.val d)
section
variable {X : Cx} {W : WX} {a b e : Expr} {es : List Expr} {fa fb : M Rv} {pos : Pos}
theorem de_var (i : Nat) {x : Str} (h : PE X (.Name x pos) (tVar i)) : DE X W (.Name x pos) (eVar i) := ⟨h.weak fun σ H Q ⟨c, G, ρ, R, w⟩ => by
  unfold eVar at w
  cases q : ρ[i]? with
  | none => rw [q] at w; exact w.elim
  | some s =>
    rw [q] at w
    cases s with
    | no => exact w.elim
    | val d =>
      obtain ⟨v, k1, k2⟩ := R.val i d q
      exact ⟨v, k1, w v G H R (Same.refl G) k2⟩
    | own d =>
      obtain ⟨a, k1, k2, k3, k4⟩ := R.own i d q
      exact ⟨.ref a, k1, w (.ref a) G H R (Same.refl G) k1⟩⟩
theorem de_v (i : Nat) {x : Str} (hN : X.N[i]? = some x := by rfl) (hv : Vis X.env.scope x := by first | exact Or.inl rfl | exact Or.inr (Or.inl rfl) | exact Or.inr (Or.inr rfl)) (hd : (x == ("__debug__" : Str)) = false := by decide)
    (hcd : (x == ("__classdict__" : Str)) = false := by decide) : DE X W (.Name x pos) (eVar i) := de_var i (pe_var hN hv hd hcd)
theorem de_cv {d : D} {v : V} (h : PE X e (tC v)) (r : ∀ G, Rp X.K G d v) : DE X W e (eC d) := ⟨h.weak fun σ H Q ⟨c, G, ρ, R, w⟩ => w v G H R (Same.refl G) (r G)⟩
theorem de_int {i : Int} {j} : DE X W (.Constant (.int i) j pos) (eC (.int i)) := de_cv pe_int fun _ => rfl
theorem de_bl {b : Bool} {j} : DE X W (.Constant (.bool b) j pos) (eC (.bl b)) := de_cv pe_bl fun _ => rfl
theorem de_non {j} : DE X W (.Constant .none j pos) (eC .non) := de_cv pe_non fun _ => rfl
theorem de_str {x : Str} {j} : DE X W (.Constant (.str x) j pos) (eC (.str x)) := de_cv pe_str fun _ => rfl

/-! ### argument lists -/
def aNil : M (List Rv) := pure []
def aCons (f : M Rv) (g : M (List Rv)) : M (List Rv) := do
  let r ← f
  let rs ← g
  pure (settle r :: rs)
theorem da_nil : DA X W [] aNil := ⟨pa_nil.weak fun σ H Q ⟨c, G, ρ, R, w⟩ => w [] G H R (Same.refl G) trivial⟩
theorem da_cons {f : M Rv} {g : M (List Rv)} (he : DE X W e f) (hr : DA X W es g) (hs : starEach (e :: es) X.env = (false, eval e X.env) :: starEach es X.env := by rfl) : DA X W (e :: es) (aCons f g) :=
  ⟨(pa_cons he.pe hr.pa hs).weak fun σ H Q ⟨c, G, ρ, R, w⟩ => tg_step R (Same.refl G) w fun r ρ1 v G1 H1 R1 s1 _ k w1 => by
    obtain ⟨G1', s1', R1', k'⟩ := settle_ok R1 k
    exact tg_step R1' (s1.trans s1') w1 fun rs ρ2 vs G2 H2 R2 s2 s12 k2 w2 => w2 (v :: vs) G2 H2 R2 s2 (RpRs.cons (k'.mono s12) k2)⟩
end
end Dl

/-! Dl2: operators, comparisons, tests. -/
namespace Dl
open PySem L2

section
variable {K : PySem.W.Frag} {c : Cn} {G G' H H' : Hp} {σ : L2.St} {ρ : List S} {p : Addr} {o : HO}
/-! ### new objects -/
theorem Rst.laid (R : Rst K c G H σ ρ) (hp : H p = none) : Rst K c G (upd H p o) σ ρ where
  fh := fun b u e => by rw [upd_ne (ne_of_none (R.fh _ _ e) hp)]; exact R.fh _ _ e
  gh := fun b u e => by rw [upd_ne (ne_of_none (R.gh _ _ e) hp)]; exact R.gh _ _ e
  fg := R.fg
  len := R.len
  val := R.val
  own := fun i d e => by
    obtain ⟨a, h1, h2, h3, h4⟩ := R.own i d e
    refine ⟨a, h1, h2, h3, ?_⟩
    have k : ∀ b u, H b = some u → upd H p o b = some u := fun b u q => by rw [upd_ne (ne_of_none q hp)]; exact q
    cases d with
    | lst ds => obtain ⟨xs, q1, q2⟩ := h4; exact ⟨xs, k _ _ q1, q2⟩
    | obj c ns ds => obtain ⟨dx, xs, q1, q2, q3, q4, q5, q6, q7⟩ := h4; exact ⟨dx, xs, k _ _ q1, k _ _ q2, q3, q4, q5, q6, q7⟩
    | dic ks vs => obtain ⟨kvs, q1, q2, q3⟩ := h4; exact ⟨kvs, k _ _ q1, q2, q3⟩
    | _ => exact h4.elim
  ne := R.ne
  par := R.par
theorem Rst.g_none (R : Rst K c G H σ ρ) (hp : H p = none) : G p = none := R.gh.free hp
theorem Rst.f_none (R : Rst K c G H σ ρ) (hp : H p = none) : c.F p = none := R.fh.free hp
theorem Rst.not_slot (R : Rst K c G H σ ρ) (hp : H p = none) : ∀ (i : Nat) (e : D), ρ[i]? = some (.own e) → σ[i]? ≠ some (some (.ref p)) := fun i e q z => by
  obtain ⟨a, h1, _, _, h4⟩ := R.own i e q
  rw [z] at h1; cases h1
  obtain ⟨o, ho, _⟩ := h4.at
  rw [hp] at ho; cases ho
/-- a new object that is never changed (a tuple) joins the ground -/
theorem Rst.laidG (R : Rst K c G H σ ρ) (hp : H p = none) (ho : ∀ b, o ≠ .own b) : Rst K c (upd G p o) (upd H p o) σ ρ ∧ Same G (upd G p o) := by
  have R1 : Rst K c G (upd H p o) σ ρ := R.laid hp
  have s : Same G (upd G p o) := fun b u e => by rw [upd_ne (ne_of_none e (R.g_none hp))]; exact e
  refine ⟨R1.ground s (fun b u e => ?_) (fun b u e => ?_) fun i d a q r => ?_, s⟩
  · by_cases z : b = p
    · subst z; rw [upd_same] at e ⊢; exact e
    · rw [upd_ne z] at e ⊢; exact R.gh _ _ e
  · rw [upd_ne (ne_of_none e (R.f_none hp))]; exact R.fg _ _ e
  · obtain ⟨a', h1, h2, h3, h4⟩ := R.own i d q
    rw [r] at h1; cases h1
    obtain ⟨u, hu, _⟩ := h4.at
    refine ⟨by rw [upd_ne (ne_of_none hu hp)]; exact h2, fun b hb gb => ?_⟩
    by_cases z : b = p
    · subst z
      rw [upd_same] at hb
      exact absurd (Option.some.inj hb) (ho a)
    · rw [upd_ne z]; exact gb
theorem Rst.new_own {xs : List V} {ds : List D} (R : Rst K c G H σ ρ) (hp : H p = none) (r : RpL K G ds xs) : Rst K c G (upd H p (.lst xs)) σ ρ ∧ RpR K c G (upd H p (.lst xs)) σ ρ (.ref p) (.own (.lst ds)) :=
  ⟨R.laid hp, p, rfl, R.g_none hp, R.f_none hp, ⟨xs, upd_same, r⟩, R.not_slot hp⟩
theorem Rst.new_tup {xs : List V} {ds : List D} (R : Rst K c G H σ ρ) (hp : H p = none) (r : RpL K G ds xs) : ∃ G', Same G G' ∧ Rst K c G' (upd H p (.tup xs)) σ ρ ∧ Rp K G' (.tup ds) (.ref p) := by
  obtain ⟨R', s⟩ := R.laidG (o := .tup xs) hp fun b z => nomatch z
  exact ⟨_, s, R', p, xs, rfl, .inl (.inl upd_same), r.mono s⟩
end

/-! ### shapes of what is read -/
section
variable {K : PySem.W.Frag} {c : Cn} {G H : Hp} {v : V}
theorem Rh.int {i : Int} (h : Rh K c G H (.int i) v) : v = .int i := by
  rcases h with h | ⟨a, _, _, _, h⟩
  · exact h
  · exact h.elim
theorem Rh.bl {b : Bool} (h : Rh K c G H (.bl b) v) : v = .bl b := by
  rcases h with h | ⟨a, _, _, _, h⟩
  · exact h
  · exact h.elim
theorem Rh.non (h : Rh K c G H .non v) : v = .non := by
  rcases h with h | ⟨a, _, _, _, h⟩
  · exact h
  · exact h.elim
theorem Rh.str {x : Str} (h : Rh K c G H (.str x) v) : v = .str x := by
  rcases h with h | ⟨a, _, _, _, h⟩
  · exact h
  · exact h.elim
theorem Rh.ty {n : String} (h : Rh K c G H (.ty n) v) : v = .ty n := by
  rcases h with h | ⟨a, _, _, _, h⟩
  · exact h
  · exact h.elim
theorem Rh.cls {n : Str} (h : Rh K c G H (.cls n) v) : v = .ref (He.ga K n) := by
  rcases h with h | ⟨a, _, _, _, h⟩
  · exact h
  · exact h.elim
theorem Rh.tup {ds : List D} (h : Rh K c G H (.tup ds) v) (s : Same G H) : ∃ a xs, v = .ref a ∧ SqT K G a xs ∧ SqT K H a xs ∧ RpL K G ds xs := by
  rcases h with ⟨a, xs, h1, h2, h3⟩ | ⟨a, _, _, _, h⟩
  · exact ⟨a, xs, h1, h2, Same.seqt s h2, h3⟩
  · exact h.elim
theorem Rh.lst {ds : List D} (h : Rh K c G H (.lst ds) v) (s : Same G H) : ∃ a xs, v = .ref a ∧ H a = some (.lst xs) ∧ RpL K G ds xs := by
  rcases h with ⟨a, xs, h1, h2, h3⟩ | ⟨a, h1, _, _, xs, h2, h3⟩
  · exact ⟨a, xs, h1, s _ _ h2, h3⟩
  · exact ⟨a, xs, h1, h2, h3⟩
theorem Rh.dic {ks vs : List D} (h : Rh K c G H (.dic ks vs) v) (s : Same G H) : ∃ a kvs, v = .ref a ∧ H a = some (.dK kvs) ∧ RpL K G ks (kvs.map fun p => kV p.1) ∧ RpL K G vs (kvs.map fun p => p.2) := by
  rcases h with ⟨a, xs, h1, h2, h3, h4⟩ | ⟨a, h1, _, _, xs, h2, h3, h4⟩
  · exact ⟨a, xs, h1, s _ _ h2, h3, h4⟩
  · exact ⟨a, xs, h1, h2, h3, h4⟩
theorem Rh.obj {n : Str} {ns : List Str} {ds : List D} (h : Rh K c G H (.obj n ns ds) v) (s : Same G H) : ∃ a dx xs, v = .ref a ∧ H a = some (.ins (He.ga K n) dx (ns.zip xs)) ∧ ns.length = ds.length ∧ RpL K G ds xs := by
  rcases h with ⟨a, dx, xs, h1, h2, h3, h4, h5⟩ | ⟨a, h1, _, _, dx, xs, h2, h3, h4, h5, h6, h7, h8⟩
  · exact ⟨a, dx, xs, h1, s _ _ h2, h4, h5⟩
  · exact ⟨a, dx, xs, h1, h2, h7, h8⟩
theorem Rh.scr {ns : List Int} (h : Rh K c G H (.scr ns) v) (s : Same G H) : ∃ a, v = .ref a ∧ SqL K H a (ns.map V.int) := by
  rcases h with ⟨a, h1, h2⟩ | ⟨a, _, _, _, h⟩
  · exact ⟨a, h1, s.seq h2⟩
  · exact h.elim
end

/-! ### two operands -/
/-- what a two-place operation does on data -/
def BinR (K : PySem.W.Frag) (r : R2) (g : D → D → Option Rv) : Prop := ∀ {c : Cn} {G H : Hp} {σ : L2.St} {ρ : List S} {v w : V} {d e : D} {q : Rv} {Q : VK}, Rst K c G H σ ρ → Rh K c G H d v → Rh K c G H e w → g d e = some q →
  (∀ z G' H', Rst K c G' H' σ ρ → Same G G' → RpR K c G' H' σ ρ z q → Q z H') → r v w H Q
def mBin (g : D → D → Option Rv) (fa fb : M Rv) : M Rv := do
  let x ← fa
  let y ← fb
  let d ← peek (settle x)
  let e ← peek y
  ofO (g d e)
theorem ofO_wp {α : Type} {o : Option α} {ρ : List S} {OK : α → List S → Prop} {EX : Xn → List S → Prop} (h : wpM (ofO o ρ) OK EX) : ∃ a, o = some a ∧ OK a ρ := by
  unfold ofO at h
  cases o with
  | none => exact h.elim
  | some a => exact ⟨a, rfl, h⟩
theorem tD_bin {K : PySem.W.Frag} {W : WX} {g : D → D → Option Rv} {r : R2} {fa fb : M Rv} (hg : BinR K r g) {σ : L2.St} {H : Hp} {Q : VK} (h : tD K W (mBin g fa fb) σ H Q) : tOp r (tD K W fa) (tD K W fb) σ H Q := by
  obtain ⟨c, G, ρ, R, w⟩ := h
  refine tg_step R (Same.refl G) w fun x ρ1 v G1 H1 R1 s1 _ k1 w1 => ?_
  obtain ⟨G1', s1', R1', k1'⟩ := settle_ok R1 k1
  refine tg_step R1' (s1.trans s1') w1 fun y ρ2 u G2 H2 R2 s2 s12 k2 w2 => ?_
  obtain ⟨d, kd, w3⟩ := peek_wp R2 (RpRs.one (k1'.mono s12)) (wpM_bind w2)
  obtain ⟨e, ke, w4⟩ := peek_wp R2 k2 (wpM_bind w3)
  obtain ⟨q, eq, w5⟩ := ofO_wp w4
  exact hg R2 kd ke eq fun z G' H' R' s' kz => w5 z G' H' R' (s2.trans s') kz
section
variable {X : Cx} {W : WX} {a b e : Expr} {fa fb : M Rv} {pos : Pos} {g : D → D → Option Rv} {r : R2}
theorem de_bin {op : Operator} (ho : OpR X (binaryOp op) r) (hg : BinR X.K r g) (ha : DE X W a fa) (hb : DE X W b fb) : DE X W (.BinOp a op b pos) (mBin g fa fb) :=
  ⟨(pe_op ho ha.pe hb.pe).weak fun _ _ _ h => tD_bin hg h⟩
theorem de_cmp {op : CmpOp} (ho : OpR X (compareOp op) r) (hg : BinR X.K r g) (ha : DE X W a fa) (hb : DE X W b fb) (hm : behindInMarks op b = false := by rfl) : DE X W (.Compare a [op] [b] pos) (mBin g fa fb) :=
  ⟨(pe_cmpR ho ha.pe hb.pe hm).weak fun _ _ _ h => tD_bin hg h⟩
theorem OpR.or {f : Value → Value → Sem Value} {r r' : R2} (h : OpR X f r) (h' : OpR X f r') : OpR X f (fun x y H Q => r x y H Q ∨ r' x y H Q) := fun pins s σ H x y v u Q I rx ry q => by
  rcases q with q | q
  · exact h pins s σ H x y v u Q I rx ry q
  · exact h' pins s σ H x y v u Q I rx ry q
end
theorem BinR.or {K : PySem.W.Frag} {r r' : R2} {g g' : D → D → Option Rv} (h : BinR K r g) (h' : BinR K r' g') : BinR K (fun x y H Q => r x y H Q ∨ r' x y H Q) (fun d e => (g d e).or (g' d e)) := fun {c G H σ ρ v w d e q Q} R kd ke eq k => by
  have eq : (g d e).or (g' d e) = some q := eq
  cases z : g d e with
  | some q' => rw [z, Option.some_or] at eq; cases eq; exact .inl (h R kd ke z k)
  | none => rw [z, Option.none_or] at eq; exact .inr (h' R kd ke eq k)

/-! ### arithmetic -/
def gII (g : Int → Int → D) : D → D → Option Rv
  | .int i, .int j => some (.val (g i j))
  | _, _ => none
def gIIc (C : Int → Int → Bool) (g : Int → Int → D) : D → D → Option Rv
  | .int i, .int j => if C i j then some (.val (g i j)) else none
  | _, _ => none
theorem gII_ok {K : PySem.W.Frag} {g : Int → Int → D} {gv : Int → Int → V} (hv : ∀ i j G, Rp K G (g i j) (gv i j)) : BinR K (rI0 gv) (gII g) := fun {c G H σ ρ v w d e q Q} R kd ke eq k => by
  cases d <;> cases e <;> first
    | (rename_i i j; cases eq; exact ⟨i, j, kd.int, ke.int, k _ G H R (Same.refl G) (hv i j G)⟩)
    | cases eq
theorem gIIc_ok {K : PySem.W.Frag} {C : Int → Int → Bool} {Cp : Int → Int → Prop} {g : Int → Int → D} {gv : Int → Int → V} (hc : ∀ i j, C i j = true → Cp i j) (hv : ∀ i j G, Rp K G (g i j) (gv i j)) : BinR K (rI Cp gv) (gIIc C g) := fun {c G H σ ρ v w d e q Q} R kd ke eq k => by
  cases d <;> cases e <;> first
    | (rename_i i j
       have eq' : (if C i j = true then some (Rv.val (g i j)) else none) = some q := eq
       by_cases hC : C i j = true
       · rw [if_pos hC] at eq'; cases eq'
         exact ⟨i, j, kd.int, ke.int, hc i j hC, k _ G H R (Same.refl G) (hv i j G)⟩
       · rw [if_neg hC] at eq'; cases eq')
    | cases eq
def gSS : D → D → Option Rv
  | .str x, .str y => if x.length + y.length ≤ sizeLine then some (.val (.str (x ++ y))) else none
  | _, _ => none
theorem gSS_ok {K : PySem.W.Frag} : BinR K (fun x y H Q => ∃ i j, x = .str i ∧ y = .str j ∧ i.length + j.length ≤ sizeLine ∧ Q (.str (i ++ j)) H) gSS := fun {c G H σ ρ v w d e q Q} R kd ke eq k => by
  cases d <;> cases e <;> first
    | (rename_i i j
       have eq' : (if i.length + j.length ≤ sizeLine then some (Rv.val (.str (i ++ j))) else none) = some q := eq
       by_cases hC : i.length + j.length ≤ sizeLine
       · rw [if_pos hC] at eq'; cases eq'
         exact ⟨i, j, kd.str, ke.str, hC, k _ G H R (Same.refl G) rfl⟩
       · rw [if_neg hC] at eq'; cases eq')
    | cases eq
def gTT : D → D → Option Rv
  | .tup xs, .tup ys => if xs.length + ys.length ≤ sizeLine then some (.val (.tup (xs ++ ys))) else none
  | _, _ => none
theorem gTT_ok {K : PySem.W.Frag} : BinR K (rCatA K) gTT := fun {c G H σ ρ v w d e q Q} R kd ke eq k => by
  cases d <;> cases e <;> first
    | (rename_i xs ys
       have eq' : (if xs.length + ys.length ≤ sizeLine then some (Rv.val (.tup (xs ++ ys))) else none) = some q := eq
       by_cases hC : xs.length + ys.length ≤ sizeLine
       · rw [if_pos hC] at eq'; cases eq'
         obtain ⟨a, vs, rfl, g1, h1, r1⟩ := kd.tup R.gh
         obtain ⟨b, ws, rfl, g2, h2, r2⟩ := ke.tup R.gh
         refine ⟨a, b, vs, ws, rfl, rfl, h1, h2, by rw [r1.length, r2.length]; exact hC, fun z => ?_, fun _ z => ?_, fun _ _ p hp => ?_⟩
         · subst z
           refine k _ G H R (Same.refl G) ⟨b, ws, rfl, g2, ?_⟩
           have r1' := r1.length; cases xs with
             | nil => exact r2
             | cons => cases r1'
         · subst z
           refine k _ G H R (Same.refl G) ⟨a, vs, rfl, g1, ?_⟩
           have r2' := r2.length; cases ys with
             | nil => rw [List.append_nil]; exact r1
             | cons => cases r2'
         · obtain ⟨G', s, R', rr⟩ := R.new_tup hp (r1.append r2)
           exact k _ G' _ R' s rr
       · rw [if_neg hC] at eq'; cases eq')
    | cases eq
def gLL : D → D → Option Rv
  | .lst xs, .lst ys => if xs.length + ys.length ≤ sizeLine then some (.own (.lst (xs ++ ys))) else none
  | _, _ => none
theorem gLL_ok {K : PySem.W.Frag} : BinR K rCat gLL := fun {c G H σ ρ v w d e q Q} R kd ke eq k => by
  cases d <;> cases e <;> first
    | (rename_i xs ys
       have eq' : (if xs.length + ys.length ≤ sizeLine then some (Rv.own (.lst (xs ++ ys))) else none) = some q := eq
       by_cases hC : xs.length + ys.length ≤ sizeLine
       · rw [if_pos hC] at eq'; cases eq'
         obtain ⟨a, vs, rfl, h1, r1⟩ := kd.lst R.gh
         obtain ⟨b, ws, rfl, h2, r2⟩ := ke.lst R.gh
         refine ⟨a, b, vs, ws, rfl, rfl, h1, h2, by rw [r1.length, r2.length]; exact hC, fun p hp => ?_⟩
         obtain ⟨R', rr⟩ := R.new_own hp (r1.append r2)
         exact k _ G _ R' (Same.refl G) rr
       · rw [if_neg hC] at eq'; cases eq')
    | cases eq
def dAdd : D → D → Option Rv := fun d e => ((gII fun i j => .int (i + j)) d e).or ((gTT d e).or ((gLL d e).or (gSS d e)))
theorem add_op {X : Cx} : ∃ r, OpR X (binaryOp .Add) r ∧ BinR X.K r dAdd :=
  ⟨_, op_add.or (op_catA.or (op_cat.or op_add_str)), BinR.or (gII_ok (gv := fun i j => .int (i + j)) fun _ _ _ => by exact rfl) (BinR.or gTT_ok (BinR.or gLL_ok gSS_ok))⟩
def dSub : D → D → Option Rv := gII fun i j => .int (i - j)
theorem sub_op {X : Cx} : ∃ r, OpR X (binaryOp .Sub) r ∧ BinR X.K r dSub := ⟨_, op_sub, gII_ok fun _ _ _ => by exact rfl⟩
def mulOk (i j : Int) : Bool := decide (-(2 ^ 64) < i ∧ i < 2 ^ 64) || decide (-(2 ^ 64) < j ∧ j < 2 ^ 64)
def dMul : D → D → Option Rv := gIIc mulOk fun i j => .int (i * j)
theorem mul_op {X : Cx} : ∃ r, OpR X (binaryOp .Mult) r ∧ BinR X.K r dMul := ⟨_, op_mul, gIIc_ok (fun i j h => by
  unfold mulOk at h
  rcases Bool.or_eq_true_iff.mp h with h | h
  · exact .inl (of_decide_eq_true h)
  · exact .inr (of_decide_eq_true h)) fun _ _ _ => by exact rfl⟩
/-- // by a positive divisor below 2 ^ 64 -/
def divOk (_ j : Int) : Bool := decide (0 < j ∧ j < 2 ^ 64)
def dDiv : D → D → Option Rv := gIIc divOk fun i j => .int (i / j)
theorem div_op {X : Cx} : ∃ r, OpR X (binaryOp .FloorDiv) r ∧ BinR X.K r dDiv := ⟨_, op_fdivW, gIIc_ok (fun i j h => by
  obtain ⟨h1, h2⟩ := of_decide_eq_true (p := 0 < j ∧ j < 2 ^ 64) h
  exact wide_div (b := 64) h1 (by omega) (by decide) (by decide)) fun _ _ _ => by exact rfl⟩
def modOk (_ j : Int) : Bool := decide (0 < j)
def dMod : D → D → Option Rv := gIIc modOk fun i j => .int (i % j)
theorem mod_op {X : Cx} : ∃ r, OpR X (binaryOp .Mod) r ∧ BinR X.K r dMod := ⟨_, op_mod, gIIc_ok (fun i j h => of_decide_eq_true (p := 0 < j) h) fun _ _ _ => by exact rfl⟩
def powOk (i j : Int) : Bool := decide (0 ≤ j ∧ j ≤ 1000 ∧ i.natAbs < 2 ^ 64)
def dPow : D → D → Option Rv := gIIc powOk fun i j => .int (i ^ j.toNat)
theorem pow_op {X : Cx} : ∃ r, OpR X (binaryOp .Pow) r ∧ BinR X.K r dPow := ⟨_, op_pow, gIIc_ok (fun i j h => by
  obtain ⟨h1, h2, h3⟩ := of_decide_eq_true (p := 0 ≤ j ∧ j ≤ 1000 ∧ i.natAbs < 2 ^ 64) h
  exact ⟨h1, by omega, h3⟩) fun _ _ _ => by exact rfl⟩
def dLt : D → D → Option Rv := gII fun i j => .bl (decide (i < j))
def dLe : D → D → Option Rv := gII fun i j => .bl (decide (i ≤ j))
def dGt : D → D → Option Rv := gII fun i j => .bl (decide (j < i))
def dGe : D → D → Option Rv := gII fun i j => .bl (decide (j ≤ i))
theorem lt_op {X : Cx} : ∃ r, OpR X (compareOp .Lt) r ∧ BinR X.K r dLt := ⟨_, op_lt, gII_ok fun _ _ _ => by exact rfl⟩
theorem le_op {X : Cx} : ∃ r, OpR X (compareOp .LtE) r ∧ BinR X.K r dLe := ⟨_, op_le, gII_ok fun _ _ _ => by exact rfl⟩
theorem gt_op {X : Cx} : ∃ r, OpR X (compareOp .Gt) r ∧ BinR X.K r dGt := ⟨_, op_gt, gII_ok fun _ _ _ => by exact rfl⟩
theorem ge_op {X : Cx} : ∃ r, OpR X (compareOp .GtE) r ∧ BinR X.K r dGe := ⟨_, op_ge, gII_ok fun _ _ _ => by exact rfl⟩
section
variable {X : Cx} {W : WX} {a b e : Expr} {fa fb : M Rv} {pos : Pos}
abbrev eAdd := mBin dAdd
abbrev eSub := mBin dSub
abbrev eMul := mBin dMul
abbrev eDiv := mBin dDiv
abbrev eMod := mBin dMod
abbrev ePow := mBin dPow
abbrev eLt := mBin dLt
abbrev eLe := mBin dLe
abbrev eGt := mBin dGt
abbrev eGe := mBin dGe
theorem de_add (ha : DE X W a fa) (hb : DE X W b fb) : DE X W (.BinOp a .Add b pos) (eAdd fa fb) := let ⟨_, h1, h2⟩ := add_op; de_bin h1 h2 ha hb
theorem de_sub (ha : DE X W a fa) (hb : DE X W b fb) : DE X W (.BinOp a .Sub b pos) (eSub fa fb) := let ⟨_, h1, h2⟩ := sub_op; de_bin h1 h2 ha hb
theorem de_mul (ha : DE X W a fa) (hb : DE X W b fb) : DE X W (.BinOp a .Mult b pos) (eMul fa fb) := let ⟨_, h1, h2⟩ := mul_op; de_bin h1 h2 ha hb
theorem de_div (ha : DE X W a fa) (hb : DE X W b fb) : DE X W (.BinOp a .FloorDiv b pos) (eDiv fa fb) := let ⟨_, h1, h2⟩ := div_op; de_bin h1 h2 ha hb
theorem de_mod (ha : DE X W a fa) (hb : DE X W b fb) : DE X W (.BinOp a .Mod b pos) (eMod fa fb) := let ⟨_, h1, h2⟩ := mod_op; de_bin h1 h2 ha hb
theorem de_pow (ha : DE X W a fa) (hb : DE X W b fb) : DE X W (.BinOp a .Pow b pos) (ePow fa fb) := let ⟨_, h1, h2⟩ := pow_op; de_bin h1 h2 ha hb
theorem de_lt (ha : DE X W a fa) (hb : DE X W b fb) : DE X W (.Compare a [.Lt] [b] pos) (eLt fa fb) := let ⟨_, h1, h2⟩ := lt_op; de_cmp h1 h2 ha hb (nomark _)
theorem de_le (ha : DE X W a fa) (hb : DE X W b fb) : DE X W (.Compare a [.LtE] [b] pos) (eLe fa fb) := let ⟨_, h1, h2⟩ := le_op; de_cmp h1 h2 ha hb (nomark _)
theorem de_gt (ha : DE X W a fa) (hb : DE X W b fb) : DE X W (.Compare a [.Gt] [b] pos) (eGt fa fb) := let ⟨_, h1, h2⟩ := gt_op; de_cmp h1 h2 ha hb (nomark _)
theorem de_ge (ha : DE X W a fa) (hb : DE X W b fb) : DE X W (.Compare a [.GtE] [b] pos) (eGe fa fb) := let ⟨_, h1, h2⟩ := ge_op; de_cmp h1 h2 ha hb (nomark _)
end
end Dl

/-! Dl3: equality, in, is, tests. -/
namespace Dl
open PySem L2

/-! ### plain data -/
mutual
def toP : D → Option PyData
  | .non => some .none
  | .bl b => some (.bool b)
  | .int i => some (.int i)
  | .str x => some (.str x)
  | .lst ds => (toPs ds).map .list
  | .tup ds => (toPs ds).map .tuple
  | _ => none
def toPs : List D → Option (List PyData)
  | [] => some []
  | d :: ds => match toP d, toPs ds with
    | some p, some ps => some (p :: ps)
    | _, _ => none
end
section
variable {K : PySem.W.Frag} {c : Cn} {G H : Hp}
mutual
theorem dp_of (s : Same G H) : ∀ (d : D) (v : V) (p : PyData), Rp K G d v → toP d = some p → Dp K H v p
  | .non, _, _, h, e => by cases h; cases e; exact .non
  | .bl b, _, _, h, e => by cases h; cases e; exact .bl b
  | .int b, _, _, h, e => by cases h; cases e; exact .int b
  | .str b, _, _, h, e => by cases h; cases e; exact .str b
  | .lst ds, _, _, ⟨a, xs, h1, h2, h3⟩, e => by
    have e : (toPs ds).map PyData.list = some _ := e
    obtain ⟨ps, e1, e2⟩ := Option.map_eq_some_iff.mp e
    subst h1 e2
    exact .lst (.inl (.inl (s _ _ h2))) (dps_of s ds xs ps h3 e1)
  | .tup ds, _, _, ⟨a, xs, h1, h2, h3⟩, e => by
    have e : (toPs ds).map PyData.tuple = some _ := e
    obtain ⟨ps, e1, e2⟩ := Option.map_eq_some_iff.mp e
    subst h1 e2
    exact .tup (Same.seqt s h2) (dps_of s ds xs ps h3 e1)
  | .obj _ _ _, _, _, _, e => by cases e
  | .dic _ _, _, _, _, e => by cases e
  | .scr _, _, _, _, e => by cases e
  | .ty _, _, _, _, e => by cases e
  | .cls _, _, _, _, e => by cases e
theorem dps_of (s : Same G H) : ∀ (ds : List D) (xs : List V) (ps : List PyData), RpL K G ds xs → toPs ds = some ps → DpAll K H xs ps
  | [], _, _, h, e => by cases h; cases e; exact .nil
  | d :: ds, _, _, ⟨x, r, h1, h2, h3⟩, e => by
    have e : (match toP d, toPs ds with
      | some p, some ps => some (p :: ps)
      | _, _ => none) = some _ := e
    cases q1 : toP d with
    | none => rw [q1] at e; cases e
    | some p =>
      cases q2 : toPs ds with
      | none => rw [q1, q2] at e; cases e
      | some ps =>
        rw [q1, q2] at e
        cases e
        subst h1
        exact .cons (dp_of s d x p h2 q1) (dps_of s ds r ps h3 q2)
end
theorem Rh.dp {d : D} {v : V} {p : PyData} (h : Rh K c G H d v) (s : Same G H) (e : toP d = some p) : Dp K H v p := by
  rcases h with h | ⟨a, rfl, _, _, h⟩
  · exact dp_of s d v p h e
  · cases d with
    | lst ds =>
      obtain ⟨xs, h1, h2⟩ := h
      have e : (toPs ds).map PyData.list = some _ := e
      obtain ⟨ps, e1, e2⟩ := Option.map_eq_some_iff.mp e
      subst e2
      exact .lst (.inl (.inl h1)) (dps_of s ds xs ps h2 e1)
    | obj => cases e
    | dic => cases e
    | _ => exact h.elim
end

/-- == of plain data -/
def dEqB (d e : D) : Option Bool := match toP d, toP e with
  | some p, some q => if (SeqAt.shaped p && SeqAt.shaped q) = true then some (PyData.eqv p q) else none
  | _, _ => none
def dEq (d e : D) : Option Rv := (dEqB d e).map fun b => .val (.bl b)
def dNe (d e : D) : Option Rv := (dEqB d e).map fun b => .val (.bl (!b))
theorem dEqB_some {d e : D} {b : Bool} (h : dEqB d e = some b) : ∃ p q, toP d = some p ∧ toP e = some q ∧ SeqAt.shaped p = true ∧ SeqAt.shaped q = true ∧ b = PyData.eqv p q := by
  unfold dEqB at h
  cases h1 : toP d with
  | none => rw [h1] at h; cases h
  | some p =>
    cases h2 : toP e with
    | none => rw [h1, h2] at h; cases h
    | some q =>
      rw [h1, h2] at h
      dsimp only at h
      by_cases hs : (SeqAt.shaped p && SeqAt.shaped q) = true
      · rw [if_pos hs] at h
        cases h
        obtain ⟨k1, k2⟩ := Bool.and_eq_true_iff.mp hs
        exact ⟨p, q, rfl, rfl, k1, k2, rfl⟩
      · rw [if_neg hs] at h; cases h
theorem eq_ok {K : PySem.W.Frag} : BinR K (rEqD K) dEq := fun {c G H σ ρ v w d e q Q} R kd ke eq k => by
  obtain ⟨b, h1, h2⟩ := Option.map_eq_some_iff.mp eq
  obtain ⟨p1, p2, e1, e2, s1, s2, rfl⟩ := dEqB_some h1
  subst h2
  exact ⟨p1, p2, kd.dp R.gh e1, ke.dp R.gh e2, s1, s2, k _ G H R (Same.refl G) rfl⟩
theorem ne_ok {K : PySem.W.Frag} : BinR K (rNeD K) dNe := fun {c G H σ ρ v w d e q Q} R kd ke eq k => by
  obtain ⟨b, h1, h2⟩ := Option.map_eq_some_iff.mp eq
  obtain ⟨p1, p2, e1, e2, s1, s2, rfl⟩ := dEqB_some h1
  subst h2
  exact ⟨p1, p2, kd.dp R.gh e1, ke.dp R.gh e2, s1, s2, k _ G H R (Same.refl G) rfl⟩

/-! ### in -/
def flD : D → Bool
  | .non => true
  | .bl _ => true
  | .int _ => true
  | .str _ => true
  | _ => false
def feq : D → D → Bool
  | .non, .non => true
  | .bl a, .bl b => a == b
  | .bl a, .int b => (if a then 1 else 0) == b
  | .int a, .bl b => a == (if b then 1 else 0)
  | .int a, .int b => a == b
  | .str a, .str b => a == b
  | _, _ => false
theorem flat_rp {K : PySem.W.Frag} {G : Hp} {d : D} {v : V} (h : Rp K G d v) (f : flD d = true) : flatV v = true := by
  cases d <;> first | (cases h; rfl) | cases f
theorem feq_rp {K : PySem.W.Frag} {G : Hp} {d e : D} {v w : V} (h : Rp K G d v) (h' : Rp K G e w) (f : flD d = true) (f' : flD e = true) : eqV v w = feq d e := by
  cases d <;> first | (cases f; done) | (cases e <;> first | (cases f'; done) | (cases h; cases h'; rfl))
theorem flat_all {K : PySem.W.Frag} {G : Hp} : ∀ {ds : List D} {vs : List V}, RpL K G ds vs → ds.all flD = true → vs.all flatV = true
  | [], _, h, _ => by cases h; rfl
  | d :: ds, _, ⟨x, r, h1, h2, h3⟩, f => by
    obtain ⟨f1, f2⟩ := Bool.and_eq_true_iff.mp (show (flD d && ds.all flD) = true from f)
    subst h1
    show (flatV x && r.all flatV) = true
    rw [flat_rp h2 f1, flat_all h3 f2]; rfl
theorem inV_rp {K : PySem.W.Frag} {G : Hp} {d : D} {v : V} (hd : Rp K G d v) (fd : flD d = true) : ∀ {ds : List D} {vs : List V}, RpL K G ds vs → ds.all flD = true → inV v vs = ds.any fun y => feq y d
  | [], _, h, _ => by cases h; rfl
  | e :: ds, _, ⟨x, r, h1, h2, h3⟩, f => by
    obtain ⟨f1, f2⟩ := Bool.and_eq_true_iff.mp (show (flD e && ds.all flD) = true from f)
    subst h1
    show (eqV x v || inV v r) = (feq e d || ds.any fun y => feq y d)
    rw [feq_rp h2 hd f1 fd, inV_rp hd fd h3 f2]
def items : D → Option (List D)
  | .lst xs => some xs
  | .tup xs => some xs
  | _ => none
def dInB (x y : D) : Option Bool := match items y with
  | some ys => if (flD x && ys.all flD) = true then some (ys.any fun z => feq z x) else none
  | none => none
def dIn (x y : D) : Option Rv := (dInB x y).map fun b => .val (.bl b)
def dNotIn (x y : D) : Option Rv := (dInB x y).map fun b => .val (.bl (!b))
theorem dInB_some {K : PySem.W.Frag} {c : Cn} {G H : Hp} {x y : D} {b : Bool} {v w : V} (s : Same G H) (h : dInB x y = some b) (hx : Rh K c G H x v) (hy : Rh K c G H y w) :
    ∃ p xs, w = .ref p ∧ (SqL K H p xs ∨ SqT K H p xs) ∧ flatV v = true ∧ xs.all flatV = true ∧ inV v xs = b := by
  unfold dInB at h
  cases e : items y with
  | none => rw [e] at h; cases h
  | some ys =>
    rw [e] at h
    dsimp only at h
    by_cases hf : (flD x && ys.all flD) = true
    · rw [if_pos hf] at h
      cases h
      obtain ⟨f1, f2⟩ := Bool.and_eq_true_iff.mp hf
      have rx : Rp K G x v := by
        rcases hx with h | ⟨a, _, _, _, h⟩
        · exact h
        · cases x <;> first | exact h.elim | cases f1
      cases y with
      | lst zs =>
        cases e
        obtain ⟨a, xs, h1, h2, h3⟩ := hy.lst s
        exact ⟨a, xs, h1, .inl (.inl (.inl h2)), flat_rp rx f1, flat_all h3 f2, inV_rp rx f1 h3 f2⟩
      | tup zs =>
        cases e
        obtain ⟨a, xs, h1, _, h2, h3⟩ := hy.tup s
        exact ⟨a, xs, h1, .inr h2, flat_rp rx f1, flat_all h3 f2, inV_rp rx f1 h3 f2⟩
      | _ => cases e
    · rw [if_neg hf] at h; cases h
theorem in_ok {K : PySem.W.Frag} : BinR K (rIn K false) dIn := fun {c G H σ ρ v w d e q Q} R kd ke eq k => by
  obtain ⟨b, h1, h2⟩ := Option.map_eq_some_iff.mp eq
  subst h2
  obtain ⟨p, xs, rfl, hs, f1, f2, hb⟩ := dInB_some R.gh h1 kd ke
  refine ⟨p, xs, rfl, hs, f1, f2, k _ G H R (Same.refl G) ?_⟩
  show V.bl (inV v xs) = V.bl b
  rw [hb]
theorem notIn_ok {K : PySem.W.Frag} : BinR K (rIn K true) dNotIn := fun {c G H σ ρ v w d e q Q} R kd ke eq k => by
  obtain ⟨b, h1, h2⟩ := Option.map_eq_some_iff.mp eq
  subst h2
  obtain ⟨p, xs, rfl, hs, f1, f2, hb⟩ := dInB_some R.gh h1 kd ke
  refine ⟨p, xs, rfl, hs, f1, f2, k _ G H R (Same.refl G) ?_⟩
  show V.bl (!inV v xs) = V.bl (!b)
  rw [hb]
/-- x in [..] of plain data of any depth -/
def dInDB (x y : D) : Option Bool := match toP x, y with
  | some p, .lst ys => (match toPs ys with
    | some ps => if (SeqAt.shaped p && SeqAt.shaped (.list ps)) = true then some (ps.any fun z => PyData.eqv z p) else none
    | none => none)
  | _, _ => none

/-! ### is -/
def dIsN (d e : D) : Option Rv := match d, e with
  | .non, .non => some (.val (.bl true))
  | .obj _ _ _, .non | .int _, .non | .bl _, .non | .str _, .non | .lst _, .non | .tup _, .non | .dic _ _, .non => some (.val (.bl false))
  | .bl a, .bl b => some (.val (.bl (decide (a = b))))
  | _, _ => none
def dNotN (d e : D) : Option Rv := match d, e with
  | .non, .non => some (.val (.bl false))
  | .obj _ _ _, .non | .int _, .non | .bl _, .non | .str _, .non | .lst _, .non | .tup _, .non | .dic _ _, .non => some (.val (.bl true))
  | .bl a, .bl b => some (.val (.bl (!decide (a = b))))
  | _, _ => none
theorem Rh.nn {K : PySem.W.Frag} {c : Cn} {G H : Hp} {d : D} {v : V} (h : Rh K c G H d v) (n : d ≠ .non) : v ≠ .non := by
  intro z
  subst z
  rcases h with h | ⟨a, e, _⟩
  · cases d <;> first | (exact n rfl) | (exact nomatch h) | (obtain ⟨_, _, e, _⟩ := h; cases e) | (obtain ⟨_, e, _⟩ := h; cases e)
  · cases e
theorem is_ok {K : PySem.W.Frag} : BinR K (fun x y H Q => (y = .non ∧ Q (.bl (decide (x = .non))) H) ∨ rIsB x y H Q) dIsN := fun {c G H σ ρ v w d e q Q} R kd ke eq k => by
  have no : ∀ {d : D}, Rh K c G H d v → d ≠ .non → e = .non → q = .val (.bl false) → (w = .non ∧ Q (.bl (decide (v = .non))) H) := fun {d} kd n he hq => by
    subst he hq
    refine ⟨ke.non, k _ G H R (Same.refl G) ?_⟩
    show V.bl _ = V.bl false
    rw [decide_eq_false (kd.nn n)]
  cases d <;> cases e <;> first
    | (cases eq; done)
    | (cases eq; exact .inl (no kd (by intro z; cases z) rfl rfl))
    | (cases eq
       refine .inl ⟨ke.non, k _ G H R (Same.refl G) ?_⟩
       show V.bl _ = V.bl true
       rw [decide_eq_true kd.non])
    | (cases eq
       rename_i a b
       exact .inr ⟨a, b, kd.bl, ke.bl, k _ G H R (Same.refl G) rfl⟩)
theorem notN_ok {K : PySem.W.Frag} : BinR K (fun x y H Q => (y = .non ∧ Q (.bl (!decide (x = .non))) H) ∨ rNotB x y H Q) dNotN := fun {c G H σ ρ v w d e q Q} R kd ke eq k => by
  have no : ∀ {d : D}, Rh K c G H d v → d ≠ .non → e = .non → q = .val (.bl true) → (w = .non ∧ Q (.bl (!decide (v = .non))) H) := fun {d} kd n he hq => by
    subst he hq
    refine ⟨ke.non, k _ G H R (Same.refl G) ?_⟩
    show V.bl _ = V.bl true
    rw [decide_eq_false (kd.nn n)]; rfl
  cases d <;> cases e <;> first
    | (cases eq; done)
    | (cases eq; exact .inl (no kd (by intro z; cases z) rfl rfl))
    | (cases eq
       refine .inl ⟨ke.non, k _ G H R (Same.refl G) ?_⟩
       show V.bl _ = V.bl false
       rw [decide_eq_true kd.non]; rfl)
    | (cases eq
       rename_i a b
       exact .inr ⟨a, b, kd.bl, ke.bl, k _ G H R (Same.refl G) rfl⟩)

section
variable {X : Cx} {W : WX} {a b e : Expr} {fa fb : M Rv} {pos : Pos}
/-- in a list, of data of any depth -/
def dInDeep (x y : D) : Option Bool := match y with
  | .lst ys => match toP x, toPs ys with
    | some d, some ds => if (SeqAt.shaped d && SeqAt.shaped (.list ds)) = true then some (ds.any fun z => PyData.eqv z d) else none
    | _, _ => none
  | _ => none
def dInD (x y : D) : Option Rv := (dInDeep x y).map fun b => .val (.bl b)
def dNotInD (x y : D) : Option Rv := (dInDeep x y).map fun b => .val (.bl (!b))
theorem dInDeep_some {x y : D} {b : Bool} (h : dInDeep x y = some b) : ∃ d ds, toP x = some d ∧ toP y = some (.list ds) ∧ SeqAt.shaped d = true ∧ SeqAt.shaped (.list ds) = true ∧ b = (ds.any fun z => PyData.eqv z d) := by
  unfold dInDeep at h
  cases y <;> first
    | (cases h; done)
    | (rename_i ys
       dsimp only at h
       cases h1 : toP x with
       | none => rw [h1] at h; cases h
       | some d =>
         cases h2 : toPs ys with
         | none => rw [h1, h2] at h; cases h
         | some ds =>
           rw [h1, h2] at h
           dsimp only at h
           by_cases hs : (SeqAt.shaped d && SeqAt.shaped (.list ds)) = true
           · rw [if_pos hs] at h
             cases h
             obtain ⟨k1, k2⟩ := Bool.and_eq_true_iff.mp hs
             exact ⟨d, ds, rfl, by unfold toP; rw [h2]; rfl, k1, k2, rfl⟩
           · rw [if_neg hs] at h; cases h)
theorem inD_ok {K : PySem.W.Frag} : BinR K (rInD K) dInD := fun {c G H σ ρ v w d e q Q} R kd ke eq k => by
  obtain ⟨b, h1, h2⟩ := Option.map_eq_some_iff.mp eq
  obtain ⟨p1, p2, e1, e2, s1, s2, rfl⟩ := dInDeep_some h1
  subst h2
  exact ⟨p1, p2, kd.dp R.gh e1, ke.dp R.gh e2, s1, s2, k _ G H R (Same.refl G) rfl⟩
theorem notInD_ok {K : PySem.W.Frag} : BinR K (rNotInD K) dNotInD := fun {c G H σ ρ v w d e q Q} R kd ke eq k => by
  obtain ⟨b, h1, h2⟩ := Option.map_eq_some_iff.mp eq
  obtain ⟨p1, p2, e1, e2, s1, s2, rfl⟩ := dInDeep_some h1
  subst h2
  exact ⟨p1, p2, kd.dp R.gh e1, ke.dp R.gh e2, s1, s2, k _ G H R (Same.refl G) rfl⟩
def dIn2 (x y : D) : Option Rv := (dIn x y).or (dInD x y)
def dNotIn2 (x y : D) : Option Rv := (dNotIn x y).or (dNotInD x y)
abbrev eEq := mBin dEq
abbrev eNe := mBin dNe
abbrev eIn := mBin dIn2
abbrev eNotIn := mBin dNotIn2
abbrev eIs := mBin dIsN
abbrev eIsNot := mBin dNotN
/-- there is room for comparisons -/
def Rm (X : Cx) : Prop := X.A.units + 65 < cLine
theorem de_eq (hu : Rm X) (ha : DE X W a fa) (hb : DE X W b fb) : DE X W (.Compare a [.Eq] [b] pos) (eEq fa fb) := de_cmp (op_eqD (Nat.lt_of_succ_lt hu)) eq_ok ha hb (nomark _)
theorem de_ne (hu : Rm X) (ha : DE X W a fa) (hb : DE X W b fb) : DE X W (.Compare a [.NotEq] [b] pos) (eNe fa fb) := de_cmp (op_neD (Nat.lt_of_succ_lt hu)) ne_ok ha hb (nomark _)
theorem de_in (hu : Rm X) (ha : DE X W a fa) (hb : DE X W b fb) (hm : behindInMarks .In b = false := by rfl) : DE X W (.Compare a [.In] [b] pos) (eIn fa fb) := de_cmp (op_in_seq.or (op_inD hu)) (BinR.or in_ok inD_ok) ha hb hm
theorem de_notIn (hu : Rm X) (ha : DE X W a fa) (hb : DE X W b fb) (hm : behindInMarks .NotIn b = false := by rfl) : DE X W (.Compare a [.NotIn] [b] pos) (eNotIn fa fb) := de_cmp (op_notIn_seq.or (op_notInD hu)) (BinR.or notIn_ok notInD_ok) ha hb hm
theorem de_is (ha : DE X W a fa) (hb : DE X W b fb) : DE X W (.Compare a [.Is] [b] pos) (eIs fa fb) := de_cmp (op_isN.or op_isBl) is_ok ha hb (nomark _)
theorem de_isNot (ha : DE X W a fa) (hb : DE X W b fb) : DE X W (.Compare a [.IsNot] [b] pos) (eIsNot fa fb) := de_cmp (op_notN.or op_notBl) notN_ok ha hb (nomark _)
end

/-! ### truth, tests -/
def truD : D → Option Bool
  | .non => some false
  | .bl b => some b
  | .int i => some (i != 0)
  | .lst xs => some (!xs.isEmpty)
  | .tup xs => some (!xs.isEmpty)
  | .dic ks _ => some (!ks.isEmpty)
  | _ => none
theorem truD_ok {K : PySem.W.Frag} {c : Cn} {G H : Hp} {d : D} {v : V} {b : Bool} (s : Same G H) (h : Rh K c G H d v) (e : truD d = some b) : TruV K v H b := by
  cases d with
  | non => cases e; rw [h.non]; rfl
  | bl k => cases e; rw [h.bl]; rfl
  | int i => cases e; rw [h.int]; rfl
  | lst ds =>
    cases e
    obtain ⟨a, xs, rfl, h2, h3⟩ := h.lst s
    have hl := h3.length
    refine .inl ⟨xs, .inl (.inl h2), ?_⟩
    cases ds <;> cases xs <;> first | rfl | cases hl
  | tup ds =>
    cases e
    obtain ⟨a, xs, rfl, _, h2, h3⟩ := h.tup s
    have hl := h3.length
    refine .inr (.inl ⟨xs, h2, ?_⟩)
    cases ds <;> cases xs <;> first | rfl | cases hl
  | dic ks vs =>
    cases e
    obtain ⟨a, xs, rfl, h2, h3, _⟩ := h.dic s
    have hl := h3.length
    refine .inr (.inr ⟨xs, h2, ?_⟩)
    cases ks <;> cases xs <;> first | rfl | cases hl
  | _ => cases e
def tru (r : Rv) : M Bool := do
  let d ← peek r
  ofO (truD d)
theorem tru_wp {K : PySem.W.Frag} {c : Cn} {G H : Hp} {σ : L2.St} {ρ : List S} {v : V} {r : Rv} {OK : Bool → List S → Prop} {EX : Xn → List S → Prop} (R : Rst K c G H σ ρ) (h : RpR K c G H σ ρ v r) (w : wpM (tru r ρ) OK EX) :
    ∃ b, TruV K v H b ∧ OK b ρ := by
  obtain ⟨d, kd, w1⟩ := peek_wp R h (wpM_bind w)
  obtain ⟨b, eb, w2⟩ := ofO_wp w1
  exact ⟨b, truD_ok R.gh kd eb, w2⟩
section
variable {X : Cx} {W : WX} {a b e cc : Expr} {rest : List Expr} {fa fb : M Rv} {ga gb : M Bool} {pos : Pos}
def tVal (fa : M Rv) : M Bool := do
  let r ← fa
  tru r
theorem dt_val (ha : DE X W a fa) (he : ∀ whole, isTrue a X.env whole = (do let v ← whole; standAt a.pos; holding [v] (truthy v)) := by intro _; rfl) : DT X W a (tVal fa) :=
  ⟨(pt_truth ha.pe he).weak fun σ H Q ⟨c, G, ρ, R, w⟩ => tg_step R (Same.refl G) w fun x ρ1 v G1 H1 R1 s1 _ k1 w1 => by
    obtain ⟨b, hb, w2⟩ := tru_wp R1 k1 w1
    exact ⟨b, hb, w2 b G1 H1 R1 s1 rfl⟩⟩
def tNot (ga : M Bool) : M Bool := do
  let b ← ga
  pure (!b)
theorem dt_not (ha : DT X W a ga) : DT X W (.UnaryOp .Not a pos) (tNot ga) :=
  ⟨(pt_not ha.pt).weak fun σ H Q ⟨c, G, ρ, R, w⟩ => tg_step R (Same.refl G) w fun x ρ1 v G1 H1 R1 s1 _ k1 w1 => by
    obtain rfl : v = x := k1
    exact w1 (!v) G1 H1 R1 s1 rfl⟩
def tAnd (ga gb : M Bool) : M Bool := do
  let b ← ga
  if b = true then gb else pure false
def tOr (ga gb : M Bool) : M Bool := do
  let b ← ga
  if b = true then pure true else gb
theorem DW.t (h : DW X W e ga) : DT X W e ga := ⟨h.pw.pt⟩
theorem dw_and1 (ha : DT X W a ga) : DW X W (.BoolOp .And [a] pos) ga := ⟨pw_and1 ha.pt⟩
theorem dw_or1 (ha : DT X W a ga) : DW X W (.BoolOp .Or [a] pos) ga := ⟨pw_or1 ha.pt⟩
theorem dw_and (ha : DT X W a ga) (hb : DW X W (.BoolOp .And (b :: rest) pos) gb) : DW X W (.BoolOp .And (a :: b :: rest) pos) (tAnd ga gb) :=
  ⟨(pw_and ha.pt hb.pw).weak fun σ H Q ⟨c, G, ρ, R, w⟩ => tg_step R (Same.refl G) w fun x ρ1 v G1 H1 R1 s1 _ k1 w1 => by
    obtain rfl : v = x := k1
    cases v with
    | true =>
      rw [if_pos rfl] at w1 ⊢
      exact ⟨c, G1, ρ1, R1, wpM_mono w1 (fun y ρ2 h b' G' H' R' s' k' => h b' G' H' R' (s1.trans s') k') fun _ _ x => x.mono s1⟩
    | false =>
      rw [if_neg Bool.false_ne_true] at w1 ⊢
      exact w1 false G1 H1 R1 s1 rfl⟩
theorem dw_or (ha : DT X W a ga) (hb : DW X W (.BoolOp .Or (b :: rest) pos) gb) : DW X W (.BoolOp .Or (a :: b :: rest) pos) (tOr ga gb) :=
  ⟨(pw_or ha.pt hb.pw).weak fun σ H Q ⟨c, G, ρ, R, w⟩ => tg_step R (Same.refl G) w fun x ρ1 v G1 H1 R1 s1 _ k1 w1 => by
    obtain rfl : v = x := k1
    cases v with
    | true =>
      rw [if_pos rfl] at w1 ⊢
      exact w1 true G1 H1 R1 s1 rfl
    | false =>
      rw [if_neg Bool.false_ne_true] at w1 ⊢
      exact ⟨c, G1, ρ1, R1, wpM_mono w1 (fun y ρ2 h b' G' H' R' s' k' => h b' G' H' R' (s1.trans s') k') fun _ _ x => x.mono s1⟩⟩
/-! values by truth -/
def eNot (fa : M Rv) : M Rv := do
  let r ← fa
  let b ← tru r
  pure (.val (.bl (!b)))
theorem de_not (ha : DE X W a fa) : DE X W (.UnaryOp .Not a pos) (eNot fa) :=
  ⟨(pe_notT ha.pe).weak fun σ H Q ⟨c, G, ρ, R, w⟩ => tg_step R (Same.refl G) w fun x ρ1 v G1 H1 R1 s1 _ k1 w1 => by
    obtain ⟨b, hb, w2⟩ := tru_wp R1 k1 (wpM_bind w1)
    exact ⟨b, hb, w2 (.bl (!b)) G1 H1 R1 s1 rfl⟩⟩
/-- x and y: x itself is settled where it is the answer -/
def eAnd (fa fb : M Rv) : M Rv := do
  let r ← fa
  let b ← tru (settle r)
  if b = true then fb else pure (settle r)
def eOr (fa fb : M Rv) : M Rv := do
  let r ← fa
  let b ← tru (settle r)
  if b = true then pure (settle r) else fb
theorem de_one {op : BoolOp} (ha : DE X W a fa) : DE X W (.BoolOp op [a] pos) fa := ⟨pe_one ha.pe⟩
theorem de_and (ha : DE X W a fa) (hb : DE X W (.BoolOp .And (b :: rest) pos) fb) : DE X W (.BoolOp .And (a :: b :: rest) pos) (eAnd fa fb) :=
  ⟨(pe_andT ha.pe hb.pe).weak fun σ H Q ⟨c, G, ρ, R, w⟩ => tg_step R (Same.refl G) w fun x ρ1 v G1 H1 R1 s1 _ k1 w1 => by
    obtain ⟨G1', s1', R1', k1'⟩ := settle_ok R1 k1
    obtain ⟨b, hb, w2⟩ := tru_wp R1' k1'.one (wpM_bind w1)
    refine ⟨b, hb, ?_⟩
    cases b with
    | true =>
      rw [if_pos rfl] at w2 ⊢
      exact ⟨c, G1', ρ1, R1', wpM_mono w2 (fun y ρ2 h b' G' H' R' s' k' => h b' G' H' R' ((s1.trans s1').trans s') k') fun _ _ x => x.mono (s1.trans s1')⟩
    | false =>
      rw [if_neg Bool.false_ne_true] at w2 ⊢
      exact w2 v G1' H1 R1' (s1.trans s1') k1'.one⟩
theorem de_or (ha : DE X W a fa) (hb : DE X W (.BoolOp .Or (b :: rest) pos) fb) : DE X W (.BoolOp .Or (a :: b :: rest) pos) (eOr fa fb) :=
  ⟨(pe_orT ha.pe hb.pe).weak fun σ H Q ⟨c, G, ρ, R, w⟩ => tg_step R (Same.refl G) w fun x ρ1 v G1 H1 R1 s1 _ k1 w1 => by
    obtain ⟨G1', s1', R1', k1'⟩ := settle_ok R1 k1
    obtain ⟨b, hb, w2⟩ := tru_wp R1' k1'.one (wpM_bind w1)
    refine ⟨b, hb, ?_⟩
    cases b with
    | true =>
      rw [if_pos rfl] at w2 ⊢
      exact w2 v G1' H1 R1' (s1.trans s1') k1'.one
    | false =>
      rw [if_neg Bool.false_ne_true] at w2 ⊢
      exact ⟨c, G1', ρ1, R1', wpM_mono w2 (fun y ρ2 h b' G' H' R' s' k' => h b' G' H' R' ((s1.trans s1').trans s') k') fun _ _ x => x.mono (s1.trans s1')⟩⟩
def eIf (g : M Bool) (fa fb : M Rv) : M Rv := do
  let b ← g
  if b = true then fa else fb
theorem de_if (hc : DT X W cc ga) (ha : DE X W a fa) (hb : DE X W b fb) : DE X W (.IfExp cc a b pos) (eIf ga fa fb) :=
  ⟨(pe_ifExp hc.pt ha.pe hb.pe).weak fun σ H Q ⟨c, G, ρ, R, w⟩ => tg_step R (Same.refl G) w fun x ρ1 v G1 H1 R1 s1 _ k1 w1 => by
    obtain rfl : v = x := k1
    cases v with
    | true =>
      rw [if_pos rfl] at w1 ⊢
      exact ⟨c, G1, ρ1, R1, wpM_mono w1 (fun y ρ2 h b' G' H' R' s' k' => h b' G' H' R' (s1.trans s') k') fun _ _ x => x.mono s1⟩
    | false =>
      rw [if_neg Bool.false_ne_true] at w1 ⊢
      exact ⟨c, G1, ρ1, R1, wpM_mono w1 (fun y ρ2 h b' G' H' R' s' k' => h b' G' H' R' (s1.trans s') k') fun _ _ x => x.mono s1⟩⟩
def eNeg (fa : M Rv) : M Rv := do
  let r ← fa
  let d ← peek r
  match d with
  | .int i => pure (.val (.int (-i)))
  | _ => M.fail
theorem de_neg (ha : DE X W a fa) : DE X W (.UnaryOp .USub a pos) (eNeg fa) :=
  ⟨(pe_un un_neg ha.pe).weak fun σ H Q ⟨c, G, ρ, R, w⟩ => tg_step R (Same.refl G) w fun x ρ1 v G1 H1 R1 s1 _ k1 w1 => by
    obtain ⟨d, kd, w2⟩ := peek_wp R1 k1 (wpM_bind w1)
    cases d <;> first
      | exact w2.elim
      | (rename_i i; exact ⟨i, kd.int, w2 (.int (-i)) G1 H1 R1 s1 rfl⟩)⟩
end
end Dl

/-! Dl4: displays, built-in functions, subscripts, slices. -/
namespace Dl
open PySem L2

/-! ### displays -/
section
variable {K : PySem.W.Frag} {c : Cn} {G G' H H' : Hp} {σ : L2.St} {ρ ρ' : List S} {v : V} {d : D} {r : Rv} {rs : List Rv} {vs : List V}
theorem RpRs.vals : ∀ {ds : List D} {vs : List V}, RpL K G ds vs → RpRs K G σ vs (ds.map Rv.val)
  | [], _, h => by cases h; trivial
  | d :: ds, _, ⟨x, r, h1, h2, h3⟩ => by subst h1; exact ⟨h2, RpRs.vals h3⟩
theorem RpRs.append : ∀ {vs ws : List V} {rs qs : List Rv}, RpRs K G σ vs rs → RpRs K G σ ws qs → RpRs K G σ (vs ++ ws) (rs ++ qs)
  | [], ws, [], qs, _, k => k
  | v :: vs, ws, r :: rs, qs, h, k => let ⟨h1, h2⟩ := h.head; RpRs.cons h1 (h2.append k)
  | [], _, _ :: _, _, h, _ => h.elim
  | _ :: _, _, [], _, h, _ => h.elim
end
section
variable {X : Cx} {W : WX} {a b e : Expr} {es : List Expr} {fa fb : M Rv} {ga : M (List Rv)} {pos p : Pos}
def eTup (ga : M (List Rv)) : M Rv := do
  let rs ← ga
  let ds ← toVs rs
  if ds.length ≤ sizeLine then pure (.val (.tup ds)) else M.fail
def eLst (ga : M (List Rv)) : M Rv := do
  let rs ← ga
  let ds ← toVs rs
  if ds.length ≤ sizeLine then pure (.own (.lst ds)) else M.fail
theorem de_tup {k} (ha : DA X W es ga) : DE X W (.Tuple es k pos) (eTup ga) :=
  ⟨(pe_tup ha.pa).weak fun σ H Q ⟨c, G, ρ, R, w⟩ => tg_step R (Same.refl G) w fun rs ρ1 vs G1 H1 R1 s1 _ k1 w1 => by
    obtain ⟨ds, G2, ρ2, s2, R2, k2, w2⟩ := toVs_wp R1 k1 (wpM_bind w1)
    by_cases hl : ds.length ≤ sizeLine
    · rw [if_pos hl] at w2
      refine ⟨by rw [k2.length]; exact hl, fun p hp => ?_⟩
      obtain ⟨G3, s3, R3, k3⟩ := R2.new_tup hp k2
      exact w2 _ G3 _ R3 ((s1.trans s2).trans s3) k3
    · rw [if_neg hl] at w2; exact w2.elim⟩
theorem de_lst (ha : DA X W es ga) : DE X W (.List es pos) (eLst ga) :=
  ⟨(pe_lst ha.pa).weak fun σ H Q ⟨c, G, ρ, R, w⟩ => tg_step R (Same.refl G) w fun rs ρ1 vs G1 H1 R1 s1 _ k1 w1 => by
    obtain ⟨ds, G2, ρ2, s2, R2, k2, w2⟩ := toVs_wp R1 k1 (wpM_bind w1)
    by_cases hl : ds.length ≤ sizeLine
    · rw [if_pos hl] at w2
      refine ⟨by rw [k2.length]; exact hl, fun p hp => ?_⟩
      obtain ⟨R3, k3⟩ := R2.new_own hp k2
      exact w2 _ G2 _ R3 (s1.trans s2) k3
    · rw [if_neg hl] at w2; exact w2.elim⟩
/-- *e in a display -/
def aStar (f : M Rv) (g : M (List Rv)) : M (List Rv) := do
  let r ← f
  let d ← peek r
  match items d with
  | some ds => do
    let rs ← g
    pure (ds.map Rv.val ++ rs)
  | none => M.fail
theorem da_star {f : M Rv} {g : M (List Rv)} (he : DE X W e f) (hr : DA X W es g) (hs : starEach (.Starred e p :: es) X.env = (true, eval e X.env) :: starEach es X.env := by rfl) : DA X W (.Starred e p :: es) (aStar f g) :=
  ⟨(StX.pa_star he.pe hr.pa hs).weak fun σ H Q ⟨c, G, ρ, R, w⟩ => tg_step R (Same.refl G) w fun r ρ1 v G1 H1 R1 s1 _ k w1 => by
    obtain ⟨d, kd, w2⟩ := peek_wp R1 k (wpM_bind w1)
    have go : ∀ (a : Addr) (xs : List V) (ds : List D), (SqT X.K H1 a xs ∨ SqL X.K H1 a xs) → RpL X.K G1 ds xs → items d = some ds → v = .ref a →
        ∃ p xs, v = V.ref p ∧ (SqT X.K H1 p xs ∨ SqL X.K H1 p xs) ∧ tDA X.K W g σ H1 fun ys H2 => Q (xs ++ ys) H2 := fun a xs ds h1 h2 h3 h4 => by
      rw [h3] at w2
      refine ⟨a, xs, h4, h1, ?_⟩
      exact tg_step R1 s1 w2 fun rs ρ2 vs G2 H2 R2 s2 s12 k2 w3 => w3 (xs ++ vs) G2 H2 R2 s2 (RpRs.append (RpRs.vals (h2.mono s12)) k2)
    cases d with
    | lst ds =>
      obtain ⟨a, xs, h1, h2, h3⟩ := kd.lst R1.gh
      exact go a xs ds (.inr (.inl (.inl h2))) h3 rfl h1
    | tup ds =>
      obtain ⟨a, xs, h1, _, h2, h3⟩ := kd.tup R1.gh
      exact go a xs ds (.inl h2) h3 rfl h1
    | _ => exact w2.elim⟩
end

/-! ### built-in functions -/
def CalR (K : PySem.W.Frag) (r : List V → Hp → VK → Prop) (g : List D → Option Rv) : Prop := ∀ {c : Cn} {G H : Hp} {σ : L2.St} {ρ : List S} {vs : List V} {ds : List D} {q : Rv} {Q : VK}, Rst K c G H σ ρ → RhL K c G H ds vs → g ds = some q →
  (∀ z G' H', Rst K c G' H' σ ρ → Same G G' → RpR K c G' H' σ ρ z q → Q z H') → r vs H Q
def eB (g : List D → Option Rv) (ga : M (List Rv)) : M Rv := do
  let rs ← ga
  let ds ← peeks rs
  ofO (g ds)
theorem CalR.or {K : PySem.W.Frag} {r r' : List V → Hp → VK → Prop} {g g' : List D → Option Rv} (h : CalR K r g) (h' : CalR K r' g') : CalR K (fun xs H Q => r xs H Q ∨ r' xs H Q) (fun ds => (g ds).or (g' ds)) := fun {c G H σ ρ vs ds q Q} R kd eq k => by
  have eq : (g ds).or (g' ds) = some q := eq
  cases z : g ds with
  | some q' => rw [z, Option.some_or] at eq; cases eq; exact .inl (h R kd z k)
  | none => rw [z, Option.none_or] at eq; exact .inr (h' R kd eq k)
theorem CallR.or {X : Cx} {f : Value} {r r' : List V → Hp → VK → Prop} (h : CallR X f r) (h' : CallR X f r') : CallR X f (fun xs H Q => r xs H Q ∨ r' xs H Q) := fun pins s σ H xs us Q I rx q => by
  rcases q with q | q
  · exact h pins s σ H xs us Q I rx q
  · exact h' pins s σ H xs us Q I rx q
theorem RhL.one {K : PySem.W.Frag} {c : Cn} {G H : Hp} {d : D} {vs : List V} (h : RhL K c G H [d] vs) : ∃ v, vs = [v] ∧ Rh K c G H d v := by
  obtain ⟨v, r, h1, h2, h3⟩ := h
  cases h3
  exact ⟨v, h1, h2⟩
theorem RhL.two {K : PySem.W.Frag} {c : Cn} {G H : Hp} {d e : D} {vs : List V} (h : RhL K c G H [d, e] vs) : ∃ v w, vs = [v, w] ∧ Rh K c G H d v ∧ Rh K c G H e w := by
  obtain ⟨v, r, h1, h2, h3⟩ := h
  obtain ⟨w, rfl, h4⟩ := h3.one
  exact ⟨v, w, h1, h2, h4⟩
section
variable {X : Cx} {W : WX} {x : Str} {e : Expr} {es : List Expr} {ga : M (List Rv)} {pos p : Pos} {id T : String} {r : List V → Hp → VK → Prop} {g : List D → Option Rv}
theorem tD_call {σ : L2.St} {H : Hp} {Q : VK} (hg : CalR X.K r g) (h : tD X.K W (eB g ga) σ H Q) : tCB r (tDA X.K W ga) σ H Q := by
  obtain ⟨c, G, ρ, R, w⟩ := h
  refine tg_step R (Same.refl G) w fun rs ρ1 vs G1 H1 R1 s1 _ k1 w1 => ?_
  obtain ⟨ds, kd, w2⟩ := peeks_wp R1 k1 (wpM_bind w1)
  obtain ⟨q, eq, w3⟩ := ofO_wp w2
  exact hg R1 kd eq fun z G' H' R' s' kz => w3 z G' H' R' (s1.trans s') kz
theorem de_B (hc : CallR X (.builtin id) r) (hq : CalR X.K r g) (hg : Gl X x) (hm : X.mg x = none) (hv : bootBuiltins x = some (.builtin id)) (ha : DA X W (e :: es) ga) (hn : x ≠ "__name__" := by decide) (hdb : (x == ("__debug__" : Str)) = false := by decide)
    (he : starEach (e :: es) X.env = (false, eval e X.env) :: starEach es X.env := by rfl) (hpl : (backTo pos (starEach es X.env)).any (·.1) = false := by rfl) : DE X W (.Call (.Name x p) (e :: es) [] pos) (eB g ga) :=
  ⟨(pe_callB hc hg hm hv ha.pa hn hdb he hpl).weak fun _ _ _ h => tD_call hq h⟩
theorem de_Ty (hc : CallR X (.type T) r) (hq : CalR X.K r g) (hg : Gl X x) (hm : X.mg x = none) (hv : bootBuiltins x = some (.type T)) (ha : DA X W (e :: es) ga) (hn : x ≠ "__name__" := by decide) (hdb : (x == ("__debug__" : Str)) = false := by decide)
    (he : starEach (e :: es) X.env = (false, eval e X.env) :: starEach es X.env := by rfl) (hpl : (backTo pos (starEach es X.env)).any (·.1) = false := by rfl) : DE X W (.Call (.Name x p) (e :: es) [] pos) (eB g ga) :=
  ⟨(pe_callTy hc hg hm hv ha.pa hn hdb he hpl).weak fun _ _ _ h => tD_call hq h⟩
end
/-! len -/
def gLen : List D → Option Rv
  | [.lst xs] => some (.val (.int xs.length))
  | [.tup xs] => some (.val (.int xs.length))
  | [.scr xs] => some (.val (.int xs.length))
  | [.str x] => if x.length ≤ sizeLine then some (.val (.int x.length)) else none
  | _ => none
theorem len_ok {K : PySem.W.Frag} : CalR K (fun xs H Q => ∃ x n, xs = [x] ∧ LenV K x H n ∧ Q (.int n) H) gLen := fun {c G H σ ρ vs ds q Q} R kd eq k => by
  unfold gLen at eq
  split at eq
  · cases eq
    obtain ⟨v, rfl, kv⟩ := kd.one
    obtain ⟨a, xs, rfl, h2, h3⟩ := kv.lst R.gh
    exact ⟨_, xs.length, rfl, .inl ⟨xs, .inl (.inl h2), rfl⟩, k _ G H R (Same.refl G) (by rw [h3.length]; rfl)⟩
  · cases eq
    obtain ⟨v, rfl, kv⟩ := kd.one
    obtain ⟨a, xs, rfl, _, h2, h3⟩ := kv.tup R.gh
    exact ⟨_, xs.length, rfl, .inr ⟨xs, h2, rfl⟩, k _ G H R (Same.refl G) (by rw [h3.length]; rfl)⟩
  · cases eq
    rename_i ns
    obtain ⟨v, rfl, kv⟩ := kd.one
    obtain ⟨a, rfl, h2⟩ := kv.scr R.gh
    exact ⟨_, _, rfl, .inl ⟨_, h2, rfl⟩, k _ G H R (Same.refl G) (by rw [List.length_map]; rfl)⟩
  · split at eq
    · cases eq
      rename_i hl
      obtain ⟨v, rfl, kv⟩ := kd.one
      have e := kv.str
      subst e
      exact ⟨_, _, rfl, ⟨hl, rfl⟩, k _ G H R (Same.refl G) rfl⟩
    · cases eq
  · cases eq
/-! int, abs, max, min of two -/
def gInt : List D → Option Rv
  | [.int i] => some (.val (.int i))
  | [.bl b] => some (.val (.int (if b then 1 else 0)))
  | _ => none
theorem int_ok {K : PySem.W.Frag} : CalR K (fun xs H Q => (∃ i, xs = [.int i] ∧ Q (.int i) H) ∨ ∃ k, xs = [.bl k] ∧ Q (.int (if k then 1 else 0)) H) gInt := fun {c G H σ ρ vs ds q Q} R kd eq k => by
  unfold gInt at eq
  split at eq
  · cases eq
    obtain ⟨v, rfl, kv⟩ := kd.one
    have e := kv.int
    subst e
    exact .inl ⟨_, rfl, k _ G H R (Same.refl G) rfl⟩
  · cases eq
    obtain ⟨v, rfl, kv⟩ := kd.one
    have e := kv.bl
    subst e
    exact .inr ⟨_, rfl, k _ G H R (Same.refl G) rfl⟩
  · cases eq
def gMax2 : List D → Option Rv
  | [.int i, .int j] => some (.val (.int (if j > i then j else i)))
  | _ => none
def gMin2 : List D → Option Rv
  | [.int i, .int j] => some (.val (.int (if j < i then j else i)))
  | _ => none
theorem max2_ok {K : PySem.W.Frag} : CalR K (fun xs H Q => ∃ i j, xs = [.int i, .int j] ∧ Q (.int (if j > i then j else i)) H) gMax2 := fun {c G H σ ρ vs ds q Q} R kd eq k => by
  unfold gMax2 at eq
  split at eq
  · cases eq
    obtain ⟨v, w, rfl, kv, kw⟩ := kd.two
    have e := kv.int
    have e2 := kw.int
    subst e e2
    exact ⟨_, _, rfl, k _ G H R (Same.refl G) rfl⟩
  · cases eq
theorem min2_ok {K : PySem.W.Frag} : CalR K (fun xs H Q => ∃ i j, xs = [.int i, .int j] ∧ Q (.int (if j < i then j else i)) H) gMin2 := fun {c G H σ ρ vs ds q Q} R kd eq k => by
  unfold gMin2 at eq
  split at eq
  · cases eq
    obtain ⟨v, w, rfl, kv, kw⟩ := kd.two
    have e := kv.int
    have e2 := kw.int
    subst e e2
    exact ⟨_, _, rfl, k _ G H R (Same.refl G) rfl⟩
  · cases eq
/-! list, tuple of a sequence -/
def gList : List D → Option Rv
  | [.lst xs] => some (.own (.lst xs))
  | [.tup xs] => some (.own (.lst xs))
  | _ => none
theorem list_ok {K : PySem.W.Frag} : CalR K (fun xs H Q => ∃ p ys, xs = [.ref p] ∧ (SqL K H p ys ∨ SqT K H p ys) ∧ ∀ l, H l = none → Q (.ref l) (upd H l (.lst ys))) gList := fun {c G H σ ρ vs ds q Q} R kd eq k => by
  unfold gList at eq
  split at eq
  · cases eq
    obtain ⟨v, rfl, kv⟩ := kd.one
    obtain ⟨a, xs, rfl, h2, h3⟩ := kv.lst R.gh
    refine ⟨a, xs, rfl, .inl (.inl (.inl h2)), fun l hl => ?_⟩
    obtain ⟨R', kk⟩ := R.new_own hl h3
    exact k _ G _ R' (Same.refl G) kk
  · cases eq
    obtain ⟨v, rfl, kv⟩ := kd.one
    obtain ⟨a, xs, rfl, _, h2, h3⟩ := kv.tup R.gh
    refine ⟨a, xs, rfl, .inr h2, fun l hl => ?_⟩
    obtain ⟨R', kk⟩ := R.new_own hl h3
    exact k _ G _ R' (Same.refl G) kk
  · cases eq
def gTuple : List D → Option Rv
  | [.lst xs] => some (.val (.tup xs))
  | [.tup xs] => some (.val (.tup xs))
  | _ => none
theorem tuple_ok {K : PySem.W.Frag} : CalR K (fun xs H Q => ∃ p ys, xs = [.ref p] ∧ ((SqL K H p ys ∧ ∀ l, H l = none → Q (.ref l) (upd H l (.tup ys))) ∨ (SqT K H p ys ∧ Q (.ref p) H))) gTuple := fun {c G H σ ρ vs ds q Q} R kd eq k => by
  unfold gTuple at eq
  split at eq
  · cases eq
    obtain ⟨v, rfl, kv⟩ := kd.one
    obtain ⟨a, xs, rfl, h2, h3⟩ := kv.lst R.gh
    refine ⟨a, xs, rfl, .inl ⟨.inl (.inl h2), fun l hl => ?_⟩⟩
    obtain ⟨G', s, R', kk⟩ := R.new_tup hl h3
    exact k _ G' _ R' s kk
  · cases eq
    obtain ⟨v, rfl, kv⟩ := kd.one
    obtain ⟨a, xs, rfl, h1, h2, h3⟩ := kv.tup R.gh
    exact ⟨a, xs, rfl, .inr ⟨h2, k _ G H R (Same.refl G) ⟨a, xs, rfl, h1, h3⟩⟩⟩
  · cases eq
/-! lists of ints, of bools -/
def asInts : List D → Option (List Int)
  | [] => some []
  | .int i :: ds => (asInts ds).map (i :: ·)
  | _ :: _ => none
theorem asInts_map (ns : List Int) : asInts (ns.map D.int) = some ns := by
  induction ns with
  | nil => rfl
  | cons n ns ih => rw [List.map_cons]; show (asInts (ns.map D.int)).map _ = _; rw [ih]; rfl
theorem asInts_eq : ∀ {ds : List D} {ns : List Int}, asInts ds = some ns → ds = ns.map D.int
  | [], _, h => by cases h; rfl
  | d :: ds, ns, h => by
    cases d <;> first
      | (rename_i i
         obtain ⟨ms, h1, h2⟩ := Option.map_eq_some_iff.mp (show (asInts ds).map (i :: ·) = some ns from h)
         subst h2
         rw [asInts_eq h1]; rfl)
      | cases h
def asBools : List D → Option (List Bool)
  | [] => some []
  | .bl i :: ds => (asBools ds).map (i :: ·)
  | _ :: _ => none
theorem asBools_map (ns : List Bool) : asBools (ns.map D.bl) = some ns := by
  induction ns with
  | nil => rfl
  | cons n ns ih => rw [List.map_cons]; show (asBools (ns.map D.bl)).map _ = _; rw [ih]; rfl
theorem asBools_eq : ∀ {ds : List D} {ns : List Bool}, asBools ds = some ns → ds = ns.map D.bl
  | [], _, h => by cases h; rfl
  | d :: ds, ns, h => by
    cases d <;> first
      | (rename_i i
         obtain ⟨ms, h1, h2⟩ := Option.map_eq_some_iff.mp (show (asBools ds).map (i :: ·) = some ns from h)
         subst h2
         rw [asBools_eq h1]; rfl)
      | cases h
theorem RpL.of_bools {K : PySem.W.Frag} {G : Hp} : ∀ {ns : List Bool} {xs : List V}, RpL K G (ns.map D.bl) xs → xs = ns.map V.bl
  | [], _, h => h
  | n :: ns, _, ⟨x, r, h1, h2, h3⟩ => by
    have h4 : x = .bl n := h2
    rw [h1, h4, h3.of_bools]; rfl
def gI1 (f : List Int → Option Rv) : List D → Option Rv
  | [.lst ds] => (asInts ds).bind f
  | _ => none
theorem gI1_ok {K : PySem.W.Frag} {r : List V → Hp → VK → Prop} {f : List Int → Option Rv}
    (h : ∀ {c : Cn} {G H : Hp} {σ : L2.St} {ρ : List S} {a : Addr} {ns : List Int} {q : Rv} {Q : VK}, Rst K c G H σ ρ → SqL K H a (ns.map V.int) → f ns = some q → (∀ z G' H', Rst K c G' H' σ ρ → Same G G' → RpR K c G' H' σ ρ z q → Q z H') → r [.ref a] H Q) : CalR K r (gI1 f) := fun {c G H σ ρ vs ds q Q} R kd eq k => by
  unfold gI1 at eq
  split at eq
  · obtain ⟨ns, e1, e2⟩ := Option.bind_eq_some_iff.mp eq
    have e3 := asInts_eq e1
    subst e3
    obtain ⟨v, rfl, kv⟩ := kd.one
    obtain ⟨a, xs, rfl, h2, h3⟩ := kv.lst R.gh
    have e4 := h3.of_ints
    subst e4
    exact h R (.inl (.inl h2)) e2 k
  · cases eq
def lMax : List Int → Option Int
  | [] => none
  | n :: ns => some (ns.foldl (fun a b => if b > a then b else a) n)
def lMin : List Int → Option Int
  | [] => none
  | n :: ns => some (ns.foldl (fun a b => if b < a then b else a) n)
theorem foldMax (ns : List Int) : ∀ n : Int, (ns.foldl (fun a b => if b > a then b else a) n ∈ n :: ns) ∧ ∀ y ∈ n :: ns, y ≤ ns.foldl (fun a b => if b > a then b else a) n := by
  induction ns with
  | nil => exact fun n => ⟨by simp, fun y hy => by simp at hy; subst hy; exact Int.le_refl _⟩
  | cons m ns ih =>
    intro n
    rw [List.foldl_cons]
    obtain ⟨h1, h2⟩ := ih (if m > n then m else n)
    have ge1 : n ≤ (if m > n then m else n) ∧ m ≤ (if m > n then m else n) := by split <;> omega
    refine ⟨?_, fun y hy => ?_⟩
    · rcases List.mem_cons.mp h1 with e | e
      · rw [e]; split <;> simp
      · exact List.mem_cons_of_mem _ (List.mem_cons_of_mem _ e)
    · have h0 := h2 _ (List.mem_cons_self ..)
      rcases List.mem_cons.mp hy with e | e
      · subst e; omega
      · rcases List.mem_cons.mp e with e | e
        · subst e; omega
        · exact h2 y (List.mem_cons_of_mem _ e)
theorem foldMin (ns : List Int) : ∀ n : Int, (ns.foldl (fun a b => if b < a then b else a) n ∈ n :: ns) ∧ ∀ y ∈ n :: ns, ns.foldl (fun a b => if b < a then b else a) n ≤ y := by
  induction ns with
  | nil => exact fun n => ⟨by simp, fun y hy => by simp at hy; subst hy; exact Int.le_refl _⟩
  | cons m ns ih =>
    intro n
    rw [List.foldl_cons]
    obtain ⟨h1, h2⟩ := ih (if m < n then m else n)
    have ge1 : (if m < n then m else n) ≤ n ∧ (if m < n then m else n) ≤ m := by split <;> omega
    refine ⟨?_, fun y hy => ?_⟩
    · rcases List.mem_cons.mp h1 with e | e
      · rw [e]; split <;> simp
      · exact List.mem_cons_of_mem _ (List.mem_cons_of_mem _ e)
    · have h0 := h2 _ (List.mem_cons_self ..)
      rcases List.mem_cons.mp hy with e | e
      · subst e; omega
      · rcases List.mem_cons.mp e with e | e
        · subst e; omega
        · exact h2 y (List.mem_cons_of_mem _ e)
theorem lMax_spec {ns : List Int} {m : Int} (h : lMax ns = some m) : m ∈ ns ∧ ∀ y ∈ ns, y ≤ m := by
  cases ns with
  | nil => cases h
  | cons n ns => cases h; exact foldMax ns n
theorem lMin_spec {ns : List Int} {m : Int} (h : lMin ns = some m) : m ∈ ns ∧ ∀ y ∈ ns, m ≤ y := by
  cases ns with
  | nil => cases h
  | cons n ns => cases h; exact foldMin ns n
def gMaxL : List D → Option Rv := gI1 fun ns => (lMax ns).map fun m => .val (.int m)
def gMinL : List D → Option Rv := gI1 fun ns => (lMin ns).map fun m => .val (.int m)
def gSum : List D → Option Rv := gI1 fun ns => some (.val (.int ns.sum))
theorem maxL_ok {K : PySem.W.Frag} : CalR K (rMax K) gMaxL := gI1_ok fun {c G H σ ρ a ns q Q} R hs eq k => by
  obtain ⟨m, e1, e2⟩ := Option.map_eq_some_iff.mp eq
  subst e2
  obtain ⟨h1, h2⟩ := lMax_spec e1
  refine ⟨a, ns, rfl, hs, List.length_pos_of_mem h1, fun m' hm hle => ?_⟩
  have e : m' = m := Int.le_antisymm (h2 _ hm) (hle _ h1)
  subst e
  exact k _ G H R (Same.refl G) rfl
theorem minL_ok {K : PySem.W.Frag} : CalR K (rMin K) gMinL := gI1_ok fun {c G H σ ρ a ns q Q} R hs eq k => by
  obtain ⟨m, e1, e2⟩ := Option.map_eq_some_iff.mp eq
  subst e2
  obtain ⟨h1, h2⟩ := lMin_spec e1
  refine ⟨a, ns, rfl, hs, List.length_pos_of_mem h1, fun m' hm hle => ?_⟩
  have e : m' = m := Int.le_antisymm (hle _ h1) (h2 _ hm)
  subst e
  exact k _ G H R (Same.refl G) rfl
theorem sum_ok {K : PySem.W.Frag} : CalR K (rSum K) gSum := gI1_ok fun {c G H σ ρ a ns q Q} R hs eq k => by
  cases eq
  exact ⟨a, ns, rfl, hs, k _ G H R (Same.refl G) rfl⟩
/-! sorted -/
def sortI (ns : List Int) : List Int := ns.mergeSort (fun a b => decide (a ≤ b))
theorem sortI_perm (ns : List Int) : (sortI ns).Perm ns := List.mergeSort_perm ns _
theorem sortI_sorted (ns : List Int) : (sortI ns).Pairwise (· ≤ ·) := by
  have h := List.pairwise_mergeSort (le := fun a b : Int => decide (a ≤ b)) (fun a b c h1 h2 => by simp at *; omega) (fun a b => by simp; omega) ns
  exact h.imp fun h => by simpa using h
theorem sortI_of {ns ms : List Int} (h : ms.Perm ns) (s : ms.Pairwise (· ≤ ·)) : ms = sortI ns := PySem.W.ksm_same (h.trans (sortI_perm ns).symm) s (sortI_sorted ns)
def gSorted : List D → Option Rv := gI1 fun ns => some (.own (.lst ((sortI ns).map .int)))
theorem sorted_ok {K : PySem.W.Frag} : CalR K (rSortedI K) gSorted := gI1_ok fun {c G H σ ρ a ns q Q} R hs eq k => by
  cases eq
  refine ⟨a, ns, rfl, hs, fun ns' p hp ho hn => ?_⟩
  have e := sortI_of hp ho
  subst e
  obtain ⟨R', kk⟩ := R.new_own hn (RpL.ints (K := K) (G := G) (ns := sortI ns))
  exact k _ G _ R' (Same.refl G) kk
/-! all, any -/
def gB1 (f : List Bool → Option Rv) : List D → Option Rv
  | [.lst ds] => (asBools ds).bind f
  | _ => none
theorem gB1_ok {K : PySem.W.Frag} {r : List V → Hp → VK → Prop} {f : List Bool → Option Rv}
    (h : ∀ {c : Cn} {G H : Hp} {σ : L2.St} {ρ : List S} {a : Addr} {ns : List Bool} {q : Rv} {Q : VK}, Rst K c G H σ ρ → SqL K H a (ns.map V.bl) → f ns = some q → (∀ z G' H', Rst K c G' H' σ ρ → Same G G' → RpR K c G' H' σ ρ z q → Q z H') → r [.ref a] H Q) : CalR K r (gB1 f) := fun {c G H σ ρ vs ds q Q} R kd eq k => by
  unfold gB1 at eq
  split at eq
  · obtain ⟨ns, e1, e2⟩ := Option.bind_eq_some_iff.mp eq
    have e3 := asBools_eq e1
    subst e3
    obtain ⟨v, rfl, kv⟩ := kd.one
    obtain ⟨a, xs, rfl, h2, h3⟩ := kv.lst R.gh
    have e4 := h3.of_bools
    subst e4
    exact h R (.inl (.inl h2)) e2 k
  · cases eq
def gAll : List D → Option Rv := gB1 fun ns => some (.val (.bl (ns.all id)))
def gAny : List D → Option Rv := gB1 fun ns => some (.val (.bl (ns.any id)))
theorem all_ok {K : PySem.W.Frag} : CalR K (rAll K) gAll := gB1_ok fun {c G H σ ρ a ns q Q} R hs eq k => by
  cases eq
  exact ⟨a, ns, rfl, hs, k _ G H R (Same.refl G) rfl⟩
theorem any_ok {K : PySem.W.Frag} : CalR K (rAny K) gAny := gB1_ok fun {c G H σ ρ a ns q Q} R hs eq k => by
  cases eq
  exact ⟨a, ns, rfl, hs, k _ G H R (Same.refl G) rfl⟩
/-! isinstance -/
def tyNm : D → Option String
  | .non => some "NoneType"
  | .bl _ => some "bool"
  | .int _ => some "int"
  | .str _ => some "str"
  | .lst _ => some "list"
  | .tup _ => some "tuple"
  | .dic _ _ => some "dict"
  | _ => none
/-- isinstance of values of built-in types -/
def isTab : List (String × String × Bool) :=
  [("int", "int", true), ("bool", "bool", true), ("bool", "int", true), ("list", "list", true), ("tuple", "tuple", true), ("str", "str", true),
   ("int", "bool", false), ("int", "tuple", false), ("int", "list", false), ("int", "str", false),
   ("bool", "tuple", false), ("bool", "list", false), ("bool", "str", false),
   ("NoneType", "int", false), ("NoneType", "bool", false), ("NoneType", "list", false), ("NoneType", "tuple", false), ("NoneType", "str", false),
   ("list", "int", false), ("list", "bool", false), ("list", "tuple", false), ("list", "str", false),
   ("tuple", "int", false), ("tuple", "bool", false), ("tuple", "list", false), ("tuple", "str", false),
   ("str", "int", false), ("str", "bool", false), ("str", "list", false), ("str", "tuple", false)]
def isLook (a t : String) : Option Bool := (isTab.find? fun p => p.1 == a && p.2.1 == t).map fun p => p.2.2
theorem isTab_ok : ∀ p ∈ isTab, kitB p.1 p.2.1 = some p.2.2 := by decide +kernel
theorem isLook_ok {a t : String} {b : Bool} (h : isLook a t = some b) : kitB a t = some b := by
  obtain ⟨p, h1, h2⟩ := Option.map_eq_some_iff.mp h
  have h3 := List.find?_some h1
  have h4 := isTab_ok p (List.mem_of_find?_eq_some h1)
  simp only [Bool.and_eq_true, beq_iff_eq] at h3
  rw [h3.1, h3.2, h2] at h4
  exact h4
def gIsi : List D → Option Rv
  | [d, .ty t] => ((tyNm d).bind fun a => isLook a t).map fun b => .val (.bl b)
  | _ => none
theorem tyX_of {K : PySem.W.Frag} {c : Cn} {G H : Hp} {d : D} {v : V} {n : String} (s : Same G H) (h : Rh K c G H d v) (e : tyNm d = some n) : TyX K H v (.type n) := by
  cases d with
  | non => cases e; rw [h.non]; exact .base .non
  | bl k => cases e; rw [h.bl]; exact .base (.bl k)
  | int i => cases e; rw [h.int]; exact .base (.int i)
  | str i => cases e; rw [h.str]; exact .base (.str i)
  | lst ds => cases e; obtain ⟨a, xs, rfl, h2, _⟩ := h.lst s; exact .base (.lst h2)
  | tup ds =>
    cases e
    obtain ⟨a, xs, rfl, _, h2, _⟩ := h.tup s
    rcases h2 with (h2 | ⟨o, h2⟩) | ⟨o, its, n, h2, h3, _⟩
    · exact .base (.tup h2)
    · exact .fTuple h2
    · exact .kTuple h2 h3
  | dic ks vs => cases e; obtain ⟨a, xs, rfl, h2, _⟩ := h.dic s; exact .base (.dK h2)
  | _ => cases e
theorem isi_ok {K : PySem.W.Frag} : CalR K (rIsi K) gIsi := fun {c G H σ ρ vs ds q Q} R kd eq k => by
  unfold gIsi at eq
  split at eq
  · rename_i d t
    obtain ⟨b, e1, e2⟩ := Option.map_eq_some_iff.mp eq
    obtain ⟨a, e3, e4⟩ := Option.bind_eq_some_iff.mp e1
    subst e2
    obtain ⟨v, w, rfl, kv, kw⟩ := kd.two
    have ew := kw.ty
    subst ew
    exact ⟨v, .ty t, .type a, .type t, b, rfl, .ty t, tyX_of R.gh kv e3, kit_ty (isLook_ok e4), k _ G H R (Same.refl G) rfl⟩
  · cases eq

/-! ### subscripts -/
theorem atI_map {α β : Type} (f : α → β) (xs : List α) (i : Int) : atI (xs.map f) i = (atI xs i).map f := by
  unfold atI
  rw [List.length_map]
  cases ixN xs.length i with
  | none => rfl
  | some j => show (xs.map f)[j]? = (xs[j]?).map f; rw [List.getElem?_map]
theorem RpL.at {K : PySem.W.Frag} {G : Hp} {ds : List D} {xs : List V} {i : Int} {d : D} (h : RpL K G ds xs) (e : atI ds i = some d) : ∃ v, atI xs i = some v ∧ Rp K G d v := by
  unfold atI at e ⊢
  rw [h.length]
  obtain ⟨j, e1, e2⟩ := Option.bind_eq_some_iff.mp e
  obtain ⟨v, h1, h2⟩ := h.get e2
  exact ⟨v, by rw [e1]; exact h1, h2⟩
def dIx : D → D → Option Rv
  | .lst xs, .int i => (atI xs i).map .val
  | .tup xs, .int i => (atI xs i).map .val
  | .scr ns, .int i => (atI ns i).map fun n => .val (.int n)
  | .str z, .int i => if z.length ≤ sizeLine then (atI z.cps.toList i).map fun c => .val (.str ⟨#[c]⟩) else none
  | _, _ => none
theorem ix_ok {K : PySem.W.Frag} : BinR K (rIx K) dIx := fun {c G H σ ρ v w d e q Q} R kd ke eq k => by
  unfold dIx at eq
  split at eq
  · rename_i ds i
    obtain ⟨d, e1, e2⟩ := Option.map_eq_some_iff.mp eq
    obtain ⟨a, xs, rfl, h2, h3⟩ := kd.lst R.gh
    obtain ⟨u, h4, h5⟩ := h3.at e1
    subst e2
    exact .inl ⟨a, xs, i, u, rfl, ke.int, .inl (.inl h2), h4, k _ G H R (Same.refl G) h5⟩
  · rename_i ds i
    obtain ⟨d, e1, e2⟩ := Option.map_eq_some_iff.mp eq
    obtain ⟨a, xs, rfl, _, h2, h3⟩ := kd.tup R.gh
    obtain ⟨u, h4, h5⟩ := h3.at e1
    subst e2
    exact .inr (.inl ⟨a, xs, i, u, rfl, ke.int, h2, h4, k _ G H R (Same.refl G) h5⟩)
  · rename_i ns i
    obtain ⟨n, e1, e2⟩ := Option.map_eq_some_iff.mp eq
    obtain ⟨a, rfl, h2⟩ := kd.scr R.gh
    subst e2
    exact .inl ⟨a, _, i, .int n, rfl, ke.int, h2, by rw [atI_map, e1]; rfl, k _ G H R (Same.refl G) rfl⟩
  · rename_i z i
    split at eq
    · rename_i hl
      obtain ⟨n, e1, e2⟩ := Option.map_eq_some_iff.mp eq
      subst e2
      exact .inr (.inr ⟨z, i, n, kd.str, ke.int, hl, e1, k _ G H R (Same.refl G) rfl⟩)
    · cases eq
  · cases eq
section
variable {X : Cx} {W : WX} {a b e : Expr} {es : List Expr} {fa fb : M Rv} {pos p p2 : Pos}
abbrev eIx := mBin dIx
theorem de_ix (ha : DE X W a fa) (hb : DE X W b fb) (hs : PlainIx b := by exact fun _ _ => rfl) : DE X W (.Subscript a b pos) (eIx fa fb) :=
  ⟨(pe_ix ix_seq ha.pe hb.pe hs).weak fun _ _ _ h => tD_bin ix_ok h⟩

/-! ### slices -/
structure DO (X : Cx) (W : WX) (e : Option Expr) (f : M (Option Int)) : Prop where
  po : PO X e (tg X.K W (fun _ _ _ _ _ (b a : Option Int) => b = a) f)
theorem _root_.L2.PO.weak {X : Cx} {e : Option Expr} {t t' : TO} (h : PO X e t) (w : ∀ σ H Q, t' σ H Q → t σ H Q) : PO X e t' := ⟨fun pins s σ H Q I q => h.run pins s σ H Q I (w σ H Q q)⟩
def oNo : M (Option Int) := pure none
def oSome (f : M Rv) : M (Option Int) := do
  let r ← f
  let d ← peek r
  match d with
  | .int i => pure (some i)
  | _ => M.fail
theorem do_no : DO X W none oNo := ⟨po_none.weak fun σ H Q ⟨c, G, ρ, R, w⟩ => w none G H R (Same.refl G) rfl⟩
theorem do_some (ha : DE X W a fa) : DO X W (some a) (oSome fa) := ⟨(po_some ha.pe).weak fun σ H Q ⟨c, G, ρ, R, w⟩ => tg_step R (Same.refl G) w fun x ρ1 v G1 H1 R1 s1 _ k1 w1 => by
    obtain ⟨d, kd, w2⟩ := peek_wp R1 k1 (wpM_bind w1)
    cases d <;> first
      | exact w2.elim
      | (rename_i i; exact ⟨i, kd.int, w2 (some i) G1 H1 R1 s1 rfl⟩)⟩
def cutD {α : Type} (xs : List α) (lo hi : Option Int) : List α := (xs.drop (HT.sIx xs.length 0 lo)).take (HT.sIx xs.length xs.length hi - HT.sIx xs.length 0 lo)
def dSl (d : D) (lo hi : Option Int) : Option Rv := match d with
  | .lst xs => some (.own (.lst (cutD xs lo hi)))
  | .tup xs => some (.val (.tup (cutD xs lo hi)))
  | _ => none
def eSl (fa : M Rv) (fl fh : M (Option Int)) : M Rv := do
  let x ← fa
  let l ← fl
  let h ← fh
  let d ← peek (settle x)
  ofO (dSl d l h)
theorem RpL.cut {K : PySem.W.Frag} {G : Hp} {ds : List D} {xs : List V} (h : RpL K G ds xs) (lo hi : Option Int) : RpL K G (cutD ds lo hi) (cutV xs lo hi) := by
  unfold cutD cutV
  rw [h.length]
  exact (h.drop _).take _
theorem SlR.or {r r' : V → Option Int → Option Int → Hp → VK → Prop} (h : SlR X r) (h' : SlR X r') : SlR X (fun x l u H Q => r x l u H Q ∨ r' x l u H Q) := by
  intro pins s σ H x v vl vu lo hi sl Q I rx hs pl pu q
  rcases q with q | q
  · exact h pins s σ H x v vl vu lo hi sl Q I rx hs pl pu q
  · exact h' pins s σ H x v vl vu lo hi sl Q I rx hs pl pu q
theorem de_sl {lo hi : Option Expr} {fl fh : M (Option Int)} (ha : DE X W a fa) (hl : DO X W lo fl) (hh : DO X W hi fh) : DE X W (.Subscript a (.Slice lo hi none p2) pos) (eSl fa fl fh) :=
  ⟨(pe_slice (SlR.or sl_list sl_tupA) ha.pe hl.po hh.po).weak fun σ H Q ⟨c, G, ρ, R, w⟩ => tg_step R (Same.refl G) w fun x ρ1 v G1 H1 R1 s1 _ k1 w1 => by
    obtain ⟨G1', s1', R1', k1'⟩ := settle_ok R1 k1
    refine tg_step R1' (s1.trans s1') w1 fun l ρ2 l' G2 H2 R2 s2 s12 k2 w2 => ?_
    obtain rfl : l' = l := k2
    refine tg_step R2 s2 w2 fun h ρ3 h' G3 H3 R3 s3 s23 k3 w3 => ?_
    obtain rfl : h' = h := k3
    obtain ⟨d, kd, w4⟩ := peek_wp R3 (RpRs.one ((k1'.mono s12).mono s23)) (wpM_bind w3)
    obtain ⟨q, eq, w5⟩ := ofO_wp w4
    unfold dSl at eq
    split at eq
    · cases eq
      obtain ⟨a, xs, rfl, h2, h3⟩ := kd.lst R3.gh
      refine .inl ⟨a, xs, rfl, .inl (.inl h2), fun p hp => ?_⟩
      obtain ⟨R', kk⟩ := R3.new_own hp (h3.cut l' h')
      exact w5 _ G3 _ R' s3 kk
    · cases eq
      obtain ⟨a, xs, rfl, hg, h2, h3⟩ := kd.tup R3.gh
      refine .inr ⟨a, xs, rfl, h2, fun ⟨z1, z2⟩ => ?_, fun z p hp => ?_⟩
      · refine w5 _ G3 H3 R3 s3 ⟨a, xs, rfl, hg, ?_⟩
        have e := h3.cut l' h'
        unfold cutV at e
        rw [z1, z2, List.drop_zero, Nat.sub_zero, List.take_length] at e
        exact e
      · obtain ⟨G', s', R', kk⟩ := R3.new_tup hp (h3.cut l' h')
        exact w5 _ G' _ R' (s3.trans s') kk
    · cases eq⟩
end
end Dl

/-! Dl5: statements, targets, walks, loops. -/
namespace Dl
open PySem L2

inductive Os where
  | nx (ρ : List S) | rt (r : Rv) (ρ : List S) | bk (ρ : List S) | ct (ρ : List S) | ex (e : Xn) (ρ : List S)
abbrev MS : Type := List S → Option Os
def Po (K : PySem.W.Frag) (c : Cn) (W : WX) (G : Hp) (Dn : Ends) : Os → Prop
  | .nx ρ' => ∀ σ' G' H', Rst K c G' H' σ' ρ' → Same G G' → Dn.nx σ' H'
  | .bk ρ' => ∀ σ' G' H', Rst K c G' H' σ' ρ' → Same G G' → Dn.bk σ' H'
  | .ct ρ' => ∀ σ' G' H', Rst K c G' H' σ' ρ' → Same G G' → Dn.ct σ' H'
  | .rt r ρ' => ∀ v σ' G' H', Rst K c G' H' σ' ρ' → Same G G' → RpR K c G' H' σ' ρ' v r → Dn.rt v H'
  | .ex e ρ' => ∀ cls d σ' G' H', Rst K c G' H' σ' ρ' → Same G G' → XAt K G' H' e cls d → W cls d σ' H'
theorem Po.mono {K : PySem.W.Frag} {c : Cn} {W : WX} {G G1 : Hp} {Dn : Ends} {o : Os} (s : Same G G1) (h : Po K c W G Dn o) : Po K c W G1 Dn o := by
  cases o with
  | nx ρ => exact fun σ' G' H' R s' => h σ' G' H' R (s.trans s')
  | bk ρ => exact fun σ' G' H' R s' => h σ' G' H' R (s.trans s')
  | ct ρ => exact fun σ' G' H' R s' => h σ' G' H' R (s.trans s')
  | rt r ρ => exact fun v σ' G' H' R s' k => h v σ' G' H' R (s.trans s') k
  | ex e ρ => exact fun cls d σ' G' H' R s' x => h cls d σ' G' H' R (s.trans s') x
def tS (K : PySem.W.Frag) (W : WX) (np : Nat) (f : MS) : TS := fun Dn σ H => ∃ c G ρ o, c.s0.length = np ∧ Rst K c G H σ ρ ∧ f ρ = some o ∧ Po K c W G Dn o
structure DS (X : Cx) (W : WX) (np : Nat) (st : Stmt) (f : MS) : Prop where
  ps : PS X st (tS X.K W np f)
structure DL (X : Cx) (W : WX) (np : Nat) (st : List Stmt) (f : MS) : Prop where
  pss : PSs X st (tS X.K W np f)

/-- an expression, then .. -/
def thenS {α : Type} (f : M α) (k : α → MS) : MS := fun ρ => match f ρ with
  | some (.ok a ρ') => k a ρ'
  | some (.ex e ρ') => some (.ex e ρ')
  | none => none
theorem EXk.of_po {K : PySem.W.Frag} {c : Cn} {W : WX} {σ : L2.St} {G : Hp} {Dn : Ends} {e : Xn} {ρ : List S} (h : Po K c W G Dn (.ex e ρ)) : EXk K c W σ G e ρ := fun cls d G' H' R s x => h cls d σ G' H' R s x
theorem tS_step {α β : Type} {K : PySem.W.Frag} {W : WX} {rep : Cn → Hp → Hp → L2.St → List S → β → α → Prop} {c : Cn} {G H : Hp} {σ : L2.St} {ρ : List S} {f : M α} {k : α → MS} {Dn : Ends} {o : Os} {Q : β → Hp → Prop}
    (R : Rst K c G H σ ρ) (h : thenS f k ρ = some o) (po : Po K c W G Dn o)
    (next : ∀ a ρ1 b G1 H1, Rst K c G1 H1 σ ρ1 → Same G G1 → rep c G1 H1 σ ρ1 b a → k a ρ1 = some o → Po K c W G1 Dn o → Q b H1) : tg K W rep f σ H Q := by
  refine ⟨c, G, ρ, R, ?_⟩
  unfold thenS at h
  revert h
  cases f ρ with
  | none => exact fun h => nomatch h
  | some ot => cases ot with
    | ok a ρ1 => exact fun h b G1 H1 R1 s1 r => next a ρ1 b G1 H1 R1 s1 r h (po.mono s1)
    | ex e ρ1 => exact fun h => by cases h; exact EXk.of_po po
section
variable {X : Cx} {W : WX} {np : Nat} {a b e : Expr} {es : List Expr} {fa fb : M Rv} {ga : M Bool} {pos p p2 : Pos} {st : Stmt} {rest sts sts' : List Stmt} {f g : MS}
def sNil : MS := fun ρ => some (.nx ρ)
def sSeq (f g : MS) : MS := fun ρ => match f ρ with
  | some (.nx ρ') => g ρ'
  | o => o
theorem dl_nil : DL X W np [] sNil := ⟨pss_nil.weak fun Dn σ H ⟨c, G, ρ, o, hl, R, h, po⟩ => by cases h; exact po σ G H R (Same.refl G)⟩
theorem dl_one (h : DS X W np st f) : DL X W np [st] f := ⟨pss_one h.ps⟩
theorem dl_cons (h1 : DS X W np st f) (h2 : DL X W np rest g) : DL X W np (st :: rest) (sSeq f g) := ⟨(pss_cons h1.ps h2.pss).weak fun Dn σ H ⟨c, G, ρ, o, hl, R, h, po⟩ => by
  unfold sSeq at h
  show tS X.K W np f { Dn with nx := tS X.K W np g Dn } σ H
  cases e : f ρ with
  | none => rw [e] at h; cases h
  | some o1 =>
    rw [e] at h
    refine ⟨c, G, ρ, o1, hl, R, e, ?_⟩
    cases o1 with
    | nx ρ1 => exact fun σ' G' H' R' s' => ⟨c, G', ρ1, o, hl, R', h, po.mono s'⟩
    | _ => cases h; exact po⟩
def sPass : MS := sNil
def sBreak : MS := fun ρ => some (.bk ρ)
def sCont : MS := fun ρ => some (.ct ρ)
theorem ds_pass : DS X W np (.Pass pos) sPass := ⟨ps_pass.weak fun Dn σ H ⟨c, G, ρ, o, hl, R, h, po⟩ => by cases h; exact po σ G H R (Same.refl G)⟩
theorem ds_break : DS X W np (.Break pos) sBreak := ⟨ps_break.weak fun Dn σ H ⟨c, G, ρ, o, hl, R, h, po⟩ => by cases h; exact po σ G H R (Same.refl G)⟩
theorem ds_continue : DS X W np (.Continue pos) sCont := ⟨ps_continue.weak fun Dn σ H ⟨c, G, ρ, o, hl, R, h, po⟩ => by cases h; exact po σ G H R (Same.refl G)⟩
/-- what is never reached -/
def sNever : MS := fun _ => none
theorem ds_never : DS X W np st sNever := ⟨ps_never.weak fun Dn σ H ⟨c, G, ρ, o, hl, R, h, po⟩ => nomatch h⟩
theorem dl_never : DL X W np sts sNever := ⟨pss_never.weak fun Dn σ H ⟨c, G, ρ, o, hl, R, h, po⟩ => nomatch h⟩
def sExpr (fa : M Rv) : MS := thenS fa fun _ => sNil
theorem ds_expr (ha : DE X W e fa) (hs : swapsWith e none pos.line X.env = pure false := by rfl) : DS X W np (.Expr e pos) (sExpr fa) :=
  ⟨(ps_expr ha.pe hs).weak fun Dn σ H ⟨c, G, ρ, o, hl, R, h, po⟩ => tS_step R h po fun r ρ1 v G1 H1 R1 s1 _ h1 po1 => by cases h1; exact po1 σ G1 H1 R1 (Same.refl G1)⟩
theorem ds_doc {x : Str} {j} : DS X W np (.Expr (.Constant (.str x) j p) pos) sNil := ⟨ps_doc.weak fun Dn σ H ⟨c, G, ρ, o, hl, R, h, po⟩ => by cases h; exact po σ G H R (Same.refl G)⟩
/-- return: what is the frame's own is handed on -/
def retV (r : Rv) : MS := fun ρ => match r with
  | .ali i => match ρ[i]? with
    | some (.val d) => some (.rt (.val d) ρ)
    | some (.own d) => some (.rt (.own d) (ρ.set i .no))
    | _ => none
  | r => some (.rt r ρ)
def sRet (fa : M Rv) : MS := thenS fa retV
def sRetN : MS := fun ρ => some (.rt (.val .non) ρ)
end
section
variable {K : PySem.W.Frag} {c : Cn} {G G' H H' : Hp} {σ : L2.St} {ρ ρ' : List S} {v : V} {d : D} {r : Rv} {rs : List Rv} {vs : List V} {i : Nat}
theorem set_cases {α : Type} {l : List α} {i j : Nat} {x y : α} (h : (l.set i x)[j]? = some y) : (j = i ∧ i < l.length ∧ y = x) ∨ (j ≠ i ∧ l[j]? = some y) := by
  by_cases hj : j = i
  · subst hj
    have hl : j < l.length := by
      have := (List.getElem?_eq_some_iff.mp h).1
      rwa [List.length_set] at this
    rw [List.getElem?_set_self hl] at h
    cases h
    exact .inl ⟨rfl, hl, rfl⟩
  · rw [List.getElem?_set_ne (Ne.symm hj)] at h
    exact .inr ⟨hj, h⟩
theorem Rst.set_no (R : Rst K c G H σ ρ) (i : Nat) : Rst K c G H σ (ρ.set i .no) where
  fh := R.fh
  gh := R.gh
  fg := R.fg
  len := by rw [List.length_set, R.len]
  val := fun j d h => by
    rcases set_cases h with ⟨_, _, e⟩ | ⟨_, h⟩
    · cases e
    · exact R.val j d h
  own := fun j d h => by
    rcases set_cases h with ⟨_, _, e⟩ | ⟨_, h⟩
    · cases e
    · exact R.own j d h
  ne := fun j k d e a h1 h2 => by
    rcases set_cases h1 with ⟨_, _, e⟩ | ⟨_, h1⟩
    · cases e
    · rcases set_cases h2 with ⟨_, _, e⟩ | ⟨_, h2⟩
      · cases e
      · exact R.ne j k d e a h1 h2
  par := fun j d h => by
    rcases set_cases h with ⟨_, _, e⟩ | ⟨_, h⟩
    · cases e
    · exact R.par j d h
theorem Rst.take_own (R : Rst K c G H σ ρ) (h : ρ[i]? = some (.own d)) (hv : σ[i]? = some (some v)) : RpR K c G H σ (ρ.set i .no) v (.own d) := by
  obtain ⟨a, h1, h2, h3, h4⟩ := R.own i d h
  rw [hv] at h1; cases h1
  refine ⟨a, rfl, h2, h3, h4, fun j e q z => ?_⟩
  rcases set_cases q with ⟨_, _, e⟩ | ⟨hj, q⟩
  · cases e
  · exact hj (R.ne j i e d a q h z hv)
theorem Rst.set_own (R : Rst K c G H σ ρ) (hr : RpR K c G H σ ρ v (.own d)) (hi : c.s0.length ≤ i) : Rst K c G H (σ.set i (some v)) (ρ.set i (.own d)) := by
  obtain ⟨a, rfl, h2, h3, h4, h5⟩ := hr
  have sig : ∀ {j : Nat} {x : Option V}, (σ.set i (some (V.ref a)))[j]? = some x → (j = i ∧ x = some (V.ref a)) ∨ (j ≠ i ∧ σ[j]? = some x) := fun {j x} q => by
    rcases set_cases q with ⟨q1, _, q2⟩ | q
    · exact .inl ⟨q1, q2⟩
    · exact .inr q
  refine ⟨R.fh, R.gh, R.fg, by rw [List.length_set, List.length_set, R.len], fun j e h => ?_, fun j e h => ?_, fun j k e f b q1 q2 r1 r2 => ?_, fun j e h hl => ?_⟩
  · rcases set_cases h with ⟨_, _, e⟩ | ⟨hj, h⟩
    · cases e
    · rw [List.getElem?_set_ne (Ne.symm hj)]; exact R.val j e h
  · rcases set_cases h with ⟨hj, hl, e⟩ | ⟨hj, h⟩
    · cases e
      subst hj
      exact ⟨a, by rw [List.getElem?_set_self (R.len ▸ hl)], h2, h3, h4⟩
    · rw [List.getElem?_set_ne (Ne.symm hj)]; exact R.own j e h
  · rcases set_cases q1 with ⟨hj, hl, e1⟩ | ⟨hj, p1⟩
    · rcases set_cases q2 with ⟨hk, hl2, e2⟩ | ⟨hk, p2⟩
      · rw [hj, hk]
      · exfalso
        subst hj
        rw [List.getElem?_set_self (R.len ▸ hl)] at r1; cases r1
        rw [List.getElem?_set_ne (Ne.symm hk)] at r2
        exact h5 k f p2 r2
    · rcases set_cases q2 with ⟨hk, hl2, e2⟩ | ⟨hk, p2⟩
      · exfalso
        subst hk
        rw [List.getElem?_set_self (R.len ▸ hl2)] at r2; cases r2
        rw [List.getElem?_set_ne (Ne.symm hj)] at r1
        exact h5 j e p1 r1
      · rw [List.getElem?_set_ne (Ne.symm hj)] at r1
        rw [List.getElem?_set_ne (Ne.symm hk)] at r2
        exact R.ne j k e f b p1 p2 r1 r2
  · rcases set_cases h with ⟨hj, hl2, e1⟩ | ⟨hj, h⟩
    · omega
    · rw [List.getElem?_set_ne (Ne.symm hj)]; exact R.par j e h hl
end
section
variable {X : Cx} {W : WX} {np : Nat} {a b e : Expr} {es : List Expr} {fa fb : M Rv} {ga : M Bool} {pos p p2 : Pos} {st : Stmt} {rest sts sts' : List Stmt} {f g : MS}
theorem ds_ret (ha : DE X W e fa) : DS X W np (.Return (some e) pos) (sRet fa) :=
  ⟨(ps_ret ha.pe).weak fun Dn σ H ⟨c, G, ρ, o, hl, R, h, po⟩ => tS_step R h po fun r ρ1 v G1 H1 R1 s1 k h1 po1 => by
    unfold retV at h1
    cases r with
    | val d => cases h1; exact po1 v σ G1 H1 R1 (Same.refl G1) k
    | own d => cases h1; exact po1 v σ G1 H1 R1 (Same.refl G1) k
    | ali i =>
      have hv : σ[i]? = some (some v) := k
      dsimp only at h1
      cases q : ρ1[i]? with
      | none => rw [q] at h1; cases h1
      | some s =>
        rw [q] at h1
        cases s with
        | no => cases h1
        | val d =>
          cases h1
          obtain ⟨w, e1, e2⟩ := R1.val i d q
          rw [hv] at e1; cases e1
          exact po1 v σ G1 H1 R1 (Same.refl G1) e2
        | own d =>
          cases h1
          exact po1 v σ G1 H1 (R1.set_no i) (Same.refl G1) (R1.take_own q hv)⟩
theorem ds_retN : DS X W np (.Return none pos) sRetN := ⟨ps_retN.weak fun Dn σ H ⟨c, G, ρ, o, hl, R, h, po⟩ => by cases h; exact po .non σ G H R (Same.refl G) rfl⟩
/-- x = e -/
def setV (np i : Nat) (r : Rv) : MS := fun ρ => match r with
  | .val d => some (.nx (ρ.set i (.val d)))
  | .own d => if i < np then some (.nx (ρ.set i (.val d))) else some (.nx (ρ.set i (.own d)))
  | .ali j => match ρ[j]? with
    | some (.val d) => some (.nx (ρ.set i (.val d)))
    | some (.own d) => some (.nx ((ρ.set j (.val d)).set i (.val d)))
    | _ => none
def sSet (np i : Nat) (fa : M Rv) : MS := thenS fa (setV np i)
theorem tS_set (i : Nat) {K : PySem.W.Frag} {Dn : Ends} {σ : L2.St} {H : Hp} (h : tS K W np (sSet np i fa) Dn σ H) : tD K W fa σ H (fun v H1 => Dn.nx (σ.set i (some v)) H1) :=
  let ⟨c, G, ρ, o, hl, R, h, po⟩ := h
  tS_step R h po fun r ρ1 v G1 H1 R1 s1 k h1 po1 => by
    show Dn.nx (σ.set i (some v)) H1
    unfold setV at h1
    cases r with
    | val d => cases h1; exact po1 _ G1 H1 (R1.set_val i k) (Same.refl G1)
    | own d =>
      dsimp only at h1
      by_cases hn : i < np
      · rw [if_pos hn] at h1
        cases h1
        obtain ⟨G2, s2, R2, k2⟩ := R1.freeze_new k
        exact po1 _ G2 H1 (R2.set_val i k2) s2
      · rw [if_neg hn] at h1
        cases h1
        exact po1 _ G1 H1 (R1.set_own k (by omega)) (Same.refl G1)
    | ali j =>
      have hv : σ[j]? = some (some v) := k
      dsimp only at h1
      cases q : ρ1[j]? with
      | none => rw [q] at h1; cases h1
      | some s =>
        rw [q] at h1
        cases s with
        | no => cases h1
        | val d =>
          cases h1
          obtain ⟨w, e1, e2⟩ := R1.val j d q
          rw [hv] at e1; cases e1
          exact po1 _ G1 H1 (R1.set_val i e2) (Same.refl G1)
        | own d =>
          cases h1
          obtain ⟨w, G2, e1, s2, R2, e2⟩ := R1.freeze q
          rw [hv] at e1; cases e1
          exact po1 _ G2 H1 (R2.set_val i e2) s2
theorem ds_set (i : Nat) {x : Str} {pos' : Pos} (hN : X.N.Nodup) (ha : DE X W e fa) (hi : X.N[i]? = some x := by rfl) (hx : Loc X.env.scope x := by first | exact Or.inl rfl | exact Or.inr rfl) (hs : swapsWith e (some (.Name x pos')) pos.line X.env = pure false := by rfl)
    (hf : X.fn x = true ∨ X.env.scope.names.lookup x = some .local := by first | exact .inl rfl | exact .inr rfl | assumption) : DS X W np (.Assign [.Name x pos'] e pos) (sSet np i fa) :=
  ⟨(ps_set hN hi hx ha.pe hs hf).weak fun Dn σ H h => tS_set i h⟩
def sIf (ga : M Bool) (f g : MS) : MS := thenS ga fun b => if b = true then f else g
theorem ds_if {cc : Expr} (hc : DT X W cc ga) (h1 : DL X W np sts f) (h2 : DL X W np sts' g) : DS X W np (.If cc sts sts' pos) (sIf ga f g) :=
  ⟨(ps_if hc.pt h1.pss h2.pss).weak fun Dn σ H ⟨c, G, ρ, o, hl, R, h, po⟩ => tS_step R h po fun r ρ1 v G1 H1 R1 s1 k h1 po1 => by
    obtain rfl : v = r := k
    cases v with
    | true => rw [if_pos rfl] at h1 ⊢; exact ⟨c, G1, ρ1, o, hl, R1, h1, po1⟩
    | false => rw [if_neg Bool.false_ne_true] at h1 ⊢; exact ⟨c, G1, ρ1, o, hl, R1, h1, po1⟩⟩
/-! ### targets -/
/-- the slots of ts alone have changed -/
def Out (ts : List Nat) (σ σ' : L2.St) : Prop := σ'.length = σ.length ∧ ∀ j, j ∉ ts → σ'[j]? = σ[j]?
theorem Out.refl {ts : List Nat} (σ : L2.St) : Out ts σ σ := ⟨rfl, fun _ _ => rfl⟩
def tDG (K : PySem.W.Frag) (ts : List Nat) (g : D → List S → Option (List S)) : TG := fun v σ H Q => ∃ c G ρ d ρ', Rst K c G H σ ρ ∧ Rp K G d v ∧ g d ρ = some ρ' ∧ ∀ σ', Rst K c G H σ' ρ' → Out ts σ σ' → Q σ' H
structure DG (X : Cx) (tg : Expr) (ts : List Nat) (g : D → List S → Option (List S)) : Prop where
  pg : PG X tg (tDG X.K ts g)
def tDGs (K : PySem.W.Frag) (ts : List Nat) (g : List D → List S → Option (List S)) : TGs := fun vs σ H Q => ∃ c G ρ ds ρ', Rst K c G H σ ρ ∧ RpL K G ds vs ∧ g ds ρ = some ρ' ∧ ∀ σ', Rst K c G H σ' ρ' → Out ts σ σ' → Q σ' H
structure DGs (X : Cx) (es : List Expr) (ts : List Nat) (g : List D → List S → Option (List S)) : Prop where
  pgs : PGs X es (tDGs X.K ts g)
theorem _root_.L2.PG.weak {tg : Expr} {t t' : TG} (h : PG X tg t) (w : ∀ v σ H Q, t' v σ H Q → t v σ H Q) : PG X tg t' := ⟨fun pins s σ H v u Q I r q => h.run pins s σ H v u Q I r (w v σ H Q q)⟩
theorem _root_.L2.PGs.weak {ts : List Expr} {t t' : TGs} (h : PGs X ts t) (w : ∀ v σ H Q, t' v σ H Q → t v σ H Q) : PGs X ts t' := ⟨fun pins s σ H v u Q I r q => h.run pins s σ H v u Q I r (w v σ H Q q)⟩
def gN (i : Nat) : D → List S → Option (List S) := fun d ρ => some (ρ.set i (.val d))
theorem dg_name (i : Nat) {x : Str} (hN : X.N.Nodup) (hi : X.N[i]? = some x := by rfl) (hx : Loc X.env.scope x := by first | exact Or.inl rfl | exact Or.inr rfl)
    (hf : X.fn x = true ∨ X.env.scope.names.lookup x = some .local := by first | exact .inl rfl | exact .inr rfl | assumption) : DG X (.Name x pos) [i] (gN i) :=
  ⟨(pg_name hN hi hx hf).weak fun v σ H Q ⟨c, G, ρ, d, ρ', R, k, e, h⟩ => by
    cases e
    exact h _ (R.set_val i k) ⟨by rw [List.length_set], fun j hj => by rw [List.getElem?_set_ne (fun z => hj (by simp [z]))]⟩⟩
def gsNil : List D → List S → Option (List S)
  | [], ρ => some ρ
  | _ :: _, _ => none
def gsCons (g : D → List S → Option (List S)) (gs : List D → List S → Option (List S)) : List D → List S → Option (List S)
  | [], _ => none
  | d :: ds, ρ => (g d ρ).bind (gs ds)
theorem dgs_nil : DGs X [] [] gsNil := ⟨pgs_nil.weak fun vs σ H Q ⟨c, G, ρ, ds, ρ', R, k, e, h⟩ => by
  cases ds with
  | nil => cases e; cases k; exact ⟨rfl, h σ R (Out.refl σ)⟩
  | cons => cases e⟩
theorem dgs_cons {t : Expr} {es : List Expr} {t1 t2 : List Nat} {g : D → List S → Option (List S)} {gs : List D → List S → Option (List S)} (h1 : DG X t t1 g) (h2 : DGs X es t2 gs)
    (hs : (assignEach (t :: es) X.env).map (·.2) = assign t X.env :: (assignEach es X.env).map (·.2) := by rfl) : DGs X (t :: es) (t1 ++ t2) (gsCons g gs) :=
  ⟨(pgs_cons h1.pg h2.pgs hs).weak fun vs σ H Q ⟨c, G, ρ, ds, ρ', R, k, e, h⟩ => by
    cases ds with
    | nil => cases e
    | cons d ds =>
      obtain ⟨v, r, rfl, k1, k2⟩ := k
      obtain ⟨ρ1, e1, e2⟩ := Option.bind_eq_some_iff.mp (show (g d ρ).bind (gs ds) = some ρ' from e)
      exact ⟨v, r, rfl, c, G, ρ, d, ρ1, R, k1, e1, fun σ1 R1 o1 => ⟨c, G, ρ1, ds, ρ', R1, k2, e2, fun σ2 R2 o2 => h σ2 R2 ⟨o2.1.trans o1.1, fun j hj => by
        rw [o2.2 j (fun z => hj (List.mem_append_right _ z)), o1.2 j (fun z => hj (List.mem_append_left _ z))]⟩⟩⟩⟩
def gT (n : Nat) (gs : List D → List S → Option (List S)) : D → List S → Option (List S)
  | .tup ds, ρ => if ds.length = n then gs ds ρ else none
  | _, _ => none
theorem dg_tup {es : List Expr} {t : List Nat} {k n : Nat} {gs : List D → List S → Option (List S)} (hc : X.calm = true) (h : DGs X es t gs) (hn : (assignEach es X.env).length = n := by rfl) (hst : (assignEach es X.env).findIdx? (·.1) = none := by rfl) : DG X (.Tuple es k pos) t (gT n gs) :=
  ⟨(pg_tup hc h.pgs hn hst).weak fun v σ H Q ⟨c, G, ρ, d, ρ', R, kd, e, h⟩ => by
    cases d <;> first
      | cases e
      | (rename_i ds
         have e : (if ds.length = n then gs ds ρ else none) = some ρ' := e
         obtain ⟨a, xs, rfl, h2, h3⟩ := kd
         split at e
         · rename_i hl
           exact ⟨a, xs, rfl, Same.seqt R.gh h2, by rw [h3.length, hl], c, G, ρ, ds, ρ', R, h3, e, h⟩
         · cases e)⟩
/-- a target = e -/
def asgV (g : D → List S → Option (List S)) (r : Rv) : MS := thenS (toV r) fun d ρ => (g d ρ).map .nx
def sAsg (g : D → List S → Option (List S)) (fa : M Rv) : MS := thenS fa (asgV g)
theorem thenS_wp {α : Type} {f : M α} {k : α → MS} {ρ : List S} {o : Os} (h : thenS f k ρ = some o) : wpM (f ρ) (fun a ρ' => k a ρ' = some o) (fun e ρ' => o = .ex e ρ') := by
  unfold thenS at h
  revert h
  cases f ρ with
  | none => exact fun h => nomatch h
  | some ot => cases ot with
    | ok a ρ1 => exact fun h => h
    | ex e ρ1 => exact fun h => (Option.some.inj h).symm
theorem ds_asg {t : Expr} {g : D → List S → Option (List S)} {ts : List Nat} (ha : DE X W e fa) (hg : DG X t ts g) (hs : swapsWithSole [t] e pos.line X.env = pure false := by rfl) (hw : swappedStores [t] e X.env = pure none := by rfl) (h1 : (assignEach [t] X.env).map (·.2) = [assign t X.env] := by rfl) : DS X W np (.Assign [t] e pos) (sAsg g fa) :=
  ⟨(ps_asg ha.pe hg.pg hs hw h1).weak fun Dn σ H ⟨c, G, ρ, o, hl, R, h, po⟩ => tS_step R h po fun r ρ1 v G1 H1 R1 s1 k h1 po1 => by
    obtain ⟨d, G2, ρ2, s2, R2, k2, e2⟩ := toV_wp R1 k (thenS_wp h1)
    obtain ⟨ρ3, e3, e4⟩ := Option.map_eq_some_iff.mp e2
    subst e4
    exact ⟨c, G2, ρ2, d, ρ3, R2, k2, e3, fun σ' R' _ => po1 σ' G2 H1 R' s2⟩⟩
end

/-! ### walks -/
/-- J walks over what the data ds are, from the ground G0 on -/
structure Walks (K : PySem.W.Frag) (G0 : Hp) (J : It) (ds : List D) : Prop where
  go : ∀ {c : Cn} {G H : Hp} {σ : L2.St} {ρ : List S} {i : Nat}, Rst K c G H σ ρ → Same G0 G → i < ds.length → J.go i H
  yld : ∀ {c : Cn} {G H H' : Hp} {σ : L2.St} {ρ : List S} {i : Nat} {x : V}, Rst K c G H σ ρ → Same G0 G → J.yld i H x H' → i < ds.length → ∃ d G', ds[i]? = some d ∧ Rst K c G' H' σ ρ ∧ Same G G' ∧ Rp K G' d x
  stop : ∀ {c : Cn} {G H : Hp} {σ : L2.St} {ρ : List S}, Rst K c G H σ ρ → Same G0 G → J.stop ds.length H
  sz : ds.length ≤ sizeLine
def tDI (K : PySem.W.Frag) (W : WX) (f : M (List D)) : TI := fun σ H R => ∃ c G ρ, Rst K c G H σ ρ ∧ wpM (f ρ) (fun ds ρ' => ∀ J G' H', Rst K c G' H' σ ρ' → Same G G' → Walks K G' J ds → R J H') (EXk K c W σ G)
structure DI (X : Cx) (W : WX) (tg iter : Expr) (f : M (List D)) : Prop where
  pi : PI X tg iter (tDI X.K W f)
theorem _root_.L2.PI.weak {X : Cx} {tg iter : Expr} {t t' : TI} (h : PI X tg iter t) (w : ∀ σ H R, t' σ H R → t σ H R) : PI X tg iter t' := ⟨fun pins s σ H R I q => h.run pins s σ H R I (w σ H R q)⟩
theorem walks_list {K : PySem.W.Frag} {G0 : Hp} {a : Addr} {xs : List V} {ds : List D} (h : G0 a = some (.lst xs)) (r : RpL K G0 ds xs) (hz : xs.length ≤ sizeLine) : Walks K G0 (Itl K a) ds where
  sz := by rw [← r.length]; exact hz
  go := fun {c G H σ ρ i} R s hi => by
    have hx : H a = some (.lst xs) := R.gh _ _ (s _ _ h)
    exact ⟨xs, xs[i]'(by rw [r.length]; exact hi), .inl (.inl hx), List.getElem?_eq_getElem _⟩
  yld := fun {c G H H' σ ρ i x} R s ⟨e, q⟩ hi => by
    have e' : H = H' := e.symm
    subst e'
    have hx : H a = some (.lst xs) := R.gh _ _ (s _ _ h)
    obtain ⟨d, q1, q2⟩ := (r.mono s).get' (q xs (.inl (.inl hx)))
    exact ⟨d, G, q1, R, Same.refl G, q2⟩
  stop := fun {c G H σ ρ} R s => ⟨xs, .inl (.inl (R.gh _ _ (s _ _ h))), by rw [r.length]; exact Nat.le_refl _⟩
theorem walks_tup {K : PySem.W.Frag} {G0 : Hp} {a : Addr} {xs : List V} {ds : List D} (h : SqT K G0 a xs) (r : RpL K G0 ds xs) (hz : xs.length ≤ sizeLine) : Walks K G0 (Itt K a) ds where
  sz := by rw [← r.length]; exact hz
  go := fun {c G H σ ρ i} R s hi => ⟨xs, xs[i]'(by rw [r.length]; exact hi), Same.seqt (s.trans R.gh) h, List.getElem?_eq_getElem _⟩
  yld := fun {c G H H' σ ρ i x} R s ⟨e, q⟩ hi => by
    have e' : H = H' := e.symm
    subst e'
    obtain ⟨d, q1, q2⟩ := (r.mono s).get' (q xs (Same.seqt (s.trans R.gh) h))
    exact ⟨d, G, q1, R, Same.refl G, q2⟩
  stop := fun {c G H σ ρ} R s => ⟨xs, Same.seqt (s.trans R.gh) h, by rw [r.length]; exact Nat.le_refl _⟩
def rangeD (lo : Int) (n : Nat) : List D := (List.range n).map fun (k : Nat) => D.int (lo + (k : Int))
theorem walks_range {K : PySem.W.Frag} {G0 : Hp} {lo : Int} {n : Nat} (hz : n ≤ sizeLine) : Walks K G0 (Itr lo n) (rangeD lo n) where
  sz := by simpa [rangeD] using hz
  go := fun {c G H σ ρ i} R s hi => by
    show i < n
    simpa [rangeD] using hi
  yld := fun {c G H H' σ ρ i x} R s ⟨e, q⟩ hi => by
    have e' : H = H' := Eq.symm e
    have q' : x = .int (lo + (i : Int)) := q
    subst e' q'
    have hi' : i < n := by simpa [rangeD] using hi
    exact ⟨.int (lo + (i : Int)), G, by simp [rangeD, hi'], R, Same.refl G, rfl⟩
  stop := fun {c G H σ ρ} R s => by simp [rangeD, Itr]
theorem _root_.L2.PI.or {X : Cx} {tg iter : Expr} {t t' : TI} (h : PI X tg iter t) (h' : PI X tg iter t') : PI X tg iter (fun σ H R => t σ H R ∨ t' σ H R) := ⟨fun pins s σ H R I q => by
  rcases q with q | q
  · exact h.run pins s σ H R I q
  · exact h'.run pins s σ H R I q⟩
section
variable {X : Cx} {pins : List (Addr × Obj)} {σ : L2.St} {H : Hp} {s : Shared} {tg : Expr} {R : It → Hp → Prop} {a : Addr} {xs : List V}
theorem fresh_fp (I : Inv X pins σ H s) {o : Obj} (hf : H s.heap.objs.size = none) : ∀ b ∈ [s.heap.objs.size], FpOk X pins H b := fun b hb => by
  have e : b = s.heap.objs.size := by simpa using hb
  subst e
  exact I.fpOk (Nat.le_refl _) hf
theorem list_it (I : Inv X pins σ H s) (h : SqL X.K H a xs) (q : R (Itl X.K a) H) : wpAny (model X.prog X.w) X.A (pyIter (.ref a)) (PIE X pins σ tg R) X.xe s := by
  obtain ⟨its, rv, p, hz⟩ := I.list h
  exact wpAny_pyIter_list p.isList ⟨s.heap.objs.size, [s.heap.objs.size], _, _, H, rfl, I.kept (t' := s.toks) fun b o e => Heap.get?_push_of_some _ e, turn_list a _, ⟨_, Heap.get?_push_size _ rfl, rfl, rfl⟩,
    fresh_fp I (o := default) (I.hok.fresh (Nat.le_refl _)), q⟩
theorem tup_it (I : Inv X pins σ H s) (h : SqT X.K H a xs) (q : R (Itt X.K a) H) : wpAny (model X.prog X.w) X.A (pyIter (.ref a)) (PIE X pins σ tg R) X.xe s := by
  obtain ⟨its, rv, p, hz⟩ := I.tuple h
  exact wpAny_pyIter_tuple (show s.heap.IsTuple a its.toArray from p) ⟨s.heap.objs.size, [s.heap.objs.size], _, _, H, rfl, I.kept (t' := s.toks) fun b o e => Heap.get?_push_of_some _ e, turn_tuple a _, ⟨_, Heap.get?_push_size _ rfl, rfl, rfl⟩,
    fresh_fp I (o := default) (I.hok.fresh (Nat.le_refl _)), q⟩
end
section
variable {X : Cx} {W : WX} {np : Nat} {a b e tg : Expr} {es : List Expr} {fa fb : M Rv} {ga : M (List Rv)} {pos p p2 : Pos}
/-- a list or a tuple, walked: it is frozen -/
def iSeq (fa : M Rv) : M (List D) := do
  let r ← fa
  let d ← toV r
  ofO (items d)
theorem lst_size {pins : List (Addr × Obj)} {σ : L2.St} {H : Hp} {s : Shared} {b : Addr} {xs : List V} (I : Inv X pins σ H s) (h : SqL X.K H b xs) : xs.length ≤ sizeLine := by
  obtain ⟨its, rv, p, hz⟩ := I.list h
  exact hz
theorem tup_size {pins : List (Addr × Obj)} {σ : L2.St} {H : Hp} {s : Shared} {b : Addr} {xs : List V} (I : Inv X pins σ H s) (h : SqT X.K H b xs) : xs.length ≤ sizeLine := by
  obtain ⟨its, rv, p, hz⟩ := I.tuple h
  exact hz
/-- a list or a tuple: the value is asked first; then it is a list or a tuple -/
theorem di_seq (ha : DE X W a fa) : DI X W tg a (iSeq fa) := ⟨⟨fun pins s σ H R I ⟨c, G, ρ, Rs, w⟩ => by
  have h0 : tD X.K W fa σ H fun x H1 => ∃ r ρ1 G1, Rst X.K c G1 H1 σ ρ1 ∧ Same G G1 ∧ RpR X.K c G1 H1 σ ρ1 x r ∧ wpM ((do let d ← toV r; ofO (items d)) ρ1) (fun ds ρ' => ∀ J G' H', Rst X.K c G' H' σ ρ' → Same G G' → Walks X.K G' J ds → R J H') (EXk X.K c W σ G) :=
    tg_step Rs (Same.refl G) w fun r ρ1 v G1 H1 R1 s1 _ k w1 => ⟨r, ρ1, G1, R1, s1, k, w1⟩
  refine thn (ha.pe.run pins s σ H _ I h0) fun u s1 ⟨x, H1, I1, ru, r, ρ1, G1, R1, sm1, k, w1⟩ => ?_
  obtain ⟨d, G2, ρ2, s2, R2, k2, w2⟩ := toV_wp R1 k (wpM_bind w1)
  obtain ⟨ds, e1, w3⟩ := ofO_wp w2
  cases d with
  | lst zs =>
    cases e1
    obtain ⟨b, xs, rfl, h2, h3⟩ := k2
    cases ru
    have hs : SqL X.K H1 b xs := .inl (.inl (R2.gh _ _ h2))
    exact list_it I1 hs (w3 _ G2 H1 R2 (sm1.trans s2) (walks_list h2 h3 (lst_size I1 hs)))
  | tup zs =>
    cases e1
    obtain ⟨b, xs, rfl, h2, h3⟩ := k2
    cases ru
    have hs : SqT X.K H1 b xs := Same.seqt R2.gh h2
    exact tup_it I1 hs (w3 _ G2 H1 R2 (sm1.trans s2) (walks_tup h2 h3 (tup_size I1 hs)))
  | _ => cases e1⟩⟩
end
end Dl

/-! Dl6: for, while, comprehensions, a def by its body. -/
namespace Dl
open PySem L2

/-! ### range, walked -/
section
variable {X : Cx} {W : WX} {np : Nat} {a b e tg : Expr} {es : List Expr} {fa fb : M Rv} {ga : M (List Rv)} {pos p p2 : Pos}
def rngOk (i j : Int) : Bool := decide (-(2 ^ 61) ≤ i ∧ i < 2 ^ 61 ∧ -(2 ^ 61) ≤ j ∧ j - i ≤ 16777216)
def dRng1 : List D → Option (List D)
  | [.int j] => if rngOk 0 j = true then some (rangeD 0 j.toNat) else none
  | _ => none
def dRng2 : List D → Option (List D)
  | [.int i, .int j] => if rngOk i j = true then some (rangeD i (j - i).toNat) else none
  | _ => none
def iRng1 (ga : M (List Rv)) : M (List D) := do
  let rs ← ga
  let ds ← peeks rs
  ofO (dRng1 ds)
def iRng2 (ga : M (List Rv)) : M (List D) := do
  let rs ← ga
  let ds ← peeks rs
  ofO (dRng2 ds)
theorem di_rng1 (hg : Gl X "range") (hm : X.mg "range" = none) (ha : DA X W [a] ga) (hs : starEach [a] X.env = [(false, eval a X.env)] := by rfl) : DI X W tg (.Call (.Name "range" p) [a] [] pos) (iRng1 ga) :=
  ⟨(pi_range1 hg hm ha.pa hs).weak fun σ H R ⟨c, G, ρ, Rs, w⟩ => by
    refine tg_step Rs (Same.refl G) w fun rs ρ1 vs G1 H1 R1 s1 _ k1 w1 => ?_
    obtain ⟨ds, kd, w2⟩ := peeks_wp R1 k1 (wpM_bind w1)
    obtain ⟨q, eq, w3⟩ := ofO_wp w2
    unfold dRng1 at eq
    split at eq
    · rename_i j
      by_cases hr : rngOk 0 j = true
      · rw [if_pos hr] at eq
        cases eq
        obtain ⟨v, rfl, kv⟩ := kd.one
        obtain ⟨h1, h2, h3, h4⟩ := of_decide_eq_true (p := -(2 ^ 61) ≤ (0 : Int) ∧ (0 : Int) < 2 ^ 61 ∧ -(2 ^ 61) ≤ j ∧ j - 0 ≤ 16777216) hr
        exact ⟨j, by rw [kv.int], by omega, by omega, w3 _ G1 H1 R1 s1 (walks_range (by rw [PySem.sizeLine_eq]; omega))⟩
      · rw [if_neg hr] at eq; cases eq
    · cases eq⟩
theorem di_rng2 (hg : Gl X "range") (hm : X.mg "range" = none) (ha : DA X W [a, b] ga) (hs : starEach [a, b] X.env = [(false, eval a X.env), (false, eval b X.env)] := by rfl) (hs2 : starEach [b] X.env = [(false, eval b X.env)] := by rfl) : DI X W tg (.Call (.Name "range" p) [a, b] [] pos) (iRng2 ga) :=
  ⟨(pi_range2 hg hm ha.pa hs hs2).weak fun σ H R ⟨c, G, ρ, Rs, w⟩ => by
    refine tg_step Rs (Same.refl G) w fun rs ρ1 vs G1 H1 R1 s1 _ k1 w1 => ?_
    obtain ⟨ds, kd, w2⟩ := peeks_wp R1 k1 (wpM_bind w1)
    obtain ⟨q, eq, w3⟩ := ofO_wp w2
    unfold dRng2 at eq
    split at eq
    · rename_i i j
      by_cases hr : rngOk i j = true
      · rw [if_pos hr] at eq
        cases eq
        obtain ⟨v, w, rfl, kv, kw⟩ := kd.two
        obtain ⟨h1, h2, h3, h4⟩ := of_decide_eq_true (p := -(2 ^ 61) ≤ i ∧ i < 2 ^ 61 ∧ -(2 ^ 61) ≤ j ∧ j - i ≤ 16777216) hr
        exact ⟨i, j, by rw [kv.int, kw.int], by omega, w3 _ G1 H1 R1 s1 (walks_range (by rw [PySem.sizeLine_eq]; omega))⟩
      · rw [if_neg hr] at eq; cases eq
    · cases eq⟩
end

/-! ### for -/
def forL (tg : D → List S → Option (List S)) (body : MS) : List D → MS
  | [], ρ => some (.nx ρ)
  | d :: ds, ρ => match tg d ρ with
    | none => none
    | some ρ1 => match body ρ1 with
      | some (.nx ρ') => forL tg body ds ρ'
      | some (.ct ρ') => forL tg body ds ρ'
      | some (.bk ρ') => some (.nx ρ')
      | o => o
def sFor (it : M (List D)) (tg : D → List S → Option (List S)) (body : MS) : MS := thenS it fun ds => forL tg body ds
/-- the pass of exceptions, of a frame -/
structure Go (X : Cx) (W : WX) : Prop where
  tk : Takes X W
  po : PassesOwn (model X.prog X.w) X.A X.env X.xe
  calm : X.calm = true
  nd : X.N.Nodup
  rm : Rm X
section
variable {X : Cx} {W : WX} {np : Nat} {a b e tg iter cc : Expr} {es : List Expr} {fa fb : M Rv} {ga : M (List Rv)} {pos p p2 : Pos} {sts : List Stmt} {it : M (List D)} {g : D → List S → Option (List S)} {body : MS}
theorem ds_for {ts : List Nat} (go : Go X W) (hi : DI X W tg iter it) (hg : DG X tg ts g) (hb : DL X W np sts body) (hs : ∀ x, foldedSetIterable iter X.env x = pure x := by intro _; rfl) : DS X W np (.For tg iter sts [] pos) (sFor it g body) :=
  ⟨(ps_for go.po go.calm hi.pi hg.pg hb.pss hs).weak fun Dn σ H ⟨c, G, ρ, o, hl, R, h, po⟩ => by
    refine ⟨c, G, ρ, R, wpM_mono (thenS_wp h) (fun ds ρ1 h1 J G1 H1 R1 s1 wk => ?_) fun e ρ1 he => by subst he; exact EXk.of_po po⟩
    have po1 := po.mono s1
    refine ⟨fun i m σ2 H2 => m = ds.length - i ∧ i ≤ ds.length ∧ ∃ G2 ρ2, Rst X.K c G2 H2 σ2 ρ2 ∧ Same G1 G2 ∧ forL g body (ds.drop i) ρ2 = some o ∧ Po X.K c W G2 Dn o,
      ⟨ds.length, by omega, Nat.zero_le _, G1, ρ1, R1, Same.refl G1, h1, po1⟩, ?_⟩
    rintro i m σ2 H2 ⟨hm, hi, G2, ρ2, R2, s2, h2, po2⟩
    by_cases hlt : i < ds.length
    · refine .inr ⟨wk.go R2 s2 hlt, fun σ' H' => (i + 1 ≤ ds.length ∧ ∃ G' ρ', Rst X.K c G' H' σ' ρ' ∧ Same G1 G' ∧ forL g body (ds.drop (i + 1)) ρ' = some o ∧ Po X.K c W G' Dn o), fun σ' H' hN => ⟨ds.length - (i + 1), by omega, rfl, hN⟩, fun x H' hy => ?_⟩
      obtain ⟨d, G3, e1, R3, s3, k3⟩ := wk.yld R2 s2 hy hlt
      have hd : ds.drop i = d :: ds.drop (i + 1) := by
        rw [List.drop_eq_getElem_cons hlt]
        rw [List.getElem?_eq_getElem hlt] at e1
        rw [Option.some.inj e1]
      rw [hd] at h2
      unfold forL at h2
      cases q : g d ρ2 with
      | none => rw [q] at h2; cases h2
      | some ρ3 =>
        rw [q] at h2
        dsimp only at h2
        refine ⟨c, G3, ρ2, d, ρ3, R3, k3, q, fun σ3 R3' _ => ?_⟩
        cases q2 : body ρ3 with
        | none => rw [q2] at h2; cases h2
        | some o3 =>
          rw [q2] at h2
          refine ⟨c, G3, ρ3, o3, hl, R3', q2, ?_⟩
          cases o3 with
          | nx ρ4 => exact fun σ4 G4 H4 R4 s4 => ⟨by omega, G4, ρ4, R4, (s2.trans s3).trans s4, h2, po2.mono (s3.trans s4)⟩
          | ct ρ4 => exact fun σ4 G4 H4 R4 s4 => ⟨by omega, G4, ρ4, R4, (s2.trans s3).trans s4, h2, po2.mono (s3.trans s4)⟩
          | bk ρ4 => cases h2; exact fun σ4 G4 H4 R4 s4 => po2 σ4 G4 H4 R4 (s3.trans s4)
          | rt r ρ4 => cases h2; exact po2.mono s3
          | ex x ρ4 => cases h2; exact po2.mono s3
    · have e0 : i = ds.length := by omega
      subst e0
      rw [List.drop_length] at h2
      cases h2
      exact .inl ⟨wk.stop R2 s2, po2 σ2 G2 H2 R2 (Same.refl G2)⟩⟩
end

/-! ### while -/
def whN (g : M Bool) (body : MS) : Nat → MS
  | 0, _ => none
  | n + 1, ρ => match g ρ with
    | none => none
    | some (.ex e ρ') => some (.ex e ρ')
    | some (.ok false ρ') => some (.nx ρ')
    | some (.ok true ρ1) => match body ρ1 with
      | some (.nx ρ') => whN g body n ρ'
      | some (.ct ρ') => whN g body n ρ'
      | some (.bk ρ') => some (.nx ρ')
      | o => o
theorem whN_mono {g : M Bool} {body : MS} : ∀ {n : Nat} {ρ : List S} {o : Os}, whN g body n ρ = some o → whN g body (n + 1) ρ = some o
  | 0, _, _, h => nomatch h
  | n + 1, ρ, o, h => by
    unfold whN at h ⊢
    cases e : g ρ with
    | none => rw [e] at h; cases h
    | some q =>
      rw [e] at h
      cases q with
      | ex x ρ' => exact h
      | ok b ρ1 =>
        cases b with
        | false => exact h
        | true =>
          dsimp only at h ⊢
          cases e2 : body ρ1 with
          | none => rw [e2] at h; cases h
          | some q2 =>
            rw [e2] at h
            cases q2 with
            | nx ρ' => exact whN_mono h
            | ct ρ' => exact whN_mono h
            | bk ρ' => exact h
            | rt r ρ' => exact h
            | ex x ρ' => exact h
theorem whN_le {g : M Bool} {body : MS} {n m : Nat} (hle : n ≤ m) {ρ : List S} {o : Os} (h : whN g body n ρ = some o) : whN g body m ρ = some o := by
  induction hle with
  | refl => exact h
  | step _ ih => exact whN_mono ih
open Classical in
noncomputable def whL (g : M Bool) (body : MS) : MS := fun ρ => if h : ∃ n o, whN g body n ρ = some o then some (Classical.choose (Classical.choose_spec h)) else none
theorem whL_of {g : M Bool} {body : MS} {n : Nat} {ρ : List S} {o : Os} (h : whN g body n ρ = some o) : whL g body ρ = some o := by
  unfold whL
  have hx : ∃ n o, whN g body n ρ = some o := ⟨n, o, h⟩
  rw [dif_pos hx]
  have h2 := Classical.choose_spec (Classical.choose_spec hx)
  have a := whN_le (Nat.le_max_left n (Classical.choose hx)) h
  have b := whN_le (Nat.le_max_right n (Classical.choose hx)) h2
  rw [a] at b
  exact b.symm
theorem whL_some {g : M Bool} {body : MS} {ρ : List S} {o : Os} (h : whL g body ρ = some o) : ∃ n, whN g body n ρ = some o := by
  unfold whL at h
  split at h
  · rename_i hx
    refine ⟨Classical.choose hx, ?_⟩
    have h2 := Classical.choose_spec (Classical.choose_spec hx)
    rw [← Option.some.inj h]
    exact h2
  · cases h
/-- one turn -/
theorem whL_step {g : M Bool} {body : MS} {ρ ρ1 ρ2 : List S} (h1 : g ρ = some (.ok true ρ1)) (h2 : body ρ1 = some (.nx ρ2) ∨ body ρ1 = some (.ct ρ2)) {o : Os} (h3 : whL g body ρ2 = some o) : whL g body ρ = some o := by
  obtain ⟨n, h⟩ := whL_some h3
  refine whL_of (n := n + 1) ?_
  unfold whN
  rw [h1]
  dsimp only
  rcases h2 with h2 | h2
  · rw [h2]; exact h
  · rw [h2]; exact h
theorem whL_end {g : M Bool} {body : MS} {ρ ρ1 : List S} (h1 : g ρ = some (.ok false ρ1)) : whL g body ρ = some (.nx ρ1) := whL_of (n := 1) (by unfold whN; rw [h1])
theorem whL_out {g : M Bool} {body : MS} {ρ ρ1 : List S} {o : Os} (h1 : g ρ = some (.ok true ρ1)) (h2 : body ρ1 = some o) (h3 : (∃ r ρ', o = .rt r ρ') ∨ ∃ x ρ', o = .ex x ρ') : whL g body ρ = some o := whL_of (n := 1) (by
  unfold whN; rw [h1]; dsimp only; rw [h2]
  rcases h3 with ⟨r, ρ', e⟩ | ⟨r, ρ', e⟩ <;> rw [e])
theorem whL_brk {g : M Bool} {body : MS} {ρ ρ1 ρ2 : List S} (h1 : g ρ = some (.ok true ρ1)) (h2 : body ρ1 = some (.bk ρ2)) : whL g body ρ = some (.nx ρ2) := whL_of (n := 1) (by unfold whN; rw [h1]; dsimp only; rw [h2])
noncomputable abbrev sWhile (g : M Bool) (body : MS) : MS := whL g body
section
variable {X : Cx} {W : WX} {np : Nat} {cc : Expr} {pos : Pos} {sts : List Stmt} {g : M Bool} {body : MS}
theorem ds_while (go : Go X W) (hc : DT X W cc g) (hb : DL X W np sts body) : DS X W np (.While cc sts [] pos) (sWhile g body) :=
  ⟨(ps_while go.po hc.pt hb.pss).weak fun Dn σ H ⟨c, G, ρ, o, hl, R, h, po⟩ => by
    obtain ⟨n0, h0⟩ := whL_some h
    refine ⟨fun m σ2 H2 => ∃ G2 ρ2, Rst X.K c G2 H2 σ2 ρ2 ∧ whN g body m ρ2 = some o ∧ Po X.K c W G2 Dn o, ⟨n0, G, ρ, R, h0, po⟩, ?_⟩
    rintro m σ2 H2 ⟨G2, ρ2, R2, h2, po2⟩
    cases m with
    | zero => cases h2
    | succ m =>
      unfold whN at h2
      refine ⟨c, G2, ρ2, R2, ?_⟩
      cases q : g ρ2 with
      | none => rw [q] at h2; cases h2
      | some ot =>
        rw [q] at h2
        cases ot with
        | ex x ρ3 => cases h2; exact EXk.of_po po2
        | ok b ρ3 =>
          refine fun b' G3 H3 R3 s3 eb => ?_
          obtain rfl : b' = b := eb
          have po3 := po2.mono s3
          cases b' with
          | false => cases h2; exact po3 σ2 G3 H3 R3 (Same.refl G3)
          | true =>
            dsimp only at h2
            rw [if_pos rfl]
            refine ⟨fun σ' H' => ∃ G' ρ', Rst X.K c G' H' σ' ρ' ∧ whN g body m ρ' = some o ∧ Po X.K c W G' Dn o, fun σ' H' hN => ⟨m, Nat.lt_succ_self m, hN⟩, ?_⟩
            cases q2 : body ρ3 with
            | none => rw [q2] at h2; cases h2
            | some o3 =>
              rw [q2] at h2
              refine ⟨c, G3, ρ3, o3, hl, R3, q2, ?_⟩
              cases o3 with
              | nx ρ4 => exact fun σ4 G4 H4 R4 s4 => ⟨G4, ρ4, R4, h2, po3.mono s4⟩
              | ct ρ4 => exact fun σ4 G4 H4 R4 s4 => ⟨G4, ρ4, R4, h2, po3.mono s4⟩
              | bk ρ4 => cases h2; exact fun σ4 G4 H4 R4 s4 => po3 σ4 G4 H4 R4 s4
              | rt r ρ4 => cases h2; exact po3
              | ex x ρ4 => cases h2; exact po3⟩
end
end Dl

/-! Dl7: comprehensions. -/
namespace Dl
open PySem L2

/-! ### an object kept apart -/
def Cn.with (c : Cn) (p : Addr) (o : HO) : Cn := { c with F := upd c.F p o }
section
variable {K : PySem.W.Frag} {c : Cn} {G G' H H' : Hp} {σ : L2.St} {ρ ρ' : List S} {p : Addr} {o o' : HO}
theorem Ow.fmono {K : PySem.W.Frag} {F F' G H : Hp} {a : Addr} {d : D} (hd : ∀ b, H b = some (.own a) → F b = none → F' b = none) (h : Ow K F G H a d) : Ow K F' G H a d := by
  cases d with
  | lst ds => exact h
  | obj c ns ds => obtain ⟨dx, xs, h1, h2, h3, h4, h5, hl, h6⟩ := h; exact ⟨dx, xs, h1, h2, h3, hd dx h2 h4, h5, hl, h6⟩
  | dic ks vs => exact h
  | _ => exact h.elim
theorem Rst.keep (R : Rst K c G H σ ρ) (hp : H p = some o) (gp : G p = none) (ho : ∀ b, o ≠ .own b) (ns : ∀ (i : Nat) (e : D), ρ[i]? = some (.own e) → σ[i]? ≠ some (some (.ref p))) : Rst K (c.with p o) G H σ ρ where
  fh := fun b u e => by
    by_cases z : b = p
    · subst z; have e : upd c.F b o b = some u := e; rw [upd_same] at e; cases e; exact hp
    · have e : upd c.F p o b = some u := e; rw [upd_ne z] at e; exact R.fh b u e
  gh := R.gh
  fg := fun b u e => by
    by_cases z : b = p
    · subst z; exact gp
    · have e : upd c.F p o b = some u := e; rw [upd_ne z] at e; exact R.fg b u e
  len := R.len
  val := R.val
  own := fun i d e => by
    obtain ⟨a, h1, h2, h3, h4⟩ := R.own i d e
    refine ⟨a, h1, h2, ?_, h4.fmono fun b hb fb => ?_⟩
    · show upd c.F p o a = none
      rw [upd_ne (fun z => by subst z; exact ns i d e h1)]; exact h3
    · show upd c.F p o b = none
      rw [upd_ne (fun z => by subst z; rw [hp] at hb; exact ho a (Option.some.inj hb))]; exact fb
  ne := R.ne
  par := R.par
theorem Rst.unkeep (R : Rst K (c.with p o) G H σ ρ) (fp : c.F p = none) : Rst K c G H σ ρ where
  fh := fun b u e => R.fh b u (by show upd c.F p o b = some u; rw [upd_ne (ne_of_none e fp)]; exact e)
  gh := R.gh
  fg := fun b u e => R.fg b u (by show upd c.F p o b = some u; rw [upd_ne (ne_of_none e fp)]; exact e)
  len := R.len
  val := R.val
  own := fun i d e => by
    obtain ⟨a, h1, h2, h3, h4⟩ := R.own i d e
    have low : ∀ b, (c.with p o).F b = none → c.F b = none := fun b hb => by
      by_cases z : b = p
      · subst z; exact fp
      · have hb : upd c.F p o b = none := hb
        rw [upd_ne z] at hb; exact hb
    exact ⟨a, h1, h2, low a h3, h4.fmono fun b _ hb => low b hb⟩
  ne := R.ne
  par := R.par
/-- the object kept apart is changed -/
theorem Rst.store (R : Rst K (c.with p o) G H σ ρ) (ho : ∀ b, o ≠ .own b) : Rst K (c.with p o') G (upd H p o') σ ρ := by
  have hF : (c.with p o).F p = some o := upd_same
  have hp : H p = some o := R.fh _ _ hF
  have gp : G p = none := R.fg _ _ hF
  refine ⟨fun b u e => ?_, fun b u e => ?_, fun b u e => ?_, R.len, R.val, fun i d e => ?_, R.ne, R.par⟩
  · have e : upd c.F p o' b = some u := e
    by_cases z : b = p
    · subst z; rw [upd_same] at e ⊢; exact e
    · rw [upd_ne z] at e ⊢; exact R.fh b u (by show upd c.F p o b = some u; rw [upd_ne z]; exact e)
  · rw [upd_ne (ne_of_none e gp)]; exact R.gh _ _ e
  · have e : upd c.F p o' b = some u := e
    by_cases z : b = p
    · subst z; exact gp
    · rw [upd_ne z] at e; exact R.fg b u (by show upd c.F p o b = some u; rw [upd_ne z]; exact e)
  · obtain ⟨a, h1, h2, h3, h4⟩ := R.own i d e
    have na : a ≠ p := fun z => by subst z; rw [hF] at h3; cases h3
    have low : ∀ b, b ≠ p → (c.with p o).F b = none → (c.with p o').F b = none := fun b z hb => by
      have hb : upd c.F p o b = none := hb
      show upd c.F p o' b = none
      rw [upd_ne z] at hb ⊢; exact hb
    refine ⟨a, h1, h2, low a na h3, ?_⟩
    cases d with
    | lst ds => obtain ⟨xs, q1, q2⟩ := h4; exact ⟨xs, by rw [upd_ne na]; exact q1, q2⟩
    | obj cc ns ds =>
      obtain ⟨dx, xs, q1, q2, q3, q4, q5, q6, q7⟩ := h4
      have nd : dx ≠ p := fun z => by subst z; rw [hp] at q2; exact ho a (Option.some.inj q2)
      exact ⟨dx, xs, by rw [upd_ne na]; exact q1, by rw [upd_ne nd]; exact q2, q3, low dx nd q4, q5, q6, q7⟩
    | dic ks vs => obtain ⟨kvs, q1, q2, q3⟩ := h4; exact ⟨kvs, by rw [upd_ne na]; exact q1, q2, q3⟩
    | _ => exact h4.elim
end

/-! ### the slots of a block -/
def wipeS (ρ : List S) : List Nat → List S
  | [] => ρ
  | v :: vs => (wipeS ρ vs).set v .no
def backS (ρ0 ρ : List S) : List Nat → List S
  | [] => ρ
  | v :: vs => (backS ρ0 ρ vs).set v (ρ0.getD v .no)
def isOwn : Option S → Bool
  | some (.own _) => true
  | _ => false
def noOwn (ρ : List S) (vs : List Nat) : Bool := vs.all fun v => !isOwn ρ[v]?
section
variable {K : PySem.W.Frag} {c : Cn} {G G' H H' : Hp} {σ σ2 : L2.St} {ρ ρ' ρ2 : List S}
theorem wipe_in {σ : L2.St} : ∀ {vs : List Nat} {j : Nat}, j ∉ vs → (wipe σ vs)[j]? = σ[j]?
  | [], _, _ => rfl
  | v :: vs, j, h => by
    unfold wipe
    have h2 : j ≠ v ∧ j ∉ vs := by simpa using h
    rw [List.getElem?_set_ne (Ne.symm h2.1)]
    exact wipe_in h2.2
theorem wipeS_get {ρ : List S} : ∀ {vs : List Nat} {j : Nat} {s : S}, (wipeS ρ vs)[j]? = some s → s ≠ .no → ρ[j]? = some s ∧ j ∉ vs
  | [], _, _, h, _ => ⟨h, by simp⟩
  | v :: vs, j, s, h, n => by
    unfold wipeS at h
    rcases set_cases h with ⟨_, _, e⟩ | ⟨hj, h⟩
    · exact absurd e n
    · obtain ⟨h1, h2⟩ := wipeS_get h n
      exact ⟨h1, by simp [hj, h2]⟩
theorem wipeS_length (ρ : List S) : ∀ vs : List Nat, (wipeS ρ vs).length = ρ.length
  | [] => rfl
  | v :: vs => by unfold wipeS; rw [List.length_set, wipeS_length ρ vs]
theorem backS_length (ρ0 ρ : List S) : ∀ vs : List Nat, (backS ρ0 ρ vs).length = ρ.length
  | [] => rfl
  | v :: vs => by unfold backS; rw [List.length_set, backS_length ρ0 ρ vs]
theorem backS_get {ρ0 ρ : List S} (hl : ρ0.length = ρ.length) : ∀ {vs : List Nat} {j : Nat} {s : S}, (backS ρ0 ρ vs)[j]? = some s → (j ∈ vs ∧ ρ0[j]? = some s) ∨ (j ∉ vs ∧ ρ[j]? = some s)
  | [], _, _, h => .inr ⟨by simp, h⟩
  | v :: vs, j, s, h => by
    unfold backS at h
    rcases set_cases h with ⟨e1, hv, e⟩ | ⟨hj, h⟩
    · subst e1
      refine .inl ⟨by simp, ?_⟩
      rw [backS_length] at hv
      have h0 : j < ρ0.length := by omega
      rw [e, List.getD_eq_getElem?_getD, List.getElem?_eq_getElem h0]; rfl
    · rcases backS_get hl h with ⟨h1, h2⟩ | ⟨h1, h2⟩
      · exact .inl ⟨by simp [h1], h2⟩
      · exact .inr ⟨by simp [hj, h1], h2⟩
/-- the block's slots forgotten -/
theorem Rst.wiped (R : Rst K c G H σ ρ) (vs : List Nat) : Rst K c G H (wipe σ vs) (wipeS ρ vs) where
  fh := R.fh
  gh := R.gh
  fg := R.fg
  len := by rw [wipeS_length, wipe_length, R.len]
  val := fun i d e => by
    obtain ⟨h1, h2⟩ := wipeS_get e (by intro z; cases z)
    rw [wipe_in h2]; exact R.val i d h1
  own := fun i d e => by
    obtain ⟨h1, h2⟩ := wipeS_get e (by intro z; cases z)
    rw [wipe_in h2]; exact R.own i d h1
  ne := fun i j d e a q1 q2 r1 r2 => by
    obtain ⟨h1, h2⟩ := wipeS_get q1 (by intro z; cases z)
    obtain ⟨h3, h4⟩ := wipeS_get q2 (by intro z; cases z)
    rw [wipe_in h2] at r1
    rw [wipe_in h4] at r2
    exact R.ne i j d e a h1 h3 r1 r2
  par := fun i d e hl => by
    obtain ⟨h1, h2⟩ := wipeS_get e (by intro z; cases z)
    rw [wipe_in h2]; exact R.par i d h1 hl
theorem same_of_wipe {σ σ2 : L2.St} {vs : List Nat} (h : wipe σ2 vs = wipe σ vs) {j : Nat} (hj : j ∉ vs) : σ2[j]? = σ[j]? := by
  have h1 := wipe_in (σ := σ2) hj
  have h2 := wipe_in (σ := σ) hj
  rw [← h1, ← h2, h]
/-- the block's slots as they were ahead of it -/
theorem Rst.backed {c0 : Cn} {G0 H0 : Hp} (R0 : Rst K c0 G0 H0 σ ρ) (s : Same G0 G) (R : Rst K c G H σ2 ρ2) {vs : List Nat} (w : wipe σ2 vs = wipe σ vs) (no : noOwn ρ vs = true) : Rst K c G H σ (backS ρ ρ2 vs) := by
  have hlen : ρ.length = ρ2.length := by
    have e := congrArg List.length w
    rw [wipe_length, wipe_length] at e
    rw [R0.len, R.len, e]
  have nown : ∀ {j : Nat} {d : D}, (backS ρ ρ2 vs)[j]? = some (.own d) → j ∉ vs ∧ ρ2[j]? = some (.own d) := fun {j d} e => by
    rcases backS_get hlen e with ⟨h1, h2⟩ | h
    · exfalso
      have := List.all_eq_true.mp no j h1
      rw [h2] at this
      cases this
    · exact h
  refine ⟨R.fh, R.gh, R.fg, ?_, fun j d e => ?_, fun j d e => ?_, fun j k d e a q1 q2 r1 r2 => ?_, fun j d e hl => ?_⟩
  · rw [backS_length, ← hlen]; exact R0.len
  · rcases backS_get hlen e with ⟨h1, h2⟩ | ⟨h1, h2⟩
    · obtain ⟨v, k1, k2⟩ := R0.val j d h2
      exact ⟨v, k1, k2.mono s⟩
    · rw [← same_of_wipe w h1]; exact R.val j d h2
  · obtain ⟨h1, h2⟩ := nown e
    rw [← same_of_wipe w h1]; exact R.own j d h2
  · obtain ⟨h1, h2⟩ := nown q1
    obtain ⟨h3, h4⟩ := nown q2
    rw [← same_of_wipe w h1] at r1
    rw [← same_of_wipe w h3] at r2
    exact R.ne j k d e a h2 h4 r1 r2
  · obtain ⟨h1, h2⟩ := nown e
    rw [← same_of_wipe w h1]; exact R.par j d h2 hl
end

/-! ### one clause -/
def lcL (tg : D → List S → Option (List S)) (tt : M Bool) (te : M Rv) (vs : List Nat) : List D → List D → M (List D)
  | [], acc, ρ => some (.ok acc ρ)
  | d :: ds, acc, ρ => match tg d (wipeS ρ vs) with
    | none => none
    | some ρ1 => match tt ρ1 with
      | some (.ok false ρ2) => lcL tg tt te vs ds acc (backS ρ ρ2 vs)
      | some (.ok true ρ2) => match (te >>= toV) ρ2 with
        | some (.ok e ρ3) => lcL tg tt te vs ds (acc ++ [e]) (backS ρ ρ3 vs)
        | _ => none
      | _ => none
def eLc (it : M (List D)) (tg : D → List S → Option (List S)) (tt : M Bool) (te : M Rv) (vs : List Nat) : M Rv := do
  let ds ← it
  let acc ← fun ρ => if noOwn ρ vs = true then lcL tg tt te vs ds [] ρ else none
  pure (.own (.lst acc))
def tYes' : M Bool := pure true
structure DTs (X : Cx) (ifs : List Expr) (f : M Bool) : Prop where
  pts : PTs X ifs (tDT X.K WX0 f)
theorem _root_.L2.PTs.weak {X : Cx} {ifs : List Expr} {t t' : TT} (h : PTs X ifs t) (w : ∀ σ H Q, t' σ H Q → t σ H Q) : PTs X ifs t' := ⟨fun pins s σ H Q I q => h.run pins s σ H Q I (w σ H Q q)⟩
theorem dts_nil {X : Cx} : DTs X [] tYes' := ⟨pts_nil.weak fun σ H Q ⟨c, G, ρ, R, w⟩ => w true G H R (Same.refl G) rfl⟩
theorem dts_one {X : Cx} {e : Expr} {f : M Bool} (h : DT X WX0 e f) : DTs X [e] f := ⟨pts_one h.pt⟩
theorem exk0 {K : PySem.W.Frag} {c : Cn} {σ : L2.St} {G : Hp} {α : Type} {o : Option (Ot α)} {OK : α → List S → Prop} (h : ∃ a ρ, o = some (.ok a ρ) ∧ OK a ρ) : wpM o OK (EXk K c WX0 σ G) := by
  obtain ⟨a, ρ, rfl, k⟩ := h
  exact k
theorem wipe_get {σ : L2.St} : ∀ {vs : List Nat} {j : Nat}, j ∈ vs → j < σ.length → (wipe σ vs)[j]? = some none
  | v :: vs, j, h, hl => by
    unfold wipe
    by_cases e : j = v
    · subst e; rw [List.getElem?_set_self (by rw [wipe_length]; exact hl)]
    · rw [List.getElem?_set_ne (Ne.symm e)]
      exact wipe_get (by simpa [e] using h) hl
theorem wipe_ext {σ σ' : L2.St} {vs : List Nat} (hl : σ'.length = σ.length) (h : ∀ j, j ∉ vs → σ'[j]? = σ[j]?) : wipe σ' vs = wipe σ vs := by
  apply List.ext_getElem?
  intro j
  by_cases hj : j ∈ vs
  · by_cases hlt : j < σ.length
    · rw [wipe_get hj hlt, wipe_get hj (by omega)]
    · rw [List.getElem?_eq_none (by rw [wipe_length]; omega), List.getElem?_eq_none (by rw [wipe_length]; omega)]
  · rw [wipe_in hj, wipe_in hj, h j hj]
theorem wipe_out {σ σ3 : L2.St} {vs ts : List Nat} (o : Out ts (wipe σ vs) σ3) (hts : ∀ t ∈ ts, t ∈ vs) : wipe σ3 vs = wipe σ vs :=
  wipe_ext (by rw [o.1, wipe_length]) fun j hj => by rw [o.2 j (fun z => hj (hts j z)), wipe_in hj]
theorem noOwn_back {ρ ρ3 : List S} {vs : List Nat} (hl : ρ.length = ρ3.length) (h : noOwn ρ vs = true) : noOwn (backS ρ ρ3 vs) vs = true := by
  refine List.all_eq_true.mpr fun v hv => ?_
  have h1 := List.all_eq_true.mp h v hv
  cases e : (backS ρ ρ3 vs)[v]? with
  | none => rfl
  | some s =>
    rcases backS_get hl e with ⟨_, h2⟩ | ⟨h2, _⟩
    · rw [h2] at h1; exact h1
    · exact absurd hv h2
theorem lcL_ex {tg : D → List S → Option (List S)} {tt : M Bool} {te : M Rv} {vs : List Nat} : ∀ {ds acc : List D} {ρ : List S} {o : Ot (List D)}, lcL tg tt te vs ds acc ρ = some o → ∃ a ρ', o = .ok a ρ'
  | [], acc, ρ, o, h => by cases h; exact ⟨_, _, rfl⟩
  | d :: ds, acc, ρ, o, h => by
    unfold lcL at h
    split at h
    · cases h
    · split at h
      · exact lcL_ex h
      · split at h
        · exact lcL_ex h
        · cases h
      · cases h
section
variable {X : Cx} {W : WX} {elt tg iter : Expr} {ifs : List Expr} {scope : Scope} {own : List (Str × Nat)} {pos : Pos} {it : M (List D)} {g : D → List S → Option (List S)} {tt : M Bool} {te : M Rv} {ts : List Nat}
theorem tD_lc {own : List (Str × Nat)} (hts : ∀ t ∈ ts, t ∈ own.map (·.2)) {σ : L2.St} {H : Hp} {Q : VK} (h : tD X.K W (eLc it g tt te (own.map (·.2))) σ H Q) : tLc (tDI X.K W it) (tDG X.K ts g) (tDT X.K WX0 tt) (tD X.K WX0 te) (own.map (·.2)) σ H Q := by
  obtain ⟨c, G, ρ, R, w⟩ := h
  refine ⟨c, G, ρ, R, wpM_mono (wpM_bind w) (fun ds ρ1 w1 J G1 H1 R1 s1 wk => ?_) fun _ _ x => x⟩
  have w2 := wpM_bind w1
  by_cases hn : noOwn ρ1 (own.map (·.2)) = true
  · rw [if_pos hn] at w2
    intro p hp
    have fp := R1.f_none hp
    cases e : lcL g tt te (own.map (·.2)) ds [] ρ1 with
    | none => rw [e] at w2; exact w2.elim
    | some o =>
      obtain ⟨out, ρe, rfl⟩ := lcL_ex e
      rw [e] at w2
      have w3 : ∀ (b : V) (G' H' : Hp), Rst X.K c G' H' σ ρe → Same G G' → RpR X.K c G' H' σ ρe b (.own (.lst out)) → Q b H' := w2
      refine ⟨fun i m H2 => m = ds.length - i ∧ i ≤ ds.length ∧ ∃ G2 ρ2 acc accV, Rst X.K (c.with p (.lst accV)) G2 H2 σ ρ2 ∧ Same G1 G2 ∧ RpL X.K G2 acc accV ∧ acc.length ≤ i ∧ noOwn ρ2 (own.map (·.2)) = true ∧ lcL g tt te (own.map (·.2)) (ds.drop i) acc ρ2 = some (.ok out ρe),
        ⟨ds.length, by omega, Nat.zero_le _, G1, ρ1, [], [], (R1.laid hp).keep upd_same (R1.g_none hp) (fun b z => nomatch z) (R1.not_slot hp), Same.refl G1, rfl, Nat.le_refl _, hn, e⟩, ?_⟩
      rintro i m H2 ⟨hm, hi2, G2, ρ2, acc, accV, R2, s2, ka, hla, hn2, e2⟩
      by_cases hlt : i < ds.length
      · refine .inr ⟨wk.go R2 s2 hlt, fun H' => i + 1 ≤ ds.length ∧ ∃ G' ρ' acc' accV', Rst X.K (c.with p (.lst accV')) G' H' σ ρ' ∧ Same G1 G' ∧ RpL X.K G' acc' accV' ∧ acc'.length ≤ i + 1 ∧ noOwn ρ' (own.map (·.2)) = true ∧ lcL g tt te (own.map (·.2)) (ds.drop (i + 1)) acc' ρ' = some (.ok out ρe),
          fun H' hN => ⟨ds.length - (i + 1), by omega, rfl, hN⟩, fun x H' hy => ?_⟩
        obtain ⟨d, G3, e1, R3, s3, k3⟩ := wk.yld R2 s2 hy hlt
        have hd : ds.drop i = d :: ds.drop (i + 1) := by
          rw [List.drop_eq_getElem_cons hlt]
          rw [List.getElem?_eq_getElem hlt] at e1
          rw [Option.some.inj e1]
        rw [hd] at e2
        unfold lcL at e2
        cases q : g d (wipeS ρ2 (own.map (·.2))) with
        | none => rw [q] at e2; cases e2
        | some ρ3 =>
          rw [q] at e2
          dsimp only at e2
          refine ⟨c.with p (.lst accV), G3, wipeS ρ2 (own.map (·.2)), d, ρ3, R3.wiped _, k3, q, fun σ3 R3' o3 => ?_⟩
          have hw := wipe_out o3 hts
          have hlen : ρ2.length = σ3.length := by
            have z := congrArg List.length hw
            rw [wipe_length, wipe_length] at z
            rw [R2.len, z]
          refine ⟨hw, ?_⟩
          refine ⟨c.with p (.lst accV), G3, ρ3, R3', exk0 ?_⟩
          cases q2 : tt ρ3 with
          | none => rw [q2] at e2; cases e2
          | some o4 =>
            cases o4 with
            | ex x ρ4 => rw [q2] at e2; cases e2
            | ok b ρ4 =>
              rw [q2] at e2
              refine ⟨b, ρ4, rfl, fun b' G4 H4 R4 s4 eb => ?_⟩
              obtain rfl : b' = b := eb
              cases b' with
              | false =>
                rw [if_neg Bool.false_ne_true]
                dsimp only at e2
                have hl4 : ρ2.length = ρ4.length := by rw [hlen, R4.len]
                exact ⟨by omega, G4, _, acc, accV, R2.backed (s3.trans s4) R4 hw hn2, (s2.trans s3).trans s4, ka.mono (s3.trans s4), by omega, noOwn_back hl4 hn2, e2⟩
              | true =>
                rw [if_pos rfl]
                dsimp only at e2
                refine ⟨c.with p (.lst accV), G4, ρ4, R4, exk0 ?_⟩
                rw [bind_eq] at e2
                cases q3 : te ρ4 with
                | none => rw [q3] at e2; cases e2
                | some o5 =>
                  cases o5 with
                  | ex x ρ5 => rw [q3] at e2; cases e2
                  | ok r ρ5 =>
                    rw [q3] at e2
                    refine ⟨r, ρ5, rfl, fun y G5 H5 R5 s5 ky => ?_⟩
                    dsimp only at e2
                    have tw : wpM (toV r ρ5) (fun z ρ6 => lcL g tt te (own.map (·.2)) (ds.drop (i + 1)) (acc ++ [z]) (backS ρ2 ρ6 (own.map (·.2))) = some (.ok out ρe)) (fun _ _ => False) := by
                      cases q5 : toV r ρ5 with
                      | none => rw [q5] at e2; cases e2
                      | some o6 => cases o6 with
                        | ok z ρ6 => rw [q5] at e2; exact e2
                        | ex x ρ6 => rw [q5] at e2; cases e2
                    obtain ⟨z, G6, ρ6, s6, R6, kz, e6⟩ := toV_wp R5 ky tw
                    have hl6 : ρ2.length = ρ6.length := by rw [hlen, R6.len]
                    have sall := (s3.trans s4).trans (s5.trans s6)
                    have hacc : accV.length < sizeLine := by rw [ka.length]; exact Nat.lt_of_lt_of_le (Nat.lt_of_le_of_lt hla hlt) wk.sz
                    refine ⟨accV, R6.fh _ _ upd_same, hacc, by omega, G6, _, acc ++ [z], accV ++ [y], ?_, s2.trans sall, (ka.mono sall).append (RpL.one kz), by rw [List.length_append, List.length_singleton]; omega, noOwn_back hl6 hn2, e6⟩
                    exact (R2.backed sall R6 hw hn2).store fun b z => nomatch z
      · have e0 : i = ds.length := by omega
        subst e0
        rw [List.drop_length] at e2
        cases e2
        have F2 : (c.with p (.lst accV)).F p = some (.lst accV) := upd_same
        refine .inl ⟨wk.stop R2 s2, w3 _ G2 H2 (R2.unkeep fp) (s1.trans s2) ⟨p, rfl, R2.fg _ _ F2, fp, ⟨accV, R2.fh _ _ F2, ka⟩, fun j e q z => ?_⟩⟩
        obtain ⟨a, h1, _, h3, _⟩ := R2.own j e q
        rw [z] at h1; cases h1
        rw [F2] at h3; cases h3
  · rw [if_neg hn] at w2; exact w2.elim
theorem de_lc (own : List (Str × Nat)) (go : Go X W) (hi : DI X W tg iter it) (ok : BlkOk X.N X.env.scope scope own)
    (hg : ∀ (s : Shared) (H : Hp) (C : Addr) (cl : List (Str × Addr)) (fp : List Addr), DG (X.blk s H scope (compEnvC scope cl C X.env) fp) tg ts g) (ht : ∀ (s : Shared) (H : Hp) (C : Addr) (cl : List (Str × Addr)) (fp : List Addr), DTs (X.blk s H scope (compEnvC scope cl C X.env) fp) ifs tt)
    (he : ∀ (s : Shared) (H : Hp) (C : Addr) (cl : List (Str × Addr)) (fp : List Addr), DE (X.blk s H scope (compEnvC scope cl C X.env) fp) WX0 elt te) (hts : ∀ t ∈ ts, t ∈ own.map (·.2) := by decide) (hs : ∀ x, foldedSetIterable iter X.env x = pure x := by intro _; rfl) :
    DE X W (.ListComp elt [⟨tg, iter, ifs, 0⟩] scope pos) (eLc it g tt te (own.map (·.2))) :=
  ⟨(pe_lc (g := tDG X.K ts g) (tt := tDT X.K WX0 tt) (te := tD X.K WX0 te) go.calm go.nd hi.pi ok (fun s H C cl fp => (hg s H C cl fp).pg) (fun s H C cl fp => (ht s H C cl fp).pts) (fun s H C cl fp => (he s H C cl fp).pe) hs).weak fun _ _ _ h => tD_lc hts h⟩
theorem ds_setLc {np : Nat} {y : Str} {py spos : Pos} (i : Nat) (own : List (Str × Nat)) (hy : X.N[i]? = some y) (hyl : X.env.scope.names.lookup y = some .local) (hk : X.env.scope.kind = .function) (hln : (py.line == pos.line) = true) (hnn : (scope.names.any fun (n, k) => n == y && (k == .local || k == .cell)) = false) (go : Go X W) (hi : DI X W tg iter it) (ok : BlkOk X.N X.env.scope scope own)
    (hg : ∀ (s : Shared) (H : Hp) (C : Addr) (cl : List (Str × Addr)) (fp : List Addr), DG (X.blk s H scope (compEnvC scope cl C X.env) fp) tg ts g) (ht : ∀ (s : Shared) (H : Hp) (C : Addr) (cl : List (Str × Addr)) (fp : List Addr), DTs (X.blk s H scope (compEnvC scope cl C X.env) fp) ifs tt)
    (he : ∀ (s : Shared) (H : Hp) (C : Addr) (cl : List (Str × Addr)) (fp : List Addr), DE (X.blk s H scope (compEnvC scope cl C X.env) fp) WX0 elt te) (hts : ∀ t ∈ ts, t ∈ own.map (·.2) := by decide) (hs : ∀ x, foldedSetIterable iter X.env x = pure x := by intro _; rfl) :
    DS X W np (.Assign [.Name y py] (.ListComp elt [⟨tg, iter, ifs, 0⟩] scope pos) spos) (sSet np i (eLc it g tt te (own.map (·.2)))) :=
  ⟨(ps_setLc (g := tDG X.K ts g) (tt := tDT X.K WX0 tt) (te := tD X.K WX0 te) go.calm go.nd hy hyl (sw_true hk hyl hln hnn) hi.pi ok (fun s H C cl fp => (hg s H C cl fp).pg) (fun s H C cl fp => (ht s H C cl fp).pts) (fun s H C cl fp => (he s H C cl fp).pe) hs).weak fun Dn σ H h => tD_lc hts (tS_set i h)⟩
end
end Dl

/-! Dl8: comprehensions of two clauses. -/
namespace Dl
open PySem L2
/-- the inner walk: the list so far is asked to be short -/
def lcI (tg : D → List S → Option (List S)) (tt : M Bool) (te : M Rv) (vs : List Nat) : List D → List D → M (List D)
  | [], acc, ρ => some (.ok acc ρ)
  | d :: ds, acc, ρ => match tg d (wipeS ρ vs) with
    | none => none
    | some ρ1 => match tt ρ1 with
      | some (.ok false ρ2) => lcI tg tt te vs ds acc (backS ρ ρ2 vs)
      | some (.ok true ρ2) => match (te >>= toV) ρ2 with
        | some (.ok e ρ3) => if acc.length < sizeLine then lcI tg tt te vs ds (acc ++ [e]) (backS ρ ρ3 vs) else none
        | _ => none
      | _ => none
def lcO (tg : D → List S → Option (List S)) (tt : M Bool) (it1 : M (List D)) (tg1 : D → List S → Option (List S)) (tt1 : M Bool) (te : M Rv) (vs vs1 : List Nat) : List D → List D → M (List D)
  | [], acc, ρ => some (.ok acc ρ)
  | d :: ds, acc, ρ => match tg d (wipeS ρ vs) with
    | none => none
    | some ρ1 => match tt ρ1 with
      | some (.ok false ρ2) => lcO tg tt it1 tg1 tt1 te vs vs1 ds acc (backS ρ ρ2 vs)
      | some (.ok true ρ2) => match it1 ρ2 with
        | some (.ok ds1 ρ3) => if noOwn ρ3 vs1 = true then (match lcI tg1 tt1 te vs1 ds1 acc ρ3 with
          | some (.ok acc' ρ4) => lcO tg tt it1 tg1 tt1 te vs vs1 ds acc' (backS ρ ρ4 vs)
          | _ => none) else none
        | _ => none
      | _ => none
def eLc2 (it : M (List D)) (tg : D → List S → Option (List S)) (tt : M Bool) (it1 : M (List D)) (tg1 : D → List S → Option (List S)) (tt1 : M Bool) (te : M Rv) (vs vs1 : List Nat) : M Rv := do
  let ds ← it
  let acc ← fun ρ => if noOwn ρ vs = true then lcO tg tt it1 tg1 tt1 te vs vs1 ds [] ρ else none
  pure (.own (.lst acc))
theorem lcO_ex {tg tg1 : D → List S → Option (List S)} {tt tt1 : M Bool} {it1 : M (List D)} {te : M Rv} {vs vs1 : List Nat} : ∀ {ds acc : List D} {ρ : List S} {o : Ot (List D)}, lcO tg tt it1 tg1 tt1 te vs vs1 ds acc ρ = some o → ∃ a ρ', o = .ok a ρ'
  | [], acc, ρ, o, h => by cases h; exact ⟨_, _, rfl⟩
  | d :: ds, acc, ρ, o, h => by
    unfold lcO at h
    split at h
    · cases h
    · split at h
      · exact lcO_ex h
      · split at h
        · split at h
          · split at h
            · exact lcO_ex h
            · cases h
          · cases h
        · cases h
      · cases h
section
variable {X : Cx} {W : WX} {elt tg iter tg1 iter1 : Expr} {ifs ifs1 : List Expr} {scope : Scope} {pos : Pos} {it it1 : M (List D)} {g g1 : D → List S → Option (List S)} {tt tt1 : M Bool} {te : M Rv} {ts ts1 : List Nat}
theorem tD_lc2 {own : List (Str × Nat)} {vs1 : List Nat} (hts : ∀ t ∈ ts, t ∈ own.map (·.2)) (hts1 : ∀ t ∈ ts1, t ∈ vs1) (hv : ∀ i ∈ vs1, i ∈ own.map (·.2)) {σ : L2.St} {H : Hp} {Q : VK} (h : tD X.K W (eLc2 it g tt it1 g1 tt1 te (own.map (·.2)) vs1) σ H Q) : tLc2 (tDI X.K W it) (tDG X.K ts g) (tDT X.K WX0 tt) (tDI X.K WX0 it1) (tDG X.K ts1 g1) (tDT X.K WX0 tt1) (tD X.K WX0 te) (own.map (·.2)) vs1 σ H Q := by
  obtain ⟨c, G, ρ, R, w⟩ := h
  refine ⟨c, G, ρ, R, wpM_mono (wpM_bind w) (fun ds ρ1 w1 J G1 H1 R1 s1 wk => ?_) fun _ _ x => x⟩
  have w2 := wpM_bind w1
  by_cases hn : noOwn ρ1 (own.map (·.2)) = true
  · rw [if_pos hn] at w2
    intro p hp
    have fp := R1.f_none hp
    cases e : lcO g tt it1 g1 tt1 te (own.map (·.2)) vs1 ds [] ρ1 with
    | none => rw [e] at w2; exact w2.elim
    | some o =>
      obtain ⟨out, ρe, rfl⟩ := lcO_ex e
      rw [e] at w2
      have w3 : ∀ (b : V) (G' H' : Hp), Rst X.K c G' H' σ ρe → Same G G' → RpR X.K c G' H' σ ρe b (.own (.lst out)) → Q b H' := w2
      refine ⟨fun i m H2 => m = ds.length - i ∧ i ≤ ds.length ∧ ∃ G2 ρ2 acc accV, Rst X.K (c.with p (.lst accV)) G2 H2 σ ρ2 ∧ Same G1 G2 ∧ RpL X.K G2 acc accV ∧ noOwn ρ2 (own.map (·.2)) = true ∧ lcO g tt it1 g1 tt1 te (own.map (·.2)) vs1 (ds.drop i) acc ρ2 = some (.ok out ρe),
        ⟨ds.length, by omega, Nat.zero_le _, G1, ρ1, [], [], (R1.laid hp).keep upd_same (R1.g_none hp) (fun b z => nomatch z) (R1.not_slot hp), Same.refl G1, rfl, hn, e⟩, ?_⟩
      rintro i m H2 ⟨hm, hi2, G2, ρ2, acc, accV, R2, s2, ka, hn2, e2⟩
      by_cases hlt : i < ds.length
      · refine .inr ⟨wk.go R2 s2 hlt, fun H' => i + 1 ≤ ds.length ∧ ∃ G' ρ' acc' accV', Rst X.K (c.with p (.lst accV')) G' H' σ ρ' ∧ Same G1 G' ∧ RpL X.K G' acc' accV' ∧ noOwn ρ' (own.map (·.2)) = true ∧ lcO g tt it1 g1 tt1 te (own.map (·.2)) vs1 (ds.drop (i + 1)) acc' ρ' = some (.ok out ρe),
          fun H' hN => ⟨ds.length - (i + 1), by omega, rfl, hN⟩, fun x H' hy => ?_⟩
        obtain ⟨d, G3, e1, R3, s3, k3⟩ := wk.yld R2 s2 hy hlt
        have hd : ds.drop i = d :: ds.drop (i + 1) := by
          rw [List.drop_eq_getElem_cons hlt]
          rw [List.getElem?_eq_getElem hlt] at e1
          rw [Option.some.inj e1]
        rw [hd] at e2
        unfold lcO at e2
        cases q : g d (wipeS ρ2 (own.map (·.2))) with
        | none => rw [q] at e2; cases e2
        | some ρ3 =>
          rw [q] at e2
          dsimp only at e2
          refine ⟨c.with p (.lst accV), G3, wipeS ρ2 (own.map (·.2)), d, ρ3, R3.wiped _, k3, q, fun σ3 R3' o3 => ?_⟩
          have hw := wipe_out o3 hts
          have hlen : ρ2.length = σ3.length := by
            have z := congrArg List.length hw
            rw [wipe_length, wipe_length] at z
            rw [R2.len, z]
          refine ⟨hw, ?_⟩
          refine ⟨c.with p (.lst accV), G3, ρ3, R3', exk0 ?_⟩
          cases q2 : tt ρ3 with
          | none => rw [q2] at e2; cases e2
          | some o4 =>
            cases o4 with
            | ex x ρ4 => rw [q2] at e2; cases e2
            | ok b ρ4 =>
              rw [q2] at e2
              refine ⟨b, ρ4, rfl, fun b' G4 H4 R4 s4 eb => ?_⟩
              obtain rfl : b' = b := eb
              cases b' with
              | false =>
                rw [if_neg Bool.false_ne_true]
                dsimp only at e2
                have hl4 : ρ2.length = ρ4.length := by rw [hlen, R4.len]
                exact ⟨by omega, G4, _, acc, accV, R2.backed (s3.trans s4) R4 hw hn2, (s2.trans s3).trans s4, ka.mono (s3.trans s4), noOwn_back hl4 hn2, e2⟩
              | true =>
                rw [if_pos rfl]
                dsimp only at e2
                refine ⟨c.with p (.lst accV), G4, ρ4, R4, exk0 ?_⟩
                cases q3 : it1 ρ4 with
                | none => rw [q3] at e2; cases e2
                | some o5 =>
                  cases o5 with
                  | ex x ρ5 => rw [q3] at e2; cases e2
                  | ok ds1 ρ5 =>
                    rw [q3] at e2
                    dsimp only at e2
                    refine ⟨ds1, ρ5, rfl, fun J1 G5 H5 R5 s5 wk1 => ?_⟩
                    by_cases hn5 : noOwn ρ5 vs1 = true
                    · rw [if_pos hn5] at e2
                      cases q5 : lcI g1 tt1 te vs1 ds1 acc ρ5 with
                      | none => rw [q5] at e2; cases e2
                      | some o6 =>
                        cases o6 with
                        | ex x ρ6 => rw [q5] at e2; cases e2
                        | ok acc' ρ6 =>
                          rw [q5] at e2
                          dsimp only at e2
                          have s35 := (s3.trans s4).trans s5
                          -- the inner walk
                          refine ⟨fun j k H7 => k = ds1.length - j ∧ j ≤ ds1.length ∧ ∃ G7 ρ7 ac acV, Rst X.K (c.with p (.lst acV)) G7 H7 σ3 ρ7 ∧ Same G5 G7 ∧ RpL X.K G7 ac acV ∧ noOwn ρ7 vs1 = true ∧ lcI g1 tt1 te vs1 (ds1.drop j) ac ρ7 = some (.ok acc' ρ6),
                            ⟨ds1.length, by omega, Nat.zero_le _, G5, ρ5, acc, accV, R5, Same.refl G5, ka.mono s35, hn5, q5⟩, ?_⟩
                          rintro j k H7 ⟨hk, hj2, G7, ρ7, ac, acV, R7, s7, ka7, hn7, e7⟩
                          by_cases hjl : j < ds1.length
                          · refine .inr ⟨wk1.go R7 s7 hjl, fun H' => j + 1 ≤ ds1.length ∧ ∃ G' ρ' ac' acV', Rst X.K (c.with p (.lst acV')) G' H' σ3 ρ' ∧ Same G5 G' ∧ RpL X.K G' ac' acV' ∧ noOwn ρ' vs1 = true ∧ lcI g1 tt1 te vs1 (ds1.drop (j + 1)) ac' ρ' = some (.ok acc' ρ6),
                              fun H' hN => ⟨ds1.length - (j + 1), by omega, rfl, hN⟩, fun x1 H8 hy1 => ?_⟩
                            obtain ⟨d1, G8, e8, R8, s8, k8⟩ := wk1.yld R7 s7 hy1 hjl
                            have hd1 : ds1.drop j = d1 :: ds1.drop (j + 1) := by
                              rw [List.drop_eq_getElem_cons hjl]
                              rw [List.getElem?_eq_getElem hjl] at e8
                              rw [Option.some.inj e8]
                            rw [hd1] at e7
                            unfold lcI at e7
                            cases q8 : g1 d1 (wipeS ρ7 vs1) with
                            | none => rw [q8] at e7; cases e7
                            | some ρ8 =>
                              rw [q8] at e7
                              dsimp only at e7
                              refine ⟨c.with p (.lst acV), G8, wipeS ρ7 vs1, d1, ρ8, R8.wiped _, k8, q8, fun σ8 R8' o8 => ?_⟩
                              have hw8 := wipe_out o8 hts1
                              have hlen8 : ρ7.length = σ8.length := by
                                have z := congrArg List.length hw8
                                rw [wipe_length, wipe_length] at z
                                rw [R7.len, z]
                              refine ⟨hw8, ?_⟩
                              refine ⟨c.with p (.lst acV), G8, ρ8, R8', exk0 ?_⟩
                              cases q9 : tt1 ρ8 with
                              | none => rw [q9] at e7; cases e7
                              | some o9 =>
                                cases o9 with
                                | ex x ρ9 => rw [q9] at e7; cases e7
                                | ok b9 ρ9 =>
                                  rw [q9] at e7
                                  refine ⟨b9, ρ9, rfl, fun b' G9 H9 R9 s9 eb => ?_⟩
                                  obtain rfl : b' = b9 := eb
                                  cases b' with
                                  | false =>
                                    rw [if_neg Bool.false_ne_true]
                                    dsimp only at e7
                                    have hl9 : ρ7.length = ρ9.length := by rw [hlen8, R9.len]
                                    exact ⟨by omega, G9, _, ac, acV, R7.backed (s8.trans s9) R9 hw8 hn7, (s7.trans s8).trans s9, ka7.mono (s8.trans s9), noOwn_back hl9 hn7, e7⟩
                                  | true =>
                                    rw [if_pos rfl]
                                    dsimp only at e7
                                    refine ⟨c.with p (.lst acV), G9, ρ9, R9, exk0 ?_⟩
                                    rw [bind_eq] at e7
                                    cases qa : te ρ9 with
                                    | none => rw [qa] at e7; cases e7
                                    | some oa =>
                                      cases oa with
                                      | ex x ρa => rw [qa] at e7; cases e7
                                      | ok r ρa =>
                                        rw [qa] at e7
                                        refine ⟨r, ρa, rfl, fun y Ga Ha Ra sa ky => ?_⟩
                                        dsimp only at e7
                                        have tw : wpM (toV r ρa) (fun z ρb => ac.length < sizeLine ∧ lcI g1 tt1 te vs1 (ds1.drop (j + 1)) (ac ++ [z]) (backS ρ7 ρb vs1) = some (.ok acc' ρ6)) (fun _ _ => False) := by
                                          cases qb : toV r ρa with
                                          | none => rw [qb] at e7; cases e7
                                          | some ob => cases ob with
                                            | ok z ρb =>
                                              rw [qb] at e7
                                              dsimp only at e7
                                              by_cases hc : ac.length < sizeLine
                                              · rw [if_pos hc] at e7; exact ⟨hc, e7⟩
                                              · rw [if_neg hc] at e7; cases e7
                                            | ex x ρb => rw [qb] at e7; cases e7
                                        obtain ⟨z, Gb, ρb, sb, Rb, kz, hacc, eb⟩ := toV_wp Ra ky tw
                                        have hlb : ρ7.length = ρb.length := by rw [hlen8, Rb.len]
                                        have sall := (s8.trans s9).trans (sa.trans sb)
                                        refine ⟨acV, Rb.fh _ _ upd_same, by rw [ka7.length]; exact hacc, by omega, Gb, _, ac ++ [z], acV ++ [y], ?_, s7.trans sall, (ka7.mono sall).append (RpL.one kz), noOwn_back hlb hn7, eb⟩
                                        exact (R7.backed sall Rb hw8 hn7).store fun b z => nomatch z
                          · have e0 : j = ds1.length := by omega
                            subst e0
                            rw [List.drop_length] at e7
                            cases e7
                            have hl7 : ρ2.length = ρ6.length := by rw [hlen, R7.len]
                            refine .inl ⟨wk1.stop R7 s7, by omega, G7, _, acc', acV, ?_, s2.trans (s35.trans s7), ka7, noOwn_back hl7 hn2, e2⟩
                            -- the state ahead of the turn, over the list as it stands now
                            have R2' : Rst X.K c G2 H2 σ ρ2 := R2.unkeep fp
                            exact R2.backed (s35.trans s7) R7 hw hn2
                    · rw [if_neg hn5] at e2; cases e2
      · have e0 : i = ds.length := by omega
        subst e0
        rw [List.drop_length] at e2
        cases e2
        have F2 : (c.with p (.lst accV)).F p = some (.lst accV) := upd_same
        refine .inl ⟨wk.stop R2 s2, w3 _ G2 H2 (R2.unkeep fp) (s1.trans s2) ⟨p, rfl, R2.fg _ _ F2, fp, ⟨accV, R2.fh _ _ F2, ka⟩, fun j e q z => ?_⟩⟩
        obtain ⟨a, h1, _, h3, _⟩ := R2.own j e q
        rw [z] at h1; cases h1
        rw [F2] at h3; cases h3
  · rw [if_neg hn] at w2; exact w2.elim
theorem de_lc2 (own : List (Str × Nat)) (vs1 : List Nat) (go : Go X W) (hi : DI X W tg iter it) (ok : BlkOk X.N X.env.scope scope own)
    (hg : ∀ (s : Shared) (H : Hp) (C : Addr) (cl : List (Str × Addr)) (fp : List Addr), DG (X.blk s H scope (compEnvC scope cl C X.env) fp) tg ts g) (ht : ∀ (s : Shared) (H : Hp) (C : Addr) (cl : List (Str × Addr)) (fp : List Addr), DTs (X.blk s H scope (compEnvC scope cl C X.env) fp) ifs tt)
    (hi1 : ∀ (s : Shared) (H : Hp) (C : Addr) (cl : List (Str × Addr)) (fp : List Addr), DI (X.blk s H scope (compEnvC scope cl C X.env) fp) WX0 tg1 iter1 it1)
    (hg1 : ∀ (s : Shared) (H : Hp) (C : Addr) (cl : List (Str × Addr)) (fp : List Addr), DG (X.blk s H scope (compEnvC scope cl C X.env) fp) tg1 ts1 g1) (ht1 : ∀ (s : Shared) (H : Hp) (C : Addr) (cl : List (Str × Addr)) (fp : List Addr), DTs (X.blk s H scope (compEnvC scope cl C X.env) fp) ifs1 tt1)
    (he : ∀ (s : Shared) (H : Hp) (C : Addr) (cl : List (Str × Addr)) (fp : List Addr), DE (X.blk s H scope (compEnvC scope cl C X.env) fp) WX0 elt te) (hts : ∀ t ∈ ts, t ∈ own.map (·.2) := by decide) (hts1 : ∀ t ∈ ts1, t ∈ vs1 := by decide) (hv : ∀ i ∈ vs1, i ∈ own.map (·.2) := by decide)
    (hs : ∀ x, foldedSetIterable iter X.env x = pure x := by intro _; rfl) (hs1 : ∀ env x, foldedSetIterable iter1 env x = pure x := by intro _ _; rfl) :
    DE X W (.ListComp elt [⟨tg, iter, ifs, 0⟩, ⟨tg1, iter1, ifs1, 0⟩] scope pos) (eLc2 it g tt it1 g1 tt1 te (own.map (·.2)) vs1) :=
  ⟨(pe_lc2 (g := tDG X.K ts g) (tt := tDT X.K WX0 tt) (wi1 := tDI X.K WX0 it1) (g1 := tDG X.K ts1 g1) (tt1 := tDT X.K WX0 tt1) (te := tD X.K WX0 te) go.calm go.nd hi.pi ok hv (fun s H C cl fp => (hg s H C cl fp).pg) (fun s H C cl fp => (ht s H C cl fp).pts) (fun s H C cl fp => (hi1 s H C cl fp).pi) (fun s H C cl fp => (hg1 s H C cl fp).pg) (fun s H C cl fp => (ht1 s H C cl fp).pts) (fun s H C cl fp => (he s H C cl fp).pe) hs hs1).weak fun _ _ _ h => tD_lc2 hts hts1 hv h⟩
theorem ds_setLc2 {np : Nat} {y : Str} {py spos : Pos} (i : Nat) (own : List (Str × Nat)) (vs1 : List Nat) (hy : X.N[i]? = some y) (hyl : X.env.scope.names.lookup y = some .local) (hk : X.env.scope.kind = .function) (hln : (py.line == pos.line) = true) (hnn : (scope.names.any fun (n, k) => n == y && (k == .local || k == .cell)) = false) (go : Go X W) (hi : DI X W tg iter it) (ok : BlkOk X.N X.env.scope scope own)
    (hg : ∀ (s : Shared) (H : Hp) (C : Addr) (cl : List (Str × Addr)) (fp : List Addr), DG (X.blk s H scope (compEnvC scope cl C X.env) fp) tg ts g) (ht : ∀ (s : Shared) (H : Hp) (C : Addr) (cl : List (Str × Addr)) (fp : List Addr), DTs (X.blk s H scope (compEnvC scope cl C X.env) fp) ifs tt)
    (hi1 : ∀ (s : Shared) (H : Hp) (C : Addr) (cl : List (Str × Addr)) (fp : List Addr), DI (X.blk s H scope (compEnvC scope cl C X.env) fp) WX0 tg1 iter1 it1)
    (hg1 : ∀ (s : Shared) (H : Hp) (C : Addr) (cl : List (Str × Addr)) (fp : List Addr), DG (X.blk s H scope (compEnvC scope cl C X.env) fp) tg1 ts1 g1) (ht1 : ∀ (s : Shared) (H : Hp) (C : Addr) (cl : List (Str × Addr)) (fp : List Addr), DTs (X.blk s H scope (compEnvC scope cl C X.env) fp) ifs1 tt1)
    (he : ∀ (s : Shared) (H : Hp) (C : Addr) (cl : List (Str × Addr)) (fp : List Addr), DE (X.blk s H scope (compEnvC scope cl C X.env) fp) WX0 elt te) (hts : ∀ t ∈ ts, t ∈ own.map (·.2) := by decide) (hts1 : ∀ t ∈ ts1, t ∈ vs1 := by decide) (hv : ∀ i ∈ vs1, i ∈ own.map (·.2) := by decide)
    (hs : ∀ x, foldedSetIterable iter X.env x = pure x := by intro _; rfl) (hs1 : ∀ env x, foldedSetIterable iter1 env x = pure x := by intro _ _; rfl) :
    DS X W np (.Assign [.Name y py] (.ListComp elt [⟨tg, iter, ifs, 0⟩, ⟨tg1, iter1, ifs1, 0⟩] scope pos) spos) (sSet np i (eLc2 it g tt it1 g1 tt1 te (own.map (·.2)) vs1)) :=
  ⟨(ps_setLc2 (g := tDG X.K ts g) (tt := tDT X.K WX0 tt) (wi1 := tDI X.K WX0 it1) (g1 := tDG X.K ts1 g1) (tt1 := tDT X.K WX0 tt1) (te := tD X.K WX0 te) go.calm go.nd hy hyl (sw_true hk hyl hln hnn) hi.pi ok hv (fun s H C cl fp => (hg s H C cl fp).pg) (fun s H C cl fp => (ht s H C cl fp).pts) (fun s H C cl fp => (hi1 s H C cl fp).pi) (fun s H C cl fp => (hg1 s H C cl fp).pg) (fun s H C cl fp => (ht1 s H C cl fp).pts) (fun s H C cl fp => (he s H C cl fp).pe) hs hs1).weak fun Dn σ H h => tD_lc2 hts hts1 hv (tS_set i h)⟩
end
end Dl

/-! Dl9: defs: a body's promise, calls. -/
namespace Dl
open PySem L2

inductive Of where
  | ret (r : Rv) (ss : List S) | ex (e : Xn) (ss : List S)
abbrev Fn : Type := List S → Option Of
def FPo (K : PySem.W.Frag) (c : Cn) (vs : List V) (G : Hp) (Q : VK) (E : XK) : Of → Prop
  | .ret r ss' => ∀ v G' H', Rst K c G' H' (vs.map some) ss' → Same G G' → RpR K c G' H' (vs.map some) ss' v r → Q v H'
  | .ex e ss' => ∀ cls d G' H', Rst K c G' H' (vs.map some) ss' → Same G G' → XAt K G' H' e cls d → E cls d H'
def spD (K : PySem.W.Frag) (np : Nat) (fn : Fn) : Sp := fun vs H Q E => ∃ c G ss o, vs.length = np ∧ c.s0 = vs.map some ∧ Rst K c G H (vs.map some) ss ∧ fn ss = some o ∧ FPo K c vs G Q E o
/-- the arguments behind a run: what is the frame's own and still there -/
def post : List S → List S → List S
  | [], _ => []
  | .own _ :: ss, .own d :: ρ => .own d :: post ss ρ
  | .own _ :: ss, _ :: ρ => .no :: post ss ρ
  | s :: ss, _ :: ρ => s :: post ss ρ
  | _ :: ss, [] => .no :: post ss []
def mkFn (np n : Nat) (f : MS) : Fn := fun ss => if ss.length = np then
    match f (ss ++ List.replicate (n - np) .no) with
    | some (.nx ρ') => some (.ret (.val .non) (post ss ρ'))
    | some (.rt (.ali _) _) => none
    | some (.rt r ρ') => some (.ret r (post ss ρ'))
    | some (.ex e ρ') => some (.ex e (post ss ρ'))
    | _ => none
  else none
theorem post_length : ∀ (ss ρ : List S), (post ss ρ).length = ss.length
  | [], _ => rfl
  | .own _ :: ss, .own d :: ρ => by unfold post; rw [List.length_cons, List.length_cons, post_length ss ρ]
  | .own _ :: ss, .no :: ρ => by unfold post; rw [List.length_cons, List.length_cons, post_length ss ρ]
  | .own _ :: ss, .val _ :: ρ => by unfold post; rw [List.length_cons, List.length_cons, post_length ss ρ]
  | .no :: ss, _ :: ρ => by unfold post; rw [List.length_cons, List.length_cons, post_length ss ρ]
  | .val _ :: ss, _ :: ρ => by unfold post; rw [List.length_cons, List.length_cons, post_length ss ρ]
  | .own _ :: ss, [] => by unfold post; rw [List.length_cons, List.length_cons, post_length ss []]
  | .no :: ss, [] => by unfold post; rw [List.length_cons, List.length_cons, post_length ss []]
  | .val _ :: ss, [] => by unfold post; rw [List.length_cons, List.length_cons, post_length ss []]
theorem post_own : ∀ {ss ρ : List S} {i : Nat} {d : D}, (post ss ρ)[i]? = some (.own d) → ρ[i]? = some (.own d) ∧ i < ss.length
  | [], _, _, _, h => by unfold post at h; cases h
  | .own _ :: ss, .own e :: ρ, 0, d, h => by unfold post at h; exact ⟨h, Nat.succ_pos _⟩
  | .own _ :: ss, .own e :: ρ, i + 1, d, h => by unfold post at h; obtain ⟨h1, h2⟩ := post_own (show (post ss ρ)[i]? = _ from h); exact ⟨h1, Nat.succ_lt_succ h2⟩
  | .own _ :: ss, .no :: ρ, 0, d, h => by unfold post at h; cases h
  | .own _ :: ss, .no :: ρ, i + 1, d, h => by unfold post at h; obtain ⟨h1, h2⟩ := post_own (show (post ss ρ)[i]? = _ from h); exact ⟨h1, Nat.succ_lt_succ h2⟩
  | .own _ :: ss, .val _ :: ρ, 0, d, h => by unfold post at h; cases h
  | .own _ :: ss, .val _ :: ρ, i + 1, d, h => by unfold post at h; obtain ⟨h1, h2⟩ := post_own (show (post ss ρ)[i]? = _ from h); exact ⟨h1, Nat.succ_lt_succ h2⟩
  | .no :: ss, _ :: ρ, 0, d, h => by unfold post at h; cases h
  | .no :: ss, _ :: ρ, i + 1, d, h => by unfold post at h; obtain ⟨h1, h2⟩ := post_own (show (post ss ρ)[i]? = _ from h); exact ⟨h1, Nat.succ_lt_succ h2⟩
  | .val _ :: ss, _ :: ρ, 0, d, h => by unfold post at h; cases h
  | .val _ :: ss, _ :: ρ, i + 1, d, h => by unfold post at h; obtain ⟨h1, h2⟩ := post_own (show (post ss ρ)[i]? = _ from h); exact ⟨h1, Nat.succ_lt_succ h2⟩
  | .own _ :: ss, [], 0, d, h => by unfold post at h; cases h
  | .own _ :: ss, [], i + 1, d, h => by unfold post at h; obtain ⟨h1, h2⟩ := post_own (show (post ss [])[i]? = _ from h); cases h1
  | .no :: ss, [], 0, d, h => by unfold post at h; cases h
  | .no :: ss, [], i + 1, d, h => by unfold post at h; obtain ⟨h1, h2⟩ := post_own (show (post ss [])[i]? = _ from h); cases h1
  | .val _ :: ss, [], 0, d, h => by unfold post at h; cases h
  | .val _ :: ss, [], i + 1, d, h => by unfold post at h; obtain ⟨h1, h2⟩ := post_own (show (post ss [])[i]? = _ from h); cases h1
theorem post_val : ∀ {ss ρ : List S} {i : Nat} {d : D}, (post ss ρ)[i]? = some (.val d) → ss[i]? = some (.val d)
  | [], _, _, _, h => by unfold post at h; cases h
  | .own _ :: ss, .own e :: ρ, 0, d, h => by unfold post at h; cases h
  | .own _ :: ss, .own e :: ρ, i + 1, d, h => by unfold post at h; show ss[i]? = _; exact post_val (show (post ss ρ)[i]? = _ from h)
  | .own _ :: ss, .no :: ρ, 0, d, h => by unfold post at h; cases h
  | .own _ :: ss, .no :: ρ, i + 1, d, h => by unfold post at h; show ss[i]? = _; exact post_val (show (post ss ρ)[i]? = _ from h)
  | .own _ :: ss, .val _ :: ρ, 0, d, h => by unfold post at h; cases h
  | .own _ :: ss, .val _ :: ρ, i + 1, d, h => by unfold post at h; show ss[i]? = _; exact post_val (show (post ss ρ)[i]? = _ from h)
  | .no :: ss, _ :: ρ, 0, d, h => by unfold post at h; cases h
  | .no :: ss, _ :: ρ, i + 1, d, h => by unfold post at h; show ss[i]? = _; exact post_val (show (post ss ρ)[i]? = _ from h)
  | .val _ :: ss, _ :: ρ, 0, d, h => by unfold post at h; exact h
  | .val _ :: ss, _ :: ρ, i + 1, d, h => by unfold post at h; show ss[i]? = _; exact post_val (show (post ss ρ)[i]? = _ from h)
  | .own _ :: ss, [], 0, d, h => by unfold post at h; cases h
  | .own _ :: ss, [], i + 1, d, h => by unfold post at h; show ss[i]? = _; exact post_val (show (post ss [])[i]? = _ from h)
  | .no :: ss, [], 0, d, h => by unfold post at h; cases h
  | .no :: ss, [], i + 1, d, h => by unfold post at h; show ss[i]? = _; exact post_val (show (post ss [])[i]? = _ from h)
  | .val _ :: ss, [], 0, d, h => by unfold post at h; cases h
  | .val _ :: ss, [], i + 1, d, h => by unfold post at h; show ss[i]? = _; exact post_val (show (post ss [])[i]? = _ from h)
section
variable {K : PySem.W.Frag} {c : Cn} {G G' H H' : Hp} {σ σ' : L2.St} {ρ ρ' ss : List S} {vs : List V}
theorem Rst.ext (R : Rst K c G H σ ρ) (k : Nat) : Rst K c G H (σ ++ List.replicate k none) (ρ ++ List.replicate k .no) := by
  have get : ∀ {j : Nat} {s : S}, (ρ ++ List.replicate k .no)[j]? = some s → s ≠ .no → ρ[j]? = some s ∧ (σ ++ List.replicate k none)[j]? = σ[j]? := fun {j s} h n => by
    by_cases hj : j < ρ.length
    · rw [List.getElem?_append_left hj] at h
      exact ⟨h, List.getElem?_append_left (R.len ▸ hj)⟩
    · rw [List.getElem?_append_right (by omega), List.getElem?_replicate] at h
      split at h
      · exact absurd (Option.some.inj h).symm n
      · cases h
  refine ⟨R.fh, R.gh, R.fg, by rw [List.length_append, List.length_append, List.length_replicate, List.length_replicate, R.len], fun j d h => ?_, fun j d h => ?_, fun j i d e a h1 h2 r1 r2 => ?_, fun j d h hl => ?_⟩
  · obtain ⟨h1, h2⟩ := get h (by intro z; cases z)
    rw [h2]; exact R.val j d h1
  · obtain ⟨h1, h2⟩ := get h (by intro z; cases z)
    rw [h2]; exact R.own j d h1
  · obtain ⟨k1, k2⟩ := get h1 (by intro z; cases z)
    obtain ⟨k3, k4⟩ := get h2 (by intro z; cases z)
    rw [k2] at r1
    rw [k4] at r2
    exact R.ne j i d e a k1 k3 r1 r2
  · obtain ⟨h1, h2⟩ := get h (by intro z; cases z)
    rw [h2]; exact R.par j d h1 hl
theorem Rst.posted (R0 : Rst K c G H (vs.map some) ss) (hs : c.s0 = vs.map some) (s : Same G G') (R : Rst K c G' H' σ' ρ') : Rst K c G' H' (vs.map some) (post ss ρ') := by
  have hlen : ss.length = vs.length := by rw [R0.len, List.length_map]
  have sl : c.s0.length = vs.length := by rw [hs, List.length_map]
  have same : ∀ {j : Nat} {d : D}, (post ss ρ')[j]? = some (.own d) → ρ'[j]? = some (.own d) ∧ σ'[j]? = (vs.map some)[j]? := fun {j d} h => by
    obtain ⟨h1, h2⟩ := post_own h
    exact ⟨h1, by rw [R.par j d h1 (by omega), hs]⟩
  refine ⟨R.fh, R.gh, R.fg, by rw [post_length, R0.len], fun j d h => ?_, fun j d h => ?_, fun j i d e a h1 h2 r1 r2 => ?_, fun j d h hl => by rw [hs]⟩
  · obtain ⟨v, h1, h2⟩ := R0.val j d (post_val h)
    exact ⟨v, h1, h2.mono s⟩
  · obtain ⟨h1, h2⟩ := same h
    rw [← h2]; exact R.own j d h1
  · obtain ⟨k1, k2⟩ := same h1
    obtain ⟨k3, k4⟩ := same h2
    rw [← k2] at r1
    rw [← k4] at r2
    exact R.ne j i d e a k1 k3 r1 r2
theorem RpR.posted {v : V} {r : Rv} (R0 : Rst K c G H (vs.map some) ss) (hs : c.s0 = vs.map some) (R : Rst K c G' H' σ' ρ') (na : ∀ i, r ≠ .ali i) (h : RpR K c G' H' σ' ρ' v r) : RpR K c G' H' (vs.map some) (post ss ρ') v r := by
  cases r with
  | val d => exact h
  | ali i => exact absurd rfl (na i)
  | own d =>
    obtain ⟨a, h1, h2, h3, h4, h5⟩ := h
    refine ⟨a, h1, h2, h3, h4, fun j e q z => ?_⟩
    obtain ⟨k1, k2⟩ := post_own q
    have hlen : ss.length = vs.length := by rw [R0.len, List.length_map]
    have sl : c.s0.length = vs.length := by rw [hs, List.length_map]
    refine h5 j e k1 ?_
    rw [R.par j e k1 (by omega), hs]; exact z
end
/-- where exceptions of a def's body go -/
abbrev WB (E : XK) : WX := fun cls d _ H => E cls d H
section
variable {P : Program} {w : World} {K : PySem.W.Frag} {mg : Str → Option Value} {base : Heap} {x qual : Str} {params : Arguments} {body : List Stmt} {scope : Scope} {dvs : List V} {kws : List (Str × V)} {f : Addr} {fd : FuncData}
/-- THE RULE for a def -/
theorem fn_data {N ps : List Str} {k : Nat} {fb : MS} (F : FunD K x qual params body scope dvs kws f fd) (S : FnScope N ps scope)
    (hb : ∀ (cdv : Value) (A : Around) (outer : List Env) (s : Shared) (H : Hp) (E : XK), Room k (A.deeper (PyProof.Rows.envOfC qual scope s.heap.objs.size f cdv)) → DL (cxOf (L2.CX P w) P w K mg base N qual scope f cdv A outer s H E) (WB E) ps.length body fb) :
    FnOk P w K mg base (L2.CX P w) (k + 1) f fd ps (spD K ps.length (mkFn ps.length N.length fb)) := by
  refine F.ok S (fun vs H Q E h => ?_) fun cdv A outer s H vs Q E hr h => ⟨_, (hb cdv A outer s H E hr).pss, ?_⟩
  · obtain ⟨c, G, ss, o, hl, _⟩ := h
    exact hl
  · obtain ⟨c, G, ss, o, hl, hs, R, e, po⟩ := h
    unfold mkFn at e
    have hsl : ss.length = ps.length := by rw [R.len, List.length_map, hl]
    rw [if_pos hsl] at e
    have R1 := R.ext (N.length - ps.length)
    have est : L2.start N vs = vs.map some ++ List.replicate (N.length - ps.length) none := by unfold L2.start; rw [hl]
    rw [est]
    cases q : fb (ss ++ List.replicate (N.length - ps.length) .no) with
    | none => rw [q] at e; cases e
    | some os =>
      rw [q] at e
      refine ⟨c, G, _, os, by rw [hs, List.length_map, hl], R1, q, ?_⟩
      cases os with
      | nx ρ' =>
        cases e
        exact fun σ' G' H' R' s' => po .non G' H' (R.posted hs s' R') s' rfl
      | bk ρ' => cases e
      | ct ρ' => cases e
      | rt r ρ' =>
        cases r with
        | ali i => cases e
        | val d => cases e; exact fun v σ' G' H' R' s' k => po v G' H' (R.posted hs s' R') s' (RpR.posted R hs R' (fun i z => nomatch z) k)
        | own d => cases e; exact fun v σ' G' H' R' s' k => po v G' H' (R.posted hs s' R') s' (RpR.posted R hs R' (fun i z => nomatch z) k)
      | ex x ρ' => cases e; exact fun cls d σ' G' H' R' s' xa => po cls d G' H' (R.posted hs s' R') s' xa
/-- a frame of a def lets its exceptions out as it is wished -/
theorem go_def {CX : CXT} {N : List Str} {k : Nat} {cdv : Value} {A : Around} {outer : List Env} {s : Shared} {H : Hp} {E : XK} (hN : N.Nodup) (hr : Room k (A.deeper (PyProof.Rows.envOfC qual scope s.heap.objs.size f cdv))) :
    Go (cxOf (L2.CX P w) P w K mg base N qual scope f cdv A outer s H E) (WB E) :=
  ⟨takes_of rfl rfl rfl rfl, passes_of rfl, rfl, hN, by have h := hr.un; show (A.deeper (PyProof.Rows.envOfC qual scope s.heap.objs.size f cdv)).units + 65 < cLine; omega⟩
end
theorem Go.blk {X : Cx} {W : WX} (go : Go X W) {s : Shared} {H : Hp} {scope : Scope} {C : Addr} {cl : List (Str × Addr)} {fp : List Addr} : Go (X.blk s H scope (compEnvC scope cl C X.env) fp) WX0 :=
  ⟨takes0, PassesOwn.never, go.calm, go.nd, go.rm⟩
end Dl

/-! Dl10: calls of own defs. -/
namespace Dl
open PySem L2

/-- the arguments ahead of a call: what the callee does not change is kept as a value -/
def prep : List Bool → List Rv → M (List Rv)
  | _, [] => pure []
  | true :: ms, r :: rs => do
    let rs' ← prep ms rs
    pure (r :: rs')
  | ms, r :: rs => do
    let d ← toV r
    let rs' ← prep ms.tail rs
    pure (.val d :: rs')
def ssOf (ρ : List S) : Rv → Option S
  | .val d => some (.val d)
  | .ali i => match ρ[i]? with
    | some (.val d) => some (.val d)
    | some (.own d) => some (.own d)
    | _ => none
  | .own _ => none
def ssOfs (ρ : List S) : List Rv → Option (List S)
  | [] => some []
  | r :: rs => match ssOf ρ r, ssOfs ρ rs with
    | some s, some ss => some (s :: ss)
    | _, _ => none
def isAli (i : Nat) : Rv → Bool
  | .ali j => i == j
  | _ => false
def dist : List Rv → Bool
  | [] => true
  | .ali i :: rs => !rs.any (isAli i) && dist rs
  | _ :: rs => dist rs
def noAli : List Rv → Bool
  | [] => true
  | .ali _ :: _ => false
  | _ :: rs => noAli rs
def ownOr (s : S) : S := match s with
  | .own d => .own d
  | _ => .no
def back1 (i : Nat) (s : S) (ρ : List S) : List S := if isOwn ρ[i]? = true then ρ.set i (ownOr s) else ρ
def back : List Rv → List S → List S → List S
  | .ali i :: rs, s :: ss, ρ => back rs ss (back1 i s ρ)
  | .val _ :: rs, _ :: ss, ρ => back rs ss ρ
  | .own _ :: rs, _ :: ss, ρ => back rs ss ρ
  | _, _, ρ => ρ
def scaD : D → Bool
  | .non => true
  | .bl _ => true
  | .int _ => true
  | .str _ => true
  | _ => false
def scaR : Rv → Bool
  | .val d => scaD d
  | _ => false
def callM (mu : List Bool) (fn : Fn) (rs : List Rv) : M Rv := fun ρ => match prep mu rs ρ with
  | some (.ok rs' ρ1) => if dist rs' = true then (match ssOfs ρ1 rs' with
    | some ss => (match fn ss with
      | some (.ret q ss') => if (noAli rs' && scaR q) = true then some (.ok q ρ) else (match q with
        | .ali _ => none
        | q => some (.ok q (back rs' ss' ρ1)))
      | some (.ex e ss') => some (.ex e (back rs' ss' ρ1))
      | none => none)
    | none => none) else none
  | _ => none

section
variable {K : PySem.W.Frag} {c : Cn} {G G' H H' : Hp} {σ : L2.St} {ρ ρ' ss ss' : List S} {vs : List V} {rs : List Rv}
theorem prep_wp : ∀ {ms : List Bool} {rs : List Rv} {vs : List V} {G : Hp} {ρ : List S} {OK : List Rv → List S → Prop} {EX : Xn → List S → Prop}, Rst K c G H σ ρ → RpRs K G σ vs rs → wpM (prep ms rs ρ) OK EX →
    ∃ rs' G' ρ', Same G G' ∧ Rst K c G' H σ ρ' ∧ RpRs K G' σ vs rs' ∧ OK rs' ρ'
  | ms, [], vs, G, ρ, OK, EX, R, h, w => by
    have w : wpM ((pure [] : M (List Rv)) ρ) OK EX := by cases ms <;> first | exact w | (rename_i b _; cases b <;> exact w)
    exact ⟨[], G, ρ, Same.refl G, R, h, w⟩
  | true :: ms, r :: rs, vs, G, ρ, OK, EX, R, h, w => by
    obtain ⟨v, vs', rfl, h1, h2⟩ := h.cons_of
    obtain ⟨rs', G', ρ', s, R', k, w2⟩ := prep_wp R h2 (wpM_bind w)
    exact ⟨r :: rs', G', ρ', s, R', RpRs.cons (h1.mono s) k, w2⟩
  | false :: ms, r :: rs, vs, G, ρ, OK, EX, R, h, w => by
    obtain ⟨v, vs', rfl, h1, h2⟩ := h.cons_of
    obtain ⟨d, G1, ρ1, s1, R1, k1, w1⟩ := toV_wp R h1.one (wpM_bind w)
    obtain ⟨rs', G', ρ', s, R', k, w2⟩ := prep_wp R1 (h2.mono s1) (wpM_bind w1)
    exact ⟨.val d :: rs', G', ρ', s1.trans s, R', ⟨k1.mono s, k⟩, w2⟩
  | [], r :: rs, vs, G, ρ, OK, EX, R, h, w => by
    obtain ⟨v, vs', rfl, h1, h2⟩ := h.cons_of
    obtain ⟨d, G1, ρ1, s1, R1, k1, w1⟩ := toV_wp R h1.one (wpM_bind w)
    obtain ⟨rs', G', ρ', s, R', k, w2⟩ := prep_wp (ms := []) R1 (h2.mono s1) (wpM_bind w1)
    exact ⟨.val d :: rs', G', ρ', s1.trans s, R', ⟨k1.mono s, k⟩, w2⟩
/-- the arguments one by one -/
theorem dargs_get : ∀ {rs : List Rv} {vs : List V} {ss : List S}, RpRs K G σ vs rs → ssOfs ρ rs = some ss → ss.length = vs.length ∧ rs.length = vs.length ∧ ∀ (j : Nat) (v : V), vs[j]? = some v →
    ∃ r s, rs[j]? = some r ∧ ss[j]? = some s ∧ ssOf ρ r = some s ∧ RpRs K G σ [v] [r]
  | [], vs, ss, h, e => by
    have e1 := h.nil_of
    subst e1
    cases e
    exact ⟨rfl, rfl, fun j v z => by cases z⟩
  | r :: rs, vs, ss, h, e => by
    obtain ⟨v, vs', rfl, h1, h2⟩ := h.cons_of
    unfold ssOfs at e
    cases e1 : ssOf ρ r with
    | none => rw [e1] at e; cases e
    | some s =>
      cases e2 : ssOfs ρ rs with
      | none => rw [e1, e2] at e; cases e
      | some ss2 =>
        rw [e1, e2] at e
        cases e
        obtain ⟨l1, l2, k⟩ := dargs_get h2 e2
        refine ⟨by rw [List.length_cons, List.length_cons, l1], by rw [List.length_cons, List.length_cons, l2], fun j u z => ?_⟩
        cases j with
        | zero => cases z; exact ⟨r, s, rfl, rfl, e1, h1⟩
        | succ j => exact k j u z
theorem dist_ne : ∀ {rs : List Rv} {i j k : Nat}, dist rs = true → rs[j]? = some (.ali i) → rs[k]? = some (.ali i) → j = k
  | [], _, _, _, _, h, _ => by cases h
  | r :: rs, i, 0, 0, _, _, _ => rfl
  | r :: rs, i, 0, k + 1, d, h, h' => by
    cases h
    obtain ⟨d1, _⟩ := Bool.and_eq_true_iff.mp (show (!rs.any (isAli i) && dist rs) = true from d)
    exfalso
    have hm : Rv.ali i ∈ rs := List.mem_of_getElem? (show rs[k]? = _ from h')
    have : rs.any (isAli i) = true := List.any_eq_true.mpr ⟨_, hm, by simp [isAli]⟩
    rw [this] at d1; cases d1
  | r :: rs, i, j + 1, 0, d, h, h' => by
    cases h'
    obtain ⟨d1, _⟩ := Bool.and_eq_true_iff.mp (show (!rs.any (isAli i) && dist rs) = true from d)
    exfalso
    have hm : Rv.ali i ∈ rs := List.mem_of_getElem? (show rs[j]? = _ from h)
    have : rs.any (isAli i) = true := List.any_eq_true.mpr ⟨_, hm, by simp [isAli]⟩
    rw [this] at d1; cases d1
  | r :: rs, i, j + 1, k + 1, d, h, h' => by
    have d2 : dist rs = true := by
      cases r with
      | ali n => exact (Bool.and_eq_true_iff.mp (show (!rs.any (isAli n) && dist rs) = true from d)).2
      | val n => exact d
      | own n => exact d
    rw [dist_ne d2 (show rs[j]? = _ from h) (show rs[k]? = _ from h')]
theorem noAli_not : ∀ {rs : List Rv} {i j : Nat}, noAli rs = true → rs[j]? ≠ some (.ali i)
  | [], _, _, _, h => by cases h
  | .ali n :: rs, _, _, d, _ => by cases d
  | .val n :: rs, i, 0, d, h => by cases h
  | .val n :: rs, i, j + 1, d, h => noAli_not (show noAli rs = true from d) (show rs[j]? = _ from h)
  | .own n :: rs, i, 0, d, h => by cases h
  | .own n :: rs, i, j + 1, d, h => noAli_not (show noAli rs = true from d) (show rs[j]? = _ from h)
/-- what a slot holds behind the call -/
theorem back1_get {i : Nat} {s : S} {k : Nat} {t : S} (h : (back1 i s ρ)[k]? = some t) : (k ≠ i ∧ ρ[k]? = some t) ∨ (k = i ∧ isOwn ρ[i]? = true ∧ (t = .no ∨ ∃ d : D, t = .own d ∧ s = .own d)) ∨ (k = i ∧ isOwn ρ[i]? = false ∧ ρ[k]? = some t) := by
  unfold back1 at h
  split at h
  · rename_i ho
    rcases set_cases h with ⟨e1, _, e2⟩ | ⟨e1, e2⟩
    · refine .inr (.inl ⟨e1, ho, ?_⟩)
      cases s with
      | own d => exact .inr ⟨d, e2, rfl⟩
      | no => exact .inl e2
      | val d => exact .inl e2
    · exact .inl ⟨e1, e2⟩
  · rename_i ho
    by_cases hk : k = i
    · exact .inr (.inr ⟨hk, by simpa using ho, h⟩)
    · exact .inl ⟨hk, h⟩
theorem back1_length {i : Nat} {s : S} : (back1 i s ρ).length = ρ.length := by
  unfold back1
  split
  · rw [List.length_set]
  · rfl
theorem back_length : ∀ {rs : List Rv} {ss ρ : List S}, (back rs ss ρ).length = ρ.length
  | .ali i :: rs, s :: ss, ρ => by unfold back; rw [back_length, back1_length]
  | .val _ :: rs, _ :: ss, ρ => by unfold back; exact back_length
  | .own _ :: rs, _ :: ss, ρ => by unfold back; exact back_length
  | [], _, ρ => rfl
  | .ali i :: rs, [], ρ => rfl
  | .val _ :: rs, [], ρ => rfl
  | .own _ :: rs, [], ρ => rfl
/-- a value behind the call stood ahead of it; an own object was there, or came back at its argument -/
theorem back_get : ∀ {rs : List Rv} {ss ρ : List S} {k : Nat} {t : S}, (back rs ss ρ)[k]? = some t → t ≠ .no →
    (ρ[k]? = some t ∧ ((∃ d, t = .val d) ∨ ∀ j : Nat, j < ss.length → rs[j]? ≠ some (.ali k))) ∨ ∃ (j : Nat) (d : D), t = .own d ∧ rs[j]? = some (.ali k) ∧ ss[j]? = some (.own d) ∧ ∃ e, ρ[k]? = some (.own e)
  | .ali i :: rs, s :: ss, ρ, k, t, h, n => by
    unfold back at h
    rcases back_get h n with ⟨h1, h2⟩ | ⟨j, d, h1, h2, h3, e, h4⟩
    · rcases back1_get h1 with ⟨hk, h3⟩ | ⟨hk, ho, h3⟩ | ⟨hk, ho, h3⟩
      · refine .inl ⟨h3, ?_⟩
        rcases h2 with h2 | h2
        · exact .inl h2
        · refine .inr fun j hj z => ?_
          cases j with
          | zero => cases z; exact hk rfl
          | succ j => exact h2 j (Nat.lt_of_succ_lt_succ hj) z
      · rcases h3 with h3 | ⟨d, h3, h4⟩
        · exact absurd h3 n
        · subst hk
          refine .inr ⟨0, d, h3, rfl, by rw [h4]; rfl, ?_⟩
          cases q : ρ[k]? with
          | none => rw [q] at ho; cases ho
          | some x => rw [q] at ho; cases x with
            | own e => exact ⟨e, rfl⟩
            | no => cases ho
            | val e => cases ho
      · refine .inl ⟨h3, .inl ?_⟩
        subst hk
        cases t with
        | val d => exact ⟨d, rfl⟩
        | no => exact absurd rfl n
        | own d => rw [h3] at ho; cases ho
    · refine .inr ⟨j + 1, d, h1, h2, h3, ?_⟩
      rcases back1_get h4 with ⟨hk, h5⟩ | ⟨hk, ho, h5⟩ | ⟨hk, ho, h5⟩
      · exact ⟨e, h5⟩
      · subst hk
        cases q : ρ[k]? with
        | none => rw [q] at ho; cases ho
        | some x => rw [q] at ho; cases x with
          | own e => exact ⟨e, rfl⟩
          | no => cases ho
          | val e => cases ho
      · exact ⟨e, h5⟩
  | .val _ :: rs, _ :: ss, ρ, k, t, h, n => by
    unfold back at h
    rcases back_get h n with ⟨h1, h2⟩ | ⟨j, d, h1, h2, h3, h4⟩
    · refine .inl ⟨h1, ?_⟩
      rcases h2 with h2 | h2
      · exact .inl h2
      · refine .inr fun j hj z => ?_
        cases j with
        | zero => cases z
        | succ j => exact h2 j (Nat.lt_of_succ_lt_succ hj) z
    · exact .inr ⟨j + 1, d, h1, h2, h3, h4⟩
  | .own _ :: rs, _ :: ss, ρ, k, t, h, n => by
    unfold back at h
    rcases back_get h n with ⟨h1, h2⟩ | ⟨j, d, h1, h2, h3, h4⟩
    · refine .inl ⟨h1, ?_⟩
      rcases h2 with h2 | h2
      · exact .inl h2
      · refine .inr fun j hj z => ?_
        cases j with
        | zero => cases z
        | succ j => exact h2 j (Nat.lt_of_succ_lt_succ hj) z
    · exact .inr ⟨j + 1, d, h1, h2, h3, h4⟩
  | [], ss, ρ, k, t, h, n => .inl ⟨h, .inr fun j _ z => by cases z⟩
  | .ali i :: rs, [], ρ, k, t, h, n => .inl ⟨h, .inr fun j hj => absurd hj (Nat.not_lt_zero _)⟩
  | .val i :: rs, [], ρ, k, t, h, n => .inl ⟨h, .inr fun j hj => absurd hj (Nat.not_lt_zero _)⟩
  | .own i :: rs, [], ρ, k, t, h, n => .inl ⟨h, .inr fun j hj => absurd hj (Nat.not_lt_zero _)⟩

/-- what is handed to the callee to be changed -/
def Handed (σ : L2.St) (ρ : List S) (H : Hp) (rs : List Rv) (x : Addr) : Prop := ∃ (j i : Nat) (d : D) (a : Addr), rs[j]? = some (.ali i) ∧ ρ[i]? = some (.own d) ∧ σ[i]? = some (some (.ref a)) ∧ (x = a ∨ ∃ C fs, H a = some (.ins C x fs))
open Classical in
/-- the callee's others: all that is neither ground nor handed -/
noncomputable def calleeF (σ : L2.St) (ρ : List S) (G H : Hp) (rs : List Rv) : Hp := fun x => if (∃ o, G x = some o) ∨ Handed σ ρ H rs x then none else H x
theorem calleeF_some {x : Addr} {o : HO} (h : calleeF σ ρ G H rs x = some o) : G x = none ∧ ¬ Handed σ ρ H rs x ∧ H x = some o := by
  unfold calleeF at h
  split at h
  · cases h
  · rename_i hn
    refine ⟨?_, fun z => hn (.inr z), h⟩
    cases q : G x with
    | none => rfl
    | some u => exact absurd (.inl ⟨u, q⟩) hn
theorem calleeF_of {x : Addr} {o : HO} (h1 : G x = none) (h2 : ¬ Handed σ ρ H rs x) (h3 : H x = some o) : calleeF σ ρ G H rs x = some o := by
  unfold calleeF
  rw [if_neg (fun z => by
    rcases z with ⟨u, z⟩ | z
    · rw [h1] at z; cases z
    · exact h2 z)]
  exact h3
theorem handed_f (R : Rst K c G H σ ρ) {x : Addr} (h : Handed σ ρ H rs x) : c.F x = none := by
  obtain ⟨j, i, d, a, h1, h2, h3, h4⟩ := h
  obtain ⟨a', k1, k2, k3, k4⟩ := R.own i d h2
  rw [h3] at k1; cases k1
  rcases h4 with rfl | ⟨C, fs, h4⟩
  · exact k3
  · cases d with
    | lst ds => obtain ⟨xs, q, _⟩ := k4; rw [h4] at q; cases q
    | dic ks vs => obtain ⟨xs, q, _⟩ := k4; rw [h4] at q; cases q
    | obj cc ns ds => obtain ⟨dx, xs, q1, q2, q3, q4, _⟩ := k4; rw [h4] at q1; cases q1; exact q4
    | _ => exact k4.elim
theorem frame_in (R : Rst K c G H σ ρ) {x : Addr} {o : HO} (h : c.F x = some o) : calleeF σ ρ G H rs x = some o :=
  calleeF_of (R.fg _ _ h) (fun z => by rw [handed_f R z] at h; cases h) (R.fh _ _ h)
/-- an own object that is not handed stays with the others -/
theorem own_in (R : Rst K c G H σ ρ) {k : Nat} {d : D} {a : Addr} (h : ρ[k]? = some (.own d)) (hs : σ[k]? = some (some (.ref a))) (n : ∀ j : Nat, rs[j]? ≠ some (.ali k)) : ∃ o, calleeF σ ρ G H rs a = some o ∧ ∀ b, H b = some (.own a) → G b = none → calleeF σ ρ G H rs b = some (.own a) := by
  obtain ⟨a', k1, k2, k3, k4⟩ := R.own k d h
  rw [hs] at k1; cases k1
  obtain ⟨o, ho, hno⟩ := k4.at
  refine ⟨o, calleeF_of k2 (fun ⟨j, i, e, b, h1, h2, h3, h4⟩ => ?_) ho, fun b hb gb => calleeF_of gb (fun ⟨j, i, e, b', h1, h2, h3, h4⟩ => ?_) hb⟩
  · rcases h4 with rfl | ⟨C, fs, h4⟩
    · exact n j (by rw [h1, R.ne i k e d a h2 h h3 hs])
    · obtain ⟨b', q1, q2, q3, q4⟩ := R.own i e h2
      rw [h3] at q1; cases q1
      cases e with
      | lst ds => obtain ⟨xs, z, _⟩ := q4; rw [h4] at z; cases z
      | dic ks vs => obtain ⟨xs, z, _⟩ := q4; rw [h4] at z; cases z
      | obj cc ns ds =>
        obtain ⟨dx, xs, z1, z2, _⟩ := q4
        rw [h4] at z1; cases z1
        rw [ho] at z2; exact hno b (Option.some.inj z2)
      | _ => exact q4.elim
  · obtain ⟨b2, q1, q2, q3, q4⟩ := R.own i e h2
    rw [h3] at q1; cases q1
    rcases h4 with rfl | ⟨C, fs, h4⟩
    · obtain ⟨o2, ho2, hno2⟩ := q4.at
      rw [hb] at ho2; exact hno2 a (Option.some.inj ho2).symm
    · cases e with
      | lst ds => obtain ⟨xs, z, _⟩ := q4; rw [h4] at z; cases z
      | dic ks vs => obtain ⟨xs, z, _⟩ := q4; rw [h4] at z; cases z
      | obj cc ns ds =>
        obtain ⟨dx, xs, z1, z2, _⟩ := q4
        rw [h4] at z1; cases z1
        rw [hb] at z2; cases z2
        exact n j (by rw [h1, R.ne i k (.obj cc ns ds) d a h2 h h3 hs])
      | _ => exact q4.elim
theorem ow_frame {F F' : Hp} {a : Addr} {d : D} (h : Ow K F G H a d) (le : ∀ x o, F' x = some o → F x = some o) : Ow K F' G H a d := h.fmono fun b _ fb => by
  cases q : F' b with
  | none => rfl
  | some o => rw [le b o q] at fb; cases fb
/-- the callee's state -/
theorem Rst.callee (R : Rst K c G H σ ρ) (hv : RpRs K G σ vs rs) (hd : dist rs = true) (hs : ssOfs ρ rs = some ss) : Rst K ⟨calleeF σ ρ G H rs, vs.map some⟩ G H (vs.map some) ss := by
  obtain ⟨l1, l2, get⟩ := dargs_get hv hs
  have gets : ∀ {j : Nat} {s : S}, ss[j]? = some s → ∃ v r, vs[j]? = some v ∧ rs[j]? = some r ∧ ssOf ρ r = some s ∧ RpRs K G σ [v] [r] := fun {j s} h => by
    have hj : j < vs.length := by
      have := (List.getElem?_eq_some_iff.mp h).1
      omega
    obtain ⟨r, s', k1, k2, k3, k4⟩ := get j vs[j] (List.getElem?_eq_getElem hj)
    rw [h] at k2; cases k2
    exact ⟨vs[j], r, List.getElem?_eq_getElem hj, k1, k3, k4⟩
  have own : ∀ {j : Nat} {d : D}, ss[j]? = some (.own d) → ∃ (i : Nat) (a : Addr), rs[j]? = some (.ali i) ∧ ρ[i]? = some (.own d) ∧ σ[i]? = some (some (.ref a)) ∧ vs[j]? = some (.ref a) := fun {j d} h => by
    obtain ⟨v, r, k1, k2, k3, k4⟩ := gets h
    cases r with
    | val e => cases k3
    | own e => cases k3
    | ali i =>
      unfold ssOf at k3
      dsimp only at k3
      cases q : ρ[i]? with
      | none => rw [q] at k3; cases k3
      | some x =>
        rw [q] at k3
        cases x with
        | no => cases k3
        | val e => cases k3
        | own e =>
          cases k3
          obtain ⟨a, m1, _⟩ := R.own i _ q
          have m2 : σ[i]? = some (some v) := k4.1
          rw [m1] at m2; cases m2
          exact ⟨i, a, k2, q, m1, k1⟩
  refine ⟨fun x o h => (calleeF_some h).2.2, R.gh, fun x o h => (calleeF_some h).1, by rw [List.length_map, l1], fun j d h => ?_, fun j d h => ?_, fun j k d e a h1 h2 r1 r2 => ?_, fun j d h hl => rfl⟩
  · obtain ⟨v, r, k1, k2, k3, k4⟩ := gets h
    refine ⟨v, by rw [List.getElem?_map, k1]; rfl, ?_⟩
    cases r with
    | val e => cases k3; exact k4.1
    | own e => cases k3
    | ali i =>
      unfold ssOf at k3
      dsimp only at k3
      cases q : ρ[i]? with
      | none => rw [q] at k3; cases k3
      | some x =>
        rw [q] at k3
        cases x with
        | no => cases k3
        | own e => cases k3
        | val e =>
          cases k3
          obtain ⟨u, m1, m3⟩ := R.val i _ q
          have m2 : σ[i]? = some (some v) := k4.1
          rw [m1] at m2; cases m2
          exact m3
  · obtain ⟨i, a, k1, k2, k3, k4⟩ := own h
    obtain ⟨a', m1, m2, m3, m4⟩ := R.own i d k2
    rw [k3] at m1; cases m1
    have hh : ∀ x, (x = a ∨ ∃ C fs, H a = some (.ins C x fs)) → calleeF σ ρ G H rs x = none := fun x hx => by
      unfold calleeF
      rw [if_pos (.inr ⟨j, i, d, a, k1, k2, k3, hx⟩)]
    refine ⟨a, by rw [List.getElem?_map, k4]; rfl, m2, hh a (.inl rfl), ?_⟩
    cases d with
    | lst ds => exact m4
    | dic ks vs => exact m4
    | obj cc ns ds =>
      obtain ⟨dx, xs, z1, z2, z3, z4, z5⟩ := m4
      exact ⟨dx, xs, z1, z2, z3, hh dx (.inr ⟨_, _, z1⟩), z5⟩
    | _ => exact m4.elim
  · obtain ⟨i, b, k1, k2, k3, k4⟩ := own h1
    obtain ⟨i', b', m1, m2, m3, m4⟩ := own h2
    rw [List.getElem?_map, k4] at r1
    rw [List.getElem?_map, m4] at r2
    have e1 : b = a := by simpa using r1
    have e2 : b' = a := by simpa using r2
    subst e1
    subst e2
    have hi := R.ne i i' d e b' k2 m2 k3 m3
    subst hi
    exact dist_ne hd k1 m1
/-- the caller's state behind the call -/
theorem Rst.called (R : Rst K c G H σ ρ) (hv : RpRs K G σ vs rs) (hs : ssOfs ρ rs = some ss) (s : Same G G') (R' : Rst K ⟨calleeF σ ρ G H rs, vs.map some⟩ G' H' (vs.map some) ss') : Rst K c G' H' σ (back rs ss' ρ) := by
  obtain ⟨l1, l2, get⟩ := dargs_get hv hs
  have l3 : ss'.length = vs.length := by rw [R'.len, List.length_map]
  have le : ∀ x o, c.F x = some o → calleeF σ ρ G H rs x = some o := fun x o h => frame_in R h
  have arg : ∀ {j i : Nat}, rs[j]? = some (.ali i) → ∃ v, vs[j]? = some v ∧ σ[i]? = some (some v) := fun {j i} h => by
    have hj : j < vs.length := by
      have := (List.getElem?_eq_some_iff.mp h).1
      omega
    obtain ⟨r, s', k1, k2, k3, k4⟩ := get j vs[j] (List.getElem?_eq_getElem hj)
    rw [h] at k1; cases k1
    exact ⟨vs[j], List.getElem?_eq_getElem hj, k4.1⟩
  -- an own slot behind the call: it was not handed, or it is the callee's
  have own : ∀ {k : Nat} {d : D}, (back rs ss' ρ)[k]? = some (.own d) → (ρ[k]? = some (.own d) ∧ ∀ j : Nat, rs[j]? ≠ some (.ali k)) ∨ ∃ (j : Nat) (e : D), rs[j]? = some (.ali k) ∧ ss'[j]? = some (.own d) ∧ ρ[k]? = some (.own e) := fun {k d} h => by
    rcases back_get h (by intro z; cases z) with ⟨h1, h2⟩ | ⟨j, d', h1, h2, h3, e, h4⟩
    · rcases h2 with ⟨d', h2⟩ | h2
      · cases h2
      · refine .inl ⟨h1, fun j z => ?_⟩
        have hj : j < ss'.length := by
          have := (List.getElem?_eq_some_iff.mp z).1
          omega
        exact h2 j hj z
    · cases h1
      exact .inr ⟨j, e, h2, h3, h4⟩
  refine ⟨fun x o h => R'.fh x o (le x o h), R'.gh, fun x o h => R'.fg x o (le x o h), by rw [back_length, R.len], fun k d h => ?_, fun k d h => ?_, fun k k' d d' a h1 h2 r1 r2 => ?_, fun k d h hl => ?_⟩
  · rcases back_get h (by intro z; cases z) with ⟨h1, _⟩ | ⟨j, d', h1, _⟩
    · obtain ⟨v, q1, q2⟩ := R.val k d h1
      exact ⟨v, q1, q2.mono s⟩
    · cases h1
  · rcases own h with ⟨h1, h2⟩ | ⟨j, e, h1, h2, h3⟩
    · obtain ⟨a, q1, q2, q3, q4⟩ := R.own k d h1
      obtain ⟨o, z1, z2⟩ := own_in R h1 q1 h2
      refine ⟨a, q1, R'.fg _ _ z1, q3, ?_⟩
      have ha : H' a = H a := by rw [R'.fh _ _ z1, (calleeF_some z1).2.2]
      cases d with
      | lst ds => obtain ⟨xs, y1, y2⟩ := q4; exact ⟨xs, by rw [ha]; exact y1, y2.mono s⟩
      | dic ks vs => obtain ⟨xs, y1, y2, y3⟩ := q4; exact ⟨xs, by rw [ha]; exact y1, y2.mono s, y3.mono s⟩
      | obj cc ns ds =>
        obtain ⟨dx, xs, y1, y2, y3, y4, y5, y6, y7⟩ := q4
        have zd := z2 dx y2 y3
        exact ⟨dx, xs, by rw [ha]; exact y1, R'.fh _ _ zd, R'.fg _ _ zd, y4, y5, y6, y7.mono s⟩
      | _ => exact q4.elim
    · obtain ⟨v, m1, m2⟩ := arg h1
      obtain ⟨a, q1, q2, q3, q4⟩ := R'.own j d h2
      rw [List.getElem?_map, m1] at q1
      have e1 : v = .ref a := by simpa using q1
      subst e1
      refine ⟨a, m2, q2, ?_, ow_frame q4 le⟩
      cases q : c.F a with
      | none => rfl
      | some o => exact nomatch (show (none : Option HO) = some o from q3.symm.trans (le a o q))
  · -- no two own slots are the same object
    have hid : ∀ {k j : Nat} {d : D}, rs[j]? = some (.ali k) → ss'[j]? = some (.own d) → σ[k]? = some (some (.ref a)) → (vs.map some)[j]? = some (some (.ref a)) := fun {k j d} h1 h2 h3 => by
      obtain ⟨v, m1, m2⟩ := arg h1
      rw [h3] at m2; cases m2
      rw [List.getElem?_map, m1]; rfl
    rcases own h1 with ⟨p1, p2⟩ | ⟨j, e, p1, p2, p3⟩
    · rcases own h2 with ⟨q1, q2⟩ | ⟨j', e', q1, q2, q3⟩
      · exact R.ne k k' d d' a p1 q1 r1 r2
      · exact R.ne k k' d e' a p1 q3 r1 r2
    · rcases own h2 with ⟨q1, q2⟩ | ⟨j', e', q1, q2, q3⟩
      · exact R.ne k k' e d' a p3 q1 r1 r2
      · exact R.ne k k' e e' a p3 q3 r1 r2
  · rcases own h with ⟨h1, _⟩ | ⟨j, e, _, _, h3⟩
    · exact R.par k d h1 hl
    · exact R.par k e h3 hl
theorem RpR.called {v : V} {r : Rv} (R : Rst K c G H σ ρ) (hv : RpRs K G σ vs rs) (hs : ssOfs ρ rs = some ss) (R' : Rst K ⟨calleeF σ ρ G H rs, vs.map some⟩ G' H' (vs.map some) ss') (na : ∀ i, r ≠ .ali i) (h : RpR K ⟨calleeF σ ρ G H rs, vs.map some⟩ G' H' (vs.map some) ss' v r) : RpR K c G' H' σ (back rs ss' ρ) v r := by
  cases r with
  | val d => exact h
  | ali i => exact absurd rfl (na i)
  | own d =>
    obtain ⟨a, h1, h2, h3, h4, h5⟩ := h
    have le : ∀ x o, c.F x = some o → calleeF σ ρ G H rs x = some o := fun x o h => frame_in R h
    refine ⟨a, h1, h2, ?_, ow_frame h4 le, fun k e q z => ?_⟩
    · cases q : c.F a with
      | none => rfl
      | some o => exact nomatch (show (none : Option HO) = some o from h3.symm.trans (le a o q))
    · obtain ⟨l1, l2, get⟩ := dargs_get hv hs
      have l3 : ss'.length = vs.length := by rw [R'.len, List.length_map]
      rcases back_get q (by intro z; cases z) with ⟨p1, p2⟩ | ⟨j, d', p1, p2, p3, e', p4⟩
      · rcases p2 with ⟨d', p2⟩ | p2
        · cases p2
        · obtain ⟨o, z1, z2⟩ := own_in (rs := rs) R p1 z (fun j zz => p2 j (by
            have := (List.getElem?_eq_some_iff.mp zz).1
            omega) zz)
          exact nomatch (show (none : Option HO) = some o from h3.symm.trans z1)
      · cases p1
        have hj : j < vs.length := by
          have := (List.getElem?_eq_some_iff.mp p2).1
          omega
        obtain ⟨r, s', k1, k2, k3, k4⟩ := get j vs[j] (List.getElem?_eq_getElem hj)
        rw [p2] at k1; cases k1
        have k5 : σ[k]? = some (some vs[j]) := k4.1
        rw [z] at k5
        have e5 : vs[j] = .ref a := by simpa using k5.symm
        exact h5 j e p3 (by rw [List.getElem?_map, List.getElem?_eq_getElem hj, e5]; rfl)
/-- a heap that grows changes no frame -/
theorem Rst.grown (R : Rst K c G H σ ρ) (s : Same H H') : Rst K c G H' σ ρ where
  fh := R.fh.trans s
  gh := R.gh.trans s
  fg := R.fg
  len := R.len
  val := R.val
  own := fun i d e => by
    obtain ⟨a, h1, h2, h3, h4⟩ := R.own i d e
    refine ⟨a, h1, h2, h3, ?_⟩
    cases d with
    | lst ds => obtain ⟨xs, q1, q2⟩ := h4; exact ⟨xs, s _ _ q1, q2⟩
    | obj c ns ds => obtain ⟨dx, xs, q1, q2, q3, q4, q5, q6, q7⟩ := h4; exact ⟨dx, xs, s _ _ q1, s _ _ q2, q3, q4, q5, q6, q7⟩
    | dic ks vs => obtain ⟨kvs, q1, q2, q3⟩ := h4; exact ⟨kvs, s _ _ q1, q2, q3⟩
    | _ => exact h4.elim
  ne := R.ne
  par := R.par
theorem sca_rp {d : D} {v : V} (h : scaD d = true) (k : Rp K G d v) : Rp K G' d v := by
  cases d <;> first | exact k | cases h
end

/-! ### the call -/
/-- the def of that name keeps a promise of data -/
structure DF (P : Program) (w : World) (K : PySem.W.Frag) (mg : Str → Option Value) (base : Heap) (x : Str) (k np : Nat) (fn : Fn) : Prop where
  len : ∀ ss o, fn ss = some o → ss.length = np
  ex : ∃ (f : Addr) (fd : FuncData) (ps : List Str), mg x = some (.ref f) ∧ PySem.W.keepIn K (.ref f) = true ∧ Binds K fd ps [] ∧ FnOk P w K mg base (L2.CX P w) k f fd ps (spD K np fn)
theorem wish_of {X : Cx} {W : WX} (tk : Takes X W) (σ : L2.St) : PassesAt (L2.CX X.prog X.w) X σ (WE W σ) := passAt tk σ
/-- the wish of a call, from the run's -/
theorem call_sp {X : Cx} {W : WX} {np : Nat} {fn : Fn} {mu : List Bool} {c : Cn} {G0 G H : Hp} {σ : L2.St} {ρ : List S} {rs : List Rv} {vs : List V} {Q : VK} (R : Rst X.K c G H σ ρ) (s0 : Same G0 G) (hv : RpRs X.K G σ vs rs) (hl : ∀ ss o, fn ss = some o → ss.length = np)
    (w : wpM (callM mu fn rs ρ) (fun r ρ' => ∀ v G' H', Rst X.K c G' H' σ ρ' → Same G0 G' → RpR X.K c G' H' σ ρ' v r → Q v H') (EXk X.K c W σ G0)) : spD X.K np fn vs H Q (WE W σ) := by
  unfold callM at w
  have wp : wpM (prep mu rs ρ) (fun rs' ρ1 => wpM (if dist rs' = true then (match ssOfs ρ1 rs' with
    | some ss => (match fn ss with
      | some (.ret q ss') => if (noAli rs' && scaR q) = true then some (.ok q ρ) else (match q with
        | .ali _ => none
        | q => some (.ok q (back rs' ss' ρ1)))
      | some (.ex e ss') => some (.ex e (back rs' ss' ρ1))
      | none => none)
    | none => none) else none) (fun r ρ' => ∀ v G' H', Rst X.K c G' H' σ ρ' → Same G0 G' → RpR X.K c G' H' σ ρ' v r → Q v H') (EXk X.K c W σ G0)) (fun _ _ => False) := by
    cases q : prep mu rs ρ with
    | none => rw [q] at w; exact w
    | some o => cases o with
      | ok a ρ1 => rw [q] at w; exact w
      | ex e ρ1 => rw [q] at w; exact w.elim
  obtain ⟨rs', G1, ρ1, s1, R1, k1, w1⟩ := prep_wp R hv wp
  by_cases hd : dist rs' = true
  · rw [if_pos hd] at w1
    cases hs : ssOfs ρ1 rs' with
    | none => rw [hs] at w1; exact w1.elim
    | some ss =>
      rw [hs] at w1
      dsimp only at w1
      cases hf : fn ss with
      | none => rw [hf] at w1; exact w1.elim
      | some o =>
        rw [hf] at w1
        refine ⟨⟨calleeF σ ρ1 G1 H rs', vs.map some⟩, G1, ss, o, by rw [← hl ss o hf]; exact (dargs_get k1 hs).1.symm, rfl, R1.callee k1 hd hs, hf, ?_⟩
        cases o with
        | ret q ss' =>
          intro v G' H' R' s' kq
          dsimp only at w1
          by_cases hc : (noAli rs' && scaR q) = true
          · rw [if_pos hc] at w1
            obtain ⟨h1, h2⟩ := Bool.and_eq_true_iff.mp hc
            have same : Same H H' := fun x o hx => by
              cases g : G1 x with
              | some u =>
                have e1 := R1.gh _ _ g
                rw [hx] at e1; cases e1
                exact R'.gh _ _ (s' _ _ g)
              | none => exact R'.fh _ _ (calleeF_of g (fun ⟨j, i, d, a, z, _⟩ => noAli_not h1 z) hx)
            have Rq : Rst X.K c G H' σ ρ := R.grown same
            cases q with
            | val d => exact w1 v G H' Rq s0 (sca_rp h2 kq)
            | own d => cases h2
            | ali i => cases h2
          · rw [if_neg hc] at w1
            cases q with
            | ali i => exact w1.elim
            | val d => exact w1 v G' H' (R1.called k1 hs s' R') ((s0.trans s1).trans s') (RpR.called R1 k1 hs R' (fun i z => nomatch z) kq)
            | own d => exact w1 v G' H' (R1.called k1 hs s' R') ((s0.trans s1).trans s') (RpR.called R1 k1 hs R' (fun i z => nomatch z) kq)
        | ex e ss' =>
          intro cls d G' H' R' s' xa
          exact w1 cls d G' H' (R1.called k1 hs s' R') ((s0.trans s1).trans s') xa
  · rw [if_neg hd] at w1; exact w1.elim
def eCall (mu : List Bool) (fn : Fn) (ga : M (List Rv)) : M Rv := do
  let rs ← ga
  callM mu fn rs
section
variable {X : Cx} {W : WX} {x : Str} {k np : Nat} {fn : Fn} {mu : List Bool} {e : Expr} {es : List Expr} {ga : M (List Rv)} {p pos : Pos}
theorem de_call (mu : List Bool) (go : Go X W) (F : DF X.prog X.w X.K X.mg X.base x k np fn) (hr : Room k X.A) (hg : Gl X x) (ha : DA X W (e :: es) ga)
    (hdb : (x == ("__debug__" : Str)) = false := by decide) (he : starEach (e :: es) X.env = (false, eval e X.env) :: starEach es X.env := by rfl) (hpl : (backTo pos (starEach es X.env)).any (·.1) = false := by rfl) :
    DE X W (.Call (.Name x p) (e :: es) [] pos) (eCall mu fn ga) := by
  obtain ⟨f, fd, ps, hm, hk, hb, FO⟩ := F.ex
  refine ⟨(pe_callSD (E := WE W) FO hr hg hm hk hb .nil (wish_of go.tk) ha.pa hdb he hpl).weak fun σ H Q ⟨c, G, ρ, R, w⟩ => ?_⟩
  refine tg_step R (Same.refl G) w fun rs ρ1 vs G1 H1 R1 s1 _ k1 w1 => ?_
  rw [List.append_nil]
  exact call_sp R1 s1 k1 F.len w1
end
end Dl

/-! Dl11: changes in place, fields, instances made, methods. -/
namespace Dl
open PySem L2

section
variable {K : PySem.W.Frag} {c : Cn} {G G' H H' : Hp} {σ : L2.St} {ρ : List S} {a p : Addr} {d d' : D} {o' : HO} {i : Nat} {v : V}
/-- the object of a slot is changed in place -/
theorem Rst.own_store (R : Rst K c G H σ ρ) (h : ρ[i]? = some (.own d)) (hs : σ[i]? = some (some (.ref a))) (hw : Ow K c.F G (upd H a o') a d') : Rst K c G (upd H a o') σ (ρ.set i (.own d')) := by
  obtain ⟨a', k1, k2, k3, k4⟩ := R.own i d h
  rw [hs] at k1; cases k1
  obtain ⟨oa, hoa, hno⟩ := k4.at
  have hl : i < ρ.length := (List.getElem?_eq_some_iff.mp h).1
  have oth : ∀ {j : Nat} {e : D}, (ρ.set i (.own d'))[j]? = some (.own e) → (j = i ∧ e = d') ∨ (j ≠ i ∧ ρ[j]? = some (.own e)) := fun {j e} q => by
    rcases set_cases q with ⟨q1, _, q2⟩ | q
    · cases q2; exact .inl ⟨q1, rfl⟩
    · exact .inr q
  refine ⟨fun b u e => by rw [upd_ne (ne_of_none e k3)]; exact R.fh _ _ e, fun b u e => by rw [upd_ne (ne_of_none e k2)]; exact R.gh _ _ e, R.fg, by rw [List.length_set, R.len], fun j e q => ?_, fun j e q => ?_, fun j k e f b q1 q2 r1 r2 => ?_, fun j e q hlt => ?_⟩
  · rcases set_cases q with ⟨_, _, q2⟩ | ⟨_, q⟩
    · cases q2
    · exact R.val j e q
  · rcases oth q with ⟨rfl, rfl⟩ | ⟨hj, q⟩
    · exact ⟨a, hs, k2, k3, hw⟩
    · obtain ⟨b, m1, m2, m3, m4⟩ := R.own j e q
      have nb : b ≠ a := fun z => by subst z; exact hj (R.ne j i e d b q h m1 hs)
      refine ⟨b, m1, m2, m3, ?_⟩
      cases e with
      | lst ds => obtain ⟨xs, z1, z2⟩ := m4; exact ⟨xs, by rw [upd_ne nb]; exact z1, z2⟩
      | dic ks vs => obtain ⟨xs, z1, z2⟩ := m4; exact ⟨xs, by rw [upd_ne nb]; exact z1, z2⟩
      | obj cc ns ds =>
        obtain ⟨dx, xs, z1, z2, z3⟩ := m4
        have nd : dx ≠ a := fun z => by subst z; rw [hoa] at z2; exact hno b (Option.some.inj z2)
        exact ⟨dx, xs, by rw [upd_ne nb]; exact z1, by rw [upd_ne nd]; exact z2, z3⟩
      | _ => exact m4.elim
  · have back : ∀ {j : Nat} {e : D}, (ρ.set i (.own d'))[j]? = some (.own e) → ∃ e', ρ[j]? = some (.own e') := fun {j e} q => by
      rcases oth q with ⟨rfl, rfl⟩ | ⟨hj, q⟩
      · exact ⟨d, h⟩
      · exact ⟨e, q⟩
    obtain ⟨e', q1'⟩ := back q1
    obtain ⟨f', q2'⟩ := back q2
    exact R.ne j k e' f' b q1' q2' r1 r2
  · rcases oth q with ⟨rfl, rfl⟩ | ⟨hj, q⟩
    · exact R.par j d h hlt
    · exact R.par j e q hlt
end

/-! ### methods of lists that change them -/
/-- the list of the slot -/
def ownLst (r : Rv) (ρ : List S) : Option (Nat × List D) := match r with
  | .ali i => match ρ[i]? with
    | some (.own (.lst ds)) => some (i, ds)
    | _ => none
  | _ => none
theorem ownLst_ok {K : PySem.W.Frag} {c : Cn} {G H : Hp} {σ : L2.St} {ρ : List S} {v : V} {r : Rv} {i : Nat} {ds : List D} (R : Rst K c G H σ ρ) (k : RpRs K G σ [v] [r]) (e : ownLst r ρ = some (i, ds)) :
    ∃ a xs, v = .ref a ∧ σ[i]? = some (some (.ref a)) ∧ ρ[i]? = some (.own (.lst ds)) ∧ H a = some (.lst xs) ∧ RpL K G ds xs := by
  cases r with
  | val d => cases e
  | own d => cases e
  | ali j =>
    unfold ownLst at e
    dsimp only at e
    cases q : ρ[j]? with
    | none => rw [q] at e; cases e
    | some s =>
      rw [q] at e
      cases s with
      | no => cases e
      | val d => cases e
      | own d =>
        cases d <;> first
          | (cases e; done)
          | (cases e
             obtain ⟨a, h1, h2, h3, xs, h4, h5⟩ := R.own _ _ q
             have h6 : σ[_]? = some (some v) := k.1
             rw [h1] at h6
             have h7 : v = .ref a := by simpa using h6.symm
             exact ⟨a, xs, h7, h1, q, h4, h5⟩)
theorem Rst.lst_store {K : PySem.W.Frag} {c : Cn} {G H : Hp} {σ : L2.St} {ρ : List S} {i : Nat} {ds ds' : List D} {a : Addr} {xs' : List V} (R : Rst K c G H σ ρ) (hs : σ[i]? = some (some (.ref a))) (h : ρ[i]? = some (.own (.lst ds))) (r : RpL K G ds' xs') :
    Rst K c G (upd H a (.lst xs')) σ (ρ.set i (.own (.lst ds'))) := R.own_store h hs ⟨xs', upd_same, r⟩
/-- the receiver is a list of the frame's own -/
def ckL (r : Rv) : M Unit := fun ρ => match ownLst r ρ with
  | some _ => some (.ok () ρ)
  | none => none
def mAppend (fo fa : M Rv) : M Rv := do
  let r ← fo
  ckL (settle r)
  let x ← fa
  let d ← toV (settle x)
  fun ρ => match ownLst (settle r) ρ with
    | some (i, ds) => if ds.length < sizeLine then some (.ok (.val .non) (ρ.set i (.own (.lst (ds ++ [d]))))) else none
    | none => none
def mExtend (fo fa : M Rv) : M Rv := do
  let r ← fo
  ckL (settle r)
  let x ← fa
  let d ← peek (settle x)
  fun ρ => match ownLst (settle r) ρ, d with
    | some (i, ds), .lst es => if ds.length + es.length ≤ sizeLine then some (.ok (.val .non) (ρ.set i (.own (.lst (ds ++ es))))) else none
    | _, _ => none
def mPop (fo : M Rv) : M Rv := do
  let r ← fo
  ckL (settle r)
  fun ρ => match ownLst (settle r) ρ with
    | some (i, ds) => match ds[ds.length - 1]? with
      | some d => some (.ok (.val d) (ρ.set i (.own (.lst ds.dropLast))))
      | none => none
    | none => none
def mPop0 (fo : M Rv) : M Rv := do
  let r ← fo
  ckL (settle r)
  fun ρ => match ownLst (settle r) ρ with
    | some (i, d :: ds) => some (.ok (.val d) (ρ.set i (.own (.lst ds))))
    | _ => none
def mClear (fo : M Rv) : M Rv := do
  let r ← fo
  ckL (settle r)
  fun ρ => match ownLst (settle r) ρ with
    | some (i, ds) => some (.ok (.val .non) (ρ.set i (.own (.lst []))))
    | none => none
theorem RpL.dropLast {K : PySem.W.Frag} {G : Hp} {ds : List D} {xs : List V} (h : RpL K G ds xs) : RpL K G ds.dropLast xs.dropLast := by
  rw [List.dropLast_eq_take, List.dropLast_eq_take, h.length]
  exact h.take _
theorem ckL_wp {K : PySem.W.Frag} {c : Cn} {G H : Hp} {σ : L2.St} {ρ : List S} {v : V} {r : Rv} {OK : Unit → List S → Prop} {EX : Xn → List S → Prop} (R : Rst K c G H σ ρ) (k : RpRs K G σ [v] [r]) (w : wpM (ckL r ρ) OK EX) : tyV K "list" v H ∧ OK () ρ := by
  unfold ckL at w
  cases e : ownLst r ρ with
  | none => rw [e] at w; exact w.elim
  | some q =>
    rw [e] at w
    obtain ⟨a, xs, rfl, _, _, h, _⟩ := ownLst_ok (i := q.1) (ds := q.2) R k e
    exact ⟨.inl ⟨rfl, xs, .inl (.inl h)⟩, w⟩
section
variable {X : Cx} {W : WX} {np : Nat} {o e a b : Expr} {es : List Expr} {fo fa fb : M Rv} {ga : M (List Rv)} {pos apos cpos p : Pos}
theorem de_append (ho : DE X W o fo) (ha : DE X W e fa) (hbase : attributeBase o "append" X.env (eval o X.env) = eval o X.env := by rfl)
    (hfew : ((backTo cpos (starEach [e] X.env)).all (fun x => !x.1) && (backToKw cpos (keywordEach [] X.env)).all (fun x => x.1.isSome) && decide ([e].length + ([] : List Keyword).length + (if ([] : List Keyword).isEmpty then 0 else 1) < 30)) = true := by rfl)
    (hline : (apos.endLine == cpos.line) = true := by rfl) (hs : starEach [e] X.env = (false, eval e X.env) :: starEach [] X.env := by rfl) (hplain : (backTo cpos (starEach [] X.env)).any (·.1) = false := by rfl) : DE X W (.Call (.Attribute o "append" apos) [e] [] cpos) (mAppend fo fa) :=
  ⟨(pe_bm PySem.F.plainAttrs_list PySem.F.slot_list_append PySem.F.type_list_append mt_append ho.pe (pa_cons ha.pe pa_nil hs) hbase hfew hline hs hplain).weak fun σ H Q ⟨c, G, ρ, R, w⟩ => by
    refine tg_step R (Same.refl G) w fun r ρ1 v G1 H1 R1 s1 _ k1 w1 => ?_
    obtain ⟨G1', s1', R1', k1'⟩ := settle_ok R1 k1
    obtain ⟨ty, w1⟩ := ckL_wp R1' k1' (wpM_bind w1)
    refine ⟨ty, ?_⟩
    refine tg_step R1' (s1.trans s1') w1 fun x ρ2 u G2 H2 R2 s2 s12 k2 w2 => ?_
    obtain ⟨G2', s2', R2', k2'⟩ := settle_ok R2 k2
    obtain ⟨d, G3, ρ3, s3, R3, k3, w3⟩ := toV_wp R2' k2'.one (wpM_bind w2)
    cases e1 : ownLst (settle r) ρ3 with
    | none => rw [e1] at w3; exact w3.elim
    | some q =>
      obtain ⟨i, ds⟩ := q
      rw [e1] at w3
      dsimp only at w3
      obtain ⟨a, xs, rfl, hs, hr, ha, hx⟩ := ownLst_ok R3 (((k1'.mono s12).mono s2').mono s3) e1
      by_cases hz : ds.length < sizeLine
      · rw [if_pos hz] at w3
        refine ⟨a, xs, u, rfl, rfl, ha, by rw [hx.length]; exact hz, ?_⟩
        exact w3 _ G3 _ (R3.lst_store hs hr (hx.append (RpL.one k3))) ((s2.trans s2').trans s3) rfl
      · rw [if_neg hz] at w3; exact w3.elim⟩
theorem de_extend (ho : DE X W o fo) (ha : DE X W e fa) (hbase : attributeBase o "extend" X.env (eval o X.env) = eval o X.env := by rfl)
    (hfew : ((backTo cpos (starEach [e] X.env)).all (fun x => !x.1) && (backToKw cpos (keywordEach [] X.env)).all (fun x => x.1.isSome) && decide ([e].length + ([] : List Keyword).length + (if ([] : List Keyword).isEmpty then 0 else 1) < 30)) = true := by rfl)
    (hline : (apos.endLine == cpos.line) = true := by rfl) (hs : starEach [e] X.env = (false, eval e X.env) :: starEach [] X.env := by rfl) (hplain : (backTo cpos (starEach [] X.env)).any (·.1) = false := by rfl) : DE X W (.Call (.Attribute o "extend" apos) [e] [] cpos) (mExtend fo fa) :=
  ⟨(pe_bm PySem.F.plainAttrs_list PySem.F.slot_list_extend PySem.F.type_list_extend mt_extend ho.pe (pa_cons ha.pe pa_nil hs) hbase hfew hline hs hplain).weak fun σ H Q ⟨c, G, ρ, R, w⟩ => by
    refine tg_step R (Same.refl G) w fun r ρ1 v G1 H1 R1 s1 _ k1 w1 => ?_
    obtain ⟨G1', s1', R1', k1'⟩ := settle_ok R1 k1
    obtain ⟨ty, w1⟩ := ckL_wp R1' k1' (wpM_bind w1)
    refine ⟨ty, ?_⟩
    refine tg_step R1' (s1.trans s1') w1 fun x ρ2 u G2 H2 R2 s2 s12 k2 w2 => ?_
    obtain ⟨G2', s2', R2', k2'⟩ := settle_ok R2 k2
    obtain ⟨d, kd, w3⟩ := peek_wp R2' k2'.one (wpM_bind w2)
    cases e1 : ownLst (settle r) ρ2 with
    | none => rw [e1] at w3; exact w3.elim
    | some q =>
      obtain ⟨i, ds⟩ := q
      rw [e1] at w3
      cases d <;> first
        | exact w3.elim
        | (rename_i es
           dsimp only at w3
           obtain ⟨a, xs, rfl, hs, hr, ha, hx⟩ := ownLst_ok R2' ((k1'.mono s12).mono s2') e1
           obtain ⟨b, ys, rfl, hb, hy⟩ := kd.lst R2'.gh
           by_cases hz : ds.length + es.length ≤ sizeLine
           · rw [if_pos hz] at w3
             refine ⟨a, b, xs, ys, rfl, rfl, ha, hb, by rw [hx.length, hy.length]; exact hz, ?_⟩
             exact w3 _ G2' _ (R2'.lst_store hs hr (hx.append hy)) (s2.trans s2') rfl
           · rw [if_neg hz] at w3; exact w3.elim)⟩
theorem de_pop (ho : DE X W o fo) (hbase : attributeBase o "pop" X.env (eval o X.env) = eval o X.env := by rfl) (hline : (apos.endLine == cpos.line) = true := by rfl) : DE X W (.Call (.Attribute o "pop" apos) [] [] cpos) (mPop fo) :=
  ⟨(pe_bm0 PySem.F.plainAttrs_list PySem.F.slot_list_pop PySem.F.type_list_pop mt_pop ho.pe hbase hline).weak fun σ H Q ⟨c, G, ρ, R, w⟩ => by
    refine tg_step R (Same.refl G) w fun r ρ1 v G1 H1 R1 s1 _ k1 w1 => ?_
    obtain ⟨G1', s1', R1', k1'⟩ := settle_ok R1 k1
    obtain ⟨ty, w1⟩ := ckL_wp R1' k1' (wpM_bind w1)
    refine ⟨ty, ?_⟩
    cases e1 : ownLst (settle r) ρ1 with
    | none => rw [e1] at w1; exact w1.elim
    | some q =>
      obtain ⟨i, ds⟩ := q
      rw [e1] at w1
      dsimp only at w1
      obtain ⟨a, xs, rfl, hs, hr, ha, hx⟩ := ownLst_ok R1' k1' e1
      cases e2 : ds[ds.length - 1]? with
      | none => rw [e2] at w1; exact w1.elim
      | some d =>
        rw [e2] at w1
        obtain ⟨y, h1, h2⟩ := hx.get e2
        refine ⟨a, xs, y, rfl, rfl, ha, by rw [hx.length]; exact h1, ?_⟩
        exact w1 y G1' _ (R1'.lst_store hs hr hx.dropLast) (s1.trans s1') h2⟩
theorem de_clear (ho : DE X W o fo) (hbase : attributeBase o "clear" X.env (eval o X.env) = eval o X.env := by rfl) (hline : (apos.endLine == cpos.line) = true := by rfl) : DE X W (.Call (.Attribute o "clear" apos) [] [] cpos) (mClear fo) :=
  ⟨(pe_bm0 PySem.F.plainAttrs_list PySem.F.slot_list_clear PySem.F.type_list_clear mt_clear ho.pe hbase hline).weak fun σ H Q ⟨c, G, ρ, R, w⟩ => by
    refine tg_step R (Same.refl G) w fun r ρ1 v G1 H1 R1 s1 _ k1 w1 => ?_
    obtain ⟨G1', s1', R1', k1'⟩ := settle_ok R1 k1
    obtain ⟨ty, w1⟩ := ckL_wp R1' k1' (wpM_bind w1)
    refine ⟨ty, ?_⟩
    cases e1 : ownLst (settle r) ρ1 with
    | none => rw [e1] at w1; exact w1.elim
    | some q =>
      obtain ⟨i, ds⟩ := q
      rw [e1] at w1
      dsimp only at w1
      obtain ⟨a, xs, rfl, hs, hr, ha, hx⟩ := ownLst_ok R1' k1' e1
      refine ⟨a, xs, rfl, rfl, ha, ?_⟩
      exact w1 _ G1' _ (R1'.lst_store (ds' := []) (xs' := []) hs hr rfl) (s1.trans s1') rfl⟩

/-! ### xs[i] = e -/
def sSetIx (fa fo fi : M Rv) : MS := thenS fa fun x => thenS (toV x) fun d => thenS fo fun r => thenS fi fun j => thenS (peek (settle j)) fun e ρ =>
  match ownLst (settle r) ρ, e with
    | some (i, ds), .int k => (ixN ds.length k).map fun n => .nx (ρ.set i (.own (.lst (ds.set n d))))
    | _, _ => none
theorem thenS_bind {α β : Type} {f : M α} {k : α → M β} {h : β → MS} {ρ : List S} : thenS (f >>= k) h ρ = thenS f (fun a => thenS (k a) h) ρ := by
  unfold thenS
  rw [bind_eq]
  cases f ρ with
  | none => rfl
  | some o => cases o <;> rfl
theorem ds_setIx (ha : DE X W e fa) (ho : DE X W o fo) (hi : DE X W a fb) (hset : ∀ v, assign (.Subscript o a pos) X.env v = (do
      let ov ← holding [v] (eval o X.env)
      let iv ← holding [v, ov] (eval a X.env)
      standAt pos
      holding [v, ov, iv] (setItem ov iv v)
      release [v, ov, iv] []) := by intro _; rfl) (hs : swapsWithSole [.Subscript o a pos] e p.line X.env = pure false := by rfl) (hw : swappedStores [.Subscript o a pos] e X.env = pure none := by rfl)
    (h1 : (assignEach [.Subscript o a pos] X.env).map (·.2) = [assign (.Subscript o a pos) X.env] := by rfl) : DS X W np (.Assign [.Subscript o a pos] e p) (sSetIx fa fo fb) :=
  ⟨(ps_asg ha.pe (pg_sub ho.pe hi.pe set_list hset) hs hw h1).weak fun Dn σ H ⟨c, G, ρ, os, hl, R, h, po⟩ => by
    refine tS_step R h po fun x ρ1 v G1 H1 R1 s1 k1 h1 po1 => ?_
    obtain ⟨d, G2, ρ2, s2, R2, k2, h2⟩ := toV_wp R1 k1 (thenS_wp h1)
    refine tS_step R2 h2 (po1.mono s2) fun r ρ3 u G3 H3 R3 s3 k3 h3 po3 => ?_
    obtain ⟨G3', s3', R3', k3'⟩ := settle_ok R3 k3
    refine tS_step R3' h3 (po3.mono s3') fun j ρ4 t G4 H4 R4 s4 k4 h4 po4 => ?_
    obtain ⟨G4', s4', R4', k4'⟩ := settle_ok R4 k4
    obtain ⟨e', ke, h5⟩ := peek_wp R4' k4'.one (thenS_wp h4)
    cases e1 : ownLst (settle r) ρ4 with
    | none => rw [e1] at h5; cases h5
    | some q =>
      obtain ⟨i, ds⟩ := q
      rw [e1] at h5
      cases e' <;> first
        | (cases h5; done)
        | (rename_i n
           dsimp only at h5
           obtain ⟨b, xs, rfl, hs, hr, hb, hx⟩ := ownLst_ok R4' ((k3'.mono s4).mono s4') e1
           cases e2 : ixN ds.length n with
           | none => rw [e2] at h5; cases h5
           | some m =>
             rw [e2] at h5
             cases h5
             refine ⟨b, xs, n, m, rfl, ke.int, hb, by rw [hx.length]; exact e2, ?_⟩
             exact po4 σ G4' _ (R4'.lst_store hs hr (hx.set m (k2.mono (((s3.trans s3').trans s4).trans s4')))) s4')⟩
end
end Dl

/-! Dl12: fields, instances made, methods. -/
namespace Dl
open PySem L2

/-! ### fields -/
def lkF (f : Str) : List Str → List D → Option D
  | n :: ns, d :: ds => if n = f then some d else lkF f ns ds
  | _, _ => none
def putF2 (f : Str) (d : D) : List Str → List D → List Str × List D
  | n :: ns, e :: ds => if n = f then (n :: ns, d :: ds) else (n :: (putF2 f d ns ds).1, e :: (putF2 f d ns ds).2)
  | _, _ => ([f], [d])
section
variable {K : PySem.W.Frag} {G : Hp}
theorem lkF_ok {f : Str} {d : D} : ∀ {ns : List Str} {ds : List D} {xs : List V}, RpL K G ds xs → lkF f ns ds = some d → ∃ v, (ns.zip xs).lookup f = some v ∧ Rp K G d v
  | [], _, _, _, e => by cases e
  | _ :: _, [], _, _, e => by cases e
  | n :: ns, e :: ds, _, ⟨x, r, h1, h2, h3⟩, q => by
    subst h1
    unfold lkF at q
    by_cases hn : n = f
    · rw [if_pos hn] at q
      cases q
      subst hn
      exact ⟨x, by simp [List.zip_cons_cons, List.lookup], h2⟩
    · rw [if_neg hn] at q
      obtain ⟨v, k1, k2⟩ := lkF_ok h3 q
      refine ⟨v, ?_, k2⟩
      rw [List.zip_cons_cons]
      have hb : (f == n) = false := beq_eq_false_iff_ne.mpr (Ne.symm hn)
      simp only [List.lookup, hb]
      exact k1
theorem putF2_ok {f : Str} {d : D} {v : V} (hd : Rp K G d v) : ∀ {ns : List Str} {ds : List D} {xs : List V}, ns.length = ds.length → RpL K G ds xs →
    ∃ ys, putF f v (ns.zip xs) = (putF2 f d ns ds).1.zip ys ∧ (putF2 f d ns ds).1.length = (putF2 f d ns ds).2.length ∧ RpL K G (putF2 f d ns ds).2 ys
  | [], [], _, _, h => by cases h; exact ⟨[v], rfl, rfl, v, [], rfl, hd, rfl⟩
  | [], _ :: _, _, hl, _ => by cases hl
  | _ :: _, [], _, hl, _ => by cases hl
  | n :: ns, e :: ds, _, hl, ⟨x, r, h1, h2, h3⟩ => by
    subst h1
    rw [List.zip_cons_cons]
    unfold putF putF2
    by_cases hn : n = f
    · rw [if_pos hn, if_pos hn]
      exact ⟨v :: r, by rw [List.zip_cons_cons], by simpa using hl, v, r, rfl, hd, h3⟩
    · rw [if_neg hn, if_neg hn]
      obtain ⟨ys, k1, k2, k3⟩ := putF2_ok hd (ns := ns) (ds := ds) (xs := r) (by simpa using hl) h3
      exact ⟨x :: ys, by rw [List.zip_cons_cons, k1], by simpa using k2, x, ys, rfl, h2, k3⟩
theorem no_lookup {f : Str} : ∀ {ns : List Str} {xs : List V}, f ∉ ns → (ns.zip xs).lookup f = none
  | [], _, _ => rfl
  | _ :: _, [], _ => rfl
  | n :: ns, x :: xs, h => by
    have h2 : f ≠ n ∧ f ∉ ns := by simpa using h
    rw [List.zip_cons_cons]
    have hb : (f == n) = false := beq_eq_false_iff_ne.mpr h2.1
    simp only [List.lookup, hb]
    exact no_lookup h2.2
end
/-- the classes whose instances have that field -/
abbrev Flds : Type := List Str
structure FldOk (K : PySem.W.Frag) (cs : Flds) (f : Str) : Prop where
  ok : ∀ n ∈ cs, Cls K (He.ga K n) ∧ NoAttr K (He.ga K n) f
def eFld (cs : Flds) (f : Str) (fa : M Rv) : M Rv := do
  let r ← fa
  let d ← peek r
  match d with
  | .obj n ns ds => if n ∈ cs then ofO ((lkF f ns ds).map .val) else M.fail
  | _ => M.fail
section
variable {X : Cx} {W : WX} {np : Nat} {o e a b : Expr} {es : List Expr} {fo fa fb : M Rv} {ga : M (List Rv)} {pos apos cpos p : Pos} {cs : Flds} {f m : Str}
theorem de_fld (hc : FldOk X.K cs f) (ha : DE X W e fa) (hb : attributeBase e f X.env (eval e X.env) = eval e X.env := by rfl) : DE X W (.Attribute e f pos) (eFld cs f fa) :=
  ⟨(pe_fld ha.pe hb).weak fun σ H Q ⟨c, G, ρ, R, w⟩ => by
    refine tg_step R (Same.refl G) w fun r ρ1 v G1 H1 R1 s1 _ k1 w1 => ?_
    obtain ⟨d, kd, w2⟩ := peek_wp R1 k1 (wpM_bind w1)
    cases d <;> first
      | exact w2.elim
      | (rename_i n ns ds
         dsimp only at w2
         by_cases hn : n ∈ cs
         · rw [if_pos hn] at w2
           obtain ⟨q, e1, w3⟩ := ofO_wp w2
           obtain ⟨d, e2, e3⟩ := Option.map_eq_some_iff.mp e1
           subst e3
           have go : ∀ {a : Addr} {dx : Addr} {xs : List V}, H1 a = some (.ins (He.ga X.K n) dx (ns.zip xs)) → RpL X.K G1 ds xs → v = .ref a → ∃ a C dx fs u, v = V.ref a ∧ H1 a = some (.ins C dx fs) ∧ Cls X.K C ∧ NoAttr X.K C f ∧ fs.lookup f = some u ∧ Q u H1 := fun {a dx xs} h1 h2 h3 => by
             obtain ⟨u, k2, k3⟩ := lkF_ok h2 e2
             exact ⟨a, _, dx, _, u, h3, h1, (hc.ok n hn).1, (hc.ok n hn).2, k2, w3 u G1 H1 R1 s1 k3⟩
           obtain ⟨a, dx, xs, h1, h2, _, h4⟩ := kd.obj R1.gh
           exact go h2 h4 h1
         · rw [if_neg hn] at w2; exact w2.elim)⟩
/-- o.f = e, o the frame's own -/
def ownObj (r : Rv) (ρ : List S) : Option (Nat × Str × List Str × List D) := match r with
  | .ali i => match ρ[i]? with
    | some (.own (.obj n ns ds)) => some (i, n, ns, ds)
    | _ => none
  | _ => none
def sSetF (cs : Flds) (f : Str) (fo fa : M Rv) : MS := thenS fa fun x => thenS (toV x) fun d => thenS fo fun r ρ =>
  match ownObj (settle r) ρ with
    | some (i, n, ns, ds) => if n ∈ cs ∧ ns.length < 1000 then some (.nx (ρ.set i (.own (.obj n (putF2 f d ns ds).1 (putF2 f d ns ds).2)))) else none
    | none => none
theorem ownObj_ok {K : PySem.W.Frag} {c : Cn} {G H : Hp} {σ : L2.St} {ρ : List S} {v : V} {r : Rv} {i : Nat} {n : Str} {ns : List Str} {ds : List D} (R : Rst K c G H σ ρ) (k : RpRs K G σ [v] [r]) (e : ownObj r ρ = some (i, n, ns, ds)) :
    ∃ a dx xs, v = .ref a ∧ σ[i]? = some (some (.ref a)) ∧ ρ[i]? = some (.own (.obj n ns ds)) ∧ H a = some (.ins (He.ga K n) dx (ns.zip xs)) ∧ H dx = some (.own a) ∧ G dx = none ∧ c.F dx = none ∧ dx ≠ a ∧ ns.length = ds.length ∧ RpL K G ds xs := by
  cases r with
  | val d => cases e
  | own d => cases e
  | ali j =>
    unfold ownObj at e
    dsimp only at e
    cases q : ρ[j]? with
    | none => rw [q] at e; cases e
    | some s =>
      rw [q] at e
      cases s with
      | no => cases e
      | val d => cases e
      | own d =>
        cases d <;> first
          | (cases e; done)
          | (cases e
             obtain ⟨a, h1, h2, h3, dx, xs, h4⟩ := R.own _ _ q
             have h6 : σ[_]? = some (some v) := k.1
             rw [h1] at h6
             have h7 : v = .ref a := by simpa using h6.symm
             exact ⟨a, dx, xs, h7, h1, q, h4⟩)
theorem ds_setF (hc : FldOk X.K cs f) (ho : DE X W o fo) (ha : DE X W e fa) (hs : swapsWith e (some (.Attribute o f p)) pos.line X.env = pure false := by rfl) : DS X W np (.Assign [.Attribute o f p] e pos) (sSetF cs f fo fa) :=
  ⟨(ps_fld ho.pe ha.pe hs).weak fun Dn σ H ⟨c, G, ρ, os, hl, R, h, po⟩ => by
    refine tS_step R h po fun x ρ1 v G1 H1 R1 s1 k1 h1 po1 => ?_
    obtain ⟨d, G2, ρ2, s2, R2, k2, h2⟩ := toV_wp R1 k1 (thenS_wp h1)
    refine tS_step R2 h2 (po1.mono s2) fun r ρ3 u G3 H3 R3 s3 k3 h3 po3 => ?_
    obtain ⟨G3', s3', R3', k3'⟩ := settle_ok R3 k3
    have po3' := po3.mono s3'
    cases e1 : ownObj (settle r) ρ3 with
    | none => rw [e1] at h3; cases h3
    | some q =>
      obtain ⟨i, n, ns, ds⟩ := q
      rw [e1] at h3
      dsimp only at h3
      by_cases hn : n ∈ cs ∧ ns.length < 1000
      · rw [if_pos hn] at h3
        cases h3
        obtain ⟨a, dx, xs, rfl, m1, m2, m3, m4, m5, m6, m7, m8, m9⟩ := ownObj_ok R3' k3' e1
        obtain ⟨ys, y1, y2, y3⟩ := putF2_ok (f := f) (k2.mono (s3.trans s3')) m8 m9
        refine ⟨a, _, dx, _, rfl, m3, (hc.ok n hn.1).1, (hc.ok n hn.1).2, ?_, ?_⟩
        · rw [List.length_zip]
          exact Nat.lt_of_le_of_lt (Nat.min_le_left _ _) hn.2
        · refine po3' σ G3' _ (R3'.own_store m2 m1 ⟨dx, ys, by rw [upd_same, y1], by rw [upd_ne m7]; exact m4, m5, m6, m7, y2, y3⟩) (Same.refl G3')
      · rw [if_neg hn] at h3; cases h3⟩
end

/-! ### a new instance -/
section
variable {K : PySem.W.Frag} {c : Cn} {G G' H H' : Hp} {σ : L2.St} {ρ : List S} {x dx : Addr}
theorem snoc_get {α : Type} {l : List α} {a : α} {i : Nat} {b : α} (h : (l ++ [a])[i]? = some b) : (i < l.length ∧ l[i]? = some b) ∨ (i = l.length ∧ b = a) := by
  by_cases hi : i < l.length
  · rw [List.getElem?_append_left hi] at h; exact .inl ⟨hi, h⟩
  · rw [List.getElem?_append_right (by omega)] at h
    have : i - l.length = 0 := by
      cases q : i - l.length with
      | zero => rfl
      | succ n => rw [q] at h; cases h
    rw [this] at h
    cases h
    exact .inr ⟨by omega, rfl⟩
/-- a slot more, an own object in it -/
theorem Rst.snoc {v : V} {d : D} (R : Rst K c G H σ ρ) (hp : c.s0.length ≤ σ.length) (h : RpR K c G H σ ρ v (.own d)) : Rst K c G H (σ ++ [some v]) (ρ ++ [.own d]) := by
  obtain ⟨a, rfl, h2, h3, h4, h5⟩ := h
  have hlen : (ρ ++ [S.own d]).length = (σ ++ [some (V.ref a)]).length := by rw [List.length_append, List.length_append, R.len]; rfl
  have sg : ∀ {j : Nat}, j < ρ.length → (σ ++ [some (V.ref a)])[j]? = σ[j]? := fun {j} hj => List.getElem?_append_left (R.len ▸ hj)
  have sl : (σ ++ [some (V.ref a)])[ρ.length]? = some (some (V.ref a)) := by rw [R.len, List.getElem?_append_right (Nat.le_refl _), Nat.sub_self]; rfl
  refine ⟨R.fh, R.gh, R.fg, hlen, fun j e q => ?_, fun j e q => ?_, fun j k e f b q1 q2 r1 r2 => ?_, fun j e q hl => ?_⟩
  · rcases snoc_get q with ⟨hj, q⟩ | ⟨_, q⟩
    · rw [sg hj]; exact R.val j e q
    · cases q
  · rcases snoc_get q with ⟨hj, q⟩ | ⟨hj, q⟩
    · rw [sg hj]; exact R.own j e q
    · cases q; subst hj; exact ⟨a, sl, h2, h3, h4⟩
  · rcases snoc_get q1 with ⟨hj, q1⟩ | ⟨hj, q1⟩
    · rw [sg hj] at r1
      rcases snoc_get q2 with ⟨hk, q2⟩ | ⟨hk, q2⟩
      · rw [sg hk] at r2; exact R.ne j k e f b q1 q2 r1 r2
      · subst hk; rw [sl] at r2; cases r2; exact absurd r1 (h5 j e q1)
    · rcases snoc_get q2 with ⟨hk, q2⟩ | ⟨hk, q2⟩
      · rw [sg hk] at r2; subst hj; rw [sl] at r1; cases r1; exact absurd r2 (h5 k f q2)
      · rw [hj, hk]
  · rcases snoc_get q with ⟨hj, q⟩ | ⟨hj, _⟩
    · rw [sg hj]; exact R.par j e q hl
    · have := R.len
      omega
theorem Rst.unsnoc {s : S} {v : Option V} (R : Rst K c G H (σ ++ [v]) (ρ ++ [s])) : Rst K c G H σ ρ := by
  have hl : ρ.length = σ.length := by
    have := R.len
    rw [List.length_append, List.length_append] at this
    simpa using this
  have up : ∀ {j : Nat} {t : S}, ρ[j]? = some t → (ρ ++ [s])[j]? = some t ∧ (σ ++ [v])[j]? = σ[j]? := fun {j t} h => by
    have hj := (List.getElem?_eq_some_iff.mp h).1
    exact ⟨by rw [List.getElem?_append_left hj]; exact h, List.getElem?_append_left (hl ▸ hj)⟩
  refine ⟨R.fh, R.gh, R.fg, hl, fun j e q => ?_, fun j e q => ?_, fun j k e f b q1 q2 r1 r2 => ?_, fun j e q hlt => ?_⟩
  · obtain ⟨h1, h2⟩ := up q
    rw [← h2]; exact R.val j e h1
  · obtain ⟨h1, h2⟩ := up q
    rw [← h2]; exact R.own j e h1
  · obtain ⟨h1, h2⟩ := up q1
    obtain ⟨h3, h4⟩ := up q2
    rw [← h2] at r1
    rw [← h4] at r2
    exact R.ne j k e f b h1 h3 r1 r2
  · obtain ⟨h1, h2⟩ := up q
    rw [← h2]; exact R.par j e h1 hlt
theorem Rst.last {d : D} {v : V} (R : Rst K c G H (σ ++ [some v]) (ρ ++ [.own d])) : RpR K c G H σ ρ v (.own d) := by
  have hl : ρ.length = σ.length := by
    have := R.len
    rw [List.length_append, List.length_append] at this
    simpa using this
  have l1 : (ρ ++ [S.own d])[ρ.length]? = some (.own d) := by rw [List.getElem?_append_right (Nat.le_refl _), Nat.sub_self]; rfl
  have l2 : (σ ++ [some v])[ρ.length]? = some (some v) := by rw [hl, List.getElem?_append_right (Nat.le_refl _), Nat.sub_self]; rfl
  obtain ⟨a, h1, h2, h3, h4⟩ := R.own _ _ l1
  rw [l2] at h1
  have e : v = .ref a := by simpa using h1
  subst e
  refine ⟨a, rfl, h2, h3, h4, fun j e q z => ?_⟩
  have hj := (List.getElem?_eq_some_iff.mp q).1
  have := R.ne j ρ.length e d a (by rw [List.getElem?_append_left hj]; exact q) l1 (by rw [List.getElem?_append_left (hl ▸ hj)]; exact z) l2
  omega
/-- the new object and its dict -/
theorem Rst.made (R : Rst K c G H σ ρ) (hx : H x = none) (hdx : H dx = none) (ne : dx ≠ x) {n : Str} : Rst K c G (upd (upd H dx (.own x)) x (.ins (He.ga K n) dx [])) σ ρ ∧ RpR K c G (upd (upd H dx (.own x)) x (.ins (He.ga K n) dx [])) σ ρ (.ref x) (.own (.obj n [] [])) := by
  have hx1 : upd H dx (.own x) x = none := by rw [upd_ne (Ne.symm ne)]; exact hx
  have R1 := (R.laid (o := .own x) hdx).laid (o := .ins (He.ga K n) dx []) hx1
  refine ⟨R1, x, rfl, R.g_none hx, R.f_none hx, ⟨dx, [], upd_same, by rw [upd_ne ne, upd_same], R.g_none hdx, R.f_none hdx, ne, rfl, rfl⟩, R.not_slot hx⟩
theorem back1_snoc {i : Nat} {s t : S} (hi : i < ρ.length) : back1 i s (ρ ++ [t]) = back1 i s ρ ++ [t] := by
  unfold back1
  rw [List.getElem?_append_left hi]
  split
  · rw [List.set_append_left _ _ hi]
  · rfl
theorem back_snoc : ∀ {rs : List Rv} {ss : List S} {ρ : List S} {t : S}, (∀ i, Rv.ali i ∈ rs → i < ρ.length) → back rs ss (ρ ++ [t]) = back rs ss ρ ++ [t]
  | .ali i :: rs, s :: ss, ρ, t, h => by
    unfold back
    rw [back1_snoc (h i (by simp))]
    exact back_snoc fun j hj => by rw [back1_length]; exact h j (by simp [hj])
  | .val _ :: rs, _ :: ss, ρ, t, h => by unfold back; exact back_snoc fun j hj => h j (by simp [hj])
  | .own _ :: rs, _ :: ss, ρ, t, h => by unfold back; exact back_snoc fun j hj => h j (by simp [hj])
  | [], _, ρ, t, h => rfl
  | .ali i :: rs, [], ρ, t, h => rfl
  | .val _ :: rs, [], ρ, t, h => rfl
  | .own _ :: rs, [], ρ, t, h => rfl
end
/-- C(..): the new instance is the first argument -/
def makeM (n : Str) (mu : List Bool) (fn : Fn) (rs : List Rv) : M Rv := fun ρ => match prep mu rs ρ with
  | some (.ok rs' ρ1) => if dist rs' = true then (match ssOfs ρ1 rs' with
    | some ss => (match fn (.own (.obj n [] []) :: ss) with
      | some (.ret (.val .non) (.own d :: ss')) => some (.ok (.own d) (back rs' ss' ρ1))
      | some (.ex e (_ :: ss')) => some (.ex e (back rs' ss' ρ1))
      | _ => none)
    | none => none) else none
  | _ => none
theorem ssOf_lt {ρ : List S} {i : Nat} {s : S} (h : ssOf ρ (.ali i) = some s) : i < ρ.length := by
  unfold ssOf at h
  dsimp only at h
  cases q : ρ[i]? with
  | none => rw [q] at h; cases h
  | some t => exact (List.getElem?_eq_some_iff.mp q).1
theorem ssOfs_lt {ρ : List S} : ∀ {rs : List Rv} {ss : List S}, ssOfs ρ rs = some ss → ∀ i, Rv.ali i ∈ rs → i < ρ.length
  | [], _, _, i, hi => by cases hi
  | r :: rs, ss, h, i, hi => by
    unfold ssOfs at h
    cases e1 : ssOf ρ r with
    | none => rw [e1] at h; cases h
    | some s =>
      cases e2 : ssOfs ρ rs with
      | none => rw [e1, e2] at h; cases h
      | some ss2 =>
        rcases List.mem_cons.mp hi with e | hi
        · subst e; exact ssOf_lt e1
        · exact ssOfs_lt e2 i hi
theorem ssOf_snoc {ρ : List S} {t : S} {r : Rv} {s : S} (h : ssOf ρ r = some s) : ssOf (ρ ++ [t]) r = some s := by
  cases r with
  | val d => exact h
  | own d => exact h
  | ali i =>
    have hi := ssOf_lt h
    unfold ssOf at h ⊢
    dsimp only at h ⊢
    rw [List.getElem?_append_left hi]; exact h
theorem ssOfs_snoc {ρ : List S} {t : S} : ∀ {rs : List Rv} {ss : List S}, ssOfs ρ rs = some ss → ssOfs (ρ ++ [t]) rs = some ss
  | [], _, h => h
  | r :: rs, ss, h => by
    unfold ssOfs at h ⊢
    cases e1 : ssOf ρ r with
    | none => rw [e1] at h; cases h
    | some s =>
      cases e2 : ssOfs ρ rs with
      | none => rw [e1, e2] at h; cases h
      | some ss2 =>
        rw [e1, e2] at h
        rw [ssOf_snoc e1, ssOfs_snoc e2]; exact h
theorem RpRs.snoc {K : PySem.W.Frag} {G : Hp} {σ : L2.St} {v : Option V} : ∀ {vs : List V} {rs : List Rv}, RpRs K G σ vs rs → RpRs K G (σ ++ [v]) vs rs
  | [], [], _ => trivial
  | u :: vs, .val d :: rs, ⟨h1, h2⟩ => ⟨h1, h2.snoc⟩
  | u :: vs, .ali i :: rs, ⟨h1, h2⟩ => ⟨by rw [List.getElem?_append_left (List.getElem?_eq_some_iff.mp h1).1]; exact h1, h2.snoc⟩
  | [], _ :: _, h => h.elim
  | _ :: _, [], h => h.elim
  | _ :: _, .own _ :: _, h => h.elim
section
variable {X : Cx} {W : WX} {x : Str} {k np : Nat} {fn : Fn} {mu : List Bool} {e o : Expr} {es : List Expr} {ga : M (List Rv)} {p pos : Pos}
/-- the class of that name is made by an __init__ that keeps a promise of data -/
structure DM (P : Program) (w : World) (K : PySem.W.Frag) (mg : Str → Option Value) (base : Heap) (x : Str) (k np : Nat) (fn : Fn) : Prop where
  len : ∀ ss o, fn ss = some o → ss.length = np
  ex : ∃ (f : Addr) (fd : FuncData) (ps : List Str), mg x = some (.ref (He.ga K x)) ∧ Mk K (He.ga K x) f ∧ Binds K fd ps [] ∧ FnOk P w K mg base (L2.CX P w) k f fd ps (spD K np fn)
def tMakeS (C : Addr) (sp : Sp) (E : L2.St → XK) (t : TA) : TE := fun σ H Q => t σ H fun vs H1 => ∀ x dx, H1 x = none → H1 dx = none → dx ≠ x →
  sp (.ref x :: vs) (upd (upd H1 dx (.own x)) x (.ins C dx [])) (fun v H2 => v = .non ∧ Q (.ref x) H2) (E σ)
theorem run_makeS {C f : Addr} {fd : FuncData} {ps : List Str} {sp : Sp} {E : L2.St → XK} {CXx : CXT} {pins : List (Addr × Obj)} {σ : L2.St} {H : Hp} {s : Shared} {Q : VK} {us : List Value} {vs : List V} (Mx : Mk X.K C f) (F : FnOk X.prog X.w X.K X.mg X.base CXx k f fd ps sp) (hr : Room (k + 1) X.A) (hb : Binds X.K fd ps [])
    (hx : PassesAt CXx X σ (E σ)) (I : Inv X pins σ H s) (r : Vals vs us)
    (h : ∀ x dx, H x = none → H dx = none → dx ≠ x → sp (.ref x :: vs) (upd (upd H dx (.own x)) x (.ins C dx [])) (fun v H2 => v = .non ∧ Q (.ref x) H2) (E σ)) :
    wpAny (model X.prog X.w) X.A (call (.ref C) us) (EP X pins σ Q) X.xe s := by
  have hq := h (s.heap.objs.size + 1) s.heap.objs.size (I.hok.fresh (Nat.le_succ _)) (I.hok.fresh (Nat.le_refl _)) (Nat.ne_of_lt (Nat.lt_succ_self _))
  have I2 := Inv.made (C := C) I
  have r2 : Vals (V.ref (s.heap.objs.size + 1) :: vs) (Value.ref (s.heap.objs.size + 1) :: us) := .cons rfl r
  have hl : (Value.ref (s.heap.objs.size + 1) :: us).length = ps.length := by
    have e := r2.length
    rw [F.len _ _ _ _ hq] at e
    exact e.symm
  refine wpAny_call (make_map (f := f) I.kIn Mx.makes Mx.init (beq_iff_eq.mp Mx.fn) (codeAny_mono (F.run _ X.stack _ _ ⟨Value.ref (s.heap.objs.size + 1) :: us, []⟩ (Value.ref (s.heap.objs.size + 1) :: us) _ _ (E σ) (hr.make C us [])
    (I2.env0.make C us []) (by
      have := hb _ (Value.ref (s.heap.objs.size + 1) :: us) I2.kIn (by rw [List.append_nil]; exact hl)
      rw [List.append_nil] at this; exact this) r2 hq) fun r s' hq' => ?_))
  cases r with
  | error e => exact hx pins _ _ e s' I2 hq'
  | ok fl =>
    cases fl with
    | ret u =>
      obtain ⟨v, H', I3, rv, ev, q3⟩ := I2.after hq'
      subst ev
      exact ⟨rv, ⟨V.ref (s.heap.objs.size + 1), H', I3, rfl, q3⟩⟩
    | next => exact False.elim hq'
    | brk => exact False.elim hq'
    | cont => exact False.elim hq'
theorem pe_makeS {C f : Addr} {fd : FuncData} {ps : List Str} {sp : Sp} {E : L2.St → XK} {CXx : CXT} {t : TA} (Mx : Mk X.K C f) (F : FnOk X.prog X.w X.K X.mg X.base CXx k f fd ps sp) (hr : Room (k + 1) X.A) (hg : Gl X x) (hm : X.mg x = some (.ref C)) (hb : Binds X.K fd ps []) (hx : ∀ σ, PassesAt CXx X σ (E σ))
    (ha : PA X (e :: es) t) (hdb : (x == ("__debug__" : Str)) = false := by decide) (he : starEach (e :: es) X.env = (false, eval e X.env) :: starEach es X.env := by rfl) (hpl : (backTo pos (starEach es X.env)).any (·.1) = false := by rfl) :
    PE X (.Call (.Name x p) (e :: es) [] pos) (tMakeS C sp E t) := by
  refine ⟨fun pins s σ H Q I h => ?_⟩
  refine wpAny_Call_Name_kw (ld_glob I hg hm ?_ hdb)
  refine PySem.W.callWith_K (h₀ := X.base) I.ok.mod.kin Mx.kp (thn (ha.run pos pins s σ H _ I h) fun us s1 ⟨vs, H1, I1, r, q⟩ => ⟨I1.kIn, ?_⟩) he hpl
  exact run_makeS Mx F hr hb (hx σ) I1 r q
def eMake (n : Str) (mu : List Bool) (fn : Fn) (ga : M (List Rv)) : M Rv := do
  let rs ← ga
  makeM n mu fn rs
/-- the arguments as they came, no more than there are slots -/
def Cn.cut (c : Cn) (n : Nat) : Cn := { c with s0 := c.s0.take n }
theorem Rst.cut {K : PySem.W.Frag} {c : Cn} {G H : Hp} {σ : L2.St} {ρ : List S} (R : Rst K c G H σ ρ) : Rst K (c.cut σ.length) G H σ ρ :=
  ⟨R.fh, R.gh, R.fg, R.len, R.val, R.own, R.ne, fun i d e hl => by
    have h1 : i < (c.s0.take σ.length).length := hl
    rw [List.length_take] at h1
    show σ[i]? = (c.s0.take σ.length)[i]?
    rw [List.getElem?_take_of_lt (by omega)]
    exact R.par i d e (by omega)⟩
theorem Rst.uncut {K : PySem.W.Frag} {c : Cn} {G H : Hp} {σ : L2.St} {ρ : List S} (R : Rst K (c.cut σ.length) G H σ ρ) : Rst K c G H σ ρ :=
  ⟨R.fh, R.gh, R.fg, R.len, R.val, R.own, R.ne, fun i d e hl => by
    have hi : i < σ.length := by
      rw [← R.len]; exact (List.getElem?_eq_some_iff.mp e).1
    have h2 : i < (c.cut σ.length).s0.length := by
      show i < (c.s0.take σ.length).length
      rw [List.length_take]; omega
    have h3 : σ[i]? = (c.s0.take σ.length)[i]? := R.par i d e h2
    rw [h3, List.getElem?_take_of_lt hi]⟩
theorem make_sp {c : Cn} {G0 G H : Hp} {σ : L2.St} {ρ : List S} {rs : List Rv} {vs : List V} {Q : VK} {n : Str} {a dx : Addr} (R : Rst X.K c G H σ ρ) (s0 : Same G0 G) (hv : RpRs X.K G σ vs rs) (hl : ∀ ss o, fn ss = some o → ss.length = np)
    (w : wpM (makeM n mu fn rs ρ) (fun r ρ' => ∀ v G' H', Rst X.K c G' H' σ ρ' → Same G0 G' → RpR X.K c G' H' σ ρ' v r → Q v H') (EXk X.K c W σ G0)) (hx : H a = none) (hdx : H dx = none) (ne : dx ≠ a) :
    spD X.K np fn (.ref a :: vs) (upd (upd H dx (.own a)) a (.ins (He.ga X.K n) dx [])) (fun v H2 => v = .non ∧ Q (.ref a) H2) (WE W σ) := by
  unfold makeM at w
  have wp : wpM (prep mu rs ρ) (fun rs' ρ1 => wpM (if dist rs' = true then (match ssOfs ρ1 rs' with
    | some ss => (match fn (.own (.obj n [] []) :: ss) with
      | some (.ret (.val .non) (.own d :: ss')) => some (.ok (.own d) (back rs' ss' ρ1))
      | some (.ex e (_ :: ss')) => some (.ex e (back rs' ss' ρ1))
      | _ => none)
    | none => none) else none) (fun r ρ' => ∀ v G' H', Rst X.K c G' H' σ ρ' → Same G0 G' → RpR X.K c G' H' σ ρ' v r → Q v H') (EXk X.K c W σ G0)) (fun _ _ => False) := by
    cases q : prep mu rs ρ with
    | none => rw [q] at w; exact w
    | some o => cases o with
      | ok a ρ1 => rw [q] at w; exact w
      | ex e ρ1 => rw [q] at w; exact w.elim
  obtain ⟨rs', G1, ρ1, s1, R1, k1, w1⟩ := prep_wp R hv wp
  by_cases hd : dist rs' = true
  · rw [if_pos hd] at w1
    cases hs : ssOfs ρ1 rs' with
    | none => rw [hs] at w1; exact w1.elim
    | some ss =>
      rw [hs] at w1
      dsimp only at w1
      obtain ⟨R2, k2⟩ := R1.cut.made (n := n) hx hdx ne
      have R3 := R2.snoc (by show (c.s0.take σ.length).length ≤ σ.length; rw [List.length_take]; omega) k2
      have hlen : ρ1.length = σ.length := R1.len
      have get0 : (ρ1 ++ [S.own (.obj n [] [])])[ρ1.length]? = some (.own (.obj n [] [])) := by rw [List.getElem?_append_right (Nat.le_refl _), Nat.sub_self]; rfl
      have gets : (σ ++ [some (V.ref a)])[ρ1.length]? = some (some (V.ref a)) := by rw [hlen, List.getElem?_append_right (Nat.le_refl _), Nat.sub_self]; rfl
      have lt := ssOfs_lt hs
      have hd3 : dist (.ali ρ1.length :: rs') = true := by
        show (!rs'.any (isAli ρ1.length) && dist rs') = true
        rw [hd, Bool.and_true]
        have : rs'.any (isAli ρ1.length) = false := by
          rw [List.any_eq_false]
          intro r hr z
          cases r with
          | ali j =>
            have : ρ1.length = j := by simpa [isAli] using z
            have h2 := lt j hr
            omega
          | val d => cases z
          | own d => cases z
        rw [this]; rfl
      have hs3 : ssOfs (ρ1 ++ [S.own (.obj n [] [])]) (.ali ρ1.length :: rs') = some (.own (.obj n [] []) :: ss) := by
        unfold ssOfs
        rw [ssOfs_snoc hs]
        have : ssOf (ρ1 ++ [S.own (.obj n [] [])]) (.ali ρ1.length) = some (.own (.obj n [] [])) := by
          unfold ssOf
          dsimp only
          rw [get0]
        rw [this]
      have hv3 : RpRs X.K G1 (σ ++ [some (V.ref a)]) (V.ref a :: vs) (.ali ρ1.length :: rs') := ⟨gets, k1.snoc⟩
      cases hf : fn (.own (.obj n [] []) :: ss) with
      | none => rw [hf] at w1; exact w1.elim
      | some o =>
        rw [hf] at w1
        refine ⟨⟨calleeF (σ ++ [some (V.ref a)]) (ρ1 ++ [S.own (.obj n [] [])]) G1 _ (.ali ρ1.length :: rs'), (V.ref a :: vs).map some⟩, G1, _, o, by rw [← hl _ o hf]; exact (dargs_get hv3 hs3).1.symm, rfl, R3.callee hv3 hd3 hs3, hf, ?_⟩
        have fin : ∀ {s0' : S} {ss' : List S} {G' H' : Hp}, Same G1 G' → Rst X.K ⟨calleeF (σ ++ [some (V.ref a)]) (ρ1 ++ [S.own (.obj n [] [])]) G1 _ (.ali ρ1.length :: rs'), (V.ref a :: vs).map some⟩ G' H' ((V.ref a :: vs).map some) (s0' :: ss') →
            ∃ t, Rst X.K (c.cut σ.length) G' H' (σ ++ [some (V.ref a)]) (back rs' ss' ρ1 ++ [t]) ∧ ∀ d, s0' = .own d → t = .own d := fun {s0' ss' G' H'} sm R' => by
          have R4 := R3.called hv3 hs3 sm R'
          have e : back (.ali ρ1.length :: rs') (s0' :: ss') (ρ1 ++ [S.own (.obj n [] [])]) = back rs' ss' ρ1 ++ [ownOr s0'] := by
            conv => lhs; unfold back
            have e1 : back1 ρ1.length s0' (ρ1 ++ [S.own (.obj n [] [])]) = ρ1 ++ [ownOr s0'] := by
              unfold back1
              rw [get0]
              show (if true = true then _ else _) = _
              rw [if_pos rfl, List.set_append_right _ _ (Nat.le_refl _), Nat.sub_self]
              rfl
            rw [e1]
            exact back_snoc lt
          rw [e] at R4
          exact ⟨_, R4, fun d hd => by rw [hd]; rfl⟩
        cases o with
        | ret q ss' =>
          intro v G' H' R' s' kq
          cases q with
          | val d =>
            cases d <;> first
              | exact w1.elim
              | (cases ss' with
                | nil => exact w1.elim
                | cons s0' ss' =>
                  cases s0' with
                  | no => exact w1.elim
                  | val _ => exact w1.elim
                  | own d =>
                    obtain ⟨t, R5, ht⟩ := fin s' R'
                    rw [ht d rfl] at R5
                    exact ⟨kq, w1 (.ref a) G' H' R5.unsnoc.uncut ((s0.trans s1).trans s') R5.last⟩)
          | own d => exact w1.elim
          | ali i => exact w1.elim
        | ex e ss' =>
          intro cls d G' H' R' s' xa
          cases ss' with
          | nil => exact w1.elim
          | cons s0' ss' =>
            obtain ⟨t, R5, _⟩ := fin s' R'
            exact w1 cls d G' H' R5.unsnoc.uncut ((s0.trans s1).trans s') xa
  · rw [if_neg hd] at w1; exact w1.elim
theorem de_make (mu : List Bool) (go : Go X W) (F : DM X.prog X.w X.K X.mg X.base x k np fn) (hr : Room (k + 1) X.A) (hg : Gl X x) (ha : DA X W (e :: es) ga)
    (hdb : (x == ("__debug__" : Str)) = false := by decide) (he : starEach (e :: es) X.env = (false, eval e X.env) :: starEach es X.env := by rfl) (hpl : (backTo pos (starEach es X.env)).any (·.1) = false := by rfl) :
    DE X W (.Call (.Name x p) (e :: es) [] pos) (eMake x mu fn ga) := by
  obtain ⟨f, fd, ps, hm, hk, hb, FO⟩ := F.ex
  refine ⟨(pe_makeS (E := WE W) hk FO hr hg hm hb (wish_of go.tk) ha.pa hdb he hpl).weak fun σ H Q ⟨c, G, ρ, R, w⟩ => ?_⟩
  refine tg_step R (Same.refl G) w fun rs ρ1 vs G1 H1 R1 s1 _ k1 w1 => ?_
  exact fun x dx hx hdx ne => make_sp R1 s1 k1 F.len w1 hx hdx ne
/-! ### methods -/
/-- the method m of the class of that name keeps a promise of data -/
structure DMeth (P : Program) (w : World) (K : PySem.W.Frag) (mg : Str → Option Value) (base : Heap) (n m : Str) (k np : Nat) (fn : Fn) : Prop where
  len : ∀ ss o, fn ss = some o → ss.length = np
  cl : Cls K (He.ga K n)
  ex : ∃ (f : Addr) (fd : FuncData) (ps : List Str), Meth K (He.ga K n) m f ∧ Binds K fd ps [] ∧ FnOk P w K mg base (L2.CX P w) k f fd ps (spD K np fn)
def tMethS (C : Addr) (m : Str) (sp : Sp) (E : L2.St → XK) (ta : TE) (t : TA) : TE := fun σ H Q => ta σ H fun x H1 => ∃ a dx fs, x = .ref a ∧ H1 a = some (.ins C dx fs) ∧ fs.lookup m = none ∧
  t σ H1 fun vs H2 => sp (x :: vs) H2 Q (E σ)
theorem pe_methS {C f : Addr} {m : Str} {fd : FuncData} {ps : List Str} {sp : Sp} {E : L2.St → XK} {CXx : CXT} {t : TA} {ta : TE} {apos : Pos} {pl : Sem Bool} (he : PE X o ta) (c : Cls X.K C) (hm : Meth X.K C m f) (F : FnOk X.prog X.w X.K X.mg X.base CXx k f fd ps sp) (hr : Room k X.A) (hb : Binds X.K fd ps []) (hx : ∀ σ, PassesAt CXx X σ (E σ)) (ha : PA X (e :: es) t)
    (hst : starEach (e :: es) X.env = (false, eval e X.env) :: starEach es X.env := by rfl) (hpl : (backTo pos (starEach es X.env)).any (·.1) = false := by rfl)
    (ht : eval (.Call (.Attribute o m apos) (e :: es) [] pos) X.env = (do
      let ov ← eval o X.env
      standAt apos.atName
      let (f, first) ← holding [ov] (getMethod ov m pl)
      callWith pos f first (backTo pos (starEach (e :: es) X.env)) (backToKw pos (keywordEach [] X.env))) := by rfl) :
    PE X (.Call (.Attribute o m apos) (e :: es) [] pos) (tMethS C m sp E ta t) := by
  refine ⟨fun pins s σ H Q I h => ?_⟩
  refine PySem.W.methodCall_KW (pl := pl) (thn (he.run pins s σ H _ I h) fun u s1 ⟨x, H1, I1, rx, a, dx, fs, ex, ea, l, q⟩ => ?_) ht
  subst ex
  obtain rfl : u = Value.ref a := rx
  refine getmeth_ok I1 ea c hm l ?_
  refine PySem.W.callWith_K (first := [.ref a]) (h₀ := X.base) I.ok.mod.kin hm.kp (thn (ha.run pos pins s1 σ H1 _ I1 q) fun us s2 ⟨vs, H2, I2, r, q2⟩ => ⟨I2.kIn, ?_⟩) hst hpl
  have z := run_fnSD (us := .ref a :: us) (vs := .ref a :: vs) (dvs := []) (ds := []) (E := E) F hr hb .nil (hx σ) I2 (.cons rfl r) (by rw [List.append_nil]; exact q2)
  exact z
theorem pe_methS0 {C f : Addr} {m : Str} {fd : FuncData} {ps : List Str} {sp : Sp} {E : L2.St → XK} {CXx : CXT} {ta : TE} {apos : Pos} {pl : Sem Bool} (he : PE X o ta) (c : Cls X.K C) (hm : Meth X.K C m f) (F : FnOk X.prog X.w X.K X.mg X.base CXx k f fd ps sp) (hr : Room k X.A) (hb : Binds X.K fd ps []) (hx : ∀ σ, PassesAt CXx X σ (E σ))
    (ht : eval (.Call (.Attribute o m apos) [] [] pos) X.env = (do
      let ov ← eval o X.env
      standAt apos.atName
      let (f, first) ← holding [ov] (getMethod ov m pl)
      callWith pos f first (backTo pos (starEach [] X.env)) (backToKw pos (keywordEach [] X.env))) := by rfl) :
    PE X (.Call (.Attribute o m apos) [] [] pos) (tMethS C m sp E ta tNil) := by
  refine ⟨fun pins s σ H Q I h => ?_⟩
  refine PySem.W.methodCall_KW (pl := pl) (thn (he.run pins s σ H _ I h) fun u s1 ⟨x, H1, I1, rx, a, dx, fs, ex, ea, l, q⟩ => ?_) ht
  subst ex
  obtain rfl : u = Value.ref a := rx
  refine getmeth_ok I1 ea c hm l ?_
  exact PySem.W.callWith_K0 (first := [.ref a]) I1.kIn hm.kp (run_fnSD (us := [.ref a]) (vs := [.ref a]) (dvs := []) (ds := []) (E := E) F hr hb .nil (hx σ) I1 (.cons rfl .nil) (by rw [List.append_nil]; exact q))
def ckO (n m : Str) (r : Rv) : M Unit := do
  let d ← peek r
  match d with
  | .obj n' ns _ => if n' = n ∧ m ∉ ns then pure () else M.fail
  | _ => M.fail
def eMeth (n m : Str) (mu : List Bool) (fn : Fn) (fo : M Rv) (ga : M (List Rv)) : M Rv := do
  let r ← fo
  ckO n m (settle r)
  let rs ← ga
  callM mu fn (settle r :: rs)
theorem ckO_wp {K : PySem.W.Frag} {c : Cn} {G H : Hp} {σ : L2.St} {ρ : List S} {v : V} {r : Rv} {n m : Str} {OK : Unit → List S → Prop} {EX : Xn → List S → Prop} (R : Rst K c G H σ ρ) (k : RpR K c G H σ ρ v r) (w : wpM (ckO n m r ρ) OK EX) :
    (∃ a dx fs, v = V.ref a ∧ H a = some (.ins (He.ga K n) dx fs) ∧ fs.lookup m = none) ∧ OK () ρ := by
  obtain ⟨d, kd, w2⟩ := peek_wp R k (wpM_bind w)
  cases d <;> first
    | exact w2.elim
    | (rename_i n' ns ds
       dsimp only at w2
       by_cases hn : n' = n ∧ m ∉ ns
       · rw [if_pos hn] at w2
         obtain ⟨a, dx, xs, h1, h2, _, _⟩ := kd.obj R.gh
         rw [hn.1] at h2
         exact ⟨⟨a, dx, _, h1, h2, no_lookup hn.2⟩, w2⟩
       · rw [if_neg hn] at w2; exact w2.elim)
theorem de_meth {n m : Str} {fo : M Rv} {apos : Pos} {pl : Sem Bool} (mu : List Bool) (go : Go X W) (F : DMeth X.prog X.w X.K X.mg X.base n m k np fn) (hr : Room k X.A) (ho : DE X W o fo) (ha : DA X W (e :: es) ga)
    (hst : starEach (e :: es) X.env = (false, eval e X.env) :: starEach es X.env := by rfl) (hpl : (backTo pos (starEach es X.env)).any (·.1) = false := by rfl)
    (ht : eval (.Call (.Attribute o m apos) (e :: es) [] pos) X.env = (do
      let ov ← eval o X.env
      standAt apos.atName
      let (f, first) ← holding [ov] (getMethod ov m pl)
      callWith pos f first (backTo pos (starEach (e :: es) X.env)) (backToKw pos (keywordEach [] X.env))) := by rfl) :
    DE X W (.Call (.Attribute o m apos) (e :: es) [] pos) (eMeth n m mu fn fo ga) := by
  obtain ⟨f, fd, ps, hm, hb, FO⟩ := F.ex
  refine ⟨(pe_methS (E := WE W) (pl := pl) ho.pe F.cl hm FO hr hb (wish_of go.tk) ha.pa hst hpl ht).weak fun σ H Q ⟨c, G, ρ, R, w⟩ => ?_⟩
  refine tg_step R (Same.refl G) w fun r ρ1 v G1 H1 R1 s1 _ k1 w1 => ?_
  obtain ⟨G1', s1', R1', k1'⟩ := settle_ok R1 k1
  obtain ⟨⟨a, dx, fs, ev, hH, hno⟩, w2⟩ := ckO_wp R1' k1'.one (wpM_bind w1)
  refine ⟨a, dx, fs, ev, hH, hno, ?_⟩
  refine tg_step R1' (s1.trans s1') w2 fun rs ρ2 vs G2 H2 R2 s2 s12 k2 w3 => ?_
  exact call_sp R2 s2 (RpRs.cons (k1'.mono s12) k2) F.len w3
theorem de_meth0 {n m : Str} {fo : M Rv} {apos : Pos} {pl : Sem Bool} (mu : List Bool) (go : Go X W) (F : DMeth X.prog X.w X.K X.mg X.base n m k np fn) (hr : Room k X.A) (ho : DE X W o fo)
    (ht : eval (.Call (.Attribute o m apos) [] [] pos) X.env = (do
      let ov ← eval o X.env
      standAt apos.atName
      let (f, first) ← holding [ov] (getMethod ov m pl)
      callWith pos f first (backTo pos (starEach [] X.env)) (backToKw pos (keywordEach [] X.env))) := by rfl) :
    DE X W (.Call (.Attribute o m apos) [] [] pos) (eMeth n m mu fn fo aNil) := by
  obtain ⟨f, fd, ps, hm, hb, FO⟩ := F.ex
  refine ⟨(pe_methS0 (E := WE W) (pl := pl) ho.pe F.cl hm FO hr hb (wish_of go.tk) ht).weak fun σ H Q ⟨c, G, ρ, R, w⟩ => ?_⟩
  refine tg_step R (Same.refl G) w fun r ρ1 v G1 H1 R1 s1 _ k1 w1 => ?_
  obtain ⟨G1', s1', R1', k1'⟩ := settle_ok R1 k1
  obtain ⟨⟨a, dx, fs, ev, hH, hno⟩, w2⟩ := ckO_wp R1' k1'.one (wpM_bind w1)
  refine ⟨a, dx, fs, ev, hH, hno, ?_⟩
  have w3 : wpM (callM mu fn [settle r] ρ1) _ _ := w2
  exact call_sp R1' (s1.trans s1') (RpRs.cons (vs := []) (rs := []) k1' trivial) F.len w3
end
end Dl

/-! Dl13: zip, own comparisons. -/
namespace Dl
open PySem L2

/-! ### zip -/
def zipD (as bs : List D) : List D := List.zipWith (fun a b => D.tup [a, b]) as bs
theorem zipD_get {as bs : List D} {i : Nat} {a b : D} (h1 : as[i]? = some a) (h2 : bs[i]? = some b) : (zipD as bs)[i]? = some (.tup [a, b]) := by
  unfold zipD
  rw [List.getElem?_zipWith, h1, h2]
theorem zipD_len {as bs : List D} : (zipD as bs).length = min as.length bs.length := by
  unfold zipD; rw [List.length_zipWith]
theorem walks_zip {K : PySem.W.Frag} {G0 : Hp} {a b : Addr} {xs ys : List V} {as bs : List D} (h : G0 a = some (.lst xs)) (h2 : G0 b = some (.lst ys)) (r : RpL K G0 as xs) (r2 : RpL K G0 bs ys) (hz : (zipD as bs).length ≤ sizeLine) : Walks K G0 (Itz K a b) (zipD as bs) where
  sz := hz
  go := fun {c G H σ ρ i} R s hi => by
    rw [zipD_len] at hi
    exact ⟨xs, ys, xs[i]'(by rw [r.length]; omega), ys[i]'(by rw [r2.length]; omega), .inl (.inl (R.gh _ _ (s _ _ h))), .inl (.inl (R.gh _ _ (s _ _ h2))), List.getElem?_eq_getElem _, List.getElem?_eq_getElem _⟩
  yld := fun {c G H H' σ ρ i v} R s ⟨T, x, y, ev, hT, eH, f1, f2⟩ hi => by
    subst ev eH
    obtain ⟨d, q1, q2⟩ := (r.mono s).get' (f1 xs (.inl (.inl (R.gh _ _ (s _ _ h)))))
    obtain ⟨e, q3, q4⟩ := (r2.mono s).get' (f2 ys (.inl (.inl (R.gh _ _ (s _ _ h2)))))
    obtain ⟨G', s', R', k⟩ := R.new_tup (xs := [x, y]) (ds := [d, e]) hT ⟨x, [y], rfl, q2, y, [], rfl, q4, rfl⟩
    exact ⟨_, G', zipD_get q1 q3, R', s', k⟩
  stop := fun {c G H σ ρ} R s => ⟨xs, ys, .inl (.inl (R.gh _ _ (s _ _ h))), .inl (.inl (R.gh _ _ (s _ _ h2))), by rw [zipD_len, r.length, r2.length]; omega⟩
theorem walks_zipT {K : PySem.W.Frag} {G0 : Hp} {a b : Addr} {xs ys : List V} {as bs : List D} (h : SqT K G0 a xs) (h2 : SqT K G0 b ys) (r : RpL K G0 as xs) (r2 : RpL K G0 bs ys) (hz : (zipD as bs).length ≤ sizeLine) : Walks K G0 (RZ.ItzT K a b) (zipD as bs) where
  sz := hz
  go := fun {c G H σ ρ i} R s hi => by
    rw [zipD_len] at hi
    exact ⟨xs, ys, xs[i]'(by rw [r.length]; omega), ys[i]'(by rw [r2.length]; omega), Same.seqt (s.trans R.gh) h, Same.seqt (s.trans R.gh) h2, List.getElem?_eq_getElem _, List.getElem?_eq_getElem _⟩
  yld := fun {c G H H' σ ρ i v} R s ⟨T, x, y, ev, hT, eH, f1, f2⟩ hi => by
    subst ev eH
    obtain ⟨d, q1, q2⟩ := (r.mono s).get' (f1 xs (Same.seqt (s.trans R.gh) h))
    obtain ⟨e, q3, q4⟩ := (r2.mono s).get' (f2 ys (Same.seqt (s.trans R.gh) h2))
    obtain ⟨G', s', R', k⟩ := R.new_tup (xs := [x, y]) (ds := [d, e]) hT ⟨x, [y], rfl, q2, y, [], rfl, q4, rfl⟩
    exact ⟨_, G', zipD_get q1 q3, R', s', k⟩
  stop := fun {c G H σ ρ} R s => ⟨xs, ys, Same.seqt (s.trans R.gh) h, Same.seqt (s.trans R.gh) h2, by rw [zipD_len, r.length, r2.length]; omega⟩
def dZip : List D → Option (List D)
  | [.lst as, .lst bs] => if (zipD as bs).length ≤ 16777216 then some (zipD as bs) else none
  | [.tup as, .tup bs] => if (zipD as bs).length ≤ 16777216 then some (zipD as bs) else none
  | _ => none
def iZip (ga : M (List Rv)) : M (List D) := do
  let rs ← ga
  let ds ← toVs rs
  ofO (dZip ds)
section
variable {X : Cx} {W : WX} {np : Nat} {a b e tg : Expr} {es : List Expr} {fa fb : M Rv} {ga : M (List Rv)} {p p2 pos tpos : Pos}
theorem di_zip {elts : List Expr} {kk : Nat} (hg : Gl X "zip") (hm : X.mg "zip" = none) (ha : DA X W [a, b] ga) (hs : starEach [a, b] X.env = (false, eval a X.env) :: starEach [b] X.env := by rfl) (hpl : (backTo pos (starEach [b] X.env)).any (·.1) = false := by rfl) :
    DI X W (.Tuple elts kk tpos) (.Call (.Name "zip" p) [a, b] [] pos) (iZip ga) :=
  ⟨(RZ.pi_zipA hg hm ha.pa hs hpl).weak fun σ H R ⟨c, G, ρ, Rs, w⟩ => by
    refine tg_step Rs (Same.refl G) w fun rs ρ1 vs G1 H1 R1 s1 _ k1 w1 => ?_
    obtain ⟨ds, G2, ρ2, s2, R2, kd, w2⟩ := toVs_wp R1 k1 (wpM_bind w1)
    obtain ⟨q, eq, w3⟩ := ofO_wp w2
    unfold dZip at eq
    split at eq
    · rename_i as bs
      by_cases hz : (zipD as bs).length ≤ 16777216
      · rw [if_pos hz] at eq
        cases eq
        obtain ⟨x, r, rfl, ⟨a1, xs, rfl, h1, h2⟩, y, r', rfl, ⟨b1, ys, rfl, h3, h4⟩, rfl⟩ := kd
        exact ⟨a1, b1, xs, ys, rfl, .inl ⟨.inl (.inl (R2.gh _ _ h1)), .inl (.inl (R2.gh _ _ h3)), w3 _ G2 H1 R2 (s1.trans s2) (walks_zip h1 h3 h2 h4 (by rw [PySem.sizeLine_eq]; omega))⟩⟩
      · rw [if_neg hz] at eq; cases eq
    · rename_i as bs
      by_cases hz : (zipD as bs).length ≤ 16777216
      · rw [if_pos hz] at eq
        cases eq
        obtain ⟨x, r, rfl, ⟨a1, xs, rfl, h1, h2⟩, y, r', rfl, ⟨b1, ys, rfl, h3, h4⟩, rfl⟩ := kd
        exact ⟨a1, b1, xs, ys, rfl, .inr ⟨Same.seqt R2.gh h1, Same.seqt R2.gh h3, w3 _ G2 H1 R2 (s1.trans s2) (walks_zipT h1 h3 h2 h4 (by rw [PySem.sizeLine_eq]; omega))⟩⟩
      · rw [if_neg hz] at eq; cases eq
    · cases eq⟩
end

/-! ### own comparisons -/
section
variable {X : Cx} {W : WX} {a b e o : Expr} {fa fb : M Rv} {p p2 pos : Pos} {k np : Nat} {fn : Fn}
def tCmpS (K : PySem.W.Frag) (C : Addr) (sp : Sp) (E : L2.St → XK) (ta tb : TE) : TE := fun σ H Q => ta σ H fun x H1 => tb σ H1 fun y H2 => ∃ a1 dx fs b1 dy gs, x = .ref a1 ∧ y = .ref b1 ∧ H2 a1 = some (.ins C dx fs) ∧ H2 b1 = some (.ins C dy gs) ∧ sp [x, y] H2 Q (E σ)
theorem inst_of {K : PySem.W.Frag} {pins : List (Addr × Obj)} {σ : L2.St} {H : Hp} {s : Shared} {a1 C dx : Addr} {fs : List (Str × V)} (I : Inv X pins σ H s) (e : H a1 = some (.ins C dx fs)) : ∃ ox od, PySem.W.InstAt s.heap a1 ox C od := by
  obtain ⟨mA, O, _⟩ := ins_get I.hok e
  obtain ⟨od, J, _⟩ := O.look
  exact ⟨_, some od, J⟩
theorem pe_cmpS {op : CmpOp} {C f : Addr} {m : Str} {fd : FuncData} {ps : List Str} {sp : Sp} {E : L2.St → XK} {CXx : CXT} {ta tb : TE} (hop : ∀ a b, compareOp op a b = richCompare op a b) (hd : (cmpInfo op).2.1 = m) (ha : PE X a ta) (hb : PE X b tb) (hm : Meth X.K C m f) (F : FnOk X.prog X.w X.K X.mg X.base CXx k f fd ps sp) (hr : Room k X.A) (hbi : Binds X.K fd ps []) (hx : ∀ σ, PassesAt CXx X σ (E σ))
    (hmk : behindInMarks op b = false := by rfl) : PE X (.Compare a [op] [b] pos) (tCmpS X.K C sp E ta tb) := by
  refine ⟨fun pins s σ H Q I h => ?_⟩
  refine wpAny_Compare1 (binT ha hb I h fun v u s2 x y H2 I2 rx ry q => ?_) hmk
  obtain ⟨a1, dx, fs, b1, dy, gs, rfl, rfl, h1, h2, q⟩ := q
  cases (show v = Value.ref a1 from rx)
  cases (show u = Value.ref b1 from ry)
  obtain ⟨ox, od, J⟩ := inst_of (K := X.K) I2 h1
  obtain ⟨oy, od', J'⟩ := inst_of (K := X.K) I2 h2
  obtain ⟨m', hF⟩ := I2.fr
  rw [hop]
  subst hd
  refine PySem.W.cmp_K (op := op) (tb := .ref C) hr.units0 hF I2.ok.mod.kin J J'.type (by unfold PySem.W.notFirst; rw [beq_self_eq_true, Bool.true_or]) hm.at_ hm.fn ?_
  refine wpAny_mono (run_fnSD (us := [.ref a1, .ref b1]) (vs := [.ref a1, .ref b1]) (dvs := []) (ds := []) (E := E) F hr hbi .nil (hx σ) I2 (.cons rfl (.cons rfl .nil)) (by rw [List.append_nil]; exact q)) (fun w s' z => ?_) fun _ _ x => x
  obtain ⟨z', H', I', rz, qz⟩ := z
  exact SlX.cmpback rz ⟨z', H', I', rz, qz⟩
def ckC (n : Str) (r : Rv) : M Unit := do
  let d ← peek r
  match d with
  | .obj n' _ _ => if n' = n then pure () else M.fail
  | _ => M.fail
def eOwn2 (n : Str) (mu : List Bool) (fn : Fn) (fo fb : M Rv) : M Rv := do
  let r ← fo
  let q ← fb
  ckC n (settle r)
  ckC n (settle q)
  callM mu fn [settle r, settle q]
theorem ckC_wp {K : PySem.W.Frag} {c : Cn} {G H : Hp} {σ : L2.St} {ρ : List S} {v : V} {r : Rv} {n : Str} {OK : Unit → List S → Prop} {EX : Xn → List S → Prop} (R : Rst K c G H σ ρ) (k : RpR K c G H σ ρ v r) (w : wpM (ckC n r ρ) OK EX) :
    (∃ a dx fs, v = V.ref a ∧ H a = some (.ins (He.ga K n) dx fs)) ∧ OK () ρ := by
  obtain ⟨d, kd, w2⟩ := peek_wp R k (wpM_bind w)
  cases d <;> first
    | exact w2.elim
    | (rename_i n' ns ds
       dsimp only at w2
       by_cases hn : n' = n
       · rw [if_pos hn] at w2
         obtain ⟨a, dx, xs, h1, h2, _, _⟩ := kd.obj R.gh
         rw [hn] at h2
         exact ⟨⟨a, dx, _, h1, h2⟩, w2⟩
       · rw [if_neg hn] at w2; exact w2.elim)
theorem own2_sp {n : Str} {mu : List Bool} {E0 : XK} (F : ∀ ss o, fn ss = some o → ss.length = np) {σ : L2.St} {H : Hp} {Q : VK} {c : Cn} {G : Hp} {ρ : List S} (ha : DE X W a fa) (hb : DE X W b fb) (R : Rst X.K c G H σ ρ)
    (w : wpM (eOwn2 n mu fn fa fb ρ) (fun r ρ' => ∀ v G' H', Rst X.K c G' H' σ ρ' → Same G G' → RpR X.K c G' H' σ ρ' v r → Q v H') (EXk X.K c W σ G)) :
    tCmpS X.K (He.ga X.K n) (spD X.K np fn) (WE W) (tD X.K W fa) (tD X.K W fb) σ H Q := by
  refine tg_step R (Same.refl G) w fun r ρ1 v G1 H1 R1 s1 _ k1 w1 => ?_
  obtain ⟨G1', s1', R1', k1'⟩ := settle_ok R1 k1
  refine tg_step R1' (s1.trans s1') w1 fun q ρ2 u G2 H2 R2 s2 s12 k2 w3 => ?_
  obtain ⟨G2', s2', R2', k2'⟩ := settle_ok R2 k2
  have k1'' := (k1'.mono s12).mono s2'
  obtain ⟨⟨a1, dx, fs, e1, h1⟩, w4⟩ := ckC_wp R2' k1''.one (wpM_bind w3)
  obtain ⟨⟨b1, dy, gs, e2, h2⟩, w5⟩ := ckC_wp R2' k2'.one (wpM_bind w4)
  exact ⟨a1, dx, fs, b1, dy, gs, e1, e2, h1, h2, call_sp R2' (s2.trans s2') (RpRs.cons (vs := [u]) (rs := [settle q]) k1'' k2') F w5⟩
theorem de_own_le {n : Str} (mu : List Bool) (go : Go X W) (F : DMeth X.prog X.w X.K X.mg X.base n "__le__" k np fn) (hr : Room k X.A) (ha : DE X W a fa) (hb : DE X W b fb) : DE X W (.Compare a [.LtE] [b] pos) (eOwn2 n mu fn fa fb) := by
  obtain ⟨f, fd, ps, hm, hbi, FO⟩ := F.ex
  exact ⟨(pe_cmpS (op := .LtE) (E := WE W) (fun _ _ => rfl) rfl ha.pe hb.pe hm FO hr hbi (wish_of go.tk) (nomark _)).weak fun σ H Q ⟨c, G, ρ, R, w⟩ => own2_sp (E0 := fun _ _ _ => True) F.len ha hb R w⟩
end
end Dl

/-! Dl14: comparisons as tests, names of types, promises of defs from a head. -/
namespace Dl
open PySem L2
def tCmp (f : M Rv) : M Bool := do
  let r ← f
  match r with
  | .val (.bl b) => pure b
  | _ => M.fail
section
variable {X : Cx} {W : WX} {a b : Expr} {fa fb : M Rv} {pos : Pos} {r : R2} {g : D → D → Option Rv}
theorem tD_cmp {K : PySem.W.Frag} {f : M Rv} {σ : L2.St} {H : Hp} {Q : Bool → Hp → Prop} (h : tDT K W (tCmp f) σ H Q) : tD K W f σ H (fun x H' => ∃ k, x = V.bl k ∧ Q k H') := by
  obtain ⟨c, G, ρ, R, w⟩ := h
  refine tg_step R (Same.refl G) w fun x ρ1 v G1 H1 R1 s1 _ k1 w1 => ?_
  cases x with
  | val d => cases d with
    | bl b => exact ⟨b, k1, w1 b G1 H1 R1 s1 rfl⟩
    | _ => exact w1.elim
  | _ => exact w1.elim
theorem dt_cmp {op : CmpOp} (ho : OpR X (compareOp op) r) (hg : BinR X.K r g) (ha : DE X W a fa) (hb : DE X W b fb) (hm : behindInMarks op b = false := by rfl) : DT X W (.Compare a [op] [b] pos) (tCmp (mBin g fa fb)) :=
  ⟨(pt_cmpR ho ha.pe hb.pe hm).weak fun _ _ _ h => tD_bin hg (tD_cmp h)⟩
theorem dt_lt (ha : DE X W a fa) (hb : DE X W b fb) : DT X W (.Compare a [.Lt] [b] pos) (tCmp (eLt fa fb)) := let ⟨_, h1, h2⟩ := lt_op; dt_cmp h1 h2 ha hb (nomark _)
theorem dt_le (ha : DE X W a fa) (hb : DE X W b fb) : DT X W (.Compare a [.LtE] [b] pos) (tCmp (eLe fa fb)) := let ⟨_, h1, h2⟩ := le_op; dt_cmp h1 h2 ha hb (nomark _)
theorem dt_gt (ha : DE X W a fa) (hb : DE X W b fb) : DT X W (.Compare a [.Gt] [b] pos) (tCmp (eGt fa fb)) := let ⟨_, h1, h2⟩ := gt_op; dt_cmp h1 h2 ha hb (nomark _)
theorem dt_ge (ha : DE X W a fa) (hb : DE X W b fb) : DT X W (.Compare a [.GtE] [b] pos) (tCmp (eGe fa fb)) := let ⟨_, h1, h2⟩ := ge_op; dt_cmp h1 h2 ha hb (nomark _)
theorem dt_eq (hu : Rm X) (ha : DE X W a fa) (hb : DE X W b fb) : DT X W (.Compare a [.Eq] [b] pos) (tCmp (eEq fa fb)) := dt_cmp (op_eqD (Nat.lt_of_succ_lt hu)) eq_ok ha hb (nomark _)
theorem dt_ne (hu : Rm X) (ha : DE X W a fa) (hb : DE X W b fb) : DT X W (.Compare a [.NotEq] [b] pos) (tCmp (eNe fa fb)) := dt_cmp (op_neD (Nat.lt_of_succ_lt hu)) ne_ok ha hb (nomark _)
theorem dt_in (hu : Rm X) (ha : DE X W a fa) (hb : DE X W b fb) (hm : behindInMarks .In b = false := by rfl) : DT X W (.Compare a [.In] [b] pos) (tCmp (eIn fa fb)) := dt_cmp (op_in_seq.or (op_inD hu)) (BinR.or in_ok inD_ok) ha hb hm
theorem dt_notIn (hu : Rm X) (ha : DE X W a fa) (hb : DE X W b fb) (hm : behindInMarks .NotIn b = false := by rfl) : DT X W (.Compare a [.NotIn] [b] pos) (tCmp (eNotIn fa fb)) := dt_cmp (op_notIn_seq.or (op_notInD hu)) (BinR.or notIn_ok notInD_ok) ha hb hm
theorem dt_is (ha : DE X W a fa) (hb : DE X W b fb) : DT X W (.Compare a [.Is] [b] pos) (tCmp (eIs fa fb)) := dt_cmp (op_isN.or op_isBl) is_ok ha hb (nomark _)
theorem dt_isNot (ha : DE X W a fa) (hb : DE X W b fb) : DT X W (.Compare a [.IsNot] [b] pos) (tCmp (eIsNot fa fb)) := dt_cmp (op_notN.or op_notBl) notN_ok ha hb (nomark _)
theorem de_tyN {x : Str} {n : String} (hm : X.mg x = none) (hv : bootBuiltins x = some (.type n)) (hg : Gl X x := by exact rfl) (hn : x ≠ "__name__" := by decide) (hd : (x == ("__debug__" : Str)) = false := by decide) : DE X W (.Name x pos) (eC (.ty n)) :=
  de_cv (v := .ty n) (pe_bltn hg hm hv rfl hn hd) fun _ => rfl
theorem de_len {x : Expr} {ga : M (List Rv)} {p : Pos} (hm : X.mg "len" = none) (ha : DA X W [x] ga) (hg : Gl X "len" := by exact rfl) (he : starEach [x] X.env = (false, eval x X.env) :: starEach [] X.env := by rfl) (hpl : (backTo pos (starEach [] X.env)).any (·.1) = false := by rfl) :
    DE X W (.Call (.Name "len" p) [x] [] pos) (eB gLen ga) := de_B call_len len_ok hg hm boot_len ha (by decide) (by decide) he hpl
theorem de_int1 {x : Expr} {ga : M (List Rv)} {p : Pos} (hm : X.mg "int" = none) (ha : DA X W [x] ga) (hg : Gl X "int" := by exact rfl) (he : starEach [x] X.env = (false, eval x X.env) :: starEach [] X.env := by rfl) (hpl : (backTo pos (starEach [] X.env)).any (·.1) = false := by rfl) :
    DE X W (.Call (.Name "int" p) [x] [] pos) (eB gInt ga) := de_Ty call_int1 int_ok hg hm PyProof.Rows.boot_int ha (by decide) (by decide) he hpl
theorem de_list {x : Expr} {ga : M (List Rv)} {p : Pos} (hm : X.mg "list" = none) (ha : DA X W [x] ga) (hg : Gl X "list" := by exact rfl) (he : starEach [x] X.env = (false, eval x X.env) :: starEach [] X.env := by rfl) (hpl : (backTo pos (starEach [] X.env)).any (·.1) = false := by rfl) :
    DE X W (.Call (.Name "list" p) [x] [] pos) (eB gList ga) := de_Ty call_list_of list_ok hg hm PyProof.Rows.boot_list ha (by decide) (by decide) he hpl
theorem de_tuple {x : Expr} {ga : M (List Rv)} {p : Pos} (hm : X.mg "tuple" = none) (ha : DA X W [x] ga) (hg : Gl X "tuple" := by exact rfl) (he : starEach [x] X.env = (false, eval x X.env) :: starEach [] X.env := by rfl) (hpl : (backTo pos (starEach [] X.env)).any (·.1) = false := by rfl) :
    DE X W (.Call (.Name "tuple" p) [x] [] pos) (eB gTuple ga) := de_Ty call_tuple_of tuple_ok hg hm PyProof.Rows.boot_tuple ha (by decide) (by decide) he hpl
theorem de_max2 {x y : Expr} {ga : M (List Rv)} {p : Pos} (go : Go X W) (hm : X.mg "max" = none) (ha : DA X W [x, y] ga) (hg : Gl X "max" := by exact rfl) (he : starEach [x, y] X.env = (false, eval x X.env) :: starEach [y] X.env := by rfl) (hpl : (backTo pos (starEach [y] X.env)).any (·.1) = false := by rfl) :
    DE X W (.Call (.Name "max" p) [x, y] [] pos) (eB gMax2 ga) := de_B (call_max2 go.calm) max2_ok hg hm PyProof.Rows.boot_max ha (by decide) (by decide) he hpl
theorem de_min2 {x y : Expr} {ga : M (List Rv)} {p : Pos} (go : Go X W) (hm : X.mg "min" = none) (ha : DA X W [x, y] ga) (hg : Gl X "min" := by exact rfl) (he : starEach [x, y] X.env = (false, eval x X.env) :: starEach [y] X.env := by rfl) (hpl : (backTo pos (starEach [y] X.env)).any (·.1) = false := by rfl) :
    DE X W (.Call (.Name "min" p) [x, y] [] pos) (eB gMin2 ga) := de_B (call_min2 go.calm) min2_ok hg hm PyProof.Rows.boot_min ha (by decide) (by decide) he hpl
theorem de_max1 {x : Expr} {ga : M (List Rv)} {p : Pos} (go : Go X W) (hm : X.mg "max" = none) (ha : DA X W [x] ga) (hg : Gl X "max" := by exact rfl) (he : starEach [x] X.env = (false, eval x X.env) :: starEach [] X.env := by rfl) (hpl : (backTo pos (starEach [] X.env)).any (·.1) = false := by rfl) :
    DE X W (.Call (.Name "max" p) [x] [] pos) (eB gMaxL ga) := de_B (cr_max go.calm) maxL_ok hg hm PyProof.Rows.boot_max ha (by decide) (by decide) he hpl
theorem de_min1 {x : Expr} {ga : M (List Rv)} {p : Pos} (go : Go X W) (hm : X.mg "min" = none) (ha : DA X W [x] ga) (hg : Gl X "min" := by exact rfl) (he : starEach [x] X.env = (false, eval x X.env) :: starEach [] X.env := by rfl) (hpl : (backTo pos (starEach [] X.env)).any (·.1) = false := by rfl) :
    DE X W (.Call (.Name "min" p) [x] [] pos) (eB gMinL ga) := de_B (cr_min go.calm) minL_ok hg hm PyProof.Rows.boot_min ha (by decide) (by decide) he hpl
theorem de_sum {x : Expr} {ga : M (List Rv)} {p : Pos} (go : Go X W) (hm : X.mg "sum" = none) (ha : DA X W [x] ga) (hg : Gl X "sum" := by exact rfl) (he : starEach [x] X.env = (false, eval x X.env) :: starEach [] X.env := by rfl) (hpl : (backTo pos (starEach [] X.env)).any (·.1) = false := by rfl) :
    DE X W (.Call (.Name "sum" p) [x] [] pos) (eB gSum ga) := de_B (cr_sum go.calm) sum_ok hg hm PyProof.Rows.boot_sum ha (by decide) (by decide) he hpl
theorem de_all {x : Expr} {ga : M (List Rv)} {p : Pos} (go : Go X W) (hm : X.mg "all" = none) (ha : DA X W [x] ga) (hg : Gl X "all" := by exact rfl) (he : starEach [x] X.env = (false, eval x X.env) :: starEach [] X.env := by rfl) (hpl : (backTo pos (starEach [] X.env)).any (·.1) = false := by rfl) :
    DE X W (.Call (.Name "all" p) [x] [] pos) (eB gAll ga) := de_B (cr_all go.calm) all_ok hg hm PyProof.Rows.boot_all ha (by decide) (by decide) he hpl
theorem de_any {x : Expr} {ga : M (List Rv)} {p : Pos} (go : Go X W) (hm : X.mg "any" = none) (ha : DA X W [x] ga) (hg : Gl X "any" := by exact rfl) (he : starEach [x] X.env = (false, eval x X.env) :: starEach [] X.env := by rfl) (hpl : (backTo pos (starEach [] X.env)).any (·.1) = false := by rfl) :
    DE X W (.Call (.Name "any" p) [x] [] pos) (eB gAny ga) := de_B (cr_any go.calm) any_ok hg hm PyProof.Rows.boot_any ha (by decide) (by decide) he hpl
theorem de_sorted {x : Expr} {ga : M (List Rv)} {p : Pos} (hm : X.mg "sorted" = none) (ha : DA X W [x] ga) (hg : Gl X "sorted" := by exact rfl) (he : starEach [x] X.env = (false, eval x X.env) :: starEach [] X.env := by rfl) (hpl : (backTo pos (starEach [] X.env)).any (·.1) = false := by rfl) :
    DE X W (.Call (.Name "sorted" p) [x] [] pos) (eB gSorted ga) := de_B cr_sortedI sorted_ok hg hm PyProof.Rows.boot_sorted ha (by decide) (by decide) he hpl
theorem de_isi {x y : Expr} {ga : M (List Rv)} {p : Pos} (hm : X.mg "isinstance" = none) (ha : DA X W [x, y] ga) (hg : Gl X "isinstance" := by exact rfl) (he : starEach [x, y] X.env = (false, eval x X.env) :: starEach [y] X.env := by rfl) (hpl : (backTo pos (starEach [y] X.env)).any (·.1) = false := by rfl) :
    DE X W (.Call (.Name "isinstance" p) [x, y] [] pos) (eB gIsi ga) := de_B call_isi isi_ok hg hm PyProof.Rows.boot_isinstance ha (by decide) (by decide) he hpl
end
section
variable {P : Program} {w : World} {K : PySem.W.Frag} {mg : Str → Option Value} {base : Heap} {x m : Str} {j k np : Nat} {fn fn' : Fn}
theorem DF.up (F : DF P w K mg base x j np fn) (h : j ≤ k) : DF P w K mg base x k np fn := let ⟨f, fd, ps, h1, h2, h3, h4⟩ := F.ex; ⟨F.len, f, fd, ps, h1, h2, h3, h4.mono h⟩
theorem DM.up (F : DM P w K mg base x j np fn) (h : j ≤ k) : DM P w K mg base x k np fn := let ⟨f, fd, ps, h1, h2, h3, h4⟩ := F.ex; ⟨F.len, f, fd, ps, h1, h2, h3, h4.mono h⟩
theorem DMeth.up (F : DMeth P w K mg base x m j np fn) (h : j ≤ k) : DMeth P w K mg base x m k np fn := let ⟨f, fd, ps, h1, h2, h3⟩ := F.ex; ⟨F.len, F.cl, f, fd, ps, h1, h2, h3.mono h⟩
/-- fn promises no more than what is kept -/
def Fn.le (fn' fn : Fn) : Prop := ∀ ss o, fn' ss = some o → fn ss = some o
theorem spD_imp {vs : List V} {H : Hp} {Q : VK} {E : XK} (h : Fn.le fn' fn) (q : spD K np fn' vs H Q E) : spD K np fn vs H Q E := let ⟨c, G, ss, o, h1, h2, h3, h4, h5⟩ := q; ⟨c, G, ss, o, h1, h2, h3, h _ _ h4, h5⟩
theorem DF.imp (F : DF P w K mg base x k np fn) (h : Fn.le fn' fn) : DF P w K mg base x k np fn' := let ⟨f, fd, ps, h1, h2, h3, h4⟩ := F.ex; ⟨fun ss o e => F.len ss o (h _ _ e), f, fd, ps, h1, h2, h3, h4.imp fun _ _ _ _ q => spD_imp h q⟩
theorem DM.imp (F : DM P w K mg base x k np fn) (h : Fn.le fn' fn) : DM P w K mg base x k np fn' := let ⟨f, fd, ps, h1, h2, h3, h4⟩ := F.ex; ⟨fun ss o e => F.len ss o (h _ _ e), f, fd, ps, h1, h2, h3, h4.imp fun _ _ _ _ q => spD_imp h q⟩
theorem DMeth.imp (F : DMeth P w K mg base x m k np fn) (h : Fn.le fn' fn) : DMeth P w K mg base x m k np fn' := let ⟨f, fd, ps, h1, h2, h3⟩ := F.ex; ⟨fun ss o e => F.len ss o (h _ _ e), F.cl, f, fd, ps, h1, h2, h3.imp fun _ _ _ _ q => spD_imp h q⟩
theorem mkFn_len {np n : Nat} {f : MS} : ∀ ss o, mkFn np n f ss = some o → ss.length = np := fun ss o e => by
  unfold mkFn at e
  by_cases h : ss.length = np
  · exact h
  · rw [if_neg h] at e; cases e
/-- what a function's body is: it keeps the promise -/
def Body (P : Program) (w : World) (K : PySem.W.Frag) (mg : Str → Option Value) (base : Heap) (N : List Str) (qual : Str) (scope : Scope) (f : Addr) (body : List Stmt) (np k : Nat) (fb : MS) : Prop :=
  ∀ (cdv : Value) (A : Around) (outer : List Env) (s : Shared) (H : Hp) (E : XK), Room k (A.deeper (PyProof.Rows.envOfC qual scope s.heap.objs.size f cdv)) → DL (cxOf (L2.CX P w) P w K mg base N qual scope f cdv A outer s H E) (WB E) np body fb
theorem df_of {ps N : List Str} {f : Addr} {fd : FuncData} {qual : Str} {params : Arguments} {body : List Stmt} {scope : Scope} {fb : MS} (F : FunD K x qual params body scope [] [] f fd) (S : FnScope N ps scope) (hm : mg x = some (.ref f)) (hb : Binds K fd ps [])
    (h : Body P w K mg base N qual scope f body ps.length k fb) : DF P w K mg base x (k + 1) ps.length (mkFn ps.length N.length fb) :=
  ⟨mkFn_len, f, fd, ps, hm, F.kp, hb, fn_data F S h⟩
theorem dm_of {ps N : List Str} {f : Addr} {fd : FuncData} {qual y : Str} {params : Arguments} {body : List Stmt} {scope : Scope} {fb : MS} (F : FunD K y qual params body scope [] [] f fd) (S : FnScope N ps scope) (hm : mg x = some (.ref (He.ga K x))) (hk : Mk K (He.ga K x) f) (hb : Binds K fd ps [])
    (h : Body P w K mg base N qual scope f body ps.length k fb) : DM P w K mg base x (k + 1) ps.length (mkFn ps.length N.length fb) :=
  ⟨mkFn_len, f, fd, ps, hm, hk, hb, fn_data F S h⟩
theorem dmeth_of {ps N : List Str} {f : Addr} {fd : FuncData} {qual y : Str} {params : Arguments} {body : List Stmt} {scope : Scope} {fb : MS} (F : FunD K y qual params body scope [] [] f fd) (S : FnScope N ps scope) (c : Cls K (He.ga K x)) (hk : Meth K (He.ga K x) m f) (hb : Binds K fd ps [])
    (h : Body P w K mg base N qual scope f body ps.length k fb) : DMeth P w K mg base x m (k + 1) ps.length (mkFn ps.length N.length fb) :=
  ⟨mkFn_len, c, f, fd, ps, hk, hb, fn_data F S h⟩
end
end Dl

namespace My
open PySem PySem.Spec PyProof.Rows L2
def top (i : Nat) : Stmt := PySem.Challenge.pw_plainask_k04_box_within.main.body.getD i (.Pass ⟨0, 0, 0, 0⟩)
abbrev s__wall : Stmt := top 0
def d__wall : He.DefD := ⟨("_wall", none), "_wall", "_wall", defArgs s__wall, defBody s__wall, defScope s__wall, [], []⟩
abbrev s_is_integer : Stmt := top 2
def d_is_integer : He.DefD := ⟨("is_integer", none), "is_integer", "is_integer", defArgs s_is_integer, defBody s_is_integer, defScope s_is_integer, [], []⟩
abbrev s_is_number : Stmt := top 3
def d_is_number : He.DefD := ⟨("is_number", none), "is_number", "is_number", defArgs s_is_number, defBody s_is_number, defScope s_is_number, [], []⟩
abbrev s_ascending : Stmt := top 4
def d_ascending : He.DefD := ⟨("ascending", none), "ascending", "ascending", defArgs s_ascending, defBody s_ascending, defScope s_ascending, [], []⟩
abbrev s_grid : Stmt := top 6
def d_grid : He.DefD := ⟨("grid", none), "grid", "grid", defArgs s_grid, defBody s_grid, defScope s_grid, [], []⟩
abbrev s_common_sides : Stmt := top 12
def d_common_sides : He.DefD := ⟨("common_sides", none), "common_sides", "common_sides", defArgs s_common_sides, defBody s_common_sides, defScope s_common_sides, [], []⟩
abbrev s__law_cell : Stmt := top 14
def d__law_cell : He.DefD := ⟨("_law_cell", none), "_law_cell", "_law_cell", defArgs s__law_cell, defBody s__law_cell, defScope s__law_cell, [], []⟩
abbrev s__law_source : Stmt := top 15
def d__law_source : He.DefD := ⟨("_law_source", none), "_law_source", "_law_source", defArgs s__law_source, defBody s__law_source, defScope s__law_source, [], []⟩
abbrev s__law_draw : Stmt := top 16
def d__law_draw : He.DefD := ⟨("_law_draw", none), "_law_draw", "_law_draw", defArgs s__law_draw, defBody s__law_draw, defScope s__law_draw, [], []⟩
abbrev s__law_combos : Stmt := top 17
def d__law_combos : He.DefD := ⟨("_law_combos", none), "_law_combos", "_law_combos", defArgs s__law_combos, defBody s__law_combos, defScope s__law_combos, [], []⟩
abbrev s__law_draw_sides : Stmt := top 18
def d__law_draw_sides : He.DefD := ⟨("_law_draw_sides", none), "_law_draw_sides", "_law_draw_sides", defArgs s__law_draw_sides, defBody s__law_draw_sides, defScope s__law_draw_sides, [], []⟩
abbrev s__law_clean : Stmt := top 19
def d__law_clean : He.DefD := ⟨("_law_clean", none), "_law_clean", "_law_clean", defArgs s__law_clean, defBody s__law_clean, defScope s__law_clean, [], []⟩
abbrev s__law_near : Stmt := top 20
def d__law_near : He.DefD := ⟨("_law_near", none), "_law_near", "_law_near", defArgs s__law_near, defBody s__law_near, defScope s__law_near, [], []⟩
abbrev s__law_within : Stmt := top 21
def d__law_within : He.DefD := ⟨("_law_within", none), "_law_within", "_law_within", defArgs s__law_within, defBody s__law_within, defScope s__law_within, [], []⟩
abbrev s_law : Stmt := top 22
def d_law : He.DefD := ⟨("law", none), "law", "law", defArgs s_law, defBody s_law, defScope s_law, [], []⟩
abbrev s_Box_DinitD : Stmt := inClass (top 11) 0
def d_Box_DinitD : He.DefD := ⟨("Box", some "__init__"), "__init__", "Box.__init__", defArgs s_Box_DinitD, defBody s_Box_DinitD, defScope s_Box_DinitD, [], []⟩
abbrev s_Box_DiterD : Stmt := inClass (top 11) 1
def d_Box_DiterD : He.DefD := ⟨("Box", some "__iter__"), "__iter__", "Box.__iter__", defArgs s_Box_DiterD, defBody s_Box_DiterD, defScope s_Box_DiterD, [], []⟩
abbrev s_Box_DgetitemD : Stmt := inClass (top 11) 2
def d_Box_DgetitemD : He.DefD := ⟨("Box", some "__getitem__"), "__getitem__", "Box.__getitem__", defArgs s_Box_DgetitemD, defBody s_Box_DgetitemD, defScope s_Box_DgetitemD, [], []⟩
abbrev s_Box_DcontainsD : Stmt := inClass (top 11) 3
def d_Box_DcontainsD : He.DefD := ⟨("Box", some "__contains__"), "__contains__", "Box.__contains__", defArgs s_Box_DcontainsD, defBody s_Box_DcontainsD, defScope s_Box_DcontainsD, [], []⟩
abbrev s_Box_DleD : Stmt := inClass (top 11) 4
def d_Box_DleD : He.DefD := ⟨("Box", some "__le__"), "__le__", "Box.__le__", defArgs s_Box_DleD, defBody s_Box_DleD, defScope s_Box_DleD, [], []⟩
abbrev s_Box_DandD : Stmt := inClass (top 11) 5
def d_Box_DandD : He.DefD := ⟨("Box", some "__and__"), "__and__", "Box.__and__", defArgs s_Box_DandD, defBody s_Box_DandD, defScope s_Box_DandD, [], []⟩
abbrev s_Box_DsubD : Stmt := inClass (top 11) 6
def d_Box_DsubD : He.DefD := ⟨("Box", some "__sub__"), "__sub__", "Box.__sub__", defArgs s_Box_DsubD, defBody s_Box_DsubD, defScope s_Box_DsubD, [], []⟩
abbrev s_Box_with_side : Stmt := inClass (top 11) 7
def d_Box_with_side : He.DefD := ⟨("Box", some "with_side"), "with_side", "Box.with_side", defArgs s_Box_with_side, defBody s_Box_with_side, defScope s_Box_with_side, [], []⟩
def fn : List He.DefD := [d__wall, d_is_integer, d_is_number, d_ascending, d_grid, d_common_sides, d__law_cell, d__law_source, d__law_draw, d__law_combos, d__law_draw_sides, d__law_clean, d__law_near, d__law_within, d_law, d_Box_DinitD, d_Box_DiterD, d_Box_DgetitemD, d_Box_DcontainsD, d_Box_DleD, d_Box_DandD, d_Box_DsubD, d_Box_with_side]
def fa : List He.Fa := [.glo "_wall", .glo "is_integer", .glo "is_number", .glo "ascending", .glo "grid", .glo "common_sides", .glo "_law_cell", .glo "_law_source", .glo "_law_draw", .glo "_law_combos", .glo "_law_draw_sides", .glo "_law_clean", .glo "_law_near", .glo "_law_within", .glo "law", .glo "AskError", .exc "AskError", .glo "BadBox", .exc "BadBox", .glo "Box", .cls "Box", .meth "Box" "__init__", .mkr "Box", .meth "Box" "__iter__", .meth "Box" "__getitem__", .meth "Box" "__contains__", .meth "Box" "__le__", .meth "Box" "__and__", .meth "Box" "__sub__", .meth "Box" "with_side", .noat "Box" "rows", .noat "Box" "sides", .free "ValueError", .free "bool", .free "enumerate", .free "int", .free "isinstance", .free "iter", .free "len", .free "list", .free "max", .free "range", .free "sorted", .free "tuple", .free "zip"]
abbrev R : PySem.W.OpenRow := PySem.W.OpenLaw.row PySem.Challenge.rw_plainask_k04_box_within
abbrev hk : PySem.W.Hook := He.hookD 6 fa fn
def ob (s : PySem.W.SharedT) : He.AlD := He.obsDG 6 fa fn (HandSHeadRun.getT s)
theorem ob_eq (s : PySem.W.SharedT) : ob s = hk.obs s.abs := He.obsDG_eq (HandSHeadRun.getT_eq s)
def loose : List Str := (["_wall", "is_integer", "is_number", "ascending", "grid", "AskError", "BadBox", "Box", "common_sides", "_law_cell", "_law_source", "_law_draw", "_law_combos", "_law_draw_sides", "_law_clean", "_law_near", "_law_within"] : List Str)
theorem run (w : World) : HandSHeadRun.RunEq R (PySem.W.view R.prog [22]) hk ob 4000 loose w := by
  intro os
  kernel_rfl
end My

namespace My
open PySem Dl
def N_is_integer : List Str := ["value"]
def f_is_integer : MS :=
  (sRet (eAnd (eB gIsi (aCons (eVar 0) (aCons (eC (.ty "int")) aNil))) (eNot (eB gIsi (aCons (eVar 0) (aCons (eC (.ty "bool")) aNil))))))
def N_is_number : List Str := ["value"]
def f_is_number (F_is_integer : Fn) : MS :=
  (sRet (eAnd (eCall [false] F_is_integer (aCons (eVar 0) aNil)) (eGe (eVar 0) (eC (.int 0)))))
def N_ascending : List Str := ["numbers", "kept", "number"]
def c_ascending_1 : M Rv := eLc (iSeq (eVar 0)) (gN 2) tYes' (eB gInt (aCons (eVar 2) aNil)) [2]
def b_ascending_1 : MS := (sIf (tOr (tNot (tVal (eVar 1))) (tCmp (eNe (eIx (eVar 1) (eNeg (eC (.int 1)))) (eVar 2)))) (sExpr (mAppend (eVar 1) (eVar 2))) sNil)
def f_ascending : MS :=
  (sSeq (sSet 1 1 (eLst aNil))
  (sSeq (sFor (iSeq (eB gSorted (aCons c_ascending_1 aNil))) (gN 2) b_ascending_1)
  (sRet (eB gTuple (aCons (eVar 1) aNil)))))
def N_grid : List Str := ["sides", "rows", "side", "row", "standing"]
def c_grid_1 : M Rv := eLc2 (iSeq (eVar 1)) (gN 3) tYes' (iSeq (eVar 2)) (gN 4) tYes' (eTup (aStar (eVar 3) (aCons (eVar 4) aNil))) [3, 4] [4]
def b_grid_1 : MS := (sSet 1 1 c_grid_1)
def f_grid : MS :=
  (sSeq (sSet 1 1 (eLst (aCons (eTup aNil) aNil)))
  (sSeq (sFor (iSeq (eVar 0)) (gN 2) b_grid_1)
  (sRet (eVar 1))))
def N_common_sides : List Str := ["first", "second", "common", "mine", "theirs", "standing"]
def c_common_sides_1 : M Rv := eLc (iSeq (eVar 3)) (gN 5) (tCmp (eIn (eVar 5) (eVar 4))) (eVar 5) [5]
def b_common_sides_1 : MS := (sExpr (mAppend (eVar 2) c_common_sides_1))
def f_common_sides : MS :=
  (sSeq (sSet 2 2 (eLst aNil))
  (sSeq (sFor (iZip (aCons (eVar 0) (aCons (eVar 1) aNil))) (gT 2 (gsCons (gN 3) (gsCons (gN 4) gsNil))) b_common_sides_1)
  (sRet (eVar 2))))
def N__law_cell : List Str := ["_law_script", "_law_k"]
def f__law_cell : MS :=
  (sSeq (sIf (tCmp (eLt (eVar 1) (eB gLen (aCons (eVar 0) aNil)))) (sRet (eIx (eVar 0) (eVar 1))) sNil)
  (sRet (eC (.int 0))))
def N__law_source : List Str := ["_law_cell_here"]
def f__law_source : MS :=
  (sSeq (sIf (tCmp (eGe (eVar 0) (ePow (eC (.int 10)) (eC (.int 18))))) (sRet (eLst (aCons (eVar 0) (aCons (eC (.int 0)) (aCons (eVar 0) aNil))))) sNil)
  (sRet (eLst (aCons (eC (.int 0)) (aCons (eC (.int 0)) (aCons (eVar 0) aNil))))))
def N__law_draw : List Str := ["_law_source_here", "_law_limit", "_law_mixed", "_law_digit"]
def f__law_draw : MS :=
  (sSeq (sSetIx (eAdd (eIx (eVar 0) (eC (.int 1))) (eC (.int 1))) (eVar 0) (eC (.int 1)))
  (sSeq (sIf (tCmp (eGt (eIx (eVar 0) (eC (.int 0))) (eC (.int 0)))) (sSeq (sSet 2 3 (eMod (eB gInt (aCons (eIx (eVar 0) (eC (.int 0))) aNil)) (eVar 1)))
  (sSeq (sSetIx (eDiv (eIx (eVar 0) (eC (.int 0))) (eVar 1)) (eVar 0) (eC (.int 0)))
  (sRet (eVar 3)))) sNil)
  (sSeq (sSet 2 2 (eMod (eB gInt (aCons (eAdd (eMul (eIx (eVar 0) (eC (.int 2))) (eC (.int 48271))) (eMul (eIx (eVar 0) (eC (.int 1))) (eC (.int 69621)))) aNil)) (eC (.int 2147483647))))
  (sSeq (sSet 2 2 (eMod (eB gInt (aCons (eAdd (eAdd (eMul (eVar 2) (eVar 2)) (eMul (eIx (eVar 0) (eC (.int 1))) (eC (.int 40692)))) (eC (.int 7))) aNil)) (eC (.int 2147483629))))
  (sRet (eMod (eB gInt (aCons (eAdd (eDiv (eVar 2) (eC (.int 8))) (eMul (eVar 2) (eC (.int 10000019)))) aNil)) (eVar 1)))))))
def N__law_combos : List Str := ["_law_sides", "_law_behind", "_law_rows", "_law_standing", "_law_row"]
def b__law_combos_1 : MS := (sExpr (mAppend (eVar 2) (eAdd (eTup (aCons (eVar 3) aNil)) (eVar 4))))
def b__law_combos_2 : MS := (sFor (iSeq (eVar 1)) (gN 4) b__law_combos_1)
def f__law_combos (F__law_combos : Fn) : MS :=
  (sSeq (sIf (tCmp (eEq (eB gLen (aCons (eVar 0) aNil)) (eC (.int 0)))) (sRet (eLst (aCons (eTup aNil) aNil))) sNil)
  (sSeq (sSet 1 1 (eCall [false] F__law_combos (aCons (eSl (eVar 0) (oSome (eC (.int 1))) oNo) aNil)))
  (sSeq (sSet 1 2 (eLst aNil))
  (sSeq (sFor (iSeq (eIx (eVar 0) (eC (.int 0)))) (gN 3) b__law_combos_2)
  (sRet (eVar 2))))))
def N__law_draw_sides : List Str := ["_law_shape", "_law_source_here", "_law_many", "_law_span", "_law_sides", "_law_room", "_law_k", "_law_size", "_law_at"]
def c__law_draw_sides_1 (F__law_draw : Fn) : M Rv := eLc (iRng1 (aCons (eVar 7) aNil)) (gN 8) tYes' (eCall [true, false] F__law_draw (aCons (eVar 1) (aCons (eVar 3) aNil))) [8]
def b__law_draw_sides_1 (F__law_draw : Fn) : MS := (sSeq (sSet 4 7 (eCall [true, false] F__law_draw (aCons (eVar 0) (aCons (eIx (eLst (aCons (eC (.int 3)) (aCons (eC (.int 4)) (aCons (eC (.int 5)) (aCons (eC (.int 40)) aNil))))) (eCall [true, false] F__law_draw (aCons (eVar 0) (aCons (eC (.int 4)) aNil)))) aNil))))
  (sSeq (sIf (tCmp (eGt (eVar 7) (eVar 5))) (sSet 4 7 (eC (.int 1))) sNil)
  (sSeq (sSet 4 5 (eDiv (eVar 5) (eB gMax2 (aCons (eC (.int 1)) (aCons (eVar 7) aNil)))))
  (sExpr (mAppend (eVar 4) (c__law_draw_sides_1 F__law_draw))))))
def f__law_draw_sides (F__law_draw : Fn) : MS :=
  (sSeq (sSet 4 4 (eLst aNil))
  (sSeq (sSet 4 5 (eC (.int 96)))
  (sSeq (sFor (iRng1 (aCons (eVar 2) aNil)) (gN 6) (b__law_draw_sides_1 F__law_draw))
  (sRet (eVar 4)))))
def N__law_clean : List Str := ["_law_side", "_law_kept", "_law_standing", "_law_s"]
def c__law_clean_1 : M Rv := eLc (iSeq (eVar 0)) (gN 3) tYes' (eB gInt (aCons (eVar 3) aNil)) [3]
def b__law_clean_1 : MS := (sIf (tOr (tCmp (eEq (eVar 1) (eLst aNil))) (tCmp (eNe (eIx (eVar 1) (eNeg (eC (.int 1)))) (eVar 2)))) (sExpr (mAppend (eVar 1) (eVar 2))) sNil)
def f__law_clean : MS :=
  (sSeq (sSet 1 1 (eLst aNil))
  (sSeq (sFor (iSeq (eB gSorted (aCons c__law_clean_1 aNil))) (gN 2) b__law_clean_1)
  (sRet (eVar 1))))
def N__law_near : List Str := ["_law_sides", "_law_shape", "_law_source_here", "_law_span", "_law_near_here", "_law_room", "_law_side", "_law_way", "_law_other", "_law_at"]
def c__law_near_1 (F__law_draw : Fn) : M Rv := eLc (iRng1 (aCons (eCall [true, false] F__law_draw (aCons (eVar 1) (aCons (eC (.int 4)) aNil))) aNil)) (gN 9) tYes' (eCall [true, false] F__law_draw (aCons (eVar 2) (aCons (eVar 3) aNil))) [9]
def b__law_near_1 (F__law_draw : Fn) : MS := (sSeq (sSet 4 7 (eCall [true, false] F__law_draw (aCons (eVar 1) (aCons (eC (.int 5)) aNil))))
  (sSeq (sSet 4 8 (eB gList (aCons (eVar 6) aNil)))
  (sSeq (sIf (tCmp (eEq (eVar 7) (eC (.int 0)))) (sSet 4 8 (c__law_near_1 F__law_draw)) sNil)
  (sSeq (sIf (tCmp (eEq (eVar 7) (eC (.int 1)))) (sSet 4 8 (eSl (eVar 6) (oSome (eC (.int 1))) oNo)) sNil)
  (sSeq (sIf (tCmp (eEq (eVar 7) (eC (.int 2)))) (sSet 4 8 (eAdd (eVar 6) (eLst (aCons (eCall [true, false] F__law_draw (aCons (eVar 2) (aCons (eVar 3) aNil))) aNil)))) sNil)
  (sSeq (sIf (tCmp (eGt (eB gLen (aCons (eVar 8) aNil)) (eVar 5))) (sSet 4 8 (eSl (eVar 8) oNo (oSome (eC (.int 1))))) sNil)
  (sSeq (sSet 4 5 (eDiv (eVar 5) (eB gMax2 (aCons (eC (.int 1)) (aCons (eB gLen (aCons (eVar 8) aNil)) aNil)))))
  (sExpr (mAppend (eVar 4) (eVar 8))))))))))
def f__law_near (F__law_draw : Fn) : MS :=
  (sSeq (sSet 4 4 (eLst aNil))
  (sSeq (sSet 4 5 (eC (.int 128)))
  (sSeq (sFor (iSeq (eVar 0)) (gN 6) (b__law_near_1 F__law_draw))
  (sRet (eVar 4)))))
def N__law_within : List Str := ["_law_one", "_law_two", "_law_row"]
def c__law_within_1 (F__law_combos : Fn) : M Rv := eLc (iSeq (eCall [false] F__law_combos (aCons (eVar 0) aNil))) (gN 2) (tCmp (eNotIn (eVar 2) (eVar 1))) (eVar 2) [2]
def f__law_within (F__law_combos : Fn) : MS :=
  (sRet (eEq (eB gLen (aCons (c__law_within_1 F__law_combos) aNil)) (eC (.int 0))))
def N_law : List Str := ["_law_script", "_law_shape", "_law_source_here", "_law_span", "_law_first", "_law_second", "_law_one", "_law_two", "_law_box", "_law_other", "_law_turn", "_law_empty", "_law_below", "_law_above", "_law_side"]
def c_law_1 (F__law_clean : Fn) : M Rv := eLc (iSeq (eVar 4)) (gN 14) tYes' (eCall [false] F__law_clean (aCons (eVar 14) aNil)) [14]
def c_law_2 (F__law_clean : Fn) : M Rv := eLc (iSeq (eVar 5)) (gN 14) tYes' (eCall [false] F__law_clean (aCons (eVar 14) aNil)) [14]
def b_law_1 (F_Box_DleD F__law_within F__law_combos : Fn) : MS := (sSeq (sSet 1 12 (eOwn2 "Box" [false, false] F_Box_DleD (eVar 8) (eVar 9)))
  (sSeq (sSet 1 13 (eOwn2 "Box" [false, false] F_Box_DleD (eVar 9) (eVar 8)))
  (sSeq (sIf (tOr (tNot (tVal (eB gIsi (aCons (eVar 12) (aCons (eC (.ty "bool")) aNil))))) (tCmp (eNe (eVar 12) (eCall [false, false] F__law_within (aCons (eVar 6) (aCons (eCall [false] F__law_combos (aCons (eVar 7) aNil)) aNil)))))) (sRet (eC (.bl false))) sNil)
  (sSeq (sIf (tOr (tNot (tVal (eB gIsi (aCons (eVar 13) (aCons (eC (.ty "bool")) aNil))))) (tCmp (eNe (eVar 13) (eCall [false, false] F__law_within (aCons (eVar 7) (aCons (eCall [false] F__law_combos (aCons (eVar 6) aNil)) aNil)))))) (sRet (eC (.bl false))) sNil)
  (sIf (tOr (tCmp (eIsNot (eOwn2 "Box" [false, false] F_Box_DleD (eVar 8) (eVar 8)) (eC (.bl true)))) (tCmp (eIsNot (eOwn2 "Box" [false, false] F_Box_DleD (eVar 9) (eVar 9)) (eC (.bl true))))) (sRet (eC (.bl false))) sNil)))))
def c_law_3 : M Rv := eLc (iSeq (eVar 4)) (gN 14) tYes' (eLst aNil) [14]
def f_law (F__law_cell F__law_source F__law_draw F__law_draw_sides F__law_near F__law_clean F_Box_DinitD F_Box_DleD F__law_combos F__law_within : Fn) : MS :=
  (sSeq (sSet 1 1 (eCall [false] F__law_source (aCons (eCall [false, false] F__law_cell (aCons (eVar 0) (aCons (eC (.int 0)) aNil))) aNil)))
  (sSeq (sSet 1 2 (eCall [false] F__law_source (aCons (eCall [false, false] F__law_cell (aCons (eVar 0) (aCons (eC (.int 1)) aNil))) aNil)))
  (sSeq (sSet 1 3 (eIx (eLst (aCons (eC (.int 4)) (aCons (eAdd (ePow (eC (.int 10)) (eC (.int 9))) (eC (.int 1))) aNil))) (eCall [true, false] F__law_draw (aCons (eVar 1) (aCons (eC (.int 2)) aNil)))))
  (sSeq (sSet 1 4 (eCall [true, true, false, false] F__law_draw_sides (aCons (eVar 1) (aCons (eVar 2) (aCons (eAdd (eC (.int 1)) (eCall [true, false] F__law_draw (aCons (eVar 1) (aCons (eC (.int 8)) aNil)))) (aCons (eVar 3) aNil))))))
  (sSeq (sSet 1 5 (eCall [false, true, true, false] F__law_near (aCons (eVar 4) (aCons (eVar 1) (aCons (eVar 2) (aCons (eVar 3) aNil))))))
  (sSeq (sSet 1 6 (c_law_1 F__law_clean))
  (sSeq (sSet 1 7 (c_law_2 F__law_clean))
  (sSeq (sSet 1 8 (eMake "Box" [false] F_Box_DinitD (aCons (eVar 4) aNil)))
  (sSeq (sSet 1 9 (eMake "Box" [false] F_Box_DinitD (aCons (eVar 5) aNil)))
  (sSeq (sFor (iRng1 (aCons (eC (.int 2)) aNil)) (gN 10) (b_law_1 F_Box_DleD F__law_within F__law_combos))
  (sSeq (sSet 1 11 (eMake "Box" [false] F_Box_DinitD (aCons c_law_3 aNil)))
  (sRet (eAnd (eIs (eOwn2 "Box" [false, false] F_Box_DleD (eVar 11) (eVar 8)) (eC (.bl true))) (eEq (eOwn2 "Box" [false, false] F_Box_DleD (eVar 8) (eVar 11)) (eEq (eB gLen (aCons (eCall [false] F__law_combos (aCons (eVar 6) aNil)) aNil)) (eC (.int 0)))))))))))))))))
def N_Box_DinitD : List Str := ["self", "sides", "kept", "side", "standing"]
def b_Box_DinitD_1 (F_is_number : Fn) : MS := (sIf (tNot (tVal (eCall [false] F_is_number (aCons (eVar 4) aNil)))) sNever sNil)
def b_Box_DinitD_2 (F_is_number F_ascending : Fn) : MS := (sSeq (sFor (iSeq (eVar 3)) (gN 4) (b_Box_DinitD_1 F_is_number))
  (sExpr (mAppend (eVar 2) (eCall [false] F_ascending (aCons (eVar 3) aNil)))))
def f_Box_DinitD (F_is_number F_ascending F_grid : Fn) : MS :=
  (sSeq (sIf (tCmp (eEq (eB gLen (aCons (eVar 1) aNil)) (eC (.int 0)))) sNever sNil)
  (sSeq (sSet 2 2 (eLst aNil))
  (sSeq (sFor (iSeq (eVar 1)) (gN 3) (b_Box_DinitD_2 F_is_number F_ascending))
  (sSeq (sSetF ["Box"] "sides" (eVar 0) (eB gTuple (aCons (eVar 2) aNil)))
  (sSetF ["Box"] "rows" (eVar 0) (eCall [false] F_grid (aCons (eVar 2) aNil)))))))
-- Box_DiterD: not covered: call iter
def N_Box_DgetitemD : List Str := ["self", "at"]
def f_Box_DgetitemD : MS :=
  (sRet (eIx (eFld ["Box"] "sides" (eVar 0)) (eVar 1)))
def N_Box_DcontainsD : List Str := ["self", "combination", "standing", "side"]
def b_Box_DcontainsD_1 (F_is_number : Fn) : MS := (sIf (tOr (tNot (tVal (eCall [false] F_is_number (aCons (eVar 2) aNil)))) (tCmp (eNotIn (eVar 2) (eVar 3)))) (sRet (eC (.bl false))) sNil)
def f_Box_DcontainsD (F_is_number : Fn) : MS :=
  (sSeq (sIf (tCmp (eNe (eB gLen (aCons (eVar 1) aNil)) (eB gLen (aCons (eFld ["Box"] "sides" (eVar 0)) aNil)))) (sRet (eC (.bl false))) sNil)
  (sSeq (sFor (iZip (aCons (eVar 1) (aCons (eFld ["Box"] "sides" (eVar 0)) aNil))) (gT 2 (gsCons (gN 2) (gsCons (gN 3) gsNil))) (b_Box_DcontainsD_1 F_is_number))
  (sRet (eC (.bl true)))))
def N_Box_DleD : List Str := ["self", "other", "mine", "theirs", "standing"]
def b_Box_DleD_1 : MS := (sIf (tCmp (eNotIn (eVar 4) (eVar 3))) (sRet (eC (.bl false))) sNil)
def b_Box_DleD_2 : MS := (sFor (iSeq (eVar 2)) (gN 4) b_Box_DleD_1)
def f_Box_DleD : MS :=
  (sSeq (sIf (tCmp (eEq (eB gLen (aCons (eFld ["Box"] "rows" (eVar 0)) aNil)) (eC (.int 0)))) (sRet (eC (.bl true))) sNil)
  (sSeq (sFor (iZip (aCons (eFld ["Box"] "sides" (eVar 0)) (aCons (eFld ["Box"] "sides" (eVar 1)) aNil))) (gT 2 (gsCons (gN 2) (gsCons (gN 3) gsNil))) b_Box_DleD_2)
  (sRet (eC (.bl true)))))
def N_Box_DandD : List Str := ["self", "other"]
def f_Box_DandD (F_common_sides F_Box_DinitD : Fn) : MS :=
  (sRet (eMake "Box" [false] F_Box_DinitD (aCons (eCall [false, false] F_common_sides (aCons (eFld ["Box"] "sides" (eVar 0)) (aCons (eFld ["Box"] "sides" (eVar 1)) aNil))) aNil)))
-- Box_DsubD: not covered: iter enumerate
end My

namespace My
open PySem L2 Dl
section
variable {P : Program} {w : World} {K : PySem.W.Frag} {mg : Str → Option Value} {base : Heap} {f : Addr} {k : Nat}
theorem sc_is_integer : FnScope N_is_integer ["value"] (defScope s_is_integer) := ⟨rfl, rfl, rfl, by decide +kernel, rfl, by decide +kernel, by decide +kernel⟩
theorem b_is_integer (h_int : mg "int" = none) (h_isinstance : mg "isinstance" = none) (h_bool : mg "bool" = none) : Body P w K mg base N_is_integer "is_integer" (defScope s_is_integer) f (defBody s_is_integer) 1 (k + 1) (f_is_integer) := fun cdv A outer s H E hr => by
  have go : Go (cxOf (L2.CX P w) P w K mg base N_is_integer "is_integer" (defScope s_is_integer) f cdv A outer s H E) (WB E) := go_def (CX := L2.CX P w) sc_is_integer.nd hr
  have hu := go.rm
  exact (dl_one (ds_ret (de_and (de_isi h_isinstance (da_cons (de_v 0) (da_cons (de_tyN h_int PyProof.Rows.boot_int) da_nil))) (de_one (de_not (de_isi h_isinstance (da_cons (de_v 0) (da_cons (de_tyN h_bool PyProof.Rows.boot_bool) da_nil))))))))
theorem sc_is_number : FnScope N_is_number ["value"] (defScope s_is_number) := ⟨rfl, rfl, rfl, by decide +kernel, rfl, by decide +kernel, by decide +kernel⟩
theorem b_is_number {F_is_integer : Fn} (h_is_integer : DF P w K mg base "is_integer" k 1 F_is_integer) : Body P w K mg base N_is_number "is_number" (defScope s_is_number) f (defBody s_is_number) 1 (k + 1) (f_is_number F_is_integer) := fun cdv A outer s H E hr => by
  have go : Go (cxOf (L2.CX P w) P w K mg base N_is_number "is_number" (defScope s_is_number) f cdv A outer s H E) (WB E) := go_def (CX := L2.CX P w) sc_is_number.nd hr
  have hu := go.rm
  exact (dl_one (ds_ret (de_and (de_call [false] go h_is_integer (hr.mono (by omega)) rfl (da_cons (de_v 0) da_nil)) (de_one (de_ge (de_v 0) de_int)))))
theorem sc_ascending : FnScope N_ascending ["numbers"] (defScope s_ascending) := ⟨rfl, rfl, rfl, by decide +kernel, rfl, by decide +kernel, by decide +kernel⟩
theorem b_ascending (h_int : mg "int" = none) (h_sorted : mg "sorted" = none) (h_tuple : mg "tuple" = none) : Body P w K mg base N_ascending "ascending" (defScope s_ascending) f (defBody s_ascending) 1 (k + 1) (f_ascending) := fun cdv A outer s H E hr => by
  have go : Go (cxOf (L2.CX P w) P w K mg base N_ascending "ascending" (defScope s_ascending) f cdv A outer s H E) (WB E) := go_def (CX := L2.CX P w) sc_ascending.nd hr
  have hu := go.rm
  exact (dl_cons (ds_set 1 go.nd (de_lst da_nil))
  (dl_cons (ds_for go (di_seq (de_sorted h_sorted (da_cons (de_lc (g := (gN 2)) (tt := tYes') (te := (eB gInt (aCons (eVar 2) aNil))) [("number", 2)] go (di_seq (de_v 0)) (show BlkOk N_ascending (defScope s_ascending) _ _ from ⟨rfl, by decide +kernel, by decide +kernel, by decide +kernel, by decide +kernel⟩) (fun _ _ _ _ _ => (dg_name 2 go.blk.nd)) (fun _ _ _ _ _ => dts_nil) (fun _ _ _ _ _ => (de_int1 h_int (da_cons (de_v 2) da_nil)))) da_nil))) (dg_name 2 go.nd) (dl_one (ds_if ((dw_or (dt_not (dt_val (de_v 1))) (dw_or1 (dt_ne hu (de_ix (de_v 1) (de_neg de_int)) (de_v 2))))).t (dl_one (ds_expr (de_append (de_v 1) (de_v 2)))) dl_nil)))
  (dl_one (ds_ret (de_tuple h_tuple (da_cons (de_v 1) da_nil))))))
theorem sc_grid : FnScope N_grid ["sides"] (defScope s_grid) := ⟨rfl, rfl, rfl, by decide +kernel, rfl, by decide +kernel, by decide +kernel⟩
theorem b_grid  : Body P w K mg base N_grid "grid" (defScope s_grid) f (defBody s_grid) 1 (k + 1) (f_grid) := fun cdv A outer s H E hr => by
  have go : Go (cxOf (L2.CX P w) P w K mg base N_grid "grid" (defScope s_grid) f cdv A outer s H E) (WB E) := go_def (CX := L2.CX P w) sc_grid.nd hr
  have hu := go.rm
  exact (dl_cons (ds_set 1 go.nd (de_lst (da_cons (de_tup da_nil) da_nil)))
  (dl_cons (ds_for go (di_seq (de_v 0)) (dg_name 2 go.nd) (dl_one (ds_setLc2 (g := (gN 3)) (tt := tYes') (it1 := (iSeq (eVar 2))) (g1 := (gN 4)) (tt1 := tYes') (te := (eTup (aStar (eVar 3) (aCons (eVar 4) aNil)))) 1 [("row", 3), ("standing", 4)] [4] rfl rfl rfl rfl rfl go (di_seq (de_v 1)) (show BlkOk N_grid (defScope s_grid) _ _ from ⟨rfl, by decide +kernel, by decide +kernel, by decide +kernel, by decide +kernel⟩) (fun _ _ _ _ _ => (dg_name 3 go.blk.nd)) (fun _ _ _ _ _ => dts_nil) (fun _ _ _ _ _ => (di_seq (de_v 2))) (fun _ _ _ _ _ => (dg_name 4 go.blk.nd)) (fun _ _ _ _ _ => dts_nil) (fun _ _ _ _ _ => (de_tup (da_star (de_v 3) (da_cons (de_v 4) da_nil)))))))
  (dl_one (ds_ret (de_v 1)))))
theorem sc_common_sides : FnScope N_common_sides ["first", "second"] (defScope s_common_sides) := ⟨rfl, rfl, rfl, by decide +kernel, rfl, by decide +kernel, by decide +kernel⟩
theorem b_common_sides (h_zip : mg "zip" = none) : Body P w K mg base N_common_sides "common_sides" (defScope s_common_sides) f (defBody s_common_sides) 2 (k + 1) (f_common_sides) := fun cdv A outer s H E hr => by
  have go : Go (cxOf (L2.CX P w) P w K mg base N_common_sides "common_sides" (defScope s_common_sides) f cdv A outer s H E) (WB E) := go_def (CX := L2.CX P w) sc_common_sides.nd hr
  have hu := go.rm
  exact (dl_cons (ds_set 2 go.nd (de_lst da_nil))
  (dl_cons (ds_for go (di_zip rfl h_zip (da_cons (de_v 0) (da_cons (de_v 1) da_nil))) (dg_tup go.calm (dgs_cons (dg_name 3 go.nd) (dgs_cons (dg_name 4 go.nd) dgs_nil))) (dl_one (ds_expr (de_append (de_v 2) (de_lc (g := (gN 5)) (tt := (tCmp (eIn (eVar 5) (eVar 4)))) (te := (eVar 5)) [("standing", 5)] go (di_seq (de_v 3)) (show BlkOk N_common_sides (defScope s_common_sides) _ _ from ⟨rfl, by decide +kernel, by decide +kernel, by decide +kernel, by decide +kernel⟩) (fun _ _ _ _ _ => (dg_name 5 go.blk.nd)) (fun _ _ _ _ _ => (dts_one (dt_in hu (de_v 5) (de_v 4)))) (fun _ _ _ _ _ => (de_v 5)))))))
  (dl_one (ds_ret (de_v 2)))))
theorem sc__law_cell : FnScope N__law_cell ["_law_script", "_law_k"] (defScope s__law_cell) := ⟨rfl, rfl, rfl, by decide +kernel, rfl, by decide +kernel, by decide +kernel⟩
theorem b__law_cell (h_len : mg "len" = none) : Body P w K mg base N__law_cell "_law_cell" (defScope s__law_cell) f (defBody s__law_cell) 2 (k + 1) (f__law_cell) := fun cdv A outer s H E hr => by
  have go : Go (cxOf (L2.CX P w) P w K mg base N__law_cell "_law_cell" (defScope s__law_cell) f cdv A outer s H E) (WB E) := go_def (CX := L2.CX P w) sc__law_cell.nd hr
  have hu := go.rm
  exact (dl_cons (ds_if (dt_lt (de_v 1) (de_len h_len (da_cons (de_v 0) da_nil))) (dl_one (ds_ret (de_ix (de_v 0) (de_v 1)))) dl_nil)
  (dl_one (ds_ret de_int)))
theorem sc__law_source : FnScope N__law_source ["_law_cell_here"] (defScope s__law_source) := ⟨rfl, rfl, rfl, by decide +kernel, rfl, by decide +kernel, by decide +kernel⟩
theorem b__law_source  : Body P w K mg base N__law_source "_law_source" (defScope s__law_source) f (defBody s__law_source) 1 (k + 1) (f__law_source) := fun cdv A outer s H E hr => by
  have go : Go (cxOf (L2.CX P w) P w K mg base N__law_source "_law_source" (defScope s__law_source) f cdv A outer s H E) (WB E) := go_def (CX := L2.CX P w) sc__law_source.nd hr
  have hu := go.rm
  exact (dl_cons (ds_if (dt_ge (de_v 0) (de_pow de_int de_int)) (dl_one (ds_ret (de_lst (da_cons (de_v 0) (da_cons de_int (da_cons (de_v 0) da_nil)))))) dl_nil)
  (dl_one (ds_ret (de_lst (da_cons de_int (da_cons de_int (da_cons (de_v 0) da_nil)))))))
theorem sc__law_draw : FnScope N__law_draw ["_law_source_here", "_law_limit"] (defScope s__law_draw) := ⟨rfl, rfl, rfl, by decide +kernel, rfl, by decide +kernel, by decide +kernel⟩
theorem b__law_draw (h_int : mg "int" = none) : Body P w K mg base N__law_draw "_law_draw" (defScope s__law_draw) f (defBody s__law_draw) 2 (k + 1) (f__law_draw) := fun cdv A outer s H E hr => by
  have go : Go (cxOf (L2.CX P w) P w K mg base N__law_draw "_law_draw" (defScope s__law_draw) f cdv A outer s H E) (WB E) := go_def (CX := L2.CX P w) sc__law_draw.nd hr
  have hu := go.rm
  exact (dl_cons (ds_setIx (de_add (de_ix (de_v 0) de_int) de_int) (de_v 0) de_int)
  (dl_cons (ds_if (dt_gt (de_ix (de_v 0) de_int) de_int) (dl_cons (ds_set 3 go.nd (de_mod (de_int1 h_int (da_cons (de_ix (de_v 0) de_int) da_nil)) (de_v 1)))
  (dl_cons (ds_setIx (de_div (de_ix (de_v 0) de_int) (de_v 1)) (de_v 0) de_int)
  (dl_one (ds_ret (de_v 3))))) dl_nil)
  (dl_cons (ds_set 2 go.nd (de_mod (de_int1 h_int (da_cons (de_add (de_mul (de_ix (de_v 0) de_int) de_int) (de_mul (de_ix (de_v 0) de_int) de_int)) da_nil)) de_int))
  (dl_cons (ds_set 2 go.nd (de_mod (de_int1 h_int (da_cons (de_add (de_add (de_mul (de_v 2) (de_v 2)) (de_mul (de_ix (de_v 0) de_int) de_int)) de_int) da_nil)) de_int))
  (dl_one (ds_ret (de_mod (de_int1 h_int (da_cons (de_add (de_div (de_v 2) de_int) (de_mul (de_v 2) de_int)) da_nil)) (de_v 1))))))))
theorem sc__law_combos : FnScope N__law_combos ["_law_sides"] (defScope s__law_combos) := ⟨rfl, rfl, rfl, by decide +kernel, rfl, by decide +kernel, by decide +kernel⟩
theorem b__law_combos {F__law_combos : Fn} (h_len : mg "len" = none) (h__law_combos : DF P w K mg base "_law_combos" k 1 F__law_combos) : Body P w K mg base N__law_combos "_law_combos" (defScope s__law_combos) f (defBody s__law_combos) 1 (k + 1) (f__law_combos F__law_combos) := fun cdv A outer s H E hr => by
  have go : Go (cxOf (L2.CX P w) P w K mg base N__law_combos "_law_combos" (defScope s__law_combos) f cdv A outer s H E) (WB E) := go_def (CX := L2.CX P w) sc__law_combos.nd hr
  have hu := go.rm
  exact (dl_cons (ds_if (dt_eq hu (de_len h_len (da_cons (de_v 0) da_nil)) de_int) (dl_one (ds_ret (de_lst (da_cons (de_tup da_nil) da_nil)))) dl_nil)
  (dl_cons (ds_set 1 go.nd (de_call [false] go h__law_combos (hr.mono (by omega)) rfl (da_cons (de_sl (de_v 0) (do_some de_int) do_no) da_nil)))
  (dl_cons (ds_set 2 go.nd (de_lst da_nil))
  (dl_cons (ds_for go (di_seq (de_ix (de_v 0) de_int)) (dg_name 3 go.nd) (dl_one (ds_for go (di_seq (de_v 1)) (dg_name 4 go.nd) (dl_one (ds_expr (de_append (de_v 2) (de_add (de_tup (da_cons (de_v 3) da_nil)) (de_v 4))))))))
  (dl_one (ds_ret (de_v 2)))))))
theorem sc__law_draw_sides : FnScope N__law_draw_sides ["_law_shape", "_law_source_here", "_law_many", "_law_span"] (defScope s__law_draw_sides) := ⟨rfl, rfl, rfl, by decide +kernel, rfl, by decide +kernel, by decide +kernel⟩
theorem b__law_draw_sides {F__law_draw : Fn} (h_range : mg "range" = none) (h__law_draw : DF P w K mg base "_law_draw" k 2 F__law_draw) (h_max : mg "max" = none) : Body P w K mg base N__law_draw_sides "_law_draw_sides" (defScope s__law_draw_sides) f (defBody s__law_draw_sides) 4 (k + 1) (f__law_draw_sides F__law_draw) := fun cdv A outer s H E hr => by
  have go : Go (cxOf (L2.CX P w) P w K mg base N__law_draw_sides "_law_draw_sides" (defScope s__law_draw_sides) f cdv A outer s H E) (WB E) := go_def (CX := L2.CX P w) sc__law_draw_sides.nd hr
  have hu := go.rm
  exact (dl_cons (ds_set 4 go.nd (de_lst da_nil))
  (dl_cons (ds_set 5 go.nd de_int)
  (dl_cons (ds_for go (di_rng1 rfl h_range (da_cons (de_v 2) da_nil)) (dg_name 6 go.nd) (dl_cons (ds_set 7 go.nd (de_call [true, false] go h__law_draw (hr.mono (by omega)) rfl (da_cons (de_v 0) (da_cons (de_ix (de_lst (da_cons de_int (da_cons de_int (da_cons de_int (da_cons de_int da_nil))))) (de_call [true, false] go h__law_draw (hr.mono (by omega)) rfl (da_cons (de_v 0) (da_cons de_int da_nil)))) da_nil))))
  (dl_cons (ds_if (dt_gt (de_v 7) (de_v 5)) (dl_one (ds_set 7 go.nd de_int)) dl_nil)
  (dl_cons (ds_set 5 go.nd (de_div (de_v 5) (de_max2 go h_max (da_cons de_int (da_cons (de_v 7) da_nil)))))
  (dl_one (ds_expr (de_append (de_v 4) (de_lc (g := (gN 8)) (tt := tYes') (te := (eCall [true, false] F__law_draw (aCons (eVar 1) (aCons (eVar 3) aNil)))) [("_law_at", 8)] go (di_rng1 rfl h_range (da_cons (de_v 7) da_nil)) (show BlkOk N__law_draw_sides (defScope s__law_draw_sides) _ _ from ⟨rfl, by decide +kernel, by decide +kernel, by decide +kernel, by decide +kernel⟩) (fun _ _ _ _ _ => (dg_name 8 go.blk.nd)) (fun _ _ _ _ _ => dts_nil) (fun _ _ _ _ _ => (de_call [true, false] go.blk h__law_draw (hr.mono (by omega)) rfl (da_cons (de_v 1) (da_cons (de_v 3) da_nil))))))))))))
  (dl_one (ds_ret (de_v 4))))))
theorem sc__law_clean : FnScope N__law_clean ["_law_side"] (defScope s__law_clean) := ⟨rfl, rfl, rfl, by decide +kernel, rfl, by decide +kernel, by decide +kernel⟩
theorem b__law_clean (h_int : mg "int" = none) (h_sorted : mg "sorted" = none) : Body P w K mg base N__law_clean "_law_clean" (defScope s__law_clean) f (defBody s__law_clean) 1 (k + 1) (f__law_clean) := fun cdv A outer s H E hr => by
  have go : Go (cxOf (L2.CX P w) P w K mg base N__law_clean "_law_clean" (defScope s__law_clean) f cdv A outer s H E) (WB E) := go_def (CX := L2.CX P w) sc__law_clean.nd hr
  have hu := go.rm
  exact (dl_cons (ds_set 1 go.nd (de_lst da_nil))
  (dl_cons (ds_for go (di_seq (de_sorted h_sorted (da_cons (de_lc (g := (gN 3)) (tt := tYes') (te := (eB gInt (aCons (eVar 3) aNil))) [("_law_s", 3)] go (di_seq (de_v 0)) (show BlkOk N__law_clean (defScope s__law_clean) _ _ from ⟨rfl, by decide +kernel, by decide +kernel, by decide +kernel, by decide +kernel⟩) (fun _ _ _ _ _ => (dg_name 3 go.blk.nd)) (fun _ _ _ _ _ => dts_nil) (fun _ _ _ _ _ => (de_int1 h_int (da_cons (de_v 3) da_nil)))) da_nil))) (dg_name 2 go.nd) (dl_one (ds_if ((dw_or (dt_eq hu (de_v 1) (de_lst da_nil)) (dw_or1 (dt_ne hu (de_ix (de_v 1) (de_neg de_int)) (de_v 2))))).t (dl_one (ds_expr (de_append (de_v 1) (de_v 2)))) dl_nil)))
  (dl_one (ds_ret (de_v 1)))))
theorem sc__law_near : FnScope N__law_near ["_law_sides", "_law_shape", "_law_source_here", "_law_span"] (defScope s__law_near) := ⟨rfl, rfl, rfl, by decide +kernel, rfl, by decide +kernel, by decide +kernel⟩
theorem b__law_near {F__law_draw : Fn} (h__law_draw : DF P w K mg base "_law_draw" k 2 F__law_draw) (h_list : mg "list" = none) (h_range : mg "range" = none) (h_len : mg "len" = none) (h_max : mg "max" = none) : Body P w K mg base N__law_near "_law_near" (defScope s__law_near) f (defBody s__law_near) 4 (k + 1) (f__law_near F__law_draw) := fun cdv A outer s H E hr => by
  have go : Go (cxOf (L2.CX P w) P w K mg base N__law_near "_law_near" (defScope s__law_near) f cdv A outer s H E) (WB E) := go_def (CX := L2.CX P w) sc__law_near.nd hr
  have hu := go.rm
  exact (dl_cons (ds_set 4 go.nd (de_lst da_nil))
  (dl_cons (ds_set 5 go.nd de_int)
  (dl_cons (ds_for go (di_seq (de_v 0)) (dg_name 6 go.nd) (dl_cons (ds_set 7 go.nd (de_call [true, false] go h__law_draw (hr.mono (by omega)) rfl (da_cons (de_v 1) (da_cons de_int da_nil))))
  (dl_cons (ds_set 8 go.nd (de_list h_list (da_cons (de_v 6) da_nil)))
  (dl_cons (ds_if (dt_eq hu (de_v 7) de_int) (dl_one (ds_setLc (g := (gN 9)) (tt := tYes') (te := (eCall [true, false] F__law_draw (aCons (eVar 2) (aCons (eVar 3) aNil)))) 8 [("_law_at", 9)] rfl rfl rfl rfl rfl go (di_rng1 rfl h_range (da_cons (de_call [true, false] go h__law_draw (hr.mono (by omega)) rfl (da_cons (de_v 1) (da_cons de_int da_nil))) da_nil)) (show BlkOk N__law_near (defScope s__law_near) _ _ from ⟨rfl, by decide +kernel, by decide +kernel, by decide +kernel, by decide +kernel⟩) (fun _ _ _ _ _ => (dg_name 9 go.blk.nd)) (fun _ _ _ _ _ => dts_nil) (fun _ _ _ _ _ => (de_call [true, false] go.blk h__law_draw (hr.mono (by omega)) rfl (da_cons (de_v 2) (da_cons (de_v 3) da_nil)))))) dl_nil)
  (dl_cons (ds_if (dt_eq hu (de_v 7) de_int) (dl_one (ds_set 8 go.nd (de_sl (de_v 6) (do_some de_int) do_no))) dl_nil)
  (dl_cons (ds_if (dt_eq hu (de_v 7) de_int) (dl_one (ds_set 8 go.nd (de_add (de_v 6) (de_lst (da_cons (de_call [true, false] go h__law_draw (hr.mono (by omega)) rfl (da_cons (de_v 2) (da_cons (de_v 3) da_nil))) da_nil))))) dl_nil)
  (dl_cons (ds_if (dt_gt (de_len h_len (da_cons (de_v 8) da_nil)) (de_v 5)) (dl_one (ds_set 8 go.nd (de_sl (de_v 8) do_no (do_some de_int)))) dl_nil)
  (dl_cons (ds_set 5 go.nd (de_div (de_v 5) (de_max2 go h_max (da_cons de_int (da_cons (de_len h_len (da_cons (de_v 8) da_nil)) da_nil)))))
  (dl_one (ds_expr (de_append (de_v 4) (de_v 8))))))))))))
  (dl_one (ds_ret (de_v 4))))))
theorem sc__law_within : FnScope N__law_within ["_law_one", "_law_two"] (defScope s__law_within) := ⟨rfl, rfl, rfl, by decide +kernel, rfl, by decide +kernel, by decide +kernel⟩
theorem b__law_within {F__law_combos : Fn} (h__law_combos : DF P w K mg base "_law_combos" k 1 F__law_combos) (h_len : mg "len" = none) : Body P w K mg base N__law_within "_law_within" (defScope s__law_within) f (defBody s__law_within) 2 (k + 1) (f__law_within F__law_combos) := fun cdv A outer s H E hr => by
  have go : Go (cxOf (L2.CX P w) P w K mg base N__law_within "_law_within" (defScope s__law_within) f cdv A outer s H E) (WB E) := go_def (CX := L2.CX P w) sc__law_within.nd hr
  have hu := go.rm
  exact (dl_one (ds_ret (de_eq hu (de_len h_len (da_cons (de_lc (g := (gN 2)) (tt := (tCmp (eNotIn (eVar 2) (eVar 1)))) (te := (eVar 2)) [("_law_row", 2)] go (di_seq (de_call [false] go h__law_combos (hr.mono (by omega)) rfl (da_cons (de_v 0) da_nil))) (show BlkOk N__law_within (defScope s__law_within) _ _ from ⟨rfl, by decide +kernel, by decide +kernel, by decide +kernel, by decide +kernel⟩) (fun _ _ _ _ _ => (dg_name 2 go.blk.nd)) (fun _ _ _ _ _ => (dts_one (dt_notIn hu (de_v 2) (de_v 1)))) (fun _ _ _ _ _ => (de_v 2))) da_nil)) de_int)))
theorem sc_law : FnScope N_law ["_law_script"] (defScope s_law) := ⟨rfl, rfl, rfl, by decide +kernel, rfl, by decide +kernel, by decide +kernel⟩
theorem b_law {F__law_cell F__law_source F__law_draw F__law_draw_sides F__law_near F__law_clean F_Box_DinitD F_Box_DleD F__law_combos F__law_within : Fn} (h__law_cell : DF P w K mg base "_law_cell" k 2 F__law_cell) (h__law_source : DF P w K mg base "_law_source" k 1 F__law_source) (h__law_draw : DF P w K mg base "_law_draw" k 2 F__law_draw) (h__law_draw_sides : DF P w K mg base "_law_draw_sides" k 4 F__law_draw_sides) (h__law_near : DF P w K mg base "_law_near" k 4 F__law_near) (h__law_clean : DF P w K mg base "_law_clean" k 1 F__law_clean) (h_Box_DinitD : DM P w K mg base "Box" k 2 F_Box_DinitD) (h_range : mg "range" = none) (h_Box_DleD : DMeth P w K mg base "Box" "__le__" k 2 F_Box_DleD) (h_bool : mg "bool" = none) (h_isinstance : mg "isinstance" = none) (h__law_combos : DF P w K mg base "_law_combos" k 1 F__law_combos) (h__law_within : DF P w K mg base "_law_within" k 2 F__law_within) (h_len : mg "len" = none) : Body P w K mg base N_law "law" (defScope s_law) f (defBody s_law) 1 (k + 1) (f_law F__law_cell F__law_source F__law_draw F__law_draw_sides F__law_near F__law_clean F_Box_DinitD F_Box_DleD F__law_combos F__law_within) := fun cdv A outer s H E hr => by
  have go : Go (cxOf (L2.CX P w) P w K mg base N_law "law" (defScope s_law) f cdv A outer s H E) (WB E) := go_def (CX := L2.CX P w) sc_law.nd hr
  have hu := go.rm
  exact (dl_cons (ds_set 1 go.nd (de_call [false] go h__law_source (hr.mono (by omega)) rfl (da_cons (de_call [false, false] go h__law_cell (hr.mono (by omega)) rfl (da_cons (de_v 0) (da_cons de_int da_nil))) da_nil)))
  (dl_cons (ds_set 2 go.nd (de_call [false] go h__law_source (hr.mono (by omega)) rfl (da_cons (de_call [false, false] go h__law_cell (hr.mono (by omega)) rfl (da_cons (de_v 0) (da_cons de_int da_nil))) da_nil)))
  (dl_cons (ds_set 3 go.nd (de_ix (de_lst (da_cons de_int (da_cons (de_add (de_pow de_int de_int) de_int) da_nil))) (de_call [true, false] go h__law_draw (hr.mono (by omega)) rfl (da_cons (de_v 1) (da_cons de_int da_nil)))))
  (dl_cons (ds_set 4 go.nd (de_call [true, true, false, false] go h__law_draw_sides (hr.mono (by omega)) rfl (da_cons (de_v 1) (da_cons (de_v 2) (da_cons (de_add de_int (de_call [true, false] go h__law_draw (hr.mono (by omega)) rfl (da_cons (de_v 1) (da_cons de_int da_nil)))) (da_cons (de_v 3) da_nil))))))
  (dl_cons (ds_set 5 go.nd (de_call [false, true, true, false] go h__law_near (hr.mono (by omega)) rfl (da_cons (de_v 4) (da_cons (de_v 1) (da_cons (de_v 2) (da_cons (de_v 3) da_nil))))))
  (dl_cons (ds_setLc (g := (gN 14)) (tt := tYes') (te := (eCall [false] F__law_clean (aCons (eVar 14) aNil))) 6 [("_law_side", 14)] rfl rfl rfl rfl rfl go (di_seq (de_v 4)) (show BlkOk N_law (defScope s_law) _ _ from ⟨rfl, by decide +kernel, by decide +kernel, by decide +kernel, by decide +kernel⟩) (fun _ _ _ _ _ => (dg_name 14 go.blk.nd)) (fun _ _ _ _ _ => dts_nil) (fun _ _ _ _ _ => (de_call [false] go.blk h__law_clean (hr.mono (by omega)) rfl (da_cons (de_v 14) da_nil))))
  (dl_cons (ds_setLc (g := (gN 14)) (tt := tYes') (te := (eCall [false] F__law_clean (aCons (eVar 14) aNil))) 7 [("_law_side", 14)] rfl rfl rfl rfl rfl go (di_seq (de_v 5)) (show BlkOk N_law (defScope s_law) _ _ from ⟨rfl, by decide +kernel, by decide +kernel, by decide +kernel, by decide +kernel⟩) (fun _ _ _ _ _ => (dg_name 14 go.blk.nd)) (fun _ _ _ _ _ => dts_nil) (fun _ _ _ _ _ => (de_call [false] go.blk h__law_clean (hr.mono (by omega)) rfl (da_cons (de_v 14) da_nil))))
  (dl_cons (ds_set 8 go.nd (de_make [false] go h_Box_DinitD hr rfl (da_cons (de_v 4) da_nil)))
  (dl_cons (ds_set 9 go.nd (de_make [false] go h_Box_DinitD hr rfl (da_cons (de_v 5) da_nil)))
  (dl_cons (ds_for go (di_rng1 rfl h_range (da_cons de_int da_nil)) (dg_name 10 go.nd) (dl_cons (ds_set 12 go.nd (de_own_le [false, false] go h_Box_DleD (hr.mono (by omega)) (de_v 8) (de_v 9)))
  (dl_cons (ds_set 13 go.nd (de_own_le [false, false] go h_Box_DleD (hr.mono (by omega)) (de_v 9) (de_v 8)))
  (dl_cons (ds_if ((dw_or (dt_not (dt_val (de_isi h_isinstance (da_cons (de_v 12) (da_cons (de_tyN h_bool PyProof.Rows.boot_bool) da_nil))))) (dw_or1 (dt_ne hu (de_v 12) (de_call [false, false] go h__law_within (hr.mono (by omega)) rfl (da_cons (de_v 6) (da_cons (de_call [false] go h__law_combos (hr.mono (by omega)) rfl (da_cons (de_v 7) da_nil)) da_nil))))))).t (dl_one (ds_ret de_bl)) dl_nil)
  (dl_cons (ds_if ((dw_or (dt_not (dt_val (de_isi h_isinstance (da_cons (de_v 13) (da_cons (de_tyN h_bool PyProof.Rows.boot_bool) da_nil))))) (dw_or1 (dt_ne hu (de_v 13) (de_call [false, false] go h__law_within (hr.mono (by omega)) rfl (da_cons (de_v 7) (da_cons (de_call [false] go h__law_combos (hr.mono (by omega)) rfl (da_cons (de_v 6) da_nil)) da_nil))))))).t (dl_one (ds_ret de_bl)) dl_nil)
  (dl_one (ds_if ((dw_or (dt_isNot (de_own_le [false, false] go h_Box_DleD (hr.mono (by omega)) (de_v 8) (de_v 8)) de_bl) (dw_or1 (dt_isNot (de_own_le [false, false] go h_Box_DleD (hr.mono (by omega)) (de_v 9) (de_v 9)) de_bl)))).t (dl_one (ds_ret de_bl)) dl_nil)))))))
  (dl_cons (ds_set 11 go.nd (de_make [false] go h_Box_DinitD hr rfl (da_cons (de_lc (g := (gN 14)) (tt := tYes') (te := (eLst aNil)) [("_law_side", 14)] go (di_seq (de_v 4)) (show BlkOk N_law (defScope s_law) _ _ from ⟨rfl, by decide +kernel, by decide +kernel, by decide +kernel, by decide +kernel⟩) (fun _ _ _ _ _ => (dg_name 14 go.blk.nd)) (fun _ _ _ _ _ => dts_nil) (fun _ _ _ _ _ => (de_lst da_nil))) da_nil)))
  (dl_one (ds_ret (de_and (de_is (de_own_le [false, false] go h_Box_DleD (hr.mono (by omega)) (de_v 11) (de_v 8)) de_bl) (de_one (de_eq hu (de_own_le [false, false] go h_Box_DleD (hr.mono (by omega)) (de_v 8) (de_v 11)) (de_eq hu (de_len h_len (da_cons (de_call [false] go h__law_combos (hr.mono (by omega)) rfl (da_cons (de_v 6) da_nil)) da_nil)) de_int)))))))))))))))))
theorem sc_Box_DinitD : FnScope N_Box_DinitD ["self", "sides"] (defScope s_Box_DinitD) := ⟨rfl, rfl, rfl, by decide +kernel, rfl, by decide +kernel, by decide +kernel⟩
theorem b_Box_DinitD {F_is_number F_ascending F_grid : Fn} (h_len : mg "len" = none) (h_is_number : DF P w K mg base "is_number" k 1 F_is_number) (h_ascending : DF P w K mg base "ascending" k 1 F_ascending) (h_tuple : mg "tuple" = none) (hf_sides : FldOk K ["Box"] "sides") (h_grid : DF P w K mg base "grid" k 1 F_grid) (hf_rows : FldOk K ["Box"] "rows") : Body P w K mg base N_Box_DinitD "Box.__init__" (defScope s_Box_DinitD) f (defBody s_Box_DinitD) 2 (k + 1) (f_Box_DinitD F_is_number F_ascending F_grid) := fun cdv A outer s H E hr => by
  have go : Go (cxOf (L2.CX P w) P w K mg base N_Box_DinitD "Box.__init__" (defScope s_Box_DinitD) f cdv A outer s H E) (WB E) := go_def (CX := L2.CX P w) sc_Box_DinitD.nd hr
  have hu := go.rm
  exact (dl_cons (ds_if (dt_eq hu (de_len h_len (da_cons (de_v 1) da_nil)) de_int) (dl_one ds_never) dl_nil)
  (dl_cons (ds_set 2 go.nd (de_lst da_nil))
  (dl_cons (ds_for go (di_seq (de_v 1)) (dg_name 3 go.nd) (dl_cons (ds_for go (di_seq (de_v 3)) (dg_name 4 go.nd) (dl_one (ds_if (dt_not (dt_val (de_call [false] go h_is_number (hr.mono (by omega)) rfl (da_cons (de_v 4) da_nil)))) (dl_one ds_never) dl_nil)))
  (dl_one (ds_expr (de_append (de_v 2) (de_call [false] go h_ascending (hr.mono (by omega)) rfl (da_cons (de_v 3) da_nil)))))))
  (dl_cons (ds_setF hf_sides (de_v 0) (de_tuple h_tuple (da_cons (de_v 2) da_nil)))
  (dl_one (ds_setF hf_rows (de_v 0) (de_call [false] go h_grid (hr.mono (by omega)) rfl (da_cons (de_v 2) da_nil))))))))
-- Box_DiterD: not covered: call iter
theorem sc_Box_DgetitemD : FnScope N_Box_DgetitemD ["self", "at"] (defScope s_Box_DgetitemD) := ⟨rfl, rfl, rfl, by decide +kernel, rfl, by decide +kernel, by decide +kernel⟩
theorem b_Box_DgetitemD (hf_sides : FldOk K ["Box"] "sides") : Body P w K mg base N_Box_DgetitemD "Box.__getitem__" (defScope s_Box_DgetitemD) f (defBody s_Box_DgetitemD) 2 (k + 1) (f_Box_DgetitemD) := fun cdv A outer s H E hr => by
  have go : Go (cxOf (L2.CX P w) P w K mg base N_Box_DgetitemD "Box.__getitem__" (defScope s_Box_DgetitemD) f cdv A outer s H E) (WB E) := go_def (CX := L2.CX P w) sc_Box_DgetitemD.nd hr
  have hu := go.rm
  exact (dl_one (ds_ret (de_ix (de_fld hf_sides (de_v 0)) (de_v 1))))
theorem sc_Box_DcontainsD : FnScope N_Box_DcontainsD ["self", "combination"] (defScope s_Box_DcontainsD) := ⟨rfl, rfl, rfl, by decide +kernel, rfl, by decide +kernel, by decide +kernel⟩
theorem b_Box_DcontainsD {F_is_number : Fn} (h_len : mg "len" = none) (hf_sides : FldOk K ["Box"] "sides") (h_zip : mg "zip" = none) (h_is_number : DF P w K mg base "is_number" k 1 F_is_number) : Body P w K mg base N_Box_DcontainsD "Box.__contains__" (defScope s_Box_DcontainsD) f (defBody s_Box_DcontainsD) 2 (k + 1) (f_Box_DcontainsD F_is_number) := fun cdv A outer s H E hr => by
  have go : Go (cxOf (L2.CX P w) P w K mg base N_Box_DcontainsD "Box.__contains__" (defScope s_Box_DcontainsD) f cdv A outer s H E) (WB E) := go_def (CX := L2.CX P w) sc_Box_DcontainsD.nd hr
  have hu := go.rm
  exact (dl_cons (ds_if (dt_ne hu (de_len h_len (da_cons (de_v 1) da_nil)) (de_len h_len (da_cons (de_fld hf_sides (de_v 0)) da_nil))) (dl_one (ds_ret de_bl)) dl_nil)
  (dl_cons (ds_for go (di_zip rfl h_zip (da_cons (de_v 1) (da_cons (de_fld hf_sides (de_v 0)) da_nil))) (dg_tup go.calm (dgs_cons (dg_name 2 go.nd) (dgs_cons (dg_name 3 go.nd) dgs_nil))) (dl_one (ds_if ((dw_or (dt_not (dt_val (de_call [false] go h_is_number (hr.mono (by omega)) rfl (da_cons (de_v 2) da_nil)))) (dw_or1 (dt_notIn hu (de_v 2) (de_v 3))))).t (dl_one (ds_ret de_bl)) dl_nil)))
  (dl_one (ds_ret de_bl))))
theorem sc_Box_DleD : FnScope N_Box_DleD ["self", "other"] (defScope s_Box_DleD) := ⟨rfl, rfl, rfl, by decide +kernel, rfl, by decide +kernel, by decide +kernel⟩
theorem b_Box_DleD (hf_rows : FldOk K ["Box"] "rows") (h_len : mg "len" = none) (hf_sides : FldOk K ["Box"] "sides") (h_zip : mg "zip" = none) : Body P w K mg base N_Box_DleD "Box.__le__" (defScope s_Box_DleD) f (defBody s_Box_DleD) 2 (k + 1) (f_Box_DleD) := fun cdv A outer s H E hr => by
  have go : Go (cxOf (L2.CX P w) P w K mg base N_Box_DleD "Box.__le__" (defScope s_Box_DleD) f cdv A outer s H E) (WB E) := go_def (CX := L2.CX P w) sc_Box_DleD.nd hr
  have hu := go.rm
  exact (dl_cons (ds_if (dt_eq hu (de_len h_len (da_cons (de_fld hf_rows (de_v 0)) da_nil)) de_int) (dl_one (ds_ret de_bl)) dl_nil)
  (dl_cons (ds_for go (di_zip rfl h_zip (da_cons (de_fld hf_sides (de_v 0)) (da_cons (de_fld hf_sides (de_v 1)) da_nil))) (dg_tup go.calm (dgs_cons (dg_name 2 go.nd) (dgs_cons (dg_name 3 go.nd) dgs_nil))) (dl_one (ds_for go (di_seq (de_v 2)) (dg_name 4 go.nd) (dl_one (ds_if (dt_notIn hu (de_v 4) (de_v 3)) (dl_one (ds_ret de_bl)) dl_nil)))))
  (dl_one (ds_ret de_bl))))
theorem sc_Box_DandD : FnScope N_Box_DandD ["self", "other"] (defScope s_Box_DandD) := ⟨rfl, rfl, rfl, by decide +kernel, rfl, by decide +kernel, by decide +kernel⟩
theorem b_Box_DandD {F_common_sides F_Box_DinitD : Fn} (hf_sides : FldOk K ["Box"] "sides") (h_common_sides : DF P w K mg base "common_sides" k 2 F_common_sides) (h_Box_DinitD : DM P w K mg base "Box" k 2 F_Box_DinitD) : Body P w K mg base N_Box_DandD "Box.__and__" (defScope s_Box_DandD) f (defBody s_Box_DandD) 2 (k + 1) (f_Box_DandD F_common_sides F_Box_DinitD) := fun cdv A outer s H E hr => by
  have go : Go (cxOf (L2.CX P w) P w K mg base N_Box_DandD "Box.__and__" (defScope s_Box_DandD) f cdv A outer s H E) (WB E) := go_def (CX := L2.CX P w) sc_Box_DandD.nd hr
  have hu := go.rm
  exact (dl_one (ds_ret (de_make [false] go h_Box_DinitD hr rfl (da_cons (de_call [false, false] go h_common_sides (hr.mono (by omega)) rfl (da_cons (de_fld hf_sides (de_v 0)) (da_cons (de_fld hf_sides (de_v 1)) da_nil))) da_nil))))
-- Box_DsubD: not covered: iter enumerate
end
end My

namespace My
open PySem Dl
theorem isl_ii : isLook "int" "int" = some true := by decide +kernel
theorem isl_ib : isLook "int" "bool" = some false := by decide +kernel
theorem isl_bb : isLook "bool" "bool" = some true := by decide +kernel
def fn_is_integer : Fn
  | [.val (.int n)] => some (.ret (.val (.bl true)) [.val (.int n)])
  | _ => none
theorem le_is_integer : Fn.le fn_is_integer (mkFn 1 1 f_is_integer) := by
  intro ss o h
  unfold fn_is_integer at h
  split at h
  · cases h
    simp only [f_is_integer, isl_ii, isl_ib, sSeq, sSet, setV, sRet, retV, sRetN, sIf, sExpr, sNil, sPass, sBreak, sCont, sFor, thenS, bind_eq, pure_eq, eVar, eC, mBin, peek, Dl.settle, ofO, toV, toVs, peeks, aCons, aNil, aStar, eB, eIx, eSl, eTup, eLst, iSeq, iRng1, iRng2, iZip, eCall, callM, prep, ssOf, ssOfs, dist, isAli, noAli, scaR, scaD, back, back1, ownOr, isOwn, tCmp, tVal, tru, truD, tNot, tAnd, tOr, tYes', eAnd, eOr, eNot, eIf, eNeg, gN, gT, gsCons, gsNil, sSetIx, ownLst, ckL, eFld, lkF, oSome, oNo, gII, gIIc, dAdd, dSub, dMul, dDiv, dMod, dPow, dLt, dLe, dGt, dGe, gTT, gLL, gSS, gLen, gInt, gMax2, gMin2, gList, gTuple, gIsi, tyNm, dIx, dSl, noOwn, wipeS, backS, M.fail, post, mkFn, List.getElem?_cons_zero, List.getElem?_cons_succ, List.getElem?_nil, List.set_cons_zero, List.set_cons_succ, List.getD_cons_zero, List.getD_cons_succ, List.cons_append, List.nil_append, List.append_nil, List.length_cons, List.length_nil, List.replicate, List.tail_cons, List.tail_nil, List.any_cons, List.any_nil, List.all_cons, List.all_nil, List.map_cons, List.map_nil, Option.map_some, Option.map_none, Option.bind_some, Option.bind_none, Option.some_or, Option.none_or, Bool.not_true, Bool.not_false, Bool.and_true, Bool.true_and, Bool.and_false, Bool.false_and, Bool.or_true, Bool.or_false, Bool.true_or, Bool.false_or, Bool.false_eq_true, if_true, if_false, reduceIte, Nat.reduceAdd, Nat.reduceSub, Nat.reduceEqDiff, Nat.reduceBEq, Nat.reduceLT, decide_true, decide_false]
  · cases h
def fn_is_number : Fn
  | [.val (.int n)] => some (.ret (.val (.bl (decide (0 ≤ n)))) [.val (.int n)])
  | _ => none
theorem le_is_number : Fn.le fn_is_number (mkFn 1 1 (f_is_number fn_is_integer)) := by
  intro ss o h
  unfold fn_is_number at h
  split at h
  · cases h
    simp only [f_is_number, fn_is_integer, sSeq, sSet, setV, sRet, retV, sRetN, sIf, sExpr, sNil, sPass, sBreak, sCont, sFor, thenS, bind_eq, pure_eq, eVar, eC, mBin, peek, Dl.settle, ofO, toV, toVs, peeks, aCons, aNil, aStar, eB, eIx, eSl, eTup, eLst, iSeq, iRng1, iRng2, iZip, eCall, callM, prep, ssOf, ssOfs, dist, isAli, noAli, scaR, scaD, back, back1, ownOr, isOwn, tCmp, tVal, tru, truD, tNot, tAnd, tOr, tYes', eAnd, eOr, eNot, eIf, eNeg, gN, gT, gsCons, gsNil, sSetIx, ownLst, ckL, eFld, lkF, oSome, oNo, gII, gIIc, dAdd, dSub, dMul, dDiv, dMod, dPow, dLt, dLe, dGt, dGe, gTT, gLL, gSS, gLen, gInt, gMax2, gMin2, gList, gTuple, gIsi, tyNm, dIx, dSl, noOwn, wipeS, backS, M.fail, post, mkFn, List.getElem?_cons_zero, List.getElem?_cons_succ, List.getElem?_nil, List.set_cons_zero, List.set_cons_succ, List.getD_cons_zero, List.getD_cons_succ, List.cons_append, List.nil_append, List.append_nil, List.length_cons, List.length_nil, List.replicate, List.tail_cons, List.tail_nil, List.any_cons, List.any_nil, List.all_cons, List.all_nil, List.map_cons, List.map_nil, Option.map_some, Option.map_none, Option.bind_some, Option.bind_none, Option.some_or, Option.none_or, Bool.not_true, Bool.not_false, Bool.and_true, Bool.true_and, Bool.and_false, Bool.false_and, Bool.or_true, Bool.or_false, Bool.true_or, Bool.false_or, Bool.false_eq_true, if_true, if_false, reduceIte, Nat.reduceAdd, Nat.reduceSub, Nat.reduceEqDiff, Nat.reduceBEq, Nat.reduceLT, decide_true, decide_false]
  · cases h
end My

namespace My
open PySem Dl
open L2 (ixN atI)
theorem ixN_ok {n k : Nat} (h : k < n) : ixN n (k : Int) = some k := by
  unfold ixN
  rw [if_pos (Int.natCast_nonneg k), if_pos (by omega), Int.toNat_natCast]
theorem atI_nat {α : Type} {xs : List α} {k : Nat} : atI xs (k : Int) = xs[k]? := by
  unfold atI
  by_cases h : k < xs.length
  · rw [ixN_ok h]; rfl
  · have : ixN xs.length (k : Int) = none := by
      unfold ixN
      rw [if_pos (Int.natCast_nonneg k), if_neg (by omega)]
    rw [this, List.getElem?_eq_none (by omega)]; rfl
theorem atI_0 {α : Type} {x : α} {xs : List α} : atI (x :: xs) 0 = some x := atI_nat (k := 0)
theorem atI_1 {α : Type} {x y : α} {xs : List α} : atI (x :: y :: xs) 1 = some y := atI_nat (k := 1)
theorem atI_2 {α : Type} {x y z : α} {xs : List α} : atI (x :: y :: z :: xs) 2 = some z := atI_nat (k := 2)
def cellV (ns : List Int) (k : Int) : Int := ns.getD k.toNat 0
def fn_cell : Fn
  | [.val (.scr ns), .val (.int k)] => if 0 ≤ k then some (.ret (.val (.int (cellV ns k))) [.val (.scr ns), .val (.int k)]) else none
  | _ => none
theorem le_cell : Fn.le fn_cell (mkFn 2 2 f__law_cell) := by
  intro ss o h
  unfold fn_cell at h
  split at h
  · rename_i ns k
    by_cases hk : 0 ≤ k
    · rw [if_pos hk] at h
      cases h
      obtain ⟨n, rfl⟩ := Int.eq_ofNat_of_zero_le hk
      by_cases hl : n < ns.length
      · have e1 : decide ((n : Int) < (ns.length : Int)) = true := decide_eq_true (by omega)
        have e2 : atI ns (n : Int) = some (cellV ns n) := by
          rw [atI_nat]
          simp [cellV, List.getElem?_eq_getElem hl]
        simp only [f__law_cell, e1, e2, sSeq, sSet, setV, sRet, retV, sRetN, sIf, sExpr, sNil, sPass, sBreak, sCont, sFor, thenS, bind_eq, pure_eq, eVar, eC, mBin, peek, Dl.settle, ofO, toV, toVs, peeks, aCons, aNil, aStar, eB, eIx, eSl, eTup, eLst, iSeq, iRng1, iRng2, iZip, eCall, callM, prep, ssOf, ssOfs, dist, isAli, noAli, scaR, scaD, back, back1, ownOr, isOwn, tCmp, tVal, tru, truD, tNot, tAnd, tOr, tYes', eAnd, eOr, eNot, eIf, eNeg, gN, gT, gsCons, gsNil, sSetIx, ownLst, ckL, eFld, lkF, oSome, oNo, gII, gIIc, dAdd, dSub, dMul, dDiv, dMod, dPow, dLt, dLe, dGt, dGe, gTT, gLL, gSS, gLen, gInt, gMax2, gMin2, gList, gTuple, gIsi, tyNm, dIx, dSl, noOwn, wipeS, backS, M.fail, post, mkFn, List.getElem?_cons_zero, List.getElem?_cons_succ, List.getElem?_nil, List.set_cons_zero, List.set_cons_succ, List.getD_cons_zero, List.getD_cons_succ, List.cons_append, List.nil_append, List.append_nil, List.length_cons, List.length_nil, List.replicate, List.tail_cons, List.tail_nil, List.any_cons, List.any_nil, List.all_cons, List.all_nil, List.map_cons, List.map_nil, Option.map_some, Option.map_none, Option.bind_some, Option.bind_none, Option.some_or, Option.none_or, Bool.not_true, Bool.not_false, Bool.and_true, Bool.true_and, Bool.and_false, Bool.false_and, Bool.or_true, Bool.or_false, Bool.true_or, Bool.false_or, Bool.false_eq_true, if_true, if_false, reduceIte, Nat.reduceAdd, Nat.reduceSub, Nat.reduceEqDiff, Nat.reduceBEq, Nat.reduceLT, decide_true, decide_false]
      · have e1 : decide ((n : Int) < (ns.length : Int)) = false := decide_eq_false (by omega)
        have e2 : cellV ns n = 0 := by
          simp [cellV, List.getElem?_eq_none (by omega : ns.length ≤ n)]
        simp only [f__law_cell, e1, e2, sSeq, sSet, setV, sRet, retV, sRetN, sIf, sExpr, sNil, sPass, sBreak, sCont, sFor, thenS, bind_eq, pure_eq, eVar, eC, mBin, peek, Dl.settle, ofO, toV, toVs, peeks, aCons, aNil, aStar, eB, eIx, eSl, eTup, eLst, iSeq, iRng1, iRng2, iZip, eCall, callM, prep, ssOf, ssOfs, dist, isAli, noAli, scaR, scaD, back, back1, ownOr, isOwn, tCmp, tVal, tru, truD, tNot, tAnd, tOr, tYes', eAnd, eOr, eNot, eIf, eNeg, gN, gT, gsCons, gsNil, sSetIx, ownLst, ckL, eFld, lkF, oSome, oNo, gII, gIIc, dAdd, dSub, dMul, dDiv, dMod, dPow, dLt, dLe, dGt, dGe, gTT, gLL, gSS, gLen, gInt, gMax2, gMin2, gList, gTuple, gIsi, tyNm, dIx, dSl, noOwn, wipeS, backS, M.fail, post, mkFn, List.getElem?_cons_zero, List.getElem?_cons_succ, List.getElem?_nil, List.set_cons_zero, List.set_cons_succ, List.getD_cons_zero, List.getD_cons_succ, List.cons_append, List.nil_append, List.append_nil, List.length_cons, List.length_nil, List.replicate, List.tail_cons, List.tail_nil, List.any_cons, List.any_nil, List.all_cons, List.all_nil, List.map_cons, List.map_nil, Option.map_some, Option.map_none, Option.bind_some, Option.bind_none, Option.some_or, Option.none_or, Bool.not_true, Bool.not_false, Bool.and_true, Bool.true_and, Bool.and_false, Bool.false_and, Bool.or_true, Bool.or_false, Bool.true_or, Bool.false_or, Bool.false_eq_true, if_true, if_false, reduceIte, Nat.reduceAdd, Nat.reduceSub, Nat.reduceEqDiff, Nat.reduceBEq, Nat.reduceLT, decide_true, decide_false]
    · rw [if_neg hk] at h; cases h
  · cases h
structure Src where
  a : Int
  b : Int
  c : Int
def Src.ds (s : Src) : List D := [.int s.a, .int s.b, .int s.c]
abbrev Src.d (s : Src) : D := .lst s.ds
def srcV (n : Int) : Src := if 10 ^ 18 ≤ n then ⟨n, 0, n⟩ else ⟨0, 0, n⟩
def fn_source : Fn
  | [.val (.int n)] => some (.ret (.own (srcV n).d) [.val (.int n)])
  | _ => none
theorem sz3 : (3 : Nat) ≤ sizeLine := by rw [PySem.sizeLine_eq]; decide
theorem sz0 : (0 : Nat) ≤ sizeLine := by rw [PySem.sizeLine_eq]; decide
theorem sz1 : (1 : Nat) ≤ sizeLine := by rw [PySem.sizeLine_eq]; decide
theorem sz2 : (2 : Nat) ≤ sizeLine := by rw [PySem.sizeLine_eq]; decide
theorem sz4 : (4 : Nat) ≤ sizeLine := by rw [PySem.sizeLine_eq]; decide
theorem pow18 : powOk 10 18 = true := by decide +kernel
theorem pow9 : powOk 10 9 = true := by decide +kernel
theorem le_source : Fn.le fn_source (mkFn 1 1 f__law_source) := by
  intro ss o h
  unfold fn_source at h
  split at h
  · rename_i n
    cases h
    have e18 : ((10 : Int) ^ (18 : Int).toNat) = 10 ^ 18 := rfl
    by_cases hl : (10 : Int) ^ 18 ≤ n
    · have e2 : srcV n = ⟨n, 0, n⟩ := if_pos hl
      simp only [f__law_source, e18, pow18, decide_eq_true hl, e2, Src.d, Src.ds, sz3, Nat.zero_add, sSeq, sSet, setV, sRet, retV, sRetN, sIf, sExpr, sNil, sPass, sBreak, sCont, sFor, thenS, bind_eq, pure_eq, eVar, eC, mBin, peek, Dl.settle, ofO, toV, toVs, peeks, aCons, aNil, aStar, eB, eIx, eSl, eTup, eLst, iSeq, iRng1, iRng2, iZip, eCall, callM, prep, ssOf, ssOfs, dist, isAli, noAli, scaR, scaD, back, back1, ownOr, isOwn, tCmp, tVal, tru, truD, tNot, tAnd, tOr, tYes', eAnd, eOr, eNot, eIf, eNeg, gN, gT, gsCons, gsNil, sSetIx, ownLst, ckL, eFld, lkF, oSome, oNo, gII, gIIc, dAdd, dSub, dMul, dDiv, dMod, dPow, dLt, dLe, dGt, dGe, gTT, gLL, gSS, gLen, gInt, gMax2, gMin2, gList, gTuple, gIsi, tyNm, dIx, dSl, noOwn, wipeS, backS, M.fail, post, mkFn, List.getElem?_cons_zero, List.getElem?_cons_succ, List.getElem?_nil, List.set_cons_zero, List.set_cons_succ, List.getD_cons_zero, List.getD_cons_succ, List.cons_append, List.nil_append, List.append_nil, List.length_cons, List.length_nil, List.replicate, List.tail_cons, List.tail_nil, List.any_cons, List.any_nil, List.all_cons, List.all_nil, List.map_cons, List.map_nil, Option.map_some, Option.map_none, Option.bind_some, Option.bind_none, Option.some_or, Option.none_or, Bool.not_true, Bool.not_false, Bool.and_true, Bool.true_and, Bool.and_false, Bool.false_and, Bool.or_true, Bool.or_false, Bool.true_or, Bool.false_or, Bool.false_eq_true, if_true, if_false, reduceIte, Nat.reduceAdd, Nat.reduceSub, Nat.reduceEqDiff, Nat.reduceBEq, Nat.reduceLT, decide_true, decide_false]
    · have e2 : srcV n = ⟨0, 0, n⟩ := if_neg hl
      simp only [f__law_source, e18, pow18, decide_eq_false hl, e2, Src.d, Src.ds, sz3, Nat.zero_add, sSeq, sSet, setV, sRet, retV, sRetN, sIf, sExpr, sNil, sPass, sBreak, sCont, sFor, thenS, bind_eq, pure_eq, eVar, eC, mBin, peek, Dl.settle, ofO, toV, toVs, peeks, aCons, aNil, aStar, eB, eIx, eSl, eTup, eLst, iSeq, iRng1, iRng2, iZip, eCall, callM, prep, ssOf, ssOfs, dist, isAli, noAli, scaR, scaD, back, back1, ownOr, isOwn, tCmp, tVal, tru, truD, tNot, tAnd, tOr, tYes', eAnd, eOr, eNot, eIf, eNeg, gN, gT, gsCons, gsNil, sSetIx, ownLst, ckL, eFld, lkF, oSome, oNo, gII, gIIc, dAdd, dSub, dMul, dDiv, dMod, dPow, dLt, dLe, dGt, dGe, gTT, gLL, gSS, gLen, gInt, gMax2, gMin2, gList, gTuple, gIsi, tyNm, dIx, dSl, noOwn, wipeS, backS, M.fail, post, mkFn, List.getElem?_cons_zero, List.getElem?_cons_succ, List.getElem?_nil, List.set_cons_zero, List.set_cons_succ, List.getD_cons_zero, List.getD_cons_succ, List.cons_append, List.nil_append, List.append_nil, List.length_cons, List.length_nil, List.replicate, List.tail_cons, List.tail_nil, List.any_cons, List.any_nil, List.all_cons, List.all_nil, List.map_cons, List.map_nil, Option.map_some, Option.map_none, Option.bind_some, Option.bind_none, Option.some_or, Option.none_or, Bool.not_true, Bool.not_false, Bool.and_true, Bool.true_and, Bool.and_false, Bool.false_and, Bool.or_true, Bool.or_false, Bool.true_or, Bool.false_or, Bool.false_eq_true, if_true, if_false, reduceIte, Nat.reduceAdd, Nat.reduceSub, Nat.reduceEqDiff, Nat.reduceBEq, Nat.reduceLT, decide_true, decide_false]
  · cases h
def mix1 (b c : Int) : Int := (c * 48271 + b * 69621) % 2147483647
def mix2 (b c : Int) : Int := (mix1 b c * mix1 b c + b * 40692 + 7) % 2147483629
def Src.get (s : Src) (n : Int) : Int := if 0 < s.a then s.a % n else (mix2 (s.b + 1) s.c / 8 + mix2 (s.b + 1) s.c * 10000019) % n
def Src.next (s : Src) (n : Int) : Src := ⟨if 0 < s.a then s.a / n else s.a, s.b + 1, s.c⟩
theorem Src.get_nonneg (s : Src) {n : Int} (h : 0 < n) : 0 ≤ s.get n := by
  unfold Src.get
  split <;> exact Int.emod_nonneg _ (by omega)
theorem Src.get_lt (s : Src) {n : Int} (h : 0 < n) : s.get n < n := by
  unfold Src.get
  split <;> exact Int.emod_lt_of_pos _ h
def fn_draw : Fn
  | [.own (.lst [.int a, .int b, .int c]), .val (.int n)] => if 0 < n ∧ n < 2 ^ 64 then some (.ret (.val (.int ((Src.mk a b c).get n))) [.own ((Src.mk a b c).next n).d, .val (.int n)]) else none
  | _ => none
theorem mulOk_r {i j : Int} (h : decide (-(2 ^ 64) < j ∧ j < 2 ^ 64) = true) : mulOk i j = true := by
  unfold mulOk
  rw [h, Bool.or_true]
theorem mul_k1 (i : Int) : mulOk i 48271 = true := mulOk_r (by decide)
theorem mul_k2 (i : Int) : mulOk i 69621 = true := mulOk_r (by decide)
theorem mul_k3 (i : Int) : mulOk i 40692 = true := mulOk_r (by decide)
theorem mul_k4 (i : Int) : mulOk i 10000019 = true := mulOk_r (by decide)
theorem mod_k1 (i : Int) : modOk i 2147483647 = true := rfl
theorem mod_k2 (i : Int) : modOk i 2147483629 = true := rfl
theorem div_k8 (i : Int) : divOk i 8 = true := rfl
theorem mul_mix (b c : Int) : mulOk (mix1 b c) (mix1 b c) = true := by
  refine mulOk_r (decide_eq_true ?_)
  have h1 := Int.emod_nonneg (c * 48271 + b * 69621) (b := 2147483647) (by omega)
  have h2 := Int.emod_lt_of_pos (c * 48271 + b * 69621) (b := 2147483647) (by omega)
  unfold mix1
  omega
theorem ixN3_0 : ixN 3 0 = some 0 := by decide
theorem ixN3_1 : ixN 3 1 = some 1 := by decide
theorem le_draw : Fn.le fn_draw (mkFn 2 4 f__law_draw) := by
  intro ss o h
  unfold fn_draw at h
  split at h
  · rename_i a b c n
    by_cases hn : 0 < n ∧ n < 2 ^ 64
    · rw [if_pos hn] at h
      cases h
      have m1 : ∀ i, modOk i n = true := fun i => decide_eq_true hn.1
      have d1 : ∀ i, divOk i n = true := fun i => decide_eq_true hn
      by_cases ha : 0 < a
      · have g1 : (Src.mk a b c).get n = a % n := if_pos ha
        have g2 : (Src.mk a b c).next n = ⟨a / n, b + 1, c⟩ := by unfold Src.next; dsimp only; rw [if_pos ha]
        simp only [f__law_draw, atI_0, atI_1, atI_2, ixN3_0, ixN3_1, decide_eq_true ha, m1, d1, g1, g2, Src.d, Src.ds, Nat.zero_add, sSeq, sSet, setV, sRet, retV, sRetN, sIf, sExpr, sNil, sPass, sBreak, sCont, sFor, thenS, bind_eq, pure_eq, eVar, eC, mBin, peek, Dl.settle, ofO, toV, toVs, peeks, aCons, aNil, aStar, eB, eIx, eSl, eTup, eLst, iSeq, iRng1, iRng2, iZip, eCall, callM, prep, ssOf, ssOfs, dist, isAli, noAli, scaR, scaD, back, back1, ownOr, isOwn, tCmp, tVal, tru, truD, tNot, tAnd, tOr, tYes', eAnd, eOr, eNot, eIf, eNeg, gN, gT, gsCons, gsNil, sSetIx, ownLst, ckL, eFld, lkF, oSome, oNo, gII, gIIc, dAdd, dSub, dMul, dDiv, dMod, dPow, dLt, dLe, dGt, dGe, gTT, gLL, gSS, gLen, gInt, gMax2, gMin2, gList, gTuple, gIsi, tyNm, dIx, dSl, noOwn, wipeS, backS, M.fail, post, mkFn, List.getElem?_cons_zero, List.getElem?_cons_succ, List.getElem?_nil, List.set_cons_zero, List.set_cons_succ, List.getD_cons_zero, List.getD_cons_succ, List.cons_append, List.nil_append, List.append_nil, List.length_cons, List.length_nil, List.replicate, List.tail_cons, List.tail_nil, List.any_cons, List.any_nil, List.all_cons, List.all_nil, List.map_cons, List.map_nil, Option.map_some, Option.map_none, Option.bind_some, Option.bind_none, Option.some_or, Option.none_or, Bool.not_true, Bool.not_false, Bool.and_true, Bool.true_and, Bool.and_false, Bool.false_and, Bool.or_true, Bool.or_false, Bool.true_or, Bool.false_or, Bool.false_eq_true, if_true, if_false, reduceIte, Nat.reduceAdd, Nat.reduceSub, Nat.reduceEqDiff, Nat.reduceBEq, Nat.reduceLT, decide_true, decide_false]
      · have g1 : (Src.mk a b c).get n = (mix2 (b + 1) c / 8 + mix2 (b + 1) c * 10000019) % n := if_neg ha
        have g2 : (Src.mk a b c).next n = ⟨a, b + 1, c⟩ := by unfold Src.next; dsimp only; rw [if_neg ha]
        have x1 : (c * 48271 + (b + 1) * 69621) % 2147483647 = mix1 (b + 1) c := rfl
        have x2 : (mix1 (b + 1) c * mix1 (b + 1) c + (b + 1) * 40692 + 7) % 2147483629 = mix2 (b + 1) c := rfl
        simp only [f__law_draw, atI_0, atI_1, atI_2, ixN3_0, ixN3_1, decide_eq_false ha, m1, d1, mul_k1, mul_k2, mul_k3, mul_k4, mod_k1, mod_k2, div_k8, x1, mul_mix, x2, g1, g2, Src.d, Src.ds, Nat.zero_add, sSeq, sSet, setV, sRet, retV, sRetN, sIf, sExpr, sNil, sPass, sBreak, sCont, sFor, thenS, bind_eq, pure_eq, eVar, eC, mBin, peek, Dl.settle, ofO, toV, toVs, peeks, aCons, aNil, aStar, eB, eIx, eSl, eTup, eLst, iSeq, iRng1, iRng2, iZip, eCall, callM, prep, ssOf, ssOfs, dist, isAli, noAli, scaR, scaD, back, back1, ownOr, isOwn, tCmp, tVal, tru, truD, tNot, tAnd, tOr, tYes', eAnd, eOr, eNot, eIf, eNeg, gN, gT, gsCons, gsNil, sSetIx, ownLst, ckL, eFld, lkF, oSome, oNo, gII, gIIc, dAdd, dSub, dMul, dDiv, dMod, dPow, dLt, dLe, dGt, dGe, gTT, gLL, gSS, gLen, gInt, gMax2, gMin2, gList, gTuple, gIsi, tyNm, dIx, dSl, noOwn, wipeS, backS, M.fail, post, mkFn, List.getElem?_cons_zero, List.getElem?_cons_succ, List.getElem?_nil, List.set_cons_zero, List.set_cons_succ, List.getD_cons_zero, List.getD_cons_succ, List.cons_append, List.nil_append, List.append_nil, List.length_cons, List.length_nil, List.replicate, List.tail_cons, List.tail_nil, List.any_cons, List.any_nil, List.all_cons, List.all_nil, List.map_cons, List.map_nil, Option.map_some, Option.map_none, Option.bind_some, Option.bind_none, Option.some_or, Option.none_or, Bool.not_true, Bool.not_false, Bool.and_true, Bool.true_and, Bool.and_false, Bool.false_and, Bool.or_true, Bool.or_false, Bool.true_or, Bool.false_or, Bool.false_eq_true, if_true, if_false, reduceIte, Nat.reduceAdd, Nat.reduceSub, Nat.reduceEqDiff, Nat.reduceBEq, Nat.reduceLT, decide_true, decide_false]
    · rw [if_neg hn] at h; cases h
  · cases h
end My

namespace My
open PySem Dl
open L2 (ixN atI)
/-! ### data: dints, lists, rows -/
def bindF {α β : Type} (f : List S → Option (Ot α)) (k : α → List S → Option (Ot β)) : List S → Option (Ot β) := fun ρ => match f ρ with
  | some (.ok a ρ') => k a ρ'
  | some (.ex e ρ') => some (.ex e ρ')
  | none => none
theorem mAppend_eq (fo fa : M Rv) (ρ : List S) : mAppend fo fa ρ = bindF fo (fun r => bindF (ckL (Dl.settle r)) fun _ => bindF fa fun x => bindF (toV (Dl.settle x)) fun d ρ => match ownLst (Dl.settle r) ρ with
    | some (i, ds) => if ds.length < sizeLine then some (.ok (.val .non) (ρ.set i (.own (.lst (ds ++ [d]))))) else none
    | none => none) ρ := rfl
theorem eLc_eq (it : M (List D)) (tg : D → List S → Option (List S)) (tt : M Bool) (te : M Rv) (vs : List Nat) (ρ : List S) : eLc it tg tt te vs ρ = bindF it (fun ds => bindF (fun ρ => if noOwn ρ vs = true then lcL tg tt te vs ds [] ρ else none) fun acc ρ => some (.ok (.own (.lst acc)) ρ)) ρ := rfl
theorem eLc2_eq (it : M (List D)) (tg : D → List S → Option (List S)) (tt : M Bool) (it1 : M (List D)) (tg1 : D → List S → Option (List S)) (tt1 : M Bool) (te : M Rv) (vs vs1 : List Nat) (ρ : List S) : eLc2 it tg tt it1 tg1 tt1 te vs vs1 ρ = bindF it (fun ds => bindF (fun ρ => if noOwn ρ vs = true then lcO tg tt it1 tg1 tt1 te vs vs1 ds [] ρ else none) fun acc ρ => some (.ok (.own (.lst acc)) ρ)) ρ := rfl
abbrev dints (ns : List Int) : List D := ns.map D.int
abbrev Ll (ns : List Int) : D := .lst (dints ns)
abbrev Lt (ns : List Int) : D := .tup (dints ns)
abbrev pints (ns : List Int) : List PyData := ns.map PyData.int
theorem toPs_ints : ∀ ns : List Int, toPs (dints ns) = some (pints ns)
  | [] => by simp [toPs]
  | n :: ns => by
    have h := toPs_ints ns
    simp only [dints, List.map_cons] at h ⊢
    unfold toPs
    rw [h]
    unfold toP; rfl
theorem sh0 : (true && decide ((0 : Nat) ≤ 64)) = true := rfl
theorem canLay_ints : ∀ ns : List Int, PyData.canLayAll0 (pints ns) = true
  | [] => by simp [PyData.canLayAll0]
  | n :: ns => by
    have h := canLay_ints ns
    simp only [pints, List.map_cons] at h ⊢
    simp [PyData.canLayAll0, PyData.canLay0, h]
theorem depth_ints : ∀ ns : List Int, PyData.depthAll (pints ns) = 0
  | [] => by simp [PyData.depthAll]
  | n :: ns => by
    have h := depth_ints ns
    simp only [pints, List.map_cons] at h ⊢
    simp [PyData.depthAll, PyData.depth, h]
theorem eqv_ints : ∀ ns ms : List Int, PyData.eqvAll (pints ns) (pints ms) = decide (ns = ms)
  | [], [] => by simp [PyData.eqvAll]
  | [], m :: ms => by simp [PyData.eqvAll]
  | n :: ns, [] => by simp [PyData.eqvAll]
  | n :: ns, m :: ms => by
    have h := eqv_ints ns ms
    simp only [pints, List.map_cons] at h ⊢
    simp only [PyData.eqvAll, PyData.eqv, h]
    by_cases h1 : n = m <;> by_cases h2 : ns = ms <;> simp [h1, h2]
theorem shaped_li (ns : List Int) : SeqAt.shaped (.list (pints ns)) = true := by
  unfold SeqAt.shaped
  simp only [PyData.canLay0, PyData.depth, canLay_ints, depth_ints]
  rfl
theorem shaped_ti (ns : List Int) : SeqAt.shaped (.tuple (pints ns)) = true := by
  unfold SeqAt.shaped
  simp only [PyData.canLay0, PyData.depth, canLay_ints, depth_ints]
  rfl
theorem shaped_i (n : Int) : SeqAt.shaped (.int n) = true := by
  unfold SeqAt.shaped
  simp only [PyData.canLay0, PyData.depth]
  rfl
theorem shaped_b (n : Bool) : SeqAt.shaped (.bool n) = true := by
  unfold SeqAt.shaped
  simp only [PyData.canLay0, PyData.depth]
  rfl
theorem toP_int (n : Int) : toP (.int n) = some (.int n) := by unfold toP; rfl
theorem toP_bl (n : Bool) : toP (.bl n) = some (.bool n) := by unfold toP; rfl
theorem toP_Ll (ns : List Int) : toP (Ll ns) = some (.list (pints ns)) := by unfold toP; rw [toPs_ints]; rfl
theorem toP_Lt (ns : List Int) : toP (Lt ns) = some (.tuple (pints ns)) := by unfold toP; rw [toPs_ints]; rfl
theorem dEq_ii (a b : Int) : dEq (.int a) (.int b) = some (.val (.bl (a == b))) := by
  unfold dEq dEqB
  simp only [toP_int, shaped_i, Bool.and_self, if_true, PyData.eqv, Option.map_some]
theorem dNe_ii (a b : Int) : dNe (.int a) (.int b) = some (.val (.bl (!(a == b)))) := by
  unfold dNe dEqB
  simp only [toP_int, shaped_i, Bool.and_self, if_true, PyData.eqv, Option.map_some]
theorem dEq_bb (a b : Bool) : dEq (.bl a) (.bl b) = some (.val (.bl (a == b))) := by
  unfold dEq dEqB
  simp only [toP_bl, shaped_b, Bool.and_self, if_true, PyData.eqv, Option.map_some]
theorem dNe_bb (a b : Bool) : dNe (.bl a) (.bl b) = some (.val (.bl (!(a == b)))) := by
  unfold dNe dEqB
  simp only [toP_bl, shaped_b, Bool.and_self, if_true, PyData.eqv, Option.map_some]
theorem dEq_ll (a b : List Int) : dEq (.lst (a.map .int)) (.lst (b.map .int)) = some (.val (.bl (decide (a = b)))) := by
  unfold dEq dEqB
  have h1 : toP (.lst (a.map .int)) = _ := toP_Ll a
  have h2 : toP (.lst (b.map .int)) = _ := toP_Ll b
  rw [h1, h2]
  simp only [shaped_li, Bool.and_self, if_true, PyData.eqv, eqv_ints, Option.map_some]
theorem dEq_l0 (a : List Int) : dEq (.lst (a.map .int)) (.lst []) = some (.val (.bl (decide (a = [])))) := dEq_ll a []
theorem items_l (xs : List D) : items (.lst xs) = some xs := rfl
theorem items_t (xs : List D) : items (.tup xs) = some xs := rfl
/-! ### in -/
theorem fl_ints : ∀ ns : List Int, (dints ns).all flD = true
  | [] => rfl
  | n :: ns => by
    show (true && (dints ns).all flD) = true
    rw [fl_ints ns]; rfl
theorem any_ints (n : Int) : ∀ ns : List Int, ((dints ns).any fun z => feq z (.int n)) = decide (n ∈ ns)
  | [] => by simp
  | m :: ns => by
    show ((m == n) || (dints ns).any fun z => feq z (.int n)) = _
    rw [any_ints n ns, Bool.eq_iff_iff]
    simp only [Bool.or_eq_true, beq_iff_eq, decide_eq_true_eq, List.mem_cons]
    constructor
    · rintro (h | h)
      · exact .inl h.symm
      · exact .inr h
    · rintro (h | h)
      · exact .inl h.symm
      · exact .inr h
theorem dIn_il (n : Int) (ns : List Int) : dIn2 (.int n) (.lst (ns.map .int)) = some (.val (.bl (decide (n ∈ ns)))) := by
  unfold dIn2 dIn dInB
  simp only [items, flD, fl_ints, Bool.and_self, if_true, any_ints, Option.map_some, Option.some_or]
theorem dIn_it (n : Int) (ns : List Int) : dIn2 (.int n) (.tup (ns.map .int)) = some (.val (.bl (decide (n ∈ ns)))) := by
  unfold dIn2 dIn dInB
  simp only [items, flD, fl_ints, Bool.and_self, if_true, any_ints, Option.map_some, Option.some_or]
theorem dNotIn_il (n : Int) (ns : List Int) : dNotIn2 (.int n) (.lst (ns.map .int)) = some (.val (.bl (!decide (n ∈ ns)))) := by
  unfold dNotIn2 dNotIn dInB
  simp only [items, flD, fl_ints, Bool.and_self, if_true, any_ints, Option.map_some, Option.some_or]
theorem dNotIn_it (n : Int) (ns : List Int) : dNotIn2 (.int n) (.tup (ns.map .int)) = some (.val (.bl (!decide (n ∈ ns)))) := by
  unfold dNotIn2 dNotIn dInB
  simp only [items, flD, fl_ints, Bool.and_self, if_true, any_ints, Option.map_some, Option.some_or]
/-- rows: a list of tuples -/
abbrev rws (rs : List (List Int)) : List D := rs.map fun r => .tup (r.map .int)
abbrev prws (rs : List (List Int)) : List PyData := rs.map fun r => .tuple (r.map .int)
theorem toPs_rws : ∀ rs : List (List Int), toPs (rws rs) = some (prws rs)
  | [] => by simp [toPs]
  | r :: rs => by
    have h := toPs_rws rs
    simp only [rws, prws, List.map_cons] at h ⊢
    unfold toPs
    rw [h]
    have h2 : toP (.tup (r.map .int)) = _ := toP_Lt r
    rw [h2]
theorem canLay_rws : ∀ rs : List (List Int), PyData.canLayAll0 (prws rs) = true
  | [] => by simp [PyData.canLayAll0]
  | r :: rs => by
    have h := canLay_rws rs
    simp only [prws, List.map_cons] at h ⊢
    have h2 : PyData.canLayAll0 (r.map .int) = true := canLay_ints r
    simp [PyData.canLayAll0, PyData.canLay0, h, h2]
theorem depth_rws : ∀ rs : List (List Int), PyData.depthAll (prws rs) ≤ 1
  | [] => by simp [PyData.depthAll]
  | r :: rs => by
    have h := depth_rws rs
    simp only [prws, List.map_cons] at h ⊢
    have h2 : PyData.depthAll (r.map .int) = 0 := depth_ints r
    simp only [PyData.depthAll, PyData.depth, h2]
    omega
theorem shaped_rws (rs : List (List Int)) : SeqAt.shaped (.list (prws rs)) = true := by
  unfold SeqAt.shaped
  have h := depth_rws rs
  simp only [PyData.canLay0, PyData.depth, canLay_rws, Bool.true_and]
  exact decide_eq_true (by omega)
theorem any_rws (r : List Int) : ∀ rs : List (List Int), ((prws rs).any fun z => PyData.eqv z (.tuple (pints r))) = decide (r ∈ rs)
  | [] => by simp
  | q :: rs => by
    show (PyData.eqvAll (pints q) (pints r) || (prws rs).any fun z => PyData.eqv z (.tuple (pints r))) = _
    rw [any_rws r rs, eqv_ints, Bool.eq_iff_iff]
    simp only [Bool.or_eq_true, decide_eq_true_eq, List.mem_cons]
    constructor
    · rintro (h | h)
      · exact .inl h.symm
      · exact .inr h
    · rintro (h | h)
      · exact .inl h.symm
      · exact .inr h
theorem dNotIn_rw (r : List Int) (rs : List (List Int)) : dNotIn2 (.tup (r.map .int)) (.lst (rws rs)) = some (.val (.bl (!decide (r ∈ rs)))) := by
  have h1 : dNotIn (.tup (r.map .int)) (.lst (rws rs)) = none := rfl
  have h2 : dInDeep (.tup (r.map .int)) (.lst (rws rs)) = some (decide (r ∈ rs)) := by
    unfold dInDeep
    have e : toP (.tup (r.map .int)) = some (.tuple (pints r)) := toP_Lt r
    simp only [e, toPs_rws, shaped_ti, shaped_rws, Bool.and_self, if_true, any_rws]
  unfold dNotIn2 dNotInD
  rw [h1, h2]; rfl
end My

namespace My
open PySem Dl
open L2 (ixN atI)
theorem isE (l : List Int) : (l.map D.int).isEmpty = l.isEmpty := by cases l <;> rfl
theorem atI_last {l : List D} {d : D} : atI (l ++ [d]) (-1) = some d := by
  unfold atI ixN
  rw [if_neg (by decide), List.length_append, List.length_singleton, if_pos (by omega)]
  have : (-1 + ((l.length + 1 : Nat) : Int)).toNat = l.length := by omega
  rw [Option.bind_some, this, List.getElem?_append_right (Nat.le_refl _), Nat.sub_self]; rfl
/-- a pure comprehension -/
theorem lcL_pure {tg : D → List S → Option (List S)} {tt : M Bool} {te : M Rv} {vs : List Nat} {ρ : List S} (p : D → Bool) (f : D → D) : ∀ (ds acc : List D),
    (∀ d ∈ ds, ∃ ρ1 ρ2, tg d (wipeS ρ vs) = some ρ1 ∧ tt ρ1 = some (.ok (p d) ρ2) ∧ (p d = true → ∃ ρ3, (te >>= toV) ρ2 = some (.ok (f d) ρ3) ∧ backS ρ ρ3 vs = ρ) ∧ (p d = false → backS ρ ρ2 vs = ρ)) →
    lcL tg tt te vs ds acc ρ = some (.ok (acc ++ (ds.filter p).map f) ρ)
  | [], acc, _ => by unfold lcL; rw [List.filter_nil, List.map_nil, List.append_nil]
  | d :: ds, acc, h => by
    obtain ⟨ρ1, ρ2, h1, h2, h3, h4⟩ := h d List.mem_cons_self
    have ih := fun acc => lcL_pure (tg := tg) (tt := tt) (te := te) (vs := vs) (ρ := ρ) p f ds acc
    unfold lcL
    rw [h1]; dsimp only; rw [h2]
    cases q : p d with
    | false =>
      dsimp only
      rw [h4 q, ih acc fun e m => h e (List.mem_cons_of_mem _ m), List.filter_cons_of_neg (by rw [q]; exact Bool.false_ne_true)]
    | true =>
      obtain ⟨ρ3, h5, h6⟩ := h3 q
      dsimp only
      rw [h5]; dsimp only
      rw [h6, ih (acc ++ [f d]) fun e m => h e (List.mem_cons_of_mem _ m), List.filter_cons_of_pos q, List.map_cons, List.append_assoc]; rfl
theorem eLc_pure {it : M (List D)} {tg : D → List S → Option (List S)} {tt : M Bool} {te : M Rv} {vs : List Nat} {ρ ρ' : List S} {ds : List D} (p : D → Bool) (f : D → D) (hit : it ρ = some (.ok ds ρ')) (hno : noOwn ρ' vs = true)
    (h : ∀ d ∈ ds, ∃ ρ1 ρ2, tg d (wipeS ρ' vs) = some ρ1 ∧ tt ρ1 = some (.ok (p d) ρ2) ∧ (p d = true → ∃ ρ3, (te >>= toV) ρ2 = some (.ok (f d) ρ3) ∧ backS ρ' ρ3 vs = ρ') ∧ (p d = false → backS ρ' ρ2 vs = ρ')) :
    eLc it tg tt te vs ρ = some (.ok (.own (.lst ((ds.filter p).map f))) ρ') := by
  rw [eLc_eq]
  unfold bindF
  rw [hit]
  dsimp only
  rw [if_pos hno, lcL_pure p f ds [] h, List.nil_append]
theorem forL_cons {tg : D → List S → Option (List S)} {b : MS} {d : D} {ds : List D} {ρ ρ1 ρ2 : List S} (h1 : tg d ρ = some ρ1) (h2 : b ρ1 = some (.nx ρ2)) : forL tg b (d :: ds) ρ = forL tg b ds ρ2 := by
  conv => lhs; unfold forL
  rw [h1]; dsimp only; rw [h2]
theorem gN_eq {i : Nat} {d : D} {ρ : List S} : gN i d ρ = some (ρ.set i (.val d)) := rfl
theorem filter_true {α : Type} (l : List α) : l.filter (fun _ => true) = l := by simp
def ascS (acc : List Int) (x : Int) : List Int := if acc.getLast? = some x then acc else acc ++ [x]
def asc (ns : List Int) : List Int := (sortI ns).foldl ascS []
theorem ascS_nil (x : Int) : ascS [] x = [x] := rfl
theorem ascS_snoc (l : List Int) (y x : Int) : ascS (l ++ [y]) x = if y = x then l ++ [y] else l ++ [y] ++ [x] := by
  unfold ascS
  rw [List.getLast?_concat]
  by_cases h : y = x
  · rw [if_pos (by rw [h]), if_pos h]
  · rw [if_neg (fun z => h (Option.some.inj z)), if_neg h]
theorem asc_step {d : D} {acc : List Int} {x : Int} (hz : acc.length < sizeLine) : b_ascending_1 [.val d, .own (.lst (acc.map .int)), .val (.int x)] = some (.nx [.val d, .own (.lst ((ascS acc x).map .int)), .val (.int x)]) := by
  rcases List.eq_nil_or_concat acc with rfl | ⟨l, y, rfl⟩
  · have hs : (0 : Nat) < sizeLine := by rw [PySem.sizeLine_eq]; decide
    simp only [b_ascending_1, ascS_nil, hs, List.isEmpty_nil, sSeq, sSet, setV, sRet, retV, sRetN, sIf, sExpr, sNil, sPass, sBreak, sCont, sFor, thenS, bind_eq, pure_eq, eVar, eC, mBin, peek, Dl.settle, ofO, toV, toVs, peeks, aCons, aNil, aStar, eB, eIx, eSl, eTup, eLst, eLc_eq, eLc2_eq, bindF, iSeq, iRng1, iRng2, iZip, eCall, callM, prep, ssOf, ssOfs, dist, isAli, noAli, scaR, scaD, back, back1, ownOr, isOwn, tCmp, tVal, tru, truD, tNot, tAnd, tOr, tYes', eAnd, eOr, eNot, eIf, eNeg, gN, gT, gsCons, gsNil, sSetIx, ownLst, ckL, mAppend_eq, eFld, lkF, oSome, oNo, gII, gIIc, dAdd, dSub, dMul, dDiv, dMod, dPow, dLt, dLe, dGt, dGe, gTT, gLL, gSS, gLen, gInt, gMax2, gMin2, gList, gTuple, gIsi, tyNm, dIx, dSl, items_l, items_t, noOwn, wipeS, backS, M.fail, post, mkFn, List.getElem?_cons_zero, List.getElem?_cons_succ, List.getElem?_nil, List.set_cons_zero, List.set_cons_succ, List.getD_cons_zero, List.getD_cons_succ, List.cons_append, List.nil_append, List.append_nil, List.length_cons, List.length_nil, List.replicate, List.tail_cons, List.tail_nil, List.any_cons, List.any_nil, List.all_cons, List.all_nil, List.map_cons, List.map_nil, Option.map_some, Option.map_none, Option.bind_some, Option.bind_none, Option.some_or, Option.none_or, Bool.not_true, Bool.not_false, Bool.and_true, Bool.true_and, Bool.and_false, Bool.false_and, Bool.or_true, Bool.or_false, Bool.true_or, Bool.false_or, Bool.false_eq_true, if_true, if_false, reduceIte, Nat.reduceAdd, Nat.reduceSub, Nat.reduceEqDiff, Nat.reduceBEq, Nat.reduceLT, decide_true, decide_false]
  · rw [List.concat_eq_append] at hz ⊢
    have e1 : ((l ++ [y]).map D.int).isEmpty = false := by simp
    have e2 : (l ++ [y]).map D.int = l.map .int ++ [.int y] := by simp
    have e3 : atI ((l ++ [y]).map D.int) (-1) = some (.int y) := by rw [e2, atI_last]
    have e5 : ((l ++ [y]).map D.int).length < sizeLine := by rw [List.length_map]; exact hz
    rw [ascS_snoc]
    by_cases h : y = x
    · rw [if_pos h]
      have e4 : (y == x) = true := beq_iff_eq.mpr h
      simp only [b_ascending_1, e1, e3, dNe_ii, e4, sSeq, sSet, setV, sRet, retV, sRetN, sIf, sExpr, sNil, sPass, sBreak, sCont, sFor, thenS, bind_eq, pure_eq, eVar, eC, mBin, peek, Dl.settle, ofO, toV, toVs, peeks, aCons, aNil, aStar, eB, eIx, eSl, eTup, eLst, eLc_eq, eLc2_eq, bindF, iSeq, iRng1, iRng2, iZip, eCall, callM, prep, ssOf, ssOfs, dist, isAli, noAli, scaR, scaD, back, back1, ownOr, isOwn, tCmp, tVal, tru, truD, tNot, tAnd, tOr, tYes', eAnd, eOr, eNot, eIf, eNeg, gN, gT, gsCons, gsNil, sSetIx, ownLst, ckL, mAppend_eq, eFld, lkF, oSome, oNo, gII, gIIc, dAdd, dSub, dMul, dDiv, dMod, dPow, dLt, dLe, dGt, dGe, gTT, gLL, gSS, gLen, gInt, gMax2, gMin2, gList, gTuple, gIsi, tyNm, dIx, dSl, items_l, items_t, noOwn, wipeS, backS, M.fail, post, mkFn, List.getElem?_cons_zero, List.getElem?_cons_succ, List.getElem?_nil, List.set_cons_zero, List.set_cons_succ, List.getD_cons_zero, List.getD_cons_succ, List.cons_append, List.nil_append, List.append_nil, List.length_cons, List.length_nil, List.replicate, List.tail_cons, List.tail_nil, List.any_cons, List.any_nil, List.all_cons, List.all_nil, List.map_cons, List.map_nil, Option.map_some, Option.map_none, Option.bind_some, Option.bind_none, Option.some_or, Option.none_or, Bool.not_true, Bool.not_false, Bool.and_true, Bool.true_and, Bool.and_false, Bool.false_and, Bool.or_true, Bool.or_false, Bool.true_or, Bool.false_or, Bool.false_eq_true, if_true, if_false, reduceIte, Nat.reduceAdd, Nat.reduceSub, Nat.reduceEqDiff, Nat.reduceBEq, Nat.reduceLT, decide_true, decide_false]
    · rw [if_neg h]
      have e4 : (y == x) = false := beq_eq_false_iff_ne.mpr h
      have e6 : (l ++ [y]).map D.int ++ [D.int x] = (l ++ [y] ++ [x]).map D.int := by simp
      simp only [b_ascending_1, e1, e3, dNe_ii, e4, e5, e6, sSeq, sSet, setV, sRet, retV, sRetN, sIf, sExpr, sNil, sPass, sBreak, sCont, sFor, thenS, bind_eq, pure_eq, eVar, eC, mBin, peek, Dl.settle, ofO, toV, toVs, peeks, aCons, aNil, aStar, eB, eIx, eSl, eTup, eLst, eLc_eq, eLc2_eq, bindF, iSeq, iRng1, iRng2, iZip, eCall, callM, prep, ssOf, ssOfs, dist, isAli, noAli, scaR, scaD, back, back1, ownOr, isOwn, tCmp, tVal, tru, truD, tNot, tAnd, tOr, tYes', eAnd, eOr, eNot, eIf, eNeg, gN, gT, gsCons, gsNil, sSetIx, ownLst, ckL, mAppend_eq, eFld, lkF, oSome, oNo, gII, gIIc, dAdd, dSub, dMul, dDiv, dMod, dPow, dLt, dLe, dGt, dGe, gTT, gLL, gSS, gLen, gInt, gMax2, gMin2, gList, gTuple, gIsi, tyNm, dIx, dSl, items_l, items_t, noOwn, wipeS, backS, M.fail, post, mkFn, List.getElem?_cons_zero, List.getElem?_cons_succ, List.getElem?_nil, List.set_cons_zero, List.set_cons_succ, List.getD_cons_zero, List.getD_cons_succ, List.cons_append, List.nil_append, List.append_nil, List.length_cons, List.length_nil, List.replicate, List.tail_cons, List.tail_nil, List.any_cons, List.any_nil, List.all_cons, List.all_nil, List.map_cons, List.map_nil, Option.map_some, Option.map_none, Option.bind_some, Option.bind_none, Option.some_or, Option.none_or, Bool.not_true, Bool.not_false, Bool.and_true, Bool.true_and, Bool.and_false, Bool.false_and, Bool.or_true, Bool.or_false, Bool.true_or, Bool.false_or, Bool.false_eq_true, if_true, if_false, reduceIte, Nat.reduceAdd, Nat.reduceSub, Nat.reduceEqDiff, Nat.reduceBEq, Nat.reduceLT, decide_true, decide_false]
theorem ascS_len (acc : List Int) (x : Int) : (ascS acc x).length ≤ acc.length + 1 := by
  unfold ascS
  split <;> simp
theorem asc_loop {d : D} : ∀ (xs acc : List Int) (s : S), acc.length + xs.length ≤ sizeLine → ∃ s', forL (gN 2) b_ascending_1 (xs.map .int) [.val d, .own (.lst (acc.map .int)), s]
    = some (.nx [.val d, .own (.lst ((xs.foldl ascS acc).map .int)), s'])
  | [], acc, s, _ => ⟨s, rfl⟩
  | x :: xs, acc, s, hz => by
    rw [List.length_cons] at hz
    have := ascS_len acc x
    obtain ⟨s', ih⟩ := asc_loop (d := d) xs (ascS acc x) (.val (.int x)) (by omega)
    exact ⟨s', by rw [List.map_cons, forL_cons rfl (asc_step (by omega)), ih]; rfl⟩
/-- what a list or a tuple of ints holds -/
def seqI (d : D) : Option (List Int) := (items d).bind asInts
theorem seqI_inv {d : D} {ns : List Int} (h : seqI d = some ns) : items d = some (ns.map .int) := by
  obtain ⟨ds, h1, h2⟩ := Option.bind_eq_some_iff.mp h
  rw [h1, asInts_eq h2]
def fn_ascending : Fn
  | [.val d] => match seqI d with
    | some ns => if ns.length ≤ sizeLine then some (.ret (.val (.tup ((asc ns).map .int))) [.val d]) else none
    | none => none
  | _ => none
theorem c_asc {ns : List Int} {d : D} {s1 : S} (hi : items d = some (ns.map .int)) : c_ascending_1 [.val d, s1, .no] = some (.ok (.own (.lst (ns.map .int))) [.val d, s1, .no]) := by
  have h := eLc_pure (it := iSeq (eVar 0)) (tg := gN 2) (tt := tYes') (te := eB gInt (aCons (eVar 2) aNil)) (vs := [2]) (ρ := [.val d, s1, .no]) (ρ' := [.val d, s1, .no]) (ds := ns.map .int) (fun _ => true) id (by simp only [hi, sSeq, sSet, setV, sRet, retV, sRetN, sIf, sExpr, sNil, sPass, sBreak, sCont, sFor, thenS, bind_eq, pure_eq, eVar, eC, mBin, peek, Dl.settle, ofO, toV, toVs, peeks, aCons, aNil, aStar, eB, eIx, eSl, eTup, eLst, eLc_eq, eLc2_eq, bindF, iSeq, iRng1, iRng2, iZip, eCall, callM, prep, ssOf, ssOfs, dist, isAli, noAli, scaR, scaD, back, back1, ownOr, isOwn, tCmp, tVal, tru, truD, tNot, tAnd, tOr, tYes', eAnd, eOr, eNot, eIf, eNeg, gN, gT, gsCons, gsNil, sSetIx, ownLst, ckL, mAppend_eq, eFld, lkF, oSome, oNo, gII, gIIc, dAdd, dSub, dMul, dDiv, dMod, dPow, dLt, dLe, dGt, dGe, gTT, gLL, gSS, gLen, gInt, gMax2, gMin2, gList, gTuple, gIsi, tyNm, dIx, dSl, items_l, items_t, noOwn, wipeS, backS, M.fail, post, mkFn, List.getElem?_cons_zero, List.getElem?_cons_succ, List.getElem?_nil, List.set_cons_zero, List.set_cons_succ, List.getD_cons_zero, List.getD_cons_succ, List.cons_append, List.nil_append, List.append_nil, List.length_cons, List.length_nil, List.replicate, List.tail_cons, List.tail_nil, List.any_cons, List.any_nil, List.all_cons, List.all_nil, List.map_cons, List.map_nil, Option.map_some, Option.map_none, Option.bind_some, Option.bind_none, Option.some_or, Option.none_or, Bool.not_true, Bool.not_false, Bool.and_true, Bool.true_and, Bool.and_false, Bool.false_and, Bool.or_true, Bool.or_false, Bool.true_or, Bool.false_or, Bool.false_eq_true, if_true, if_false, reduceIte, Nat.reduceAdd, Nat.reduceSub, Nat.reduceEqDiff, Nat.reduceBEq, Nat.reduceLT, decide_true, decide_false]) (by simp only [sSeq, sSet, setV, sRet, retV, sRetN, sIf, sExpr, sNil, sPass, sBreak, sCont, sFor, thenS, bind_eq, pure_eq, eVar, eC, mBin, peek, Dl.settle, ofO, toV, toVs, peeks, aCons, aNil, aStar, eB, eIx, eSl, eTup, eLst, eLc_eq, eLc2_eq, bindF, iSeq, iRng1, iRng2, iZip, eCall, callM, prep, ssOf, ssOfs, dist, isAli, noAli, scaR, scaD, back, back1, ownOr, isOwn, tCmp, tVal, tru, truD, tNot, tAnd, tOr, tYes', eAnd, eOr, eNot, eIf, eNeg, gN, gT, gsCons, gsNil, sSetIx, ownLst, ckL, mAppend_eq, eFld, lkF, oSome, oNo, gII, gIIc, dAdd, dSub, dMul, dDiv, dMod, dPow, dLt, dLe, dGt, dGe, gTT, gLL, gSS, gLen, gInt, gMax2, gMin2, gList, gTuple, gIsi, tyNm, dIx, dSl, items_l, items_t, noOwn, wipeS, backS, M.fail, post, mkFn, List.getElem?_cons_zero, List.getElem?_cons_succ, List.getElem?_nil, List.set_cons_zero, List.set_cons_succ, List.getD_cons_zero, List.getD_cons_succ, List.cons_append, List.nil_append, List.append_nil, List.length_cons, List.length_nil, List.replicate, List.tail_cons, List.tail_nil, List.any_cons, List.any_nil, List.all_cons, List.all_nil, List.map_cons, List.map_nil, Option.map_some, Option.map_none, Option.bind_some, Option.bind_none, Option.some_or, Option.none_or, Bool.not_true, Bool.not_false, Bool.and_true, Bool.true_and, Bool.and_false, Bool.false_and, Bool.or_true, Bool.or_false, Bool.true_or, Bool.false_or, Bool.false_eq_true, if_true, if_false, reduceIte, Nat.reduceAdd, Nat.reduceSub, Nat.reduceEqDiff, Nat.reduceBEq, Nat.reduceLT, decide_true, decide_false]) ?_
  · rw [filter_true, List.map_id] at h
    exact h
  · intro e he
    obtain ⟨n, _, rfl⟩ := List.mem_map.mp he
    refine ⟨[.val d, s1, .val (.int n)], [.val d, s1, .val (.int n)], ?_, rfl, fun _ => ⟨[.val d, s1, .val (.int n)], ?_, ?_⟩, fun h => nomatch h⟩
    · simp only [sSeq, sSet, setV, sRet, retV, sRetN, sIf, sExpr, sNil, sPass, sBreak, sCont, sFor, thenS, bind_eq, pure_eq, eVar, eC, mBin, peek, Dl.settle, ofO, toV, toVs, peeks, aCons, aNil, aStar, eB, eIx, eSl, eTup, eLst, eLc_eq, eLc2_eq, bindF, iSeq, iRng1, iRng2, iZip, eCall, callM, prep, ssOf, ssOfs, dist, isAli, noAli, scaR, scaD, back, back1, ownOr, isOwn, tCmp, tVal, tru, truD, tNot, tAnd, tOr, tYes', eAnd, eOr, eNot, eIf, eNeg, gN, gT, gsCons, gsNil, sSetIx, ownLst, ckL, mAppend_eq, eFld, lkF, oSome, oNo, gII, gIIc, dAdd, dSub, dMul, dDiv, dMod, dPow, dLt, dLe, dGt, dGe, gTT, gLL, gSS, gLen, gInt, gMax2, gMin2, gList, gTuple, gIsi, tyNm, dIx, dSl, items_l, items_t, noOwn, wipeS, backS, M.fail, post, mkFn, List.getElem?_cons_zero, List.getElem?_cons_succ, List.getElem?_nil, List.set_cons_zero, List.set_cons_succ, List.getD_cons_zero, List.getD_cons_succ, List.cons_append, List.nil_append, List.append_nil, List.length_cons, List.length_nil, List.replicate, List.tail_cons, List.tail_nil, List.any_cons, List.any_nil, List.all_cons, List.all_nil, List.map_cons, List.map_nil, Option.map_some, Option.map_none, Option.bind_some, Option.bind_none, Option.some_or, Option.none_or, Bool.not_true, Bool.not_false, Bool.and_true, Bool.true_and, Bool.and_false, Bool.false_and, Bool.or_true, Bool.or_false, Bool.true_or, Bool.false_or, Bool.false_eq_true, if_true, if_false, reduceIte, Nat.reduceAdd, Nat.reduceSub, Nat.reduceEqDiff, Nat.reduceBEq, Nat.reduceLT, decide_true, decide_false]
    · simp only [id, sSeq, sSet, setV, sRet, retV, sRetN, sIf, sExpr, sNil, sPass, sBreak, sCont, sFor, thenS, bind_eq, pure_eq, eVar, eC, mBin, peek, Dl.settle, ofO, toV, toVs, peeks, aCons, aNil, aStar, eB, eIx, eSl, eTup, eLst, eLc_eq, eLc2_eq, bindF, iSeq, iRng1, iRng2, iZip, eCall, callM, prep, ssOf, ssOfs, dist, isAli, noAli, scaR, scaD, back, back1, ownOr, isOwn, tCmp, tVal, tru, truD, tNot, tAnd, tOr, tYes', eAnd, eOr, eNot, eIf, eNeg, gN, gT, gsCons, gsNil, sSetIx, ownLst, ckL, mAppend_eq, eFld, lkF, oSome, oNo, gII, gIIc, dAdd, dSub, dMul, dDiv, dMod, dPow, dLt, dLe, dGt, dGe, gTT, gLL, gSS, gLen, gInt, gMax2, gMin2, gList, gTuple, gIsi, tyNm, dIx, dSl, items_l, items_t, noOwn, wipeS, backS, M.fail, post, mkFn, List.getElem?_cons_zero, List.getElem?_cons_succ, List.getElem?_nil, List.set_cons_zero, List.set_cons_succ, List.getD_cons_zero, List.getD_cons_succ, List.cons_append, List.nil_append, List.append_nil, List.length_cons, List.length_nil, List.replicate, List.tail_cons, List.tail_nil, List.any_cons, List.any_nil, List.all_cons, List.all_nil, List.map_cons, List.map_nil, Option.map_some, Option.map_none, Option.bind_some, Option.bind_none, Option.some_or, Option.none_or, Bool.not_true, Bool.not_false, Bool.and_true, Bool.true_and, Bool.and_false, Bool.false_and, Bool.or_true, Bool.or_false, Bool.true_or, Bool.false_or, Bool.false_eq_true, if_true, if_false, reduceIte, Nat.reduceAdd, Nat.reduceSub, Nat.reduceEqDiff, Nat.reduceBEq, Nat.reduceLT, decide_true, decide_false]
    · simp only [sSeq, sSet, setV, sRet, retV, sRetN, sIf, sExpr, sNil, sPass, sBreak, sCont, sFor, thenS, bind_eq, pure_eq, eVar, eC, mBin, peek, Dl.settle, ofO, toV, toVs, peeks, aCons, aNil, aStar, eB, eIx, eSl, eTup, eLst, eLc_eq, eLc2_eq, bindF, iSeq, iRng1, iRng2, iZip, eCall, callM, prep, ssOf, ssOfs, dist, isAli, noAli, scaR, scaD, back, back1, ownOr, isOwn, tCmp, tVal, tru, truD, tNot, tAnd, tOr, tYes', eAnd, eOr, eNot, eIf, eNeg, gN, gT, gsCons, gsNil, sSetIx, ownLst, ckL, mAppend_eq, eFld, lkF, oSome, oNo, gII, gIIc, dAdd, dSub, dMul, dDiv, dMod, dPow, dLt, dLe, dGt, dGe, gTT, gLL, gSS, gLen, gInt, gMax2, gMin2, gList, gTuple, gIsi, tyNm, dIx, dSl, items_l, items_t, noOwn, wipeS, backS, M.fail, post, mkFn, List.getElem?_cons_zero, List.getElem?_cons_succ, List.getElem?_nil, List.set_cons_zero, List.set_cons_succ, List.getD_cons_zero, List.getD_cons_succ, List.cons_append, List.nil_append, List.append_nil, List.length_cons, List.length_nil, List.replicate, List.tail_cons, List.tail_nil, List.any_cons, List.any_nil, List.all_cons, List.all_nil, List.map_cons, List.map_nil, Option.map_some, Option.map_none, Option.bind_some, Option.bind_none, Option.some_or, Option.none_or, Bool.not_true, Bool.not_false, Bool.and_true, Bool.true_and, Bool.and_false, Bool.false_and, Bool.or_true, Bool.or_false, Bool.true_or, Bool.false_or, Bool.false_eq_true, if_true, if_false, reduceIte, Nat.reduceAdd, Nat.reduceSub, Nat.reduceEqDiff, Nat.reduceBEq, Nat.reduceLT, decide_true, decide_false]
theorem gSorted_i (ns : List Int) : gSorted [.lst (ns.map .int)] = some (.own (.lst ((sortI ns).map .int))) := by
  unfold gSorted gI1
  show (asInts (ns.map .int)).bind _ = _
  rw [asInts_map]; rfl
theorem le_ascending : Fn.le fn_ascending (mkFn 1 3 f_ascending) := by
  intro ss o h
  unfold fn_ascending at h
  split at h
  · rename_i d
    split at h
    · rename_i ns hn
      by_cases hl : ns.length ≤ sizeLine
      · rw [if_pos hl] at h
        cases h
        have hi := seqI_inv hn
        have e0 : (0 : Nat) ≤ sizeLine := Nat.zero_le _
        obtain ⟨s', hs⟩ := asc_loop (d := d) (sortI ns) [] .no (by rw [List.length_nil, Nat.zero_add, (sortI_perm ns).length_eq]; exact hl)
        rw [List.map_nil] at hs
        have lc := c_asc (s1 := .own (.lst [])) hi
        simp only [f_ascending, e0, lc, gSorted_i, hs, sSeq, sSet, setV, sRet, retV, sRetN, sIf, sExpr, sNil, sPass, sBreak, sCont, sFor, thenS, bind_eq, pure_eq, eVar, eC, mBin, peek, Dl.settle, ofO, toV, toVs, peeks, aCons, aNil, aStar, eB, eIx, eSl, eTup, eLst, eLc_eq, eLc2_eq, bindF, iSeq, iRng1, iRng2, iZip, eCall, callM, prep, ssOf, ssOfs, dist, isAli, noAli, scaR, scaD, back, back1, ownOr, isOwn, tCmp, tVal, tru, truD, tNot, tAnd, tOr, tYes', eAnd, eOr, eNot, eIf, eNeg, gN, gT, gsCons, gsNil, sSetIx, ownLst, ckL, mAppend_eq, eFld, lkF, oSome, oNo, gII, gIIc, dAdd, dSub, dMul, dDiv, dMod, dPow, dLt, dLe, dGt, dGe, gTT, gLL, gSS, gLen, gInt, gMax2, gMin2, gList, gTuple, gIsi, tyNm, dIx, dSl, items_l, items_t, noOwn, wipeS, backS, M.fail, post, mkFn, List.getElem?_cons_zero, List.getElem?_cons_succ, List.getElem?_nil, List.set_cons_zero, List.set_cons_succ, List.getD_cons_zero, List.getD_cons_succ, List.cons_append, List.nil_append, List.append_nil, List.length_cons, List.length_nil, List.replicate, List.tail_cons, List.tail_nil, List.any_cons, List.any_nil, List.all_cons, List.all_nil, List.map_cons, List.map_nil, Option.map_some, Option.map_none, Option.bind_some, Option.bind_none, Option.some_or, Option.none_or, Bool.not_true, Bool.not_false, Bool.and_true, Bool.true_and, Bool.and_false, Bool.false_and, Bool.or_true, Bool.or_false, Bool.true_or, Bool.false_or, Bool.false_eq_true, if_true, if_false, reduceIte, Nat.reduceAdd, Nat.reduceSub, Nat.reduceEqDiff, Nat.reduceBEq, Nat.reduceLT, decide_true, decide_false]
        rfl
      · rw [if_neg hl] at h; cases h
    · cases h
  · cases h
end My

namespace My
open PySem Dl
open L2 (ixN atI)
/-! ### the cross product -/
def gridS (rows : List (List Int)) (side : List Int) : List (List Int) := rows.flatMap fun r => side.map fun x => r ++ [x]
def grid (sides : List (List Int)) : List (List Int) := sides.foldl gridS [[]]
def combos : List (List Int) → List (List Int)
  | [] => [[]]
  | s :: ss => s.flatMap fun x => (combos ss).map fun r => x :: r
def vol : List (List Int) → Nat
  | [] => 1
  | s :: ss => max 1 s.length * vol ss
theorem vol_pos : ∀ ss, 0 < vol ss
  | [] => by unfold vol; omega
  | s :: ss => by unfold vol; exact Nat.mul_pos (by omega) (vol_pos ss)
theorem flatMap_len {α β : Type} (f : α → List β) (k : Nat) : ∀ l : List α, (∀ a ∈ l, (f a).length = k) → (l.flatMap f).length = l.length * k
  | [], _ => by simp
  | a :: l, h => by
    rw [List.flatMap_cons, List.length_append, h a List.mem_cons_self, flatMap_len f k l fun b hb => h b (List.mem_cons_of_mem _ hb), List.length_cons, Nat.succ_mul, Nat.add_comm]
theorem gridS_len (rows : List (List Int)) (side : List Int) : (gridS rows side).length = rows.length * side.length :=
  flatMap_len _ _ rows fun r _ => List.length_map _
theorem combos_len : ∀ ss, (combos ss).length ≤ vol ss
  | [] => by simp [combos, vol]
  | s :: ss => by
    unfold combos vol
    rw [flatMap_len _ (combos ss).length s fun x _ => List.length_map _]
    exact Nat.mul_le_mul (by omega) (combos_len ss)
theorem grid_eq' : ∀ (sides rows : List (List Int)), sides.foldl gridS rows = rows.flatMap fun r => (combos sides).map fun q => r ++ q
  | [], rows => by simp [combos]
  | s :: ss, rows => by
    rw [List.foldl_cons, grid_eq' ss]
    have ec : combos (s :: ss) = s.flatMap fun x => (combos ss).map fun r => x :: r := rfl
    rw [ec]
    unfold gridS
    rw [List.flatMap_assoc]
    congr 1
    funext r
    rw [List.map_flatMap, List.flatMap_map]
    congr 1
    funext x
    rw [List.map_map]
    congr 1
    funext q
    simp
theorem grid_combos (sides : List (List Int)) : grid sides = combos sides := by
  unfold grid
  rw [grid_eq']
  simp
def inC : List Int → List (List Int) → Prop
  | [], [] => True
  | x :: r, s :: ss => x ∈ s ∧ inC r ss
  | _, _ => False
theorem mem_combos : ∀ {sides : List (List Int)} {r : List Int}, r ∈ combos sides ↔ inC r sides
  | [], r => by
    unfold combos
    cases r with
    | nil => simp [inC]
    | cons x r => simp [inC]
  | s :: ss, r => by
    unfold combos
    rw [List.mem_flatMap]
    cases r with
    | nil => simp [inC]
    | cons x r =>
      show _ ↔ x ∈ s ∧ inC r ss
      rw [← mem_combos (sides := ss)]
      constructor
      · rintro ⟨y, hy, h⟩
        obtain ⟨q, hq, e⟩ := List.mem_map.mp h
        cases e
        exact ⟨hy, hq⟩
      · rintro ⟨h1, h2⟩
        exact ⟨x, h1, List.mem_map.mpr ⟨r, h2, rfl⟩⟩
theorem inC_len : ∀ {r : List Int} {ss : List (List Int)}, inC r ss → r.length = ss.length
  | [], [], _ => rfl
  | x :: r, s :: ss, h => by rw [List.length_cons, List.length_cons, inC_len h.2]
  | [], _ :: _, h => h.elim
  | _ :: _, [], h => h.elim
/-! ### two clauses -/
theorem lcI_pure {tg : D → List S → Option (List S)} {te : M Rv} {vs : List Nat} {ρ : List S} (f : D → D) : ∀ (ds acc : List D), acc.length + ds.length ≤ sizeLine →
    (∀ d ∈ ds, ∃ ρ1, tg d (wipeS ρ vs) = some ρ1 ∧ ∃ ρ3, (te >>= toV) ρ1 = some (.ok (f d) ρ3) ∧ backS ρ ρ3 vs = ρ) →
    lcI tg tYes' te vs ds acc ρ = some (.ok (acc ++ ds.map f) ρ)
  | [], acc, _, _ => by unfold lcI; rw [List.map_nil, List.append_nil]
  | d :: ds, acc, hz, h => by
    rw [List.length_cons] at hz
    obtain ⟨ρ1, h1, ρ3, h5, h6⟩ := h d List.mem_cons_self
    have ih := lcI_pure (tg := tg) (te := te) (vs := vs) (ρ := ρ) f ds (acc ++ [f d]) (by rw [List.length_append, List.length_singleton]; omega) fun e m => h e (List.mem_cons_of_mem _ m)
    have hy : tYes' ρ1 = some (.ok true ρ1) := rfl
    unfold lcI
    rw [h1]; dsimp only; rw [hy]; dsimp only; rw [h5]; dsimp only
    rw [if_pos (by omega), h6, ih, List.map_cons, List.append_assoc]; rfl
theorem lcO_pure {tg tg1 : D → List S → Option (List S)} {it1 : M (List D)} {te : M Rv} {vs vs1 : List Nat} {ρ : List S} (out : D → List D) (B : Nat) : ∀ (ds acc : List D), acc.length + (ds.flatMap out).length ≤ B →
    (∀ d ∈ ds, ∃ ρ1, tg d (wipeS ρ vs) = some ρ1 ∧ ∃ ds1 ρ3, it1 ρ1 = some (.ok ds1 ρ3) ∧ noOwn ρ3 vs1 = true ∧ (∀ acc : List D, acc.length + (out d).length ≤ B → lcI tg1 tYes' te vs1 ds1 acc ρ3 = some (.ok (acc ++ out d) ρ3)) ∧ backS ρ ρ3 vs = ρ) →
    lcO tg tYes' it1 tg1 tYes' te vs vs1 ds acc ρ = some (.ok (acc ++ ds.flatMap out) ρ)
  | [], acc, _, _ => by unfold lcO; rw [List.flatMap_nil, List.append_nil]
  | d :: ds, acc, hz, h => by
    rw [List.flatMap_cons, List.length_append] at hz
    obtain ⟨ρ1, h1, ds1, ρ3, h2, h3, h4, h5⟩ := h d List.mem_cons_self
    have ih := lcO_pure (tg := tg) (tg1 := tg1) (it1 := it1) (te := te) (vs := vs) (vs1 := vs1) (ρ := ρ) out B ds (acc ++ out d) (by rw [List.length_append]; omega) fun e m => h e (List.mem_cons_of_mem _ m)
    have hy : tYes' ρ1 = some (.ok true ρ1) := rfl
    unfold lcO
    rw [h1]; dsimp only; rw [hy]; dsimp only; rw [h2]; dsimp only
    rw [if_pos h3, h4 acc (by omega)]; dsimp only
    rw [h5, ih, List.flatMap_cons, List.append_assoc]
theorem eLc2_pure {it it1 : M (List D)} {tg tg1 : D → List S → Option (List S)} {te : M Rv} {vs vs1 : List Nat} {ρ ρ' : List S} {ds : List D} (out : D → List D) (hit : it ρ = some (.ok ds ρ')) (hno : noOwn ρ' vs = true) (B : Nat) (hz : (ds.flatMap out).length ≤ B)
    (h : ∀ d ∈ ds, ∃ ρ1, tg d (wipeS ρ' vs) = some ρ1 ∧ ∃ ds1 ρ3, it1 ρ1 = some (.ok ds1 ρ3) ∧ noOwn ρ3 vs1 = true ∧ (∀ acc : List D, acc.length + (out d).length ≤ B → lcI tg1 tYes' te vs1 ds1 acc ρ3 = some (.ok (acc ++ out d) ρ3)) ∧ backS ρ' ρ3 vs = ρ') :
    eLc2 it tg tYes' it1 tg1 tYes' te vs vs1 ρ = some (.ok (.own (.lst (ds.flatMap out))) ρ') := by
  rw [eLc2_eq]
  unfold bindF
  rw [hit]
  dsimp only
  rw [if_pos hno, lcO_pure out B ds [] (by rw [List.length_nil]; omega) h, List.nil_append]
/-! ### grid -/
def outG (side : List Int) : D → List D
  | .tup r => side.map fun x => .tup (r ++ [.int x])
  | _ => []
theorem outG_rws (side : List Int) (rows : List (List Int)) : (rws rows).flatMap (outG side) = rws (gridS rows side) := by
  unfold rws gridS
  rw [List.flatMap_map, List.map_flatMap]
  congr 1
  funext r
  show (side.map fun x => D.tup (r.map .int ++ [.int x])) = _
  rw [List.map_map]
  congr 1
  funext x
  simp
theorem grid_step {d0 sd : D} {side : List Int} {rows : List (List Int)} (hs : items sd = some (side.map .int)) (hz : (gridS rows side).length ≤ sizeLine) (hr : ∀ r ∈ rows, r.length < sizeLine) :
    b_grid_1 [.val d0, .own (.lst (rws rows)), .val sd, .no, .no] = some (.nx [.val d0, .own (.lst (rws (gridS rows side))), .val sd, .no, .no]) := by
  have hc : c_grid_1 [.val d0, .own (.lst (rws rows)), .val sd, .no, .no] = some (.ok (.own (.lst (rws (gridS rows side)))) [.val d0, .val (.lst (rws rows)), .val sd, .no, .no]) := by
    rw [← outG_rws]
    refine eLc2_pure (outG side) ?_ ?_ sizeLine ?_ ?_
    · simp only [sSeq, sSet, setV, sRet, retV, sRetN, sIf, sExpr, sNil, sPass, sBreak, sCont, sFor, thenS, bind_eq, pure_eq, eVar, eC, mBin, peek, Dl.settle, ofO, toV, toVs, peeks, aCons, aNil, aStar, eB, eIx, eSl, eTup, eLst, eLc_eq, eLc2_eq, bindF, iSeq, iRng1, iRng2, iZip, eCall, callM, prep, ssOf, ssOfs, dist, isAli, noAli, scaR, scaD, back, back1, ownOr, isOwn, tCmp, tVal, tru, truD, tNot, tAnd, tOr, tYes', eAnd, eOr, eNot, eIf, eNeg, gN, gT, gsCons, gsNil, sSetIx, ownLst, ckL, mAppend_eq, eFld, lkF, oSome, oNo, gII, gIIc, dAdd, dSub, dMul, dDiv, dMod, dPow, dLt, dLe, dGt, dGe, gTT, gLL, gSS, gLen, gInt, gMax2, gMin2, gList, gTuple, gIsi, tyNm, dIx, dSl, items_l, items_t, noOwn, wipeS, backS, M.fail, post, mkFn, List.getElem?_cons_zero, List.getElem?_cons_succ, List.getElem?_nil, List.set_cons_zero, List.set_cons_succ, List.getD_cons_zero, List.getD_cons_succ, List.cons_append, List.nil_append, List.append_nil, List.length_cons, List.length_nil, List.replicate, List.tail_cons, List.tail_nil, List.any_cons, List.any_nil, List.all_cons, List.all_nil, List.map_cons, List.map_nil, Option.map_some, Option.map_none, Option.bind_some, Option.bind_none, Option.some_or, Option.none_or, Bool.not_true, Bool.not_false, Bool.and_true, Bool.true_and, Bool.and_false, Bool.false_and, Bool.or_true, Bool.or_false, Bool.true_or, Bool.false_or, Bool.false_eq_true, if_true, if_false, reduceIte, Nat.reduceAdd, Nat.reduceSub, Nat.reduceEqDiff, Nat.reduceBEq, Nat.reduceLT, decide_true, decide_false]
    · simp only [sSeq, sSet, setV, sRet, retV, sRetN, sIf, sExpr, sNil, sPass, sBreak, sCont, sFor, thenS, bind_eq, pure_eq, eVar, eC, mBin, peek, Dl.settle, ofO, toV, toVs, peeks, aCons, aNil, aStar, eB, eIx, eSl, eTup, eLst, eLc_eq, eLc2_eq, bindF, iSeq, iRng1, iRng2, iZip, eCall, callM, prep, ssOf, ssOfs, dist, isAli, noAli, scaR, scaD, back, back1, ownOr, isOwn, tCmp, tVal, tru, truD, tNot, tAnd, tOr, tYes', eAnd, eOr, eNot, eIf, eNeg, gN, gT, gsCons, gsNil, sSetIx, ownLst, ckL, mAppend_eq, eFld, lkF, oSome, oNo, gII, gIIc, dAdd, dSub, dMul, dDiv, dMod, dPow, dLt, dLe, dGt, dGe, gTT, gLL, gSS, gLen, gInt, gMax2, gMin2, gList, gTuple, gIsi, tyNm, dIx, dSl, items_l, items_t, noOwn, wipeS, backS, M.fail, post, mkFn, List.getElem?_cons_zero, List.getElem?_cons_succ, List.getElem?_nil, List.set_cons_zero, List.set_cons_succ, List.getD_cons_zero, List.getD_cons_succ, List.cons_append, List.nil_append, List.append_nil, List.length_cons, List.length_nil, List.replicate, List.tail_cons, List.tail_nil, List.any_cons, List.any_nil, List.all_cons, List.all_nil, List.map_cons, List.map_nil, Option.map_some, Option.map_none, Option.bind_some, Option.bind_none, Option.some_or, Option.none_or, Bool.not_true, Bool.not_false, Bool.and_true, Bool.true_and, Bool.and_false, Bool.false_and, Bool.or_true, Bool.or_false, Bool.true_or, Bool.false_or, Bool.false_eq_true, if_true, if_false, reduceIte, Nat.reduceAdd, Nat.reduceSub, Nat.reduceEqDiff, Nat.reduceBEq, Nat.reduceLT, decide_true, decide_false]
    · rw [outG_rws]; unfold rws; rw [List.length_map]; exact hz
    · intro d hd
      obtain ⟨r, hr1, rfl⟩ := List.mem_map.mp hd
      refine ⟨[.val d0, .val (.lst (rws rows)), .val sd, .val (.tup (r.map .int)), .no], by simp only [sSeq, sSet, setV, sRet, retV, sRetN, sIf, sExpr, sNil, sPass, sBreak, sCont, sFor, thenS, bind_eq, pure_eq, eVar, eC, mBin, peek, Dl.settle, ofO, toV, toVs, peeks, aCons, aNil, aStar, eB, eIx, eSl, eTup, eLst, eLc_eq, eLc2_eq, bindF, iSeq, iRng1, iRng2, iZip, eCall, callM, prep, ssOf, ssOfs, dist, isAli, noAli, scaR, scaD, back, back1, ownOr, isOwn, tCmp, tVal, tru, truD, tNot, tAnd, tOr, tYes', eAnd, eOr, eNot, eIf, eNeg, gN, gT, gsCons, gsNil, sSetIx, ownLst, ckL, mAppend_eq, eFld, lkF, oSome, oNo, gII, gIIc, dAdd, dSub, dMul, dDiv, dMod, dPow, dLt, dLe, dGt, dGe, gTT, gLL, gSS, gLen, gInt, gMax2, gMin2, gList, gTuple, gIsi, tyNm, dIx, dSl, items_l, items_t, noOwn, wipeS, backS, M.fail, post, mkFn, List.getElem?_cons_zero, List.getElem?_cons_succ, List.getElem?_nil, List.set_cons_zero, List.set_cons_succ, List.getD_cons_zero, List.getD_cons_succ, List.cons_append, List.nil_append, List.append_nil, List.length_cons, List.length_nil, List.replicate, List.tail_cons, List.tail_nil, List.any_cons, List.any_nil, List.all_cons, List.all_nil, List.map_cons, List.map_nil, Option.map_some, Option.map_none, Option.bind_some, Option.bind_none, Option.some_or, Option.none_or, Bool.not_true, Bool.not_false, Bool.and_true, Bool.true_and, Bool.and_false, Bool.false_and, Bool.or_true, Bool.or_false, Bool.true_or, Bool.false_or, Bool.false_eq_true, if_true, if_false, reduceIte, Nat.reduceAdd, Nat.reduceSub, Nat.reduceEqDiff, Nat.reduceBEq, Nat.reduceLT, decide_true, decide_false], side.map .int, [.val d0, .val (.lst (rws rows)), .val sd, .val (.tup (r.map .int)), .no], by simp only [hs, sSeq, sSet, setV, sRet, retV, sRetN, sIf, sExpr, sNil, sPass, sBreak, sCont, sFor, thenS, bind_eq, pure_eq, eVar, eC, mBin, peek, Dl.settle, ofO, toV, toVs, peeks, aCons, aNil, aStar, eB, eIx, eSl, eTup, eLst, eLc_eq, eLc2_eq, bindF, iSeq, iRng1, iRng2, iZip, eCall, callM, prep, ssOf, ssOfs, dist, isAli, noAli, scaR, scaD, back, back1, ownOr, isOwn, tCmp, tVal, tru, truD, tNot, tAnd, tOr, tYes', eAnd, eOr, eNot, eIf, eNeg, gN, gT, gsCons, gsNil, sSetIx, ownLst, ckL, mAppend_eq, eFld, lkF, oSome, oNo, gII, gIIc, dAdd, dSub, dMul, dDiv, dMod, dPow, dLt, dLe, dGt, dGe, gTT, gLL, gSS, gLen, gInt, gMax2, gMin2, gList, gTuple, gIsi, tyNm, dIx, dSl, items_l, items_t, noOwn, wipeS, backS, M.fail, post, mkFn, List.getElem?_cons_zero, List.getElem?_cons_succ, List.getElem?_nil, List.set_cons_zero, List.set_cons_succ, List.getD_cons_zero, List.getD_cons_succ, List.cons_append, List.nil_append, List.append_nil, List.length_cons, List.length_nil, List.replicate, List.tail_cons, List.tail_nil, List.any_cons, List.any_nil, List.all_cons, List.all_nil, List.map_cons, List.map_nil, Option.map_some, Option.map_none, Option.bind_some, Option.bind_none, Option.some_or, Option.none_or, Bool.not_true, Bool.not_false, Bool.and_true, Bool.true_and, Bool.and_false, Bool.false_and, Bool.or_true, Bool.or_false, Bool.true_or, Bool.false_or, Bool.false_eq_true, if_true, if_false, reduceIte, Nat.reduceAdd, Nat.reduceSub, Nat.reduceEqDiff, Nat.reduceBEq, Nat.reduceLT, decide_true, decide_false], by simp only [sSeq, sSet, setV, sRet, retV, sRetN, sIf, sExpr, sNil, sPass, sBreak, sCont, sFor, thenS, bind_eq, pure_eq, eVar, eC, mBin, peek, Dl.settle, ofO, toV, toVs, peeks, aCons, aNil, aStar, eB, eIx, eSl, eTup, eLst, eLc_eq, eLc2_eq, bindF, iSeq, iRng1, iRng2, iZip, eCall, callM, prep, ssOf, ssOfs, dist, isAli, noAli, scaR, scaD, back, back1, ownOr, isOwn, tCmp, tVal, tru, truD, tNot, tAnd, tOr, tYes', eAnd, eOr, eNot, eIf, eNeg, gN, gT, gsCons, gsNil, sSetIx, ownLst, ckL, mAppend_eq, eFld, lkF, oSome, oNo, gII, gIIc, dAdd, dSub, dMul, dDiv, dMod, dPow, dLt, dLe, dGt, dGe, gTT, gLL, gSS, gLen, gInt, gMax2, gMin2, gList, gTuple, gIsi, tyNm, dIx, dSl, items_l, items_t, noOwn, wipeS, backS, M.fail, post, mkFn, List.getElem?_cons_zero, List.getElem?_cons_succ, List.getElem?_nil, List.set_cons_zero, List.set_cons_succ, List.getD_cons_zero, List.getD_cons_succ, List.cons_append, List.nil_append, List.append_nil, List.length_cons, List.length_nil, List.replicate, List.tail_cons, List.tail_nil, List.any_cons, List.any_nil, List.all_cons, List.all_nil, List.map_cons, List.map_nil, Option.map_some, Option.map_none, Option.bind_some, Option.bind_none, Option.some_or, Option.none_or, Bool.not_true, Bool.not_false, Bool.and_true, Bool.true_and, Bool.and_false, Bool.false_and, Bool.or_true, Bool.or_false, Bool.true_or, Bool.false_or, Bool.false_eq_true, if_true, if_false, reduceIte, Nat.reduceAdd, Nat.reduceSub, Nat.reduceEqDiff, Nat.reduceBEq, Nat.reduceLT, decide_true, decide_false], ?_, by simp only [sSeq, sSet, setV, sRet, retV, sRetN, sIf, sExpr, sNil, sPass, sBreak, sCont, sFor, thenS, bind_eq, pure_eq, eVar, eC, mBin, peek, Dl.settle, ofO, toV, toVs, peeks, aCons, aNil, aStar, eB, eIx, eSl, eTup, eLst, eLc_eq, eLc2_eq, bindF, iSeq, iRng1, iRng2, iZip, eCall, callM, prep, ssOf, ssOfs, dist, isAli, noAli, scaR, scaD, back, back1, ownOr, isOwn, tCmp, tVal, tru, truD, tNot, tAnd, tOr, tYes', eAnd, eOr, eNot, eIf, eNeg, gN, gT, gsCons, gsNil, sSetIx, ownLst, ckL, mAppend_eq, eFld, lkF, oSome, oNo, gII, gIIc, dAdd, dSub, dMul, dDiv, dMod, dPow, dLt, dLe, dGt, dGe, gTT, gLL, gSS, gLen, gInt, gMax2, gMin2, gList, gTuple, gIsi, tyNm, dIx, dSl, items_l, items_t, noOwn, wipeS, backS, M.fail, post, mkFn, List.getElem?_cons_zero, List.getElem?_cons_succ, List.getElem?_nil, List.set_cons_zero, List.set_cons_succ, List.getD_cons_zero, List.getD_cons_succ, List.cons_append, List.nil_append, List.append_nil, List.length_cons, List.length_nil, List.replicate, List.tail_cons, List.tail_nil, List.any_cons, List.any_nil, List.all_cons, List.all_nil, List.map_cons, List.map_nil, Option.map_some, Option.map_none, Option.bind_some, Option.bind_none, Option.some_or, Option.none_or, Bool.not_true, Bool.not_false, Bool.and_true, Bool.true_and, Bool.and_false, Bool.false_and, Bool.or_true, Bool.or_false, Bool.true_or, Bool.false_or, Bool.false_eq_true, if_true, if_false, reduceIte, Nat.reduceAdd, Nat.reduceSub, Nat.reduceEqDiff, Nat.reduceBEq, Nat.reduceLT, decide_true, decide_false]⟩
      intro acc ha
      have e : outG side (.tup (r.map .int)) = (side.map D.int).map fun z => D.tup (r.map D.int ++ [z]) := by
        unfold outG
        rw [List.map_map]; rfl
      rw [e] at ha ⊢
      refine lcI_pure (fun z => D.tup (r.map D.int ++ [z])) (side.map D.int) acc (by rw [List.length_map] at ha; exact ha) ?_
      intro z hz2
      obtain ⟨x, _, rfl⟩ := List.mem_map.mp hz2
      have hl := hr r hr1
      have e1 : toVs ((r.map D.int).map Rv.val ++ [Rv.val (.int x)]) [.val d0, .val (.lst (rws rows)), .val sd, .val (.tup (r.map .int)), .val (.int x)] = some (.ok (r.map D.int ++ [.int x]) [.val d0, .val (.lst (rws rows)), .val sd, .val (.tup (r.map .int)), .val (.int x)]) := by
        generalize ([.val d0, .val (.lst (rws rows)), .val sd, .val (.tup (r.map .int)), .val (.int x)] : List S) = ρ
        clear hd hr1 e ha hl
        induction r with
        | nil => rfl
        | cons y r ih =>
          show toVs (Rv.val (.int y) :: ((r.map D.int).map Rv.val ++ [Rv.val (.int x)])) ρ = _
          unfold toVs
          rw [bind_eq]
          have e0 : toV (Rv.val (.int y)) ρ = some (.ok (.int y) ρ) := rfl
          rw [e0]; dsimp only
          rw [bind_eq, ih]; rfl
      have e2 : (r.map D.int ++ [D.int x]).length ≤ sizeLine := by rw [List.length_append, List.length_map, List.length_singleton]; omega
      refine ⟨[.val d0, .val (.lst (rws rows)), .val sd, .val (.tup (r.map .int)), .val (.int x)], by simp only [sSeq, sSet, setV, sRet, retV, sRetN, sIf, sExpr, sNil, sPass, sBreak, sCont, sFor, thenS, bind_eq, pure_eq, eVar, eC, mBin, peek, Dl.settle, ofO, toV, toVs, peeks, aCons, aNil, aStar, eB, eIx, eSl, eTup, eLst, eLc_eq, eLc2_eq, bindF, iSeq, iRng1, iRng2, iZip, eCall, callM, prep, ssOf, ssOfs, dist, isAli, noAli, scaR, scaD, back, back1, ownOr, isOwn, tCmp, tVal, tru, truD, tNot, tAnd, tOr, tYes', eAnd, eOr, eNot, eIf, eNeg, gN, gT, gsCons, gsNil, sSetIx, ownLst, ckL, mAppend_eq, eFld, lkF, oSome, oNo, gII, gIIc, dAdd, dSub, dMul, dDiv, dMod, dPow, dLt, dLe, dGt, dGe, gTT, gLL, gSS, gLen, gInt, gMax2, gMin2, gList, gTuple, gIsi, tyNm, dIx, dSl, items_l, items_t, noOwn, wipeS, backS, M.fail, post, mkFn, List.getElem?_cons_zero, List.getElem?_cons_succ, List.getElem?_nil, List.set_cons_zero, List.set_cons_succ, List.getD_cons_zero, List.getD_cons_succ, List.cons_append, List.nil_append, List.append_nil, List.length_cons, List.length_nil, List.replicate, List.tail_cons, List.tail_nil, List.any_cons, List.any_nil, List.all_cons, List.all_nil, List.map_cons, List.map_nil, Option.map_some, Option.map_none, Option.bind_some, Option.bind_none, Option.some_or, Option.none_or, Bool.not_true, Bool.not_false, Bool.and_true, Bool.true_and, Bool.and_false, Bool.false_and, Bool.or_true, Bool.or_false, Bool.true_or, Bool.false_or, Bool.false_eq_true, if_true, if_false, reduceIte, Nat.reduceAdd, Nat.reduceSub, Nat.reduceEqDiff, Nat.reduceBEq, Nat.reduceLT, decide_true, decide_false], [.val d0, .val (.lst (rws rows)), .val sd, .val (.tup (r.map .int)), .val (.int x)], ?_, by simp only [sSeq, sSet, setV, sRet, retV, sRetN, sIf, sExpr, sNil, sPass, sBreak, sCont, sFor, thenS, bind_eq, pure_eq, eVar, eC, mBin, peek, Dl.settle, ofO, toV, toVs, peeks, aCons, aNil, aStar, eB, eIx, eSl, eTup, eLst, eLc_eq, eLc2_eq, bindF, iSeq, iRng1, iRng2, iZip, eCall, callM, prep, ssOf, ssOfs, dist, isAli, noAli, scaR, scaD, back, back1, ownOr, isOwn, tCmp, tVal, tru, truD, tNot, tAnd, tOr, tYes', eAnd, eOr, eNot, eIf, eNeg, gN, gT, gsCons, gsNil, sSetIx, ownLst, ckL, mAppend_eq, eFld, lkF, oSome, oNo, gII, gIIc, dAdd, dSub, dMul, dDiv, dMod, dPow, dLt, dLe, dGt, dGe, gTT, gLL, gSS, gLen, gInt, gMax2, gMin2, gList, gTuple, gIsi, tyNm, dIx, dSl, items_l, items_t, noOwn, wipeS, backS, M.fail, post, mkFn, List.getElem?_cons_zero, List.getElem?_cons_succ, List.getElem?_nil, List.set_cons_zero, List.set_cons_succ, List.getD_cons_zero, List.getD_cons_succ, List.cons_append, List.nil_append, List.append_nil, List.length_cons, List.length_nil, List.replicate, List.tail_cons, List.tail_nil, List.any_cons, List.any_nil, List.all_cons, List.all_nil, List.map_cons, List.map_nil, Option.map_some, Option.map_none, Option.bind_some, Option.bind_none, Option.some_or, Option.none_or, Bool.not_true, Bool.not_false, Bool.and_true, Bool.true_and, Bool.and_false, Bool.false_and, Bool.or_true, Bool.or_false, Bool.true_or, Bool.false_or, Bool.false_eq_true, if_true, if_false, reduceIte, Nat.reduceAdd, Nat.reduceSub, Nat.reduceEqDiff, Nat.reduceBEq, Nat.reduceLT, decide_true, decide_false]⟩
      have e3 : eTup (aStar (eVar 3) (aCons (eVar 4) aNil)) [.val d0, .val (.lst (rws rows)), .val sd, .val (.tup (r.map .int)), .val (.int x)] = some (.ok (.val (.tup (r.map .int ++ [.int x]))) [.val d0, .val (.lst (rws rows)), .val sd, .val (.tup (r.map .int)), .val (.int x)]) := by
        have e4 : aStar (eVar 3) (aCons (eVar 4) aNil) [.val d0, .val (.lst (rws rows)), .val sd, .val (.tup (r.map .int)), .val (.int x)] = some (.ok ((r.map D.int).map Rv.val ++ [Rv.val (.int x)]) [.val d0, .val (.lst (rws rows)), .val sd, .val (.tup (r.map .int)), .val (.int x)]) := by
          simp only [sSeq, sSet, setV, sRet, retV, sRetN, sIf, sExpr, sNil, sPass, sBreak, sCont, sFor, thenS, bind_eq, pure_eq, eVar, eC, mBin, peek, Dl.settle, ofO, toV, toVs, peeks, aCons, aNil, aStar, eB, eIx, eSl, eTup, eLst, eLc_eq, eLc2_eq, bindF, iSeq, iRng1, iRng2, iZip, eCall, callM, prep, ssOf, ssOfs, dist, isAli, noAli, scaR, scaD, back, back1, ownOr, isOwn, tCmp, tVal, tru, truD, tNot, tAnd, tOr, tYes', eAnd, eOr, eNot, eIf, eNeg, gN, gT, gsCons, gsNil, sSetIx, ownLst, ckL, mAppend_eq, eFld, lkF, oSome, oNo, gII, gIIc, dAdd, dSub, dMul, dDiv, dMod, dPow, dLt, dLe, dGt, dGe, gTT, gLL, gSS, gLen, gInt, gMax2, gMin2, gList, gTuple, gIsi, tyNm, dIx, dSl, items_l, items_t, noOwn, wipeS, backS, M.fail, post, mkFn, List.getElem?_cons_zero, List.getElem?_cons_succ, List.getElem?_nil, List.set_cons_zero, List.set_cons_succ, List.getD_cons_zero, List.getD_cons_succ, List.cons_append, List.nil_append, List.append_nil, List.length_cons, List.length_nil, List.replicate, List.tail_cons, List.tail_nil, List.any_cons, List.any_nil, List.all_cons, List.all_nil, List.map_cons, List.map_nil, Option.map_some, Option.map_none, Option.bind_some, Option.bind_none, Option.some_or, Option.none_or, Bool.not_true, Bool.not_false, Bool.and_true, Bool.true_and, Bool.and_false, Bool.false_and, Bool.or_true, Bool.or_false, Bool.true_or, Bool.false_or, Bool.false_eq_true, if_true, if_false, reduceIte, Nat.reduceAdd, Nat.reduceSub, Nat.reduceEqDiff, Nat.reduceBEq, Nat.reduceLT, decide_true, decide_false]
        unfold eTup
        rw [bind_eq, e4]; dsimp only
        rw [bind_eq, e1]; dsimp only
        rw [if_pos e2]; rfl
      rw [bind_eq, e3]; rfl
  simp only [b_grid_1, hc, sSeq, sSet, setV, sRet, retV, sRetN, sIf, sExpr, sNil, sPass, sBreak, sCont, sFor, thenS, bind_eq, pure_eq, eVar, eC, mBin, peek, Dl.settle, ofO, toV, toVs, peeks, aCons, aNil, aStar, eB, eIx, eSl, eTup, eLst, eLc_eq, eLc2_eq, bindF, iSeq, iRng1, iRng2, iZip, eCall, callM, prep, ssOf, ssOfs, dist, isAli, noAli, scaR, scaD, back, back1, ownOr, isOwn, tCmp, tVal, tru, truD, tNot, tAnd, tOr, tYes', eAnd, eOr, eNot, eIf, eNeg, gN, gT, gsCons, gsNil, sSetIx, ownLst, ckL, mAppend_eq, eFld, lkF, oSome, oNo, gII, gIIc, dAdd, dSub, dMul, dDiv, dMod, dPow, dLt, dLe, dGt, dGe, gTT, gLL, gSS, gLen, gInt, gMax2, gMin2, gList, gTuple, gIsi, tyNm, dIx, dSl, items_l, items_t, noOwn, wipeS, backS, M.fail, post, mkFn, List.getElem?_cons_zero, List.getElem?_cons_succ, List.getElem?_nil, List.set_cons_zero, List.set_cons_succ, List.getD_cons_zero, List.getD_cons_succ, List.cons_append, List.nil_append, List.append_nil, List.length_cons, List.length_nil, List.replicate, List.tail_cons, List.tail_nil, List.any_cons, List.any_nil, List.all_cons, List.all_nil, List.map_cons, List.map_nil, Option.map_some, Option.map_none, Option.bind_some, Option.bind_none, Option.some_or, Option.none_or, Bool.not_true, Bool.not_false, Bool.and_true, Bool.true_and, Bool.and_false, Bool.false_and, Bool.or_true, Bool.or_false, Bool.true_or, Bool.false_or, Bool.false_eq_true, if_true, if_false, reduceIte, Nat.reduceAdd, Nat.reduceSub, Nat.reduceEqDiff, Nat.reduceBEq, Nat.reduceLT, decide_true, decide_false]
end My

namespace My
open PySem Dl
open L2 (ixN atI)
/-! ### grid: the def -/
def seqs : List D → Option (List (List Int))
  | [] => some []
  | d :: ds => match seqI d, seqs ds with
    | some s, some ss => some (s :: ss)
    | _, _ => none
theorem seqs_cons {d : D} {ds : List D} {ss : List (List Int)} (h : seqs (d :: ds) = some ss) : ∃ s r, ss = s :: r ∧ items d = some (s.map .int) ∧ seqs ds = some r := by
  unfold seqs at h
  cases h1 : seqI d with
  | none => rw [h1] at h; cases h
  | some s =>
    cases h2 : seqs ds with
    | none => rw [h1, h2] at h; cases h
    | some r => rw [h1, h2] at h; cases h; exact ⟨s, r, rfl, seqI_inv h1, rfl⟩
theorem seqI_l (s : List Int) : seqI (.lst (s.map .int)) = some s := by
  show asInts (s.map .int) = _
  exact asInts_map s
theorem seqI_t (s : List Int) : seqI (.tup (s.map .int)) = some s := by
  show asInts (s.map .int) = _
  exact asInts_map s
theorem seqs_l : ∀ ss : List (List Int), seqs (ss.map fun s => .lst (s.map .int)) = some ss
  | [] => rfl
  | s :: ss => by
    rw [List.map_cons]
    unfold seqs
    rw [seqI_l, seqs_l ss]
theorem seqs_t : ∀ ss : List (List Int), seqs (rws ss) = some ss
  | [] => rfl
  | s :: ss => by
    show seqs (.tup (s.map .int) :: rws ss) = _
    unfold seqs
    rw [seqI_t, seqs_t ss]
theorem sz20 : 2 ^ 20 < sizeLine := by rw [PySem.sizeLine_eq]; decide
theorem gridS_row {rows : List (List Int)} {side : List Int} {k : Nat} (h : ∀ r ∈ rows, r.length = k) : ∀ r ∈ gridS rows side, r.length = k + 1 := by
  intro r hr
  obtain ⟨q, hq, h2⟩ := List.mem_flatMap.mp hr
  obtain ⟨x, _, rfl⟩ := List.mem_map.mp h2
  rw [List.length_append, h q hq]; rfl
theorem grid_loop {d : D} : ∀ (sds : List D) (sides rows : List (List Int)) (k : Nat) (s2 : S), seqs sds = some sides → rows.length * vol sides ≤ 2 ^ 20 → (∀ r ∈ rows, r.length = k) → k + sides.length ≤ 2 ^ 20 →
    ∃ s2', forL (gN 2) b_grid_1 sds [.val d, .own (.lst (rws rows)), s2, .no, .no] = some (.nx [.val d, .own (.lst (rws (sides.foldl gridS rows))), s2', .no, .no])
  | [], sides, rows, k, s2, h, _, _, _ => by cases h; exact ⟨s2, rfl⟩
  | sd :: sds, sides, rows, k, s2, h, hz, hr, hk => by
    obtain ⟨s, r, rfl, h1, h2⟩ := seqs_cons h
    rw [List.length_cons] at hk
    have hv : vol (s :: r) = max 1 s.length * vol r := rfl
    rw [hv] at hz
    have hp := vol_pos r
    have l1 := gridS_len rows s
    have z1 : rows.length * s.length ≤ rows.length * max 1 s.length := Nat.mul_le_mul_left _ (by omega)
    have z2 : rows.length * s.length * vol r ≤ 2 ^ 20 := Nat.le_trans (Nat.le_trans (Nat.mul_le_mul_right _ z1) (Nat.le_of_eq (Nat.mul_assoc _ _ _))) hz
    have z3 : rows.length * s.length ≤ 2 ^ 20 := Nat.le_trans (Nat.le_mul_of_pos_right _ hp) z2
    have sz := sz20
    have st := grid_step (d0 := d) (sd := sd) (side := s) (rows := rows) h1 (by omega) (fun q hq => by rw [hr q hq]; omega)
    obtain ⟨s2', ih⟩ := grid_loop sds r (gridS rows s) (k + 1) (.val sd) h2 (by rw [l1]; exact z2) (gridS_row hr) (by omega)
    exact ⟨s2', by rw [forL_cons rfl st, ih]; rfl⟩
def fn_grid : Fn
  | [.val d] => match (items d).bind seqs with
    | some sides => if vol sides ≤ 2 ^ 20 ∧ sides.length ≤ 2 ^ 20 then some (.ret (.own (.lst (rws (combos sides)))) [.val d]) else none
    | none => none
  | _ => none
theorem le_grid : Fn.le fn_grid (mkFn 1 5 f_grid) := by
  intro ss o h
  unfold fn_grid at h
  split at h
  · rename_i d
    split at h
    · rename_i sides hn
      by_cases hl : vol sides ≤ 2 ^ 20 ∧ sides.length ≤ 2 ^ 20
      · rw [if_pos hl] at h
        cases h
        obtain ⟨sds, hi, hq⟩ := Option.bind_eq_some_iff.mp hn
        have e0 : (0 : Nat) ≤ sizeLine := Nat.zero_le _
        have e1 := sz1
        obtain ⟨s', hs⟩ := grid_loop (d := d) sds sides [[]] 0 .no hq (by rw [List.length_singleton, Nat.one_mul]; exact hl.1) (by simp) (by omega)
        have hs : forL (gN 2) b_grid_1 sds [.val d, .own (.lst [.tup []]), .no, .no, .no] = _ := hs
        rw [show sides.foldl gridS [[]] = combos sides from grid_combos sides] at hs
        simp only [f_grid, e0, e1, hi, hs, Nat.zero_add, sSeq, sSet, setV, sRet, retV, sRetN, sIf, sExpr, sNil, sPass, sBreak, sCont, sFor, thenS, bind_eq, pure_eq, eVar, eC, mBin, peek, Dl.settle, ofO, toV, toVs, peeks, aCons, aNil, aStar, eB, eIx, eSl, eTup, eLst, eLc_eq, eLc2_eq, bindF, iSeq, iRng1, iRng2, iZip, eCall, callM, prep, ssOf, ssOfs, dist, isAli, noAli, scaR, scaD, back, back1, ownOr, isOwn, tCmp, tVal, tru, truD, tNot, tAnd, tOr, tYes', eAnd, eOr, eNot, eIf, eNeg, gN, gT, gsCons, gsNil, sSetIx, ownLst, ckL, mAppend_eq, eFld, lkF, oSome, oNo, gII, gIIc, dAdd, dSub, dMul, dDiv, dMod, dPow, dLt, dLe, dGt, dGe, gTT, gLL, gSS, gLen, gInt, gMax2, gMin2, gList, gTuple, gIsi, tyNm, dIx, dSl, items_l, items_t, noOwn, wipeS, backS, M.fail, post, mkFn, List.getElem?_cons_zero, List.getElem?_cons_succ, List.getElem?_nil, List.set_cons_zero, List.set_cons_succ, List.getD_cons_zero, List.getD_cons_succ, List.cons_append, List.nil_append, List.append_nil, List.length_cons, List.length_nil, List.replicate, List.tail_cons, List.tail_nil, List.any_cons, List.any_nil, List.all_cons, List.all_nil, List.map_cons, List.map_nil, Option.map_some, Option.map_none, Option.bind_some, Option.bind_none, Option.some_or, Option.none_or, Bool.not_true, Bool.not_false, Bool.and_true, Bool.true_and, Bool.and_false, Bool.false_and, Bool.or_true, Bool.or_false, Bool.true_or, Bool.false_or, Bool.false_eq_true, if_true, if_false, reduceIte, Nat.reduceAdd, Nat.reduceSub, Nat.reduceEqDiff, Nat.reduceBEq, Nat.reduceLT, decide_true, decide_false]
      · rw [if_neg hl] at h; cases h
    · cases h
  · cases h
/-! ### combos -/
theorem cut1 {α : Type} (x : α) (xs : List α) : cutD (x :: xs) (some 1) none = xs := by
  unfold cutD
  rw [show HT.sIx (x :: xs).length 0 (some 1) = 1 from by
    have := HT.sIx_nat (x :: xs).length 0 1
    rw [List.length_cons] at this ⊢
    exact this.trans (by omega)]
  rw [HT.sIx_none, List.drop_one, List.tail_cons, List.length_cons, Nat.add_sub_cancel, List.take_length]
theorem combos_cons (s : List Int) (ss : List (List Int)) : combos (s :: ss) = s.flatMap fun x => (combos ss).map fun r => x :: r := rfl
/-- the inner loop -/
theorem cmb1 {d b : D} {x : Int} : ∀ (rs acc : List (List Int)) (s4 : S), acc.length + rs.length ≤ 2 ^ 20 → (∀ r ∈ rs, r.length < 2 ^ 20) → ∃ s4', forL (gN 4) b__law_combos_1 (rws rs) [.val d, .val b, .own (.lst (rws acc)), .val (.int x), s4]
    = some (.nx [.val d, .val b, .own (.lst (rws (acc ++ rs.map (x :: ·)))), .val (.int x), s4'])
  | [], acc, s4, _, _ => ⟨s4, by rw [List.map_nil, List.append_nil]; rfl⟩
  | r :: rs, acc, s4, hz, hr => by
    rw [List.length_cons] at hz
    obtain ⟨s', ih⟩ := cmb1 (d := d) (b := b) (x := x) rs (acc ++ [x :: r]) (.val (.tup (r.map .int))) (by rw [List.length_append, List.length_singleton]; omega) (fun q hq => hr q (List.mem_cons_of_mem _ hq))
    refine ⟨s', ?_⟩
    have sz := sz20
    have e1 : (rws acc).length < sizeLine := by unfold rws; rw [List.length_map]; omega
    have e2 := sz1
    have e3 : rws acc ++ [.tup (.int x :: r.map .int)] = rws (acc ++ [x :: r]) := by simp [rws]
    have st : b__law_combos_1 [.val d, .val b, .own (.lst (rws acc)), .val (.int x), .val (.tup (r.map .int))] = some (.nx [.val d, .val b, .own (.lst (rws (acc ++ [x :: r]))), .val (.int x), .val (.tup (r.map .int))]) := by
      have hl := hr r List.mem_cons_self
      have e4 : 1 + (r.map D.int).length ≤ sizeLine := by rw [List.length_map]; omega
      simp only [b__law_combos_1, e1, e2, e3, e4, Nat.zero_add, sSeq, sSet, setV, sRet, retV, sRetN, sIf, sExpr, sNil, sPass, sBreak, sCont, sFor, thenS, bind_eq, pure_eq, eVar, eC, mBin, peek, Dl.settle, ofO, toV, toVs, peeks, aCons, aNil, aStar, eB, eIx, eSl, eTup, eLst, eLc_eq, eLc2_eq, bindF, iSeq, iRng1, iRng2, iZip, eCall, callM, prep, ssOf, ssOfs, dist, isAli, noAli, scaR, scaD, back, back1, ownOr, isOwn, tCmp, tVal, tru, truD, tNot, tAnd, tOr, tYes', eAnd, eOr, eNot, eIf, eNeg, gN, gT, gsCons, gsNil, sSetIx, ownLst, ckL, mAppend_eq, eFld, lkF, oSome, oNo, gII, gIIc, dAdd, dSub, dMul, dDiv, dMod, dPow, dLt, dLe, dGt, dGe, gTT, gLL, gSS, gLen, gInt, gMax2, gMin2, gList, gTuple, gIsi, tyNm, dIx, dSl, items_l, items_t, noOwn, wipeS, backS, M.fail, post, mkFn, List.getElem?_cons_zero, List.getElem?_cons_succ, List.getElem?_nil, List.set_cons_zero, List.set_cons_succ, List.getD_cons_zero, List.getD_cons_succ, List.cons_append, List.nil_append, List.append_nil, List.length_cons, List.length_nil, List.replicate, List.tail_cons, List.tail_nil, List.any_cons, List.any_nil, List.all_cons, List.all_nil, List.map_cons, List.map_nil, Option.map_some, Option.map_none, Option.bind_some, Option.bind_none, Option.some_or, Option.none_or, Bool.not_true, Bool.not_false, Bool.and_true, Bool.true_and, Bool.and_false, Bool.false_and, Bool.or_true, Bool.or_false, Bool.true_or, Bool.false_or, Bool.false_eq_true, if_true, if_false, reduceIte, Nat.reduceAdd, Nat.reduceSub, Nat.reduceEqDiff, Nat.reduceBEq, Nat.reduceLT, decide_true, decide_false]
    show forL (gN 4) b__law_combos_1 (.tup (r.map .int) :: rws rs) _ = _
    rw [forL_cons rfl st, ih]
    simp
/-- the outer loop -/
theorem cmb2 {d : D} {rs : List (List Int)} : ∀ (xs : List Int) (acc : List (List Int)) (s1 s3 s4 : S), (s1 = .own (.lst (rws rs)) ∨ s1 = .val (.lst (rws rs))) → acc.length + xs.length * rs.length ≤ 2 ^ 20 → (∀ r ∈ rs, r.length < 2 ^ 20) →
    ∃ s1' s3' s4', forL (gN 3) b__law_combos_2 (xs.map .int) [.val d, s1, .own (.lst (rws acc)), s3, s4] = some (.nx [.val d, s1', .own (.lst (rws (acc ++ xs.flatMap fun x => rs.map fun r => x :: r))), s3', s4'])
  | [], acc, s1, s3, s4, _, _, _ => ⟨s1, s3, s4, by rw [List.flatMap_nil, List.append_nil]; rfl⟩
  | x :: xs, acc, s1, s3, s4, h1, hz, hr => by
    rw [List.length_cons, Nat.succ_mul] at hz
    obtain ⟨t4, e1⟩ := cmb1 (d := d) (b := .lst (rws rs)) (x := x) rs acc s4 (by omega) hr
    obtain ⟨u1, u3, u4, ih⟩ := cmb2 (d := d) (rs := rs) xs (acc ++ rs.map (x :: ·)) (.val (.lst (rws rs))) (.val (.int x)) t4 (.inr rfl) (by rw [List.length_append, List.length_map]; omega) hr
    refine ⟨u1, u3, u4, ?_⟩
    have st : b__law_combos_2 [.val d, s1, .own (.lst (rws acc)), .val (.int x), s4] = some (.nx [.val d, .val (.lst (rws rs)), .own (.lst (rws (acc ++ rs.map (x :: ·)))), .val (.int x), t4]) := by
      rcases h1 with rfl | rfl
      · simp only [b__law_combos_2, e1, sSeq, sSet, setV, sRet, retV, sRetN, sIf, sExpr, sNil, sPass, sBreak, sCont, sFor, thenS, bind_eq, pure_eq, eVar, eC, mBin, peek, Dl.settle, ofO, toV, toVs, peeks, aCons, aNil, aStar, eB, eIx, eSl, eTup, eLst, eLc_eq, eLc2_eq, bindF, iSeq, iRng1, iRng2, iZip, eCall, callM, prep, ssOf, ssOfs, dist, isAli, noAli, scaR, scaD, back, back1, ownOr, isOwn, tCmp, tVal, tru, truD, tNot, tAnd, tOr, tYes', eAnd, eOr, eNot, eIf, eNeg, gN, gT, gsCons, gsNil, sSetIx, ownLst, ckL, mAppend_eq, eFld, lkF, oSome, oNo, gII, gIIc, dAdd, dSub, dMul, dDiv, dMod, dPow, dLt, dLe, dGt, dGe, gTT, gLL, gSS, gLen, gInt, gMax2, gMin2, gList, gTuple, gIsi, tyNm, dIx, dSl, items_l, items_t, noOwn, wipeS, backS, M.fail, post, mkFn, List.getElem?_cons_zero, List.getElem?_cons_succ, List.getElem?_nil, List.set_cons_zero, List.set_cons_succ, List.getD_cons_zero, List.getD_cons_succ, List.cons_append, List.nil_append, List.append_nil, List.length_cons, List.length_nil, List.replicate, List.tail_cons, List.tail_nil, List.any_cons, List.any_nil, List.all_cons, List.all_nil, List.map_cons, List.map_nil, Option.map_some, Option.map_none, Option.bind_some, Option.bind_none, Option.some_or, Option.none_or, Bool.not_true, Bool.not_false, Bool.and_true, Bool.true_and, Bool.and_false, Bool.false_and, Bool.or_true, Bool.or_false, Bool.true_or, Bool.false_or, Bool.false_eq_true, if_true, if_false, reduceIte, Nat.reduceAdd, Nat.reduceSub, Nat.reduceEqDiff, Nat.reduceBEq, Nat.reduceLT, decide_true, decide_false]
      · simp only [b__law_combos_2, e1, sSeq, sSet, setV, sRet, retV, sRetN, sIf, sExpr, sNil, sPass, sBreak, sCont, sFor, thenS, bind_eq, pure_eq, eVar, eC, mBin, peek, Dl.settle, ofO, toV, toVs, peeks, aCons, aNil, aStar, eB, eIx, eSl, eTup, eLst, eLc_eq, eLc2_eq, bindF, iSeq, iRng1, iRng2, iZip, eCall, callM, prep, ssOf, ssOfs, dist, isAli, noAli, scaR, scaD, back, back1, ownOr, isOwn, tCmp, tVal, tru, truD, tNot, tAnd, tOr, tYes', eAnd, eOr, eNot, eIf, eNeg, gN, gT, gsCons, gsNil, sSetIx, ownLst, ckL, mAppend_eq, eFld, lkF, oSome, oNo, gII, gIIc, dAdd, dSub, dMul, dDiv, dMod, dPow, dLt, dLe, dGt, dGe, gTT, gLL, gSS, gLen, gInt, gMax2, gMin2, gList, gTuple, gIsi, tyNm, dIx, dSl, items_l, items_t, noOwn, wipeS, backS, M.fail, post, mkFn, List.getElem?_cons_zero, List.getElem?_cons_succ, List.getElem?_nil, List.set_cons_zero, List.set_cons_succ, List.getD_cons_zero, List.getD_cons_succ, List.cons_append, List.nil_append, List.append_nil, List.length_cons, List.length_nil, List.replicate, List.tail_cons, List.tail_nil, List.any_cons, List.any_nil, List.all_cons, List.all_nil, List.map_cons, List.map_nil, Option.map_some, Option.map_none, Option.bind_some, Option.bind_none, Option.some_or, Option.none_or, Bool.not_true, Bool.not_false, Bool.and_true, Bool.true_and, Bool.and_false, Bool.false_and, Bool.or_true, Bool.or_false, Bool.true_or, Bool.false_or, Bool.false_eq_true, if_true, if_false, reduceIte, Nat.reduceAdd, Nat.reduceSub, Nat.reduceEqDiff, Nat.reduceBEq, Nat.reduceLT, decide_true, decide_false]
    rw [List.map_cons, forL_cons rfl st, ih, List.flatMap_cons, List.append_assoc]
def fn_combos (n : Nat) : Fn
  | [.val (.lst ds)] => match seqs ds with
    | some sides => if sides.length ≤ n ∧ vol sides ≤ 2 ^ 20 ∧ sides.length ≤ 2 ^ 20 then some (.ret (.own (.lst (rws (combos sides)))) [.val (.lst ds)]) else none
    | none => none
  | _ => none
theorem le_combos0 (g : Fn) : Fn.le (fn_combos 0) (mkFn 1 5 (f__law_combos g)) := by
  intro ss o h
  unfold fn_combos at h
  split at h
  · rename_i ds
    split at h
    · rename_i sides hn
      by_cases hl : sides.length ≤ 0 ∧ vol sides ≤ 2 ^ 20 ∧ sides.length ≤ 2 ^ 20
      · rw [if_pos hl] at h
        cases h
        cases ds with
        | nil =>
          cases hn
          have e0 := sz0
          have e1 := sz1
          have e2 : (((0 : Nat) : Int) == 0) = true := rfl
          simp only [f__law_combos, combos, rws, dEq_ii, e2, e0, e1, Nat.zero_add, sSeq, sSet, setV, sRet, retV, sRetN, sIf, sExpr, sNil, sPass, sBreak, sCont, sFor, thenS, bind_eq, pure_eq, eVar, eC, mBin, peek, Dl.settle, ofO, toV, toVs, peeks, aCons, aNil, aStar, eB, eIx, eSl, eTup, eLst, eLc_eq, eLc2_eq, bindF, iSeq, iRng1, iRng2, iZip, eCall, callM, prep, ssOf, ssOfs, dist, isAli, noAli, scaR, scaD, back, back1, ownOr, isOwn, tCmp, tVal, tru, truD, tNot, tAnd, tOr, tYes', eAnd, eOr, eNot, eIf, eNeg, gN, gT, gsCons, gsNil, sSetIx, ownLst, ckL, mAppend_eq, eFld, lkF, oSome, oNo, gII, gIIc, dAdd, dSub, dMul, dDiv, dMod, dPow, dLt, dLe, dGt, dGe, gTT, gLL, gSS, gLen, gInt, gMax2, gMin2, gList, gTuple, gIsi, tyNm, dIx, dSl, items_l, items_t, noOwn, wipeS, backS, M.fail, post, mkFn, List.getElem?_cons_zero, List.getElem?_cons_succ, List.getElem?_nil, List.set_cons_zero, List.set_cons_succ, List.getD_cons_zero, List.getD_cons_succ, List.cons_append, List.nil_append, List.append_nil, List.length_cons, List.length_nil, List.replicate, List.tail_cons, List.tail_nil, List.any_cons, List.any_nil, List.all_cons, List.all_nil, List.map_cons, List.map_nil, Option.map_some, Option.map_none, Option.bind_some, Option.bind_none, Option.some_or, Option.none_or, Bool.not_true, Bool.not_false, Bool.and_true, Bool.true_and, Bool.and_false, Bool.false_and, Bool.or_true, Bool.or_false, Bool.true_or, Bool.false_or, Bool.false_eq_true, if_true, if_false, reduceIte, Nat.reduceAdd, Nat.reduceSub, Nat.reduceEqDiff, Nat.reduceBEq, Nat.reduceLT, decide_true, decide_false]
        | cons sd sds =>
          obtain ⟨s, r, rfl, _, _⟩ := seqs_cons hn
          exact absurd hl.1 (by rw [List.length_cons]; omega)
      · rw [if_neg hl] at h; cases h
    · cases h
  · cases h
theorem le_combosS (n : Nat) : Fn.le (fn_combos (n + 1)) (mkFn 1 5 (f__law_combos (fn_combos n))) := by
  intro ss o h
  unfold fn_combos at h
  split at h
  · rename_i ds
    split at h
    · rename_i sides hn
      by_cases hl : sides.length ≤ n + 1 ∧ vol sides ≤ 2 ^ 20 ∧ sides.length ≤ 2 ^ 20
      · rw [if_pos hl] at h
        cases h
        cases ds with
        | nil =>
          cases hn
          have e0 := sz0
          have e1 := sz1
          have e2 : (((0 : Nat) : Int) == 0) = true := rfl
          simp only [f__law_combos, combos, rws, dEq_ii, e2, e0, e1, Nat.zero_add, sSeq, sSet, setV, sRet, retV, sRetN, sIf, sExpr, sNil, sPass, sBreak, sCont, sFor, thenS, bind_eq, pure_eq, eVar, eC, mBin, peek, Dl.settle, ofO, toV, toVs, peeks, aCons, aNil, aStar, eB, eIx, eSl, eTup, eLst, eLc_eq, eLc2_eq, bindF, iSeq, iRng1, iRng2, iZip, eCall, callM, prep, ssOf, ssOfs, dist, isAli, noAli, scaR, scaD, back, back1, ownOr, isOwn, tCmp, tVal, tru, truD, tNot, tAnd, tOr, tYes', eAnd, eOr, eNot, eIf, eNeg, gN, gT, gsCons, gsNil, sSetIx, ownLst, ckL, mAppend_eq, eFld, lkF, oSome, oNo, gII, gIIc, dAdd, dSub, dMul, dDiv, dMod, dPow, dLt, dLe, dGt, dGe, gTT, gLL, gSS, gLen, gInt, gMax2, gMin2, gList, gTuple, gIsi, tyNm, dIx, dSl, items_l, items_t, noOwn, wipeS, backS, M.fail, post, mkFn, List.getElem?_cons_zero, List.getElem?_cons_succ, List.getElem?_nil, List.set_cons_zero, List.set_cons_succ, List.getD_cons_zero, List.getD_cons_succ, List.cons_append, List.nil_append, List.append_nil, List.length_cons, List.length_nil, List.replicate, List.tail_cons, List.tail_nil, List.any_cons, List.any_nil, List.all_cons, List.all_nil, List.map_cons, List.map_nil, Option.map_some, Option.map_none, Option.bind_some, Option.bind_none, Option.some_or, Option.none_or, Bool.not_true, Bool.not_false, Bool.and_true, Bool.true_and, Bool.and_false, Bool.false_and, Bool.or_true, Bool.or_false, Bool.true_or, Bool.false_or, Bool.false_eq_true, if_true, if_false, reduceIte, Nat.reduceAdd, Nat.reduceSub, Nat.reduceEqDiff, Nat.reduceBEq, Nat.reduceLT, decide_true, decide_false]
        | cons sd sds =>
          obtain ⟨s, r, rfl, h1, h2⟩ := seqs_cons hn
          have hv : vol (s :: r) = max 1 s.length * vol r := rfl
          obtain ⟨l1, l2, l3⟩ := hl
          rw [hv] at l2
          rw [List.length_cons] at l1 l3
          have hp := vol_pos r
          have v1 : vol r ≤ 2 ^ 20 := Nat.le_trans (Nat.le_mul_of_pos_left _ (by omega)) l2
          have cl := combos_len r
          have v2 : s.length * (combos r).length ≤ 2 ^ 20 := Nat.le_trans (Nat.mul_le_mul (by omega) cl) l2
          have e0 := sz0
          have e2 : (((sds.length + 1 : Nat) : Int) == 0) = false := beq_eq_false_iff_ne.mpr (by omega)
          have e3 : fn_combos n [.val (.lst sds)] = some (.ret (.own (.lst (rws (combos r)))) [.val (.lst sds)]) := by
            simp only [fn_combos, h2]
            exact if_pos ⟨by omega, v1, by omega⟩
          obtain ⟨u1, u3, u4, e4⟩ := cmb2 (d := .lst (sd :: sds)) (rs := combos r) s [] (.own (.lst (rws (combos r)))) .no .no (.inl rfl) (by rw [List.length_nil, Nat.zero_add]; exact v2) (fun q hq => by rw [inC_len (mem_combos.mp hq)]; omega)
          have e4 : forL (gN 3) b__law_combos_2 (s.map .int) [.val (.lst (sd :: sds)), .own (.lst (rws (combos r))), .own (.lst []), .no, .no] = _ := e4
          rw [List.nil_append, ← combos_cons] at e4
          simp only [f__law_combos, dEq_ii, e2, e0, e3, cut1, atI_0, h1, e4, Nat.zero_add, sSeq, sSet, setV, sRet, retV, sRetN, sIf, sExpr, sNil, sPass, sBreak, sCont, sFor, thenS, bind_eq, pure_eq, eVar, eC, mBin, peek, Dl.settle, ofO, toV, toVs, peeks, aCons, aNil, aStar, eB, eIx, eSl, eTup, eLst, eLc_eq, eLc2_eq, bindF, iSeq, iRng1, iRng2, iZip, eCall, callM, prep, ssOf, ssOfs, dist, isAli, noAli, scaR, scaD, back, back1, ownOr, isOwn, tCmp, tVal, tru, truD, tNot, tAnd, tOr, tYes', eAnd, eOr, eNot, eIf, eNeg, gN, gT, gsCons, gsNil, sSetIx, ownLst, ckL, mAppend_eq, eFld, lkF, oSome, oNo, gII, gIIc, dAdd, dSub, dMul, dDiv, dMod, dPow, dLt, dLe, dGt, dGe, gTT, gLL, gSS, gLen, gInt, gMax2, gMin2, gList, gTuple, gIsi, tyNm, dIx, dSl, items_l, items_t, noOwn, wipeS, backS, M.fail, post, mkFn, List.getElem?_cons_zero, List.getElem?_cons_succ, List.getElem?_nil, List.set_cons_zero, List.set_cons_succ, List.getD_cons_zero, List.getD_cons_succ, List.cons_append, List.nil_append, List.append_nil, List.length_cons, List.length_nil, List.replicate, List.tail_cons, List.tail_nil, List.any_cons, List.any_nil, List.all_cons, List.all_nil, List.map_cons, List.map_nil, Option.map_some, Option.map_none, Option.bind_some, Option.bind_none, Option.some_or, Option.none_or, Bool.not_true, Bool.not_false, Bool.and_true, Bool.true_and, Bool.and_false, Bool.false_and, Bool.or_true, Bool.or_false, Bool.true_or, Bool.false_or, Bool.false_eq_true, if_true, if_false, reduceIte, Nat.reduceAdd, Nat.reduceSub, Nat.reduceEqDiff, Nat.reduceBEq, Nat.reduceLT, decide_true, decide_false]
      · rw [if_neg hl] at h; cases h
    · cases h
  · cases h
end My

namespace My
open PySem Dl
open L2 (ixN atI)
/-! ### clean -/
theorem cln_step {d : D} {acc : List Int} {x : Int} (hz : acc.length < sizeLine) : b__law_clean_1 [.val d, .own (.lst (acc.map .int)), .val (.int x), .no] = some (.nx [.val d, .own (.lst ((ascS acc x).map .int)), .val (.int x), .no]) := by
  have z0 := sz0
  rcases List.eq_nil_or_concat acc with rfl | ⟨l, y, rfl⟩
  · have hs : (0 : Nat) < sizeLine := by rw [PySem.sizeLine_eq]; decide
    have e0 : dEq (.lst []) (.lst []) = some (.val (.bl true)) := dEq_l0 []
    simp only [b__law_clean_1, ascS_nil, hs, z0, e0, sSeq, sSet, setV, sRet, retV, sRetN, sIf, sExpr, sNil, sPass, sBreak, sCont, sFor, thenS, bind_eq, pure_eq, eVar, eC, mBin, peek, Dl.settle, ofO, toV, toVs, peeks, aCons, aNil, aStar, eB, eIx, eSl, eTup, eLst, eLc_eq, eLc2_eq, bindF, iSeq, iRng1, iRng2, iZip, eCall, callM, prep, ssOf, ssOfs, dist, isAli, noAli, scaR, scaD, back, back1, ownOr, isOwn, tCmp, tVal, tru, truD, tNot, tAnd, tOr, tYes', eAnd, eOr, eNot, eIf, eNeg, gN, gT, gsCons, gsNil, sSetIx, ownLst, ckL, mAppend_eq, eFld, lkF, oSome, oNo, gII, gIIc, dAdd, dSub, dMul, dDiv, dMod, dPow, dLt, dLe, dGt, dGe, gTT, gLL, gSS, gLen, gInt, gMax2, gMin2, gList, gTuple, gIsi, tyNm, dIx, dSl, items_l, items_t, noOwn, wipeS, backS, M.fail, post, mkFn, List.getElem?_cons_zero, List.getElem?_cons_succ, List.getElem?_nil, List.set_cons_zero, List.set_cons_succ, List.getD_cons_zero, List.getD_cons_succ, List.cons_append, List.nil_append, List.append_nil, List.length_cons, List.length_nil, List.replicate, List.tail_cons, List.tail_nil, List.any_cons, List.any_nil, List.all_cons, List.all_nil, List.map_cons, List.map_nil, Option.map_some, Option.map_none, Option.bind_some, Option.bind_none, Option.some_or, Option.none_or, Bool.not_true, Bool.not_false, Bool.and_true, Bool.true_and, Bool.and_false, Bool.false_and, Bool.or_true, Bool.or_false, Bool.true_or, Bool.false_or, Bool.false_eq_true, if_true, if_false, reduceIte, Nat.reduceAdd, Nat.reduceSub, Nat.reduceEqDiff, Nat.reduceBEq, Nat.reduceLT, decide_true, decide_false]
  · rw [List.concat_eq_append] at hz ⊢
    have e1 : dEq (.lst ((l ++ [y]).map D.int)) (.lst []) = some (.val (.bl false)) := by rw [dEq_l0, decide_eq_false (by simp)]
    have e2 : (l ++ [y]).map D.int = l.map .int ++ [.int y] := by simp
    have e3 : atI ((l ++ [y]).map D.int) (-1) = some (.int y) := by rw [e2, atI_last]
    have e5 : ((l ++ [y]).map D.int).length < sizeLine := by rw [List.length_map]; exact hz
    rw [ascS_snoc]
    by_cases h : y = x
    · rw [if_pos h]
      have e4 : (y == x) = true := beq_iff_eq.mpr h
      simp only [b__law_clean_1, z0, e1, e3, dNe_ii, e4, sSeq, sSet, setV, sRet, retV, sRetN, sIf, sExpr, sNil, sPass, sBreak, sCont, sFor, thenS, bind_eq, pure_eq, eVar, eC, mBin, peek, Dl.settle, ofO, toV, toVs, peeks, aCons, aNil, aStar, eB, eIx, eSl, eTup, eLst, eLc_eq, eLc2_eq, bindF, iSeq, iRng1, iRng2, iZip, eCall, callM, prep, ssOf, ssOfs, dist, isAli, noAli, scaR, scaD, back, back1, ownOr, isOwn, tCmp, tVal, tru, truD, tNot, tAnd, tOr, tYes', eAnd, eOr, eNot, eIf, eNeg, gN, gT, gsCons, gsNil, sSetIx, ownLst, ckL, mAppend_eq, eFld, lkF, oSome, oNo, gII, gIIc, dAdd, dSub, dMul, dDiv, dMod, dPow, dLt, dLe, dGt, dGe, gTT, gLL, gSS, gLen, gInt, gMax2, gMin2, gList, gTuple, gIsi, tyNm, dIx, dSl, items_l, items_t, noOwn, wipeS, backS, M.fail, post, mkFn, List.getElem?_cons_zero, List.getElem?_cons_succ, List.getElem?_nil, List.set_cons_zero, List.set_cons_succ, List.getD_cons_zero, List.getD_cons_succ, List.cons_append, List.nil_append, List.append_nil, List.length_cons, List.length_nil, List.replicate, List.tail_cons, List.tail_nil, List.any_cons, List.any_nil, List.all_cons, List.all_nil, List.map_cons, List.map_nil, Option.map_some, Option.map_none, Option.bind_some, Option.bind_none, Option.some_or, Option.none_or, Bool.not_true, Bool.not_false, Bool.and_true, Bool.true_and, Bool.and_false, Bool.false_and, Bool.or_true, Bool.or_false, Bool.true_or, Bool.false_or, Bool.false_eq_true, if_true, if_false, reduceIte, Nat.reduceAdd, Nat.reduceSub, Nat.reduceEqDiff, Nat.reduceBEq, Nat.reduceLT, decide_true, decide_false]
    · rw [if_neg h]
      have e4 : (y == x) = false := beq_eq_false_iff_ne.mpr h
      have e6 : (l ++ [y]).map D.int ++ [D.int x] = (l ++ [y] ++ [x]).map D.int := by simp
      simp only [b__law_clean_1, z0, e1, e3, dNe_ii, e4, e5, e6, sSeq, sSet, setV, sRet, retV, sRetN, sIf, sExpr, sNil, sPass, sBreak, sCont, sFor, thenS, bind_eq, pure_eq, eVar, eC, mBin, peek, Dl.settle, ofO, toV, toVs, peeks, aCons, aNil, aStar, eB, eIx, eSl, eTup, eLst, eLc_eq, eLc2_eq, bindF, iSeq, iRng1, iRng2, iZip, eCall, callM, prep, ssOf, ssOfs, dist, isAli, noAli, scaR, scaD, back, back1, ownOr, isOwn, tCmp, tVal, tru, truD, tNot, tAnd, tOr, tYes', eAnd, eOr, eNot, eIf, eNeg, gN, gT, gsCons, gsNil, sSetIx, ownLst, ckL, mAppend_eq, eFld, lkF, oSome, oNo, gII, gIIc, dAdd, dSub, dMul, dDiv, dMod, dPow, dLt, dLe, dGt, dGe, gTT, gLL, gSS, gLen, gInt, gMax2, gMin2, gList, gTuple, gIsi, tyNm, dIx, dSl, items_l, items_t, noOwn, wipeS, backS, M.fail, post, mkFn, List.getElem?_cons_zero, List.getElem?_cons_succ, List.getElem?_nil, List.set_cons_zero, List.set_cons_succ, List.getD_cons_zero, List.getD_cons_succ, List.cons_append, List.nil_append, List.append_nil, List.length_cons, List.length_nil, List.replicate, List.tail_cons, List.tail_nil, List.any_cons, List.any_nil, List.all_cons, List.all_nil, List.map_cons, List.map_nil, Option.map_some, Option.map_none, Option.bind_some, Option.bind_none, Option.some_or, Option.none_or, Bool.not_true, Bool.not_false, Bool.and_true, Bool.true_and, Bool.and_false, Bool.false_and, Bool.or_true, Bool.or_false, Bool.true_or, Bool.false_or, Bool.false_eq_true, if_true, if_false, reduceIte, Nat.reduceAdd, Nat.reduceSub, Nat.reduceEqDiff, Nat.reduceBEq, Nat.reduceLT, decide_true, decide_false]
theorem cln_loop {d : D} : ∀ (xs acc : List Int) (s : S), acc.length + xs.length ≤ sizeLine → ∃ s', forL (gN 2) b__law_clean_1 (xs.map .int) [.val d, .own (.lst (acc.map .int)), s, .no]
    = some (.nx [.val d, .own (.lst ((xs.foldl ascS acc).map .int)), s', .no])
  | [], acc, s, _ => ⟨s, rfl⟩
  | x :: xs, acc, s, hz => by
    rw [List.length_cons] at hz
    have := ascS_len acc x
    obtain ⟨s', ih⟩ := cln_loop (d := d) xs (ascS acc x) (.val (.int x)) (by omega)
    exact ⟨s', by rw [List.map_cons, forL_cons rfl (cln_step (by omega)), ih]; rfl⟩
def fn_clean : Fn
  | [.val d] => match seqI d with
    | some ns => if ns.length ≤ sizeLine then some (.ret (.own (.lst ((asc ns).map .int))) [.val d]) else none
    | none => none
  | _ => none
theorem c_cln {ns : List Int} {d : D} {s1 : S} (hi : items d = some (ns.map .int)) : c__law_clean_1 [.val d, s1, .no, .no] = some (.ok (.own (.lst (ns.map .int))) [.val d, s1, .no, .no]) := by
  have h := eLc_pure (it := iSeq (eVar 0)) (tg := gN 3) (tt := tYes') (te := eB gInt (aCons (eVar 3) aNil)) (vs := [3]) (ρ := [.val d, s1, .no, .no]) (ρ' := [.val d, s1, .no, .no]) (ds := ns.map .int) (fun _ => true) id (by simp only [hi, sSeq, sSet, setV, sRet, retV, sRetN, sIf, sExpr, sNil, sPass, sBreak, sCont, sFor, thenS, bind_eq, pure_eq, eVar, eC, mBin, peek, Dl.settle, ofO, toV, toVs, peeks, aCons, aNil, aStar, eB, eIx, eSl, eTup, eLst, eLc_eq, eLc2_eq, bindF, iSeq, iRng1, iRng2, iZip, eCall, callM, prep, ssOf, ssOfs, dist, isAli, noAli, scaR, scaD, back, back1, ownOr, isOwn, tCmp, tVal, tru, truD, tNot, tAnd, tOr, tYes', eAnd, eOr, eNot, eIf, eNeg, gN, gT, gsCons, gsNil, sSetIx, ownLst, ckL, mAppend_eq, eFld, lkF, oSome, oNo, gII, gIIc, dAdd, dSub, dMul, dDiv, dMod, dPow, dLt, dLe, dGt, dGe, gTT, gLL, gSS, gLen, gInt, gMax2, gMin2, gList, gTuple, gIsi, tyNm, dIx, dSl, items_l, items_t, noOwn, wipeS, backS, M.fail, post, mkFn, List.getElem?_cons_zero, List.getElem?_cons_succ, List.getElem?_nil, List.set_cons_zero, List.set_cons_succ, List.getD_cons_zero, List.getD_cons_succ, List.cons_append, List.nil_append, List.append_nil, List.length_cons, List.length_nil, List.replicate, List.tail_cons, List.tail_nil, List.any_cons, List.any_nil, List.all_cons, List.all_nil, List.map_cons, List.map_nil, Option.map_some, Option.map_none, Option.bind_some, Option.bind_none, Option.some_or, Option.none_or, Bool.not_true, Bool.not_false, Bool.and_true, Bool.true_and, Bool.and_false, Bool.false_and, Bool.or_true, Bool.or_false, Bool.true_or, Bool.false_or, Bool.false_eq_true, if_true, if_false, reduceIte, Nat.reduceAdd, Nat.reduceSub, Nat.reduceEqDiff, Nat.reduceBEq, Nat.reduceLT, decide_true, decide_false]) (by simp only [sSeq, sSet, setV, sRet, retV, sRetN, sIf, sExpr, sNil, sPass, sBreak, sCont, sFor, thenS, bind_eq, pure_eq, eVar, eC, mBin, peek, Dl.settle, ofO, toV, toVs, peeks, aCons, aNil, aStar, eB, eIx, eSl, eTup, eLst, eLc_eq, eLc2_eq, bindF, iSeq, iRng1, iRng2, iZip, eCall, callM, prep, ssOf, ssOfs, dist, isAli, noAli, scaR, scaD, back, back1, ownOr, isOwn, tCmp, tVal, tru, truD, tNot, tAnd, tOr, tYes', eAnd, eOr, eNot, eIf, eNeg, gN, gT, gsCons, gsNil, sSetIx, ownLst, ckL, mAppend_eq, eFld, lkF, oSome, oNo, gII, gIIc, dAdd, dSub, dMul, dDiv, dMod, dPow, dLt, dLe, dGt, dGe, gTT, gLL, gSS, gLen, gInt, gMax2, gMin2, gList, gTuple, gIsi, tyNm, dIx, dSl, items_l, items_t, noOwn, wipeS, backS, M.fail, post, mkFn, List.getElem?_cons_zero, List.getElem?_cons_succ, List.getElem?_nil, List.set_cons_zero, List.set_cons_succ, List.getD_cons_zero, List.getD_cons_succ, List.cons_append, List.nil_append, List.append_nil, List.length_cons, List.length_nil, List.replicate, List.tail_cons, List.tail_nil, List.any_cons, List.any_nil, List.all_cons, List.all_nil, List.map_cons, List.map_nil, Option.map_some, Option.map_none, Option.bind_some, Option.bind_none, Option.some_or, Option.none_or, Bool.not_true, Bool.not_false, Bool.and_true, Bool.true_and, Bool.and_false, Bool.false_and, Bool.or_true, Bool.or_false, Bool.true_or, Bool.false_or, Bool.false_eq_true, if_true, if_false, reduceIte, Nat.reduceAdd, Nat.reduceSub, Nat.reduceEqDiff, Nat.reduceBEq, Nat.reduceLT, decide_true, decide_false]) ?_
  · rw [filter_true, List.map_id] at h
    exact h
  · intro e he
    obtain ⟨n, _, rfl⟩ := List.mem_map.mp he
    refine ⟨[.val d, s1, .no, .val (.int n)], [.val d, s1, .no, .val (.int n)], ?_, rfl, fun _ => ⟨[.val d, s1, .no, .val (.int n)], ?_, ?_⟩, fun h => nomatch h⟩
    · simp only [sSeq, sSet, setV, sRet, retV, sRetN, sIf, sExpr, sNil, sPass, sBreak, sCont, sFor, thenS, bind_eq, pure_eq, eVar, eC, mBin, peek, Dl.settle, ofO, toV, toVs, peeks, aCons, aNil, aStar, eB, eIx, eSl, eTup, eLst, eLc_eq, eLc2_eq, bindF, iSeq, iRng1, iRng2, iZip, eCall, callM, prep, ssOf, ssOfs, dist, isAli, noAli, scaR, scaD, back, back1, ownOr, isOwn, tCmp, tVal, tru, truD, tNot, tAnd, tOr, tYes', eAnd, eOr, eNot, eIf, eNeg, gN, gT, gsCons, gsNil, sSetIx, ownLst, ckL, mAppend_eq, eFld, lkF, oSome, oNo, gII, gIIc, dAdd, dSub, dMul, dDiv, dMod, dPow, dLt, dLe, dGt, dGe, gTT, gLL, gSS, gLen, gInt, gMax2, gMin2, gList, gTuple, gIsi, tyNm, dIx, dSl, items_l, items_t, noOwn, wipeS, backS, M.fail, post, mkFn, List.getElem?_cons_zero, List.getElem?_cons_succ, List.getElem?_nil, List.set_cons_zero, List.set_cons_succ, List.getD_cons_zero, List.getD_cons_succ, List.cons_append, List.nil_append, List.append_nil, List.length_cons, List.length_nil, List.replicate, List.tail_cons, List.tail_nil, List.any_cons, List.any_nil, List.all_cons, List.all_nil, List.map_cons, List.map_nil, Option.map_some, Option.map_none, Option.bind_some, Option.bind_none, Option.some_or, Option.none_or, Bool.not_true, Bool.not_false, Bool.and_true, Bool.true_and, Bool.and_false, Bool.false_and, Bool.or_true, Bool.or_false, Bool.true_or, Bool.false_or, Bool.false_eq_true, if_true, if_false, reduceIte, Nat.reduceAdd, Nat.reduceSub, Nat.reduceEqDiff, Nat.reduceBEq, Nat.reduceLT, decide_true, decide_false]
    · simp only [id, sSeq, sSet, setV, sRet, retV, sRetN, sIf, sExpr, sNil, sPass, sBreak, sCont, sFor, thenS, bind_eq, pure_eq, eVar, eC, mBin, peek, Dl.settle, ofO, toV, toVs, peeks, aCons, aNil, aStar, eB, eIx, eSl, eTup, eLst, eLc_eq, eLc2_eq, bindF, iSeq, iRng1, iRng2, iZip, eCall, callM, prep, ssOf, ssOfs, dist, isAli, noAli, scaR, scaD, back, back1, ownOr, isOwn, tCmp, tVal, tru, truD, tNot, tAnd, tOr, tYes', eAnd, eOr, eNot, eIf, eNeg, gN, gT, gsCons, gsNil, sSetIx, ownLst, ckL, mAppend_eq, eFld, lkF, oSome, oNo, gII, gIIc, dAdd, dSub, dMul, dDiv, dMod, dPow, dLt, dLe, dGt, dGe, gTT, gLL, gSS, gLen, gInt, gMax2, gMin2, gList, gTuple, gIsi, tyNm, dIx, dSl, items_l, items_t, noOwn, wipeS, backS, M.fail, post, mkFn, List.getElem?_cons_zero, List.getElem?_cons_succ, List.getElem?_nil, List.set_cons_zero, List.set_cons_succ, List.getD_cons_zero, List.getD_cons_succ, List.cons_append, List.nil_append, List.append_nil, List.length_cons, List.length_nil, List.replicate, List.tail_cons, List.tail_nil, List.any_cons, List.any_nil, List.all_cons, List.all_nil, List.map_cons, List.map_nil, Option.map_some, Option.map_none, Option.bind_some, Option.bind_none, Option.some_or, Option.none_or, Bool.not_true, Bool.not_false, Bool.and_true, Bool.true_and, Bool.and_false, Bool.false_and, Bool.or_true, Bool.or_false, Bool.true_or, Bool.false_or, Bool.false_eq_true, if_true, if_false, reduceIte, Nat.reduceAdd, Nat.reduceSub, Nat.reduceEqDiff, Nat.reduceBEq, Nat.reduceLT, decide_true, decide_false]
    · simp only [sSeq, sSet, setV, sRet, retV, sRetN, sIf, sExpr, sNil, sPass, sBreak, sCont, sFor, thenS, bind_eq, pure_eq, eVar, eC, mBin, peek, Dl.settle, ofO, toV, toVs, peeks, aCons, aNil, aStar, eB, eIx, eSl, eTup, eLst, eLc_eq, eLc2_eq, bindF, iSeq, iRng1, iRng2, iZip, eCall, callM, prep, ssOf, ssOfs, dist, isAli, noAli, scaR, scaD, back, back1, ownOr, isOwn, tCmp, tVal, tru, truD, tNot, tAnd, tOr, tYes', eAnd, eOr, eNot, eIf, eNeg, gN, gT, gsCons, gsNil, sSetIx, ownLst, ckL, mAppend_eq, eFld, lkF, oSome, oNo, gII, gIIc, dAdd, dSub, dMul, dDiv, dMod, dPow, dLt, dLe, dGt, dGe, gTT, gLL, gSS, gLen, gInt, gMax2, gMin2, gList, gTuple, gIsi, tyNm, dIx, dSl, items_l, items_t, noOwn, wipeS, backS, M.fail, post, mkFn, List.getElem?_cons_zero, List.getElem?_cons_succ, List.getElem?_nil, List.set_cons_zero, List.set_cons_succ, List.getD_cons_zero, List.getD_cons_succ, List.cons_append, List.nil_append, List.append_nil, List.length_cons, List.length_nil, List.replicate, List.tail_cons, List.tail_nil, List.any_cons, List.any_nil, List.all_cons, List.all_nil, List.map_cons, List.map_nil, Option.map_some, Option.map_none, Option.bind_some, Option.bind_none, Option.some_or, Option.none_or, Bool.not_true, Bool.not_false, Bool.and_true, Bool.true_and, Bool.and_false, Bool.false_and, Bool.or_true, Bool.or_false, Bool.true_or, Bool.false_or, Bool.false_eq_true, if_true, if_false, reduceIte, Nat.reduceAdd, Nat.reduceSub, Nat.reduceEqDiff, Nat.reduceBEq, Nat.reduceLT, decide_true, decide_false]
theorem le_clean : Fn.le fn_clean (mkFn 1 4 f__law_clean) := by
  intro ss o h
  unfold fn_clean at h
  split at h
  · rename_i d
    split at h
    · rename_i ns hn
      by_cases hl : ns.length ≤ sizeLine
      · rw [if_pos hl] at h
        cases h
        have hi := seqI_inv hn
        have e0 : (0 : Nat) ≤ sizeLine := Nat.zero_le _
        obtain ⟨s', hs⟩ := cln_loop (d := d) (sortI ns) [] .no (by rw [List.length_nil, Nat.zero_add, (sortI_perm ns).length_eq]; exact hl)
        rw [List.map_nil] at hs
        have lc := c_cln (s1 := .own (.lst [])) hi
        simp only [f__law_clean, e0, lc, gSorted_i, hs, sSeq, sSet, setV, sRet, retV, sRetN, sIf, sExpr, sNil, sPass, sBreak, sCont, sFor, thenS, bind_eq, pure_eq, eVar, eC, mBin, peek, Dl.settle, ofO, toV, toVs, peeks, aCons, aNil, aStar, eB, eIx, eSl, eTup, eLst, eLc_eq, eLc2_eq, bindF, iSeq, iRng1, iRng2, iZip, eCall, callM, prep, ssOf, ssOfs, dist, isAli, noAli, scaR, scaD, back, back1, ownOr, isOwn, tCmp, tVal, tru, truD, tNot, tAnd, tOr, tYes', eAnd, eOr, eNot, eIf, eNeg, gN, gT, gsCons, gsNil, sSetIx, ownLst, ckL, mAppend_eq, eFld, lkF, oSome, oNo, gII, gIIc, dAdd, dSub, dMul, dDiv, dMod, dPow, dLt, dLe, dGt, dGe, gTT, gLL, gSS, gLen, gInt, gMax2, gMin2, gList, gTuple, gIsi, tyNm, dIx, dSl, items_l, items_t, noOwn, wipeS, backS, M.fail, post, mkFn, List.getElem?_cons_zero, List.getElem?_cons_succ, List.getElem?_nil, List.set_cons_zero, List.set_cons_succ, List.getD_cons_zero, List.getD_cons_succ, List.cons_append, List.nil_append, List.append_nil, List.length_cons, List.length_nil, List.replicate, List.tail_cons, List.tail_nil, List.any_cons, List.any_nil, List.all_cons, List.all_nil, List.map_cons, List.map_nil, Option.map_some, Option.map_none, Option.bind_some, Option.bind_none, Option.some_or, Option.none_or, Bool.not_true, Bool.not_false, Bool.and_true, Bool.true_and, Bool.and_false, Bool.false_and, Bool.or_true, Bool.or_false, Bool.true_or, Bool.false_or, Bool.false_eq_true, if_true, if_false, reduceIte, Nat.reduceAdd, Nat.reduceSub, Nat.reduceEqDiff, Nat.reduceBEq, Nat.reduceLT, decide_true, decide_false]
        rfl
      · rw [if_neg hl] at h; cases h
    · cases h
  · cases h
/-! ### within -/
def rowD : D → Option (List Int)
  | .tup ds => asInts ds
  | _ => none
def rowsD : List D → Option (List (List Int))
  | [] => some []
  | d :: ds => match rowD d, rowsD ds with
    | some s, some ss => some (s :: ss)
    | _, _ => none
theorem rowD_t (s : List Int) : rowD (.tup (s.map .int)) = some s := asInts_map s
theorem rowD_eq {d : D} {s : List Int} (h : rowD d = some s) : d = .tup (s.map .int) := by
  cases d <;> first | (cases h; done) | rw [asInts_eq h]
theorem rowsD_t : ∀ ss : List (List Int), rowsD (rws ss) = some ss
  | [] => rfl
  | s :: ss => by
    show rowsD (.tup (s.map .int) :: rws ss) = _
    unfold rowsD
    rw [rowD_t, rowsD_t ss]
theorem rowsD_eq : ∀ {ds : List D} {ss : List (List Int)}, rowsD ds = some ss → ds = rws ss
  | [], ss, h => by cases h; rfl
  | d :: ds, ss, h => by
    unfold rowsD at h
    cases h1 : rowD d with
    | none => rw [h1] at h; cases h
    | some s =>
      cases h2 : rowsD ds with
      | none => rw [h1, h2] at h; cases h
      | some r => rw [h1, h2] at h; cases h; rw [rowD_eq h1, rowsD_eq h2]; rfl
def fn_within : Fn
  | [.val (.lst ds1), .val (.lst ds2)] => match seqs ds1, rowsD ds2 with
    | some one, some rows => if one.length ≤ 8 ∧ vol one ≤ 2 ^ 20 then some (.ret (.val (.bl (decide (∀ r ∈ combos one, r ∈ rows)))) [.val (.lst ds1), .val (.lst ds2)]) else none
    | _, _ => none
  | _ => none
theorem filt0 {l rows : List (List Int)} : ((((rws l).filter fun d => match rowD d with | some r => !decide (r ∈ rows) | none => false).length : Int) == 0) = decide (∀ r ∈ l, r ∈ rows) := by
  rw [Bool.eq_iff_iff, beq_iff_eq, decide_eq_true_eq]
  have e : ∀ {n : Nat}, (n : Int) = 0 ↔ n = 0 := by intro n; omega
  rw [e, List.length_eq_zero_iff, List.filter_eq_nil_iff]
  constructor
  · intro h r hr
    have := h _ (List.mem_map.mpr ⟨r, hr, rfl⟩)
    rw [rowD_t] at this
    simpa using this
  · intro h d hd
    obtain ⟨r, hr, rfl⟩ := List.mem_map.mp hd
    rw [rowD_t]
    simpa using h r hr
theorem le_within : Fn.le fn_within (mkFn 2 3 (f__law_within (fn_combos 8))) := by
  intro ss o h
  unfold fn_within at h
  split at h
  · rename_i ds1 ds2
    split at h
    · rename_i one rows h1 h2
      by_cases hl : one.length ≤ 8 ∧ vol one ≤ 2 ^ 20
      · rw [if_pos hl] at h
        cases h
        cases rowsD_eq h2
        have e1 : fn_combos 8 [.val (.lst ds1)] = some (.ret (.own (.lst (rws (combos one)))) [.val (.lst ds1)]) := by
          simp only [fn_combos, h1]
          exact if_pos ⟨hl.1, hl.2, by omega⟩
        have hc : c__law_within_1 (fn_combos 8) [.val (.lst ds1), .val (.lst (rws rows)), .no] = some (.ok (.own (.lst ((rws (combos one)).filter fun d => match rowD d with | some r => !decide (r ∈ rows) | none => false))) [.val (.lst ds1), .val (.lst (rws rows)), .no]) := by
          have q := eLc_pure (it := iSeq (eCall [false] (fn_combos 8) (aCons (eVar 0) aNil))) (tg := gN 2) (tt := tCmp (eNotIn (eVar 2) (eVar 1))) (te := eVar 2) (vs := [2]) (ρ := [.val (.lst ds1), .val (.lst (rws rows)), .no]) (ρ' := [.val (.lst ds1), .val (.lst (rws rows)), .no]) (ds := rws (combos one)) (fun d => match rowD d with | some r => !decide (r ∈ rows) | none => false) id (by simp only [e1, sSeq, sSet, setV, sRet, retV, sRetN, sIf, sExpr, sNil, sPass, sBreak, sCont, sFor, thenS, bind_eq, pure_eq, eVar, eC, mBin, peek, Dl.settle, ofO, toV, toVs, peeks, aCons, aNil, aStar, eB, eIx, eSl, eTup, eLst, eLc_eq, eLc2_eq, bindF, iSeq, iRng1, iRng2, iZip, eCall, callM, prep, ssOf, ssOfs, dist, isAli, noAli, scaR, scaD, back, back1, ownOr, isOwn, tCmp, tVal, tru, truD, tNot, tAnd, tOr, tYes', eAnd, eOr, eNot, eIf, eNeg, gN, gT, gsCons, gsNil, sSetIx, ownLst, ckL, mAppend_eq, eFld, lkF, oSome, oNo, gII, gIIc, dAdd, dSub, dMul, dDiv, dMod, dPow, dLt, dLe, dGt, dGe, gTT, gLL, gSS, gLen, gInt, gMax2, gMin2, gList, gTuple, gIsi, tyNm, dIx, dSl, items_l, items_t, noOwn, wipeS, backS, M.fail, post, mkFn, List.getElem?_cons_zero, List.getElem?_cons_succ, List.getElem?_nil, List.set_cons_zero, List.set_cons_succ, List.getD_cons_zero, List.getD_cons_succ, List.cons_append, List.nil_append, List.append_nil, List.length_cons, List.length_nil, List.replicate, List.tail_cons, List.tail_nil, List.any_cons, List.any_nil, List.all_cons, List.all_nil, List.map_cons, List.map_nil, Option.map_some, Option.map_none, Option.bind_some, Option.bind_none, Option.some_or, Option.none_or, Bool.not_true, Bool.not_false, Bool.and_true, Bool.true_and, Bool.and_false, Bool.false_and, Bool.or_true, Bool.or_false, Bool.true_or, Bool.false_or, Bool.false_eq_true, if_true, if_false, reduceIte, Nat.reduceAdd, Nat.reduceSub, Nat.reduceEqDiff, Nat.reduceBEq, Nat.reduceLT, decide_true, decide_false]) (by simp only [sSeq, sSet, setV, sRet, retV, sRetN, sIf, sExpr, sNil, sPass, sBreak, sCont, sFor, thenS, bind_eq, pure_eq, eVar, eC, mBin, peek, Dl.settle, ofO, toV, toVs, peeks, aCons, aNil, aStar, eB, eIx, eSl, eTup, eLst, eLc_eq, eLc2_eq, bindF, iSeq, iRng1, iRng2, iZip, eCall, callM, prep, ssOf, ssOfs, dist, isAli, noAli, scaR, scaD, back, back1, ownOr, isOwn, tCmp, tVal, tru, truD, tNot, tAnd, tOr, tYes', eAnd, eOr, eNot, eIf, eNeg, gN, gT, gsCons, gsNil, sSetIx, ownLst, ckL, mAppend_eq, eFld, lkF, oSome, oNo, gII, gIIc, dAdd, dSub, dMul, dDiv, dMod, dPow, dLt, dLe, dGt, dGe, gTT, gLL, gSS, gLen, gInt, gMax2, gMin2, gList, gTuple, gIsi, tyNm, dIx, dSl, items_l, items_t, noOwn, wipeS, backS, M.fail, post, mkFn, List.getElem?_cons_zero, List.getElem?_cons_succ, List.getElem?_nil, List.set_cons_zero, List.set_cons_succ, List.getD_cons_zero, List.getD_cons_succ, List.cons_append, List.nil_append, List.append_nil, List.length_cons, List.length_nil, List.replicate, List.tail_cons, List.tail_nil, List.any_cons, List.any_nil, List.all_cons, List.all_nil, List.map_cons, List.map_nil, Option.map_some, Option.map_none, Option.bind_some, Option.bind_none, Option.some_or, Option.none_or, Bool.not_true, Bool.not_false, Bool.and_true, Bool.true_and, Bool.and_false, Bool.false_and, Bool.or_true, Bool.or_false, Bool.true_or, Bool.false_or, Bool.false_eq_true, if_true, if_false, reduceIte, Nat.reduceAdd, Nat.reduceSub, Nat.reduceEqDiff, Nat.reduceBEq, Nat.reduceLT, decide_true, decide_false]) ?_
          · rw [List.map_id] at q
            exact q
          · intro d hd
            obtain ⟨r, hr, rfl⟩ := List.mem_map.mp hd
            rw [rowD_t]
            refine ⟨[.val (.lst ds1), .val (.lst (rws rows)), .val (.tup (r.map .int))], [.val (.lst ds1), .val (.lst (rws rows)), .val (.tup (r.map .int))], by simp only [sSeq, sSet, setV, sRet, retV, sRetN, sIf, sExpr, sNil, sPass, sBreak, sCont, sFor, thenS, bind_eq, pure_eq, eVar, eC, mBin, peek, Dl.settle, ofO, toV, toVs, peeks, aCons, aNil, aStar, eB, eIx, eSl, eTup, eLst, eLc_eq, eLc2_eq, bindF, iSeq, iRng1, iRng2, iZip, eCall, callM, prep, ssOf, ssOfs, dist, isAli, noAli, scaR, scaD, back, back1, ownOr, isOwn, tCmp, tVal, tru, truD, tNot, tAnd, tOr, tYes', eAnd, eOr, eNot, eIf, eNeg, gN, gT, gsCons, gsNil, sSetIx, ownLst, ckL, mAppend_eq, eFld, lkF, oSome, oNo, gII, gIIc, dAdd, dSub, dMul, dDiv, dMod, dPow, dLt, dLe, dGt, dGe, gTT, gLL, gSS, gLen, gInt, gMax2, gMin2, gList, gTuple, gIsi, tyNm, dIx, dSl, items_l, items_t, noOwn, wipeS, backS, M.fail, post, mkFn, List.getElem?_cons_zero, List.getElem?_cons_succ, List.getElem?_nil, List.set_cons_zero, List.set_cons_succ, List.getD_cons_zero, List.getD_cons_succ, List.cons_append, List.nil_append, List.append_nil, List.length_cons, List.length_nil, List.replicate, List.tail_cons, List.tail_nil, List.any_cons, List.any_nil, List.all_cons, List.all_nil, List.map_cons, List.map_nil, Option.map_some, Option.map_none, Option.bind_some, Option.bind_none, Option.some_or, Option.none_or, Bool.not_true, Bool.not_false, Bool.and_true, Bool.true_and, Bool.and_false, Bool.false_and, Bool.or_true, Bool.or_false, Bool.true_or, Bool.false_or, Bool.false_eq_true, if_true, if_false, reduceIte, Nat.reduceAdd, Nat.reduceSub, Nat.reduceEqDiff, Nat.reduceBEq, Nat.reduceLT, decide_true, decide_false], by simp only [dNotIn_rw, sSeq, sSet, setV, sRet, retV, sRetN, sIf, sExpr, sNil, sPass, sBreak, sCont, sFor, thenS, bind_eq, pure_eq, eVar, eC, mBin, peek, Dl.settle, ofO, toV, toVs, peeks, aCons, aNil, aStar, eB, eIx, eSl, eTup, eLst, eLc_eq, eLc2_eq, bindF, iSeq, iRng1, iRng2, iZip, eCall, callM, prep, ssOf, ssOfs, dist, isAli, noAli, scaR, scaD, back, back1, ownOr, isOwn, tCmp, tVal, tru, truD, tNot, tAnd, tOr, tYes', eAnd, eOr, eNot, eIf, eNeg, gN, gT, gsCons, gsNil, sSetIx, ownLst, ckL, mAppend_eq, eFld, lkF, oSome, oNo, gII, gIIc, dAdd, dSub, dMul, dDiv, dMod, dPow, dLt, dLe, dGt, dGe, gTT, gLL, gSS, gLen, gInt, gMax2, gMin2, gList, gTuple, gIsi, tyNm, dIx, dSl, items_l, items_t, noOwn, wipeS, backS, M.fail, post, mkFn, List.getElem?_cons_zero, List.getElem?_cons_succ, List.getElem?_nil, List.set_cons_zero, List.set_cons_succ, List.getD_cons_zero, List.getD_cons_succ, List.cons_append, List.nil_append, List.append_nil, List.length_cons, List.length_nil, List.replicate, List.tail_cons, List.tail_nil, List.any_cons, List.any_nil, List.all_cons, List.all_nil, List.map_cons, List.map_nil, Option.map_some, Option.map_none, Option.bind_some, Option.bind_none, Option.some_or, Option.none_or, Bool.not_true, Bool.not_false, Bool.and_true, Bool.true_and, Bool.and_false, Bool.false_and, Bool.or_true, Bool.or_false, Bool.true_or, Bool.false_or, Bool.false_eq_true, if_true, if_false, reduceIte, Nat.reduceAdd, Nat.reduceSub, Nat.reduceEqDiff, Nat.reduceBEq, Nat.reduceLT, decide_true, decide_false], fun _ => ⟨[.val (.lst ds1), .val (.lst (rws rows)), .val (.tup (r.map .int))], by simp only [id, sSeq, sSet, setV, sRet, retV, sRetN, sIf, sExpr, sNil, sPass, sBreak, sCont, sFor, thenS, bind_eq, pure_eq, eVar, eC, mBin, peek, Dl.settle, ofO, toV, toVs, peeks, aCons, aNil, aStar, eB, eIx, eSl, eTup, eLst, eLc_eq, eLc2_eq, bindF, iSeq, iRng1, iRng2, iZip, eCall, callM, prep, ssOf, ssOfs, dist, isAli, noAli, scaR, scaD, back, back1, ownOr, isOwn, tCmp, tVal, tru, truD, tNot, tAnd, tOr, tYes', eAnd, eOr, eNot, eIf, eNeg, gN, gT, gsCons, gsNil, sSetIx, ownLst, ckL, mAppend_eq, eFld, lkF, oSome, oNo, gII, gIIc, dAdd, dSub, dMul, dDiv, dMod, dPow, dLt, dLe, dGt, dGe, gTT, gLL, gSS, gLen, gInt, gMax2, gMin2, gList, gTuple, gIsi, tyNm, dIx, dSl, items_l, items_t, noOwn, wipeS, backS, M.fail, post, mkFn, List.getElem?_cons_zero, List.getElem?_cons_succ, List.getElem?_nil, List.set_cons_zero, List.set_cons_succ, List.getD_cons_zero, List.getD_cons_succ, List.cons_append, List.nil_append, List.append_nil, List.length_cons, List.length_nil, List.replicate, List.tail_cons, List.tail_nil, List.any_cons, List.any_nil, List.all_cons, List.all_nil, List.map_cons, List.map_nil, Option.map_some, Option.map_none, Option.bind_some, Option.bind_none, Option.some_or, Option.none_or, Bool.not_true, Bool.not_false, Bool.and_true, Bool.true_and, Bool.and_false, Bool.false_and, Bool.or_true, Bool.or_false, Bool.true_or, Bool.false_or, Bool.false_eq_true, if_true, if_false, reduceIte, Nat.reduceAdd, Nat.reduceSub, Nat.reduceEqDiff, Nat.reduceBEq, Nat.reduceLT, decide_true, decide_false], by simp only [sSeq, sSet, setV, sRet, retV, sRetN, sIf, sExpr, sNil, sPass, sBreak, sCont, sFor, thenS, bind_eq, pure_eq, eVar, eC, mBin, peek, Dl.settle, ofO, toV, toVs, peeks, aCons, aNil, aStar, eB, eIx, eSl, eTup, eLst, eLc_eq, eLc2_eq, bindF, iSeq, iRng1, iRng2, iZip, eCall, callM, prep, ssOf, ssOfs, dist, isAli, noAli, scaR, scaD, back, back1, ownOr, isOwn, tCmp, tVal, tru, truD, tNot, tAnd, tOr, tYes', eAnd, eOr, eNot, eIf, eNeg, gN, gT, gsCons, gsNil, sSetIx, ownLst, ckL, mAppend_eq, eFld, lkF, oSome, oNo, gII, gIIc, dAdd, dSub, dMul, dDiv, dMod, dPow, dLt, dLe, dGt, dGe, gTT, gLL, gSS, gLen, gInt, gMax2, gMin2, gList, gTuple, gIsi, tyNm, dIx, dSl, items_l, items_t, noOwn, wipeS, backS, M.fail, post, mkFn, List.getElem?_cons_zero, List.getElem?_cons_succ, List.getElem?_nil, List.set_cons_zero, List.set_cons_succ, List.getD_cons_zero, List.getD_cons_succ, List.cons_append, List.nil_append, List.append_nil, List.length_cons, List.length_nil, List.replicate, List.tail_cons, List.tail_nil, List.any_cons, List.any_nil, List.all_cons, List.all_nil, List.map_cons, List.map_nil, Option.map_some, Option.map_none, Option.bind_some, Option.bind_none, Option.some_or, Option.none_or, Bool.not_true, Bool.not_false, Bool.and_true, Bool.true_and, Bool.and_false, Bool.false_and, Bool.or_true, Bool.or_false, Bool.true_or, Bool.false_or, Bool.false_eq_true, if_true, if_false, reduceIte, Nat.reduceAdd, Nat.reduceSub, Nat.reduceEqDiff, Nat.reduceBEq, Nat.reduceLT, decide_true, decide_false]⟩, fun _ => by simp only [sSeq, sSet, setV, sRet, retV, sRetN, sIf, sExpr, sNil, sPass, sBreak, sCont, sFor, thenS, bind_eq, pure_eq, eVar, eC, mBin, peek, Dl.settle, ofO, toV, toVs, peeks, aCons, aNil, aStar, eB, eIx, eSl, eTup, eLst, eLc_eq, eLc2_eq, bindF, iSeq, iRng1, iRng2, iZip, eCall, callM, prep, ssOf, ssOfs, dist, isAli, noAli, scaR, scaD, back, back1, ownOr, isOwn, tCmp, tVal, tru, truD, tNot, tAnd, tOr, tYes', eAnd, eOr, eNot, eIf, eNeg, gN, gT, gsCons, gsNil, sSetIx, ownLst, ckL, mAppend_eq, eFld, lkF, oSome, oNo, gII, gIIc, dAdd, dSub, dMul, dDiv, dMod, dPow, dLt, dLe, dGt, dGe, gTT, gLL, gSS, gLen, gInt, gMax2, gMin2, gList, gTuple, gIsi, tyNm, dIx, dSl, items_l, items_t, noOwn, wipeS, backS, M.fail, post, mkFn, List.getElem?_cons_zero, List.getElem?_cons_succ, List.getElem?_nil, List.set_cons_zero, List.set_cons_succ, List.getD_cons_zero, List.getD_cons_succ, List.cons_append, List.nil_append, List.append_nil, List.length_cons, List.length_nil, List.replicate, List.tail_cons, List.tail_nil, List.any_cons, List.any_nil, List.all_cons, List.all_nil, List.map_cons, List.map_nil, Option.map_some, Option.map_none, Option.bind_some, Option.bind_none, Option.some_or, Option.none_or, Bool.not_true, Bool.not_false, Bool.and_true, Bool.true_and, Bool.and_false, Bool.false_and, Bool.or_true, Bool.or_false, Bool.true_or, Bool.false_or, Bool.false_eq_true, if_true, if_false, reduceIte, Nat.reduceAdd, Nat.reduceSub, Nat.reduceEqDiff, Nat.reduceBEq, Nat.reduceLT, decide_true, decide_false]⟩
        simp only [f__law_within, hc, dEq_ii, filt0, sSeq, sSet, setV, sRet, retV, sRetN, sIf, sExpr, sNil, sPass, sBreak, sCont, sFor, thenS, bind_eq, pure_eq, eVar, eC, mBin, peek, Dl.settle, ofO, toV, toVs, peeks, aCons, aNil, aStar, eB, eIx, eSl, eTup, eLst, eLc_eq, eLc2_eq, bindF, iSeq, iRng1, iRng2, iZip, eCall, callM, prep, ssOf, ssOfs, dist, isAli, noAli, scaR, scaD, back, back1, ownOr, isOwn, tCmp, tVal, tru, truD, tNot, tAnd, tOr, tYes', eAnd, eOr, eNot, eIf, eNeg, gN, gT, gsCons, gsNil, sSetIx, ownLst, ckL, mAppend_eq, eFld, lkF, oSome, oNo, gII, gIIc, dAdd, dSub, dMul, dDiv, dMod, dPow, dLt, dLe, dGt, dGe, gTT, gLL, gSS, gLen, gInt, gMax2, gMin2, gList, gTuple, gIsi, tyNm, dIx, dSl, items_l, items_t, noOwn, wipeS, backS, M.fail, post, mkFn, List.getElem?_cons_zero, List.getElem?_cons_succ, List.getElem?_nil, List.set_cons_zero, List.set_cons_succ, List.getD_cons_zero, List.getD_cons_succ, List.cons_append, List.nil_append, List.append_nil, List.length_cons, List.length_nil, List.replicate, List.tail_cons, List.tail_nil, List.any_cons, List.any_nil, List.all_cons, List.all_nil, List.map_cons, List.map_nil, Option.map_some, Option.map_none, Option.bind_some, Option.bind_none, Option.some_or, Option.none_or, Bool.not_true, Bool.not_false, Bool.and_true, Bool.true_and, Bool.and_false, Bool.false_and, Bool.or_true, Bool.or_false, Bool.true_or, Bool.false_or, Bool.false_eq_true, if_true, if_false, reduceIte, Nat.reduceAdd, Nat.reduceSub, Nat.reduceEqDiff, Nat.reduceBEq, Nat.reduceLT, decide_true, decide_false]
      · rw [if_neg hl] at h; cases h
    · cases h
  · cases h
end My

namespace My
open PySem Dl
open L2 (ixN atI)
theorem strs_r : (("sides" : Str) = ("rows" : Str)) = False := eq_false (by decide +kernel)
theorem strr_s : (("rows" : Str) = ("sides" : Str)) = False := eq_false (by decide +kernel)
/-! ### the box -/
abbrev boxD (sides : List (List Int)) : D := .obj "Box" ["sides", "rows"] [.tup (rws sides), .lst (rws (combos sides))]
theorem init1 {d kp sd : S} {o : S} : ∀ (xs : List Int) (s4 : S), (∀ x ∈ xs, 0 ≤ x) → ∃ s4', forL (gN 4) (b_Box_DinitD_1 fn_is_number) (xs.map .int) [o, d, kp, sd, s4] = some (.nx [o, d, kp, sd, s4'])
  | [], s4, _ => ⟨s4, rfl⟩
  | x :: xs, s4, h => by
    obtain ⟨s', ih⟩ := init1 (d := d) (kp := kp) (sd := sd) (o := o) xs (.val (.int x)) fun y hy => h y (List.mem_cons_of_mem _ hy)
    refine ⟨s', ?_⟩
    have e : decide (0 ≤ x) = true := decide_eq_true (h x List.mem_cons_self)
    have st : b_Box_DinitD_1 fn_is_number [o, d, kp, sd, .val (.int x)] = some (.nx [o, d, kp, sd, .val (.int x)]) := by
      simp only [b_Box_DinitD_1, fn_is_number, e, sSeq, sSet, setV, sRet, retV, sRetN, sIf, sExpr, sNil, sPass, sBreak, sCont, sFor, thenS, bind_eq, pure_eq, eVar, eC, mBin, peek, Dl.settle, ofO, toV, toVs, peeks, aCons, aNil, aStar, eB, eIx, eSl, eTup, eLst, eLc_eq, eLc2_eq, bindF, iSeq, iRng1, iRng2, iZip, eCall, callM, prep, ssOf, ssOfs, dist, isAli, noAli, scaR, scaD, back, back1, ownOr, isOwn, tCmp, tVal, tru, truD, tNot, tAnd, tOr, tYes', eAnd, eOr, eNot, eIf, eNeg, gN, gT, gsCons, gsNil, sSetIx, ownLst, ckL, mAppend_eq, eFld, lkF, sSetF, ownObj, putF2, eMake, makeM, eOwn2, ckC, zipD, dZip, strs_r, strr_s, List.zipWith_cons_cons, List.zipWith_nil_left, List.zipWith_nil_right, List.mem_singleton, and_self, true_and, and_true,  oSome, oNo, gII, gIIc, dAdd, dSub, dMul, dDiv, dMod, dPow, dLt, dLe, dGt, dGe, gTT, gLL, gSS, gLen, gInt, gMax2, gMin2, gList, gTuple, gIsi, tyNm, dIx, dSl, items_l, items_t, noOwn, wipeS, backS, M.fail, post, mkFn, List.getElem?_cons_zero, List.getElem?_cons_succ, List.getElem?_nil, List.set_cons_zero, List.set_cons_succ, List.getD_cons_zero, List.getD_cons_succ, List.cons_append, List.nil_append, List.append_nil, List.length_cons, List.length_nil, List.replicate, List.tail_cons, List.tail_nil, List.any_cons, List.any_nil, List.all_cons, List.all_nil, List.map_cons, List.map_nil, Option.map_some, Option.map_none, Option.bind_some, Option.bind_none, Option.some_or, Option.none_or, Bool.not_true, Bool.not_false, Bool.and_true, Bool.true_and, Bool.and_false, Bool.false_and, Bool.or_true, Bool.or_false, Bool.true_or, Bool.false_or, Bool.false_eq_true, if_true, if_false, reduceIte, Nat.reduceAdd, Nat.reduceSub, Nat.reduceEqDiff, Nat.reduceBEq, Nat.reduceLT, decide_true, decide_false]
    rw [List.map_cons, forL_cons rfl st, ih]
theorem init2 {d o : S} : ∀ (sds : List D) (sides kept : List (List Int)) (s3 s4 : S), seqs sds = some sides → (∀ s ∈ sides, (∀ x ∈ s, 0 ≤ x) ∧ s.length ≤ 2 ^ 20) → kept.length + sides.length ≤ 2 ^ 20 →
    ∃ s3' s4', forL (gN 3) (b_Box_DinitD_2 fn_is_number fn_ascending) sds [o, d, .own (.lst (rws kept)), s3, s4] = some (.nx [o, d, .own (.lst (rws (kept ++ sides.map asc))), s3', s4'])
  | [], sides, kept, s3, s4, h, _, _ => by cases h; exact ⟨s3, s4, by rw [List.map_nil, List.append_nil]; rfl⟩
  | sd :: sds, sides, kept, s3, s4, h, hs, hk => by
    obtain ⟨s, r, rfl, h1, h2⟩ := seqs_cons h
    rw [List.length_cons] at hk
    obtain ⟨p1, p2⟩ := hs s List.mem_cons_self
    obtain ⟨t4, e1⟩ := init1 (d := d) (kp := .own (.lst (rws kept))) (sd := .val sd) (o := o) s s4 p1
    obtain ⟨u3, u4, ih⟩ := init2 (d := d) (o := o) sds r (kept ++ [asc s]) (.val sd) t4 h2 (fun q hq => hs q (List.mem_cons_of_mem _ hq)) (by rw [List.length_append, List.length_singleton]; omega)
    refine ⟨u3, u4, ?_⟩
    have sz := sz20
    have e2 : fn_ascending [.val sd] = some (.ret (.val (.tup ((asc s).map .int))) [.val sd]) := by
      have : seqI sd = some s := by unfold seqI; rw [h1]; exact asInts_map s
      simp only [fn_ascending, this]
      exact if_pos (by omega)
    have e3 : (rws kept).length < sizeLine := by unfold rws; rw [List.length_map]; omega
    have e4 : rws kept ++ [.tup ((asc s).map .int)] = rws (kept ++ [asc s]) := by simp [rws]
    have st : b_Box_DinitD_2 fn_is_number fn_ascending [o, d, .own (.lst (rws kept)), .val sd, s4] = some (.nx [o, d, .own (.lst (rws (kept ++ [asc s]))), .val sd, t4]) := by
      simp only [b_Box_DinitD_2, h1, e1, e2, e3, e4, sSeq, sSet, setV, sRet, retV, sRetN, sIf, sExpr, sNil, sPass, sBreak, sCont, sFor, thenS, bind_eq, pure_eq, eVar, eC, mBin, peek, Dl.settle, ofO, toV, toVs, peeks, aCons, aNil, aStar, eB, eIx, eSl, eTup, eLst, eLc_eq, eLc2_eq, bindF, iSeq, iRng1, iRng2, iZip, eCall, callM, prep, ssOf, ssOfs, dist, isAli, noAli, scaR, scaD, back, back1, ownOr, isOwn, tCmp, tVal, tru, truD, tNot, tAnd, tOr, tYes', eAnd, eOr, eNot, eIf, eNeg, gN, gT, gsCons, gsNil, sSetIx, ownLst, ckL, mAppend_eq, eFld, lkF, sSetF, ownObj, putF2, eMake, makeM, eOwn2, ckC, zipD, dZip, strs_r, strr_s, List.zipWith_cons_cons, List.zipWith_nil_left, List.zipWith_nil_right, List.mem_singleton, and_self, true_and, and_true,  oSome, oNo, gII, gIIc, dAdd, dSub, dMul, dDiv, dMod, dPow, dLt, dLe, dGt, dGe, gTT, gLL, gSS, gLen, gInt, gMax2, gMin2, gList, gTuple, gIsi, tyNm, dIx, dSl, items_l, items_t, noOwn, wipeS, backS, M.fail, post, mkFn, List.getElem?_cons_zero, List.getElem?_cons_succ, List.getElem?_nil, List.set_cons_zero, List.set_cons_succ, List.getD_cons_zero, List.getD_cons_succ, List.cons_append, List.nil_append, List.append_nil, List.length_cons, List.length_nil, List.replicate, List.tail_cons, List.tail_nil, List.any_cons, List.any_nil, List.all_cons, List.all_nil, List.map_cons, List.map_nil, Option.map_some, Option.map_none, Option.bind_some, Option.bind_none, Option.some_or, Option.none_or, Bool.not_true, Bool.not_false, Bool.and_true, Bool.true_and, Bool.and_false, Bool.false_and, Bool.or_true, Bool.or_false, Bool.true_or, Bool.false_or, Bool.false_eq_true, if_true, if_false, reduceIte, Nat.reduceAdd, Nat.reduceSub, Nat.reduceEqDiff, Nat.reduceBEq, Nat.reduceLT, decide_true, decide_false]
    rw [forL_cons rfl st, ih]
    simp
theorem foldl_asc_len : ∀ (xs acc : List Int), (xs.foldl ascS acc).length ≤ acc.length + xs.length
  | [], acc => by simp
  | x :: xs, acc => by
    have h1 := ascS_len acc x
    have h2 := foldl_asc_len xs (ascS acc x)
    rw [List.foldl_cons, List.length_cons]
    omega
theorem asc_len (ns : List Int) : (asc ns).length ≤ ns.length := by
  have h := foldl_asc_len (sortI ns) []
  rw [(sortI_perm ns).length_eq] at h
  simpa [asc] using h
theorem vol_asc : ∀ ss : List (List Int), vol (ss.map asc) ≤ vol ss
  | [] => Nat.le_refl _
  | s :: ss => by
    have := asc_len s
    show max 1 (asc s).length * vol (ss.map asc) ≤ max 1 s.length * vol ss
    exact Nat.mul_le_mul (by omega) (vol_asc ss)
open Classical in
noncomputable def fn_init : Fn
  | [.own (.obj n [] []), .val d] => match (items d).bind seqs with
    | some sides => if n = ("Box" : Str) ∧ sides ≠ [] ∧ (∀ s ∈ sides, (∀ x ∈ s, 0 ≤ x) ∧ s.length ≤ 2 ^ 20) ∧ vol sides ≤ 2 ^ 20 ∧ sides.length ≤ 2 ^ 20 then
        some (.ret (.val .non) [.own (.obj n ["sides", "rows"] [.tup (rws (sides.map asc)), .lst (rws (combos (sides.map asc)))]), .val d]) else none
    | none => none
  | _ => none
theorem seqs_len : ∀ {ds : List D} {ss : List (List Int)}, seqs ds = some ss → ds.length = ss.length
  | [], ss, h => by cases h; rfl
  | d :: ds, ss, h => by
    obtain ⟨s, r, rfl, _, h2⟩ := seqs_cons h
    rw [List.length_cons, List.length_cons, seqs_len h2]
theorem gLen_items {d : D} {ds : List D} (h : items d = some ds) : gLen [d] = some (.val (.int ds.length)) := by
  cases d <;> first | (cases h; done) | (cases h; rfl)
theorem mkFn_nx {np n : Nat} {f : MS} {ss ρ' : List S} (h : ss.length = np) (e : f (ss ++ List.replicate (n - np) .no) = some (.nx ρ')) : mkFn np n f ss = some (.ret (.val .non) (post ss ρ')) := by
  unfold mkFn
  rw [if_pos h, e]
theorem le_init : Fn.le fn_init (mkFn 2 5 (f_Box_DinitD fn_is_number fn_ascending fn_grid)) := by
  intro ss o h
  unfold fn_init at h
  split at h
  · rename_i n d
    split at h
    · rename_i sides hn
      by_cases hl : n = ("Box" : Str) ∧ sides ≠ [] ∧ (∀ s ∈ sides, (∀ x ∈ s, 0 ≤ x) ∧ s.length ≤ 2 ^ 20) ∧ vol sides ≤ 2 ^ 20 ∧ sides.length ≤ 2 ^ 20
      · rw [if_pos hl] at h
        cases h
        obtain ⟨h1, h2, h3, h4, h5⟩ := hl
        subst h1
        obtain ⟨sds, hi, hq⟩ := Option.bind_eq_some_iff.mp hn
        have e0 := sz0
        have e1 : ((sds.length : Int) == 0) = false := by
          refine beq_eq_false_iff_ne.mpr ?_
          rw [seqs_len hq]
          have := List.length_pos_iff.mpr h2
          omega
        obtain ⟨u3, u4, e2⟩ := init2 (d := .val d) (o := .own (.obj "Box" [] [])) sds sides [] .no .no hq h3 (by rw [List.length_nil]; omega)
        have e2 : forL (gN 3) (b_Box_DinitD_2 fn_is_number fn_ascending) sds [.own (.obj "Box" [] []), .val d, .own (.lst []), .no, .no] = _ := e2
        rw [List.nil_append] at e2
        have e3 : fn_grid [.val (.lst (rws (sides.map asc)))] = some (.ret (.own (.lst (rws (combos (sides.map asc))))) [.val (.lst (rws (sides.map asc)))]) := by
          have : (items (.lst (rws (sides.map asc)))).bind seqs = some (sides.map asc) := seqs_t _
          simp only [fn_grid, this]
          exact if_pos ⟨Nat.le_trans (vol_asc sides) h4, by rw [List.length_map]; exact h5⟩
        have hlen := gLen_items hi
        have g1 : eB gLen (aCons (eVar 1) aNil) [.own (.obj "Box" [] []), .val d, .no, .no, .no] = some (.ok (.val (.int sds.length)) [.own (.obj "Box" [] []), .val d, .no, .no, .no]) := by
          unfold eB
          rw [bind_eq]
          have : aCons (eVar 1) aNil [.own (.obj "Box" [] []), .val d, .no, .no, .no] = some (.ok [.val d] [.own (.obj "Box" [] []), .val d, .no, .no, .no]) := by simp only [sSeq, sSet, setV, sRet, retV, sRetN, sIf, sExpr, sNil, sPass, sBreak, sCont, sFor, thenS, bind_eq, pure_eq, eVar, eC, mBin, peek, Dl.settle, ofO, toV, toVs, peeks, aCons, aNil, aStar, eB, eIx, eSl, eTup, eLst, eLc_eq, eLc2_eq, bindF, iSeq, iRng1, iRng2, iZip, eCall, callM, prep, ssOf, ssOfs, dist, isAli, noAli, scaR, scaD, back, back1, ownOr, isOwn, tCmp, tVal, tru, truD, tNot, tAnd, tOr, tYes', eAnd, eOr, eNot, eIf, eNeg, gN, gT, gsCons, gsNil, sSetIx, ownLst, ckL, mAppend_eq, eFld, lkF, sSetF, ownObj, putF2, eMake, makeM, eOwn2, ckC, zipD, dZip, strs_r, strr_s, List.zipWith_cons_cons, List.zipWith_nil_left, List.zipWith_nil_right, List.mem_singleton, and_self, true_and, and_true,  oSome, oNo, gII, gIIc, dAdd, dSub, dMul, dDiv, dMod, dPow, dLt, dLe, dGt, dGe, gTT, gLL, gSS, gLen, gInt, gMax2, gMin2, gList, gTuple, gIsi, tyNm, dIx, dSl, items_l, items_t, noOwn, wipeS, backS, M.fail, post, mkFn, List.getElem?_cons_zero, List.getElem?_cons_succ, List.getElem?_nil, List.set_cons_zero, List.set_cons_succ, List.getD_cons_zero, List.getD_cons_succ, List.cons_append, List.nil_append, List.append_nil, List.length_cons, List.length_nil, List.replicate, List.tail_cons, List.tail_nil, List.any_cons, List.any_nil, List.all_cons, List.all_nil, List.map_cons, List.map_nil, Option.map_some, Option.map_none, Option.bind_some, Option.bind_none, Option.some_or, Option.none_or, Bool.not_true, Bool.not_false, Bool.and_true, Bool.true_and, Bool.and_false, Bool.false_and, Bool.or_true, Bool.or_false, Bool.true_or, Bool.false_or, Bool.false_eq_true, if_true, if_false, reduceIte, Nat.reduceAdd, Nat.reduceSub, Nat.reduceEqDiff, Nat.reduceBEq, Nat.reduceLT, decide_true, decide_false]
          rw [this]; dsimp only
          rw [bind_eq]
          have : peeks [.val d] [.own (.obj "Box" [] []), .val d, .no, .no, .no] = some (.ok [d] [.own (.obj "Box" [] []), .val d, .no, .no, .no]) := by simp only [sSeq, sSet, setV, sRet, retV, sRetN, sIf, sExpr, sNil, sPass, sBreak, sCont, sFor, thenS, bind_eq, pure_eq, eVar, eC, mBin, peek, Dl.settle, ofO, toV, toVs, peeks, aCons, aNil, aStar, eB, eIx, eSl, eTup, eLst, eLc_eq, eLc2_eq, bindF, iSeq, iRng1, iRng2, iZip, eCall, callM, prep, ssOf, ssOfs, dist, isAli, noAli, scaR, scaD, back, back1, ownOr, isOwn, tCmp, tVal, tru, truD, tNot, tAnd, tOr, tYes', eAnd, eOr, eNot, eIf, eNeg, gN, gT, gsCons, gsNil, sSetIx, ownLst, ckL, mAppend_eq, eFld, lkF, sSetF, ownObj, putF2, eMake, makeM, eOwn2, ckC, zipD, dZip, strs_r, strr_s, List.zipWith_cons_cons, List.zipWith_nil_left, List.zipWith_nil_right, List.mem_singleton, and_self, true_and, and_true,  oSome, oNo, gII, gIIc, dAdd, dSub, dMul, dDiv, dMod, dPow, dLt, dLe, dGt, dGe, gTT, gLL, gSS, gLen, gInt, gMax2, gMin2, gList, gTuple, gIsi, tyNm, dIx, dSl, items_l, items_t, noOwn, wipeS, backS, M.fail, post, mkFn, List.getElem?_cons_zero, List.getElem?_cons_succ, List.getElem?_nil, List.set_cons_zero, List.set_cons_succ, List.getD_cons_zero, List.getD_cons_succ, List.cons_append, List.nil_append, List.append_nil, List.length_cons, List.length_nil, List.replicate, List.tail_cons, List.tail_nil, List.any_cons, List.any_nil, List.all_cons, List.all_nil, List.map_cons, List.map_nil, Option.map_some, Option.map_none, Option.bind_some, Option.bind_none, Option.some_or, Option.none_or, Bool.not_true, Bool.not_false, Bool.and_true, Bool.true_and, Bool.and_false, Bool.false_and, Bool.or_true, Bool.or_false, Bool.true_or, Bool.false_or, Bool.false_eq_true, if_true, if_false, reduceIte, Nat.reduceAdd, Nat.reduceSub, Nat.reduceEqDiff, Nat.reduceBEq, Nat.reduceLT, decide_true, decide_false]
          rw [this]; dsimp only
          unfold ofO
          rw [hlen]; rfl
        have n1 : (0 : Nat) < 1000 := by decide
        have n2 : (1 : Nat) < 1000 := by decide
        have q1 : tCmp (eEq (eB gLen (aCons (eVar 1) aNil)) (eC (.int 0))) [.own (.obj "Box" [] []), .val d, .no, .no, .no] = some (.ok false [.own (.obj "Box" [] []), .val d, .no, .no, .no]) := by
          unfold tCmp
          rw [bind_eq]
          have : eEq (eB gLen (aCons (eVar 1) aNil)) (eC (.int 0)) [.own (.obj "Box" [] []), .val d, .no, .no, .no] = some (.ok (.val (.bl false)) [.own (.obj "Box" [] []), .val d, .no, .no, .no]) := by
            unfold eEq mBin
            rw [bind_eq, g1]; dsimp only
            simp only [dEq_ii, e1, sSeq, sSet, setV, sRet, retV, sRetN, sIf, sExpr, sNil, sPass, sBreak, sCont, sFor, thenS, bind_eq, pure_eq, eVar, eC, mBin, peek, Dl.settle, ofO, toV, toVs, peeks, aCons, aNil, aStar, eB, eIx, eSl, eTup, eLst, eLc_eq, eLc2_eq, bindF, iSeq, iRng1, iRng2, iZip, eCall, callM, prep, ssOf, ssOfs, dist, isAli, noAli, scaR, scaD, back, back1, ownOr, isOwn, tCmp, tVal, tru, truD, tNot, tAnd, tOr, tYes', eAnd, eOr, eNot, eIf, eNeg, gN, gT, gsCons, gsNil, sSetIx, ownLst, ckL, mAppend_eq, eFld, lkF, sSetF, ownObj, putF2, eMake, makeM, eOwn2, ckC, zipD, dZip, strs_r, strr_s, List.zipWith_cons_cons, List.zipWith_nil_left, List.zipWith_nil_right, List.mem_singleton, and_self, true_and, and_true,  oSome, oNo, gII, gIIc, dAdd, dSub, dMul, dDiv, dMod, dPow, dLt, dLe, dGt, dGe, gTT, gLL, gSS, gLen, gInt, gMax2, gMin2, gList, gTuple, gIsi, tyNm, dIx, dSl, items_l, items_t, noOwn, wipeS, backS, M.fail, post, mkFn, List.getElem?_cons_zero, List.getElem?_cons_succ, List.getElem?_nil, List.set_cons_zero, List.set_cons_succ, List.getD_cons_zero, List.getD_cons_succ, List.cons_append, List.nil_append, List.append_nil, List.length_cons, List.length_nil, List.replicate, List.tail_cons, List.tail_nil, List.any_cons, List.any_nil, List.all_cons, List.all_nil, List.map_cons, List.map_nil, Option.map_some, Option.map_none, Option.bind_some, Option.bind_none, Option.some_or, Option.none_or, Bool.not_true, Bool.not_false, Bool.and_true, Bool.true_and, Bool.and_false, Bool.false_and, Bool.or_true, Bool.or_false, Bool.true_or, Bool.false_or, Bool.false_eq_true, if_true, if_false, reduceIte, Nat.reduceAdd, Nat.reduceSub, Nat.reduceEqDiff, Nat.reduceBEq, Nat.reduceLT, decide_true, decide_false]
          rw [this]; rfl
        have q2 : f_Box_DinitD fn_is_number fn_ascending fn_grid ([.own (.obj "Box" [] []), .val d] ++ List.replicate (5 - 2) .no) = some (.nx [.own (boxD (sides.map asc)), .val d, .val (.lst (rws (sides.map asc))), u3, u4]) := by
          show f_Box_DinitD fn_is_number fn_ascending fn_grid [.own (.obj "Box" [] []), .val d, .no, .no, .no] = _
          unfold f_Box_DinitD
          unfold sSeq
          unfold sIf
          unfold thenS
          dsimp only
          rw [q1]
          simp only [e0, hi, e2, e3, n1, n2, Nat.zero_add, sSeq, sSet, setV, sRet, retV, sRetN, sIf, sExpr, sNil, sPass, sBreak, sCont, sFor, thenS, bind_eq, pure_eq, eVar, eC, mBin, peek, Dl.settle, ofO, toV, toVs, peeks, aCons, aNil, aStar, eB, eIx, eSl, eTup, eLst, eLc_eq, eLc2_eq, bindF, iSeq, iRng1, iRng2, iZip, eCall, callM, prep, ssOf, ssOfs, dist, isAli, noAli, scaR, scaD, back, back1, ownOr, isOwn, tCmp, tVal, tru, truD, tNot, tAnd, tOr, tYes', eAnd, eOr, eNot, eIf, eNeg, gN, gT, gsCons, gsNil, sSetIx, ownLst, ckL, mAppend_eq, eFld, lkF, sSetF, ownObj, putF2, eMake, makeM, eOwn2, ckC, zipD, dZip, strs_r, strr_s, List.zipWith_cons_cons, List.zipWith_nil_left, List.zipWith_nil_right, List.mem_singleton, and_self, true_and, and_true,  oSome, oNo, gII, gIIc, dAdd, dSub, dMul, dDiv, dMod, dPow, dLt, dLe, dGt, dGe, gTT, gLL, gSS, gLen, gInt, gMax2, gMin2, gList, gTuple, gIsi, tyNm, dIx, dSl, items_l, items_t, noOwn, wipeS, backS, M.fail, post, mkFn, List.getElem?_cons_zero, List.getElem?_cons_succ, List.getElem?_nil, List.set_cons_zero, List.set_cons_succ, List.getD_cons_zero, List.getD_cons_succ, List.cons_append, List.nil_append, List.append_nil, List.length_cons, List.length_nil, List.replicate, List.tail_cons, List.tail_nil, List.any_cons, List.any_nil, List.all_cons, List.all_nil, List.map_cons, List.map_nil, Option.map_some, Option.map_none, Option.bind_some, Option.bind_none, Option.some_or, Option.none_or, Bool.not_true, Bool.not_false, Bool.and_true, Bool.true_and, Bool.and_false, Bool.false_and, Bool.or_true, Bool.or_false, Bool.true_or, Bool.false_or, Bool.false_eq_true, if_true, if_false, reduceIte, Nat.reduceAdd, Nat.reduceSub, Nat.reduceEqDiff, Nat.reduceBEq, Nat.reduceLT, decide_true, decide_false]
        exact mkFn_nx (np := 2) (n := 5) rfl q2
      · rw [if_neg hl] at h; cases h
    · cases h
  · cases h
/-! ### <= -/
def unbox : D → Option (List (List Int) × Nat)
  | .obj n ns [.tup ds, .lst rs] => if n = ("Box" : Str) ∧ ns = [("sides" : Str), ("rows" : Str)] then (rowsD ds).map fun s => (s, rs.length) else none
  | _ => none
theorem unbox_box (sides : List (List Int)) : unbox (boxD sides) = some (sides, (combos sides).length) := by
  unfold unbox boxD
  dsimp only
  rw [if_pos ⟨rfl, rfl⟩, rowsD_t]
  simp [rws]
theorem unbox_eq {d : D} {s : List (List Int)} {k : Nat} (h : unbox d = some (s, k)) : ∃ rs : List D, d = .obj "Box" ["sides", "rows"] [.tup (rws s), .lst rs] ∧ rs.length = k := by
  unfold unbox at h
  split at h
  · rename_i n ns ds rs
    by_cases hc : n = ("Box" : Str) ∧ ns = [("sides" : Str), ("rows" : Str)]
    · rw [if_pos hc] at h
      obtain ⟨t, h1, h2⟩ := Option.map_eq_some_iff.mp h
      cases h2
      rw [hc.1, hc.2, rowsD_eq h1]
      exact ⟨rs, rfl, rfl⟩
    · rw [if_neg hc] at h; cases h
  · cases h
def subs : List (List Int) → List (List Int) → Bool
  | s :: ss, t :: ts => s.all (fun x => decide (x ∈ t)) && subs ss ts
  | _, _ => true
theorem subs_cons (s t : List Int) (ss ts : List (List Int)) : subs (s :: ss) (t :: ts) = (s.all (fun x => decide (x ∈ t)) && subs ss ts) := rfl
theorem le1 {a b : S} {s t : D} {ts : List Int} : ∀ (xs : List Int) (s4 : S), (t = .tup (ts.map .int)) → ∃ s4', forL (gN 4) b_Box_DleD_1 (xs.map .int) [a, b, .val s, .val t, s4] = if (xs.all fun x => decide (x ∈ ts)) = true then some (.nx [a, b, .val s, .val t, s4']) else some (.rt (.val (.bl false)) [a, b, .val s, .val t, s4'])
  | [], s4, _ => ⟨s4, rfl⟩
  | x :: xs, s4, ht => by
    subst ht
    obtain ⟨s', ih⟩ := le1 (a := a) (b := b) (s := s) (t := .tup (ts.map .int)) (ts := ts) xs (.val (.int x)) rfl
    by_cases h : x ∈ ts
    · refine ⟨s', ?_⟩
      have e : decide (x ∈ ts) = true := decide_eq_true h
      have st : b_Box_DleD_1 [a, b, .val s, .val (.tup (ts.map .int)), .val (.int x)] = some (.nx [a, b, .val s, .val (.tup (ts.map .int)), .val (.int x)]) := by
        simp only [b_Box_DleD_1, dNotIn_it, e, sSeq, sSet, setV, sRet, retV, sRetN, sIf, sExpr, sNil, sPass, sBreak, sCont, sFor, thenS, bind_eq, pure_eq, eVar, eC, mBin, peek, Dl.settle, ofO, toV, toVs, peeks, aCons, aNil, aStar, eB, eIx, eSl, eTup, eLst, eLc_eq, eLc2_eq, bindF, iSeq, iRng1, iRng2, iZip, eCall, callM, prep, ssOf, ssOfs, dist, isAli, noAli, scaR, scaD, back, back1, ownOr, isOwn, tCmp, tVal, tru, truD, tNot, tAnd, tOr, tYes', eAnd, eOr, eNot, eIf, eNeg, gN, gT, gsCons, gsNil, sSetIx, ownLst, ckL, mAppend_eq, eFld, lkF, sSetF, ownObj, putF2, eMake, makeM, eOwn2, ckC, zipD, dZip, strs_r, strr_s, List.zipWith_cons_cons, List.zipWith_nil_left, List.zipWith_nil_right, List.mem_singleton, and_self, true_and, and_true,  oSome, oNo, gII, gIIc, dAdd, dSub, dMul, dDiv, dMod, dPow, dLt, dLe, dGt, dGe, gTT, gLL, gSS, gLen, gInt, gMax2, gMin2, gList, gTuple, gIsi, tyNm, dIx, dSl, items_l, items_t, noOwn, wipeS, backS, M.fail, post, mkFn, List.getElem?_cons_zero, List.getElem?_cons_succ, List.getElem?_nil, List.set_cons_zero, List.set_cons_succ, List.getD_cons_zero, List.getD_cons_succ, List.cons_append, List.nil_append, List.append_nil, List.length_cons, List.length_nil, List.replicate, List.tail_cons, List.tail_nil, List.any_cons, List.any_nil, List.all_cons, List.all_nil, List.map_cons, List.map_nil, Option.map_some, Option.map_none, Option.bind_some, Option.bind_none, Option.some_or, Option.none_or, Bool.not_true, Bool.not_false, Bool.and_true, Bool.true_and, Bool.and_false, Bool.false_and, Bool.or_true, Bool.or_false, Bool.true_or, Bool.false_or, Bool.false_eq_true, if_true, if_false, reduceIte, Nat.reduceAdd, Nat.reduceSub, Nat.reduceEqDiff, Nat.reduceBEq, Nat.reduceLT, decide_true, decide_false]
      rw [List.map_cons, forL_cons rfl st, ih, List.all_cons, e, Bool.true_and]
    · refine ⟨.val (.int x), ?_⟩
      have e : decide (x ∈ ts) = false := decide_eq_false h
      have st : b_Box_DleD_1 [a, b, .val s, .val (.tup (ts.map .int)), .val (.int x)] = some (.rt (.val (.bl false)) [a, b, .val s, .val (.tup (ts.map .int)), .val (.int x)]) := by
        simp only [b_Box_DleD_1, dNotIn_it, e, sSeq, sSet, setV, sRet, retV, sRetN, sIf, sExpr, sNil, sPass, sBreak, sCont, sFor, thenS, bind_eq, pure_eq, eVar, eC, mBin, peek, Dl.settle, ofO, toV, toVs, peeks, aCons, aNil, aStar, eB, eIx, eSl, eTup, eLst, eLc_eq, eLc2_eq, bindF, iSeq, iRng1, iRng2, iZip, eCall, callM, prep, ssOf, ssOfs, dist, isAli, noAli, scaR, scaD, back, back1, ownOr, isOwn, tCmp, tVal, tru, truD, tNot, tAnd, tOr, tYes', eAnd, eOr, eNot, eIf, eNeg, gN, gT, gsCons, gsNil, sSetIx, ownLst, ckL, mAppend_eq, eFld, lkF, sSetF, ownObj, putF2, eMake, makeM, eOwn2, ckC, zipD, dZip, strs_r, strr_s, List.zipWith_cons_cons, List.zipWith_nil_left, List.zipWith_nil_right, List.mem_singleton, and_self, true_and, and_true,  oSome, oNo, gII, gIIc, dAdd, dSub, dMul, dDiv, dMod, dPow, dLt, dLe, dGt, dGe, gTT, gLL, gSS, gLen, gInt, gMax2, gMin2, gList, gTuple, gIsi, tyNm, dIx, dSl, items_l, items_t, noOwn, wipeS, backS, M.fail, post, mkFn, List.getElem?_cons_zero, List.getElem?_cons_succ, List.getElem?_nil, List.set_cons_zero, List.set_cons_succ, List.getD_cons_zero, List.getD_cons_succ, List.cons_append, List.nil_append, List.append_nil, List.length_cons, List.length_nil, List.replicate, List.tail_cons, List.tail_nil, List.any_cons, List.any_nil, List.all_cons, List.all_nil, List.map_cons, List.map_nil, Option.map_some, Option.map_none, Option.bind_some, Option.bind_none, Option.some_or, Option.none_or, Bool.not_true, Bool.not_false, Bool.and_true, Bool.true_and, Bool.and_false, Bool.false_and, Bool.or_true, Bool.or_false, Bool.true_or, Bool.false_or, Bool.false_eq_true, if_true, if_false, reduceIte, Nat.reduceAdd, Nat.reduceSub, Nat.reduceEqDiff, Nat.reduceBEq, Nat.reduceLT, decide_true, decide_false]
      rw [List.map_cons, List.all_cons, e, Bool.false_and, if_neg Bool.false_ne_true]
      conv => lhs; unfold forL
      have : gN 4 (.int x) [a, b, .val s, .val (.tup (ts.map .int)), s4] = some [a, b, .val s, .val (.tup (ts.map .int)), .val (.int x)] := rfl
      rw [this]; dsimp only
      rw [st]
theorem le2 {a b : S} : ∀ (ss ts : List (List Int)) (s2 s3 s4 : S), ∃ s2' s3' s4', forL (gT 2 (gsCons (gN 2) (gsCons (gN 3) gsNil))) b_Box_DleD_2 (zipD (rws ss) (rws ts)) [a, b, s2, s3, s4] = if subs ss ts = true then some (.nx [a, b, s2', s3', s4']) else some (.rt (.val (.bl false)) [a, b, s2', s3', s4'])
  | [], ts, s2, s3, s4 => ⟨s2, s3, s4, rfl⟩
  | s :: ss, [], s2, s3, s4 => ⟨s2, s3, s4, rfl⟩
  | s :: ss, t :: ts, s2, s3, s4 => by
    obtain ⟨t4, e1⟩ := le1 (a := a) (b := b) (s := .tup (s.map .int)) (t := .tup (t.map .int)) (ts := t) s s4 rfl
    obtain ⟨u2, u3, u4, ih⟩ := le2 (a := a) (b := b) ss ts (.val (.tup (s.map .int))) (.val (.tup (t.map .int))) t4
    have g : gT 2 (gsCons (gN 2) (gsCons (gN 3) gsNil)) (.tup [.tup (s.map .int), .tup (t.map .int)]) [a, b, s2, s3, s4] = some [a, b, .val (.tup (s.map .int)), .val (.tup (t.map .int)), s4] := rfl
    show ∃ s2' s3' s4', forL _ b_Box_DleD_2 (.tup [.tup (s.map .int), .tup (t.map .int)] :: zipD (rws ss) (rws ts)) _ = _
    have hb : b_Box_DleD_2 [a, b, .val (.tup (s.map .int)), .val (.tup (t.map .int)), s4] = forL (gN 4) b_Box_DleD_1 (s.map .int) [a, b, .val (.tup (s.map .int)), .val (.tup (t.map .int)), s4] := by
      simp only [b_Box_DleD_2, sSeq, sSet, setV, sRet, retV, sRetN, sIf, sExpr, sNil, sPass, sBreak, sCont, sFor, thenS, bind_eq, pure_eq, eVar, eC, mBin, peek, Dl.settle, ofO, toV, toVs, peeks, aCons, aNil, aStar, eB, eIx, eSl, eTup, eLst, eLc_eq, eLc2_eq, bindF, iSeq, iRng1, iRng2, iZip, eCall, callM, prep, ssOf, ssOfs, dist, isAli, noAli, scaR, scaD, back, back1, ownOr, isOwn, tCmp, tVal, tru, truD, tNot, tAnd, tOr, tYes', eAnd, eOr, eNot, eIf, eNeg, gN, gT, gsCons, gsNil, sSetIx, ownLst, ckL, mAppend_eq, eFld, lkF, sSetF, ownObj, putF2, eMake, makeM, eOwn2, ckC, zipD, dZip, strs_r, strr_s, List.zipWith_cons_cons, List.zipWith_nil_left, List.zipWith_nil_right, List.mem_singleton, and_self, true_and, and_true,  oSome, oNo, gII, gIIc, dAdd, dSub, dMul, dDiv, dMod, dPow, dLt, dLe, dGt, dGe, gTT, gLL, gSS, gLen, gInt, gMax2, gMin2, gList, gTuple, gIsi, tyNm, dIx, dSl, items_l, items_t, noOwn, wipeS, backS, M.fail, post, mkFn, List.getElem?_cons_zero, List.getElem?_cons_succ, List.getElem?_nil, List.set_cons_zero, List.set_cons_succ, List.getD_cons_zero, List.getD_cons_succ, List.cons_append, List.nil_append, List.append_nil, List.length_cons, List.length_nil, List.replicate, List.tail_cons, List.tail_nil, List.any_cons, List.any_nil, List.all_cons, List.all_nil, List.map_cons, List.map_nil, Option.map_some, Option.map_none, Option.bind_some, Option.bind_none, Option.some_or, Option.none_or, Bool.not_true, Bool.not_false, Bool.and_true, Bool.true_and, Bool.and_false, Bool.false_and, Bool.or_true, Bool.or_false, Bool.true_or, Bool.false_or, Bool.false_eq_true, if_true, if_false, reduceIte, Nat.reduceAdd, Nat.reduceSub, Nat.reduceEqDiff, Nat.reduceBEq, Nat.reduceLT, decide_true, decide_false]
    by_cases h : (s.all fun x => decide (x ∈ t)) = true
    · rw [if_pos h] at e1
      refine ⟨u2, u3, u4, ?_⟩
      rw [forL_cons g (hb.trans e1), ih]
      rw [subs_cons, h, Bool.true_and]
    · rw [if_neg h] at e1
      refine ⟨.val (.tup (s.map .int)), .val (.tup (t.map .int)), t4, ?_⟩
      have : subs (s :: ss) (t :: ts) = false := by
        rw [subs_cons, Bool.eq_false_iff.mpr h, Bool.false_and]
      rw [this, if_neg Bool.false_ne_true]
      conv => lhs; unfold forL
      rw [g]; dsimp only
      rw [hb, e1]
def fn_le : Fn
  | [.val d1, .val d2] => match unbox d1, unbox d2 with
    | some (s, k), some (t, _) => if s.length ≤ 2 ^ 20 then some (.ret (.val (.bl (decide (k = 0) || subs s t))) [.val d1, .val d2]) else none
    | _, _ => none
  | _ => none
theorem le_le : Fn.le fn_le (mkFn 2 5 f_Box_DleD) := by
  intro ss o h
  unfold fn_le at h
  split at h
  · rename_i d1 d2
    split at h
    · rename_i s k t k2 h1 h2
      by_cases hl : s.length ≤ 2 ^ 20
      · rw [if_pos hl] at h
        cases h
        obtain ⟨rs, rfl, rfl⟩ := unbox_eq h1
        obtain ⟨rt, rfl, rfl⟩ := unbox_eq h2
        by_cases hk : rs.length = 0
        · have e1 : ((rs.length : Int) == 0) = true := beq_iff_eq.mpr (by omega)
          have e2 : decide (rs.length = 0) = true := decide_eq_true hk
          simp only [f_Box_DleD, dEq_ii, e1, e2, sSeq, sSet, setV, sRet, retV, sRetN, sIf, sExpr, sNil, sPass, sBreak, sCont, sFor, thenS, bind_eq, pure_eq, eVar, eC, mBin, peek, Dl.settle, ofO, toV, toVs, peeks, aCons, aNil, aStar, eB, eIx, eSl, eTup, eLst, eLc_eq, eLc2_eq, bindF, iSeq, iRng1, iRng2, iZip, eCall, callM, prep, ssOf, ssOfs, dist, isAli, noAli, scaR, scaD, back, back1, ownOr, isOwn, tCmp, tVal, tru, truD, tNot, tAnd, tOr, tYes', eAnd, eOr, eNot, eIf, eNeg, gN, gT, gsCons, gsNil, sSetIx, ownLst, ckL, mAppend_eq, eFld, lkF, sSetF, ownObj, putF2, eMake, makeM, eOwn2, ckC, zipD, dZip, strs_r, strr_s, List.zipWith_cons_cons, List.zipWith_nil_left, List.zipWith_nil_right, List.mem_singleton, and_self, true_and, and_true,  oSome, oNo, gII, gIIc, dAdd, dSub, dMul, dDiv, dMod, dPow, dLt, dLe, dGt, dGe, gTT, gLL, gSS, gLen, gInt, gMax2, gMin2, gList, gTuple, gIsi, tyNm, dIx, dSl, items_l, items_t, noOwn, wipeS, backS, M.fail, post, mkFn, List.getElem?_cons_zero, List.getElem?_cons_succ, List.getElem?_nil, List.set_cons_zero, List.set_cons_succ, List.getD_cons_zero, List.getD_cons_succ, List.cons_append, List.nil_append, List.append_nil, List.length_cons, List.length_nil, List.replicate, List.tail_cons, List.tail_nil, List.any_cons, List.any_nil, List.all_cons, List.all_nil, List.map_cons, List.map_nil, Option.map_some, Option.map_none, Option.bind_some, Option.bind_none, Option.some_or, Option.none_or, Bool.not_true, Bool.not_false, Bool.and_true, Bool.true_and, Bool.and_false, Bool.false_and, Bool.or_true, Bool.or_false, Bool.true_or, Bool.false_or, Bool.false_eq_true, if_true, if_false, reduceIte, Nat.reduceAdd, Nat.reduceSub, Nat.reduceEqDiff, Nat.reduceBEq, Nat.reduceLT, decide_true, decide_false]
        · have e1 : ((rs.length : Int) == 0) = false := beq_eq_false_iff_ne.mpr (by omega)
          have e2 : decide (rs.length = 0) = false := decide_eq_false hk
          obtain ⟨u2, u3, u4, e3⟩ := le2 (a := .val (.obj "Box" ["sides", "rows"] [.tup (rws s), .lst rs])) (b := .val (.obj "Box" ["sides", "rows"] [.tup (rws t), .lst rt])) s t .no .no .no
          have ez : (zipD (rws s) (rws t)).length ≤ 16777216 := by
            rw [zipD_len]
            unfold rws
            rw [List.length_map, List.length_map]
            omega
          unfold zipD at e3 ez
          cases hsub : subs s t with
          | true =>
            rw [hsub, if_pos rfl] at e3
            simp only [f_Box_DleD, dEq_ii, e1, e2, ez, e3, sSeq, sSet, setV, sRet, retV, sRetN, sIf, sExpr, sNil, sPass, sBreak, sCont, sFor, thenS, bind_eq, pure_eq, eVar, eC, mBin, peek, Dl.settle, ofO, toV, toVs, peeks, aCons, aNil, aStar, eB, eIx, eSl, eTup, eLst, eLc_eq, eLc2_eq, bindF, iSeq, iRng1, iRng2, iZip, eCall, callM, prep, ssOf, ssOfs, dist, isAli, noAli, scaR, scaD, back, back1, ownOr, isOwn, tCmp, tVal, tru, truD, tNot, tAnd, tOr, tYes', eAnd, eOr, eNot, eIf, eNeg, gN, gT, gsCons, gsNil, sSetIx, ownLst, ckL, mAppend_eq, eFld, lkF, sSetF, ownObj, putF2, eMake, makeM, eOwn2, ckC, zipD, dZip, strs_r, strr_s, List.zipWith_cons_cons, List.zipWith_nil_left, List.zipWith_nil_right, List.mem_singleton, and_self, true_and, and_true,  oSome, oNo, gII, gIIc, dAdd, dSub, dMul, dDiv, dMod, dPow, dLt, dLe, dGt, dGe, gTT, gLL, gSS, gLen, gInt, gMax2, gMin2, gList, gTuple, gIsi, tyNm, dIx, dSl, items_l, items_t, noOwn, wipeS, backS, M.fail, post, mkFn, List.getElem?_cons_zero, List.getElem?_cons_succ, List.getElem?_nil, List.set_cons_zero, List.set_cons_succ, List.getD_cons_zero, List.getD_cons_succ, List.cons_append, List.nil_append, List.append_nil, List.length_cons, List.length_nil, List.replicate, List.tail_cons, List.tail_nil, List.any_cons, List.any_nil, List.all_cons, List.all_nil, List.map_cons, List.map_nil, Option.map_some, Option.map_none, Option.bind_some, Option.bind_none, Option.some_or, Option.none_or, Bool.not_true, Bool.not_false, Bool.and_true, Bool.true_and, Bool.and_false, Bool.false_and, Bool.or_true, Bool.or_false, Bool.true_or, Bool.false_or, Bool.false_eq_true, if_true, if_false, reduceIte, Nat.reduceAdd, Nat.reduceSub, Nat.reduceEqDiff, Nat.reduceBEq, Nat.reduceLT, decide_true, decide_false]
          | false =>
            rw [hsub, if_neg Bool.false_ne_true] at e3
            simp only [f_Box_DleD, dEq_ii, e1, e2, ez, e3, sSeq, sSet, setV, sRet, retV, sRetN, sIf, sExpr, sNil, sPass, sBreak, sCont, sFor, thenS, bind_eq, pure_eq, eVar, eC, mBin, peek, Dl.settle, ofO, toV, toVs, peeks, aCons, aNil, aStar, eB, eIx, eSl, eTup, eLst, eLc_eq, eLc2_eq, bindF, iSeq, iRng1, iRng2, iZip, eCall, callM, prep, ssOf, ssOfs, dist, isAli, noAli, scaR, scaD, back, back1, ownOr, isOwn, tCmp, tVal, tru, truD, tNot, tAnd, tOr, tYes', eAnd, eOr, eNot, eIf, eNeg, gN, gT, gsCons, gsNil, sSetIx, ownLst, ckL, mAppend_eq, eFld, lkF, sSetF, ownObj, putF2, eMake, makeM, eOwn2, ckC, zipD, dZip, strs_r, strr_s, List.zipWith_cons_cons, List.zipWith_nil_left, List.zipWith_nil_right, List.mem_singleton, and_self, true_and, and_true,  oSome, oNo, gII, gIIc, dAdd, dSub, dMul, dDiv, dMod, dPow, dLt, dLe, dGt, dGe, gTT, gLL, gSS, gLen, gInt, gMax2, gMin2, gList, gTuple, gIsi, tyNm, dIx, dSl, items_l, items_t, noOwn, wipeS, backS, M.fail, post, mkFn, List.getElem?_cons_zero, List.getElem?_cons_succ, List.getElem?_nil, List.set_cons_zero, List.set_cons_succ, List.getD_cons_zero, List.getD_cons_succ, List.cons_append, List.nil_append, List.append_nil, List.length_cons, List.length_nil, List.replicate, List.tail_cons, List.tail_nil, List.any_cons, List.any_nil, List.all_cons, List.all_nil, List.map_cons, List.map_nil, Option.map_some, Option.map_none, Option.bind_some, Option.bind_none, Option.some_or, Option.none_or, Bool.not_true, Bool.not_false, Bool.and_true, Bool.true_and, Bool.and_false, Bool.false_and, Bool.or_true, Bool.or_false, Bool.true_or, Bool.false_or, Bool.false_eq_true, if_true, if_false, reduceIte, Nat.reduceAdd, Nat.reduceSub, Nat.reduceEqDiff, Nat.reduceBEq, Nat.reduceLT, decide_true, decide_false]
      · rw [if_neg hl] at h; cases h
    · cases h
  · cases h
end My

namespace My
open PySem Dl
open L2 (ixN atI)
theorem fnd {s : Src} {n : Int} (h : 0 < n ∧ n < 2 ^ 64) : fn_draw [.own (.lst s.ds), .val (.int n)] = some (.ret (.val (.int (s.get n))) [.own (.lst (s.next n).ds), .val (.int n)]) := if_pos h
def drawN (n : Int) : Nat → Src → List Int
  | 0, _ => []
  | k + 1, s => s.get n :: drawN n k (s.next n)
def srcN (n : Int) : Nat → Src → Src
  | 0, s => s
  | k + 1, s => srcN n k (s.next n)
theorem drawN_len (n : Int) : ∀ (k : Nat) (s : Src), (drawN n k s).length = k
  | 0, _ => rfl
  | k + 1, s => by show (drawN n k (s.next n)).length + 1 = _; rw [drawN_len n k]
theorem drawN_nn {n : Int} (h : 0 < n) : ∀ (k : Nat) (s : Src), ∀ x ∈ drawN n k s, 0 ≤ x
  | 0, _, x, hx => nomatch hx
  | k + 1, s, x, hx => by
    rcases List.mem_cons.mp hx with rfl | hx
    · exact s.get_nonneg h
    · exact drawN_nn h k _ x hx
theorem rng1 {j : Int} (h0 : 0 ≤ j) (h1 : j ≤ 2 ^ 20) : dRng1 [.int j] = some (rangeD 0 j.toNat) := by
  unfold dRng1
  dsimp only
  have : rngOk 0 j = true := decide_eq_true ⟨by decide, by decide, by omega, by omega⟩
  rw [if_pos this]
theorem rangeD_len (n : Nat) : (rangeD 0 n).length = n := by simp [rangeD]
def lim4 (i : Int) : Int := if i = 0 then 3 else if i = 1 then 4 else if i = 2 then 5 else 40
theorem lim4_ok (i : Int) : 0 < lim4 i ∧ lim4 i ≤ 40 := by unfold lim4; split <;> first | omega | (split <;> first | omega | (split <;> omega))
theorem at4 {i : Int} (h0 : 0 ≤ i) (h1 : i < 4) : atI [D.int 3, D.int 4, D.int 5, D.int 40] i = some (.int (lim4 i)) := by
  have : i = 0 ∨ i = 1 ∨ i = 2 ∨ i = 3 := by omega
  rcases this with rfl | rfl | rfl | rfl <;> rfl
abbrev lls (ss : List (List Int)) : List D := ss.map fun s => .lst (s.map .int)
structure DSt where
  sh : Src
  so : Src
  room : Int
  sides : List (List Int)
def mx1 (n : Int) : Int := if n > 1 then n else 1
/-! ### draw_sides -/
def dsSize (s : DSt) : Int := let z := (s.sh.next 4).get (lim4 (s.sh.get 4)); if s.room < z then 1 else z
def dsStep (span : Int) (s : DSt) : DSt := ⟨(s.sh.next 4).next (lim4 (s.sh.get 4)), srcN span (dsSize s).toNat s.so, s.room / mx1 (dsSize s), s.sides ++ [drawN span (dsSize s).toNat s.so]⟩
theorem dsSize_ok (s : DSt) : 0 ≤ dsSize s ∧ dsSize s ≤ 40 := by
  have h := lim4_ok (s.sh.get 4)
  have h1 := Src.get_nonneg (s.sh.next 4) h.1
  have h2 := Src.get_lt (s.sh.next 4) h.1
  unfold dsSize
  dsimp only
  split <;> omega
theorem lcDS {span : Int} (hs : 0 < span ∧ span < 2 ^ 64) {a0 a2 a4 a5 a6 a7 : S} : ∀ (ds acc : List D) (s : Src),
    lcL (gN 8) tYes' (eCall [true, false] fn_draw (aCons (eVar 1) (aCons (eVar 3) aNil))) [8] ds acc [a0, .own (.lst s.ds), a2, .val (.int span), a4, a5, a6, a7, .no] =
      some (.ok (acc ++ (drawN span ds.length s).map .int) [a0, .own (.lst (srcN span ds.length s).ds), a2, .val (.int span), a4, a5, a6, a7, .no])
  | [], acc, s => by unfold lcL; simp [drawN, srcN]
  | d :: ds, acc, s => by
    have ih := lcDS hs (a0 := a0) (a2 := a2) (a4 := a4) (a5 := a5) (a6 := a6) (a7 := a7) ds (acc ++ [.int (s.get span)]) (s.next span)
    have h1 : gN 8 d (wipeS [a0, .own (.lst s.ds), a2, .val (.int span), a4, a5, a6, a7, .no] [8]) = some [a0, .own (.lst s.ds), a2, .val (.int span), a4, a5, a6, a7, .val d] := rfl
    have h2 : ∀ ρ : List S, tYes' ρ = some (Ot.ok true ρ) := fun _ => rfl
    have h3 : (eCall [true, false] fn_draw (aCons (eVar 1) (aCons (eVar 3) aNil)) >>= toV) [a0, .own (.lst s.ds), a2, .val (.int span), a4, a5, a6, a7, .val d] = some (Ot.ok (D.int (s.get span)) [a0, .own (.lst (s.next span).ds), a2, .val (.int span), a4, a5, a6, a7, .val d]) := by
      simp only [fnd hs, sSeq, sSet, setV, sRet, retV, sRetN, sIf, sExpr, sNil, sPass, sBreak, sCont, sFor, thenS, bind_eq, pure_eq, eVar, eC, mBin, peek, Dl.settle, ofO, toV, toVs, peeks, aCons, aNil, aStar, eB, eIx, eSl, eTup, eLst, eLc_eq, eLc2_eq, bindF, iSeq, iRng1, iRng2, iZip, eCall, callM, prep, ssOf, ssOfs, dist, isAli, noAli, scaR, scaD, back, back1, ownOr, isOwn, tCmp, tVal, tru, truD, tNot, tAnd, tOr, tYes', eAnd, eOr, eNot, eIf, eNeg, gN, gT, gsCons, gsNil, sSetIx, ownLst, ckL, mAppend_eq, eFld, lkF, sSetF, ownObj, putF2, eMake, makeM, eOwn2, ckC, zipD, dZip, strs_r, strr_s, List.zipWith_cons_cons, List.zipWith_nil_left, List.zipWith_nil_right, List.mem_singleton, and_self, true_and, and_true,  oSome, oNo, gII, gIIc, dAdd, dSub, dMul, dDiv, dMod, dPow, dLt, dLe, dGt, dGe, gTT, gLL, gSS, gLen, gInt, gMax2, gMin2, gList, gTuple, gIsi, tyNm, dIx, dSl, items_l, items_t, noOwn, wipeS, backS, M.fail, post, mkFn, List.getElem?_cons_zero, List.getElem?_cons_succ, List.getElem?_nil, List.set_cons_zero, List.set_cons_succ, List.getD_cons_zero, List.getD_cons_succ, List.cons_append, List.nil_append, List.append_nil, List.length_cons, List.length_nil, List.replicate, List.tail_cons, List.tail_nil, List.any_cons, List.any_nil, List.all_cons, List.all_nil, List.map_cons, List.map_nil, Option.map_some, Option.map_none, Option.bind_some, Option.bind_none, Option.some_or, Option.none_or, Bool.not_true, Bool.not_false, Bool.and_true, Bool.true_and, Bool.and_false, Bool.false_and, Bool.or_true, Bool.or_false, Bool.true_or, Bool.false_or, Bool.false_eq_true, if_true, if_false, reduceIte, Nat.reduceAdd, Nat.reduceSub, Nat.reduceEqDiff, Nat.reduceBEq, Nat.reduceLT, decide_true, decide_false]
    have h4 : backS [a0, .own (.lst s.ds), a2, .val (.int span), a4, a5, a6, a7, .no] [a0, .own (.lst (s.next span).ds), a2, .val (.int span), a4, a5, a6, a7, .val d] [8] = [a0, .own (.lst (s.next span).ds), a2, .val (.int span), a4, a5, a6, a7, .no] := rfl
    unfold lcL
    rw [h1]; dsimp only; rw [h2]; dsimp only; rw [h3]; dsimp only
    rw [h4, ih]
    rw [List.append_assoc]; rfl
theorem ds_step {span : Int} (hs : 0 < span ∧ span < 2 ^ 64) {m k : D} {s : DSt} {s7 : S} (hl : s.sides.length < sizeLine) :
    ∃ s7', b__law_draw_sides_1 fn_draw [.own (.lst s.sh.ds), .own (.lst s.so.ds), .val m, .val (.int span), .own (.lst (lls s.sides)), .val (.int s.room), .val k, s7, .no] =
      some (.nx [.own (.lst (dsStep span s).sh.ds), .own (.lst (dsStep span s).so.ds), .val m, .val (.int span), .own (.lst (lls (dsStep span s).sides)), .val (.int (dsStep span s).room), .val k, s7', .no]) := by
  have g0 := Src.get_nonneg s.sh (n := 4) (by decide)
  have g1 := Src.get_lt s.sh (n := 4) (by decide)
  have l4 := lim4_ok (s.sh.get 4)
  have f1 : fn_draw [.own (.lst s.sh.ds), .val (.int 4)] = _ := fnd ⟨by decide, by decide⟩
  have f2 : fn_draw [.own (.lst (s.sh.next 4).ds), .val (.int (lim4 (s.sh.get 4)))] = _ := fnd ⟨l4.1, by omega⟩
  have ez := sz4
  obtain ⟨z0, z1⟩ := dsSize_ok s
  have em : (if dsSize s > 1 then dsSize s else 1) = mx1 (dsSize s) := rfl
  have ed : divOk s.room (mx1 (dsSize s)) = true := decide_eq_true (by unfold mx1; split <;> omega)
  have eT : (dsStep span s) = ⟨(s.sh.next 4).next (lim4 (s.sh.get 4)), srcN span (dsSize s).toNat s.so, s.room / mx1 (dsSize s), s.sides ++ [drawN span (dsSize s).toNat s.so]⟩ := rfl
  have hl2 : (lls s.sides).length < sizeLine := by unfold lls; rw [List.length_map]; exact hl
  have ea : lls s.sides ++ [.lst ((drawN span (dsSize s).toNat s.so).map .int)] = lls (s.sides ++ [drawN span (dsSize s).toNat s.so]) := by simp [lls]
  refine ⟨.val (.int (dsSize s)), ?_⟩
  have tail : ∀ r : Int, (sSeq (sSet 4 5 (eDiv (eVar 5) (eB gMax2 (aCons (eC (.int 1)) (aCons (eVar 7) aNil))))) (sExpr (mAppend (eVar 4) (c__law_draw_sides_1 fn_draw)))) [.own (.lst (dsStep span s).sh.ds), .own (.lst s.so.ds), .val m, .val (.int span), .own (.lst (lls s.sides)), .val (.int s.room), .val k, .val (.int (dsSize s)), .no] =
      some (.nx [.own (.lst (dsStep span s).sh.ds), .own (.lst (dsStep span s).so.ds), .val m, .val (.int span), .own (.lst (lls (dsStep span s).sides)), .val (.int (dsStep span s).room), .val k, .val (.int (dsSize s)), .no]) := by
    intro _
    have hc : c__law_draw_sides_1 fn_draw [.own (.lst (dsStep span s).sh.ds), .own (.lst s.so.ds), .val m, .val (.int span), .own (.lst (lls s.sides)), .val (.int (s.room / mx1 (dsSize s))), .val k, .val (.int (dsSize s)), .no] =
        some (.ok (.own (.lst ((drawN span (dsSize s).toNat s.so).map .int))) [.own (.lst (dsStep span s).sh.ds), .own (.lst (srcN span (dsSize s).toNat s.so).ds), .val m, .val (.int span), .own (.lst (lls s.sides)), .val (.int (s.room / mx1 (dsSize s))), .val k, .val (.int (dsSize s)), .no]) := by
      unfold c__law_draw_sides_1
      rw [eLc_eq]
      have hit : iRng1 (aCons (eVar 7) aNil) [.own (.lst (dsStep span s).sh.ds), .own (.lst s.so.ds), .val m, .val (.int span), .own (.lst (lls s.sides)), .val (.int (s.room / mx1 (dsSize s))), .val k, .val (.int (dsSize s)), .no] = some (.ok (rangeD 0 (dsSize s).toNat) [.own (.lst (dsStep span s).sh.ds), .own (.lst s.so.ds), .val m, .val (.int span), .own (.lst (lls s.sides)), .val (.int (s.room / mx1 (dsSize s))), .val k, .val (.int (dsSize s)), .no]) := by
        simp only [rng1 z0 (by omega : dsSize s ≤ 2 ^ 20), sSeq, sSet, setV, sRet, retV, sRetN, sIf, sExpr, sNil, sPass, sBreak, sCont, sFor, thenS, bind_eq, pure_eq, eVar, eC, mBin, peek, Dl.settle, ofO, toV, toVs, peeks, aCons, aNil, aStar, eB, eIx, eSl, eTup, eLst, eLc_eq, eLc2_eq, bindF, iSeq, iRng1, iRng2, iZip, eCall, callM, prep, ssOf, ssOfs, dist, isAli, noAli, scaR, scaD, back, back1, ownOr, isOwn, tCmp, tVal, tru, truD, tNot, tAnd, tOr, tYes', eAnd, eOr, eNot, eIf, eNeg, gN, gT, gsCons, gsNil, sSetIx, ownLst, ckL, mAppend_eq, eFld, lkF, sSetF, ownObj, putF2, eMake, makeM, eOwn2, ckC, zipD, dZip, strs_r, strr_s, List.zipWith_cons_cons, List.zipWith_nil_left, List.zipWith_nil_right, List.mem_singleton, and_self, true_and, and_true,  oSome, oNo, gII, gIIc, dAdd, dSub, dMul, dDiv, dMod, dPow, dLt, dLe, dGt, dGe, gTT, gLL, gSS, gLen, gInt, gMax2, gMin2, gList, gTuple, gIsi, tyNm, dIx, dSl, items_l, items_t, noOwn, wipeS, backS, M.fail, post, mkFn, List.getElem?_cons_zero, List.getElem?_cons_succ, List.getElem?_nil, List.set_cons_zero, List.set_cons_succ, List.getD_cons_zero, List.getD_cons_succ, List.cons_append, List.nil_append, List.append_nil, List.length_cons, List.length_nil, List.replicate, List.tail_cons, List.tail_nil, List.any_cons, List.any_nil, List.all_cons, List.all_nil, List.map_cons, List.map_nil, Option.map_some, Option.map_none, Option.bind_some, Option.bind_none, Option.some_or, Option.none_or, Bool.not_true, Bool.not_false, Bool.and_true, Bool.true_and, Bool.and_false, Bool.false_and, Bool.or_true, Bool.or_false, Bool.true_or, Bool.false_or, Bool.false_eq_true, if_true, if_false, reduceIte, Nat.reduceAdd, Nat.reduceSub, Nat.reduceEqDiff, Nat.reduceBEq, Nat.reduceLT, decide_true, decide_false]
      unfold bindF
      rw [hit]; dsimp only
      have hn : noOwn [.own (.lst (dsStep span s).sh.ds), .own (.lst s.so.ds), .val m, .val (.int span), .own (.lst (lls s.sides)), .val (.int (s.room / mx1 (dsSize s))), .val k, .val (.int (dsSize s)), .no] [8] = true := rfl
      rw [if_pos hn, lcDS hs, rangeD_len, List.nil_append]
    simp only [em, ed, hc, hl2, ea, sSeq, sSet, setV, sRet, retV, sRetN, sIf, sExpr, sNil, sPass, sBreak, sCont, sFor, thenS, bind_eq, pure_eq, eVar, eC, mBin, peek, Dl.settle, ofO, toV, toVs, peeks, aCons, aNil, aStar, eB, eIx, eSl, eTup, eLst, eLc_eq, eLc2_eq, bindF, iSeq, iRng1, iRng2, iZip, eCall, callM, prep, ssOf, ssOfs, dist, isAli, noAli, scaR, scaD, back, back1, ownOr, isOwn, tCmp, tVal, tru, truD, tNot, tAnd, tOr, tYes', eAnd, eOr, eNot, eIf, eNeg, gN, gT, gsCons, gsNil, sSetIx, ownLst, ckL, mAppend_eq, eFld, lkF, sSetF, ownObj, putF2, eMake, makeM, eOwn2, ckC, zipD, dZip, strs_r, strr_s, List.zipWith_cons_cons, List.zipWith_nil_left, List.zipWith_nil_right, List.mem_singleton, and_self, true_and, and_true,  oSome, oNo, gII, gIIc, dAdd, dSub, dMul, dDiv, dMod, dPow, dLt, dLe, dGt, dGe, gTT, gLL, gSS, gLen, gInt, gMax2, gMin2, gList, gTuple, gIsi, tyNm, dIx, dSl, items_l, items_t, noOwn, wipeS, backS, M.fail, post, mkFn, List.getElem?_cons_zero, List.getElem?_cons_succ, List.getElem?_nil, List.set_cons_zero, List.set_cons_succ, List.getD_cons_zero, List.getD_cons_succ, List.cons_append, List.nil_append, List.append_nil, List.length_cons, List.length_nil, List.replicate, List.tail_cons, List.tail_nil, List.any_cons, List.any_nil, List.all_cons, List.all_nil, List.map_cons, List.map_nil, Option.map_some, Option.map_none, Option.bind_some, Option.bind_none, Option.some_or, Option.none_or, Bool.not_true, Bool.not_false, Bool.and_true, Bool.true_and, Bool.and_false, Bool.false_and, Bool.or_true, Bool.or_false, Bool.true_or, Bool.false_or, Bool.false_eq_true, if_true, if_false, reduceIte, Nat.reduceAdd, Nat.reduceSub, Nat.reduceEqDiff, Nat.reduceBEq, Nat.reduceLT, decide_true, decide_false]
    rfl
  unfold b__law_draw_sides_1
  by_cases hr : s.room < (s.sh.next 4).get (lim4 (s.sh.get 4))
  · have e1 : dsSize s = 1 := if_pos hr
    have e2 : decide (s.room < (s.sh.next 4).get (lim4 (s.sh.get 4))) = true := decide_eq_true hr
    rw [← tail 0]
    rw [e1]
    simp only [f1, f2, at4 g0 g1, ez, e2, eT, e1, Nat.zero_add, sSeq, sSet, setV, sRet, retV, sRetN, sIf, sExpr, sNil, sPass, sBreak, sCont, sFor, thenS, bind_eq, pure_eq, eVar, eC, mBin, peek, Dl.settle, ofO, toV, toVs, peeks, aCons, aNil, aStar, eB, eIx, eSl, eTup, eLst, eLc_eq, eLc2_eq, bindF, iSeq, iRng1, iRng2, iZip, eCall, callM, prep, ssOf, ssOfs, dist, isAli, noAli, scaR, scaD, back, back1, ownOr, isOwn, tCmp, tVal, tru, truD, tNot, tAnd, tOr, tYes', eAnd, eOr, eNot, eIf, eNeg, gN, gT, gsCons, gsNil, sSetIx, ownLst, ckL, mAppend_eq, eFld, lkF, sSetF, ownObj, putF2, eMake, makeM, eOwn2, ckC, zipD, dZip, strs_r, strr_s, List.zipWith_cons_cons, List.zipWith_nil_left, List.zipWith_nil_right, List.mem_singleton, and_self, true_and, and_true,  oSome, oNo, gII, gIIc, dAdd, dSub, dMul, dDiv, dMod, dPow, dLt, dLe, dGt, dGe, gTT, gLL, gSS, gLen, gInt, gMax2, gMin2, gList, gTuple, gIsi, tyNm, dIx, dSl, items_l, items_t, noOwn, wipeS, backS, M.fail, post, mkFn, List.getElem?_cons_zero, List.getElem?_cons_succ, List.getElem?_nil, List.set_cons_zero, List.set_cons_succ, List.getD_cons_zero, List.getD_cons_succ, List.cons_append, List.nil_append, List.append_nil, List.length_cons, List.length_nil, List.replicate, List.tail_cons, List.tail_nil, List.any_cons, List.any_nil, List.all_cons, List.all_nil, List.map_cons, List.map_nil, Option.map_some, Option.map_none, Option.bind_some, Option.bind_none, Option.some_or, Option.none_or, Bool.not_true, Bool.not_false, Bool.and_true, Bool.true_and, Bool.and_false, Bool.false_and, Bool.or_true, Bool.or_false, Bool.true_or, Bool.false_or, Bool.false_eq_true, if_true, if_false, reduceIte, Nat.reduceAdd, Nat.reduceSub, Nat.reduceEqDiff, Nat.reduceBEq, Nat.reduceLT, decide_true, decide_false]
  · have e1 : dsSize s = (s.sh.next 4).get (lim4 (s.sh.get 4)) := if_neg hr
    have e2 : decide (s.room < (s.sh.next 4).get (lim4 (s.sh.get 4))) = false := decide_eq_false hr
    rw [← tail 0]
    rw [e1]
    simp only [f1, f2, at4 g0 g1, ez, e2, eT, e1, Nat.zero_add, sSeq, sSet, setV, sRet, retV, sRetN, sIf, sExpr, sNil, sPass, sBreak, sCont, sFor, thenS, bind_eq, pure_eq, eVar, eC, mBin, peek, Dl.settle, ofO, toV, toVs, peeks, aCons, aNil, aStar, eB, eIx, eSl, eTup, eLst, eLc_eq, eLc2_eq, bindF, iSeq, iRng1, iRng2, iZip, eCall, callM, prep, ssOf, ssOfs, dist, isAli, noAli, scaR, scaD, back, back1, ownOr, isOwn, tCmp, tVal, tru, truD, tNot, tAnd, tOr, tYes', eAnd, eOr, eNot, eIf, eNeg, gN, gT, gsCons, gsNil, sSetIx, ownLst, ckL, mAppend_eq, eFld, lkF, sSetF, ownObj, putF2, eMake, makeM, eOwn2, ckC, zipD, dZip, strs_r, strr_s, List.zipWith_cons_cons, List.zipWith_nil_left, List.zipWith_nil_right, List.mem_singleton, and_self, true_and, and_true,  oSome, oNo, gII, gIIc, dAdd, dSub, dMul, dDiv, dMod, dPow, dLt, dLe, dGt, dGe, gTT, gLL, gSS, gLen, gInt, gMax2, gMin2, gList, gTuple, gIsi, tyNm, dIx, dSl, items_l, items_t, noOwn, wipeS, backS, M.fail, post, mkFn, List.getElem?_cons_zero, List.getElem?_cons_succ, List.getElem?_nil, List.set_cons_zero, List.set_cons_succ, List.getD_cons_zero, List.getD_cons_succ, List.cons_append, List.nil_append, List.append_nil, List.length_cons, List.length_nil, List.replicate, List.tail_cons, List.tail_nil, List.any_cons, List.any_nil, List.all_cons, List.all_nil, List.map_cons, List.map_nil, Option.map_some, Option.map_none, Option.bind_some, Option.bind_none, Option.some_or, Option.none_or, Bool.not_true, Bool.not_false, Bool.and_true, Bool.true_and, Bool.and_false, Bool.false_and, Bool.or_true, Bool.or_false, Bool.true_or, Bool.false_or, Bool.false_eq_true, if_true, if_false, reduceIte, Nat.reduceAdd, Nat.reduceSub, Nat.reduceEqDiff, Nat.reduceBEq, Nat.reduceLT, decide_true, decide_false]
def dsN (span : Int) : Nat → DSt → DSt
  | 0, s => s
  | k + 1, s => dsN span k (dsStep span s)
theorem ds_loop {span : Int} (hs : 0 < span ∧ span < 2 ^ 64) {m : D} : ∀ (ds : List D) (s : DSt) (s6 s7 : S), s.sides.length + ds.length ≤ 2 ^ 20 →
    ∃ s6' s7', forL (gN 6) (b__law_draw_sides_1 fn_draw) ds [.own (.lst s.sh.ds), .own (.lst s.so.ds), .val m, .val (.int span), .own (.lst (lls s.sides)), .val (.int s.room), s6, s7, .no] =
      some (.nx [.own (.lst (dsN span ds.length s).sh.ds), .own (.lst (dsN span ds.length s).so.ds), .val m, .val (.int span), .own (.lst (lls (dsN span ds.length s).sides)), .val (.int (dsN span ds.length s).room), s6', s7', .no])
  | [], s, s6, s7, _ => ⟨s6, s7, rfl⟩
  | d :: ds, s, s6, s7, hl => by
    rw [List.length_cons] at hl
    have sz := sz20
    obtain ⟨t7, e1⟩ := ds_step hs (m := m) (k := d) (s := s) (s7 := s7) (by omega)
    obtain ⟨u6, u7, ih⟩ := ds_loop hs (m := m) ds (dsStep span s) (.val d) t7 (by
      show (s.sides ++ [_]).length + _ ≤ _
      rw [List.length_append, List.length_singleton]; omega)
    exact ⟨u6, u7, by rw [forL_cons rfl e1, ih]; rfl⟩
def fn_draw_sides : Fn
  | [.own (.lst [.int a, .int b, .int c]), .own (.lst [.int a2, .int b2, .int c2]), .val (.int m), .val (.int span)] =>
    if 0 ≤ m ∧ m ≤ 9 ∧ 0 < span ∧ span < 2 ^ 64 then
      some (.ret (.own (.lst (lls (dsN span m.toNat ⟨⟨a, b, c⟩, ⟨a2, b2, c2⟩, 96, []⟩).sides))) [.own (.lst (dsN span m.toNat ⟨⟨a, b, c⟩, ⟨a2, b2, c2⟩, 96, []⟩).sh.ds), .own (.lst (dsN span m.toNat ⟨⟨a, b, c⟩, ⟨a2, b2, c2⟩, 96, []⟩).so.ds), .val (.int m), .val (.int span)]) else none
  | _ => none
theorem le_draw_sides : Fn.le fn_draw_sides (mkFn 4 9 (f__law_draw_sides fn_draw)) := by
  intro ss o h
  unfold fn_draw_sides at h
  split at h
  · rename_i a b c a2 b2 c2 m span
    by_cases hm : 0 ≤ m ∧ m ≤ 9 ∧ 0 < span ∧ span < 2 ^ 64
    · rw [if_pos hm] at h
      cases h
      have ez := sz0
      obtain ⟨u6, u7, e1⟩ := ds_loop hm.2.2 (m := .int m) (rangeD 0 m.toNat) ⟨⟨a, b, c⟩, ⟨a2, b2, c2⟩, 96, []⟩ .no .no (by rw [rangeD_len, List.length_nil]; omega)
      rw [rangeD_len] at e1
      have e1 : forL (gN 6) (b__law_draw_sides_1 fn_draw) (rangeD 0 m.toNat) [.own (.lst [.int a, .int b, .int c]), .own (.lst [.int a2, .int b2, .int c2]), .val (.int m), .val (.int span), .own (.lst []), .val (.int 96), .no, .no, .no] = _ := e1
      simp only [f__law_draw_sides, ez, rng1 hm.1 (by omega : m ≤ 2 ^ 20), e1, sSeq, sSet, setV, sRet, retV, sRetN, sIf, sExpr, sNil, sPass, sBreak, sCont, sFor, thenS, bind_eq, pure_eq, eVar, eC, mBin, peek, Dl.settle, ofO, toV, toVs, peeks, aCons, aNil, aStar, eB, eIx, eSl, eTup, eLst, eLc_eq, eLc2_eq, bindF, iSeq, iRng1, iRng2, iZip, eCall, callM, prep, ssOf, ssOfs, dist, isAli, noAli, scaR, scaD, back, back1, ownOr, isOwn, tCmp, tVal, tru, truD, tNot, tAnd, tOr, tYes', eAnd, eOr, eNot, eIf, eNeg, gN, gT, gsCons, gsNil, sSetIx, ownLst, ckL, mAppend_eq, eFld, lkF, sSetF, ownObj, putF2, eMake, makeM, eOwn2, ckC, zipD, dZip, strs_r, strr_s, List.zipWith_cons_cons, List.zipWith_nil_left, List.zipWith_nil_right, List.mem_singleton, and_self, true_and, and_true,  oSome, oNo, gII, gIIc, dAdd, dSub, dMul, dDiv, dMod, dPow, dLt, dLe, dGt, dGe, gTT, gLL, gSS, gLen, gInt, gMax2, gMin2, gList, gTuple, gIsi, tyNm, dIx, dSl, items_l, items_t, noOwn, wipeS, backS, M.fail, post, mkFn, List.getElem?_cons_zero, List.getElem?_cons_succ, List.getElem?_nil, List.set_cons_zero, List.set_cons_succ, List.getD_cons_zero, List.getD_cons_succ, List.cons_append, List.nil_append, List.append_nil, List.length_cons, List.length_nil, List.replicate, List.tail_cons, List.tail_nil, List.any_cons, List.any_nil, List.all_cons, List.all_nil, List.map_cons, List.map_nil, Option.map_some, Option.map_none, Option.bind_some, Option.bind_none, Option.some_or, Option.none_or, Bool.not_true, Bool.not_false, Bool.and_true, Bool.true_and, Bool.and_false, Bool.false_and, Bool.or_true, Bool.or_false, Bool.true_or, Bool.false_or, Bool.false_eq_true, if_true, if_false, reduceIte, Nat.reduceAdd, Nat.reduceSub, Nat.reduceEqDiff, Nat.reduceBEq, Nat.reduceLT, decide_true, decide_false]
    · rw [if_neg hm] at h; cases h
  · cases h
end My

namespace My
open PySem Dl
open L2 (ixN atI)
theorem cutT1 {α : Type} (xs : List α) : cutD xs none (some 1) = xs.take 1 := by
  unfold cutD
  rw [show HT.sIx xs.length xs.length (some 1) = min 1 xs.length from HT.sIx_nat xs.length xs.length 1, HT.sIx_none, List.drop_zero, Nat.sub_zero]
  cases xs with
  | nil => rfl
  | cons x xs => rw [List.length_cons, show min 1 (xs.length + 1) = 1 by omega]
theorem cutD1 {α : Type} (xs : List α) : cutD xs (some 1) none = xs.drop 1 := by
  cases xs with
  | nil => rfl
  | cons x xs => rw [cut1]; rfl
def nrO (span : Int) (side : List Int) (s : DSt) : List Int := if s.sh.get 5 = 0 then drawN span ((s.sh.next 5).get 4).toNat s.so else if s.sh.get 5 = 1 then side.drop 1 else if s.sh.get 5 = 2 then side ++ [s.so.get span] else side
def nrSh (s : DSt) : Src := if s.sh.get 5 = 0 then (s.sh.next 5).next 4 else s.sh.next 5
def nrSo (span : Int) (s : DSt) : Src := if s.sh.get 5 = 0 then srcN span ((s.sh.next 5).get 4).toNat s.so else if s.sh.get 5 = 2 then s.so.next span else s.so
def nrC (span : Int) (side : List Int) (s : DSt) : List Int := if s.room < (nrO span side s).length then (nrO span side s).take 1 else nrO span side s
def nrStep (span : Int) (side : List Int) (s : DSt) : DSt := ⟨nrSh s, nrSo span s, s.room / mx1 (nrC span side s).length, s.sides ++ [nrC span side s]⟩
theorem nr_tail {d sd : D} {a1 a2 : S} {span room : Int} {s7 : S} {sides : List (List Int)} {other : List Int} (hl : sides.length < sizeLine) (ho : other.length ≤ 2 ^ 20) :
    ∃ s8 : S, (sSeq (sIf (tCmp (eGt (eB gLen (aCons (eVar 8) aNil)) (eVar 5))) (sSet 4 8 (eSl (eVar 8) oNo (oSome (eC (.int 1))))) sNil)
      (sSeq (sSet 4 5 (eDiv (eVar 5) (eB gMax2 (aCons (eC (.int 1)) (aCons (eB gLen (aCons (eVar 8) aNil)) aNil)))))
      (sExpr (mAppend (eVar 4) (eVar 8))))) [.val d, a1, a2, .val (.int span), .own (.lst (lls sides)), .val (.int room), .val sd, s7, .own (.lst (other.map .int)), .no] =
    some (.nx [.val d, a1, a2, .val (.int span), .own (.lst (lls (sides ++ [if room < other.length then other.take 1 else other]))), .val (.int (room / mx1 (if room < other.length then other.take 1 else other).length)), .val sd, s7, s8, .no]) := by
  have hl2 : (lls sides).length < sizeLine := by unfold lls; rw [List.length_map]; exact hl
  by_cases h : room < other.length
  · have e1 : decide (room < (other.map D.int).length) = true := decide_eq_true (by rw [List.length_map]; exact h)
    have em : (if (((other.map D.int).take 1).length : Int) > 1 then (((other.map D.int).take 1).length : Int) else 1) = mx1 (other.take 1).length := by
      rw [← List.map_take, List.length_map]; rfl
    have ed : divOk room (mx1 (other.take 1).length) = true := decide_eq_true (by
      have : (other.take 1).length ≤ other.length := by rw [List.length_take]; omega
      unfold mx1; split <;> omega)
    have ea : lls sides ++ [.lst ((other.map D.int).take 1)] = lls (sides ++ [other.take 1]) := by simp [lls]
    rw [if_pos h]
    refine ⟨.val (.lst ((other.map D.int).take 1)), ?_⟩
    simp only [e1, cutT1, em, ed, hl2, ea, sSeq, sSet, setV, sRet, retV, sRetN, sIf, sExpr, sNil, sPass, sBreak, sCont, sFor, thenS, bind_eq, pure_eq, eVar, eC, mBin, peek, Dl.settle, ofO, toV, toVs, peeks, aCons, aNil, aStar, eB, eIx, eSl, eTup, eLst, eLc_eq, eLc2_eq, bindF, iSeq, iRng1, iRng2, iZip, eCall, callM, prep, ssOf, ssOfs, dist, isAli, noAli, scaR, scaD, back, back1, ownOr, isOwn, tCmp, tVal, tru, truD, tNot, tAnd, tOr, tYes', eAnd, eOr, eNot, eIf, eNeg, gN, gT, gsCons, gsNil, sSetIx, ownLst, ckL, mAppend_eq, eFld, lkF, sSetF, ownObj, putF2, eMake, makeM, eOwn2, ckC, zipD, dZip, strs_r, strr_s, List.zipWith_cons_cons, List.zipWith_nil_left, List.zipWith_nil_right, List.mem_singleton, and_self, true_and, and_true,  oSome, oNo, gII, gIIc, dAdd, dSub, dMul, dDiv, dMod, dPow, dLt, dLe, dGt, dGe, gTT, gLL, gSS, gLen, gInt, gMax2, gMin2, gList, gTuple, gIsi, tyNm, dIx, dSl, items_l, items_t, noOwn, wipeS, backS, M.fail, post, mkFn, List.getElem?_cons_zero, List.getElem?_cons_succ, List.getElem?_nil, List.set_cons_zero, List.set_cons_succ, List.getD_cons_zero, List.getD_cons_succ, List.cons_append, List.nil_append, List.append_nil, List.length_cons, List.length_nil, List.replicate, List.tail_cons, List.tail_nil, List.any_cons, List.any_nil, List.all_cons, List.all_nil, List.map_cons, List.map_nil, Option.map_some, Option.map_none, Option.bind_some, Option.bind_none, Option.some_or, Option.none_or, Bool.not_true, Bool.not_false, Bool.and_true, Bool.true_and, Bool.and_false, Bool.false_and, Bool.or_true, Bool.or_false, Bool.true_or, Bool.false_or, Bool.false_eq_true, if_true, if_false, reduceIte, Nat.reduceAdd, Nat.reduceSub, Nat.reduceEqDiff, Nat.reduceBEq, Nat.reduceLT, decide_true, decide_false]
  · have e1 : decide (room < (other.map D.int).length) = false := decide_eq_false (by rw [List.length_map]; exact h)
    have em : (if ((other.map D.int).length : Int) > 1 then ((other.map D.int).length : Int) else 1) = mx1 other.length := by
      rw [List.length_map]; rfl
    have ed : divOk room (mx1 other.length) = true := decide_eq_true (by unfold mx1; split <;> omega)
    have ea : lls sides ++ [.lst (other.map D.int)] = lls (sides ++ [other]) := by simp [lls]
    rw [if_neg h]
    refine ⟨.val (.lst (other.map D.int)), ?_⟩
    simp only [e1, em, ed, hl2, ea, sSeq, sSet, setV, sRet, retV, sRetN, sIf, sExpr, sNil, sPass, sBreak, sCont, sFor, thenS, bind_eq, pure_eq, eVar, eC, mBin, peek, Dl.settle, ofO, toV, toVs, peeks, aCons, aNil, aStar, eB, eIx, eSl, eTup, eLst, eLc_eq, eLc2_eq, bindF, iSeq, iRng1, iRng2, iZip, eCall, callM, prep, ssOf, ssOfs, dist, isAli, noAli, scaR, scaD, back, back1, ownOr, isOwn, tCmp, tVal, tru, truD, tNot, tAnd, tOr, tYes', eAnd, eOr, eNot, eIf, eNeg, gN, gT, gsCons, gsNil, sSetIx, ownLst, ckL, mAppend_eq, eFld, lkF, sSetF, ownObj, putF2, eMake, makeM, eOwn2, ckC, zipD, dZip, strs_r, strr_s, List.zipWith_cons_cons, List.zipWith_nil_left, List.zipWith_nil_right, List.mem_singleton, and_self, true_and, and_true,  oSome, oNo, gII, gIIc, dAdd, dSub, dMul, dDiv, dMod, dPow, dLt, dLe, dGt, dGe, gTT, gLL, gSS, gLen, gInt, gMax2, gMin2, gList, gTuple, gIsi, tyNm, dIx, dSl, items_l, items_t, noOwn, wipeS, backS, M.fail, post, mkFn, List.getElem?_cons_zero, List.getElem?_cons_succ, List.getElem?_nil, List.set_cons_zero, List.set_cons_succ, List.getD_cons_zero, List.getD_cons_succ, List.cons_append, List.nil_append, List.append_nil, List.length_cons, List.length_nil, List.replicate, List.tail_cons, List.tail_nil, List.any_cons, List.any_nil, List.all_cons, List.all_nil, List.map_cons, List.map_nil, Option.map_some, Option.map_none, Option.bind_some, Option.bind_none, Option.some_or, Option.none_or, Bool.not_true, Bool.not_false, Bool.and_true, Bool.true_and, Bool.and_false, Bool.false_and, Bool.or_true, Bool.or_false, Bool.true_or, Bool.false_or, Bool.false_eq_true, if_true, if_false, reduceIte, Nat.reduceAdd, Nat.reduceSub, Nat.reduceEqDiff, Nat.reduceBEq, Nat.reduceLT, decide_true, decide_false]
theorem lcNR {span : Int} (hs : 0 < span ∧ span < 2 ^ 64) {a0 a1 a4 a5 a6 a7 a8 : S} : ∀ (ds acc : List D) (s : Src),
    lcL (gN 9) tYes' (eCall [true, false] fn_draw (aCons (eVar 2) (aCons (eVar 3) aNil))) [9] ds acc [a0, a1, .own (.lst s.ds), .val (.int span), a4, a5, a6, a7, a8, .no] =
      some (.ok (acc ++ (drawN span ds.length s).map .int) [a0, a1, .own (.lst (srcN span ds.length s).ds), .val (.int span), a4, a5, a6, a7, a8, .no])
  | [], acc, s => by unfold lcL; simp [drawN, srcN]
  | d :: ds, acc, s => by
    have ih := lcNR hs (a0 := a0) (a1 := a1) (a4 := a4) (a5 := a5) (a6 := a6) (a7 := a7) (a8 := a8) ds (acc ++ [.int (s.get span)]) (s.next span)
    have h1 : gN 9 d (wipeS [a0, a1, .own (.lst s.ds), .val (.int span), a4, a5, a6, a7, a8, .no] [9]) = some [a0, a1, .own (.lst s.ds), .val (.int span), a4, a5, a6, a7, a8, .val d] := rfl
    have h2 : ∀ ρ : List S, tYes' ρ = some (Ot.ok true ρ) := fun _ => rfl
    have h3 : (eCall [true, false] fn_draw (aCons (eVar 2) (aCons (eVar 3) aNil)) >>= toV) [a0, a1, .own (.lst s.ds), .val (.int span), a4, a5, a6, a7, a8, .val d] = some (Ot.ok (D.int (s.get span)) [a0, a1, .own (.lst (s.next span).ds), .val (.int span), a4, a5, a6, a7, a8, .val d]) := by
      simp only [fnd hs, sSeq, sSet, setV, sRet, retV, sRetN, sIf, sExpr, sNil, sPass, sBreak, sCont, sFor, thenS, bind_eq, pure_eq, eVar, eC, mBin, peek, Dl.settle, ofO, toV, toVs, peeks, aCons, aNil, aStar, eB, eIx, eSl, eTup, eLst, eLc_eq, eLc2_eq, bindF, iSeq, iRng1, iRng2, iZip, eCall, callM, prep, ssOf, ssOfs, dist, isAli, noAli, scaR, scaD, back, back1, ownOr, isOwn, tCmp, tVal, tru, truD, tNot, tAnd, tOr, tYes', eAnd, eOr, eNot, eIf, eNeg, gN, gT, gsCons, gsNil, sSetIx, ownLst, ckL, mAppend_eq, eFld, lkF, sSetF, ownObj, putF2, eMake, makeM, eOwn2, ckC, zipD, dZip, strs_r, strr_s, List.zipWith_cons_cons, List.zipWith_nil_left, List.zipWith_nil_right, List.mem_singleton, and_self, true_and, and_true,  oSome, oNo, gII, gIIc, dAdd, dSub, dMul, dDiv, dMod, dPow, dLt, dLe, dGt, dGe, gTT, gLL, gSS, gLen, gInt, gMax2, gMin2, gList, gTuple, gIsi, tyNm, dIx, dSl, items_l, items_t, noOwn, wipeS, backS, M.fail, post, mkFn, List.getElem?_cons_zero, List.getElem?_cons_succ, List.getElem?_nil, List.set_cons_zero, List.set_cons_succ, List.getD_cons_zero, List.getD_cons_succ, List.cons_append, List.nil_append, List.append_nil, List.length_cons, List.length_nil, List.replicate, List.tail_cons, List.tail_nil, List.any_cons, List.any_nil, List.all_cons, List.all_nil, List.map_cons, List.map_nil, Option.map_some, Option.map_none, Option.bind_some, Option.bind_none, Option.some_or, Option.none_or, Bool.not_true, Bool.not_false, Bool.and_true, Bool.true_and, Bool.and_false, Bool.false_and, Bool.or_true, Bool.or_false, Bool.true_or, Bool.false_or, Bool.false_eq_true, if_true, if_false, reduceIte, Nat.reduceAdd, Nat.reduceSub, Nat.reduceEqDiff, Nat.reduceBEq, Nat.reduceLT, decide_true, decide_false]
    have h4 : backS [a0, a1, .own (.lst s.ds), .val (.int span), a4, a5, a6, a7, a8, .no] [a0, a1, .own (.lst (s.next span).ds), .val (.int span), a4, a5, a6, a7, a8, .val d] [9] = [a0, a1, .own (.lst (s.next span).ds), .val (.int span), a4, a5, a6, a7, a8, .no] := rfl
    unfold lcL
    rw [h1]; dsimp only; rw [h2]; dsimp only; rw [h3]; dsimp only
    rw [h4, ih]
    rw [List.append_assoc]; rfl
theorem nr_step {span : Int} (hs : 0 < span ∧ span < 2 ^ 64) {d : D} {side : List Int} {s : DSt} {s7 s8 : S} (hl : s.sides.length < sizeLine) (hd : side.length < 2 ^ 20) :
    ∃ s7' s8', b__law_near_1 fn_draw [.val d, .own (.lst s.sh.ds), .own (.lst s.so.ds), .val (.int span), .own (.lst (lls s.sides)), .val (.int s.room), .val (.lst (side.map .int)), s7, s8, .no] =
      some (.nx [.val d, .own (.lst (nrStep span side s).sh.ds), .own (.lst (nrStep span side s).so.ds), .val (.int span), .own (.lst (lls (nrStep span side s).sides)), .val (.int (nrStep span side s).room), .val (.lst (side.map .int)), s7', s8', .no]) := by
  have f1 : fn_draw [.own (.lst s.sh.ds), .val (.int 5)] = _ := fnd ⟨by decide, by decide⟩
  have f2 : fn_draw [.own (.lst (s.sh.next 5).ds), .val (.int 4)] = _ := fnd ⟨by decide, by decide⟩
  have f3 : fn_draw [.own (.lst s.so.ds), .val (.int span)] = _ := fnd hs
  have ez := sz1
  refine ⟨.val (.int (s.sh.get 5)), ?_⟩
  unfold b__law_near_1
  by_cases h0 : s.sh.get 5 = 0
  · have c0 := Src.get_nonneg (s.sh.next 5) (n := 4) (by decide)
    have c1 := Src.get_lt (s.sh.next 5) (n := 4) (by decide)
    obtain ⟨t8, ht⟩ := nr_tail (d := d) (sd := .lst (side.map .int)) (a1 := .own (.lst ((s.sh.next 5).next 4).ds)) (a2 := .own (.lst (srcN span ((s.sh.next 5).get 4).toNat s.so).ds)) (span := span) (room := s.room) (s7 := .val (.int (s.sh.get 5))) (sides := s.sides) (other := drawN span ((s.sh.next 5).get 4).toNat s.so) hl (by rw [drawN_len]; omega)
    refine ⟨t8, ?_⟩
    have eS : nrStep span side s = ⟨(s.sh.next 5).next 4, srcN span ((s.sh.next 5).get 4).toNat s.so, s.room / mx1 (if s.room < (drawN span ((s.sh.next 5).get 4).toNat s.so).length then (drawN span ((s.sh.next 5).get 4).toNat s.so).take 1 else drawN span ((s.sh.next 5).get 4).toNat s.so).length, s.sides ++ [if s.room < (drawN span ((s.sh.next 5).get 4).toNat s.so).length then (drawN span ((s.sh.next 5).get 4).toNat s.so).take 1 else drawN span ((s.sh.next 5).get 4).toNat s.so]⟩ := by
      unfold nrStep nrC nrO nrSh nrSo
      simp only [h0, if_true]
    rw [eS]
    dsimp only
    rw [← ht]
    have hc : c__law_near_1 fn_draw [.val d, .own (.lst (s.sh.next 5).ds), .own (.lst s.so.ds), .val (.int span), .own (.lst (lls s.sides)), .val (.int s.room), .val (.lst (side.map .int)), .val (.int (s.sh.get 5)), .own (.lst (side.map .int)), .no] =
        some (.ok (.own (.lst ((drawN span ((s.sh.next 5).get 4).toNat s.so).map .int))) [.val d, .own (.lst ((s.sh.next 5).next 4).ds), .own (.lst (srcN span ((s.sh.next 5).get 4).toNat s.so).ds), .val (.int span), .own (.lst (lls s.sides)), .val (.int s.room), .val (.lst (side.map .int)), .val (.int (s.sh.get 5)), .own (.lst (side.map .int)), .no]) := by
      unfold c__law_near_1
      rw [eLc_eq]
      have hit : iRng1 (aCons (eCall [true, false] fn_draw (aCons (eVar 1) (aCons (eC (.int 4)) aNil))) aNil) [.val d, .own (.lst (s.sh.next 5).ds), .own (.lst s.so.ds), .val (.int span), .own (.lst (lls s.sides)), .val (.int s.room), .val (.lst (side.map .int)), .val (.int (s.sh.get 5)), .own (.lst (side.map .int)), .no] = some (.ok (rangeD 0 ((s.sh.next 5).get 4).toNat) [.val d, .own (.lst ((s.sh.next 5).next 4).ds), .own (.lst s.so.ds), .val (.int span), .own (.lst (lls s.sides)), .val (.int s.room), .val (.lst (side.map .int)), .val (.int (s.sh.get 5)), .own (.lst (side.map .int)), .no]) := by
        simp only [f2, rng1 c0 (by omega : (s.sh.next 5).get 4 ≤ 2 ^ 20), sSeq, sSet, setV, sRet, retV, sRetN, sIf, sExpr, sNil, sPass, sBreak, sCont, sFor, thenS, bind_eq, pure_eq, eVar, eC, mBin, peek, Dl.settle, ofO, toV, toVs, peeks, aCons, aNil, aStar, eB, eIx, eSl, eTup, eLst, eLc_eq, eLc2_eq, bindF, iSeq, iRng1, iRng2, iZip, eCall, callM, prep, ssOf, ssOfs, dist, isAli, noAli, scaR, scaD, back, back1, ownOr, isOwn, tCmp, tVal, tru, truD, tNot, tAnd, tOr, tYes', eAnd, eOr, eNot, eIf, eNeg, gN, gT, gsCons, gsNil, sSetIx, ownLst, ckL, mAppend_eq, eFld, lkF, sSetF, ownObj, putF2, eMake, makeM, eOwn2, ckC, zipD, dZip, strs_r, strr_s, List.zipWith_cons_cons, List.zipWith_nil_left, List.zipWith_nil_right, List.mem_singleton, and_self, true_and, and_true,  oSome, oNo, gII, gIIc, dAdd, dSub, dMul, dDiv, dMod, dPow, dLt, dLe, dGt, dGe, gTT, gLL, gSS, gLen, gInt, gMax2, gMin2, gList, gTuple, gIsi, tyNm, dIx, dSl, items_l, items_t, noOwn, wipeS, backS, M.fail, post, mkFn, List.getElem?_cons_zero, List.getElem?_cons_succ, List.getElem?_nil, List.set_cons_zero, List.set_cons_succ, List.getD_cons_zero, List.getD_cons_succ, List.cons_append, List.nil_append, List.append_nil, List.length_cons, List.length_nil, List.replicate, List.tail_cons, List.tail_nil, List.any_cons, List.any_nil, List.all_cons, List.all_nil, List.map_cons, List.map_nil, Option.map_some, Option.map_none, Option.bind_some, Option.bind_none, Option.some_or, Option.none_or, Bool.not_true, Bool.not_false, Bool.and_true, Bool.true_and, Bool.and_false, Bool.false_and, Bool.or_true, Bool.or_false, Bool.true_or, Bool.false_or, Bool.false_eq_true, if_true, if_false, reduceIte, Nat.reduceAdd, Nat.reduceSub, Nat.reduceEqDiff, Nat.reduceBEq, Nat.reduceLT, decide_true, decide_false]
      unfold bindF
      rw [hit]; dsimp only
      have hn : noOwn [.val d, .own (.lst ((s.sh.next 5).next 4).ds), .own (.lst s.so.ds), .val (.int span), .own (.lst (lls s.sides)), .val (.int s.room), .val (.lst (side.map .int)), .val (.int (s.sh.get 5)), .own (.lst (side.map .int)), .no] [9] = true := rfl
      rw [if_pos hn, lcNR hs, rangeD_len, List.nil_append]
    have q0 : (s.sh.get 5 == 0) = true := beq_iff_eq.mpr h0
    have q1 : (s.sh.get 5 == 1) = false := beq_eq_false_iff_ne.mpr (by omega)
    have q2 : (s.sh.get 5 == 2) = false := beq_eq_false_iff_ne.mpr (by omega)
    simp only [f1, dEq_ii, q0, q1, q2, hc, sSeq, sSet, setV, sRet, retV, sRetN, sIf, sExpr, sNil, sPass, sBreak, sCont, sFor, thenS, bind_eq, pure_eq, eVar, eC, mBin, peek, Dl.settle, ofO, toV, toVs, peeks, aCons, aNil, aStar, eB, eIx, eSl, eTup, eLst, eLc_eq, eLc2_eq, bindF, iSeq, iRng1, iRng2, iZip, eCall, callM, prep, ssOf, ssOfs, dist, isAli, noAli, scaR, scaD, back, back1, ownOr, isOwn, tCmp, tVal, tru, truD, tNot, tAnd, tOr, tYes', eAnd, eOr, eNot, eIf, eNeg, gN, gT, gsCons, gsNil, sSetIx, ownLst, ckL, mAppend_eq, eFld, lkF, sSetF, ownObj, putF2, eMake, makeM, eOwn2, ckC, zipD, dZip, strs_r, strr_s, List.zipWith_cons_cons, List.zipWith_nil_left, List.zipWith_nil_right, List.mem_singleton, and_self, true_and, and_true,  oSome, oNo, gII, gIIc, dAdd, dSub, dMul, dDiv, dMod, dPow, dLt, dLe, dGt, dGe, gTT, gLL, gSS, gLen, gInt, gMax2, gMin2, gList, gTuple, gIsi, tyNm, dIx, dSl, items_l, items_t, noOwn, wipeS, backS, M.fail, post, mkFn, List.getElem?_cons_zero, List.getElem?_cons_succ, List.getElem?_nil, List.set_cons_zero, List.set_cons_succ, List.getD_cons_zero, List.getD_cons_succ, List.cons_append, List.nil_append, List.append_nil, List.length_cons, List.length_nil, List.replicate, List.tail_cons, List.tail_nil, List.any_cons, List.any_nil, List.all_cons, List.all_nil, List.map_cons, List.map_nil, Option.map_some, Option.map_none, Option.bind_some, Option.bind_none, Option.some_or, Option.none_or, Bool.not_true, Bool.not_false, Bool.and_true, Bool.true_and, Bool.and_false, Bool.false_and, Bool.or_true, Bool.or_false, Bool.true_or, Bool.false_or, Bool.false_eq_true, if_true, if_false, reduceIte, Nat.reduceAdd, Nat.reduceSub, Nat.reduceEqDiff, Nat.reduceBEq, Nat.reduceLT, decide_true, decide_false]
  · have q0 : (s.sh.get 5 == 0) = false := beq_eq_false_iff_ne.mpr h0
    by_cases h1 : s.sh.get 5 = 1
    · obtain ⟨t8, ht⟩ := nr_tail (d := d) (sd := .lst (side.map .int)) (a1 := .own (.lst (s.sh.next 5).ds)) (a2 := .own (.lst s.so.ds)) (span := span) (room := s.room) (s7 := .val (.int (s.sh.get 5))) (sides := s.sides) (other := side.drop 1) hl (by rw [List.length_drop]; omega)
      refine ⟨t8, ?_⟩
      have eS : nrStep span side s = ⟨s.sh.next 5, s.so, s.room / mx1 (if s.room < (side.drop 1).length then (side.drop 1).take 1 else side.drop 1).length, s.sides ++ [if s.room < (side.drop 1).length then (side.drop 1).take 1 else side.drop 1]⟩ := by
        unfold nrStep nrC nrO nrSh nrSo
        rw [if_neg h0, if_neg h0, if_neg h0, if_pos h1, if_neg (by omega)]
      rw [eS]
      dsimp only
      rw [← ht]
      have q1 : (s.sh.get 5 == 1) = true := beq_iff_eq.mpr h1
      have q2 : (s.sh.get 5 == 2) = false := beq_eq_false_iff_ne.mpr (by omega)
      have eD : (side.map D.int).drop 1 = (side.drop 1).map D.int := List.map_drop.symm
      simp only [f1, dEq_ii, q0, q1, q2, cutD1, eD, sSeq, sSet, setV, sRet, retV, sRetN, sIf, sExpr, sNil, sPass, sBreak, sCont, sFor, thenS, bind_eq, pure_eq, eVar, eC, mBin, peek, Dl.settle, ofO, toV, toVs, peeks, aCons, aNil, aStar, eB, eIx, eSl, eTup, eLst, eLc_eq, eLc2_eq, bindF, iSeq, iRng1, iRng2, iZip, eCall, callM, prep, ssOf, ssOfs, dist, isAli, noAli, scaR, scaD, back, back1, ownOr, isOwn, tCmp, tVal, tru, truD, tNot, tAnd, tOr, tYes', eAnd, eOr, eNot, eIf, eNeg, gN, gT, gsCons, gsNil, sSetIx, ownLst, ckL, mAppend_eq, eFld, lkF, sSetF, ownObj, putF2, eMake, makeM, eOwn2, ckC, zipD, dZip, strs_r, strr_s, List.zipWith_cons_cons, List.zipWith_nil_left, List.zipWith_nil_right, List.mem_singleton, and_self, true_and, and_true,  oSome, oNo, gII, gIIc, dAdd, dSub, dMul, dDiv, dMod, dPow, dLt, dLe, dGt, dGe, gTT, gLL, gSS, gLen, gInt, gMax2, gMin2, gList, gTuple, gIsi, tyNm, dIx, dSl, items_l, items_t, noOwn, wipeS, backS, M.fail, post, mkFn, List.getElem?_cons_zero, List.getElem?_cons_succ, List.getElem?_nil, List.set_cons_zero, List.set_cons_succ, List.getD_cons_zero, List.getD_cons_succ, List.cons_append, List.nil_append, List.append_nil, List.length_cons, List.length_nil, List.replicate, List.tail_cons, List.tail_nil, List.any_cons, List.any_nil, List.all_cons, List.all_nil, List.map_cons, List.map_nil, Option.map_some, Option.map_none, Option.bind_some, Option.bind_none, Option.some_or, Option.none_or, Bool.not_true, Bool.not_false, Bool.and_true, Bool.true_and, Bool.and_false, Bool.false_and, Bool.or_true, Bool.or_false, Bool.true_or, Bool.false_or, Bool.false_eq_true, if_true, if_false, reduceIte, Nat.reduceAdd, Nat.reduceSub, Nat.reduceEqDiff, Nat.reduceBEq, Nat.reduceLT, decide_true, decide_false]
    · have q1 : (s.sh.get 5 == 1) = false := beq_eq_false_iff_ne.mpr h1
      by_cases h2 : s.sh.get 5 = 2
      · obtain ⟨t8, ht⟩ := nr_tail (d := d) (sd := .lst (side.map .int)) (a1 := .own (.lst (s.sh.next 5).ds)) (a2 := .own (.lst (s.so.next span).ds)) (span := span) (room := s.room) (s7 := .val (.int (s.sh.get 5))) (sides := s.sides) (other := side ++ [s.so.get span]) hl (by rw [List.length_append, List.length_singleton]; omega)
        refine ⟨t8, ?_⟩
        have eS : nrStep span side s = ⟨s.sh.next 5, s.so.next span, s.room / mx1 (if s.room < (side ++ [s.so.get span]).length then (side ++ [s.so.get span]).take 1 else side ++ [s.so.get span]).length, s.sides ++ [if s.room < (side ++ [s.so.get span]).length then (side ++ [s.so.get span]).take 1 else side ++ [s.so.get span]]⟩ := by
          unfold nrStep nrC nrO nrSh nrSo
          rw [if_neg h0, if_neg h0, if_neg h0, if_neg h1, if_pos h2, if_pos h2]
        rw [eS]
        dsimp only
        rw [← ht]
        have q2 : (s.sh.get 5 == 2) = true := beq_iff_eq.mpr h2
        have eD : side.map D.int ++ [.int (s.so.get span)] = (side ++ [s.so.get span]).map D.int := by simp
        have sz := sz20
        have eL : (side.map D.int).length + 1 ≤ sizeLine := by rw [List.length_map]; omega
        simp only [f1, f3, dEq_ii, q0, q1, q2, ez, eD, eL, Nat.zero_add, sSeq, sSet, setV, sRet, retV, sRetN, sIf, sExpr, sNil, sPass, sBreak, sCont, sFor, thenS, bind_eq, pure_eq, eVar, eC, mBin, peek, Dl.settle, ofO, toV, toVs, peeks, aCons, aNil, aStar, eB, eIx, eSl, eTup, eLst, eLc_eq, eLc2_eq, bindF, iSeq, iRng1, iRng2, iZip, eCall, callM, prep, ssOf, ssOfs, dist, isAli, noAli, scaR, scaD, back, back1, ownOr, isOwn, tCmp, tVal, tru, truD, tNot, tAnd, tOr, tYes', eAnd, eOr, eNot, eIf, eNeg, gN, gT, gsCons, gsNil, sSetIx, ownLst, ckL, mAppend_eq, eFld, lkF, sSetF, ownObj, putF2, eMake, makeM, eOwn2, ckC, zipD, dZip, strs_r, strr_s, List.zipWith_cons_cons, List.zipWith_nil_left, List.zipWith_nil_right, List.mem_singleton, and_self, true_and, and_true,  oSome, oNo, gII, gIIc, dAdd, dSub, dMul, dDiv, dMod, dPow, dLt, dLe, dGt, dGe, gTT, gLL, gSS, gLen, gInt, gMax2, gMin2, gList, gTuple, gIsi, tyNm, dIx, dSl, items_l, items_t, noOwn, wipeS, backS, M.fail, post, mkFn, List.getElem?_cons_zero, List.getElem?_cons_succ, List.getElem?_nil, List.set_cons_zero, List.set_cons_succ, List.getD_cons_zero, List.getD_cons_succ, List.cons_append, List.nil_append, List.append_nil, List.length_cons, List.length_nil, List.replicate, List.tail_cons, List.tail_nil, List.any_cons, List.any_nil, List.all_cons, List.all_nil, List.map_cons, List.map_nil, Option.map_some, Option.map_none, Option.bind_some, Option.bind_none, Option.some_or, Option.none_or, Bool.not_true, Bool.not_false, Bool.and_true, Bool.true_and, Bool.and_false, Bool.false_and, Bool.or_true, Bool.or_false, Bool.true_or, Bool.false_or, Bool.false_eq_true, if_true, if_false, reduceIte, Nat.reduceAdd, Nat.reduceSub, Nat.reduceEqDiff, Nat.reduceBEq, Nat.reduceLT, decide_true, decide_false]
      · obtain ⟨t8, ht⟩ := nr_tail (d := d) (sd := .lst (side.map .int)) (a1 := .own (.lst (s.sh.next 5).ds)) (a2 := .own (.lst s.so.ds)) (span := span) (room := s.room) (s7 := .val (.int (s.sh.get 5))) (sides := s.sides) (other := side) hl (by omega)
        refine ⟨t8, ?_⟩
        have eS : nrStep span side s = ⟨s.sh.next 5, s.so, s.room / mx1 (if s.room < side.length then side.take 1 else side).length, s.sides ++ [if s.room < side.length then side.take 1 else side]⟩ := by
          unfold nrStep nrC nrO nrSh nrSo
          rw [if_neg h0, if_neg h0, if_neg h0, if_neg h1, if_neg h2, if_neg h2]
        rw [eS]
        dsimp only
        rw [← ht]
        have q2 : (s.sh.get 5 == 2) = false := beq_eq_false_iff_ne.mpr h2
        simp only [f1, dEq_ii, q0, q1, q2, sSeq, sSet, setV, sRet, retV, sRetN, sIf, sExpr, sNil, sPass, sBreak, sCont, sFor, thenS, bind_eq, pure_eq, eVar, eC, mBin, peek, Dl.settle, ofO, toV, toVs, peeks, aCons, aNil, aStar, eB, eIx, eSl, eTup, eLst, eLc_eq, eLc2_eq, bindF, iSeq, iRng1, iRng2, iZip, eCall, callM, prep, ssOf, ssOfs, dist, isAli, noAli, scaR, scaD, back, back1, ownOr, isOwn, tCmp, tVal, tru, truD, tNot, tAnd, tOr, tYes', eAnd, eOr, eNot, eIf, eNeg, gN, gT, gsCons, gsNil, sSetIx, ownLst, ckL, mAppend_eq, eFld, lkF, sSetF, ownObj, putF2, eMake, makeM, eOwn2, ckC, zipD, dZip, strs_r, strr_s, List.zipWith_cons_cons, List.zipWith_nil_left, List.zipWith_nil_right, List.mem_singleton, and_self, true_and, and_true,  oSome, oNo, gII, gIIc, dAdd, dSub, dMul, dDiv, dMod, dPow, dLt, dLe, dGt, dGe, gTT, gLL, gSS, gLen, gInt, gMax2, gMin2, gList, gTuple, gIsi, tyNm, dIx, dSl, items_l, items_t, noOwn, wipeS, backS, M.fail, post, mkFn, List.getElem?_cons_zero, List.getElem?_cons_succ, List.getElem?_nil, List.set_cons_zero, List.set_cons_succ, List.getD_cons_zero, List.getD_cons_succ, List.cons_append, List.nil_append, List.append_nil, List.length_cons, List.length_nil, List.replicate, List.tail_cons, List.tail_nil, List.any_cons, List.any_nil, List.all_cons, List.all_nil, List.map_cons, List.map_nil, Option.map_some, Option.map_none, Option.bind_some, Option.bind_none, Option.some_or, Option.none_or, Bool.not_true, Bool.not_false, Bool.and_true, Bool.true_and, Bool.and_false, Bool.false_and, Bool.or_true, Bool.or_false, Bool.true_or, Bool.false_or, Bool.false_eq_true, if_true, if_false, reduceIte, Nat.reduceAdd, Nat.reduceSub, Nat.reduceEqDiff, Nat.reduceBEq, Nat.reduceLT, decide_true, decide_false]
end My

namespace My
open PySem Dl
open L2 (ixN atI)
def llD : List D → Option (List (List Int))
  | [] => some []
  | .lst d :: ds => match asInts d, llD ds with
    | some s, some ss => some (s :: ss)
    | _, _ => none
  | _ => none
theorem llD_l : ∀ ss : List (List Int), llD (lls ss) = some ss
  | [] => rfl
  | s :: ss => by
    show llD (.lst (s.map .int) :: lls ss) = _
    unfold llD
    rw [asInts_map, llD_l ss]
theorem llD_eq : ∀ {ds : List D} {ss : List (List Int)}, llD ds = some ss → ds = lls ss
  | [], ss, h => by cases h; rfl
  | d :: ds, ss, h => by
    cases d <;> first
      | (cases h; done)
      | (rename_i x
         unfold llD at h
         cases h1 : asInts x with
         | none => rw [h1] at h; cases h
         | some s =>
           cases h2 : llD ds with
           | none => rw [h1, h2] at h; cases h
           | some r => rw [h1, h2] at h; cases h; rw [asInts_eq h1, llD_eq h2]; rfl)
def nrN (span : Int) : List (List Int) → DSt → DSt
  | [], s => s
  | x :: xs, s => nrN span xs (nrStep span x s)
theorem nr_loop {span : Int} (hs : 0 < span ∧ span < 2 ^ 64) {d : D} : ∀ (xs : List (List Int)) (s : DSt) (s6 s7 s8 : S), s.sides.length + xs.length ≤ 2 ^ 20 → (∀ x ∈ xs, x.length < 2 ^ 20) →
    ∃ s6' s7' s8', forL (gN 6) (b__law_near_1 fn_draw) (lls xs) [.val d, .own (.lst s.sh.ds), .own (.lst s.so.ds), .val (.int span), .own (.lst (lls s.sides)), .val (.int s.room), s6, s7, s8, .no] =
      some (.nx [.val d, .own (.lst (nrN span xs s).sh.ds), .own (.lst (nrN span xs s).so.ds), .val (.int span), .own (.lst (lls (nrN span xs s).sides)), .val (.int (nrN span xs s).room), s6', s7', s8', .no])
  | [], s, s6, s7, s8, _, _ => ⟨s6, s7, s8, rfl⟩
  | x :: xs, s, s6, s7, s8, hl, hx => by
    rw [List.length_cons] at hl
    have sz := sz20
    obtain ⟨t7, t8, e1⟩ := nr_step hs (d := d) (side := x) (s := s) (s7 := s7) (s8 := s8) (by omega) (hx x List.mem_cons_self)
    obtain ⟨u6, u7, u8, ih⟩ := nr_loop hs (d := d) xs (nrStep span x s) (.val (.lst (x.map .int))) t7 t8 (by
      show (s.sides ++ [_]).length + _ ≤ _
      rw [List.length_append, List.length_singleton]; omega) fun q hq => hx q (List.mem_cons_of_mem _ hq)
    refine ⟨u6, u7, u8, ?_⟩
    show forL _ _ (.lst (x.map .int) :: lls xs) _ = _
    rw [forL_cons rfl e1, ih]; rfl
def fn_near : Fn
  | [.val (.lst ds), .own (.lst [.int a, .int b, .int c]), .own (.lst [.int a2, .int b2, .int c2]), .val (.int span)] => match llD ds with
    | some xs => if (0 < span ∧ span < 2 ^ 64) ∧ xs.length ≤ 2 ^ 20 ∧ ∀ x ∈ xs, x.length < 2 ^ 20 then
      some (.ret (.own (.lst (lls (nrN span xs ⟨⟨a, b, c⟩, ⟨a2, b2, c2⟩, 128, []⟩).sides))) [.val (.lst ds), .own (.lst (nrN span xs ⟨⟨a, b, c⟩, ⟨a2, b2, c2⟩, 128, []⟩).sh.ds), .own (.lst (nrN span xs ⟨⟨a, b, c⟩, ⟨a2, b2, c2⟩, 128, []⟩).so.ds), .val (.int span)]) else none
    | none => none
  | _ => none
theorem le_near : Fn.le fn_near (mkFn 4 10 (f__law_near fn_draw)) := by
  intro ss o h
  unfold fn_near at h
  split at h
  · rename_i ds a b c a2 b2 c2 span
    split at h
    · rename_i xs hx
      by_cases hm : (0 < span ∧ span < 2 ^ 64) ∧ xs.length ≤ 2 ^ 20 ∧ ∀ x ∈ xs, x.length < 2 ^ 20
      · rw [if_pos hm] at h
        cases h
        have ez := sz0
        cases llD_eq hx
        obtain ⟨u6, u7, u8, e1⟩ := nr_loop hm.1 (d := .lst (lls xs)) xs ⟨⟨a, b, c⟩, ⟨a2, b2, c2⟩, 128, []⟩ .no .no .no (by rw [List.length_nil]; omega) hm.2.2
        have e1 : forL (gN 6) (b__law_near_1 fn_draw) (lls xs) [.val (.lst (lls xs)), .own (.lst [.int a, .int b, .int c]), .own (.lst [.int a2, .int b2, .int c2]), .val (.int span), .own (.lst []), .val (.int 128), .no, .no, .no, .no] = _ := e1
        simp only [f__law_near, ez, e1, sSeq, sSet, setV, sRet, retV, sRetN, sIf, sExpr, sNil, sPass, sBreak, sCont, sFor, thenS, bind_eq, pure_eq, eVar, eC, mBin, peek, Dl.settle, ofO, toV, toVs, peeks, aCons, aNil, aStar, eB, eIx, eSl, eTup, eLst, eLc_eq, eLc2_eq, bindF, iSeq, iRng1, iRng2, iZip, eCall, callM, prep, ssOf, ssOfs, dist, isAli, noAli, scaR, scaD, back, back1, ownOr, isOwn, tCmp, tVal, tru, truD, tNot, tAnd, tOr, tYes', eAnd, eOr, eNot, eIf, eNeg, gN, gT, gsCons, gsNil, sSetIx, ownLst, ckL, mAppend_eq, eFld, lkF, sSetF, ownObj, putF2, eMake, makeM, eOwn2, ckC, zipD, dZip, strs_r, strr_s, List.zipWith_cons_cons, List.zipWith_nil_left, List.zipWith_nil_right, List.mem_singleton, and_self, true_and, and_true,  oSome, oNo, gII, gIIc, dAdd, dSub, dMul, dDiv, dMod, dPow, dLt, dLe, dGt, dGe, gTT, gLL, gSS, gLen, gInt, gMax2, gMin2, gList, gTuple, gIsi, tyNm, dIx, dSl, items_l, items_t, noOwn, wipeS, backS, M.fail, post, mkFn, List.getElem?_cons_zero, List.getElem?_cons_succ, List.getElem?_nil, List.set_cons_zero, List.set_cons_succ, List.getD_cons_zero, List.getD_cons_succ, List.cons_append, List.nil_append, List.append_nil, List.length_cons, List.length_nil, List.replicate, List.tail_cons, List.tail_nil, List.any_cons, List.any_nil, List.all_cons, List.all_nil, List.map_cons, List.map_nil, Option.map_some, Option.map_none, Option.bind_some, Option.bind_none, Option.some_or, Option.none_or, Bool.not_true, Bool.not_false, Bool.and_true, Bool.true_and, Bool.and_false, Bool.false_and, Bool.or_true, Bool.or_false, Bool.true_or, Bool.false_or, Bool.false_eq_true, if_true, if_false, reduceIte, Nat.reduceAdd, Nat.reduceSub, Nat.reduceEqDiff, Nat.reduceBEq, Nat.reduceLT, decide_true, decide_false]
      · rw [if_neg hm] at h; cases h
    · cases h
  · cases h
/-! ### what is drawn -/
theorem mx1_nat (n : Nat) : mx1 (n : Int) = ((max 1 n : Nat) : Int) := by unfold mx1; split <;> omega
theorem vol_app : ∀ (ss : List (List Int)) (s : List Int), vol (ss ++ [s]) = vol ss * max 1 s.length
  | [], s => by simp [vol]
  | t :: ss, s => by
    rw [List.cons_append]
    show max 1 t.length * vol (ss ++ [s]) = max 1 t.length * vol ss * max 1 s.length
    rw [vol_app ss s, Nat.mul_assoc]
structure Good (B : Nat) (s : DSt) : Prop where
  pos : 1 ≤ s.room
  vl : (vol s.sides : Int) * s.room ≤ B
  nn : ∀ x ∈ s.sides, ∀ y ∈ x, 0 ≤ y
theorem good_step {B : Nat} {s : DSt} {sh so : Src} {side : List Int} (g : Good B s) (h1 : side.length ≤ 1 ∨ (side.length : Int) ≤ s.room) (h2 : ∀ y ∈ side, 0 ≤ y) : Good B ⟨sh, so, s.room / mx1 side.length, s.sides ++ [side]⟩ := by
  obtain ⟨p, v, n⟩ := g
  rw [mx1_nat]
  have hm : 0 < ((max 1 side.length : Nat) : Int) := by omega
  have hle : ((max 1 side.length : Nat) : Int) ≤ s.room := by omega
  refine ⟨?_, ?_, ?_⟩
  · show 1 ≤ s.room / _
    exact (Int.le_ediv_iff_mul_le hm).mpr (by omega)
  · show ((vol (s.sides ++ [side]) : Nat) : Int) * (s.room / _) ≤ B
    rw [vol_app, Int.natCast_mul, Int.mul_assoc]
    refine Int.le_trans ?_ v
    refine Int.mul_le_mul_of_nonneg_left ?_ (Int.natCast_nonneg _)
    rw [Int.mul_comm]
    exact Int.ediv_mul_le _ (by omega)
  · intro x hx
    rcases List.mem_append.mp hx with hx | hx
    · exact n x hx
    · rw [List.mem_singleton.mp hx]; exact h2
theorem good_ds {span : Int} (hs : 0 < span) {B : Nat} : ∀ (k : Nat) (s : DSt), Good B s → Good B (dsN span k s) ∧ (dsN span k s).sides.length = s.sides.length + k
  | 0, s, g => ⟨g, rfl⟩
  | k + 1, s, g => by
    have z := dsSize_ok s
    have z3 := Src.get_nonneg (s.sh.next 4) (lim4_ok (s.sh.get 4)).1
    have hz : (drawN span (dsSize s).toNat s.so).length ≤ 1 ∨ ((drawN span (dsSize s).toNat s.so).length : Int) ≤ s.room := by
      rw [drawN_len]
      unfold dsSize
      dsimp only
      split
      · left; decide
      · right; omega
    have e : mx1 (dsSize s) = mx1 ((drawN span (dsSize s).toNat s.so).length : Int) := by rw [drawN_len, Int.toNat_of_nonneg z.1]
    have g1 : Good B (dsStep span s) := by
      unfold dsStep
      rw [e]
      exact good_step g hz (drawN_nn hs _ _)
    obtain ⟨h1, h2⟩ := good_ds hs k (dsStep span s) g1
    refine ⟨h1, ?_⟩
    show (dsN span k (dsStep span s)).sides.length = _
    rw [h2]
    show (s.sides ++ [_]).length + k = _
    rw [List.length_append, List.length_singleton]; omega
theorem good_nr {span : Int} (hs : 0 < span) {B : Nat} : ∀ (xs : List (List Int)) (s : DSt), (∀ x ∈ xs, ∀ y ∈ x, 0 ≤ y) → Good B s → Good B (nrN span xs s) ∧ (nrN span xs s).sides.length = s.sides.length + xs.length
  | [], s, _, g => ⟨g, rfl⟩
  | x :: xs, s, hx, g => by
    have ho : ∀ y ∈ nrO span x s, 0 ≤ y := by
      unfold nrO
      split
      · exact drawN_nn hs _ _
      · split
        · exact fun y hy => hx x List.mem_cons_self y (List.mem_of_mem_drop hy)
        · split
          · intro y hy
            rcases List.mem_append.mp hy with hy | hy
            · exact hx x List.mem_cons_self y hy
            · rw [List.mem_singleton.mp hy]; exact Src.get_nonneg _ hs
          · exact hx x List.mem_cons_self
    have h1 : (nrC span x s).length ≤ 1 ∨ ((nrC span x s).length : Int) ≤ s.room := by
      unfold nrC
      split
      · left; rw [List.length_take]; omega
      · right; omega
    have h2 : ∀ y ∈ nrC span x s, 0 ≤ y := by
      unfold nrC
      split
      · exact fun y hy => ho y (List.mem_of_mem_take hy)
      · exact ho
    have g1 : Good B (nrStep span x s) := good_step g h1 h2
    obtain ⟨k1, k2⟩ := good_nr hs xs (nrStep span x s) (fun q hq => hx q (List.mem_cons_of_mem _ hq)) g1
    refine ⟨k1, ?_⟩
    show (nrN span xs (nrStep span x s)).sides.length = _
    rw [k2]
    show (s.sides ++ [_]).length + xs.length = _
    rw [List.length_append, List.length_singleton, List.length_cons]; omega
theorem vol_le_side : ∀ {ss : List (List Int)} {s : List Int}, s ∈ ss → s.length ≤ vol ss
  | t :: ss, s, h => by
    have hp := vol_pos ss
    show s.length ≤ max 1 t.length * vol ss
    rcases List.mem_cons.mp h with rfl | h
    · exact Nat.le_trans (by omega : s.length ≤ max 1 s.length) (Nat.le_mul_of_pos_right _ hp)
    · exact Nat.le_trans (vol_le_side h) (Nat.le_mul_of_pos_left _ (by omega))
theorem Good.small {B : Nat} {s : DSt} (g : Good B s) : vol s.sides ≤ B := by
  have h1 : (vol s.sides : Int) * 1 ≤ (vol s.sides : Int) * s.room := Int.mul_le_mul_of_nonneg_left g.pos (Int.natCast_nonneg _)
  have h2 := g.vl
  omega
/-! ### the law's mathematics -/
theorem subs_self : ∀ ss : List (List Int), subs ss ss = true
  | [] => rfl
  | s :: ss => by
    rw [subs_cons, subs_self ss, Bool.and_true]
    exact List.all_eq_true.mpr fun x hx => decide_eq_true hx
theorem subs_in : ∀ {ss ts : List (List Int)} {r : List Int}, ss.length = ts.length → subs ss ts = true → inC r ss → inC r ts
  | [], [], r, _, _, h => h
  | s :: ss, t :: ts, x :: r, hl, h, ⟨h1, h2⟩ => by
    rw [subs_cons] at h
    obtain ⟨k1, k2⟩ := Bool.and_eq_true_iff.mp h
    exact ⟨of_decide_eq_true (List.all_eq_true.mp k1 x h1), subs_in (by simpa using hl) k2 h2⟩
theorem in_subs : ∀ {ss ts : List (List Int)}, combos ss ≠ [] → (∀ r, inC r ss → inC r ts) → subs ss ts = true
  | [], ts, _, _ => by cases ts <;> rfl
  | s :: ss, [], _, _ => rfl
  | s :: ss, t :: ts, hn, h => by
    obtain ⟨q, hq⟩ := List.exists_mem_of_ne_nil _ hn
    have hq := mem_combos.mp hq
    cases q with
    | nil => exact hq.elim
    | cons x0 r0 =>
      rw [subs_cons, Bool.and_eq_true]
      refine ⟨List.all_eq_true.mpr fun x hx => decide_eq_true (h (x :: r0) ⟨hx, hq.2⟩).1, in_subs (List.ne_nil_of_mem (mem_combos.mpr hq.2)) fun r hr => (h (x0 :: r) ⟨hq.1, hr⟩).2⟩
theorem within_eq {one two : List (List Int)} (hl : one.length = two.length) : decide (∀ r ∈ combos one, r ∈ combos two) = (decide ((combos one).length = 0) || subs one two) := by
  by_cases h : combos one = []
  · rw [h]; simp
  · have h0 : decide ((combos one).length = 0) = false := decide_eq_false (by rw [List.length_eq_zero_iff]; exact h)
    rw [h0, Bool.false_or, Bool.eq_iff_iff, decide_eq_true_eq]
    constructor
    · intro k
      exact in_subs h fun r hr => mem_combos.mp (k r (mem_combos.mpr hr))
    · intro k r hr
      exact mem_combos.mpr (subs_in hl k (mem_combos.mp hr))
end My

namespace My
open PySem Dl
open L2 (ixN atI)
abbrev oB (a : List (List Int)) : List D := [.tup (rws a), .lst (rws (combos a))]
theorem fle {a b : List (List Int)} (h : a.length ≤ 8) : fn_le [.val (.obj "Box" ["sides", "rows"] (oB a)), .val (.obj "Box" ["sides", "rows"] (oB b))] = some (.ret (.val (.bl (decide ((combos a).length = 0) || subs a b))) [.val (.obj "Box" ["sides", "rows"] (oB a)), .val (.obj "Box" ["sides", "rows"] (oB b))]) := by
  have h1 : unbox (.obj "Box" ["sides", "rows"] (oB a)) = _ := unbox_box a
  have h2 : unbox (.obj "Box" ["sides", "rows"] (oB b)) = _ := unbox_box b
  simp only [fn_le, h1, h2]
  exact if_pos (by omega)
theorem fwi {one two : List (List Int)} (h : one.length ≤ 8) (hv : vol one ≤ 2 ^ 20) (hl : one.length = two.length) : fn_within [.val (.lst (lls one)), .val (.lst (rws (combos two)))] = some (.ret (.val (.bl (decide ((combos one).length = 0) || subs one two))) [.val (.lst (lls one)), .val (.lst (rws (combos two)))]) := by
  have h1 : seqs (lls one) = some one := seqs_l one
  simp only [fn_within, h1, rowsD_t, ← within_eq hl]
  exact if_pos ⟨h, hv⟩
theorem fcm {one : List (List Int)} (h : one.length ≤ 8) (hv : vol one ≤ 2 ^ 20) : fn_combos 8 [.val (.lst (lls one))] = some (.ret (.own (.lst (rws (combos one)))) [.val (.lst (lls one))]) := by
  have h1 : seqs (lls one) = some one := seqs_l one
  simp only [fn_combos, h1]
  exact if_pos ⟨h, hv, by omega⟩
theorem dNotN_t (b : Bool) : dNotN (.bl b) (.bl true) = some (.val (.bl (!b))) := by cases b <;> rfl
theorem dIsN_t (b : Bool) : dIsN (.bl b) (.bl true) = some (.val (.bl b)) := by cases b <;> rfl
theorem beq_self (b : Bool) : (b == b) = true := by cases b <;> rfl
theorem or_self' {a : List (List Int)} : (decide ((combos a).length = 0) || subs a a) = true := by rw [subs_self, Bool.or_true]
theorem law_turn {one two : List (List Int)} (h1 : one.length ≤ 8) (h2 : two.length ≤ 8) (hl : one.length = two.length) (v1 : vol one ≤ 2 ^ 20) (v2 : vol two ≤ 2 ^ 20) {a0 a1 a2 a3 a4 a5 a10 a11 a12 a13 a14 s6 s7 : S}
    (e6 : s6 = .own (.lst (lls one)) ∨ s6 = .val (.lst (lls one))) (e7 : s7 = .own (.lst (lls two)) ∨ s7 = .val (.lst (lls two))) :
    ∃ b12 b13, b_law_1 fn_le fn_within (fn_combos 8) [a0, a1, a2, a3, a4, a5, s6, s7, .own (.obj "Box" ["sides", "rows"] (oB one)), .own (.obj "Box" ["sides", "rows"] (oB two)), a10, a11, a12, a13, a14] =
      some (.nx [a0, a1, a2, a3, a4, a5, .val (.lst (lls one)), .val (.lst (lls two)), .own (.obj "Box" ["sides", "rows"] (oB one)), .own (.obj "Box" ["sides", "rows"] (oB two)), a10, a11, b12, b13, a14]) := by
  have l12 := fle (a := one) (b := two) h1
  have l21 := fle (a := two) (b := one) h2
  have l11 := fle (a := one) (b := one) h1
  have l22 := fle (a := two) (b := two) h2
  rw [or_self'] at l11 l22
  have w12 := fwi h1 v1 hl
  have w21 := fwi h2 v2 hl.symm
  have c1 := fcm h1 v1
  have c2 := fcm h2 v2
  refine ⟨.val (.bl (decide ((combos one).length = 0) || subs one two)), .val (.bl (decide ((combos two).length = 0) || subs two one)), ?_⟩
  generalize (decide ((combos one).length = 0) || subs one two) = p at *
  generalize (decide ((combos two).length = 0) || subs two one) = q at *
  rcases e6 with rfl | rfl <;> rcases e7 with rfl | rfl <;> simp only [b_law_1, l12, l21, l11, l22, w12, w21, c1, c2, isl_bb, dNe_bb, beq_self, dNotN_t, sSeq, sSet, setV, sRet, retV, sRetN, sIf, sExpr, sNil, sPass, sBreak, sCont, sFor, thenS, bind_eq, pure_eq, eVar, eC, mBin, peek, Dl.settle, ofO, toV, toVs, peeks, aCons, aNil, aStar, eB, eIx, eSl, eTup, eLst, eLc_eq, eLc2_eq, bindF, iSeq, iRng1, iRng2, iZip, eCall, callM, prep, ssOf, ssOfs, dist, isAli, noAli, scaR, scaD, back, back1, ownOr, isOwn, tCmp, tVal, tru, truD, tNot, tAnd, tOr, tYes', eAnd, eOr, eNot, eIf, eNeg, gN, gT, gsCons, gsNil, sSetIx, ownLst, ckL, mAppend_eq, eFld, lkF, sSetF, ownObj, putF2, eMake, makeM, eOwn2, ckC, zipD, dZip, strs_r, strr_s, List.zipWith_cons_cons, List.zipWith_nil_left, List.zipWith_nil_right, List.mem_singleton, eq_self, and_self, true_and, and_true,  oSome, oNo, gII, gIIc, dAdd, dSub, dMul, dDiv, dMod, dPow, dLt, dLe, dGt, dGe, gTT, gLL, gSS, gLen, gInt, gMax2, gMin2, gList, gTuple, gIsi, tyNm, dIx, dSl, items_l, items_t, noOwn, wipeS, backS, M.fail, post, mkFn, List.getElem?_cons_zero, List.getElem?_cons_succ, List.getElem?_nil, List.set_cons_zero, List.set_cons_succ, List.getD_cons_zero, List.getD_cons_succ, List.cons_append, List.nil_append, List.append_nil, List.length_cons, List.length_nil, List.replicate, List.tail_cons, List.tail_nil, List.any_cons, List.any_nil, List.all_cons, List.all_nil, List.map_cons, List.map_nil, Option.map_some, Option.map_none, Option.bind_some, Option.bind_none, Option.some_or, Option.none_or, Bool.not_true, Bool.not_false, Bool.and_true, Bool.true_and, Bool.and_false, Bool.false_and, Bool.or_true, Bool.or_false, Bool.true_or, Bool.false_or, Bool.false_eq_true, if_true, if_false, reduceIte, Nat.reduceAdd, Nat.reduceSub, Nat.reduceEqDiff, Nat.reduceBEq, Nat.reduceLT, decide_true, decide_false]
theorem asc_nil : asc [] = [] := by
  unfold asc
  have : sortI [] = [] := List.eq_nil_of_length_eq_zero (by rw [(sortI_perm []).length_eq]; rfl)
  rw [this]; rfl
theorem emp_combos : ∀ {ss : List (List Int)}, ss ≠ [] → combos (ss.map fun _ => []) = []
  | [], h => absurd rfl h
  | s :: ss, _ => rfl
theorem emp_subs : ∀ {ss : List (List Int)}, ss ≠ [] → subs ss (ss.map fun _ => []) = true → combos ss = []
  | [], h, _ => absurd rfl h
  | s :: ss, _, h => by
    rw [List.map_cons, subs_cons] at h
    have h1 := (Bool.and_eq_true_iff.mp h).1
    cases s with
    | nil => rfl
    | cons x s => simp at h1
theorem at2 {i : Int} (h0 : 0 ≤ i) (h1 : i < 2) {a b : D} : atI [a, b] i = some (if i = 0 then a else b) := by
  have : i = 0 ∨ i = 1 := by omega
  rcases this with rfl | rfl <;> rfl
theorem fds {sh so : Src} {m span : Int} (h : 0 ≤ m ∧ m ≤ 9 ∧ 0 < span ∧ span < 2 ^ 64) : fn_draw_sides [.own (.lst sh.ds), .own (.lst so.ds), .val (.int m), .val (.int span)] =
    some (.ret (.own (.lst (lls (dsN span m.toNat ⟨sh, so, 96, []⟩).sides))) [.own (.lst (dsN span m.toNat ⟨sh, so, 96, []⟩).sh.ds), .own (.lst (dsN span m.toNat ⟨sh, so, 96, []⟩).so.ds), .val (.int m), .val (.int span)]) := if_pos h
theorem fnr {sh so : Src} {xs : List (List Int)} {span : Int} (h : (0 < span ∧ span < 2 ^ 64) ∧ xs.length ≤ 2 ^ 20 ∧ ∀ x ∈ xs, x.length < 2 ^ 20) : fn_near [.val (.lst (lls xs)), .own (.lst sh.ds), .own (.lst so.ds), .val (.int span)] =
    some (.ret (.own (.lst (lls (nrN span xs ⟨sh, so, 128, []⟩).sides))) [.val (.lst (lls xs)), .own (.lst (nrN span xs ⟨sh, so, 128, []⟩).sh.ds), .own (.lst (nrN span xs ⟨sh, so, 128, []⟩).so.ds), .val (.int span)]) := by
  have e : llD (lls xs) = some xs := llD_l xs
  show (match llD (lls xs) with
    | some xs => if (0 < span ∧ span < 2 ^ 64) ∧ xs.length ≤ 2 ^ 20 ∧ ∀ x ∈ xs, x.length < 2 ^ 20 then _ else none
    | none => none) = _
  rw [e]
  exact if_pos h
theorem fin {xs : List (List Int)} (h2 : xs ≠ []) (h3 : ∀ s ∈ xs, (∀ x ∈ s, 0 ≤ x) ∧ s.length ≤ 2 ^ 20) (h4 : vol xs ≤ 2 ^ 20) (h5 : xs.length ≤ 2 ^ 20) : fn_init [.own (.obj "Box" [] []), .val (.lst (lls xs))] =
    some (.ret (.val .non) [.own (.obj "Box" ["sides", "rows"] (oB (xs.map asc))), .val (.lst (lls xs))]) := by
  have e : (items (.lst (lls xs))).bind seqs = some xs := seqs_l xs
  simp only [fn_init, e]
  exact if_pos ⟨trivial, h2, h3, h4, h5⟩
theorem fcl {s : List Int} (h : s.length ≤ 2 ^ 20) : fn_clean [.val (.lst (s.map .int))] = some (.ret (.own (.lst ((asc s).map .int))) [.val (.lst (s.map .int))]) := by
  have sz := sz20
  simp only [fn_clean, seqI_l]
  exact if_pos (by omega)
end My

namespace My
open PySem Dl
open L2 (ixN atI)
def clD (d : D) : D := match seqI d with
  | some s => .lst ((asc s).map .int)
  | none => .non
theorem clD_lls (xs : List (List Int)) : (lls xs).map clD = lls (xs.map asc) := by
  unfold lls
  rw [List.map_map, List.map_map]
  congr 1
  funext s
  show clD (.lst (s.map .int)) = _
  unfold clD
  rw [seqI_l]; rfl
theorem cl1 {xs : List (List Int)} (h : ∀ s ∈ xs, s.length ≤ 2 ^ 20) {a0 a1 a2 a3 a5 a6 a7 a8 a9 a10 a11 a12 a13 : S} :
    c_law_1 fn_clean [a0, a1, a2, a3, .val (.lst (lls xs)), a5, a6, a7, a8, a9, a10, a11, a12, a13, .no] = some (.ok (.own (.lst (lls (xs.map asc)))) [a0, a1, a2, a3, .val (.lst (lls xs)), a5, a6, a7, a8, a9, a10, a11, a12, a13, .no]) := by
  rw [← clD_lls]
  have q := eLc_pure (it := iSeq (eVar 4)) (tg := gN 14) (tt := tYes') (te := eCall [false] fn_clean (aCons (eVar 14) aNil)) (vs := [14]) (ρ := [a0, a1, a2, a3, .val (.lst (lls xs)), a5, a6, a7, a8, a9, a10, a11, a12, a13, .no]) (ρ' := [a0, a1, a2, a3, .val (.lst (lls xs)), a5, a6, a7, a8, a9, a10, a11, a12, a13, .no]) (ds := lls xs) (fun _ => true) clD (by simp only [sSeq, sSet, setV, sRet, retV, sRetN, sIf, sExpr, sNil, sPass, sBreak, sCont, sFor, thenS, bind_eq, pure_eq, eVar, eC, mBin, peek, Dl.settle, ofO, toV, toVs, peeks, aCons, aNil, aStar, eB, eIx, eSl, eTup, eLst, eLc_eq, eLc2_eq, bindF, iSeq, iRng1, iRng2, iZip, eCall, callM, prep, ssOf, ssOfs, dist, isAli, noAli, scaR, scaD, back, back1, ownOr, isOwn, tCmp, tVal, tru, truD, tNot, tAnd, tOr, tYes', eAnd, eOr, eNot, eIf, eNeg, gN, gT, gsCons, gsNil, sSetIx, ownLst, ckL, mAppend_eq, eFld, lkF, sSetF, ownObj, putF2, eMake, makeM, eOwn2, ckC, zipD, dZip, strs_r, strr_s, List.zipWith_cons_cons, List.zipWith_nil_left, List.zipWith_nil_right, List.mem_singleton, eq_self, and_self, true_and, and_true,  oSome, oNo, gII, gIIc, dAdd, dSub, dMul, dDiv, dMod, dPow, dLt, dLe, dGt, dGe, gTT, gLL, gSS, gLen, gInt, gMax2, gMin2, gList, gTuple, gIsi, tyNm, dIx, dSl, items_l, items_t, noOwn, wipeS, backS, M.fail, post, mkFn, List.getElem?_cons_zero, List.getElem?_cons_succ, List.getElem?_nil, List.set_cons_zero, List.set_cons_succ, List.getD_cons_zero, List.getD_cons_succ, List.cons_append, List.nil_append, List.append_nil, List.length_cons, List.length_nil, List.replicate, List.tail_cons, List.tail_nil, List.any_cons, List.any_nil, List.all_cons, List.all_nil, List.map_cons, List.map_nil, Option.map_some, Option.map_none, Option.bind_some, Option.bind_none, Option.some_or, Option.none_or, Bool.not_true, Bool.not_false, Bool.and_true, Bool.true_and, Bool.and_false, Bool.false_and, Bool.or_true, Bool.or_false, Bool.true_or, Bool.false_or, Bool.false_eq_true, if_true, if_false, reduceIte, Nat.reduceAdd, Nat.reduceSub, Nat.reduceEqDiff, Nat.reduceBEq, Nat.reduceLT, decide_true, decide_false]) (by simp only [sSeq, sSet, setV, sRet, retV, sRetN, sIf, sExpr, sNil, sPass, sBreak, sCont, sFor, thenS, bind_eq, pure_eq, eVar, eC, mBin, peek, Dl.settle, ofO, toV, toVs, peeks, aCons, aNil, aStar, eB, eIx, eSl, eTup, eLst, eLc_eq, eLc2_eq, bindF, iSeq, iRng1, iRng2, iZip, eCall, callM, prep, ssOf, ssOfs, dist, isAli, noAli, scaR, scaD, back, back1, ownOr, isOwn, tCmp, tVal, tru, truD, tNot, tAnd, tOr, tYes', eAnd, eOr, eNot, eIf, eNeg, gN, gT, gsCons, gsNil, sSetIx, ownLst, ckL, mAppend_eq, eFld, lkF, sSetF, ownObj, putF2, eMake, makeM, eOwn2, ckC, zipD, dZip, strs_r, strr_s, List.zipWith_cons_cons, List.zipWith_nil_left, List.zipWith_nil_right, List.mem_singleton, eq_self, and_self, true_and, and_true,  oSome, oNo, gII, gIIc, dAdd, dSub, dMul, dDiv, dMod, dPow, dLt, dLe, dGt, dGe, gTT, gLL, gSS, gLen, gInt, gMax2, gMin2, gList, gTuple, gIsi, tyNm, dIx, dSl, items_l, items_t, noOwn, wipeS, backS, M.fail, post, mkFn, List.getElem?_cons_zero, List.getElem?_cons_succ, List.getElem?_nil, List.set_cons_zero, List.set_cons_succ, List.getD_cons_zero, List.getD_cons_succ, List.cons_append, List.nil_append, List.append_nil, List.length_cons, List.length_nil, List.replicate, List.tail_cons, List.tail_nil, List.any_cons, List.any_nil, List.all_cons, List.all_nil, List.map_cons, List.map_nil, Option.map_some, Option.map_none, Option.bind_some, Option.bind_none, Option.some_or, Option.none_or, Bool.not_true, Bool.not_false, Bool.and_true, Bool.true_and, Bool.and_false, Bool.false_and, Bool.or_true, Bool.or_false, Bool.true_or, Bool.false_or, Bool.false_eq_true, if_true, if_false, reduceIte, Nat.reduceAdd, Nat.reduceSub, Nat.reduceEqDiff, Nat.reduceBEq, Nat.reduceLT, decide_true, decide_false]) ?_
  · rw [filter_true] at q
    exact q
  · intro d hd
    obtain ⟨s, hs, rfl⟩ := List.mem_map.mp hd
    have e : clD (.lst (s.map .int)) = .lst ((asc s).map .int) := by unfold clD; rw [seqI_l]
    refine ⟨[a0, a1, a2, a3, .val (.lst (lls xs)), a5, a6, a7, a8, a9, a10, a11, a12, a13, .val (.lst (s.map .int))], [a0, a1, a2, a3, .val (.lst (lls xs)), a5, a6, a7, a8, a9, a10, a11, a12, a13, .val (.lst (s.map .int))], by simp only [sSeq, sSet, setV, sRet, retV, sRetN, sIf, sExpr, sNil, sPass, sBreak, sCont, sFor, thenS, bind_eq, pure_eq, eVar, eC, mBin, peek, Dl.settle, ofO, toV, toVs, peeks, aCons, aNil, aStar, eB, eIx, eSl, eTup, eLst, eLc_eq, eLc2_eq, bindF, iSeq, iRng1, iRng2, iZip, eCall, callM, prep, ssOf, ssOfs, dist, isAli, noAli, scaR, scaD, back, back1, ownOr, isOwn, tCmp, tVal, tru, truD, tNot, tAnd, tOr, tYes', eAnd, eOr, eNot, eIf, eNeg, gN, gT, gsCons, gsNil, sSetIx, ownLst, ckL, mAppend_eq, eFld, lkF, sSetF, ownObj, putF2, eMake, makeM, eOwn2, ckC, zipD, dZip, strs_r, strr_s, List.zipWith_cons_cons, List.zipWith_nil_left, List.zipWith_nil_right, List.mem_singleton, eq_self, and_self, true_and, and_true,  oSome, oNo, gII, gIIc, dAdd, dSub, dMul, dDiv, dMod, dPow, dLt, dLe, dGt, dGe, gTT, gLL, gSS, gLen, gInt, gMax2, gMin2, gList, gTuple, gIsi, tyNm, dIx, dSl, items_l, items_t, noOwn, wipeS, backS, M.fail, post, mkFn, List.getElem?_cons_zero, List.getElem?_cons_succ, List.getElem?_nil, List.set_cons_zero, List.set_cons_succ, List.getD_cons_zero, List.getD_cons_succ, List.cons_append, List.nil_append, List.append_nil, List.length_cons, List.length_nil, List.replicate, List.tail_cons, List.tail_nil, List.any_cons, List.any_nil, List.all_cons, List.all_nil, List.map_cons, List.map_nil, Option.map_some, Option.map_none, Option.bind_some, Option.bind_none, Option.some_or, Option.none_or, Bool.not_true, Bool.not_false, Bool.and_true, Bool.true_and, Bool.and_false, Bool.false_and, Bool.or_true, Bool.or_false, Bool.true_or, Bool.false_or, Bool.false_eq_true, if_true, if_false, reduceIte, Nat.reduceAdd, Nat.reduceSub, Nat.reduceEqDiff, Nat.reduceBEq, Nat.reduceLT, decide_true, decide_false], rfl, fun _ => ⟨[a0, a1, a2, a3, .val (.lst (lls xs)), a5, a6, a7, a8, a9, a10, a11, a12, a13, .val (.lst (s.map .int))], by simp only [fcl (h s hs), e, sSeq, sSet, setV, sRet, retV, sRetN, sIf, sExpr, sNil, sPass, sBreak, sCont, sFor, thenS, bind_eq, pure_eq, eVar, eC, mBin, peek, Dl.settle, ofO, toV, toVs, peeks, aCons, aNil, aStar, eB, eIx, eSl, eTup, eLst, eLc_eq, eLc2_eq, bindF, iSeq, iRng1, iRng2, iZip, eCall, callM, prep, ssOf, ssOfs, dist, isAli, noAli, scaR, scaD, back, back1, ownOr, isOwn, tCmp, tVal, tru, truD, tNot, tAnd, tOr, tYes', eAnd, eOr, eNot, eIf, eNeg, gN, gT, gsCons, gsNil, sSetIx, ownLst, ckL, mAppend_eq, eFld, lkF, sSetF, ownObj, putF2, eMake, makeM, eOwn2, ckC, zipD, dZip, strs_r, strr_s, List.zipWith_cons_cons, List.zipWith_nil_left, List.zipWith_nil_right, List.mem_singleton, eq_self, and_self, true_and, and_true,  oSome, oNo, gII, gIIc, dAdd, dSub, dMul, dDiv, dMod, dPow, dLt, dLe, dGt, dGe, gTT, gLL, gSS, gLen, gInt, gMax2, gMin2, gList, gTuple, gIsi, tyNm, dIx, dSl, items_l, items_t, noOwn, wipeS, backS, M.fail, post, mkFn, List.getElem?_cons_zero, List.getElem?_cons_succ, List.getElem?_nil, List.set_cons_zero, List.set_cons_succ, List.getD_cons_zero, List.getD_cons_succ, List.cons_append, List.nil_append, List.append_nil, List.length_cons, List.length_nil, List.replicate, List.tail_cons, List.tail_nil, List.any_cons, List.any_nil, List.all_cons, List.all_nil, List.map_cons, List.map_nil, Option.map_some, Option.map_none, Option.bind_some, Option.bind_none, Option.some_or, Option.none_or, Bool.not_true, Bool.not_false, Bool.and_true, Bool.true_and, Bool.and_false, Bool.false_and, Bool.or_true, Bool.or_false, Bool.true_or, Bool.false_or, Bool.false_eq_true, if_true, if_false, reduceIte, Nat.reduceAdd, Nat.reduceSub, Nat.reduceEqDiff, Nat.reduceBEq, Nat.reduceLT, decide_true, decide_false], by simp only [sSeq, sSet, setV, sRet, retV, sRetN, sIf, sExpr, sNil, sPass, sBreak, sCont, sFor, thenS, bind_eq, pure_eq, eVar, eC, mBin, peek, Dl.settle, ofO, toV, toVs, peeks, aCons, aNil, aStar, eB, eIx, eSl, eTup, eLst, eLc_eq, eLc2_eq, bindF, iSeq, iRng1, iRng2, iZip, eCall, callM, prep, ssOf, ssOfs, dist, isAli, noAli, scaR, scaD, back, back1, ownOr, isOwn, tCmp, tVal, tru, truD, tNot, tAnd, tOr, tYes', eAnd, eOr, eNot, eIf, eNeg, gN, gT, gsCons, gsNil, sSetIx, ownLst, ckL, mAppend_eq, eFld, lkF, sSetF, ownObj, putF2, eMake, makeM, eOwn2, ckC, zipD, dZip, strs_r, strr_s, List.zipWith_cons_cons, List.zipWith_nil_left, List.zipWith_nil_right, List.mem_singleton, eq_self, and_self, true_and, and_true,  oSome, oNo, gII, gIIc, dAdd, dSub, dMul, dDiv, dMod, dPow, dLt, dLe, dGt, dGe, gTT, gLL, gSS, gLen, gInt, gMax2, gMin2, gList, gTuple, gIsi, tyNm, dIx, dSl, items_l, items_t, noOwn, wipeS, backS, M.fail, post, mkFn, List.getElem?_cons_zero, List.getElem?_cons_succ, List.getElem?_nil, List.set_cons_zero, List.set_cons_succ, List.getD_cons_zero, List.getD_cons_succ, List.cons_append, List.nil_append, List.append_nil, List.length_cons, List.length_nil, List.replicate, List.tail_cons, List.tail_nil, List.any_cons, List.any_nil, List.all_cons, List.all_nil, List.map_cons, List.map_nil, Option.map_some, Option.map_none, Option.bind_some, Option.bind_none, Option.some_or, Option.none_or, Bool.not_true, Bool.not_false, Bool.and_true, Bool.true_and, Bool.and_false, Bool.false_and, Bool.or_true, Bool.or_false, Bool.true_or, Bool.false_or, Bool.false_eq_true, if_true, if_false, reduceIte, Nat.reduceAdd, Nat.reduceSub, Nat.reduceEqDiff, Nat.reduceBEq, Nat.reduceLT, decide_true, decide_false]⟩, fun z => nomatch z⟩
theorem cl2 {xs : List (List Int)} (h : ∀ s ∈ xs, s.length ≤ 2 ^ 20) {a0 a1 a2 a3 a4 a6 a7 a8 a9 a10 a11 a12 a13 : S} :
    c_law_2 fn_clean [a0, a1, a2, a3, a4, .own (.lst (lls xs)), a6, a7, a8, a9, a10, a11, a12, a13, .no] = some (.ok (.own (.lst (lls (xs.map asc)))) [a0, a1, a2, a3, a4, .val (.lst (lls xs)), a6, a7, a8, a9, a10, a11, a12, a13, .no]) := by
  rw [← clD_lls]
  have q := eLc_pure (it := iSeq (eVar 5)) (tg := gN 14) (tt := tYes') (te := eCall [false] fn_clean (aCons (eVar 14) aNil)) (vs := [14]) (ρ := [a0, a1, a2, a3, a4, .own (.lst (lls xs)), a6, a7, a8, a9, a10, a11, a12, a13, .no]) (ρ' := [a0, a1, a2, a3, a4, .val (.lst (lls xs)), a6, a7, a8, a9, a10, a11, a12, a13, .no]) (ds := lls xs) (fun _ => true) clD (by simp only [sSeq, sSet, setV, sRet, retV, sRetN, sIf, sExpr, sNil, sPass, sBreak, sCont, sFor, thenS, bind_eq, pure_eq, eVar, eC, mBin, peek, Dl.settle, ofO, toV, toVs, peeks, aCons, aNil, aStar, eB, eIx, eSl, eTup, eLst, eLc_eq, eLc2_eq, bindF, iSeq, iRng1, iRng2, iZip, eCall, callM, prep, ssOf, ssOfs, dist, isAli, noAli, scaR, scaD, back, back1, ownOr, isOwn, tCmp, tVal, tru, truD, tNot, tAnd, tOr, tYes', eAnd, eOr, eNot, eIf, eNeg, gN, gT, gsCons, gsNil, sSetIx, ownLst, ckL, mAppend_eq, eFld, lkF, sSetF, ownObj, putF2, eMake, makeM, eOwn2, ckC, zipD, dZip, strs_r, strr_s, List.zipWith_cons_cons, List.zipWith_nil_left, List.zipWith_nil_right, List.mem_singleton, eq_self, and_self, true_and, and_true,  oSome, oNo, gII, gIIc, dAdd, dSub, dMul, dDiv, dMod, dPow, dLt, dLe, dGt, dGe, gTT, gLL, gSS, gLen, gInt, gMax2, gMin2, gList, gTuple, gIsi, tyNm, dIx, dSl, items_l, items_t, noOwn, wipeS, backS, M.fail, post, mkFn, List.getElem?_cons_zero, List.getElem?_cons_succ, List.getElem?_nil, List.set_cons_zero, List.set_cons_succ, List.getD_cons_zero, List.getD_cons_succ, List.cons_append, List.nil_append, List.append_nil, List.length_cons, List.length_nil, List.replicate, List.tail_cons, List.tail_nil, List.any_cons, List.any_nil, List.all_cons, List.all_nil, List.map_cons, List.map_nil, Option.map_some, Option.map_none, Option.bind_some, Option.bind_none, Option.some_or, Option.none_or, Bool.not_true, Bool.not_false, Bool.and_true, Bool.true_and, Bool.and_false, Bool.false_and, Bool.or_true, Bool.or_false, Bool.true_or, Bool.false_or, Bool.false_eq_true, if_true, if_false, reduceIte, Nat.reduceAdd, Nat.reduceSub, Nat.reduceEqDiff, Nat.reduceBEq, Nat.reduceLT, decide_true, decide_false]) (by simp only [sSeq, sSet, setV, sRet, retV, sRetN, sIf, sExpr, sNil, sPass, sBreak, sCont, sFor, thenS, bind_eq, pure_eq, eVar, eC, mBin, peek, Dl.settle, ofO, toV, toVs, peeks, aCons, aNil, aStar, eB, eIx, eSl, eTup, eLst, eLc_eq, eLc2_eq, bindF, iSeq, iRng1, iRng2, iZip, eCall, callM, prep, ssOf, ssOfs, dist, isAli, noAli, scaR, scaD, back, back1, ownOr, isOwn, tCmp, tVal, tru, truD, tNot, tAnd, tOr, tYes', eAnd, eOr, eNot, eIf, eNeg, gN, gT, gsCons, gsNil, sSetIx, ownLst, ckL, mAppend_eq, eFld, lkF, sSetF, ownObj, putF2, eMake, makeM, eOwn2, ckC, zipD, dZip, strs_r, strr_s, List.zipWith_cons_cons, List.zipWith_nil_left, List.zipWith_nil_right, List.mem_singleton, eq_self, and_self, true_and, and_true,  oSome, oNo, gII, gIIc, dAdd, dSub, dMul, dDiv, dMod, dPow, dLt, dLe, dGt, dGe, gTT, gLL, gSS, gLen, gInt, gMax2, gMin2, gList, gTuple, gIsi, tyNm, dIx, dSl, items_l, items_t, noOwn, wipeS, backS, M.fail, post, mkFn, List.getElem?_cons_zero, List.getElem?_cons_succ, List.getElem?_nil, List.set_cons_zero, List.set_cons_succ, List.getD_cons_zero, List.getD_cons_succ, List.cons_append, List.nil_append, List.append_nil, List.length_cons, List.length_nil, List.replicate, List.tail_cons, List.tail_nil, List.any_cons, List.any_nil, List.all_cons, List.all_nil, List.map_cons, List.map_nil, Option.map_some, Option.map_none, Option.bind_some, Option.bind_none, Option.some_or, Option.none_or, Bool.not_true, Bool.not_false, Bool.and_true, Bool.true_and, Bool.and_false, Bool.false_and, Bool.or_true, Bool.or_false, Bool.true_or, Bool.false_or, Bool.false_eq_true, if_true, if_false, reduceIte, Nat.reduceAdd, Nat.reduceSub, Nat.reduceEqDiff, Nat.reduceBEq, Nat.reduceLT, decide_true, decide_false]) ?_
  · rw [filter_true] at q
    exact q
  · intro d hd
    obtain ⟨s, hs, rfl⟩ := List.mem_map.mp hd
    have e : clD (.lst (s.map .int)) = .lst ((asc s).map .int) := by unfold clD; rw [seqI_l]
    refine ⟨[a0, a1, a2, a3, a4, .val (.lst (lls xs)), a6, a7, a8, a9, a10, a11, a12, a13, .val (.lst (s.map .int))], [a0, a1, a2, a3, a4, .val (.lst (lls xs)), a6, a7, a8, a9, a10, a11, a12, a13, .val (.lst (s.map .int))], by simp only [sSeq, sSet, setV, sRet, retV, sRetN, sIf, sExpr, sNil, sPass, sBreak, sCont, sFor, thenS, bind_eq, pure_eq, eVar, eC, mBin, peek, Dl.settle, ofO, toV, toVs, peeks, aCons, aNil, aStar, eB, eIx, eSl, eTup, eLst, eLc_eq, eLc2_eq, bindF, iSeq, iRng1, iRng2, iZip, eCall, callM, prep, ssOf, ssOfs, dist, isAli, noAli, scaR, scaD, back, back1, ownOr, isOwn, tCmp, tVal, tru, truD, tNot, tAnd, tOr, tYes', eAnd, eOr, eNot, eIf, eNeg, gN, gT, gsCons, gsNil, sSetIx, ownLst, ckL, mAppend_eq, eFld, lkF, sSetF, ownObj, putF2, eMake, makeM, eOwn2, ckC, zipD, dZip, strs_r, strr_s, List.zipWith_cons_cons, List.zipWith_nil_left, List.zipWith_nil_right, List.mem_singleton, eq_self, and_self, true_and, and_true,  oSome, oNo, gII, gIIc, dAdd, dSub, dMul, dDiv, dMod, dPow, dLt, dLe, dGt, dGe, gTT, gLL, gSS, gLen, gInt, gMax2, gMin2, gList, gTuple, gIsi, tyNm, dIx, dSl, items_l, items_t, noOwn, wipeS, backS, M.fail, post, mkFn, List.getElem?_cons_zero, List.getElem?_cons_succ, List.getElem?_nil, List.set_cons_zero, List.set_cons_succ, List.getD_cons_zero, List.getD_cons_succ, List.cons_append, List.nil_append, List.append_nil, List.length_cons, List.length_nil, List.replicate, List.tail_cons, List.tail_nil, List.any_cons, List.any_nil, List.all_cons, List.all_nil, List.map_cons, List.map_nil, Option.map_some, Option.map_none, Option.bind_some, Option.bind_none, Option.some_or, Option.none_or, Bool.not_true, Bool.not_false, Bool.and_true, Bool.true_and, Bool.and_false, Bool.false_and, Bool.or_true, Bool.or_false, Bool.true_or, Bool.false_or, Bool.false_eq_true, if_true, if_false, reduceIte, Nat.reduceAdd, Nat.reduceSub, Nat.reduceEqDiff, Nat.reduceBEq, Nat.reduceLT, decide_true, decide_false], rfl, fun _ => ⟨[a0, a1, a2, a3, a4, .val (.lst (lls xs)), a6, a7, a8, a9, a10, a11, a12, a13, .val (.lst (s.map .int))], by simp only [fcl (h s hs), e, sSeq, sSet, setV, sRet, retV, sRetN, sIf, sExpr, sNil, sPass, sBreak, sCont, sFor, thenS, bind_eq, pure_eq, eVar, eC, mBin, peek, Dl.settle, ofO, toV, toVs, peeks, aCons, aNil, aStar, eB, eIx, eSl, eTup, eLst, eLc_eq, eLc2_eq, bindF, iSeq, iRng1, iRng2, iZip, eCall, callM, prep, ssOf, ssOfs, dist, isAli, noAli, scaR, scaD, back, back1, ownOr, isOwn, tCmp, tVal, tru, truD, tNot, tAnd, tOr, tYes', eAnd, eOr, eNot, eIf, eNeg, gN, gT, gsCons, gsNil, sSetIx, ownLst, ckL, mAppend_eq, eFld, lkF, sSetF, ownObj, putF2, eMake, makeM, eOwn2, ckC, zipD, dZip, strs_r, strr_s, List.zipWith_cons_cons, List.zipWith_nil_left, List.zipWith_nil_right, List.mem_singleton, eq_self, and_self, true_and, and_true,  oSome, oNo, gII, gIIc, dAdd, dSub, dMul, dDiv, dMod, dPow, dLt, dLe, dGt, dGe, gTT, gLL, gSS, gLen, gInt, gMax2, gMin2, gList, gTuple, gIsi, tyNm, dIx, dSl, items_l, items_t, noOwn, wipeS, backS, M.fail, post, mkFn, List.getElem?_cons_zero, List.getElem?_cons_succ, List.getElem?_nil, List.set_cons_zero, List.set_cons_succ, List.getD_cons_zero, List.getD_cons_succ, List.cons_append, List.nil_append, List.append_nil, List.length_cons, List.length_nil, List.replicate, List.tail_cons, List.tail_nil, List.any_cons, List.any_nil, List.all_cons, List.all_nil, List.map_cons, List.map_nil, Option.map_some, Option.map_none, Option.bind_some, Option.bind_none, Option.some_or, Option.none_or, Bool.not_true, Bool.not_false, Bool.and_true, Bool.true_and, Bool.and_false, Bool.false_and, Bool.or_true, Bool.or_false, Bool.true_or, Bool.false_or, Bool.false_eq_true, if_true, if_false, reduceIte, Nat.reduceAdd, Nat.reduceSub, Nat.reduceEqDiff, Nat.reduceBEq, Nat.reduceLT, decide_true, decide_false], by simp only [sSeq, sSet, setV, sRet, retV, sRetN, sIf, sExpr, sNil, sPass, sBreak, sCont, sFor, thenS, bind_eq, pure_eq, eVar, eC, mBin, peek, Dl.settle, ofO, toV, toVs, peeks, aCons, aNil, aStar, eB, eIx, eSl, eTup, eLst, eLc_eq, eLc2_eq, bindF, iSeq, iRng1, iRng2, iZip, eCall, callM, prep, ssOf, ssOfs, dist, isAli, noAli, scaR, scaD, back, back1, ownOr, isOwn, tCmp, tVal, tru, truD, tNot, tAnd, tOr, tYes', eAnd, eOr, eNot, eIf, eNeg, gN, gT, gsCons, gsNil, sSetIx, ownLst, ckL, mAppend_eq, eFld, lkF, sSetF, ownObj, putF2, eMake, makeM, eOwn2, ckC, zipD, dZip, strs_r, strr_s, List.zipWith_cons_cons, List.zipWith_nil_left, List.zipWith_nil_right, List.mem_singleton, eq_self, and_self, true_and, and_true,  oSome, oNo, gII, gIIc, dAdd, dSub, dMul, dDiv, dMod, dPow, dLt, dLe, dGt, dGe, gTT, gLL, gSS, gLen, gInt, gMax2, gMin2, gList, gTuple, gIsi, tyNm, dIx, dSl, items_l, items_t, noOwn, wipeS, backS, M.fail, post, mkFn, List.getElem?_cons_zero, List.getElem?_cons_succ, List.getElem?_nil, List.set_cons_zero, List.set_cons_succ, List.getD_cons_zero, List.getD_cons_succ, List.cons_append, List.nil_append, List.append_nil, List.length_cons, List.length_nil, List.replicate, List.tail_cons, List.tail_nil, List.any_cons, List.any_nil, List.all_cons, List.all_nil, List.map_cons, List.map_nil, Option.map_some, Option.map_none, Option.bind_some, Option.bind_none, Option.some_or, Option.none_or, Bool.not_true, Bool.not_false, Bool.and_true, Bool.true_and, Bool.and_false, Bool.false_and, Bool.or_true, Bool.or_false, Bool.true_or, Bool.false_or, Bool.false_eq_true, if_true, if_false, reduceIte, Nat.reduceAdd, Nat.reduceSub, Nat.reduceEqDiff, Nat.reduceBEq, Nat.reduceLT, decide_true, decide_false]⟩, fun z => nomatch z⟩
theorem cl3 {xs : List (List Int)} {a0 a1 a2 a3 a5 a6 a7 a8 a9 a10 a11 a12 a13 : S} :
    c_law_3 [a0, a1, a2, a3, .val (.lst (lls xs)), a5, a6, a7, a8, a9, a10, a11, a12, a13, .no] = some (.ok (.own (.lst (lls (xs.map fun _ => [])))) [a0, a1, a2, a3, .val (.lst (lls xs)), a5, a6, a7, a8, a9, a10, a11, a12, a13, .no]) := by
  have e0 : lls (xs.map fun _ => []) = (lls xs).map fun _ => D.lst [] := by
    unfold lls
    rw [List.map_map, List.map_map]; rfl
  rw [e0]
  have ez := sz0
  have q := eLc_pure (it := iSeq (eVar 4)) (tg := gN 14) (tt := tYes') (te := eLst aNil) (vs := [14]) (ρ := [a0, a1, a2, a3, .val (.lst (lls xs)), a5, a6, a7, a8, a9, a10, a11, a12, a13, .no]) (ρ' := [a0, a1, a2, a3, .val (.lst (lls xs)), a5, a6, a7, a8, a9, a10, a11, a12, a13, .no]) (ds := lls xs) (fun _ => true) (fun _ => D.lst []) (by simp only [sSeq, sSet, setV, sRet, retV, sRetN, sIf, sExpr, sNil, sPass, sBreak, sCont, sFor, thenS, bind_eq, pure_eq, eVar, eC, mBin, peek, Dl.settle, ofO, toV, toVs, peeks, aCons, aNil, aStar, eB, eIx, eSl, eTup, eLst, eLc_eq, eLc2_eq, bindF, iSeq, iRng1, iRng2, iZip, eCall, callM, prep, ssOf, ssOfs, dist, isAli, noAli, scaR, scaD, back, back1, ownOr, isOwn, tCmp, tVal, tru, truD, tNot, tAnd, tOr, tYes', eAnd, eOr, eNot, eIf, eNeg, gN, gT, gsCons, gsNil, sSetIx, ownLst, ckL, mAppend_eq, eFld, lkF, sSetF, ownObj, putF2, eMake, makeM, eOwn2, ckC, zipD, dZip, strs_r, strr_s, List.zipWith_cons_cons, List.zipWith_nil_left, List.zipWith_nil_right, List.mem_singleton, eq_self, and_self, true_and, and_true,  oSome, oNo, gII, gIIc, dAdd, dSub, dMul, dDiv, dMod, dPow, dLt, dLe, dGt, dGe, gTT, gLL, gSS, gLen, gInt, gMax2, gMin2, gList, gTuple, gIsi, tyNm, dIx, dSl, items_l, items_t, noOwn, wipeS, backS, M.fail, post, mkFn, List.getElem?_cons_zero, List.getElem?_cons_succ, List.getElem?_nil, List.set_cons_zero, List.set_cons_succ, List.getD_cons_zero, List.getD_cons_succ, List.cons_append, List.nil_append, List.append_nil, List.length_cons, List.length_nil, List.replicate, List.tail_cons, List.tail_nil, List.any_cons, List.any_nil, List.all_cons, List.all_nil, List.map_cons, List.map_nil, Option.map_some, Option.map_none, Option.bind_some, Option.bind_none, Option.some_or, Option.none_or, Bool.not_true, Bool.not_false, Bool.and_true, Bool.true_and, Bool.and_false, Bool.false_and, Bool.or_true, Bool.or_false, Bool.true_or, Bool.false_or, Bool.false_eq_true, if_true, if_false, reduceIte, Nat.reduceAdd, Nat.reduceSub, Nat.reduceEqDiff, Nat.reduceBEq, Nat.reduceLT, decide_true, decide_false]) (by simp only [sSeq, sSet, setV, sRet, retV, sRetN, sIf, sExpr, sNil, sPass, sBreak, sCont, sFor, thenS, bind_eq, pure_eq, eVar, eC, mBin, peek, Dl.settle, ofO, toV, toVs, peeks, aCons, aNil, aStar, eB, eIx, eSl, eTup, eLst, eLc_eq, eLc2_eq, bindF, iSeq, iRng1, iRng2, iZip, eCall, callM, prep, ssOf, ssOfs, dist, isAli, noAli, scaR, scaD, back, back1, ownOr, isOwn, tCmp, tVal, tru, truD, tNot, tAnd, tOr, tYes', eAnd, eOr, eNot, eIf, eNeg, gN, gT, gsCons, gsNil, sSetIx, ownLst, ckL, mAppend_eq, eFld, lkF, sSetF, ownObj, putF2, eMake, makeM, eOwn2, ckC, zipD, dZip, strs_r, strr_s, List.zipWith_cons_cons, List.zipWith_nil_left, List.zipWith_nil_right, List.mem_singleton, eq_self, and_self, true_and, and_true,  oSome, oNo, gII, gIIc, dAdd, dSub, dMul, dDiv, dMod, dPow, dLt, dLe, dGt, dGe, gTT, gLL, gSS, gLen, gInt, gMax2, gMin2, gList, gTuple, gIsi, tyNm, dIx, dSl, items_l, items_t, noOwn, wipeS, backS, M.fail, post, mkFn, List.getElem?_cons_zero, List.getElem?_cons_succ, List.getElem?_nil, List.set_cons_zero, List.set_cons_succ, List.getD_cons_zero, List.getD_cons_succ, List.cons_append, List.nil_append, List.append_nil, List.length_cons, List.length_nil, List.replicate, List.tail_cons, List.tail_nil, List.any_cons, List.any_nil, List.all_cons, List.all_nil, List.map_cons, List.map_nil, Option.map_some, Option.map_none, Option.bind_some, Option.bind_none, Option.some_or, Option.none_or, Bool.not_true, Bool.not_false, Bool.and_true, Bool.true_and, Bool.and_false, Bool.false_and, Bool.or_true, Bool.or_false, Bool.true_or, Bool.false_or, Bool.false_eq_true, if_true, if_false, reduceIte, Nat.reduceAdd, Nat.reduceSub, Nat.reduceEqDiff, Nat.reduceBEq, Nat.reduceLT, decide_true, decide_false]) ?_
  · rw [filter_true] at q
    exact q
  · intro d hd
    refine ⟨[a0, a1, a2, a3, .val (.lst (lls xs)), a5, a6, a7, a8, a9, a10, a11, a12, a13, .val d], [a0, a1, a2, a3, .val (.lst (lls xs)), a5, a6, a7, a8, a9, a10, a11, a12, a13, .val d], by simp only [sSeq, sSet, setV, sRet, retV, sRetN, sIf, sExpr, sNil, sPass, sBreak, sCont, sFor, thenS, bind_eq, pure_eq, eVar, eC, mBin, peek, Dl.settle, ofO, toV, toVs, peeks, aCons, aNil, aStar, eB, eIx, eSl, eTup, eLst, eLc_eq, eLc2_eq, bindF, iSeq, iRng1, iRng2, iZip, eCall, callM, prep, ssOf, ssOfs, dist, isAli, noAli, scaR, scaD, back, back1, ownOr, isOwn, tCmp, tVal, tru, truD, tNot, tAnd, tOr, tYes', eAnd, eOr, eNot, eIf, eNeg, gN, gT, gsCons, gsNil, sSetIx, ownLst, ckL, mAppend_eq, eFld, lkF, sSetF, ownObj, putF2, eMake, makeM, eOwn2, ckC, zipD, dZip, strs_r, strr_s, List.zipWith_cons_cons, List.zipWith_nil_left, List.zipWith_nil_right, List.mem_singleton, eq_self, and_self, true_and, and_true,  oSome, oNo, gII, gIIc, dAdd, dSub, dMul, dDiv, dMod, dPow, dLt, dLe, dGt, dGe, gTT, gLL, gSS, gLen, gInt, gMax2, gMin2, gList, gTuple, gIsi, tyNm, dIx, dSl, items_l, items_t, noOwn, wipeS, backS, M.fail, post, mkFn, List.getElem?_cons_zero, List.getElem?_cons_succ, List.getElem?_nil, List.set_cons_zero, List.set_cons_succ, List.getD_cons_zero, List.getD_cons_succ, List.cons_append, List.nil_append, List.append_nil, List.length_cons, List.length_nil, List.replicate, List.tail_cons, List.tail_nil, List.any_cons, List.any_nil, List.all_cons, List.all_nil, List.map_cons, List.map_nil, Option.map_some, Option.map_none, Option.bind_some, Option.bind_none, Option.some_or, Option.none_or, Bool.not_true, Bool.not_false, Bool.and_true, Bool.true_and, Bool.and_false, Bool.false_and, Bool.or_true, Bool.or_false, Bool.true_or, Bool.false_or, Bool.false_eq_true, if_true, if_false, reduceIte, Nat.reduceAdd, Nat.reduceSub, Nat.reduceEqDiff, Nat.reduceBEq, Nat.reduceLT, decide_true, decide_false], rfl, fun _ => ⟨[a0, a1, a2, a3, .val (.lst (lls xs)), a5, a6, a7, a8, a9, a10, a11, a12, a13, .val d], by simp only [ez, sSeq, sSet, setV, sRet, retV, sRetN, sIf, sExpr, sNil, sPass, sBreak, sCont, sFor, thenS, bind_eq, pure_eq, eVar, eC, mBin, peek, Dl.settle, ofO, toV, toVs, peeks, aCons, aNil, aStar, eB, eIx, eSl, eTup, eLst, eLc_eq, eLc2_eq, bindF, iSeq, iRng1, iRng2, iZip, eCall, callM, prep, ssOf, ssOfs, dist, isAli, noAli, scaR, scaD, back, back1, ownOr, isOwn, tCmp, tVal, tru, truD, tNot, tAnd, tOr, tYes', eAnd, eOr, eNot, eIf, eNeg, gN, gT, gsCons, gsNil, sSetIx, ownLst, ckL, mAppend_eq, eFld, lkF, sSetF, ownObj, putF2, eMake, makeM, eOwn2, ckC, zipD, dZip, strs_r, strr_s, List.zipWith_cons_cons, List.zipWith_nil_left, List.zipWith_nil_right, List.mem_singleton, eq_self, and_self, true_and, and_true,  oSome, oNo, gII, gIIc, dAdd, dSub, dMul, dDiv, dMod, dPow, dLt, dLe, dGt, dGe, gTT, gLL, gSS, gLen, gInt, gMax2, gMin2, gList, gTuple, gIsi, tyNm, dIx, dSl, items_l, items_t, noOwn, wipeS, backS, M.fail, post, mkFn, List.getElem?_cons_zero, List.getElem?_cons_succ, List.getElem?_nil, List.set_cons_zero, List.set_cons_succ, List.getD_cons_zero, List.getD_cons_succ, List.cons_append, List.nil_append, List.append_nil, List.length_cons, List.length_nil, List.replicate, List.tail_cons, List.tail_nil, List.any_cons, List.any_nil, List.all_cons, List.all_nil, List.map_cons, List.map_nil, Option.map_some, Option.map_none, Option.bind_some, Option.bind_none, Option.some_or, Option.none_or, Bool.not_true, Bool.not_false, Bool.and_true, Bool.true_and, Bool.and_false, Bool.false_and, Bool.or_true, Bool.or_false, Bool.true_or, Bool.false_or, Bool.false_eq_true, if_true, if_false, reduceIte, Nat.reduceAdd, Nat.reduceSub, Nat.reduceEqDiff, Nat.reduceBEq, Nat.reduceLT, decide_true, decide_false], by simp only [sSeq, sSet, setV, sRet, retV, sRetN, sIf, sExpr, sNil, sPass, sBreak, sCont, sFor, thenS, bind_eq, pure_eq, eVar, eC, mBin, peek, Dl.settle, ofO, toV, toVs, peeks, aCons, aNil, aStar, eB, eIx, eSl, eTup, eLst, eLc_eq, eLc2_eq, bindF, iSeq, iRng1, iRng2, iZip, eCall, callM, prep, ssOf, ssOfs, dist, isAli, noAli, scaR, scaD, back, back1, ownOr, isOwn, tCmp, tVal, tru, truD, tNot, tAnd, tOr, tYes', eAnd, eOr, eNot, eIf, eNeg, gN, gT, gsCons, gsNil, sSetIx, ownLst, ckL, mAppend_eq, eFld, lkF, sSetF, ownObj, putF2, eMake, makeM, eOwn2, ckC, zipD, dZip, strs_r, strr_s, List.zipWith_cons_cons, List.zipWith_nil_left, List.zipWith_nil_right, List.mem_singleton, eq_self, and_self, true_and, and_true,  oSome, oNo, gII, gIIc, dAdd, dSub, dMul, dDiv, dMod, dPow, dLt, dLe, dGt, dGe, gTT, gLL, gSS, gLen, gInt, gMax2, gMin2, gList, gTuple, gIsi, tyNm, dIx, dSl, items_l, items_t, noOwn, wipeS, backS, M.fail, post, mkFn, List.getElem?_cons_zero, List.getElem?_cons_succ, List.getElem?_nil, List.set_cons_zero, List.set_cons_succ, List.getD_cons_zero, List.getD_cons_succ, List.cons_append, List.nil_append, List.append_nil, List.length_cons, List.length_nil, List.replicate, List.tail_cons, List.tail_nil, List.any_cons, List.any_nil, List.all_cons, List.all_nil, List.map_cons, List.map_nil, Option.map_some, Option.map_none, Option.bind_some, Option.bind_none, Option.some_or, Option.none_or, Bool.not_true, Bool.not_false, Bool.and_true, Bool.true_and, Bool.and_false, Bool.false_and, Bool.or_true, Bool.or_false, Bool.true_or, Bool.false_or, Bool.false_eq_true, if_true, if_false, reduceIte, Nat.reduceAdd, Nat.reduceSub, Nat.reduceEqDiff, Nat.reduceBEq, Nat.reduceLT, decide_true, decide_false]⟩, fun z => nomatch z⟩
theorem rng2 : dRng1 [.int 2] = some [.int 0, .int 1] := rfl
theorem pow9v : ((10 : Int) ^ (9 : Int).toNat) = 1000000000 := rfl
theorem fce {ns : List Int} {k : Int} (h : 0 ≤ k) : fn_cell [.val (.scr ns), .val (.int k)] = some (.ret (.val (.int (cellV ns k))) [.val (.scr ns), .val (.int k)]) := if_pos h
def fn_law : Fn
  | [.val (.scr ns)] => some (.ret (.val (.bl true)) [.val (.scr ns)])
  | _ => none
theorem le_law : Fn.le fn_law (mkFn 1 15 (f_law fn_cell fn_source fn_draw fn_draw_sides fn_near fn_clean fn_init fn_le (fn_combos 8) fn_within)) := by
  intro ss o h
  unfold fn_law at h
  split at h
  · rename_i ns
    cases h
    have k0 : fn_cell [.val (.scr ns), .val (.int 0)] = _ := fce (by decide)
    have k1 : fn_cell [.val (.scr ns), .val (.int 1)] = _ := fce (by decide)
    have s0 : fn_source [.val (.int (cellV ns 0))] = some (.ret (.own (.lst (srcV (cellV ns 0)).ds)) [.val (.int (cellV ns 0))]) := rfl
    have s1 : fn_source [.val (.int (cellV ns 1))] = some (.ret (.own (.lst (srcV (cellV ns 1)).ds)) [.val (.int (cellV ns 1))]) := rfl
    generalize srcV (cellV ns 0) = sh0 at s0
    generalize srcV (cellV ns 1) = so0 at s1
    have d0 : fn_draw [.own (.lst sh0.ds), .val (.int 2)] = _ := fnd ⟨by decide, by decide⟩
    have g0 := Src.get_nonneg sh0 (n := 2) (by decide)
    have g1 := Src.get_lt sh0 (n := 2) (by decide)
    have sp : (if sh0.get 2 = 0 then D.int 4 else D.int (1000000000 + 1)) = .int (if sh0.get 2 = 0 then 4 else 1000000001) := by split <;> rfl
    have hs : 0 < (if sh0.get 2 = 0 then (4 : Int) else 1000000001) ∧ (if sh0.get 2 = 0 then (4 : Int) else 1000000001) < 2 ^ 64 := by split <;> decide
    generalize (if sh0.get 2 = 0 then (4 : Int) else 1000000001) = span at sp hs
    generalize sh0.next 2 = sh1 at d0
    have d1 : fn_draw [.own (.lst sh1.ds), .val (.int 8)] = _ := fnd ⟨by decide, by decide⟩
    have m0 := Src.get_nonneg sh1 (n := 8) (by decide)
    have m1 := Src.get_lt sh1 (n := 8) (by decide)
    generalize sh1.next 8 = sh2 at d1
    generalize hm : sh1.get 8 = m at d1 m0 m1
    have q1 := fds (sh := sh2) (so := so0) (m := 1 + m) (span := span) ⟨by omega, by omega, hs.1, hs.2⟩
    obtain ⟨gd, gl⟩ := good_ds hs.1 (B := 96) (1 + m).toNat ⟨sh2, so0, 96, []⟩ ⟨(by decide : (1 : Int) ≤ 96), (by decide : ((1 : Nat) : Int) * 96 ≤ (96 : Nat)), fun x hx => nomatch hx⟩
    rw [List.length_nil, Nat.zero_add] at gl
    generalize dsN span (1 + m).toNat ⟨sh2, so0, 96, []⟩ = R1 at q1 gd gl
    have xl : ∀ x ∈ R1.sides, x.length < 2 ^ 20 := fun x hx => by have h1 := vol_le_side hx; have h2 := gd.small; omega
    have q2 := fnr (sh := R1.sh) (so := R1.so) (xs := R1.sides) (span := span) ⟨hs, by omega, xl⟩
    obtain ⟨ge, gm⟩ := good_nr hs.1 (B := 128) R1.sides ⟨R1.sh, R1.so, 128, []⟩ gd.nn ⟨(by decide : (1 : Int) ≤ 128), (by decide : ((1 : Nat) : Int) * 128 ≤ (128 : Nat)), fun x hx => nomatch hx⟩
    rw [List.length_nil, Nat.zero_add] at gm
    generalize nrN span R1.sides ⟨R1.sh, R1.so, 128, []⟩ = R2 at q2 ge gm
    have yl : ∀ x ∈ R2.sides, x.length < 2 ^ 20 := fun x hx => by have h1 := vol_le_side hx; have h2 := ge.small; omega
    have n1 : R1.sides ≠ [] := fun z => by rw [z, List.length_nil] at gl; omega
    have n2 : R2.sides ≠ [] := fun z => by rw [z, List.length_nil] at gm; omega
    have v1 := gd.small
    have v2 := ge.small
    have i1 := fin (xs := R1.sides) n1 (fun s hs => ⟨gd.nn s hs, Nat.le_of_lt (xl s hs)⟩) (by omega) (by omega)
    have i2 := fin (xs := R2.sides) n2 (fun s hs => ⟨ge.nn s hs, Nat.le_of_lt (yl s hs)⟩) (by omega) (by omega)
    have ve : ∀ ss : List (List Int), vol (ss.map fun _ => ([] : List Int)) = 1 := fun ss => by
      induction ss with
      | nil => rfl
      | cons s ss ih => show max 1 0 * vol (ss.map fun _ => []) = 1; rw [ih]; rfl
    have i3 := fin (xs := R1.sides.map fun _ => []) (by simpa using n1) (fun s hs => by obtain ⟨t, _, rfl⟩ := List.mem_map.mp hs; exact And.intro (fun x hx => nomatch hx) (Nat.zero_le _)) (by rw [ve]; decide) (by rw [List.length_map]; omega)
    have em : (R1.sides.map fun _ => ([] : List Int)).map asc = R1.sides.map fun _ => [] := by
      rw [List.map_map]
      congr 1
      funext s
      exact asc_nil
    rw [em] at i3
    have c1 := fun {a0 a1 a2 a3 a5 a6 a7 a8 a9 a10 a11 a12 a13} => cl1 (xs := R1.sides) (fun s hs => Nat.le_of_lt (xl s hs)) (a0 := a0) (a1 := a1) (a2 := a2) (a3 := a3) (a5 := a5) (a6 := a6) (a7 := a7) (a8 := a8) (a9 := a9) (a10 := a10) (a11 := a11) (a12 := a12) (a13 := a13)
    have c2 := fun {a0 a1 a2 a3 a4 a6 a7 a8 a9 a10 a11 a12 a13} => cl2 (xs := R2.sides) (fun s hs => Nat.le_of_lt (yl s hs)) (a0 := a0) (a1 := a1) (a2 := a2) (a3 := a3) (a4 := a4) (a6 := a6) (a7 := a7) (a8 := a8) (a9 := a9) (a10 := a10) (a11 := a11) (a12 := a12) (a13 := a13)
    have o1 : (R1.sides.map asc).length ≤ 8 := by rw [List.length_map]; omega
    have o2 : (R2.sides.map asc).length ≤ 8 := by rw [List.length_map]; omega
    have ol : (R1.sides.map asc).length = (R2.sides.map asc).length := by rw [List.length_map, List.length_map, gm]
    have w1 : vol (R1.sides.map asc) ≤ 2 ^ 20 := by have := vol_asc R1.sides; omega
    have w2 : vol (R2.sides.map asc) ≤ 2 ^ 20 := by have := vol_asc R2.sides; omega
    have n3 : R1.sides.map asc ≠ [] := by simpa using n1
    have es : (R1.sides.map fun _ => ([] : List Int)) = (R1.sides.map asc).map fun _ => [] := by rw [List.map_map]; rfl
    rw [es] at i3
    have le8 := fle (a := R1.sides.map asc) (b := (R1.sides.map asc).map fun _ => []) o1
    have le11 := fle (a := (R1.sides.map asc).map fun _ => []) (b := R1.sides.map asc) (by rw [List.length_map]; exact o1)
    have z11 : (decide ((combos ((R1.sides.map asc).map fun _ => [])).length = 0) || subs ((R1.sides.map asc).map fun _ => []) (R1.sides.map asc)) = true := by rw [emp_combos n3]; rfl
    rw [z11] at le11
    have z8 : (decide ((combos (R1.sides.map asc)).length = 0) || subs (R1.sides.map asc) ((R1.sides.map asc).map fun _ => [])) = (((rws (combos (R1.sides.map asc))).length : Int) == 0) := by
      rw [Bool.eq_iff_iff, Bool.or_eq_true, decide_eq_true_eq, beq_iff_eq]
      unfold rws
      rw [List.length_map]
      constructor
      · rintro (z | z)
        · omega
        · rw [emp_subs n3 z]; rfl
      · intro z; left; omega
    rw [z8] at le8
    have cm := fcm o1 w1
    have t1 := fun {a0 a1 a2 a3 a4 a5 a10 a11 a12 a13 a14 s6 s7} => law_turn o1 o2 ol w1 w2 (a0 := a0) (a1 := a1) (a2 := a2) (a3 := a3) (a4 := a4) (a5 := a5) (a10 := a10) (a11 := a11) (a12 := a12) (a13 := a13) (a14 := a14) (s6 := s6) (s7 := s7)
    generalize hA : R1.sides.map asc = A at *
    generalize hB : R2.sides.map asc = B at *
    obtain ⟨p12, p13, ta⟩ := @t1 (.val (.scr ns)) (.own (.lst R2.sh.ds)) (.own (.lst R2.so.ds)) (.val (.int span)) (.val (.lst (lls R1.sides))) (.val (.lst (lls R2.sides))) (.val (.int 0)) .no .no .no .no (.own (.lst (lls A))) (.own (.lst (lls B))) (.inl rfl) (.inl rfl)
    obtain ⟨r12, r13, tb⟩ := @t1 (.val (.scr ns)) (.own (.lst R2.sh.ds)) (.own (.lst R2.so.ds)) (.val (.int span)) (.val (.lst (lls R1.sides))) (.val (.lst (lls R2.sides))) (.val (.int 1)) .no p12 p13 .no (.val (.lst (lls A))) (.val (.lst (lls B))) (.inr rfl) (.inr rfl)
    have lp : forL (gN 10) (b_law_1 fn_le fn_within (fn_combos 8)) [.int 0, .int 1] [.val (.scr ns), .own (.lst R2.sh.ds), .own (.lst R2.so.ds), .val (.int span), .val (.lst (lls R1.sides)), .val (.lst (lls R2.sides)), .own (.lst (lls A)), .own (.lst (lls B)), .own (.obj "Box" ["sides", "rows"] (oB A)), .own (.obj "Box" ["sides", "rows"] (oB B)), .no, .no, .no, .no, .no] =
        some (.nx [.val (.scr ns), .own (.lst R2.sh.ds), .own (.lst R2.so.ds), .val (.int span), .val (.lst (lls R1.sides)), .val (.lst (lls R2.sides)), .val (.lst (lls A)), .val (.lst (lls B)), .own (.obj "Box" ["sides", "rows"] (oB A)), .own (.obj "Box" ["sides", "rows"] (oB B)), .val (.int 1), .no, r12, r13, .no]) := by
      rw [forL_cons rfl ta, forL_cons rfl tb]; rfl
    have c3 := fun {a0 a1 a2 a3 a5 a6 a7 a8 a9 a10 a11 a12 a13} => cl3 (xs := R1.sides) (a0 := a0) (a1 := a1) (a2 := a2) (a3 := a3) (a5 := a5) (a6 := a6) (a7 := a7) (a8 := a8) (a9 := a9) (a10 := a10) (a11 := a11) (a12 := a12) (a13 := a13)
    rw [es] at c3
    have ez2 := sz2
    simp only [f_law, k0, k1, s0, s1, d0, at2 g0 g1, pow9, pow9v, sp, d1, q1, q2, c1, c2, c3, i1, i2, i3, rng2, lp, le8, le11, cm, dIsN_t, dEq_bb, dEq_ii, beq_self, ez2, Nat.zero_add, sSeq, sSet, setV, sRet, retV, sRetN, sIf, sExpr, sNil, sPass, sBreak, sCont, sFor, thenS, bind_eq, pure_eq, eVar, eC, mBin, peek, Dl.settle, ofO, toV, toVs, peeks, aCons, aNil, aStar, eB, eIx, eSl, eTup, eLst, eLc_eq, eLc2_eq, bindF, iSeq, iRng1, iRng2, iZip, eCall, callM, prep, ssOf, ssOfs, dist, isAli, noAli, scaR, scaD, back, back1, ownOr, isOwn, tCmp, tVal, tru, truD, tNot, tAnd, tOr, tYes', eAnd, eOr, eNot, eIf, eNeg, gN, gT, gsCons, gsNil, sSetIx, ownLst, ckL, mAppend_eq, eFld, lkF, sSetF, ownObj, putF2, eMake, makeM, eOwn2, ckC, zipD, dZip, strs_r, strr_s, List.zipWith_cons_cons, List.zipWith_nil_left, List.zipWith_nil_right, List.mem_singleton, eq_self, and_self, true_and, and_true,  oSome, oNo, gII, gIIc, dAdd, dSub, dMul, dDiv, dMod, dPow, dLt, dLe, dGt, dGe, gTT, gLL, gSS, gLen, gInt, gMax2, gMin2, gList, gTuple, gIsi, tyNm, dIx, dSl, items_l, items_t, noOwn, wipeS, backS, M.fail, post, mkFn, List.getElem?_cons_zero, List.getElem?_cons_succ, List.getElem?_nil, List.set_cons_zero, List.set_cons_succ, List.getD_cons_zero, List.getD_cons_succ, List.cons_append, List.nil_append, List.append_nil, List.length_cons, List.length_nil, List.replicate, List.tail_cons, List.tail_nil, List.any_cons, List.any_nil, List.all_cons, List.all_nil, List.map_cons, List.map_nil, Option.map_some, Option.map_none, Option.bind_some, Option.bind_none, Option.some_or, Option.none_or, Bool.not_true, Bool.not_false, Bool.and_true, Bool.true_and, Bool.and_false, Bool.false_and, Bool.or_true, Bool.or_false, Bool.true_or, Bool.false_or, Bool.false_eq_true, if_true, if_false, reduceIte, Nat.reduceAdd, Nat.reduceSub, Nat.reduceEqDiff, Nat.reduceBEq, Nat.reduceLT, decide_true, decide_false]
  · cases h
end My

namespace My
open PySem PySem.Spec PyProof.Rows L2 Dl
theorem all {P : Program} {w : World} {K : PySem.W.Frag} {h base : Heap} {mg : Str → Option Value} {f : Addr} {fd : FuncData} (X : K.In h) (G : h.Ns mainGlobals mg) (c : He.SaysD fa fn K) (F : FunD K "law" "law" (defArgs s_law) (defBody s_law) (defScope s_law) [] [] f fd) : FnOk P w K mg base (L2.CX P w) 22 f fd ["_law_script"] (spD K 1 fn_law) := by
  have h_bool : mg "bool" = none := He.free_ok X G (c.fact 33 (f := .free "bool") rfl)
  have h_int : mg "int" = none := He.free_ok X G (c.fact 35 (f := .free "int") rfl)
  have h_isinstance : mg "isinstance" = none := He.free_ok X G (c.fact 36 (f := .free "isinstance") rfl)
  have h_len : mg "len" = none := He.free_ok X G (c.fact 38 (f := .free "len") rfl)
  have h_list : mg "list" = none := He.free_ok X G (c.fact 39 (f := .free "list") rfl)
  have h_max : mg "max" = none := He.free_ok X G (c.fact 40 (f := .free "max") rfl)
  have h_range : mg "range" = none := He.free_ok X G (c.fact 41 (f := .free "range") rfl)
  have h_sorted : mg "sorted" = none := He.free_ok X G (c.fact 42 (f := .free "sorted") rfl)
  have h_tuple : mg "tuple" = none := He.free_ok X G (c.fact 43 (f := .free "tuple") rfl)
  have h_zip : mg "zip" = none := He.free_ok X G (c.fact 44 (f := .free "zip") rfl)
  have hf_rows : FldOk K ["Box"] "rows" := ⟨fun n hn => by rw [List.mem_singleton.mp hn]; exact ⟨He.cls_ok (c.fact 20 (f := .cls "Box") rfl), He.noat_ok (c.fact 30 (f := .noat "Box" "rows") rfl)⟩⟩
  have hf_sides : FldOk K ["Box"] "sides" := ⟨fun n hn => by rw [List.mem_singleton.mp hn]; exact ⟨He.cls_ok (c.fact 20 (f := .cls "Box") rfl), He.noat_ok (c.fact 31 (f := .noat "Box" "sides") rfl)⟩⟩
  obtain ⟨fd_is_integer, F_is_integer⟩ := c.def_ 1 (d := d_is_integer) rfl
  obtain ⟨fd_is_number, F_is_number⟩ := c.def_ 2 (d := d_is_number) rfl
  obtain ⟨fd_ascending, F_ascending⟩ := c.def_ 3 (d := d_ascending) rfl
  obtain ⟨fd_grid, F_grid⟩ := c.def_ 4 (d := d_grid) rfl
  obtain ⟨fd_Box_DinitD, F_Box_DinitD⟩ := c.def_ 15 (d := d_Box_DinitD) rfl
  obtain ⟨fd_Box_DleD, F_Box_DleD⟩ := c.def_ 19 (d := d_Box_DleD) rfl
  obtain ⟨fd__law_cell, F__law_cell⟩ := c.def_ 6 (d := d__law_cell) rfl
  obtain ⟨fd__law_source, F__law_source⟩ := c.def_ 7 (d := d__law_source) rfl
  obtain ⟨fd__law_draw, F__law_draw⟩ := c.def_ 8 (d := d__law_draw) rfl
  obtain ⟨fd__law_draw_sides, F__law_draw_sides⟩ := c.def_ 10 (d := d__law_draw_sides) rfl
  obtain ⟨fd__law_near, F__law_near⟩ := c.def_ 12 (d := d__law_near) rfl
  obtain ⟨fd__law_clean, F__law_clean⟩ := c.def_ 11 (d := d__law_clean) rfl
  obtain ⟨fd__law_combos, F__law_combos⟩ := c.def_ 9 (d := d__law_combos) rfl
  obtain ⟨fd__law_within, F__law_within⟩ := c.def_ 13 (d := d__law_within) rfl
  have q_c : DF P w K mg base "_law_combos" 0 1 (fun _ => none) := ⟨fun _ _ z => (nomatch z), _, _, _, He.glo_ok X G (c.fact 9 (f := .glo "_law_combos") rfl), F__law_combos.kp, (FunD.bindsN (ps := ["_law_sides"]) F__law_combos fun _ _ _ _ _ _ us hl => match us, hl with | [_], _ => rfl), ⟨fun vs H Q E ⟨_, _, _, _, _, _, _, z, _⟩ => (nomatch z), fun A outer s H args us vs Q E _ _ _ _ ⟨_, _, _, _, _, _, _, z, _⟩ => (nomatch z)⟩⟩
  have q_ii : DF P w K mg base "is_integer" 2 1 fn_is_integer := (df_of F_is_integer sc_is_integer (He.glo_ok X G (c.fact 1 (f := .glo "is_integer") rfl)) (FunD.bindsN (ps := ["value"]) F_is_integer fun _ _ _ _ _ _ us hl => match us, hl with | [_], _ => rfl) (b_is_integer (k := 0) h_int h_isinstance h_bool)).imp le_is_integer
  have q_in : DF P w K mg base "is_number" 4 1 fn_is_number := (df_of F_is_number sc_is_number (He.glo_ok X G (c.fact 2 (f := .glo "is_number") rfl)) (FunD.bindsN (ps := ["value"]) F_is_number fun _ _ _ _ _ _ us hl => match us, hl with | [_], _ => rfl) (b_is_number (k := 2) (q_ii.up (by decide)))).imp le_is_number
  have q_as : DF P w K mg base "ascending" 2 1 fn_ascending := (df_of F_ascending sc_ascending (He.glo_ok X G (c.fact 3 (f := .glo "ascending") rfl)) (FunD.bindsN (ps := ["numbers"]) F_ascending fun _ _ _ _ _ _ us hl => match us, hl with | [_], _ => rfl) (b_ascending (k := 0) h_int h_sorted h_tuple)).imp le_ascending
  have q_gr : DF P w K mg base "grid" 2 1 fn_grid := (df_of F_grid sc_grid (He.glo_ok X G (c.fact 4 (f := .glo "grid") rfl)) (FunD.bindsN (ps := ["sides"]) F_grid fun _ _ _ _ _ _ us hl => match us, hl with | [_], _ => rfl) (b_grid (k := 0) )).imp le_grid
  have q_bx : DM P w K mg base "Box" 6 2 fn_init := (dm_of (x := "Box") F_Box_DinitD sc_Box_DinitD (He.glo_ok X G (c.fact 19 (f := .glo "Box") rfl)) (He.mkr_ok (c.fact 22 (f := .mkr "Box") rfl)) (FunD.bindsN (ps := ["self", "sides"]) F_Box_DinitD fun _ _ _ _ _ _ us hl => match us, hl with | [_, _], _ => rfl) (b_Box_DinitD (k := 4) h_len (q_in.up (by decide)) (q_as.up (by decide)) h_tuple hf_sides (q_gr.up (by decide)) hf_rows)).imp le_init
  have q_le : DMeth P w K mg base "Box" "__le__" 2 2 fn_le := (dmeth_of (x := "Box") (m := "__le__") F_Box_DleD sc_Box_DleD (He.cls_ok (c.fact 20 (f := .cls "Box") rfl)) (He.meth_ok (c.fact 26 (f := .meth "Box" "__le__") rfl)) (FunD.bindsN (ps := ["self", "other"]) F_Box_DleD fun _ _ _ _ _ _ us hl => match us, hl with | [_, _], _ => rfl) (b_Box_DleD (k := 0) hf_rows h_len hf_sides h_zip)).imp le_le
  have q_ce : DF P w K mg base "_law_cell" 2 2 fn_cell := (df_of F__law_cell sc__law_cell (He.glo_ok X G (c.fact 6 (f := .glo "_law_cell") rfl)) (FunD.bindsN (ps := ["_law_script", "_law_k"]) F__law_cell fun _ _ _ _ _ _ us hl => match us, hl with | [_, _], _ => rfl) (b__law_cell (k := 0) h_len)).imp le_cell
  have q_so : DF P w K mg base "_law_source" 2 1 fn_source := (df_of F__law_source sc__law_source (He.glo_ok X G (c.fact 7 (f := .glo "_law_source") rfl)) (FunD.bindsN (ps := ["_law_cell_here"]) F__law_source fun _ _ _ _ _ _ us hl => match us, hl with | [_], _ => rfl) (b__law_source (k := 0) )).imp le_source
  have q_dr : DF P w K mg base "_law_draw" 2 2 fn_draw := (df_of F__law_draw sc__law_draw (He.glo_ok X G (c.fact 8 (f := .glo "_law_draw") rfl)) (FunD.bindsN (ps := ["_law_source_here", "_law_limit"]) F__law_draw fun _ _ _ _ _ _ us hl => match us, hl with | [_, _], _ => rfl) (b__law_draw (k := 0) h_int)).imp le_draw
  have q_ds : DF P w K mg base "_law_draw_sides" 4 4 fn_draw_sides := (df_of F__law_draw_sides sc__law_draw_sides (He.glo_ok X G (c.fact 10 (f := .glo "_law_draw_sides") rfl)) (FunD.bindsN (ps := ["_law_shape", "_law_source_here", "_law_many", "_law_span"]) F__law_draw_sides fun _ _ _ _ _ _ us hl => match us, hl with | [_, _, _, _], _ => rfl) (b__law_draw_sides (k := 2) h_range (q_dr.up (by decide)) h_max)).imp le_draw_sides
  have q_nr : DF P w K mg base "_law_near" 4 4 fn_near := (df_of F__law_near sc__law_near (He.glo_ok X G (c.fact 12 (f := .glo "_law_near") rfl)) (FunD.bindsN (ps := ["_law_sides", "_law_shape", "_law_source_here", "_law_span"]) F__law_near fun _ _ _ _ _ _ us hl => match us, hl with | [_, _, _, _], _ => rfl) (b__law_near (k := 2) (q_dr.up (by decide)) h_list h_range h_len h_max)).imp le_near
  have q_cl : DF P w K mg base "_law_clean" 2 1 fn_clean := (df_of F__law_clean sc__law_clean (He.glo_ok X G (c.fact 11 (f := .glo "_law_clean") rfl)) (FunD.bindsN (ps := ["_law_side"]) F__law_clean fun _ _ _ _ _ _ us hl => match us, hl with | [_], _ => rfl) (b__law_clean (k := 0) h_int h_sorted)).imp le_clean
  have q_c0 : DF P w K mg base "_law_combos" 2 1 (fn_combos 0) := (df_of F__law_combos sc__law_combos (He.glo_ok X G (c.fact 9 (f := .glo "_law_combos") rfl)) (FunD.bindsN (ps := ["_law_sides"]) F__law_combos fun _ _ _ _ _ _ us hl => match us, hl with | [_], _ => rfl) (b__law_combos (k := 0) h_len (q_c.up (by decide)))).imp (le_combos0 _)
  have q_c1 : DF P w K mg base "_law_combos" 4 1 (fn_combos 1) := (df_of F__law_combos sc__law_combos (He.glo_ok X G (c.fact 9 (f := .glo "_law_combos") rfl)) (FunD.bindsN (ps := ["_law_sides"]) F__law_combos fun _ _ _ _ _ _ us hl => match us, hl with | [_], _ => rfl) (b__law_combos (k := 2) h_len (q_c0.up (by decide)))).imp (le_combosS 0)
  have q_c2 : DF P w K mg base "_law_combos" 6 1 (fn_combos 2) := (df_of F__law_combos sc__law_combos (He.glo_ok X G (c.fact 9 (f := .glo "_law_combos") rfl)) (FunD.bindsN (ps := ["_law_sides"]) F__law_combos fun _ _ _ _ _ _ us hl => match us, hl with | [_], _ => rfl) (b__law_combos (k := 4) h_len (q_c1.up (by decide)))).imp (le_combosS 1)
  have q_c3 : DF P w K mg base "_law_combos" 8 1 (fn_combos 3) := (df_of F__law_combos sc__law_combos (He.glo_ok X G (c.fact 9 (f := .glo "_law_combos") rfl)) (FunD.bindsN (ps := ["_law_sides"]) F__law_combos fun _ _ _ _ _ _ us hl => match us, hl with | [_], _ => rfl) (b__law_combos (k := 6) h_len (q_c2.up (by decide)))).imp (le_combosS 2)
  have q_c4 : DF P w K mg base "_law_combos" 10 1 (fn_combos 4) := (df_of F__law_combos sc__law_combos (He.glo_ok X G (c.fact 9 (f := .glo "_law_combos") rfl)) (FunD.bindsN (ps := ["_law_sides"]) F__law_combos fun _ _ _ _ _ _ us hl => match us, hl with | [_], _ => rfl) (b__law_combos (k := 8) h_len (q_c3.up (by decide)))).imp (le_combosS 3)
  have q_c5 : DF P w K mg base "_law_combos" 12 1 (fn_combos 5) := (df_of F__law_combos sc__law_combos (He.glo_ok X G (c.fact 9 (f := .glo "_law_combos") rfl)) (FunD.bindsN (ps := ["_law_sides"]) F__law_combos fun _ _ _ _ _ _ us hl => match us, hl with | [_], _ => rfl) (b__law_combos (k := 10) h_len (q_c4.up (by decide)))).imp (le_combosS 4)
  have q_c6 : DF P w K mg base "_law_combos" 14 1 (fn_combos 6) := (df_of F__law_combos sc__law_combos (He.glo_ok X G (c.fact 9 (f := .glo "_law_combos") rfl)) (FunD.bindsN (ps := ["_law_sides"]) F__law_combos fun _ _ _ _ _ _ us hl => match us, hl with | [_], _ => rfl) (b__law_combos (k := 12) h_len (q_c5.up (by decide)))).imp (le_combosS 5)
  have q_c7 : DF P w K mg base "_law_combos" 16 1 (fn_combos 7) := (df_of F__law_combos sc__law_combos (He.glo_ok X G (c.fact 9 (f := .glo "_law_combos") rfl)) (FunD.bindsN (ps := ["_law_sides"]) F__law_combos fun _ _ _ _ _ _ us hl => match us, hl with | [_], _ => rfl) (b__law_combos (k := 14) h_len (q_c6.up (by decide)))).imp (le_combosS 6)
  have q_c8 : DF P w K mg base "_law_combos" 18 1 (fn_combos 8) := (df_of F__law_combos sc__law_combos (He.glo_ok X G (c.fact 9 (f := .glo "_law_combos") rfl)) (FunD.bindsN (ps := ["_law_sides"]) F__law_combos fun _ _ _ _ _ _ us hl => match us, hl with | [_], _ => rfl) (b__law_combos (k := 16) h_len (q_c7.up (by decide)))).imp (le_combosS 7)
  have q_wi : DF P w K mg base "_law_within" 20 2 fn_within := (df_of F__law_within sc__law_within (He.glo_ok X G (c.fact 13 (f := .glo "_law_within") rfl)) (FunD.bindsN (ps := ["_law_one", "_law_two"]) F__law_within fun _ _ _ _ _ _ us hl => match us, hl with | [_, _], _ => rfl) (b__law_within (k := 18) (q_c8.up (by decide)) h_len)).imp le_within
  have body : FnOk P w K mg base (L2.CX P w) 22 f fd ["_law_script"] (spD K 1 (mkFn 1 N_law.length _)) := fn_data F sc_law (b_law (k := 20) (q_ce.up (by decide)) (q_so.up (by decide)) (q_dr.up (by decide)) (q_ds.up (by decide)) (q_nr.up (by decide)) (q_cl.up (by decide)) (q_bx.up (by decide)) h_range (q_le.up (by decide)) h_bool h_isinstance (q_c8.up (by decide)) (q_wi.up (by decide)) h_len)
  exact body.imp fun vs H Q E q => spD_imp le_law q
theorem never {P : Program} {w : World} {K : PySem.W.Frag} {mg : Str → Option Value} {base : Heap} {k : Nat} {f : Addr} {fd : FuncData} {ps : List Str} {sp : Sp} (F : FnOk P w K mg base (L2.CX P w) k f fd ps sp) : FnOk P w K mg base L2.CX0 k f fd ps (fun vs H Q _ => sp vs H Q fun _ _ _ => False) :=
  ⟨fun vs H Q E q => F.len _ _ _ _ q, fun A outer s H args us vs Q E hr he hb hv hs => codeAny_mono (F.run A outer s H args us vs Q _ hr he hb hv hs) fun r s' z => by
    cases r with
    | ok v => cases v <;> exact z
    | error e =>
      obtain ⟨_, _, _, _, _, _, _, _, _, _, _, _, z⟩ := z
      exact z.elim⟩
theorem sp_law {K : PySem.W.Frag} (H : Hp) (a : Addr) (ns : List Int) (h : SqL K H a (ns.map V.int)) : spD K 1 fn_law [.ref a] H (fun v _ => v = .bl true) fun _ _ _ => False := by
  refine ⟨⟨fun _ => none, [some (.ref a)]⟩, H, [.val (.scr ns)], _, rfl, rfl, ⟨fun _ _ z => (nomatch z), Same.refl H, fun _ _ z => (nomatch z), rfl, fun i d z => ?_, fun i d z => ?_, fun i j d e b z => ?_, fun i d z => ?_⟩, rfl, fun v G' H' _ _ k => k⟩
  · cases i with
    | zero => cases z; exact ⟨.ref a, rfl, a, rfl, h⟩
    | succ i => cases z
  · cases i <;> cases z
  · cases i <;> cases z
  · cases i <;> cases z
theorem facts {P : Program} {w : World} {K : PySem.W.Frag} {h : Heap} {mg : Str → Option Value} {f : Addr} (X : K.In h) (G : h.Ns mainGlobals mg) (hfa : mg ("law" : Str) = some (.ref f)) (c : He.SaysD fa fn K) :
    ∃ fd : FuncData, (∀ (s : Shared) (v : Value), BindsTo s fd ⟨[v], []⟩ [("_law_script", v)]) ∧ ∀ base : Heap, K.In base → base.Ns mainGlobals mg → FnOk P w K mg base L2.CX0 22 f fd ["_law_script"] (fun vs H Q _ => spD K 1 fn_law vs H Q fun _ _ _ => False) := by
  obtain ⟨fd, F⟩ := c.def_ 14 (d := d_law) rfl
  have e := hfa.symm.trans (He.glo_ok X G (c.fact 14 (f := .glo "law") rfl))
  cases e
  have b := FunD.bindsA (ps := ["_law_script"]) F fun _ _ _ _ _ _ us hl => match us, hl with | [_], _ => rfl
  exact ⟨fd, fun s v => b s [v] rfl, fun base X2 G2 => never (all X2 G2 c F)⟩
end My
open PySem PySem.W PySem.Calls PyProof.Rows
theorem PySem.Challenge.cw_plainask_k04_box_within_holds : PySem.Challenge.rw_plainask_k04_box_within.Holds := by
  w_on; o_law
  refine HandSHeadRun.head_any (r := OpenLaw.row PySem.Challenge.rw_plainask_k04_box_within) (q := view (OpenLaw.row PySem.Challenge.rw_plainask_k04_box_within).prog [22]) (H := My.hk) (ob := My.ob) (M := 4000) (loose := My.loose) (d := HandSHeadRun.topDef (OpenLaw.row PySem.Challenge.rw_plainask_k04_box_within).prog 22) (kwd := []) My.ob_eq
    (by kernel_rfl) (fun s => by kernel_rfl) My.run (by kernel_rfl) (by kernel_rfl) (by kernel_rfl) (by rfl) (by first | assumption | decide +kernel) (by decide +kernel) ⟨rfl, rfl, rfl, rfl, rfl, by decide +kernel⟩ ?hw ?hc
  case hw => w_witness2
  case hc =>
    refine L2.walk_ofE (l := PySem.Challenge.rw_plainask_k04_box_within) (n := 63) (k := 22) (x := "_law_script") (CX := L2.CX0) rfl (by decide) (by kernel_rfl) ⟨rfl, by decide, by decide⟩ ?F (fun _ _ _ _ z => z)
    intro w mg fa h Y G hmg0
    obtain ⟨K, KX, c⟩ := Y
    have hmg : mg ("law" : PySem.Str) = some (.ref fa) := by
      have e : (HandSHeadRun.topDef (OpenLaw.row PySem.Challenge.rw_plainask_k04_box_within).prog 22).name = ("law" : PySem.Str) := by kernel_rfl
      rw [← e]
      exact hmg0
    obtain ⟨fd, hb, hF⟩ := My.facts (P := (PySem.Challenge.rw_plainask_k04_box_within).prog) (w := w) KX G hmg c
    exact ⟨K, fd, (fun vs H Q _ => Dl.spD K 1 My.fn_law vs H Q fun _ _ _ => False), KX, hb, fun H a ns hl _ hS => My.sp_law H a ns hS, hF⟩

