import PyProof.Rows.All
import Wide.All
import OpenK.AllK
import Wide.FinOn
import HandS.ForMost
import HandS.Wide
import HandS.Walk
import HandS.Zip
import HandS.IsInst
import HandS.TupAny
import HandS.Deep
import KE.SortData
import KE.DatumOrd
import KE.DatumIndex
import PyProof.ListStr
import HandS.Conv
import HandS.Style
import KE.DataFind
import KE.GoesEnum
import PySem.Challenge.RW_dialdoubt_k10_weights_told
set_option Elab.async false
set_option linter.all false
set_option maxRecDepth 100000
set_option maxHeartbeats 4000000
namespace Lw
open PySem PySem.W PyProof.Rows
set_option maxHeartbeats 0 in
open_top wrap for PySem.Challenge.rw_dialdoubt_k10_weights_told
end Lw
namespace M
open PySem PySem.Spec PyProof.Rows L2

abbrev D := PyData
abbrev Frg := PySem.W.Frag
/-- a slot: nothing; a value that never changes; a list that this def may change (l: made here; else handed in); a list that is read only -/
inductive Sl where
  | no | val (d : D) | own (l : Bool) (ds : List D) | ro (ds : List D)
abbrev En := List Sl

/-! ### values in a frozen heap -/
mutual
inductive Dt (F : Hp) : V → D → Prop
  | non : Dt F .non .none
  | bl (b : Bool) : Dt F (.bl b) (.bool b)
  | int (i : Int) : Dt F (.int i) (.int i)
  | str (x : Str) : Dt F (.str x) (.str x)
  | lst {a : Addr} {xs : List V} {ds : List D} : F a = some (.lst xs) → Da F xs ds → Dt F (.ref a) (.list ds)
  | tup {a : Addr} {xs : List V} {ds : List D} : F a = some (.tup xs) → Da F xs ds → Dt F (.ref a) (.tuple ds)
inductive Da (F : Hp) : List V → List D → Prop
  | nil : Da F [] []
  | cons {v : V} {vs : List V} {d : D} {ds : List D} : Dt F v d → Da F vs ds → Da F (v :: vs) (d :: ds)
end
mutual
theorem Dt.mono {F F' : Hp} (e : Same F F') : ∀ (d : D) (v : V), Dt F v d → Dt F' v d
  | .none, _, h => by cases h; exact .non
  | .bool _, _, h => by cases h; exact .bl _
  | .int _, _, h => by cases h; exact .int _
  | .str _, _, h => by cases h; exact .str _
  | .list ds, _, h => by
    cases h with
    | lst s a => exact .lst (e _ _ s) (Da.mono e ds _ a)
  | .tuple ds, _, h => by
    cases h with
    | tup s a => exact .tup (e _ _ s) (Da.mono e ds _ a)
  | .dict _, _, h => by cases h
theorem Da.mono {F F' : Hp} (e : Same F F') : ∀ (ds : List D) (vs : List V), Da F vs ds → Da F' vs ds
  | [], _, h => by cases h; exact .nil
  | d :: ds, _, h => by
    cases h with
    | cons h1 h2 => exact .cons (Dt.mono e d _ h1) (Da.mono e ds _ h2)
end
mutual
theorem Dt.dp {K : Frg} {F : Hp} : ∀ (d : D) (v : V), Dt F v d → Dp K F v d
  | .none, _, h => by cases h; exact .non
  | .bool _, _, h => by cases h; exact .bl _
  | .int _, _, h => by cases h; exact .int _
  | .str _, _, h => by cases h; exact .str _
  | .list ds, _, h => by
    cases h with
    | lst s a => exact .lst (SqL.of s) (Da.dp ds _ a)
  | .tuple ds, _, h => by
    cases h with
    | tup s a => exact .tup (SqT.of s) (Da.dp ds _ a)
  | .dict _, _, h => by cases h
theorem Da.dp {K : Frg} {F : Hp} : ∀ (ds : List D) (vs : List V), Da F vs ds → DpAll K F vs ds
  | [], _, h => by cases h; exact .nil
  | d :: ds, _, h => by
    cases h with
    | cons h1 h2 => exact .cons (Dt.dp d _ h1) (Da.dp ds _ h2)
end
theorem Da.length {F : Hp} : ∀ {ds : List D} {vs : List V}, Da F vs ds → vs.length = ds.length
  | [], _, h => by cases h; rfl
  | d :: ds, _, h => by
    cases h with
    | cons h1 h2 => simp [Da.length h2]
theorem Da.append {F : Hp} : ∀ {ds es : List D} {vs us : List V}, Da F vs ds → Da F us es → Da F (vs ++ us) (ds ++ es)
  | [], _, _, _, h, h' => by cases h; exact h'
  | d :: ds, _, _, _, h, h' => by
    cases h with
    | cons h1 h2 => exact .cons h1 (Da.append h2 h')
theorem Da.get {F : Hp} : ∀ {ds : List D} {vs : List V} {i : Nat} {d : D}, Da F vs ds → ds[i]? = some d → ∃ v, vs[i]? = some v ∧ Dt F v d
  | [], _, _, _, _, e => by simp at e
  | d :: ds, _, 0, _, h, e => by
    cases h with
    | cons h1 h2 => simp at e; subst e; exact ⟨_, rfl, h1⟩
  | d :: ds, _, i + 1, _, h, e => by
    cases h with
    | cons h1 h2 =>
      obtain ⟨v, h3, h4⟩ := Da.get (i := i) h2 (by simpa using e)
      exact ⟨v, by simpa using h3, h4⟩
theorem Da.get' {F : Hp} {ds : List D} {vs : List V} {i : Nat} {v : V} (h : Da F vs ds) (e : vs[i]? = some v) : ∃ d, ds[i]? = some d ∧ Dt F v d := by
  have hi : i < vs.length := (List.getElem?_eq_some_iff.mp e).1
  have hj : i < ds.length := by rw [← h.length]; exact hi
  obtain ⟨u, h1, h2⟩ := h.get (List.getElem?_eq_getElem hj)
  rw [e] at h1; cases h1
  exact ⟨_, List.getElem?_eq_getElem hj, h2⟩
theorem Da.of {F : Hp} : ∀ {ds : List D} {vs : List V}, vs.length = ds.length → (∀ (i : Nat) v d, vs[i]? = some v → ds[i]? = some d → Dt F v d) → Da F vs ds
  | [], [], _, _ => .nil
  | [], _ :: _, h, _ => by simp at h
  | _ :: _, [], h, _ => by simp at h
  | d :: ds, v :: vs, h, g => .cons (g 0 v d rfl rfl) (Da.of (by simpa using h) fun i u e h1 h2 => g (i + 1) u e (by simpa using h1) (by simpa using h2))
theorem Da.pick {F : Hp} {ds es : List D} {vs us : List V} (h : Da F vs ds) (hl : us.length = es.length) (g : ∀ (i : Nat) v d, us[i]? = some v → es[i]? = some d → ∃ j : Nat, vs[j]? = some v ∧ ds[j]? = some d) : Da F us es :=
  Da.of hl fun i v d h1 h2 => by
    obtain ⟨j, e1, e2⟩ := g i v d h1 h2
    obtain ⟨d', e, q⟩ := h.get' e1
    rw [e2] at e; cases e; exact q
theorem Da.take {F : Hp} {ds : List D} {vs : List V} (h : Da F vs ds) (n : Nat) : Da F (vs.take n) (ds.take n) :=
  h.pick (by simp [h.length]) fun i v d h1 h2 => by
    rw [List.getElem?_take] at h1 h2
    split at h1
    · rename_i hn
      rw [if_pos hn] at h2
      exact ⟨i, h1, h2⟩
    · cases h1
theorem Da.drop {F : Hp} {ds : List D} {vs : List V} (h : Da F vs ds) (n : Nat) : Da F (vs.drop n) (ds.drop n) :=
  h.pick (by simp [h.length]) fun i v d h1 h2 => by
    rw [List.getElem?_drop] at h1 h2
    exact ⟨n + i, h1, h2⟩
theorem Da.set {F : Hp} {ds : List D} {vs : List V} {d : D} {v : V} (h : Da F vs ds) (q : Dt F v d) (n : Nat) : Da F (vs.set n v) (ds.set n d) := by
  refine Da.of (by simp [h.length]) fun i v' d' h1 h2 => ?_
  by_cases hi : n = i
  · subst hi
    have l1 : n < vs.length := by have := (List.getElem?_eq_some_iff.mp h1).1; simpa using this
    have l2 : n < ds.length := by rw [← h.length]; exact l1
    rw [List.getElem?_set_self l1] at h1
    rw [List.getElem?_set_self l2] at h2
    cases h1; cases h2; exact q
  · rw [List.getElem?_set_ne hi] at h1 h2
    obtain ⟨d2, e, q'⟩ := h.get' h1
    rw [h2] at e; cases e; exact q'
/-- a def's frame: what is frozen and what stands at its entry; the pinned objects; the slots at entry -/
structure Gm where
  F0 : Hp
  H0 : Hp
  P : Hp
  R : Hp
  s0 : L2.St

structure Ok (K : Frg) (G : Gm) (F : Hp) (env : En) (s : L2.St) (H : Hp) : Prop where
  len : s.length = env.length
  fr : Same F H
  val : ∀ (i : Nat) d, env[i]? = some (.val d) → ∃ v, s[i]? = some (some v) ∧ Dt F v d
  own : ∀ (i : Nat) l ds, env[i]? = some (.own l ds) → ∃ a vs, s[i]? = some (some (.ref a)) ∧ H a = some (.lst vs) ∧ F a = none ∧ G.P a = none ∧ Da F vs ds ∧ (l = true → G.H0 a = none) ∧ (l = false → G.s0[i]? = some (some (.ref a)))
  ro : ∀ (i : Nat) ds, env[i]? = some (.ro ds) → ∃ a vs, s[i]? = some (some (.ref a)) ∧ SqL K G.R a vs ∧ Da F vs ds
  sep : ∀ (i j : Nat) l ds m es, env[i]? = some (.own l ds) → env[j]? = some (.own m es) → s[i]? = s[j]? → i = j
  pin : Same G.P H
  dom : ∀ a, H a = none → G.H0 a = none
  grow : Same G.F0 F
  new : ∀ a o, F a = some o → G.F0 a = some o ∨ G.H0 a = none
  rin : Same G.R G.P

theorem same_upd {F : Hp} {p : Addr} {o : HO} (h : F p = none) : Same F (upd F p o) := fun b x e => by
  rw [upd_ne (ne_of_none e h)]
  exact e
theorem same_laid {F H : Hp} {p : Addr} {o : HO} (e : Same F H) (hp : H p = none) : Same F (upd H p o) := fun a u q => by
  have := e a u q
  rw [upd_ne (ne_of_none this hp)]; exact this

section
variable {K : Frg} {G : Gm} {F : Hp} {env : En} {s : L2.St} {H : Hp} {p : Addr} {o : HO}
/-- a new object, not frozen -/
theorem Ok.laid (k : Ok K G F env s H) (hp : H p = none) : Ok K G F env s (upd H p o) where
  len := k.len
  fr := same_laid k.fr hp
  val := k.val
  own := fun i l ds e => by
    obtain ⟨a, vs, h1, h2, h3⟩ := k.own i l ds e
    exact ⟨a, vs, h1, by rw [upd_ne (ne_of_none h2 hp)]; exact h2, h3⟩
  ro := k.ro
  sep := k.sep
  pin := same_laid k.pin hp
  dom := fun a e => by
    by_cases h : a = p
    · subst h; rw [upd_same] at e; cases e
    · rw [upd_ne h] at e; exact k.dom a e
  grow := k.grow
  new := k.new
  rin := k.rin
/-- freezing -/
theorem Ok.freeze (k : Ok K G F env s H) (h1 : H p = some o) (h2 : F p = none) (h3 : G.H0 p = none) (h4 : ∀ (j : Nat) l es, env[j]? = some (.own l es) → s[j]? ≠ some (some (.ref p))) : Ok K G (upd F p o) env s H where
  len := k.len
  fr := fun a u e => by
    by_cases h : a = p
    · subst h; rw [upd_same] at e; rw [h1]; exact e
    · rw [upd_ne h] at e; exact k.fr a u e
  val := fun i d e => by
    obtain ⟨v, q1, q2⟩ := k.val i d e
    exact ⟨v, q1, Dt.mono (same_upd h2) d v q2⟩
  own := fun i l ds e => by
    obtain ⟨a, us, q1, q2, q3, q4, q5, q6⟩ := k.own i l ds e
    have ne : a ≠ p := fun z => by subst z; exact h4 i l ds e q1
    exact ⟨a, us, q1, q2, by rw [upd_ne ne]; exact q3, q4, Da.mono (same_upd h2) ds us q5, q6⟩
  ro := fun i ds e => by
    obtain ⟨a, us, q1, q2, q3⟩ := k.ro i ds e
    exact ⟨a, us, q1, q2, Da.mono (same_upd h2) ds us q3⟩
  sep := k.sep
  pin := k.pin
  dom := k.dom
  grow := k.grow.trans (same_upd h2)
  new := fun a u e => by
    by_cases h : a = p
    · subst h; exact .inr h3
    · rw [upd_ne h] at e; exact k.new a u e
  rin := k.rin
theorem Ok.notown (k : Ok K G F env s H) (hp : H p = none) : ∀ (j : Nat) l es, env[j]? = some (.own l es) → s[j]? ≠ some (some (.ref p)) := fun j l es e z => by
  obtain ⟨a, vs, h1, h2, _⟩ := k.own j l es e
  rw [z] at h1
  cases h1
  rw [hp] at h2; cases h2
/-- a new object, frozen at once -/
theorem Ok.alloc (k : Ok K G F env s H) (hp : H p = none) : Ok K G (upd F p o) env s (upd H p o) :=
  (k.laid hp).freeze upd_same (k.fr.free hp) (k.dom p hp) (k.notown hp)
end

/-- a value frozen, or a list that the def owns or may read -/
def Dq (K : Frg) (F H : Hp) (v : V) (d : D) : Prop := Dt F v d ∨ ∃ a vs ds, v = .ref a ∧ d = .list ds ∧ SqL K H a vs ∧ Da F vs ds
theorem Dq.dp {K : Frg} {F H : Hp} {v : V} {d : D} (e : Same F H) (h : Dq K F H v d) : Dp K H v d := by
  rcases h with h | ⟨a, vs, ds, rfl, rfl, h1, h2⟩
  · exact Dt.dp d v (Dt.mono e d v h)
  · exact .lst h1 (Da.dp ds vs (Da.mono e ds vs h2))
theorem Dq.list {K : Frg} {F H : Hp} {v : V} {ds : List D} (e : Same F H) (h : Dq K F H v (.list ds)) : ∃ a vs, v = .ref a ∧ SqL K H a vs ∧ Da F vs ds := by
  rcases h with h | ⟨a, vs, es, rfl, e2, h1, h2⟩
  · cases h with
    | lst s a => exact ⟨_, _, rfl, SqL.of (e _ _ s), a⟩
  · cases e2
    exact ⟨a, vs, rfl, h1, h2⟩
theorem Dq.tup {K : Frg} {F H : Hp} {v : V} {ds : List D} (e : Same F H) (h : Dq K F H v (.tuple ds)) : ∃ a vs, v = .ref a ∧ H a = some (.tup vs) ∧ F a = some (.tup vs) ∧ Da F vs ds := by
  rcases h with h | ⟨a, vs, es, rfl, e2, h1, h2⟩
  · cases h with
    | tup s a => exact ⟨_, _, rfl, e _ _ s, s, a⟩
  · cases e2
theorem Dq.int {K : Frg} {F H : Hp} {v : V} {i : Int} (h : Dq K F H v (.int i)) : v = .int i := by
  rcases h with h | ⟨a, vs, ds, rfl, e, h1, h2⟩
  · cases h; rfl
  · cases e
theorem Dq.bl {K : Frg} {F H : Hp} {v : V} {i : Bool} (h : Dq K F H v (.bool i)) : v = .bl i := by
  rcases h with h | ⟨a, vs, ds, rfl, e, h1, h2⟩
  · cases h; rfl
  · cases e
theorem Dq.str {K : Frg} {F H : Hp} {v : V} {i : Str} (h : Dq K F H v (.str i)) : v = .str i := by
  rcases h with h | ⟨a, vs, ds, rfl, e, h1, h2⟩
  · cases h; rfl
  · cases e
theorem Dq.non {K : Frg} {F H : Hp} {v : V} (h : Dq K F H v .none) : v = .non := by
  rcases h with h | ⟨a, vs, ds, rfl, e, h1, h2⟩
  · cases h; rfl
  · cases e
/-! ### judgements -/
abbrev Ef := En → Option (D × En)
abbrev Bf := En → Option (Bool × En)
abbrev Lf := En → Option (List D × En)
def RE (K : Frg) (t : TE) (f : Ef) : Prop := ∀ G F env s H d env', Ok K G F env s H → f env = some (d, env') → ∀ Q : VK, (∀ F' H' v, Ok K G F' env' s H' → Same F F' → Dt F' v d → Q v H') → t s H Q
/-- the value may be one of the def's own lists -/
def RO (K : Frg) (t : TE) (f : Ef) : Prop := ∀ G F env s H d env', Ok K G F env s H → f env = some (d, env') → ∀ Q : VK, (∀ F' H' v, Ok K G F' env' s H' → Same F F' → Dq K F' H' v d → Q v H') → t s H Q
/-- a new list, nobody's yet -/
def RN (K : Frg) (t : TE) (f : Lf) : Prop := ∀ G F env s H ds env', Ok K G F env s H → f env = some (ds, env') → ∀ Q : VK,
  (∀ F' H' p vs, Ok K G F' env' s H' → Same F F' → H' p = some (.lst vs) → F' p = none → G.H0 p = none → G.P p = none → (∀ (j : Nat) l es, env'[j]? = some (.own l es) → s[j]? ≠ some (some (.ref p))) → Da F' vs ds → Q (.ref p) H') → t s H Q
def RB (K : Frg) (t : TT) (f : Bf) : Prop := ∀ G F env s H b env', Ok K G F env s H → f env = some (b, env') → ∀ Q : Bool → Hp → Prop, (∀ F' H', Ok K G F' env' s H' → Same F F' → Q b H') → t s H Q
def RL (K : Frg) (t : TA) (f : Lf) : Prop := ∀ G F env s H ds env', Ok K G F env s H → f env = some (ds, env') → ∀ Q : List V → Hp → Prop, (∀ F' H' vs, Ok K G F' env' s H' → Same F F' → Da F' vs ds → Q vs H') → t s H Q

structure XE (X : Cx) (e : Expr) (f : Ef) : Prop where
  ex : ∃ t, PE X e t ∧ RE X.K t f
structure XO (X : Cx) (e : Expr) (f : Ef) : Prop where
  ex : ∃ t, PE X e t ∧ RO X.K t f
structure XN (X : Cx) (e : Expr) (f : Lf) : Prop where
  ex : ∃ t, PE X e t ∧ RN X.K t f
structure XB (X : Cx) (e : Expr) (f : Bf) : Prop where
  ex : ∃ t, PT X e t ∧ RB X.K t f
structure XW (X : Cx) (e : Expr) (f : Bf) : Prop where
  ex : ∃ t, PW X e t ∧ RB X.K t f
structure XL (X : Cx) (es : List Expr) (f : Lf) : Prop where
  ex : ∃ t, PA X es t ∧ RL X.K t f
theorem RE.ro {K : Frg} {t : TE} {f : Ef} (h : RE K t f) : RO K t f := fun G F env s H d env' k e Q q => h G F env s H d env' k e Q fun F' H' v k' s' p => q F' H' v k' s' (.inl p)
theorem XE.xo {X : Cx} {e : Expr} {f : Ef} (h : XE X e f) : XO X e f := let ⟨t, h1, h2⟩ := h.ex; ⟨t, h1, h2.ro⟩
def eFz (f : Lf) : Ef := fun env => (f env).map fun r => (.list r.1, r.2)
theorem RN.re {K : Frg} {t : TE} {f : Lf} (h : RN K t f) : RE K t (eFz f) := fun G F env s H d env' k e Q q => by
  unfold eFz at e
  obtain ⟨⟨ds, e1⟩, e2, e3⟩ := Option.map_eq_some_iff.mp e
  cases e3
  refine h G F env s H ds _ k e2 Q fun F' H' p vs k' s' h1 h2 h3 _ h4 h5 => ?_
  exact q (upd F' p (.lst vs)) H' (.ref p) (k'.freeze h1 h2 h3 h4) (s'.trans (same_upd h2)) (.lst upd_same (Da.mono (same_upd h2) ds vs h5))
theorem XN.xe {X : Cx} {e : Expr} {f : Lf} (h : XN X e f) : XE X e (eFz f) := let ⟨t, h1, h2⟩ := h.ex; ⟨t, h1, h2.re⟩
end M

namespace M
open PySem PySem.Spec PyProof.Rows L2

/-! ### names, constants -/
def eV (i : Nat) : Ef := fun env => match env[i]? with
  | some (.val d) => some (d, env)
  | _ => none
def eO (i : Nat) : Ef := fun env => match env[i]? with
  | some (.val d) => some (d, env)
  | some (.own _ ds) => some (.list ds, env)
  | some (.ro ds) => some (.list ds, env)
  | _ => none
def eC (d : D) : Ef := fun env => some (d, env)
section
variable {X : Cx} {a b c e : Expr} {es : List Expr} {f fa fb fc : Ef} {pos : Pos}
theorem re_var {K : Frg} (i : Nat) : RE K (tVar i) (eV i) := fun G F env s H d env' k e Q q => by
  unfold eV at e
  split at e
  · rename_i d' h
    cases e
    obtain ⟨v, h1, h2⟩ := k.val i _ h
    exact ⟨v, h1, q F H v k (Same.refl F) h2⟩
  · cases e
theorem xv (i : Nat) {x : Str} {pos : Pos} (hN : X.N[i]? = some x := by rfl) (hv : Vis X.env.scope x := by first | exact Or.inl rfl | exact Or.inr (Or.inl rfl) | exact Or.inr (Or.inr rfl)) (hd : (x == ("__debug__" : Str)) = false := by decide)
    (hcd : (x == ("__classdict__" : Str)) = false := by decide) : XE X (.Name x pos) (eV i) := ⟨_, pe_var hN hv hd hcd, re_var i⟩
theorem re_c {K : Frg} {v : V} {d : D} (h : ∀ F, Dt F v d) : RE K (tC v) (eC d) := fun G F env s H d' env' k e Q q => by
  cases e
  exact q F H v k (Same.refl F) (h F)
theorem xe_int {i j pos} : XE X (.Constant (.int i) j pos) (eC (.int i)) := ⟨_, pe_int, re_c fun _ => .int i⟩
theorem xe_bl {b j pos} : XE X (.Constant (.bool b) j pos) (eC (.bool b)) := ⟨_, pe_bl, re_c fun _ => .bl b⟩
/-! ### two places -/
def GO (K : Frg) (r : R2) (g : D → D → Option D) : Prop := ∀ G F env s H x y d e z, Ok K G F env s H → Dt F x d → Dt F y e → g d e = some z → ∀ Q : VK, (∀ F' H' v, Ok K G F' env s H' → Same F F' → Dt F' v z → Q v H') → r x y H Q
def GQ (K : Frg) (r : R2) (g : D → D → Option D) : Prop := ∀ G F env s H x y d e z, Ok K G F env s H → Dq K F H x d → Dq K F H y e → g d e = some z → ∀ Q : VK, (∀ F' H' v, Ok K G F' env s H' → Same F F' → Dt F' v z → Q v H') → r x y H Q
theorem GQ.go {K : Frg} {r : R2} {g : D → D → Option D} (h : GQ K r g) : GO K r g := fun G F env s H x y d e z k h1 h2 h3 Q q => h G F env s H x y d e z k (.inl h1) (.inl h2) h3 Q q
def eBin (g : D → D → Option D) (fa fb : Ef) : Ef := fun env => (fa env).bind fun r => (fb r.2).bind fun q => (g r.1 q.1).map fun d => (d, q.2)
theorem bin_some {g : D → D → Option D} {fa fb : Ef} {env env' : En} {d : D} (e : eBin g fa fb env = some (d, env')) : ∃ d1 e1 d2, fa env = some (d1, e1) ∧ fb e1 = some (d2, env') ∧ g d1 d2 = some d := by
  unfold eBin at e
  obtain ⟨⟨d1, e1⟩, h1, e⟩ := Option.bind_eq_some_iff.mp e
  obtain ⟨⟨d2, e2⟩, h2, e⟩ := Option.bind_eq_some_iff.mp e
  obtain ⟨z, h3, e⟩ := Option.map_eq_some_iff.mp e
  cases e
  exact ⟨d1, e1, d2, h1, h2, h3⟩
theorem re_bin {K : Frg} {r : R2} {g : D → D → Option D} {ta tb : TE} (ho : GO K r g) (ha : RE K ta fa) (hb : RE K tb fb) : RE K (tOp r ta tb) (eBin g fa fb) := fun G F env s H d env' k e Q q => by
  obtain ⟨d1, e1, d2, h1, h2, h3⟩ := bin_some e
  refine ha G F env s H d1 e1 k h1 _ fun F1 H1 v1 k1 s1 p1 => ?_
  refine hb G F1 e1 s H1 d2 env' k1 h2 _ fun F2 H2 v2 k2 s2 p2 => ?_
  exact ho G F2 env' s H2 v1 v2 d1 d2 d k2 (Dt.mono s2 d1 v1 p1) p2 h3 Q fun F3 H3 v3 k3 s3 p3 => q F3 H3 v3 k3 ((s1.trans s2).trans s3) p3
theorem Dq.up {K : Frg} {F F' H : Hp} {v : V} {d : D} (e : Same F F') (h : Dq K F H v d) : Dq K F' H v d := by
  rcases h with h | ⟨a, vs, ds, h1, h2, h3, h4⟩
  · exact .inl (Dt.mono e d v h)
  · exact .inr ⟨a, vs, ds, h1, h2, h3, Da.mono e ds vs h4⟩
/-- the first one a name -/
def eBinV (g : D → D → Option D) (i : Nat) (fb : Ef) : Ef := fun env => (eO i env).bind fun _ => (fb env).bind fun q => (eO i q.2).bind fun r => (g r.1 q.1).map fun d => (d, q.2)
theorem dq_slot {K : Frg} {G : Gm} {F : Hp} {env env' : En} {s : L2.St} {H : Hp} {i : Nat} {d : D} (k : Ok K G F env s H) (e : eO i env = some (d, env')) : ∃ v, s[i]? = some (some v) ∧ Dq K F H v d := by
  unfold eO at e
  split at e
  · rename_i d' h
    cases e
    obtain ⟨v, h1, h2⟩ := k.val i _ h
    exact ⟨v, h1, .inl h2⟩
  · rename_i l ds h
    cases e
    obtain ⟨p, vs, h1, h2, h3, h4, h5, _⟩ := k.own i l ds h
    exact ⟨_, h1, .inr ⟨p, vs, ds, rfl, rfl, SqL.of h2, h5⟩⟩
  · rename_i ds h
    cases e
    obtain ⟨p, vs, h1, h2, h3⟩ := k.ro i ds h
    exact ⟨_, h1, .inr ⟨p, vs, ds, rfl, rfl, (k.rin.trans k.pin).seq h2, h3⟩⟩
  · cases e
/-- the first operand a name whose list may be the def's own -/
theorem re_binV {K : Frg} {r : R2} {g : D → D → Option D} {tb : TE} {i : Nat} (ho : GQ K r g) (hb : RE K tb fb) : RE K (tOp r (tVar i) tb) (eBinV g i fb) := fun G F env s H d env' k e Q q => by
  unfold eBinV at e
  obtain ⟨⟨d0, e0⟩, h0, e⟩ := Option.bind_eq_some_iff.mp e
  obtain ⟨⟨d2, e2⟩, h2, e⟩ := Option.bind_eq_some_iff.mp e
  obtain ⟨⟨d1, e1⟩, h1, e⟩ := Option.bind_eq_some_iff.mp e
  obtain ⟨z, h3, e⟩ := Option.map_eq_some_iff.mp e
  cases e
  obtain ⟨v, hv, _⟩ := dq_slot k h0
  refine ⟨v, hv, ?_⟩
  refine hb G F env s H d2 e2 k h2 _ fun F2 H2 v2 k2 s2 p2 => ?_
  obtain ⟨v', hv', hd⟩ := dq_slot k2 h1
  rw [hv] at hv'
  cases hv'
  exact ho G F2 e2 s H2 v v2 d1 d2 d k2 hd (.inl p2) h3 Q fun F3 H3 v3 k3 s3 p3 => q F3 H3 v3 k3 (s2.trans s3) p3
end
end M

namespace M
open PySem PySem.Spec PyProof.Rows L2

/-! ### operators -/
def fits (n : Nat) : Bool := decide (n ≤ 16777216)
theorem fits_line {n : Nat} (h : fits n = true) : n ≤ sizeLine := by rw [sizeLine_eq]; exact of_decide_eq_true h
def gAdd : D → D → Option D
  | .int i, .int j => some (.int (i + j))
  | .str x, .str y => if fits (x.length + y.length) then some (.str (x ++ y)) else none
  | .list xs, .list ys => if fits (xs.length + ys.length) then some (.list (xs ++ ys)) else none
  | .tuple xs, .tuple ys => if fits (xs.length + ys.length) then some (.tuple (xs ++ ys)) else none
  | _, _ => none
def gSub : D → D → Option D
  | .int i, .int j => some (.int (i - j))
  | _, _ => none
/-- a product that the model surely makes -/
def mulOk (i j : Int) : Bool := decide (i.natAbs < 2 ^ 64) || decide (j.natAbs < 2 ^ 64) || (decide (i.natAbs < 10 ^ 250 * 10 ^ 250) && decide (j.natAbs < 10 ^ 250 * 10 ^ 250))
theorem mulOk.ok {i j : Int} (h : mulOk i j = true) : IntMulOk i j := by
  unfold mulOk at h
  simp only [Bool.or_eq_true, Bool.and_eq_true, decide_eq_true_eq] at h
  rcases h with (h | h) | ⟨h1, h2⟩
  · exact CMul.ok (.inl (by omega))
  · exact CMul.ok (.inr (by omega))
  · have h8 : (10 ^ 250 * 10 ^ 250 : Nat) ≤ 2 ^ 1700 := by decide +kernel
    exact CMulW.ok (wide_mul (a := 1700) (b := 1700) (Nat.lt_of_lt_of_le h1 h8) (Nat.lt_of_lt_of_le h2 h8) (by decide) (by decide) (by decide))
def gMul : D → D → Option D
  | .int i, .int j => if mulOk i j then some (.int (i * j)) else none
  | .list xs, .int k => if decide (0 ≤ k) && decide (k < 1000000) && fits (xs.length * k.toNat) then some (.list (List.replicate k.toNat xs).flatten) else none
  | _, _ => none
def divOk (j : Int) : Bool := decide (0 < j) && decide (j < 10 ^ 250 * 10 ^ 250)
def gDiv : D → D → Option D
  | .int i, .int j => if divOk j then some (.int (i / j)) else none
  | _, _ => none
def gMod : D → D → Option D
  | .int i, .int j => if decide (0 < j) then some (.int (i % j)) else none
  | _, _ => none
def gPow : D → D → Option D
  | .int i, .int j => if decide (0 ≤ j) && decide (j ≤ 1000000) && decide (i.natAbs < 2 ^ 64) then some (.int (i ^ j.toNat)) else none
  | _, _ => none
theorem GO.intro {K : Frg} {r : R2} {g : D → D → Option D} (h : ∀ G F env s H x y d e z, Ok K G F env s H → Dt F x d → Dt F y e → g d e = some z → ∀ Q : VK, (∀ F' H' v, Ok K G F' env s H' → Same F F' → Dt F' v z → Q v H') → r x y H Q) : GO K r g := h

def rMulI : R2 := fun x y H Q => ∃ i j, x = .int i ∧ y = .int j ∧ IntMulOk i j ∧ Q (.int (i * j)) H
section
variable {X : Cx}
theorem op_mulI : OpR X (binaryOp .Mult) rMulI := by
  intro pins s σ H x y v u Q I rx ry h
  obtain ⟨i, j, rfl, rfl, hc, q⟩ := h
  obtain ⟨t, rfl⟩ := rx
  obtain ⟨t', rfl⟩ := ry
  exact mul_int ⟨.int (i * j), H, I.tok _, ⟨_, rfl⟩, q⟩ hc
def rAddA (K : Frg) : R2 := fun x y H Q => (rI0 fun i j => .int (i + j)) x y H Q ∨ (∃ i j, x = .str i ∧ y = .str j ∧ i.length + j.length ≤ sizeLine ∧ Q (.str (i ++ j)) H) ∨ rCat x y H Q ∨ rCatA K x y H Q
theorem op_addA : OpR X (binaryOp .Add) (rAddA X.K) := op_add.or (op_add_str.or (op_cat.or op_catA))
theorem go_add {K : Frg} : GO K (rAddA K) gAdd := by
  intro G F env s H x y d e z k h1 h2 h3 Q q
  unfold gAdd at h3
  split at h3
  · cases h1; cases h2; cases h3
    exact .inl ⟨_, _, rfl, rfl, q F H _ k (Same.refl F) (.int _)⟩
  · split at h3
    · rename_i hf
      cases h1; cases h2; cases h3
      exact .inr (.inl ⟨_, _, rfl, rfl, fits_line hf, q F H _ k (Same.refl F) (.str _)⟩)
    · cases h3
  · split at h3
    · rename_i hf
      cases h3
      cases h1 with
      | lst a1 b1 =>
        cases h2 with
        | lst a2 b2 =>
          refine .inr (.inr (.inl ⟨_, _, _, _, rfl, rfl, k.fr _ _ a1, k.fr _ _ a2, by rw [b1.length, b2.length]; exact fits_line hf, fun p hp => ?_⟩))
          exact q _ _ _ (k.alloc hp) (same_upd (k.fr.free hp)) (.lst upd_same (Da.mono (same_upd (k.fr.free hp)) _ _ (b1.append b2)))
    · cases h3
  · split at h3
    · rename_i hf
      cases h3
      cases h1 with
      | tup a1 b1 =>
        cases h2 with
        | tup a2 b2 =>
          refine .inr (.inr (.inr ⟨_, _, _, _, rfl, rfl, SqT.of (k.fr _ _ a1), SqT.of (k.fr _ _ a2), by rw [b1.length, b2.length]; exact fits_line hf, fun e0 => ?_, fun _ e0 => ?_, fun _ _ p hp => ?_⟩))
          · subst e0; cases b1
            exact q F H _ k (Same.refl F) (.tup a2 b2)
          · subst e0; cases b2
            rw [List.append_nil] at *
            exact q F H _ k (Same.refl F) (.tup a1 b1)
          · exact q _ _ _ (k.alloc hp) (same_upd (k.fr.free hp)) (.tup upd_same (Da.mono (same_upd (k.fr.free hp)) _ _ (b1.append b2)))
    · cases h3
  · cases h3
theorem go_sub {K : Frg} : GO K (rI0 fun i j => .int (i - j)) gSub := by
  intro G F env s H x y d e z k h1 h2 h3 Q q
  unfold gSub at h3
  split at h3
  · cases h1; cases h2; cases h3
    exact ⟨_, _, rfl, rfl, q F H _ k (Same.refl F) (.int _)⟩
  · cases h3
def rMulA : R2 := fun x y H Q => rMulI x y H Q ∨ rRep x y H Q
theorem op_mulA : OpR X (binaryOp .Mult) rMulA := op_mulI.or op_rep
theorem Da.rep {F : Hp} {ds : List D} {vs : List V} (h : Da F vs ds) : ∀ n : Nat, Da F (List.replicate n vs).flatten (List.replicate n ds).flatten
  | 0 => .nil
  | n + 1 => by
    rw [List.replicate_succ, List.replicate_succ, List.flatten_cons, List.flatten_cons]
    exact h.append (Da.rep h n)
theorem go_mul {K : Frg} : GO K rMulA gMul := by
  intro G F env s H x y d e z k h1 h2 h3 Q q
  unfold gMul at h3
  split at h3
  · split at h3
    · rename_i hf
      cases h1; cases h2; cases h3
      exact .inl ⟨_, _, rfl, rfl, mulOk.ok hf, q F H _ k (Same.refl F) (.int _)⟩
    · cases h3
  · split at h3
    · rename_i hf
      cases h3
      simp only [Bool.and_eq_true, decide_eq_true_eq] at hf
      cases h2
      cases h1 with
      | lst a1 b1 =>
        refine .inr ⟨_, _, _, rfl, rfl, k.fr _ _ a1, by omega, by omega, by rw [b1.length]; exact fits_line hf.2, fun p hp => ?_⟩
        exact q _ _ _ (k.alloc hp) (same_upd (k.fr.free hp)) (.lst upd_same (Da.mono (same_upd (k.fr.free hp)) _ _ (Da.rep b1 _)))
    · cases h3
  · cases h3
theorem go_div {K : Frg} : GO K (rI CDivW fun i j => .int (i / j)) gDiv := by
  intro G F env s H x y d e z k h1 h2 h3 Q q
  unfold gDiv at h3
  split at h3
  · split at h3
    · rename_i hf
      cases h1; cases h2; cases h3
      unfold divOk at hf
      simp only [Bool.and_eq_true, decide_eq_true_eq] at hf
      refine ⟨_, _, rfl, rfl, wide_div (b := 1700) hf.1 ?_ (by decide) (by decide), q F H _ k (Same.refl F) (.int _)⟩
      have h8 : (10 ^ 250 * 10 ^ 250 : Nat) ≤ 2 ^ 1700 := by decide +kernel
      have h9 := hf.2
      omega
    · cases h3
  · cases h3
theorem go_mod {K : Frg} : GO K (rI (fun _ j => 0 < j) fun i j => .int (i % j)) gMod := by
  intro G F env s H x y d e z k h1 h2 h3 Q q
  unfold gMod at h3
  split at h3
  · split at h3
    · rename_i hf
      cases h1; cases h2; cases h3
      exact ⟨_, _, rfl, rfl, of_decide_eq_true hf, q F H _ k (Same.refl F) (.int _)⟩
    · cases h3
  · cases h3
theorem go_pow {K : Frg} : GO K (rI CPow fun i j => .int (i ^ j.toNat)) gPow := by
  intro G F env s H x y d e z k h1 h2 h3 Q q
  unfold gPow at h3
  split at h3
  · split at h3
    · rename_i hf
      cases h1; cases h2; cases h3
      simp only [Bool.and_eq_true, decide_eq_true_eq] at hf
      exact ⟨_, _, rfl, rfl, ⟨hf.1.1, hf.1.2, hf.2⟩, q F H _ k (Same.refl F) (.int _)⟩
    · cases h3
  · cases h3
variable {a b c e : Expr} {f fa fb fc : Ef} {pos : Pos}
theorem xe_op {op : Operator} {r : R2} {g : D → D → Option D} (ho : OpR X (binaryOp op) r) (hg : GO X.K r g) (ha : XE X a fa) (hb : XE X b fb) : XE X (.BinOp a op b pos) (eBin g fa fb) :=
  let ⟨_, h1, h2⟩ := ha.ex; let ⟨_, h3, h4⟩ := hb.ex; ⟨_, pe_op ho h1 h3, re_bin hg h2 h4⟩
theorem xe_add (ha : XE X a fa) (hb : XE X b fb) : XE X (.BinOp a .Add b pos) (eBin gAdd fa fb) := xe_op op_addA go_add ha hb
theorem xe_sub (ha : XE X a fa) (hb : XE X b fb) : XE X (.BinOp a .Sub b pos) (eBin gSub fa fb) := xe_op op_sub go_sub ha hb
theorem xe_mul (ha : XE X a fa) (hb : XE X b fb) : XE X (.BinOp a .Mult b pos) (eBin gMul fa fb) := xe_op op_mulA go_mul ha hb
theorem xe_div (ha : XE X a fa) (hb : XE X b fb) : XE X (.BinOp a .FloorDiv b pos) (eBin gDiv fa fb) := xe_op op_fdivW go_div ha hb
theorem xe_mod (ha : XE X a fa) (hb : XE X b fb) : XE X (.BinOp a .Mod b pos) (eBin gMod fa fb) := xe_op op_mod go_mod ha hb
theorem xe_pow (ha : XE X a fa) (hb : XE X b fb) : XE X (.BinOp a .Pow b pos) (eBin gPow fa fb) := xe_op op_pow go_pow ha hb
/-! ### one place -/
def GU (K : Frg) (r : V → Hp → VK → Prop) (g : D → Option D) : Prop := ∀ G F env s H x d z, Ok K G F env s H → Dq K F H x d → g d = some z → ∀ Q : VK, (∀ F' H' v, Ok K G F' env s H' → Same F F' → Dt F' v z → Q v H') → r x H Q
def eUn (g : D → Option D) (fa : Ef) : Ef := fun env => (fa env).bind fun r => (g r.1).map fun d => (d, r.2)
theorem un_some {g : D → Option D} {fa : Ef} {env env' : En} {d : D} (e : eUn g fa env = some (d, env')) : ∃ d1, fa env = some (d1, env') ∧ g d1 = some d := by
  unfold eUn at e
  obtain ⟨⟨d1, e1⟩, h1, e⟩ := Option.bind_eq_some_iff.mp e
  obtain ⟨z, h3, e⟩ := Option.map_eq_some_iff.mp e
  cases e
  exact ⟨d1, h1, h3⟩
theorem re_un {K : Frg} {r : V → Hp → VK → Prop} {g : D → Option D} {ta : TE} (ho : GU K r g) (ha : RO K ta fa) : RE K (tUn r ta) (eUn g fa) := fun G F env s H d env' k e Q q => by
  obtain ⟨d1, h1, h3⟩ := un_some e
  refine ha G F env s H d1 env' k h1 _ fun F1 H1 v1 k1 s1 p1 => ?_
  exact ho G F1 env' s H1 v1 d1 d k1 p1 h3 Q fun F3 H3 v3 k3 s3 p3 => q F3 H3 v3 k3 (s1.trans s3) p3
def gNeg : D → Option D
  | .int i => some (.int (-i))
  | _ => none
theorem gu_neg {K : Frg} : GU K (rU fun i => .int (-i)) gNeg := by
  intro G F env s H x d z k h1 h3 Q q
  unfold gNeg at h3
  split at h3
  · cases h3
    exact ⟨_, h1.int, q F H _ k (Same.refl F) (.int _)⟩
  · cases h3
theorem xe_neg (ha : XE X a fa) : XE X (.UnaryOp .USub a pos) (eUn gNeg fa) :=
  let ⟨_, h1, h2⟩ := ha.ex; ⟨_, pe_un un_neg h1, re_un gu_neg h2.ro⟩

/-! ### comparisons -/
def gLt : D → D → Option D
  | .int i, .int j => some (.bool (decide (i < j)))
  | _, _ => none
def gLe : D → D → Option D
  | .int i, .int j => some (.bool (decide (i ≤ j)))
  | _, _ => none
def gGt : D → D → Option D
  | .int i, .int j => some (.bool (decide (j < i)))
  | _, _ => none
def gGe : D → D → Option D
  | .int i, .int j => some (.bool (decide (j ≤ i)))
  | _, _ => none
theorem gq_lt {K : Frg} : GQ K (rI0 fun i j => .bl (decide (i < j))) gLt := by
  intro G F env s H x y d e z k h1 h2 h3 Q q
  unfold gLt at h3
  split at h3
  · cases h3; exact ⟨_, _, h1.int, h2.int, q F H _ k (Same.refl F) (.bl _)⟩
  · cases h3
theorem gq_gt {K : Frg} : GQ K (rI0 fun i j => .bl (decide (j < i))) gGt := by
  intro G F env s H x y d e z k h1 h2 h3 Q q
  unfold gGt at h3
  split at h3
  · cases h3; exact ⟨_, _, h1.int, h2.int, q F H _ k (Same.refl F) (.bl _)⟩
  · cases h3
theorem gq_ge {K : Frg} : GQ K (rI0 fun i j => .bl (decide (j ≤ i))) gGe := by
  intro G F env s H x y d e z k h1 h2 h3 Q q
  unfold gGe at h3
  split at h3
  · cases h3; exact ⟨_, _, h1.int, h2.int, q F H _ k (Same.refl F) (.bl _)⟩
  · cases h3
def shp (d : D) : Bool := SeqAt.shaped d
def gEq (d e : D) : Option D := if shp d && shp e then some (.bool (PyData.eqv d e)) else none
def gNe (d e : D) : Option D := if shp d && shp e then some (.bool (!PyData.eqv d e)) else none
theorem gq_eq {K : Frg} : GQ K (rEqD K) gEq := by
  intro G F env s H x y d e z k h1 h2 h3 Q q
  unfold gEq at h3
  split at h3
  · rename_i hf
    cases h3
    rw [Bool.and_eq_true] at hf
    exact ⟨d, e, h1.dp k.fr, h2.dp k.fr, hf.1, hf.2, q F H _ k (Same.refl F) (.bl _)⟩
  · cases h3
theorem gq_ne {K : Frg} : GQ K (rNeD K) gNe := by
  intro G F env s H x y d e z k h1 h2 h3 Q q
  unfold gNe at h3
  split at h3
  · rename_i hf
    cases h3
    rw [Bool.and_eq_true] at hf
    exact ⟨d, e, h1.dp k.fr, h2.dp k.fr, hf.1, hf.2, q F H _ k (Same.refl F) (.bl _)⟩
  · cases h3
def bV (f : Ef) : Bf := fun env => (f env).bind fun r => match r.1 with
  | .bool b => some (b, r.2)
  | _ => none
theorem bV_some {f : Ef} {env env' : En} {b : Bool} (e : bV f env = some (b, env')) : f env = some (.bool b, env') := by
  unfold bV at e
  obtain ⟨⟨d1, e1⟩, h1, e⟩ := Option.bind_eq_some_iff.mp e
  cases d1 <;> first | (cases e; exact h1) | cases e
theorem rb_test {K : Frg} {t : TE} {f : Ef} (h : RE K t f) : RB K (tTest t) (bV f) := fun G F env s H b env' k e Q q =>
  h G F env s H _ env' k (bV_some e) _ fun F' H' v k' s' p => by cases p; exact ⟨b, rfl, q F' H' k' s'⟩
theorem rb_tB {K : Frg} {t : TE} {f : Ef} (h : RE K t f) : RB K (tB t) (bV f) := fun G F env s H b env' k e Q q =>
  h G F env s H _ env' k (bV_some e) _ fun F' H' v k' s' p => by cases p; exact ⟨b, rfl, q F' H' k' s'⟩
/-- an expression that is True or False, as a test -/
theorem xb_val (h : XE X a fa) (he : ∀ whole, isTrue a X.env whole = (do let v ← whole; standAt a.pos; holding [v] (truthy v)) := by intro _; rfl) : XB X a (bV fa) :=
  let ⟨_, h1, h2⟩ := h.ex; ⟨_, pt_val h1 he, rb_tB h2⟩
section
variable {op : CmpOp} {r : R2} {g : D → D → Option D}
theorem xe_cmp (ho : OpR X (compareOp op) r) (hg : GQ X.K r g) (ha : XE X a fa) (hb : XE X b fb) (hm : behindInMarks op b = false) : XE X (.Compare a [op] [b] pos) (eBin g fa fb) :=
  let ⟨_, h1, h2⟩ := ha.ex; let ⟨_, h3, h4⟩ := hb.ex; ⟨_, pe_cmpR ho h1 h3 hm, re_bin hg.go h2 h4⟩
theorem xb_cmp (ho : OpR X (compareOp op) r) (hg : GQ X.K r g) (ha : XE X a fa) (hb : XE X b fb) (hm : behindInMarks op b = false) : XB X (.Compare a [op] [b] pos) (bV (eBin g fa fb)) :=
  let ⟨_, h1, h2⟩ := ha.ex; let ⟨_, h3, h4⟩ := hb.ex; ⟨_, pt_cmpR ho h1 h3 hm, rb_test (re_bin hg.go h2 h4)⟩
/-- the first operand, a name, may be -/
theorem xb_cmpV {x : Str} {p2 : Pos} (i : Nat) (ho : OpR X (compareOp op) r) (hg : GQ X.K r g) (hb : XE X b fb) (hm : behindInMarks op b = false) (hN : X.N[i]? = some x := by rfl) (hv : Vis X.env.scope x := by first | exact Or.inl rfl | exact Or.inr (Or.inl rfl) | exact Or.inr (Or.inr rfl)) (hd : (x == ("__debug__" : Str)) = false := by decide)
    (hcd : (x == ("__classdict__" : Str)) = false := by decide) : XB X (.Compare (.Name x p2) [op] [b] pos) (bV (eBinV g i fb)) :=
  let ⟨_, h3, h4⟩ := hb.ex; ⟨_, pt_cmpR ho (pe_var hN hv hd hcd) h3 hm, rb_test (re_binV hg h4)⟩
/-- a op b op' c -/
def eChain (g g' : D → D → Option D) (fa fb fc : Ef) : Ef := fun env => (fa env).bind fun r => (fb r.2).bind fun q => (g r.1 q.1).bind fun z => match z with
  | .bool true => (fc q.2).bind fun w => (g' q.1 w.1).map fun d => (d, w.2)
  | .bool false => some (.bool false, q.2)
  | _ => none
end
/-! in, not in -/
end
end M

namespace M
open PySem PySem.Spec PyProof.Rows L2
section
variable {X : Cx} {a b c e : Expr} {es : List Expr} {f fa fb fc : Ef} {ga gb gc : Bf} {pos : Pos} {K : Frg}

/-! ### and, or, not, if-expressions -/
def bAnd (p q : Bf) : Bf := fun env => (p env).bind fun r => if r.1 then q r.2 else some (false, r.2)
def bOr (p q : Bf) : Bf := fun env => (p env).bind fun r => if r.1 then some (true, r.2) else q r.2
def bNot (p : Bf) : Bf := fun env => (p env).map fun r => (!r.1, r.2)
theorem rb_and {t u : TT} (h1 : RB K t ga) (h2 : RB K u gb) : RB K (tAnd t u) (bAnd ga gb) := fun G F env s H b env' k e Q q => by
  unfold bAnd at e
  obtain ⟨⟨c, e1⟩, h3, e⟩ := Option.bind_eq_some_iff.mp e
  refine h1 G F env s H c e1 k h3 _ fun F1 H1 k1 s1 => ?_
  cases c with
  | true =>
    rw [if_pos rfl] at e ⊢
    exact h2 G F1 e1 s H1 b env' k1 e Q fun F2 H2 k2 s2 => q F2 H2 k2 (s1.trans s2)
  | false =>
    rw [if_neg Bool.false_ne_true] at e ⊢
    cases e
    exact q F1 H1 k1 s1
theorem rb_or {t u : TT} (h1 : RB K t ga) (h2 : RB K u gb) : RB K (tOr t u) (bOr ga gb) := fun G F env s H b env' k e Q q => by
  unfold bOr at e
  obtain ⟨⟨c, e1⟩, h3, e⟩ := Option.bind_eq_some_iff.mp e
  refine h1 G F env s H c e1 k h3 _ fun F1 H1 k1 s1 => ?_
  cases c with
  | false =>
    rw [if_neg Bool.false_ne_true] at e ⊢
    exact h2 G F1 e1 s H1 b env' k1 e Q fun F2 H2 k2 s2 => q F2 H2 k2 (s1.trans s2)
  | true =>
    rw [if_pos rfl] at e ⊢
    cases e
    exact q F1 H1 k1 s1
theorem rb_not {t : TT} (h1 : RB K t ga) : RB K (tNot t) (bNot ga) := fun G F env s H b env' k e Q q => by
  unfold bNot at e
  obtain ⟨⟨c, e1⟩, h3, e⟩ := Option.map_eq_some_iff.mp e
  cases e
  exact h1 G F env s H c e1 k h3 _ fun F1 H1 k1 s1 => q F1 H1 k1 s1
theorem xw_and1 (ha : XB X a ga) : XW X (.BoolOp .And [a] pos) ga := let ⟨_, h1, h2⟩ := ha.ex; ⟨_, pw_and1 h1, h2⟩
theorem xw_or1 (ha : XB X a ga) : XW X (.BoolOp .Or [a] pos) ga := let ⟨_, h1, h2⟩ := ha.ex; ⟨_, pw_or1 h1, h2⟩
theorem xw_and {rest : List Expr} (ha : XB X a ga) (hb : XW X (.BoolOp .And (b :: rest) pos) gb) : XW X (.BoolOp .And (a :: b :: rest) pos) (bAnd ga gb) :=
  let ⟨_, h1, h2⟩ := ha.ex; let ⟨_, h3, h4⟩ := hb.ex; ⟨_, pw_and h1 h3, rb_and h2 h4⟩
theorem xw_or {rest : List Expr} (ha : XB X a ga) (hb : XW X (.BoolOp .Or (b :: rest) pos) gb) : XW X (.BoolOp .Or (a :: b :: rest) pos) (bOr ga gb) :=
  let ⟨_, h1, h2⟩ := ha.ex; let ⟨_, h3, h4⟩ := hb.ex; ⟨_, pw_or h1 h3, rb_or h2 h4⟩
theorem xb_w (h : XW X a ga) : XB X a ga := let ⟨_, h1, h2⟩ := h.ex; ⟨_, h1.pt, h2⟩
theorem xb_not (ha : XB X a ga) : XB X (.UnaryOp .Not a pos) (bNot ga) := let ⟨_, h1, h2⟩ := ha.ex; ⟨_, pt_not h1, rb_not h2⟩
def eAnd (fa fb : Ef) : Ef := fun env => (fa env).bind fun r => match r.1 with
  | .bool true => fb r.2
  | .bool false => some (.bool false, r.2)
  | _ => none
def eOr (fa fb : Ef) : Ef := fun env => (fa env).bind fun r => match r.1 with
  | .bool false => fb r.2
  | .bool true => some (.bool true, r.2)
  | _ => none
def eNot (fa : Ef) : Ef := fun env => (fa env).bind fun r => match r.1 with
  | .bool b => some (.bool !b, r.2)
  | _ => none
theorem re_and {ta tb : TE} (h1 : RE K ta fa) (h2 : RE K tb fb) : RE K (tAndV ta tb) (eAnd fa fb) := fun G F env s H d env' k e Q q => by
  unfold eAnd at e
  obtain ⟨⟨c, e1⟩, h3, e⟩ := Option.bind_eq_some_iff.mp e
  refine h1 G F env s H c e1 k h3 _ fun F1 H1 v k1 s1 p1 => ?_
  cases p1 with
  | bl b =>
    refine ⟨b, rfl, ?_⟩
    cases b with
    | true =>
      rw [if_pos rfl]
      exact h2 G F1 e1 s H1 d env' k1 e Q fun F2 H2 v2 k2 s2 p2 => q F2 H2 v2 k2 (s1.trans s2) p2
    | false =>
      rw [if_neg Bool.false_ne_true]
      cases e
      exact q F1 H1 _ k1 s1 (.bl _)
  | _ => cases e
theorem re_not {ta : TE} (h1 : RE K ta fa) : RE K (tNotV ta) (eNot fa) := fun G F env s H d env' k e Q q => by
  unfold eNot at e
  obtain ⟨⟨c, e1⟩, h3, e⟩ := Option.bind_eq_some_iff.mp e
  refine h1 G F env s H c e1 k h3 _ fun F1 H1 v k1 s1 p1 => ?_
  cases p1 with
  | bl b =>
    cases e
    exact ⟨b, rfl, q F1 H1 _ k1 s1 (.bl _)⟩
  | _ => cases e
theorem xe_one {op} (h : XE X a fa) : XE X (.BoolOp op [a] pos) fa := let ⟨_, h1, h2⟩ := h.ex; ⟨_, pe_one h1, h2⟩
theorem xe_and {rest : List Expr} (ha : XE X a fa) (hb : XE X (.BoolOp .And (b :: rest) pos) fb) : XE X (.BoolOp .And (a :: b :: rest) pos) (eAnd fa fb) :=
  let ⟨_, h1, h2⟩ := ha.ex; let ⟨_, h3, h4⟩ := hb.ex; ⟨_, pe_and h1 h3, re_and h2 h4⟩
theorem xe_not (ha : XE X a fa) : XE X (.UnaryOp .Not a pos) (eNot fa) := let ⟨_, h1, h2⟩ := ha.ex; ⟨_, pe_not h1, re_not h2⟩
def eIf (p : Bf) (fa fb : Ef) : Ef := fun env => (p env).bind fun r => if r.1 then fa r.2 else fb r.2
/-! ### argument lists, displays -/
def lNil : Lf := fun env => some ([], env)
def lCons (f : Ef) (g : Lf) : Lf := fun env => (f env).bind fun r => (g r.2).map fun q => (r.1 :: q.1, q.2)
theorem lCons_some {f : Ef} {g : Lf} {env env' : En} {ds : List D} (e : lCons f g env = some (ds, env')) : ∃ d e1 r, f env = some (d, e1) ∧ g e1 = some (r, env') ∧ ds = d :: r := by
  unfold lCons at e
  obtain ⟨⟨d, e1⟩, h1, e⟩ := Option.bind_eq_some_iff.mp e
  obtain ⟨⟨r, e2⟩, h2, e⟩ := Option.map_eq_some_iff.mp e
  cases e
  exact ⟨d, e1, r, h1, h2, rfl⟩
theorem xl_nil : XL X [] lNil := ⟨_, pa_nil, fun G F env s H d env' k e Q q => by cases e; exact q F H [] k (Same.refl F) .nil⟩
theorem xl_cons {g : Lf} (ha : XE X e f) (hr : XL X es g) (hs : starEach (e :: es) X.env = (false, eval e X.env) :: starEach es X.env := by rfl) : XL X (e :: es) (lCons f g) := by
  obtain ⟨ta, h1, h2⟩ := ha.ex
  obtain ⟨tr, h3, h4⟩ := hr.ex
  refine ⟨_, pa_cons h1 h3 hs, fun G F env s H d env' k e Q q => ?_⟩
  obtain ⟨d1, e1, r, h5, h6, rfl⟩ := lCons_some e
  refine h2 G F env s H d1 e1 k h5 _ fun F1 H1 v k1 s1 p1 => ?_
  refine h4 G F1 e1 s H1 r env' k1 h6 _ fun F2 H2 vs k2 s2 p2 => ?_
  exact q F2 H2 _ k2 (s1.trans s2) (.cons (Dt.mono s2 d1 v p1) p2)
def eTup (g : Lf) : Ef := fun env => (g env).bind fun r => if fits r.1.length then some (.tuple r.1, r.2) else none
theorem xe_tup {x1} {g : Lf} (h : XL X es g) : XE X (.Tuple es x1 pos) (eTup g) := by
  obtain ⟨t, h1, h2⟩ := h.ex
  refine ⟨_, pe_tup h1, fun G F env s H d env' k e Q q => ?_⟩
  unfold eTup at e
  obtain ⟨⟨ds, e1⟩, h3, e⟩ := Option.bind_eq_some_iff.mp e
  split at e
  · rename_i hf
    cases e
    refine h2 G F env s H ds _ k h3 _ fun F1 H1 vs k1 s1 p1 => ⟨by rw [p1.length]; exact fits_line hf, fun p hp => ?_⟩
    exact q _ _ _ (k1.alloc hp) (s1.trans (same_upd (k1.fr.free hp))) (.tup upd_same (Da.mono (same_upd (k1.fr.free hp)) _ _ p1))
  · cases e
def lLst (g : Lf) : Lf := fun env => (g env).bind fun r => if fits r.1.length then some (r.1, r.2) else none
theorem xn_lst {g : Lf} (h : XL X es g) : XN X (.List es pos) (lLst g) := by
  obtain ⟨t, h1, h2⟩ := h.ex
  refine ⟨_, pe_lst h1, fun G F env s H d env' k e Q q => ?_⟩
  unfold lLst at e
  obtain ⟨⟨ds, e1⟩, h3, e⟩ := Option.bind_eq_some_iff.mp e
  split at e
  · rename_i hf
    cases e
    refine h2 G F env s H ds _ k h3 _ fun F1 H1 vs k1 s1 p1 => ⟨by rw [p1.length]; exact fits_line hf, fun p hp => ?_⟩
    exact q F1 _ p vs (k1.laid hp) s1 upd_same (k1.fr.free hp) (k1.dom p hp) (k1.pin.free hp) (k1.notown hp) p1
  · cases e
/-! ### subscripts -/
def gIdx : D → D → Option D
  | .list ds, .int i => atI ds i
  | .tuple ds, .int i => atI ds i
  | .str x, .int i => if fits x.length then (atI x.cps.toList i).map fun c => .str ⟨#[c]⟩ else none
  | _, _ => none
theorem Da.at_ {F : Hp} {ds : List D} {vs : List V} {i : Int} {d : D} (h : Da F vs ds) (e : atI ds i = some d) : ∃ v, atI vs i = some v ∧ Dt F v d := by
  unfold atI at e ⊢
  rw [h.length]
  cases hx : ixN ds.length i with
  | none => rw [hx] at e; cases e
  | some j =>
    rw [hx] at e
    obtain ⟨v, h1, h2⟩ := h.get (show ds[j]? = some d from e)
    exact ⟨v, h1, h2⟩
theorem gq_idx : GQ K (rIx K) gIdx := by
  intro G F env s H x y d e z k h1 h2 h3 Q q
  unfold gIdx at h3
  split at h3
  · obtain ⟨p, vs, rfl, h4, h5⟩ := h1.list k.fr
    obtain ⟨v, h6, h7⟩ := h5.at_ h3
    exact .inl ⟨p, vs, _, v, rfl, h2.int, h4, h6, q F H v k (Same.refl F) h7⟩
  · obtain ⟨p, vs, rfl, h4, _, h5⟩ := h1.tup k.fr
    obtain ⟨v, h6, h7⟩ := h5.at_ h3
    exact .inr (.inl ⟨p, vs, _, v, rfl, h2.int, SqT.of h4, h6, q F H v k (Same.refl F) h7⟩)
  · split at h3
    · rename_i hf
      obtain ⟨c, h4, h5⟩ := Option.map_eq_some_iff.mp h3
      cases h5
      exact .inr (.inr ⟨_, _, c, h1.str, h2.int, fits_line hf, h4, q F H _ k (Same.refl F) (.str _)⟩)
    · cases h3
  · cases h3
theorem xe_idx (ha : XE X a fa) (hb : XE X b fb) (hs : PlainIx b := by intro _ _; rfl) : XE X (.Subscript a b pos) (eBin gIdx fa fb) :=
  let ⟨_, h1, h2⟩ := ha.ex; let ⟨_, h3, h4⟩ := hb.ex; ⟨_, pe_ix ix_seq h1 h3 hs, re_bin gq_idx.go h2 h4⟩
theorem xe_idxV {x : Str} {p2 : Pos} (i : Nat) (hb : XE X b fb) (hN : X.N[i]? = some x := by rfl) (hv : Vis X.env.scope x := by first | exact Or.inl rfl | exact Or.inr (Or.inl rfl) | exact Or.inr (Or.inr rfl)) (hd : (x == ("__debug__" : Str)) = false := by decide)
    (hcd : (x == ("__classdict__" : Str)) = false := by decide) (hs : PlainIx b := by intro _ _; rfl) : XE X (.Subscript (.Name x p2) b pos) (eBinV gIdx i fb) :=
  let ⟨_, h3, h4⟩ := hb.ex; ⟨_, pe_ix ix_seq (pe_var hN hv hd hcd) h3 hs, re_binV gq_idx h4⟩

/-! ### slices -/
abbrev Pf := En → Option (Option Int × En)
def RP (K : Frg) (t : TO) (f : Pf) : Prop := ∀ G F env s H o env', Ok K G F env s H → f env = some (o, env') → ∀ Q : Option Int → Hp → Prop, (∀ F' H', Ok K G F' env' s H' → Same F F' → Q o H') → t s H Q
structure XP (X : Cx) (e : Option Expr) (f : Pf) : Prop where
  ex : ∃ t, PO X e t ∧ RP X.K t f
def pNo : Pf := fun env => some (none, env)
def pE (f : Ef) : Pf := fun env => (f env).bind fun r => match r.1 with
  | .int i => some (some i, r.2)
  | _ => none
theorem xp_none : XP X none pNo := ⟨_, po_none, fun G F env s H d env' k e Q q => by cases e; exact q F H k (Same.refl F)⟩
theorem xp_some (h : XE X a fa) : XP X (some a) (pE fa) := by
  obtain ⟨t, h1, h2⟩ := h.ex
  refine ⟨_, po_some h1, fun G F env s H d env' k e Q q => ?_⟩
  unfold pE at e
  obtain ⟨⟨c, e1⟩, h3, e⟩ := Option.bind_eq_some_iff.mp e
  refine h2 G F env s H c e1 k h3 _ fun F1 H1 v k1 s1 p1 => ?_
  cases p1 with
  | int i => cases e; exact ⟨i, rfl, q F1 H1 k1 s1⟩
  | _ => cases e
def cutD (xs : List D) (lo hi : Option Int) : List D := (xs.drop (HT.sIx xs.length 0 lo)).take (HT.sIx xs.length xs.length hi - HT.sIx xs.length 0 lo)
theorem Da.cut {F : Hp} {ds : List D} {vs : List V} (h : Da F vs ds) (lo hi : Option Int) : Da F (cutV vs lo hi) (cutD ds lo hi) := by
  unfold cutV cutD
  rw [h.length]
  exact (h.drop _).take _
def eSl (fa : Ef) (l h : Pf) : Ef := fun env => (fa env).bind fun r => (l r.2).bind fun q => (h q.2).bind fun w => match r.1 with
  | .list ds => some (.list (cutD ds q.1 w.1), w.2)
  | .tuple ds => some (.tuple (cutD ds q.1 w.1), w.2)
  | .str x => if fits x.length then some (.str (cutS x q.1 w.1), w.2) else none
  | _ => none
/-- a slice of a list that is read only, or the def's own, by its name -/
def lSlV (i : Nat) (l h : Pf) : Lf := fun env => (eO i env).bind fun _ => (l env).bind fun q => (h q.2).bind fun w => (eO i w.2).bind fun r => match r.1 with
  | .list ds => some (cutD ds q.1 w.1, w.2)
  | _ => none
theorem xn_sliceV {x : Str} {p2 p3 : Pos} {lo hi : Option Expr} {pl ph : Pf} (i : Nat) (hl : XP X lo pl) (hh : XP X hi ph) (hN : X.N[i]? = some x := by rfl) (hv : Vis X.env.scope x := by first | exact Or.inl rfl | exact Or.inr (Or.inl rfl) | exact Or.inr (Or.inr rfl))
    (hd : (x == ("__debug__" : Str)) = false := by decide) (hcd : (x == ("__classdict__" : Str)) = false := by decide) : XN X (.Subscript (.Name x p3) (.Slice lo hi none p2) pos) (lSlV i pl ph) := by
  obtain ⟨tl, h3, h4⟩ := hl.ex
  obtain ⟨th, h5, h6⟩ := hh.ex
  refine ⟨_, pe_slice sl_list (pe_var hN hv hd hcd) h3 h5, fun G F env s H d env' k e Q q => ?_⟩
  unfold lSlV at e
  obtain ⟨⟨c0, e0⟩, h0, e⟩ := Option.bind_eq_some_iff.mp e
  obtain ⟨⟨l, e2⟩, h8, e⟩ := Option.bind_eq_some_iff.mp e
  obtain ⟨⟨u, e3⟩, h9, e⟩ := Option.bind_eq_some_iff.mp e
  obtain ⟨⟨c, e4⟩, h7, e⟩ := Option.bind_eq_some_iff.mp e
  obtain ⟨v, hv0, _⟩ := dq_slot k h0
  refine ⟨v, hv0, ?_⟩
  refine h4 G F env s H l e2 k h8 _ fun F2 H2 k2 s2 => ?_
  refine h6 G F2 e2 s H2 u e3 k2 h9 _ fun F3 H3 k3 s3 => ?_
  obtain ⟨v', hv', hq⟩ := dq_slot k3 h7
  rw [hv0] at hv'
  cases hv'
  dsimp only at e
  split at e
  · rename_i ds
    cases e
    obtain ⟨p, vs, rfl, h10, h11⟩ := hq.list k3.fr
    refine ⟨p, vs, rfl, h10, fun p' hp => ?_⟩
    exact q F3 _ p' _ (k3.laid hp) (s2.trans s3) upd_same (k3.fr.free hp) (k3.dom p' hp) (k3.pin.free hp) (k3.notown hp) (h11.cut l u)
  · cases e
end
end M

namespace M
open PySem PySem.Spec PyProof.Rows L2

/-! ### arguments of a def: values, or the caller's own lists by their slots (i: to be changed, or read only) -/
inductive Ar where
  | v (d : D) | r (i : Nat) | o (i : Nat)
abbrev Af := En → Option (List Ar × En)
inductive ArOk (F : Hp) (s : L2.St) : Ar → V → Prop
  | v {d : D} {v : V} (h : Dt F v d) : ArOk F s (.v d) v
  | r {i : Nat} {v : V} (h : s[i]? = some (some v)) : ArOk F s (.r i) v
  | o {i : Nat} {v : V} (h : s[i]? = some (some v)) : ArOk F s (.o i) v
inductive ArsOk (F : Hp) (s : L2.St) : List Ar → List V → Prop
  | nil : ArsOk F s [] []
  | cons {a : Ar} {as : List Ar} {v : V} {vs : List V} (h : ArOk F s a v) (t : ArsOk F s as vs) : ArsOk F s (a :: as) (v :: vs)
theorem ArOk.mono {F F' : Hp} {s : L2.St} {a : Ar} {v : V} (e : Same F F') (h : ArOk F s a v) : ArOk F' s a v := by
  cases h with
  | v h => exact .v (Dt.mono e _ _ h)
  | r h => exact .r h
  | o h => exact .o h
theorem ArsOk.length {F : Hp} {s : L2.St} : ∀ {as : List Ar} {vs : List V}, ArsOk F s as vs → vs.length = as.length
  | [], _, h => by cases h; rfl
  | a :: as, _, h => by cases h with | cons h t => simp [ArsOk.length t]
theorem ArsOk.get {F : Hp} {s : L2.St} : ∀ {as : List Ar} {vs : List V} {j : Nat} {a : Ar}, ArsOk F s as vs → as[j]? = some a → ∃ v, vs[j]? = some v ∧ ArOk F s a v
  | [], _, _, _, _, e => by simp at e
  | a :: as, _, 0, _, h, e => by cases h with | cons h t => simp at e; subst e; exact ⟨_, rfl, h⟩
  | a :: as, _, j + 1, _, h, e => by
    cases h with
    | cons h t =>
      obtain ⟨v, h1, h2⟩ := ArsOk.get (j := j) t (by simpa using e)
      exact ⟨v, by simpa using h1, h2⟩
def RA (K : Frg) (t : TA) (f : Af) : Prop := ∀ G F env s H as env', Ok K G F env s H → f env = some (as, env') → ∀ Q : List V → Hp → Prop, (∀ F' H' vs, Ok K G F' env' s H' → Same F F' → ArsOk F' s as vs → Q vs H') → t s H Q
structure XA (X : Cx) (es : List Expr) (f : Af) : Prop where
  ex : ∃ t, PA X es t ∧ RA X.K t f
def aNil : Af := fun env => some ([], env)
def aV (f : Ef) (g : Af) : Af := fun env => (f env).bind fun r => (g r.2).map fun q => (.v r.1 :: q.1, q.2)
def aR (i : Nat) (g : Af) : Af := fun env => (eO i env).bind fun _ => (g env).map fun q => (.r i :: q.1, q.2)
def aO (i : Nat) (g : Af) : Af := fun env => (eO i env).bind fun _ => (g env).map fun q => (.o i :: q.1, q.2)
section
variable {X : Cx} {e : Expr} {es : List Expr} {f : Ef} {g : Af} {pos : Pos}
theorem xa_nil : XA X [] aNil := ⟨_, pa_nil, fun G F env s H d env' k e Q q => by cases e; exact q F H [] k (Same.refl F) .nil⟩
theorem xa_v (ha : XE X e f) (hr : XA X es g) (hs : starEach (e :: es) X.env = (false, eval e X.env) :: starEach es X.env := by rfl) : XA X (e :: es) (aV f g) := by
  obtain ⟨ta, h1, h2⟩ := ha.ex
  obtain ⟨tr, h3, h4⟩ := hr.ex
  refine ⟨_, pa_cons h1 h3 hs, fun G F env s H as env' k e Q q => ?_⟩
  unfold aV at e
  obtain ⟨⟨d1, e1⟩, h5, e⟩ := Option.bind_eq_some_iff.mp e
  obtain ⟨⟨r, e2⟩, h6, e⟩ := Option.map_eq_some_iff.mp e
  cases e
  refine h2 G F env s H d1 e1 k h5 _ fun F1 H1 v k1 s1 p1 => ?_
  refine h4 G F1 e1 s H1 r _ k1 h6 _ fun F2 H2 vs k2 s2 p2 => ?_
  exact q F2 H2 _ k2 (s1.trans s2) (.cons (.v (Dt.mono s2 d1 v p1)) p2)
theorem xa_r (i : Nat) {x : Str} (hr : XA X es g) (hN : X.N[i]? = some x := by rfl) (hv : Vis X.env.scope x := by first | exact Or.inl rfl | exact Or.inr (Or.inl rfl) | exact Or.inr (Or.inr rfl)) (hd : (x == ("__debug__" : Str)) = false := by decide)
    (hcd : (x == ("__classdict__" : Str)) = false := by decide) (hs : starEach (.Name x pos :: es) X.env = (false, eval (.Name x pos) X.env) :: starEach es X.env := by rfl) : XA X (.Name x pos :: es) (aR i g) := by
  obtain ⟨tr, h3, h4⟩ := hr.ex
  refine ⟨_, pa_cons (pe_var hN hv hd hcd) h3 hs, fun G F env s H as env' k e Q q => ?_⟩
  unfold aR at e
  obtain ⟨⟨d1, e1⟩, h5, e⟩ := Option.bind_eq_some_iff.mp e
  obtain ⟨⟨r, e2⟩, h6, e⟩ := Option.map_eq_some_iff.mp e
  cases e
  obtain ⟨v, h7, _⟩ := dq_slot k h5
  refine ⟨v, h7, ?_⟩
  exact h4 G F env s H r _ k h6 _ fun F2 H2 vs k2 s2 p2 => q F2 H2 _ k2 s2 (.cons (.r h7) p2)
theorem xa_o (i : Nat) {x : Str} (hr : XA X es g) (hN : X.N[i]? = some x := by rfl) (hv : Vis X.env.scope x := by first | exact Or.inl rfl | exact Or.inr (Or.inl rfl) | exact Or.inr (Or.inr rfl)) (hd : (x == ("__debug__" : Str)) = false := by decide)
    (hcd : (x == ("__classdict__" : Str)) = false := by decide) (hs : starEach (.Name x pos :: es) X.env = (false, eval (.Name x pos) X.env) :: starEach es X.env := by rfl) : XA X (.Name x pos :: es) (aO i g) := by
  obtain ⟨tr, h3, h4⟩ := hr.ex
  refine ⟨_, pa_cons (pe_var hN hv hd hcd) h3 hs, fun G F env s H as env' k e Q q => ?_⟩
  unfold aO at e
  obtain ⟨⟨d1, e1⟩, h5, e⟩ := Option.bind_eq_some_iff.mp e
  obtain ⟨⟨r, e2⟩, h6, e⟩ := Option.map_eq_some_iff.mp e
  cases e
  obtain ⟨v, h7, _⟩ := dq_slot k h5
  refine ⟨v, h7, ?_⟩
  exact h4 G F env s H r _ k h6 _ fun F2 H2 vs k2 s2 p2 => q F2 H2 _ k2 s2 (.cons (.o h7) p2)
end

/-! ### what a def does: arguments in, a value and the lists handed in to be changed out -/
abbrev Gf := List Sl → Option (D × List Sl)
open Classical in
/-- the heap without the lists handed in to be changed -/
noncomputable def minus (H : Hp) (args : List Sl) (vs : List V) : Hp := fun a => if (∃ (j : Nat) (l : Bool) (es : List D), args[j]? = some (.own l es) ∧ vs[j]? = some (.ref a)) then none else H a
theorem minus_some {H : Hp} {args : List Sl} {vs : List V} {a : Addr} {o : HO} (h : H a = some o) (n : ∀ (j : Nat) l es, args[j]? = some (.own l es) → vs[j]? ≠ some (.ref a)) : minus H args vs a = some o := by
  unfold minus
  rw [if_neg fun ⟨j, l, es, h1, h2⟩ => n j l es h1 h2]
  exact h
theorem minus_of {H : Hp} {args : List Sl} {vs : List V} {a : Addr} {o : HO} (h : minus H args vs a = some o) : H a = some o ∧ ∀ (j : Nat) l es, args[j]? = some (.own l es) → vs[j]? ≠ some (.ref a) := by
  unfold minus at h
  split at h
  · cases h
  · rename_i n
    exact ⟨h, fun j l es h1 h2 => n ⟨j, l, es, h1, h2⟩⟩
structure ArgsOk (K : Frg) (F H : Hp) (args : List Sl) (vs : List V) : Prop where
  len : vs.length = args.length
  val : ∀ (i : Nat) d, args[i]? = some (.val d) → ∃ v, vs[i]? = some v ∧ Dt F v d
  own : ∀ (i : Nat) l ds, args[i]? = some (.own l ds) → l = false ∧ ∃ a us, vs[i]? = some (.ref a) ∧ H a = some (.lst us) ∧ F a = none ∧ Da F us ds
  ro : ∀ (i : Nat) ds, args[i]? = some (.ro ds) → ∃ a us, vs[i]? = some (.ref a) ∧ SqL K (minus H args vs) a us ∧ Da F us ds
  sep : ∀ (i j : Nat) l ds m es, args[i]? = some (.own l ds) → args[j]? = some (.own m es) → vs[i]? = vs[j]? → i = j
structure Post (F H F' H' : Hp) (args args' : List Sl) (vs : List V) (v : V) (d : D) : Prop where
  keep : Same (minus H args vs) H'
  dom : ∀ a, H' a = none → H a = none
  grow : Same F F'
  fr : Same F' H'
  new : ∀ a o, F' a = some o → F a = some o ∨ H a = none
  res : Dt F' v d
  own : ∀ (i : Nat) l ds, args[i]? = some (.own l ds) → ∀ ds', args'[i]? = some (.own false ds') → ∀ a, vs[i]? = some (.ref a) → ∃ us, H' a = some (.lst us) ∧ F' a = none ∧ Da F' us ds'
def spF (K : Frg) (g : Gf) : Sp := fun vs H Q _ => ∃ F args d args', g args = some (d, args') ∧ Same F H ∧ ArgsOk K F H args vs ∧ ∀ F' H' v, Post F H F' H' args args' vs v d → Q v H'

def resAr (env : En) : Ar → Option Sl
  | .v d => some (.val d)
  | .r i => match env[i]? with
    | some (.own _ ds) => some (.own false ds)
    | _ => none
  | .o i => match env[i]? with
    | some (.own _ ds) => some (.ro ds)
    | some (.ro ds) => some (.ro ds)
    | some (.val (.list ds)) => some (.ro ds)
    | _ => none
def resArs (env : En) : List Ar → Option (List Sl)
  | [] => some []
  | a :: as => (resAr env a).bind fun x => (resArs env as).map fun r => x :: r
/-- at most one slot is handed in to be changed, and it isn't handed in to be read besides -/
def rSlots : List Ar → List Nat
  | [] => []
  | .r i :: as => i :: rSlots as
  | .v _ :: as => rSlots as
  | .o _ :: as => rSlots as
def oSlots : List Ar → List Nat
  | [] => []
  | .o i :: as => i :: oSlots as
  | .v _ :: as => oSlots as
  | .r _ :: as => oSlots as
def backAr (env : En) : List Ar → List Sl → Option En
  | [], _ => some env
  | .r i :: as, x :: xs => match x, env[i]? with
    | .own false ds, some (.own l _) => backAr (env.set i (.own l ds)) as xs
    | _, _ => none
  | _ :: as, _ :: xs => backAr env as xs
  | _ :: _, [] => none
def eCall (g : Gf) (fa : Af) : Ef := fun env => (fa env).bind fun r =>
  match rSlots r.1 with
  | [] => (resArs r.2 r.1).bind fun args => (g args).map fun q => (q.1, r.2)
  | [i] => if (oSlots r.1).contains i then none else (resArs r.2 r.1).bind fun args => (g args).bind fun q => (backAr r.2 r.1 q.2).map fun env' => (q.1, env')
  | _ => none
theorem resArs_get {env : En} : ∀ {as : List Ar} {xs : List Sl} {j : Nat} {x : Sl}, resArs env as = some xs → xs[j]? = some x → ∃ a, as[j]? = some a ∧ resAr env a = some x
  | [], xs, j, x, h, e => by cases h; simp at e
  | a :: as, xs, j, x, h, e => by
    unfold resArs at h
    obtain ⟨y, h1, h⟩ := Option.bind_eq_some_iff.mp h
    obtain ⟨r, h2, h⟩ := Option.map_eq_some_iff.mp h
    subst h
    cases j with
    | zero => simp at e; subst e; exact ⟨a, rfl, h1⟩
    | succ j =>
      obtain ⟨b, h3, h4⟩ := resArs_get (j := j) h2 (by simpa using e)
      exact ⟨b, by simpa using h3, h4⟩
theorem resArs_length {env : En} : ∀ {as : List Ar} {xs : List Sl}, resArs env as = some xs → xs.length = as.length
  | [], xs, h => by cases h; rfl
  | a :: as, xs, h => by
    unfold resArs at h
    obtain ⟨y, h1, h⟩ := Option.bind_eq_some_iff.mp h
    obtain ⟨r, h2, h⟩ := Option.map_eq_some_iff.mp h
    subst h
    simp [resArs_length h2]
theorem resArs_get2 {env : En} : ∀ {as : List Ar} {xs : List Sl} {j : Nat} {a : Ar}, resArs env as = some xs → as[j]? = some a → ∃ x, xs[j]? = some x ∧ resAr env a = some x
  | [], xs, j, x, h, e => by simp at e
  | a :: as, xs, j, b, h, e => by
    unfold resArs at h
    obtain ⟨y, h1, h⟩ := Option.bind_eq_some_iff.mp h
    obtain ⟨r, h2, h⟩ := Option.map_eq_some_iff.mp h
    subst h
    cases j with
    | zero => simp at e; subst e; exact ⟨y, rfl, h1⟩
    | succ j =>
      obtain ⟨b, h3, h4⟩ := resArs_get2 (j := j) h2 (by simpa using e)
      exact ⟨b, by simpa using h3, h4⟩
theorem rSlots_mem : ∀ {as : List Ar} {j i : Nat}, as[j]? = some (.r i) → i ∈ rSlots as
  | [], j, i, e => by simp at e
  | a :: as, 0, i, e => by simp at e; subst e; simp [rSlots]
  | a :: as, j + 1, i, e => by
    have h := rSlots_mem (as := as) (j := j) (i := i) (by simpa using e)
    cases a <;> simp [rSlots, h]
theorem oSlots_mem : ∀ {as : List Ar} {j i : Nat}, as[j]? = some (.o i) → i ∈ oSlots as
  | [], j, i, e => by simp at e
  | a :: as, 0, i, e => by simp at e; subst e; simp [oSlots]
  | a :: as, j + 1, i, e => by
    have h := oSlots_mem (as := as) (j := j) (i := i) (by simpa using e)
    cases a <;> simp [oSlots, h]
theorem rSlots_one : ∀ {as : List Ar} {i : Nat}, rSlots as = [i] → ∀ (j j' : Nat), as[j]? = some (.r i) → as[j']? = some (.r i) → j = j'
  | [], i, h, _, _, _, _ => by cases h
  | .v d :: as, i, h, 0, _, e, _ => by simp at e
  | .o d :: as, i, h, 0, _, e, _ => by simp at e
  | .v d :: as, i, h, _ + 1, 0, _, e => by simp at e
  | .o d :: as, i, h, _ + 1, 0, _, e => by simp at e
  | .v d :: as, i, h, j + 1, j' + 1, e, e' => by rw [rSlots_one (as := as) h j j' (by simpa using e) (by simpa using e')]
  | .o d :: as, i, h, j + 1, j' + 1, e, e' => by rw [rSlots_one (as := as) h j j' (by simpa using e) (by simpa using e')]
  | .r k :: as, i, h, j, j', e, e' => by
    have h0 : rSlots as = [] := by simp [rSlots] at h; exact h.2
    cases j with
    | zero =>
      cases j' with
      | zero => rfl
      | succ j' =>
        have := rSlots_mem (as := as) (j := j') (i := i) (by simpa using e')
        rw [h0] at this; cases this
    | succ j =>
      have := rSlots_mem (as := as) (j := j) (i := i) (by simpa using e)
      rw [h0] at this; cases this
/-- writing back: only the slot handed in -/
theorem backAr_one : ∀ {as : List Ar} {xs : List Sl} {env env' : En} {i : Nat}, rSlots as = [i] → backAr env as xs = some env' → ∃ (j : Nat) (l : Bool) (ds es : List D), as[j]? = some (.r i) ∧ xs[j]? = some (.own false ds) ∧ env[i]? = some (.own l es) ∧ env' = env.set i (.own l ds)
  | [], _, _, _, _, h, _ => by cases h
  | .v d :: as, [], _, _, _, h, e => by simp [backAr] at e
  | .o d :: as, [], _, _, _, h, e => by simp [backAr] at e
  | .r d :: as, [], _, _, _, h, e => by simp [backAr] at e
  | .v d :: as, x :: xs, env, env', i, h, e => by
    obtain ⟨j, l, ds, es, h1, h2, h3, h4⟩ := backAr_one (as := as) (xs := xs) (env := env) h (by simpa [backAr] using e)
    exact ⟨j + 1, l, ds, es, by simpa using h1, by simpa using h2, h3, h4⟩
  | .o d :: as, x :: xs, env, env', i, h, e => by
    obtain ⟨j, l, ds, es, h1, h2, h3, h4⟩ := backAr_one (as := as) (xs := xs) (env := env) h (by simpa [backAr] using e)
    exact ⟨j + 1, l, ds, es, by simpa using h1, by simpa using h2, h3, h4⟩
  | .r k :: as, x :: xs, env, env', i, h, e => by
    have h0 : rSlots as = [] ∧ k = i := by simp [rSlots] at h; exact ⟨h.2, h.1⟩
    obtain ⟨h0, rfl⟩ := h0
    have key : ∀ (as : List Ar) (xs : List Sl) (env env' : En), rSlots as = [] → backAr env as xs = some env' → env' = env := by
      intro as
      induction as with
      | nil => intro xs env env' _ e; simp [backAr] at e; exact e.symm
      | cons a as ih =>
        intro xs env env' h e
        cases a with
        | v d => cases xs with
          | nil => simp [backAr] at e
          | cons x xs => exact ih xs env env' h (by simpa [backAr] using e)
        | o d => cases xs with
          | nil => simp [backAr] at e
          | cons x xs => exact ih xs env env' h (by simpa [backAr] using e)
        | r i => simp [rSlots] at h
    unfold backAr at e
    split at e
    · rename_i ds l es h1
      have e2 := key _ _ _ _ h0 e
      exact ⟨0, l, ds, es, rfl, rfl, h1, e2⟩
    · cases e

theorem resAr_val {env : En} {a : Ar} {d : D} (h : resAr env a = some (.val d)) : a = .v d := by
  cases a with
  | v d' => simp [resAr] at h; rw [h]
  | r i => simp only [resAr] at h; split at h <;> cases h
  | o i => simp only [resAr] at h; split at h <;> cases h
theorem resAr_own {env : En} {a : Ar} {l : Bool} {ds : List D} (h : resAr env a = some (.own l ds)) : l = false ∧ ∃ i m, a = .r i ∧ env[i]? = some (.own m ds) := by
  cases a with
  | v d' => simp [resAr] at h
  | r i =>
    simp only [resAr] at h
    split at h
    · rename_i m es e
      cases h
      exact ⟨rfl, i, m, rfl, e⟩
    · cases h
  | o i => simp only [resAr] at h; split at h <;> cases h
theorem resAr_ro {env : En} {a : Ar} {ds : List D} (h : resAr env a = some (.ro ds)) : ∃ i, a = .o i ∧ ((∃ m, env[i]? = some (.own m ds)) ∨ env[i]? = some (.ro ds) ∨ env[i]? = some (.val (.list ds))) := by
  cases a with
  | v d' => simp [resAr] at h
  | r i => simp only [resAr] at h; split at h <;> cases h
  | o i =>
    simp only [resAr] at h
    split at h
    · rename_i m es e
      cases h
      exact ⟨i, rfl, .inl ⟨_, e⟩⟩
    · rename_i es e
      cases h
      exact ⟨i, rfl, .inr (.inl e)⟩
    · rename_i es e
      cases h
      exact ⟨i, rfl, .inr (.inr e)⟩
    · cases h
section
variable {K : Frg} {G : Gm} {F F' : Hp} {env : En} {s : L2.St} {H H' : Hp} {as : List Ar} {vs : List V} {args args' : List Sl} {v : V} {d : D}
theorem own_arg (k : Ok K G F env s H) (p : ArsOk F s as vs) (hr : resArs env as = some args) {j : Nat} {l : Bool} {ds : List D} (h : args[j]? = some (.own l ds)) :
    l = false ∧ ∃ i m, i ∈ rSlots as ∧ as[j]? = some (.r i) ∧ env[i]? = some (.own m ds) ∧ ∃ x, vs[j]? = some x ∧ s[i]? = some (some x) := by
  obtain ⟨a, h1, h2⟩ := resArs_get hr h
  obtain ⟨e, i, m, rfl, h3⟩ := resAr_own h2
  obtain ⟨x, h4, h5⟩ := p.get h1
  cases h5 with
  | r h5 => exact ⟨e, i, m, rSlots_mem h1, h1, h3, x, h4, h5⟩
/-- an object that is none of the slots handed in -/
theorem minus_slot (k : Ok K G F env s H) (p : ArsOk F s as vs) (hr : resArs env as = some args) {a : Addr} {o : HO} (h : H a = some o) (n : ∀ i ∈ rSlots as, ∀ m ds, env[i]? = some (.own m ds) → s[i]? ≠ some (some (.ref a))) : minus H args vs a = some o :=
  minus_some h fun j l es h1 h2 => by
    obtain ⟨_, i, m, hi, _, h3, x, h4, h5⟩ := own_arg k p hr h1
    rw [h2] at h4
    cases h4
    exact n i hi m es h3 h5
theorem minus_pin (k : Ok K G F env s H) (p : ArsOk F s as vs) (hr : resArs env as = some args) : Same G.P (minus H args vs) := fun a o e =>
  minus_slot k p hr (k.pin a o e) fun i _ m ds h1 h2 => by
    obtain ⟨b, us, h3, _, _, h4, _⟩ := k.own i m ds h1
    rw [h2] at h3
    cases h3
    rw [h4] at e; cases e
theorem minus_fr (k : Ok K G F env s H) (p : ArsOk F s as vs) (hr : resArs env as = some args) : Same F (minus H args vs) := fun a o e =>
  minus_slot k p hr (k.fr a o e) fun i _ m ds h1 h2 => by
    obtain ⟨b, us, h3, _, h4, _⟩ := k.own i m ds h1
    rw [h2] at h3
    cases h3
    rw [h4] at e; cases e
theorem args_ok (k : Ok K G F env s H) (p : ArsOk F s as vs) (hr : resArs env as = some args) (h1 : ∀ i ∈ rSlots as, i ∉ oSlots as) (h2 : ∀ i ∈ rSlots as, ∀ (j j' : Nat), as[j]? = some (.r i) → as[j']? = some (.r i) → j = j') : ArgsOk K F H args vs where
  len := by rw [p.length, resArs_length hr]
  val := fun i d e => by
    obtain ⟨a, h3, h4⟩ := resArs_get hr e
    have h5 := resAr_val h4
    subst h5
    obtain ⟨x, h6, h7⟩ := p.get h3
    cases h7 with
    | v h7 => exact ⟨x, h6, h7⟩
  own := fun j l ds e => by
    obtain ⟨e1, i, m, hi, h3, h4, x, h5, h6⟩ := own_arg k p hr e
    obtain ⟨a, us, h7, h8, h9, _, h10, _⟩ := k.own i m ds h4
    rw [h6] at h7
    cases h7
    exact ⟨e1, a, us, h5, h8, h9, h10⟩
  ro := fun j ds e => by
    obtain ⟨a, h3, h4⟩ := resArs_get hr e
    obtain ⟨i, rfl, h5⟩ := resAr_ro h4
    obtain ⟨x, h6, h7⟩ := p.get h3
    cases h7 with
    | o h7 =>
      rcases h5 with ⟨m, h5⟩ | h5 | h5
      · obtain ⟨a, us, h8, h9, h10, _, h11, _⟩ := k.own i m ds h5
        rw [h7] at h8
        cases h8
        refine ⟨a, us, h6, SqL.of (minus_slot k p hr h9 fun i' hi' m' ds' g1 g2 => ?_), h11⟩
        have e2 := k.sep i' i m' ds' m ds g1 h5 (g2.trans h7.symm)
        subst e2
        exact h1 i' hi' (oSlots_mem h3)
      · obtain ⟨a, us, h8, h9, h10⟩ := k.ro i ds h5
        rw [h7] at h8
        cases h8
        exact ⟨a, us, h6, (k.rin.trans (minus_pin k p hr)).seq h9, h10⟩
      · obtain ⟨y, h8, h9⟩ := k.val i _ h5
        rw [h7] at h8
        cases h8
        cases h9 with
        | lst a1 b1 => exact ⟨_, _, h6, SqL.of (minus_fr k p hr _ _ a1), b1⟩
  sep := fun i j l ds m es h3 h4 h5 => by
    obtain ⟨_, i1, m1, hi1, g1, g2, x1, g3, g4⟩ := own_arg k p hr h3
    obtain ⟨_, i2, m2, hi2, q1, q2, x2, q3, q4⟩ := own_arg k p hr h4
    rw [g3, q3] at h5
    cases h5
    have e2 := k.sep i1 i2 _ _ _ _ g2 q2 (g4.trans q4.symm)
    subst e2
    exact h2 i1 hi1 i j g1 q1
/-- behind the call -/
theorem ok_after (k : Ok K G F env s H) (p : ArsOk F s as vs) (hr : resArs env as = some args) (q : Post F H F' H' args args' vs v d) {env' : En} (hl : env'.length = env.length)
    (he : ∀ (j : Nat), env'[j]? = env[j]? ∨ (∃ (m : Nat) (l : Bool) (ds es : List D), as[m]? = some (.r j) ∧ args'[m]? = some (.own false ds) ∧ env[j]? = some (.own l es) ∧ env'[j]? = some (.own l ds))) (hn : ∀ i ∈ rSlots as, ∀ (j : Nat), env'[j]? = env[j]? → (∃ (m : Nat) (l : Bool) (ds : List D), args'[m]? = some (.own false ds) ∧ as[m]? = some (.r i) ∧ env'[i]? = some (.own l ds))) :
    Ok K G F' env' s H' := by
  have back : ∀ (j : Nat) l ds, env'[j]? = some (.own l ds) → ∃ es, env[j]? = some (.own l es) := fun j l ds e => by
    rcases he j with h | ⟨m, l', ds', es, _, _, h3, h4⟩
    · rw [h] at e; exact ⟨ds, e⟩
    · rw [h4] at e; cases e; exact ⟨es, h3⟩
  refine ⟨by rw [k.len, hl], q.fr, fun i d' e => ?_, fun i l ds e => ?_, fun i ds e => ?_, fun i j l ds m es e1 e2 e3 => ?_, fun a o e => q.keep a o (minus_pin k p hr a o e), fun a e => k.dom a (q.dom a e), k.grow.trans q.grow, fun a o e => ?_, k.rin⟩
  · rcases he i with h | ⟨m, l', ds', es, _, _, h3, h4⟩
    · rw [h] at e
      obtain ⟨x, h1, h2⟩ := k.val i d' e
      exact ⟨x, h1, Dt.mono q.grow _ _ h2⟩
    · rw [h4] at e; cases e
  · by_cases hi : i ∈ rSlots as
    · have : ∃ (m : Nat) (ds' : List D), args'[m]? = some (.own false ds') ∧ as[m]? = some (.r i) ∧ env'[i]? = some (.own l ds') := by
        rcases he i with h | ⟨m, l', ds', es, g1, g2, g3, g4⟩
        · obtain ⟨m, l', ds', g1, g2, g3⟩ := hn i hi i h
          have : l' = l := by rw [e] at g3; cases g3; rfl
          subst this
          exact ⟨m, ds', g1, g2, g3⟩
        · have : l' = l := by rw [e] at g4; cases g4; rfl
          subst this
          exact ⟨m, ds', g2, g1, g4⟩
      obtain ⟨m, ds', g1, g2, g3⟩ := this
      rw [e] at g3
      cases g3
      obtain ⟨es, g4⟩ := back i l ds e
      obtain ⟨a, us, h1, h2, h3, h4, h5, h6⟩ := k.own i l es g4
      obtain ⟨x, g5, g6⟩ := resArs_get2 hr g2
      simp only [resAr, g4] at g6
      cases g6
      obtain ⟨y, g7, g8⟩ := p.get g2
      cases g8 with
      | r g8 =>
        rw [h1] at g8
        cases g8
        obtain ⟨us', h7, h8, h9⟩ := q.own m false es g5 ds g1 a g7
        exact ⟨a, us', h1, h7, h8, h4, h9, h6⟩
    · have e' : env[i]? = some (.own l ds) := by
        rcases he i with h | ⟨m, l', ds', es, g1, g2, g3, g4⟩
        · rw [← h]; exact e
        · exact absurd (rSlots_mem g1) hi
      obtain ⟨a, us, h1, h2, h3, h4, h5, h6⟩ := k.own i l ds e'
      refine ⟨a, us, h1, q.keep a _ (minus_slot k p hr h2 fun i' hi' m' ds' g1 g2 => ?_), ?_, h4, Da.mono q.grow _ _ h5, h6⟩
      · have e2 := k.sep i' i m' ds' l ds g1 e' (g2.trans h1.symm)
        subst e2
        exact hi hi'
      · cases hx : F' a with
        | none => rfl
        | some o =>
          rcases q.new a o hx with z | z
          · rw [h3] at z; cases z
          · rw [h2] at z; cases z
  · rcases he i with h | ⟨m, l', ds', es, _, _, h3, h4⟩
    · rw [h] at e
      obtain ⟨a, us, h1, h2, h3⟩ := k.ro i ds e
      exact ⟨a, us, h1, h2, Da.mono q.grow _ _ h3⟩
    · rw [h4] at e; cases e
  · obtain ⟨ds1, g1⟩ := back i l ds e1
    obtain ⟨ds2, g2⟩ := back j m es e2
    exact k.sep i j _ _ _ _ g1 g2 e3
  · rcases q.new a o e with z | z
    · exact k.new a o z
    · exact .inr (k.dom a z)
theorem re_call {g : Gf} {fa : Af} {t : TA} {E : XK} (ha : RA K t fa) : RE K (tCall (spF K g) [] E t) (eCall g fa) := fun G F env s H d env' k e Q q => by
  unfold eCall at e
  obtain ⟨⟨as, e1⟩, h1, e⟩ := Option.bind_eq_some_iff.mp e
  refine ha G F env s H as e1 k h1 _ fun F1 H1 vs k1 s1 p1 => ?_
  rw [List.append_nil]
  dsimp only at e
  split at e
  · rename_i hrs
    obtain ⟨args, h2, e⟩ := Option.bind_eq_some_iff.mp e
    obtain ⟨⟨d', args'⟩, h3, e⟩ := Option.map_eq_some_iff.mp e
    cases e
    refine ⟨F1, args, d', args', h3, k1.fr, args_ok k1 p1 h2 (by rw [hrs]; intro i hi; cases hi) (by rw [hrs]; intro i hi; cases hi), fun F' H' v po => ?_⟩
    exact q F' H' v (ok_after k1 p1 h2 po rfl (fun j => .inl rfl) (by rw [hrs]; intro i hi; cases hi)) (s1.trans po.grow) po.res
  · rename_i i hrs
    split at e
    · cases e
    · rename_i hc
      obtain ⟨args, h2, e⟩ := Option.bind_eq_some_iff.mp e
      obtain ⟨⟨d', args'⟩, h3, e⟩ := Option.bind_eq_some_iff.mp e
      obtain ⟨env2, h4, e⟩ := Option.map_eq_some_iff.mp e
      cases e
      obtain ⟨j, l, ds, es, g1, g2, g3, g4⟩ := backAr_one hrs h4
      subst g4
      have hil : i < e1.length := (List.getElem?_eq_some_iff.mp g3).1
      refine ⟨F1, args, d', args', h3, k1.fr, args_ok k1 p1 h2 (by rw [hrs]; intro i' hi'; simp at hi'; subst hi'; intro hm; apply hc; simp [hm]) (by rw [hrs]; intro i' hi' j1 j2 q1 q2; simp at hi'; subst hi'; exact rSlots_one hrs j1 j2 q1 q2), fun F' H' v po => ?_⟩
      refine q F' H' v (ok_after k1 p1 h2 po (by simp) (fun j' => ?_) ?_) (s1.trans po.grow) po.res
      · by_cases hj : i = j'
        · subst hj
          exact .inr ⟨j, l, ds, es, g1, g2, g3, by rw [List.getElem?_set_self hil]⟩
        · exact .inl (List.getElem?_set_ne hj)
      · rw [hrs]
        intro i' hi' j' _
        simp at hi'
        subst hi'
        exact ⟨j, l, ds, g2, g1, by rw [List.getElem?_set_self hil]⟩
  · cases e
end
section
variable {X : Cx} {k : Nat} {fx : Addr} {fd : FuncData} {ps : List Str} {x : Str} {p pos : Pos} {e : Expr} {es : List Expr} {fa : Af} {g : Gf}
theorem xe_call (FF : FnOk X.prog X.w X.K X.mg X.base CX0 k fx fd ps (spF X.K g)) (hr : Room k X.A) (hm : X.mg x = some (.ref fx)) (hk : PySem.W.keepIn X.K (.ref fx) = true) (hb : Binds X.K fd ps []) (ha : XA X (e :: es) fa) (hg : Gl X x := by rfl)
    (hdb : (x == ("__debug__" : Str)) = false := by decide) (he : starEach (e :: es) X.env = (false, eval e X.env) :: starEach es X.env := by rfl) (hpl : (backTo pos (starEach es X.env)).any (·.1) = false := by rfl) :
    XE X (.Call (.Name x p) (e :: es) [] pos) (eCall g fa) :=
  let ⟨_, h1, h2⟩ := ha.ex; ⟨_, pe_call FF hr hg hm hk hb .nil pass0 h1 hdb he hpl, re_call h2⟩
/-! ### a built-in of one argument -/
def GC (K : Frg) (r : List V → Hp → VK → Prop) (g : D → Option D) : Prop := ∀ G F env s H x d z, Ok K G F env s H → Dq K F H x d → g d = some z → ∀ Q : VK, (∀ F' H' v, Ok K G F' env s H' → Same F F' → Dt F' v z → Q v H') → r [x] H Q
def GCN (K : Frg) (r : List V → Hp → VK → Prop) (g : D → Option (List D)) : Prop := ∀ G F env s H x d z, Ok K G F env s H → Dq K F H x d → g d = some z → ∀ Q : VK,
  (∀ F' H' p vs, Ok K G F' env s H' → Same F F' → H' p = some (.lst vs) → F' p = none → G.H0 p = none → G.P p = none → (∀ (j : Nat) l es, env[j]? = some (.own l es) → s[j]? ≠ some (some (.ref p))) → Da F' vs z → Q (.ref p) H') → r [x] H Q
def GC2 (K : Frg) (r : List V → Hp → VK → Prop) (g : D → D → Option D) : Prop := ∀ G F env s H x y d e z, Ok K G F env s H → Dt F x d → Dt F y e → g d e = some z → ∀ Q : VK, (∀ F' H' v, Ok K G F' env s H' → Same F F' → Dt F' v z → Q v H') → r [x, y] H Q
def lUn (g : D → Option (List D)) (fa : Ef) : Lf := fun env => (fa env).bind fun r => (g r.1).map fun d => (d, r.2)
variable {f fb : Ef} {K : Frg}
theorem re_cb {r : List V → Hp → VK → Prop} {g : D → Option D} {ta : TE} (ho : GC K r g) (ha : RO K ta f) : RE K (tCB r (tCons ta tNil)) (eUn g f) := fun G F env s H d env' k e Q q => by
  obtain ⟨d1, h1, h3⟩ := un_some e
  refine ha G F env s H d1 env' k h1 _ fun F1 H1 v1 k1 s1 p1 => ?_
  exact ho G F1 env' s H1 v1 d1 d k1 p1 h3 Q fun F3 H3 v3 k3 s3 p3 => q F3 H3 v3 k3 (s1.trans s3) p3
theorem rn_cb {r : List V → Hp → VK → Prop} {g : D → Option (List D)} {ta : TE} (ho : GCN K r g) (ha : RO K ta f) : RN K (tCB r (tCons ta tNil)) (lUn g f) := fun G F env s H d env' k e Q q => by
  unfold lUn at e
  obtain ⟨⟨d1, e1⟩, h1, e⟩ := Option.bind_eq_some_iff.mp e
  obtain ⟨z, h3, e⟩ := Option.map_eq_some_iff.mp e
  cases e
  refine ha G F env s H d1 e1 k h1 _ fun F1 H1 v1 k1 s1 p1 => ?_
  exact ho G F1 e1 s H1 v1 d1 d k1 p1 h3 Q fun F3 H3 p vs k3 s3 p3 => q F3 H3 p vs k3 (s1.trans s3) p3
theorem re_cb2 {r : List V → Hp → VK → Prop} {g : D → D → Option D} {ta tb : TE} (ho : GC2 K r g) (ha : RE K ta f) (hb : RE K tb fb) : RE K (tCB r (tCons ta (tCons tb tNil))) (eBin g f fb) := fun G F env s H d env' k e Q q => by
  obtain ⟨d1, e1, d2, h1, h2, h3⟩ := bin_some e
  refine ha G F env s H d1 e1 k h1 _ fun F1 H1 v1 k1 s1 p1 => ?_
  refine hb G F1 e1 s H1 d2 env' k1 h2 _ fun F2 H2 v2 k2 s2 p2 => ?_
  exact ho G F2 env' s H2 v1 v2 d1 d2 d k2 (Dt.mono s2 d1 v1 p1) p2 h3 Q fun F3 H3 v3 k3 s3 p3 => q F3 H3 v3 k3 ((s1.trans s2).trans s3) p3
section
variable {id T : String} {r : List V → Hp → VK → Prop}
theorem xe_cbB {g : D → Option D} (hc : CallR X (.builtin id) r) (hv : bootBuiltins x = some (.builtin id)) (ho : GC X.K r g) (hm : X.mg x = none) (ha : XO X e f) (hg : Gl X x := by rfl) (hn : x ≠ "__name__" := by decide) (hdb : (x == ("__debug__" : Str)) = false := by decide)
    (he : starEach [e] X.env = (false, eval e X.env) :: starEach [] X.env := by rfl) (hpl : (backTo pos (starEach [] X.env)).any (·.1) = false := by rfl) : XE X (.Call (.Name x p) [e] [] pos) (eUn g f) :=
  let ⟨_, h1, h2⟩ := ha.ex; ⟨_, pe_callB hc hg hm hv (pa_cons h1 pa_nil he) hn hdb he hpl, re_cb ho h2⟩
theorem xe_cbT {g : D → Option D} (hc : CallR X (.type T) r) (hv : bootBuiltins x = some (.type T)) (ho : GC X.K r g) (hm : X.mg x = none) (ha : XO X e f) (hg : Gl X x := by rfl) (hn : x ≠ "__name__" := by decide) (hdb : (x == ("__debug__" : Str)) = false := by decide)
    (he : starEach [e] X.env = (false, eval e X.env) :: starEach [] X.env := by rfl) (hpl : (backTo pos (starEach [] X.env)).any (·.1) = false := by rfl) : XE X (.Call (.Name x p) [e] [] pos) (eUn g f) :=
  let ⟨_, h1, h2⟩ := ha.ex; ⟨_, pe_callTy hc hg hm hv (pa_cons h1 pa_nil he) hn hdb he hpl, re_cb ho h2⟩
theorem xn_cbT {g : D → Option (List D)} (hc : CallR X (.type T) r) (hv : bootBuiltins x = some (.type T)) (ho : GCN X.K r g) (hm : X.mg x = none) (ha : XO X e f) (hg : Gl X x := by rfl) (hn : x ≠ "__name__" := by decide) (hdb : (x == ("__debug__" : Str)) = false := by decide)
    (he : starEach [e] X.env = (false, eval e X.env) :: starEach [] X.env := by rfl) (hpl : (backTo pos (starEach [] X.env)).any (·.1) = false := by rfl) : XN X (.Call (.Name x p) [e] [] pos) (lUn g f) :=
  let ⟨_, h1, h2⟩ := ha.ex; ⟨_, pe_callTy hc hg hm hv (pa_cons h1 pa_nil he) hn hdb he hpl, rn_cb ho h2⟩
theorem xe_cb2 {e2 : Expr} {g : D → D → Option D} (hc : CallR X (.builtin id) r) (hv : bootBuiltins x = some (.builtin id)) (ho : GC2 X.K r g) (hm : X.mg x = none) (ha : XE X e f) (hb : XE X e2 fb) (hg : Gl X x := by rfl) (hn : x ≠ "__name__" := by decide) (hdb : (x == ("__debug__" : Str)) = false := by decide)
    (he : starEach [e, e2] X.env = (false, eval e X.env) :: starEach [e2] X.env := by rfl) (he2 : starEach [e2] X.env = (false, eval e2 X.env) :: starEach [] X.env := by rfl) (hpl : (backTo pos (starEach [e2] X.env)).any (·.1) = false := by rfl) : XE X (.Call (.Name x p) [e, e2] [] pos) (eBin g f fb) :=
  let ⟨_, h1, h2⟩ := ha.ex; let ⟨_, h3, h4⟩ := hb.ex; ⟨_, pe_callB hc hg hm hv (pa_cons h1 (pa_cons h3 pa_nil he2) he) hn hdb he hpl, re_cb2 ho h2 h4⟩
end
end
end M

namespace M
open PySem PySem.Spec PyProof.Rows L2

inductive Out where
  | nx (env : En) | rt (d : D) (env : En) | rn (ds : List D) (env : En) | rp (as ds : List D) (env : En)
/-- a new tuple that ends in a new list, both nobody's yet -/
structure NewT (G : Gm) (F H : Hp) (env : En) (s : L2.St) (t p : Addr) (vs us : List V) (as ds : List D) : Prop where
  ht : H t = some (.tup (vs ++ [.ref p]))
  ft : F t = none
  t0 : G.H0 t = none
  tP : G.P t = none
  hp : H p = some (.lst us)
  fp : F p = none
  p0 : G.H0 p = none
  pP : G.P p = none
  pn : ∀ (j : Nat) l es, env[j]? = some (.own l es) → s[j]? ≠ some (some (.ref p))
  da : Da F vs as
  du : Da F us ds
/-- both frozen -/
theorem NewT.frz {K : Frg} {G : Gm} {F H : Hp} {env : En} {s : L2.St} {t p : Addr} {vs us : List V} {as ds : List D} (n : NewT G F H env s t p vs us as ds) (k : Ok K G F env s H) : ∃ F', Ok K G F' env s H ∧ Same F F' ∧ Dt F' (.ref t) (.tuple (as ++ [.list ds])) ∧ F' t = some (.tup (vs ++ [.ref p])) ∧ F' p = some (.lst us) := by
  have k1 := k.freeze n.hp n.fp n.p0 n.pn
  have ne : t ≠ p := fun e => by have := n.ht; rw [e, n.hp] at this; cases this
  have f1 : upd F p (.lst us) t = none := by rw [upd_ne ne]; exact n.ft
  have k2 := k1.freeze n.ht f1 n.t0 fun j l es e z => by
    obtain ⟨a, ws, h1, h2, _⟩ := k.own j l es e
    rw [z] at h1; cases h1
    rw [n.ht] at h2; cases h2
  have s1 : Same F (upd F p (.lst us)) := same_upd n.fp
  have s2 : Same (upd F p (.lst us)) (upd (upd F p (.lst us)) t (.tup (vs ++ [.ref p]))) := same_upd f1
  exact ⟨_, k2, s1.trans s2, .tup upd_same ((Da.mono (s1.trans s2) _ _ n.da).append (.cons (.lst (s2 _ _ upd_same) (Da.mono (s1.trans s2) _ _ n.du)) .nil)), upd_same, s2 _ _ upd_same⟩
abbrev Sf := En → Option Out
def RSx (K : Frg) (G : Gm) (F : Hp) (E : Ends) : Out → Prop
  | .nx env => ∀ F' s' H', Ok K G F' env s' H' → Same F F' → E.nx s' H'
  | .rt d env => ∀ F' s' H' v, Ok K G F' env s' H' → Same F F' → Dt F' v d → E.rt v H'
  | .rn ds env => ∀ F' s' H' p vs, Ok K G F' env s' H' → Same F F' → H' p = some (.lst vs) → F' p = none → G.H0 p = none → G.P p = none → (∀ (j : Nat) l es, env[j]? = some (.own l es) → s'[j]? ≠ some (some (.ref p))) → Da F' vs ds → E.rt (.ref p) H'
  | .rp as ds env => ∀ F' s' H' t p vs us, Ok K G F' env s' H' → Same F F' → NewT G F' H' env s' t p vs us as ds → E.rt (.ref t) H'
def RS (K : Frg) (t : TS) (f : Sf) : Prop := ∀ G F env s H o, Ok K G F env s H → f env = some o → ∀ E : Ends, RSx K G F E o → t E s H
structure XS (X : Cx) (st : Stmt) (f : Sf) : Prop where
  ex : ∃ t, PS X st t ∧ RS X.K t f
structure XSs (X : Cx) (sts : List Stmt) (f : Sf) : Prop where
  ex : ∃ t, PSs X sts t ∧ RS X.K t f
theorem RSx.up {K : Frg} {G : Gm} {F F' : Hp} {E : Ends} {o : Out} (s : Same F F') (h : RSx K G F E o) : RSx K G F' E o := by
  cases o with
  | nx env => exact fun F2 s2 H2 k e => h F2 s2 H2 k (s.trans e)
  | rt d env => exact fun F2 s2 H2 v k e p => h F2 s2 H2 v k (s.trans e) p
  | rn ds env => exact fun F2 s2 H2 p vs k e h1 h2 h3 h4 h5 h6 => h F2 s2 H2 p vs k (s.trans e) h1 h2 h3 h4 h5 h6
  | rp as ds env => exact fun F2 s2 H2 t p vs us k e n => h F2 s2 H2 t p vs us k (s.trans e) n
/-- what isn't the next statement hangs on the return alone -/
theorem RSx.same_rt {K : Frg} {G : Gm} {F : Hp} {E E' : Ends} {o : Out} (he : E'.rt = E.rt) (ho : ∀ env, o ≠ .nx env) (h : RSx K G F E o) : RSx K G F E' o := by
  cases o with
  | nx env => exact absurd rfl (ho env)
  | rt d env => exact fun F2 s2 H2 v k e p => by rw [he]; exact h F2 s2 H2 v k e p
  | rn ds env => exact fun F2 s2 H2 p vs k e h1 h2 h3 h4 h5 h6 => by rw [he]; exact h F2 s2 H2 p vs k e h1 h2 h3 h4 h5 h6
  | rp as ds env => exact fun F2 s2 H2 t p vs us k e n => by rw [he]; exact h F2 s2 H2 t p vs us k e n
def sNil : Sf := fun env => some (.nx env)
def sSeq (f g : Sf) : Sf := fun env => (f env).bind fun o => match o with
  | .nx env1 => g env1
  | o => some o
section
variable {X : Cx} {K : Frg} {st : Stmt} {rest : List Stmt} {e a b : Expr} {f g : Sf} {fe fa fb : Ef} {pos : Pos}
theorem rs_seq {t u : TS} (h1 : RS K t f) (h2 : RS K u g) : RS K (tSeq t u) (sSeq f g) := fun G F env s H o k e E q => by
  unfold sSeq at e
  obtain ⟨o1, h3, e⟩ := Option.bind_eq_some_iff.mp e
  cases o1 with
  | nx env1 =>
    refine h1 G F env s H _ k h3 _ ?_
    exact fun F1 s1 H1 k1 e1 => h2 G F1 env1 s1 H1 o k1 e E (q.up e1)
  | rt d env1 =>
    cases e
    exact h1 G F env s H _ k h3 _ q
  | rn ds env1 =>
    cases e
    exact h1 G F env s H _ k h3 _ q
  | rp as ds env1 =>
    cases e
    exact h1 G F env s H _ k h3 _ q
theorem xss_nil : XSs X [] sNil := ⟨_, pss_nil, fun G F env s H o k e E q => by cases e; exact q F s H k (Same.refl F)⟩
theorem xss_cons (h1 : XS X st f) (h2 : XSs X rest g) : XSs X (st :: rest) (sSeq f g) :=
  let ⟨_, p1, q1⟩ := h1.ex; let ⟨_, p2, q2⟩ := h2.ex; ⟨_, pss_cons p1 p2, rs_seq q1 q2⟩
theorem xss_one (h1 : XS X st f) : XSs X [st] f := let ⟨_, p1, q1⟩ := h1.ex; ⟨_, pss_one p1, q1⟩
def sNo : Sf := fun _ => none
def sExpr (f : Ef) : Sf := fun env => (f env).map fun r => .nx r.2
theorem xs_expr (he : XE X e fe) (hs : swapsWith e none pos.line X.env = pure false := by rfl) : XS X (.Expr e pos) (sExpr fe) := by
  obtain ⟨t, h1, h2⟩ := he.ex
  refine ⟨_, ps_expr h1 hs, fun G F env s H o k e E q => ?_⟩
  unfold sExpr at e
  obtain ⟨⟨d, e1⟩, h3, e⟩ := Option.map_eq_some_iff.mp e
  cases e
  exact h2 G F env s H d e1 k h3 _ fun F1 H1 v k1 s1 p1 => q F1 s H1 k1 s1
def sRet (f : Ef) : Sf := fun env => (f env).map fun r => .rt r.1 r.2
theorem xs_ret (he : XE X e fe) : XS X (.Return (some e) pos) (sRet fe) := by
  obtain ⟨t, h1, h2⟩ := he.ex
  refine ⟨_, ps_ret h1, fun G F env s H o k e E q => ?_⟩
  unfold sRet at e
  obtain ⟨⟨d, e1⟩, h3, e⟩ := Option.map_eq_some_iff.mp e
  cases e
  exact h2 G F env s H d e1 k h3 _ fun F1 H1 v k1 s1 p1 => q F1 s H1 v k1 s1 p1
/-- a new list is handed back -/
def sRetL (f : Lf) : Sf := fun env => (f env).map fun r => .rn r.1 r.2
theorem xs_retL {fl : Lf} (he : XN X e fl) : XS X (.Return (some e) pos) (sRetL fl) := by
  obtain ⟨t, h1, h2⟩ := he.ex
  refine ⟨_, ps_ret h1, fun G F env s H o k e E q => ?_⟩
  unfold sRetL at e
  obtain ⟨⟨d, e1⟩, h3, e⟩ := Option.map_eq_some_iff.mp e
  cases e
  exact h2 G F env s H d e1 k h3 _ fun F1 H1 p vs k1 s1 g1 g2 g3 g4 g5 g6 => q F1 s H1 p vs k1 s1 g1 g2 g3 g4 g5 g6
def sRetN : Sf := fun env => some (.rt .none env)
/-- a list that the def made, frozen -/
def frz (i : Nat) : En → Option En := fun env => match env[i]? with
  | some (.own true ds) => some (env.set i (.val (.list ds)))
  | some (.val d) => some env
  | _ => none
theorem set_get {α : Type} {l : List α} {i j : Nat} {x y : α} (h : (l.set i x)[j]? = some y) : (i = j ∧ i < l.length ∧ x = y) ∨ (i ≠ j ∧ l[j]? = some y) := by
  by_cases hj : i = j
  · subst hj
    have hl : i < l.length := by have := (List.getElem?_eq_some_iff.mp h).1; simpa using this
    rw [List.getElem?_set_self hl] at h
    cases h
    exact .inl ⟨rfl, hl, rfl⟩
  · rw [List.getElem?_set_ne hj] at h
    exact .inr ⟨hj, h⟩
/-- a slot's own list becomes a value -/
theorem frz_ok {G : Gm} {F : Hp} {env env' : En} {s : L2.St} {H : Hp} {i : Nat} (k : Ok K G F env s H) (e : frz i env = some env') : ∃ F', Ok K G F' env' s H ∧ Same F F' := by
  unfold frz at e
  split at e
  · rename_i ds h
    cases e
    obtain ⟨a, vs, h1, h2, h3, h4, h5, h6, _⟩ := k.own i true ds h
    have hi : i < env.length := (List.getElem?_eq_some_iff.mp h).1
    have k0 : Ok K G F (env.set i .no) s H := by
      refine ⟨by rw [k.len]; simp, k.fr, fun j d e => ?_, fun j l es e => ?_, fun j es e => ?_, fun j j' l es m fs e1 e2 e3 => ?_, k.pin, k.dom, k.grow, k.new, k.rin⟩
      · rcases set_get e with ⟨_, _, z⟩ | ⟨_, z⟩
        · cases z
        · exact k.val j d z
      · rcases set_get e with ⟨_, _, z⟩ | ⟨_, z⟩
        · cases z
        · exact k.own j l es z
      · rcases set_get e with ⟨_, _, z⟩ | ⟨_, z⟩
        · cases z
        · exact k.ro j es z
      · rcases set_get e1 with ⟨_, _, z⟩ | ⟨_, z⟩
        · cases z
        · rcases set_get e2 with ⟨_, _, z2⟩ | ⟨_, z2⟩
          · cases z2
          · exact k.sep j j' _ _ _ _ z z2 e3
    have k1 := k0.freeze h2 h3 (h6 rfl) fun j l es e z => by
      rcases set_get e with ⟨_, _, z2⟩ | ⟨hj, z2⟩
      · cases z2
      · exact hj (k.sep i j _ _ _ _ h z2 (h1.trans z.symm))
    refine ⟨_, ⟨by rw [k.len]; simp, k1.fr, fun j d e => ?_, fun j l es e => ?_, fun j es e => ?_, fun j j' l es m fs e1 e2 e3 => ?_, k1.pin, k1.dom, k1.grow, k1.new, k1.rin⟩, same_upd h3⟩
    · rcases set_get e with ⟨rfl, _, z⟩ | ⟨hj, z⟩
      · cases z
        exact ⟨_, h1, .lst upd_same (Da.mono (same_upd h3) _ _ h5)⟩
      · exact k1.val j d (by rw [List.getElem?_set_ne hj]; exact z)
    · rcases set_get e with ⟨rfl, _, z⟩ | ⟨hj, z⟩
      · cases z
      · exact k1.own j l es (by rw [List.getElem?_set_ne hj]; exact z)
    · rcases set_get e with ⟨rfl, _, z⟩ | ⟨hj, z⟩
      · cases z
      · exact k1.ro j es (by rw [List.getElem?_set_ne hj]; exact z)
    · rcases set_get e1 with ⟨_, _, z⟩ | ⟨hj1, z⟩
      · cases z
      · rcases set_get e2 with ⟨_, _, z2⟩ | ⟨hj2, z2⟩
        · cases z2
        · exact k1.sep j j' _ _ _ _ (by rw [List.getElem?_set_ne hj1]; exact z) (by rw [List.getElem?_set_ne hj2]; exact z2) e3
  · cases e
    exact ⟨F, k, Same.refl F⟩
  · cases e
theorem ok_drop {G : Gm} {F : Hp} {env : En} {s : L2.St} {H : Hp} (i : Nat) (k : Ok K G F env s H) : Ok K G F (env.set i .no) s H := by
  refine ⟨by rw [k.len]; simp, k.fr, fun j d e => ?_, fun j l es e => ?_, fun j es e => ?_, fun j j' l es m fs e1 e2 e3 => ?_, k.pin, k.dom, k.grow, k.new, k.rin⟩
  · rcases set_get e with ⟨_, _, z⟩ | ⟨_, z⟩
    · cases z
    · exact k.val j d z
  · rcases set_get e with ⟨_, _, z⟩ | ⟨_, z⟩
    · cases z
    · exact k.own j l es z
  · rcases set_get e with ⟨_, _, z⟩ | ⟨_, z⟩
    · cases z
    · exact k.ro j es z
  · rcases set_get e1 with ⟨_, _, z⟩ | ⟨_, z⟩
    · cases z
    · rcases set_get e2 with ⟨_, _, z2⟩ | ⟨_, z2⟩
      · cases z2
      · exact k.sep j j' _ _ _ _ z z2 e3
/-- the def's own list is handed back -/
def sRetO (i : Nat) : Sf := fun env => match env[i]? with
  | some (.own true ds) => some (.rn ds (env.set i .no))
  | _ => none
def sFrz (i : Nat) (f : Sf) : Sf := fun env => (frz i env).bind f
theorem rs_frz {t : TS} (i : Nat) (h : RS K t f) : RS K t (sFrz i f) := fun G F env s H o k e E q => by
  unfold sFrz at e
  obtain ⟨env1, h1, e⟩ := Option.bind_eq_some_iff.mp e
  obtain ⟨F1, k1, s1⟩ := frz_ok k h1
  exact h G F1 env1 s H o k1 e E (q.up s1)
/-- ahead of a statement a list is frozen -/
theorem xs_frz (i : Nat) (h : XS X st f) : XS X st (sFrz i f) := let ⟨_, p, q⟩ := h.ex; ⟨_, p, rs_frz i q⟩
def sIf (c : Bf) (f g : Sf) : Sf := fun env => (c env).bind fun r => if r.1 then f r.2 else g r.2
theorem xs_if {c : Expr} {p1 p2 : List Stmt} {gc : Bf} (hc : XB X c gc) (ha : XSs X p1 f) (hb : XSs X p2 g) : XS X (.If c p1 p2 pos) (sIf gc f g) := by
  obtain ⟨t, h1, h2⟩ := hc.ex
  obtain ⟨ta, h3, h4⟩ := ha.ex
  obtain ⟨tb, h5, h6⟩ := hb.ex
  refine ⟨_, ps_if h1 h3 h5, fun G F env s H o k e E q => ?_⟩
  unfold sIf at e
  obtain ⟨⟨c, e1⟩, h7, e⟩ := Option.bind_eq_some_iff.mp e
  refine h2 G F env s H c e1 k h7 _ fun F1 H1 k1 s1 => ?_
  cases c with
  | true =>
    rw [if_pos rfl] at e ⊢
    exact h4 G F1 e1 s H1 o k1 e E (q.up s1)
  | false =>
    rw [if_neg Bool.false_ne_true] at e ⊢
    exact h6 G F1 e1 s H1 o k1 e E (q.up s1)

/-! ### assignment -/
theorem ok_set {G : Gm} {F : Hp} {env : En} {s : L2.St} {H : Hp} {i : Nat} {d : D} {v : V} (k : Ok K G F env s H) (p : Dt F v d) : Ok K G F (env.set i (.val d)) (s.set i (some v)) H := by
  refine ⟨by simp [k.len], k.fr, fun j d' e => ?_, fun j l es e => ?_, fun j es e => ?_, fun j j' l es m fs e1 e2 e3 => ?_, k.pin, k.dom, k.grow, k.new, k.rin⟩
  · rcases set_get e with ⟨rfl, hl, z⟩ | ⟨hj, z⟩
    · cases z
      exact ⟨v, by rw [List.getElem?_set_self (by rw [k.len]; exact hl)], p⟩
    · rw [List.getElem?_set_ne hj]
      exact k.val j d' z
  · rcases set_get e with ⟨rfl, hl, z⟩ | ⟨hj, z⟩
    · cases z
    · rw [List.getElem?_set_ne hj]
      exact k.own j l es z
  · rcases set_get e with ⟨rfl, hl, z⟩ | ⟨hj, z⟩
    · cases z
    · rw [List.getElem?_set_ne hj]
      exact k.ro j es z
  · rcases set_get e1 with ⟨rfl, hl, z⟩ | ⟨hj, z⟩
    · cases z
    · rcases set_get e2 with ⟨rfl, hl, z2⟩ | ⟨hj2, z2⟩
      · cases z2
      · rw [List.getElem?_set_ne hj, List.getElem?_set_ne hj2] at e3
        exact k.sep j j' _ _ _ _ z z2 e3
theorem ok_setO {G : Gm} {F : Hp} {env : En} {s : L2.St} {H : Hp} {i : Nat} {ds : List D} {p : Addr} {vs : List V} (k : Ok K G F env s H) (h1 : H p = some (.lst vs)) (h2 : F p = none) (h3 : G.H0 p = none) (h4 : G.P p = none)
    (h5 : ∀ (j : Nat) l es, env[j]? = some (.own l es) → s[j]? ≠ some (some (.ref p))) (h6 : Da F vs ds) : Ok K G F (env.set i (.own true ds)) (s.set i (some (.ref p))) H := by
  refine ⟨by simp [k.len], k.fr, fun j d' e => ?_, fun j l es e => ?_, fun j es e => ?_, fun j j' l es m fs e1 e2 e3 => ?_, k.pin, k.dom, k.grow, k.new, k.rin⟩
  · rcases set_get e with ⟨rfl, hl, z⟩ | ⟨hj, z⟩
    · cases z
    · rw [List.getElem?_set_ne hj]
      exact k.val j d' z
  · rcases set_get e with ⟨rfl, hl, z⟩ | ⟨hj, z⟩
    · cases z
      exact ⟨p, vs, by rw [List.getElem?_set_self (by rw [k.len]; exact hl)], h1, h2, h4, h6, fun _ => h3, fun z => by cases z⟩
    · rw [List.getElem?_set_ne hj]
      exact k.own j l es z
  · rcases set_get e with ⟨rfl, hl, z⟩ | ⟨hj, z⟩
    · cases z
    · rw [List.getElem?_set_ne hj]
      exact k.ro j es z
  · rcases set_get e1 with ⟨rfl, hl, z⟩ | ⟨hj, z⟩
    · rcases set_get e2 with ⟨rfl, hl2, z2⟩ | ⟨hj2, z2⟩
      · rfl
      · rw [List.getElem?_set_self (by rw [k.len]; exact hl), List.getElem?_set_ne hj2] at e3
        exact absurd e3.symm (h5 j' _ _ z2)
    · rcases set_get e2 with ⟨rfl, hl, z2⟩ | ⟨hj2, z2⟩
      · rw [List.getElem?_set_self (by rw [k.len]; exact hl), List.getElem?_set_ne hj] at e3
        exact absurd e3 (h5 j _ _ z)
      · rw [List.getElem?_set_ne hj, List.getElem?_set_ne hj2] at e3
        exact k.sep j j' _ _ _ _ z z2 e3
def sSet (i : Nat) (f : Ef) : Sf := fun env => (f env).map fun r => .nx (r.2.set i (.val r.1))
def sSetO (i : Nat) (f : Lf) : Sf := fun env => (f env).map fun r => .nx (r.2.set i (.own true r.1))
theorem rs_set {t : TE} (i : Nat) (h2 : RE K t fe) : RS K (tAsg t (gName i)) (sSet i fe) := fun G F env s H o k e E q => by
  unfold sSet at e
  obtain ⟨⟨d, e1⟩, h3, e⟩ := Option.map_eq_some_iff.mp e
  cases e
  exact h2 G F env s H d e1 k h3 _ fun F1 H1 v k1 s1 p1 => q F1 _ H1 (ok_set k1 p1) s1
theorem rs_setO {t : TE} {fl : Lf} (i : Nat) (h2 : RN K t fl) : RS K (tAsg t (gName i)) (sSetO i fl) := fun G F env s H o k e E q => by
  unfold sSetO at e
  obtain ⟨⟨d, e1⟩, h3, e⟩ := Option.map_eq_some_iff.mp e
  cases e
  exact h2 G F env s H d e1 k h3 _ fun F1 H1 p vs k1 s1 h1 h2 h3 h4 h5 h6 => q F1 _ H1 (ok_setO k1 h1 h2 h3 h4 h5 h6) s1
theorem xs_set (i : Nat) {x : Str} {pos' : Pos} (he : XE X e fe) (hN : X.N.Nodup) (hi : X.N[i]? = some x := by rfl) (hx : Loc X.env.scope x := by first | exact Or.inl rfl | exact Or.inr rfl) (hs : swapsWith e (some (.Name x pos')) pos.line X.env = pure false := by rfl)
    (hf : X.fn x = true ∨ X.env.scope.names.lookup x = some .local := by first | exact .inl rfl | exact .inr rfl | assumption) : XS X (.Assign [.Name x pos'] e pos) (sSet i fe) :=
  let ⟨_, h1, h2⟩ := he.ex; ⟨_, ps_set hN hi hx h1 hs hf, rs_set i h2⟩
theorem xs_setO (i : Nat) {x : Str} {pos' : Pos} {fl : Lf} (he : XN X e fl) (hN : X.N.Nodup) (hi : X.N[i]? = some x := by rfl) (hx : Loc X.env.scope x := by first | exact Or.inl rfl | exact Or.inr rfl) (hs : swapsWith e (some (.Name x pos')) pos.line X.env = pure false := by rfl)
    (hf : X.fn x = true ∨ X.env.scope.names.lookup x = some .local := by first | exact .inl rfl | exact .inr rfl | assumption) : XS X (.Assign [.Name x pos'] e pos) (sSetO i fl) :=
  let ⟨_, h1, h2⟩ := he.ex; ⟨_, ps_set hN hi hx h1 hs hf, rs_setO i h2⟩

/-! ### targets -/
abbrev Tf := D → En → Option En
def RG (K : Frg) (t : TG) (g : Tf) (sl : List Nat) : Prop := ∀ G F env s H v d env', Ok K G F env s H → Dt F v d → g d env = some env' → ∀ Q : L2.St → Hp → Prop,
  (∀ s', Ok K G F env' s' H → (∀ vs : List Nat, (∀ i ∈ sl, i ∈ vs) → wipe s' vs = wipe s vs) → Q s' H) → t v s H Q
def RGs (K : Frg) (t : TGs) (g : List D → En → Option En) (sl : List Nat) : Prop := ∀ G F env s H vs ds env', Ok K G F env s H → Da F vs ds → g ds env = some env' → ∀ Q : L2.St → Hp → Prop,
  (∀ s', Ok K G F env' s' H → (∀ vs : List Nat, (∀ i ∈ sl, i ∈ vs) → wipe s' vs = wipe s vs) → Q s' H) → t vs s H Q
structure XG (X : Cx) (tg : Expr) (g : Tf) (sl : List Nat) : Prop where
  ex : ∃ t, PG X tg t ∧ RG X.K t g sl
structure XGs (X : Cx) (tgs : List Expr) (g : List D → En → Option En) (sl : List Nat) : Prop where
  ex : ∃ t, PGs X tgs t ∧ RGs X.K t g sl
theorem wipe_get (s : L2.St) : ∀ (vs : List Nat) (j : Nat), (wipe s vs)[j]? = if j ∈ vs ∧ j < s.length then some none else s[j]?
  | [], j => by simp [wipe]
  | v :: vs, j => by
    unfold wipe
    by_cases hj : v = j
    · subst hj
      by_cases hl : v < s.length
      · rw [List.getElem?_set_self (by rw [wipe_length]; exact hl)]
        simp [hl]
      · rw [List.getElem?_eq_none (by rw [List.length_set, wipe_length]; omega), List.getElem?_eq_none (by omega)]
        simp [hl]
    · rw [List.getElem?_set_ne hj, wipe_get s vs j]
      have : ¬ j = v := fun e => hj e.symm
      simp [this]
theorem wipe_set {s : L2.St} {i : Nat} {x : Option V} {vs : List Nat} (h : i ∈ vs) : wipe (s.set i x) vs = wipe s vs := by
  refine List.ext_getElem? fun j => ?_
  rw [wipe_get, wipe_get, List.length_set]
  by_cases hj : j ∈ vs ∧ j < s.length
  · rw [if_pos hj, if_pos hj]
  · rw [if_neg hj, if_neg hj]
    by_cases hi : i = j
    · subst hi
      have : ¬ i < s.length := fun z => hj ⟨h, z⟩
      rw [List.getElem?_eq_none (by simp; omega), List.getElem?_eq_none (by omega)]
    · rw [List.getElem?_set_ne hi]
def tN (i : Nat) : Tf := fun d env => some (env.set i (.val d))
theorem xg_name (i : Nat) {x : Str} (hN : X.N.Nodup) (hi : X.N[i]? = some x := by rfl) (hx : Loc X.env.scope x := by first | exact Or.inl rfl | exact Or.inr rfl) (hf : X.fn x = true ∨ X.env.scope.names.lookup x = some .local := by first | exact .inl rfl | exact .inr rfl | assumption) : XG X (.Name x pos) (tN i) [i] :=
  ⟨_, pg_name hN hi hx hf, fun G F env s H v d env' k p e Q q => by
    cases e
    exact q _ (ok_set k p) fun vs h => wipe_set (h i (by simp))⟩
def gsN : List D → En → Option En := fun ds env => match ds with
  | [] => some env
  | _ => none
def gsC (g : Tf) (r : List D → En → Option En) : List D → En → Option En := fun ds env => match ds with
  | d :: ds => (g d env).bind (r ds)
  | [] => none
theorem xgs_nil : XGs X [] gsN [] := ⟨_, pgs_nil, fun G F env s H vs ds env' k p e Q q => by
  unfold gsN at e
  split at e
  · cases p; cases e; exact ⟨rfl, q s k fun _ _ => rfl⟩
  · cases e⟩
theorem xgs_cons {es : List Expr} {g : Tf} {r : List D → En → Option En} {s1 s2 : List Nat} (h1 : XG X e g s1) (h2 : XGs X es r s2) (hs : (assignEach (e :: es) X.env).map (·.2) = assign e X.env :: (assignEach es X.env).map (·.2) := by rfl) : XGs X (e :: es) (gsC g r) (s1 ++ s2) := by
  obtain ⟨t, p1, q1⟩ := h1.ex
  obtain ⟨u, p2, q2⟩ := h2.ex
  refine ⟨_, pgs_cons p1 p2 hs, fun G F env s H vs ds env' k p e Q q => ?_⟩
  cases p with
  | nil => cases e
  | cons pa pb =>
    obtain ⟨env1, h3, h4⟩ := Option.bind_eq_some_iff.mp (show (g _ env).bind (r _) = some env' from e)
    refine ⟨_, _, rfl, q1 G F env s H _ _ env1 k pa h3 _ fun s1' k1 w1 => ?_⟩
    exact q2 G F env1 s1' H _ _ env' k1 pb h4 Q fun s2' k2 w2 => q s2' k2 fun vs hv => (w2 vs fun i hi => hv i (List.mem_append_right _ hi)).trans (w1 vs fun i hi => hv i (List.mem_append_left _ hi))
def tT (n : Nat) (r : List D → En → Option En) : Tf := fun d env => match d with
  | .tuple ds => if ds.length = n then r ds env else none
  | _ => none
theorem xg_tup {es : List Expr} {k : Nat} {r : List D → En → Option En} {sl : List Nat} {n : Nat} (h : XGs X es r sl) (hc : X.calm = true := by rfl) (hn : (assignEach es X.env).length = n := by rfl) (hst : (assignEach es X.env).findIdx? (·.1) = none := by rfl) : XG X (.Tuple es k pos) (tT n r) sl := by
  obtain ⟨t, p1, q1⟩ := h.ex
  refine ⟨_, pg_tup hc p1 hn hst, fun G F env s H v d env' k p e Q q => ?_⟩
  cases p with
  | tup a b =>
    unfold tT at e
    dsimp only at e
    split at e
    · rename_i hl
      exact ⟨_, _, rfl, SqT.of (k.fr _ _ a), by rw [b.length]; exact hl, q1 G F env s H _ _ env' k b e Q q⟩
    · cases e
  | _ => cases e
def sAsg (f : Ef) (g : Tf) : Sf := fun env => (f env).bind fun r => (g r.1 r.2).map .nx
theorem xs_asg {tg : Expr} {g : Tf} {sl : List Nat} (he : XE X e fe) (hg : XG X tg g sl) (hs : swapsWithSole [tg] e pos.line X.env = pure false := by rfl) (hw : swappedStores [tg] e X.env = pure none := by rfl)
    (h1 : (assignEach [tg] X.env).map (·.2) = [assign tg X.env] := by rfl) : XS X (.Assign [tg] e pos) (sAsg fe g) := by
  obtain ⟨t, p1, q1⟩ := he.ex
  obtain ⟨u, p2, q2⟩ := hg.ex
  refine ⟨_, ps_asg p1 p2 hs hw h1, fun G F env s H o k e E q => ?_⟩
  unfold sAsg at e
  obtain ⟨⟨d, e1⟩, h3, e⟩ := Option.bind_eq_some_iff.mp e
  obtain ⟨e2, h4, e⟩ := Option.map_eq_some_iff.mp e
  cases e
  refine q1 G F env s H d e1 k h3 _ fun F1 H1 v k1 s1 pd => ?_
  exact q2 G F1 e1 s H1 v d e2 k1 pd h4 _ fun s' k2 _ => q F1 s' H1 k2 s1
/-- a, b = x, y -/
def sPar (i j : Nat) (g : Lf) : Sf := fun env => (g env).bind fun r => match r.1 with
  | [d, e] => some (.nx ((r.2.set i (.val d)).set j (.val e)))
  | _ => none
theorem xs_par (i j : Nat) {x y : Str} {px py pt : Pos} {kt k2 pt2} {g : Lf} (ha : XL X [a, b] g) (hN : X.N.Nodup) (hw : swappedStores [.Tuple [.Name x px, .Name y py] kt pt] (.Tuple [a, b] k2 pt2) X.env = pure (some [x, y]) := by rfl) (hc : X.calm = true := by rfl) (hi : X.N[i]? = some x := by rfl) (hj : X.N[j]? = some y := by rfl) (hij : i ≠ j := by decide)
    (hx : X.env.scope.names.lookup x = some .local := by rfl) (hy : X.env.scope.names.lookup y = some .local := by rfl)
    (hs : swapsWithSole [.Tuple [.Name x px, .Name y py] kt pt] (.Tuple [a, b] k2 pt2) pos.line X.env = pure false := by rfl) :
    XS X (.Assign [.Tuple [.Name x px, .Name y py] kt pt] (.Tuple [a, b] k2 pt2) pos) (sPar i j g) := by
  obtain ⟨t, p1, q1⟩ := ha.ex
  refine ⟨_, ps_par hc hN hi hj hij hx hy p1 hw hs, fun G F env s H o k e E q => ?_⟩
  unfold sPar at e
  obtain ⟨⟨ds, e1⟩, h3, e⟩ := Option.bind_eq_some_iff.mp e
  refine q1 G F env s H ds e1 k h3 _ fun F1 H1 vs k1 s1 pd => ?_
  dsimp only at e
  split at e
  · cases e
    cases pd with
    | cons pa pb =>
      cases pb with
      | cons pb pc =>
        cases pc
        exact ⟨_, _, rfl, q F1 _ H1 (ok_set (ok_set k1 pa) pb) s1⟩
  · cases e

/-! ### lists that the def owns: changed in place -/
theorem ok_mut {G : Gm} {F : Hp} {env : En} {s : L2.St} {H : Hp} {i : Nat} {l : Bool} {ds es : List D} {a : Addr} {us : List V} (k : Ok K G F env s H) (h : env[i]? = some (.own l ds)) (ha : s[i]? = some (some (.ref a))) (q : Da F us es) :
    Ok K G F (env.set i (.own l es)) s (upd H a (.lst us)) := by
  obtain ⟨b, vs, h1, h2, h3, h4, h5, h6⟩ := k.own i l ds h
  rw [ha] at h1
  cases h1
  have hi : i < env.length := (List.getElem?_eq_some_iff.mp h).1
  have nf : ∀ c o, F c = some o → c ≠ a := fun c o e z => by subst z; rw [h3] at e; cases e
  refine ⟨by simp [k.len], fun c o e => by rw [upd_ne (nf c o e)]; exact k.fr c o e, fun j d e => ?_, fun j m fs e => ?_, fun j fs e => ?_, fun j j' m fs n gs e1 e2 e3 => ?_, fun c o e => ?_, fun c e => ?_, k.grow, k.new, k.rin⟩
  · rcases set_get e with ⟨_, _, z⟩ | ⟨hj, z⟩
    · cases z
    · exact k.val j d z
  · rcases set_get e with ⟨rfl, _, z⟩ | ⟨hj, z⟩
    · cases z
      exact ⟨a, us, ha, upd_same, h3, h4, q, h6⟩
    · obtain ⟨c, ws, g1, g2, g3⟩ := k.own j m fs z
      have ne : c ≠ a := fun w => by subst w; exact hj (k.sep i j _ _ _ _ h z (ha.trans g1.symm))
      exact ⟨c, ws, g1, by rw [upd_ne ne]; exact g2, g3⟩
  · rcases set_get e with ⟨_, _, z⟩ | ⟨hj, z⟩
    · cases z
    · exact k.ro j fs z
  · have bk : ∀ (j : Nat) m fs, (env.set i (.own l es))[j]? = some (.own m fs) → ∃ gs, env[j]? = some (.own m gs) := fun j m fs e => by
      rcases set_get e with ⟨rfl, _, z⟩ | ⟨hj, z⟩
      · cases z; exact ⟨_, h⟩
      · exact ⟨_, z⟩
    obtain ⟨f1, g1⟩ := bk j m fs e1
    obtain ⟨f2, g2⟩ := bk j' n gs e2
    exact k.sep j j' _ _ _ _ g1 g2 e3
  · have ne : c ≠ a := fun z => by subst z; rw [h4] at e; cases e
    rw [upd_ne ne]; exact k.pin c o e
  · by_cases hc : c = a
    · subst hc; rw [upd_same] at e; cases e
    · rw [upd_ne hc] at e; exact k.dom c e
/-- xs.m(e), xs the def's own list: what it becomes and what is told -/
def isOwn (env : En) (i : Nat) : Bool := match env[i]? with
  | some (.own _ _) => true
  | _ => false
theorem isOwn_some {env : En} {i : Nat} (h : isOwn env i = true) : ∃ l ds, env[i]? = some (.own l ds) := by
  unfold isOwn at h
  split at h
  · rename_i l ds e; exact ⟨l, ds, e⟩
  · cases h
def eMut (g : List D → D → Option (List D × D)) (i : Nat) (f : Ef) : Ef := fun env => if isOwn env i then (f env).bind fun r => match r.2[i]? with
  | some (.own l ds) => (g ds r.1).map fun q => (q.2, r.2.set i (.own l q.1))
  | _ => none
  else none
def eMut0 (g : List D → Option (List D × D)) (i : Nat) : Ef := fun env => match env[i]? with
  | some (.own l ds) => (g ds).map fun q => (q.2, env.set i (.own l q.1))
  | _ => none
def GM (r : V → List V → Hp → VK → Prop) (g : List D → D → Option (List D × D)) : Prop := ∀ F a vs ds y d es z H, Same F H → H a = some (.lst vs) → Da F vs ds → Dt F y d → g ds d = some (es, z) → ∀ Q : VK,
  (∀ us v, Da F us es → Dt F v z → Q v (upd H a (.lst us))) → r (.ref a) [y] H Q
theorem re_mut {i : Nat} {r : V → List V → Hp → VK → Prop} {g : List D → D → Option (List D × D)} {tb : TE} (hg : GM r g) (h2 : RE K tb fb) : RE K (tBM K "list" r (tVar i) (tCons tb tNil)) (eMut g i fb) := fun G F env s H d env' k e Q q => by
  unfold eMut at e
  split at e
  · rename_i h0
    obtain ⟨l0, ds0, h0⟩ := isOwn_some h0
    obtain ⟨a, vs0, hv, hH, _⟩ := k.own i l0 ds0 h0
    obtain ⟨⟨d1, e1⟩, h1, e⟩ := Option.bind_eq_some_iff.mp e
    dsimp only at e
    split at e
    · rename_i l ds h3
      obtain ⟨⟨es, z⟩, h4, e⟩ := Option.map_eq_some_iff.mp e
      cases e
      refine ⟨_, hv, .inl ⟨rfl, _, SqL.of hH⟩, ?_⟩
      refine h2 G F env s H d1 e1 k h1 _ fun F1 H1 v1 k1 s1 p1 => ?_
      obtain ⟨b, vs, g1, g2, g3, g4, g5, g6⟩ := k1.own i l ds h3
      rw [hv] at g1
      cases g1
      exact hg F1 a vs ds v1 d1 es z H1 k1.fr g2 g5 p1 h4 Q fun us v pu pv => q F1 _ v (ok_mut k1 h3 hv pu) s1 pv
    · cases e
  · cases e
def mAppend : List D → D → Option (List D × D) := fun ds d => if fits (ds.length + 1) then some (ds ++ [d], .none) else none
theorem gm_append : GM rAppend mAppend := fun F a vs ds y d es z H _ h p py e Q q => by
  unfold mAppend at e
  split at e
  · rename_i hf
    cases e
    have := fits_line hf
    exact ⟨a, vs, y, rfl, rfl, h, by rw [p.length]; omega, q _ _ (p.append (.cons py .nil)) .non⟩
  · cases e
def mExtend : List D → D → Option (List D × D) := fun ds d => match d with
  | .list es => if fits (ds.length + es.length) then some (ds ++ es, .none) else none
  | _ => none
section
variable {x : Str} {p2 : Pos} {pos apos : Pos} {name : Str} {id : String}
theorem xe_mut (i : Nat) {r : V → List V → Hp → VK → Prop} {g : List D → D → Option (List D × D)} (slot : Slot "list" name id) (hty : typeOf (.builtin id) = pure (.type "method_descriptor")) (hm : MtR X id r) (hg : GM r g) (ha : XE X e fe) (hN : X.N[i]? = some x := by rfl) (hv : Vis X.env.scope x := by first | exact Or.inl rfl | exact Or.inr (Or.inl rfl) | exact Or.inr (Or.inr rfl))
    (hd : (x == ("__debug__" : Str)) = false := by decide) (hcd : (x == ("__classdict__" : Str)) = false := by decide)
    (hbase : attributeBase (.Name x p2) name X.env (eval (.Name x p2) X.env) = eval (.Name x p2) X.env := by rfl)
    (hfew : ((backTo pos (starEach [e] X.env)).all (fun x => !x.1) && (backToKw pos (keywordEach [] X.env)).all (fun x => x.1.isSome)
      && decide (([e] : List Expr).length + ([] : List Keyword).length + (if ([] : List Keyword).isEmpty then 0 else 1) < 30)) = true := by rfl)
    (hline : (apos.endLine == pos.line) = true := by rfl) (hs : starEach [e] X.env = (false, eval e X.env) :: starEach [] X.env := by rfl) (hplain : (backTo pos (starEach [] X.env)).any (·.1) = false := by rfl) :
    XE X (.Call (.Attribute (.Name x p2) name apos) [e] [] pos) (eMut g i fe) :=
  let ⟨_, h1, h2⟩ := ha.ex; ⟨_, pe_bm PySem.F.plainAttrs_list slot hty hm (pe_var hN hv hd hcd) (pa_cons h1 pa_nil hs) hbase hfew hline hs hplain, re_mut hg h2⟩
end
/-- xs[k] = e -/
def sPut (i : Nat) (fk fe : Ef) : Sf := fun env => (fe env).bind fun r => (fk r.2).bind fun q => match q.1, q.2[i]? with
  | .int k, some (.own l ds) => (ixN ds.length k).map fun j => .nx (q.2.set i (.own l (ds.set j r.1)))
  | _, _ => none
theorem rs_put {i : Nat} {te tk : TE} (h1 : RE K te fe) (h2 : RE K tk fa) : RS K (tAsg te (L2.gSub (tVar i) tk rSetL)) (fun env => if isOwn env i then sPut i fa fe env else none) := fun G F env s H o k e E q => by
  dsimp only at e
  split at e
  · rename_i h0
    obtain ⟨l0, ds0, h0⟩ := isOwn_some h0
    obtain ⟨a, vs0, hv, hH, _⟩ := k.own i l0 ds0 h0
    unfold sPut at e
    obtain ⟨⟨d1, e1⟩, h3, e⟩ := Option.bind_eq_some_iff.mp e
    obtain ⟨⟨d2, e2⟩, h4, e⟩ := Option.bind_eq_some_iff.mp e
    dsimp only at e
    split at e
    · rename_i _ _ kk l ds h5
      obtain ⟨j, h6, e⟩ := Option.map_eq_some_iff.mp e
      cases e
      refine h1 G F env s H d1 e1 k h3 _ fun F1 H1 v1 k1 s1 p1 => ?_
      refine ⟨_, hv, ?_⟩
      refine h2 G F1 e1 s H1 _ e2 k1 h4 _ fun F2 H2 v2 k2 s2 p2 => ?_
      obtain ⟨b, vs, g1, g2, g3, g4, g5, g6⟩ := k2.own i l ds h5
      rw [hv] at g1
      cases g1
      cases p2
      refine ⟨a, vs, kk, j, rfl, rfl, g2, by rw [g5.length]; exact h6, ?_⟩
      exact q F2 s _ (ok_mut k2 h5 hv (g5.set (Dt.mono s2 d1 v1 p1) j)) (s1.trans s2)
    · cases e
  · cases e
def sPutI (i : Nat) (fk fe : Ef) : Sf := fun env => if isOwn env i then sPut i fk fe env else none
theorem xs_put (i : Nat) {x : Str} {p2 p3 : Pos} {ke : Expr} (he : XE X e fe) (hk : XE X ke fa) (hN : X.N[i]? = some x := by rfl) (hv : Vis X.env.scope x := by first | exact Or.inl rfl | exact Or.inr (Or.inl rfl) | exact Or.inr (Or.inr rfl))
    (hd : (x == ("__debug__" : Str)) = false := by decide) (hcd : (x == ("__classdict__" : Str)) = false := by decide) (hs : swapsWithSole [.Subscript (.Name x p2) ke p3] e pos.line X.env = pure false := by rfl) (hw : swappedStores [.Subscript (.Name x p2) ke p3] e X.env = pure none := by rfl)
    (h1 : (assignEach [.Subscript (.Name x p2) ke p3] X.env).map (·.2) = [assign (.Subscript (.Name x p2) ke p3) X.env] := by rfl)
    (ha : ∀ v, assign (.Subscript (.Name x p2) ke p3) X.env v = (do
      let ov ← holding [v] (eval (.Name x p2) X.env)
      let iv ← holding [v, ov] (eval ke X.env)
      standAt p3
      holding [v, ov, iv] (setItem ov iv v)
      release [v, ov, iv] []) := by intro _; rfl) : XS X (.Assign [.Subscript (.Name x p2) ke p3] e pos) (sPutI i fa fe) :=
  let ⟨_, g1, g2⟩ := he.ex; let ⟨_, g3, g4⟩ := hk.ex
  ⟨_, ps_asg g1 (pg_sub (pe_var hN hv hd hcd) g3 set_list ha) hs hw h1, rs_put g2 g4⟩
end
end M

namespace M
open PySem PySem.Spec PyProof.Rows L2

/-! ### what is walked -/
def Wk (K : Frg) (P : Hp) (J : It) (F0 : Hp) (ds : List D) : Prop := ∃ (Gp : Hp → Prop) (Y : Nat → Hp → V → Hp → Prop), Walk J ds.length Gp Y ∧
  (∀ G F env s H, Same P G.R → Ok K G F env s H → Same F0 F → Gp H) ∧
  (∀ i H x H' G F env s, i < ds.length → Same P G.R → Ok K G F env s H → Same F0 F → Y i H x H' → ∃ F', Ok K G F' env s H' ∧ Same F F' ∧ (∀ a o, H a = some o → H' a = some o) ∧ ∃ d, ds[i]? = some d ∧ Dt F' x d)
def RI (K : Frg) (wi : TI) (f : Lf) : Prop := ∀ G F env s H ds env', Ok K G F env s H → f env = some (ds, env') → ∀ R : It → Hp → Prop, (∀ F' H' J, Ok K G F' env' s H' → Same F F' → Wk K G.R J F' ds → R J H') → wi s H R
structure XI (X : Cx) (tg iter : Expr) (f : Lf) : Prop where
  ex : ∃ wi, PI X tg iter wi ∧ RI X.K wi f
theorem wk_list {K : Frg} {P F0 : Hp} {a : Addr} {vs : List V} {ds : List D} (h1 : ∀ G F env s H, Same P G.R → Ok K G F env s H → Same F0 F → SqL K H a vs) (h2 : Da F0 vs ds) : Wk K P (Itl K a) F0 ds :=
  ⟨_, _, by rw [← h2.length]; exact walk_list, h1, fun i H x H' G F env s hi hp k e y => by
    obtain ⟨rfl, hx⟩ := y
    obtain ⟨d, h3, h4⟩ := h2.get' hx
    exact ⟨F, k, Same.refl F, fun _ _ h => h, d, h3, Dt.mono e _ _ h4⟩⟩
theorem wk_tup {K : Frg} {P F0 : Hp} {a : Addr} {vs : List V} {ds : List D} (h1 : F0 a = some (.tup vs)) (h2 : Da F0 vs ds) : Wk K P (Itt K a) F0 ds :=
  ⟨_, _, by rw [← h2.length]; exact walk_tup, fun G F env s H _ k e => SqT.of (k.fr _ _ (e _ _ h1)), fun i H x H' G F env s hi hp k e y => by
    obtain ⟨rfl, hx⟩ := y
    obtain ⟨d, h3, h4⟩ := h2.get' hx
    exact ⟨F, k, Same.refl F, fun _ _ h => h, d, h3, Dt.mono e _ _ h4⟩⟩
def signs (x : Str) : List D := x.cps.toList.map fun c => .str ⟨#[c]⟩
theorem wk_str {K : Frg} {P F0 : Hp} {x : Str} : Wk K P (Its x) F0 (signs x) :=
  ⟨_, _, by
    have : (signs x).length = x.cps.size := by simp [signs]
    rw [this]; exact walk_str, fun _ _ _ _ _ _ _ _ => trivial, fun i H y H' G F env s hi hp k e q => by
    obtain ⟨rfl, c, h1, rfl⟩ := q
    refine ⟨F, k, Same.refl F, fun _ _ h => h, .str ⟨#[c]⟩, ?_, .str _⟩
    unfold signs
    rw [List.getElem?_map, Array.getElem?_toList, h1]
    rfl⟩
def irange (lo : Int) (n : Nat) : List D := (List.range n).map fun (i : Nat) => PyData.int (lo + (i : Int))
theorem wk_range {K : Frg} {P F0 : Hp} {lo : Int} {n : Nat} : Wk K P (Itr lo n) F0 (irange lo n) :=
  ⟨_, _, by
    have : (irange lo n).length = n := by simp [irange]
    rw [this]; exact walk_range, fun _ _ _ _ _ _ _ _ => trivial, fun i H y H' G F env s hi hp k e q => by
    obtain ⟨rfl, rfl⟩ := q
    refine ⟨F, k, Same.refl F, fun _ _ h => h, .int (lo + (i : Int)), ?_, .int _⟩
    have hi' : i < n := by simpa [irange] using hi
    unfold irange
    rw [List.getElem?_map, List.getElem?_range hi']
    rfl⟩
/-- pairs, each a new tuple -/
def pairs (xs ys : List D) : List D := (xs.zip ys).map fun p => .tuple [p.1, p.2]
theorem wk_pair {K : Frg} {P F0 : Hp} {J : It} {n : Nat} {Gp : Hp → Prop} {f g : Nat → Option V} {xs ys : List D} (w : Walk J n Gp (YPair f g)) (hn : n = min xs.length ys.length) (hG : ∀ G F env s H, Same P G.R → Ok K G F env s H → Same F0 F → Gp H)
    (hx : ∀ i v, i < n → f i = some v → ∃ d, xs[i]? = some d ∧ Dt F0 v d) (hy : ∀ i v, i < n → g i = some v → ∃ d, ys[i]? = some d ∧ Dt F0 v d) : Wk K P J F0 (pairs xs ys) :=
  ⟨_, _, by
    have : (pairs xs ys).length = n := by simp [pairs, hn]
    rw [this]; exact w, hG, fun i H v H' G F env s hi hp k e q => by
    have hi' : i < n := by simp [pairs] at hi; omega
    obtain ⟨T, x, y, rfl, hT, rfl, h1, h2⟩ := q
    obtain ⟨d1, h3, h4⟩ := hx i x hi' h1
    obtain ⟨d2, h5, h6⟩ := hy i y hi' h2
    have se : Same F (upd F T (.tup [x, y])) := same_upd (k.fr.free hT)
    refine ⟨_, k.alloc hT, se, fun a o h => same_upd hT a o h, .tuple [d1, d2], ?_, .tup upd_same (.cons (Dt.mono (e.trans se) _ _ h4) (.cons (Dt.mono (e.trans se) _ _ h6) .nil))⟩
    unfold pairs
    rw [List.getElem?_map, (List.getElem?_zip_eq_some (z := (d1, d2))).mpr ⟨h3, h5⟩]
    rfl⟩
section
variable {X : Cx} {tg e a b : Expr} {fe fa fb : Ef} {f g : Sf} {pos : Pos} {K : Frg}
/-- a list, a tuple, a text -/
def iSeq (K : Frg) (tl : TE) : TI := fun s H R => tl s H fun x H1 => (∃ a, x = .ref a ∧ (∃ xs, SqL K H1 a xs) ∧ R (Itl K a) H1) ∨ (∃ a, x = .ref a ∧ (∃ xs, SqT K H1 a xs) ∧ R (Itt K a) H1) ∨ ∃ z, x = .str z ∧ R (Its z) H1
theorem pi_seq {l : Expr} {tl : TE} (hl : PE X l tl) : PI X tg l (iSeq X.K tl) := by
  refine ⟨fun pins s σ H R I h => ?_⟩
  refine thn (hl.run pins s σ H _ I h) fun v s1 ⟨x, H1, I1, r1, q1⟩ => ?_
  rcases q1 with ⟨a, e, ⟨xs, hq⟩, q⟩ | ⟨a, e, ⟨xs, hq⟩, q⟩ | ⟨z, e, q⟩
  · subst e
    cases r1
    obtain ⟨its, rv, p, hz⟩ := I1.list hq
    refine wpAny_pyIter_list p.isList ?_
    refine ⟨s1.heap.objs.size, [s1.heap.objs.size], _, _, H1, rfl, I1.kept (t' := s1.toks) fun b o e => Heap.get?_push_of_some _ e, turn_list a _, ⟨_, Heap.get?_push_size _ rfl, rfl, rfl⟩, fun b hb => ?_, q⟩
    have e : b = s1.heap.objs.size := by simpa using hb
    subst e
    exact I1.fpOk (Nat.le_refl _) (I1.hok.fresh (Nat.le_refl _))
  · subst e
    cases r1
    obtain ⟨its, rv, p, hz⟩ := I1.tuple hq
    refine wpAny_pyIter_tuple (show s1.heap.IsTuple a its.toArray from p) ?_
    refine ⟨s1.heap.objs.size, [s1.heap.objs.size], _, _, H1, rfl, I1.kept (t' := s1.toks) fun b o e => Heap.get?_push_of_some _ e, turn_tuple a _, ⟨_, Heap.get?_push_size _ rfl, rfl, rfl⟩, fun b hb => ?_, q⟩
    have e : b = s1.heap.objs.size := by simpa using hb
    subst e
    exact I1.fpOk (Nat.le_refl _) (I1.hok.fresh (Nat.le_refl _))
  · subst e
    obtain ⟨t, rfl⟩ := r1
    cases ha : z.cps.all (· < 128)
    · exact wpAny_pyIter_wide ha (pi_one (tk := s1.toks) I1 _ (turn_str _ z t "str_iterator" (.inr rfl)) ⟨_, Heap.get?_push_size _ rfl, rfl, rfl⟩ q)
    · exact wpAny_pyIter_ascii ha (pi_one (tk := s1.toks) I1 _ (turn_str _ z t "str_ascii_iterator" (.inl rfl)) ⟨_, Heap.get?_push_size _ rfl, rfl, rfl⟩ q)
def lIt (f : Ef) : Lf := fun env => (f env).bind fun r => match r.1 with
  | .list ds => some (ds, r.2)
  | .tuple ds => some (ds, r.2)
  | .str x => some (signs x, r.2)
  | _ => none
theorem xi_seq (ha : XE X e fe) : XI X tg e (lIt fe) := by
  obtain ⟨t, h1, h2⟩ := ha.ex
  refine ⟨_, pi_seq h1, fun G F env s H ds env' k e R q => ?_⟩
  unfold lIt at e
  obtain ⟨⟨d, e1⟩, h3, e⟩ := Option.bind_eq_some_iff.mp e
  refine h2 G F env s H d e1 k h3 _ fun F1 H1 v k1 s1 p1 => ?_
  cases p1 with
  | lst a1 b1 =>
    cases e
    exact .inl ⟨_, rfl, ⟨_, SqL.of (k1.fr _ _ a1)⟩, q F1 H1 _ k1 s1 (wk_list (fun G F env s H _ k e => SqL.of (k.fr _ _ (e _ _ a1))) b1)⟩
  | tup a1 b1 =>
    cases e
    exact .inr (.inl ⟨_, rfl, ⟨_, SqT.of (k1.fr _ _ a1)⟩, q F1 H1 _ k1 s1 (wk_tup a1 b1)⟩)
  | str x =>
    cases e
    exact .inr (.inr ⟨_, rfl, q F1 H1 _ k1 s1 wk_str⟩)
  | _ => cases e
def smallI (i : Int) : Bool := decide (-1000000000 ≤ i) && decide (i ≤ 1000000000)
def lRng1 (f : Ef) : Lf := fun env => (f env).bind fun r => match r.1 with
  | .int n => if smallI n then some (irange 0 n.toNat, r.2) else none
  | _ => none
def lRng2 (f g : Ef) : Lf := fun env => (f env).bind fun r => (g r.2).bind fun q => match r.1, q.1 with
  | .int m, .int n => if smallI m && smallI n then some (irange m (n - m).toNat, q.2) else none
  | _, _ => none
theorem xi_rng1 {p : Pos} (ha : XE X a fa) (hm : X.mg "range" = none) (hg : Gl X "range" := by rfl) (hs : starEach [a] X.env = [(false, eval a X.env)] := by rfl) : XI X tg (.Call (.Name "range" p) [a] [] pos) (lRng1 fa) := by
  obtain ⟨t, h1, h2⟩ := ha.ex
  refine ⟨_, pi_range1 hg hm (pa_cons h1 pa_nil (by rw [hs]; rfl)) hs, fun G F env s H ds env' k e R q => ?_⟩
  unfold lRng1 at e
  obtain ⟨⟨d, e1⟩, h3, e⟩ := Option.bind_eq_some_iff.mp e
  refine h2 G F env s H d e1 k h3 _ fun F1 H1 v k1 s1 p1 => ?_
  cases p1 with
  | int n =>
    dsimp only at e
    split at e
    · rename_i hf
      cases e
      unfold smallI at hf
      simp only [Bool.and_eq_true, decide_eq_true_eq] at hf
      exact ⟨n, rfl, by omega, by omega, q F1 H1 _ k1 s1 wk_range⟩
    · cases e
  | _ => cases e
def lEnum (f : Ef) : Lf := fun env => (f env).bind fun r => match r.1 with
  | .list ds => some (pairs (irange 0 ds.length) ds, r.2)
  | _ => none
theorem xi_enum {p tpos : Pos} {elts : List Expr} {kk : Nat} (ha : XE X a fa) (hm : X.mg "enumerate" = none) (hg : Gl X "enumerate" := by rfl) (hs : starEach [a] X.env = [(false, eval a X.env)] := by rfl) : XI X (.Tuple elts kk tpos) (.Call (.Name "enumerate" p) [a] [] pos) (lEnum fa) := by
  obtain ⟨t, h1, h2⟩ := ha.ex
  refine ⟨_, pi_enum hg hm (pa_cons h1 pa_nil (by rw [hs]; rfl)) hs, fun G F env s H ds env' k e R q => ?_⟩
  unfold lEnum at e
  obtain ⟨⟨d, e1⟩, h3, e⟩ := Option.bind_eq_some_iff.mp e
  refine h2 G F env s H d e1 k h3 _ fun F1 H1 v k1 s1 p1 => ?_
  cases p1 with
  | lst a1 b1 =>
    cases e
    refine ⟨_, _, rfl, SqL.of (k1.fr _ _ a1), q F1 H1 _ k1 s1 (wk_pair walk_enum (by simp [irange, b1.length]) (fun G F env s H _ k e => SqL.of (k.fr _ _ (e _ _ a1))) (fun i v hi hv => ?_) fun i v _ hv => b1.get' hv)⟩
    cases hv
    refine ⟨.int (i : Int), ?_, .int _⟩
    unfold irange
    rw [List.getElem?_map, List.getElem?_range (by rw [← b1.length]; exact hi)]
    simp
  | _ => cases e
def lZip (f g : Ef) : Lf := fun env => (f env).bind fun r => (g r.2).bind fun q => match r.1, q.1 with
  | .list ds, .list es => some (pairs ds es, q.2)
  | .tuple ds, .tuple es => some (pairs ds es, q.2)
  | _, _ => none
theorem walk_zipT {K : Frg} {a b : Addr} {xs ys : List V} {n : Nat} (hn : n = min xs.length ys.length) : Walk (RZ.ItzT K a b) n (fun H => SqT K H a xs ∧ SqT K H b ys) (YPair (fun i => xs[i]?) (fun i => ys[i]?)) := by
  subst hn
  refine ⟨fun i _ hi q => ?_, fun _ q => ⟨xs, ys, q.1, q.2, by omega⟩, fun i H v H' _ q y => ?_⟩
  · have h1 : i < xs.length := by omega
    have h2 : i < ys.length := by omega
    exact ⟨xs, ys, xs[i], ys[i], q.1, q.2, by simp [h1], by simp [h2]⟩
  · obtain ⟨T, x, z, h1, h2, h3, h4, h5⟩ := y
    exact ⟨T, x, z, h1, h2, h3, h4 xs q.1, h5 ys q.2⟩
theorem xi_zip {p tpos : Pos} {elts : List Expr} {kk : Nat} (ha : XE X a fa) (hb : XE X b fb) (hm : X.mg "zip" = none) (hg : Gl X "zip" := by rfl) (hs : starEach [a, b] X.env = (false, eval a X.env) :: starEach [b] X.env := by rfl) (hs2 : starEach [b] X.env = (false, eval b X.env) :: starEach [] X.env := by rfl)
    (hpl : (backTo pos (starEach [b] X.env)).any (·.1) = false := by rfl) : XI X (.Tuple elts kk tpos) (.Call (.Name "zip" p) [a, b] [] pos) (lZip fa fb) := by
  obtain ⟨t, h1, h2⟩ := ha.ex
  obtain ⟨u, h3, h4⟩ := hb.ex
  refine ⟨_, RZ.pi_zipA hg hm (pa_cons h1 (pa_cons h3 pa_nil hs2) hs) hs hpl, fun G F env s H ds env' k e R q => ?_⟩
  unfold lZip at e
  obtain ⟨⟨d, e1⟩, h5, e⟩ := Option.bind_eq_some_iff.mp e
  obtain ⟨⟨d2, e2⟩, h6, e⟩ := Option.bind_eq_some_iff.mp e
  refine h2 G F env s H d e1 k h5 _ fun F1 H1 v k1 s1 p1 => ?_
  refine h4 G F1 e1 s H1 d2 e2 k1 h6 _ fun F2 H2 v2 k2 s2 p2 => ?_
  have p3 := Dt.mono s2 _ _ p1
  cases p3 with
  | lst a1 b1 =>
    cases p2 with
    | lst a2 b2 =>
      cases e
      exact ⟨_, _, _, _, rfl, .inl ⟨SqL.of (k2.fr _ _ a1), SqL.of (k2.fr _ _ a2), q F2 H2 _ k2 (s1.trans s2) (wk_pair (walk_zip rfl) (by rw [b1.length, b2.length]) (fun G F env s H _ k e => ⟨SqL.of (k.fr _ _ (e _ _ a1)), SqL.of (k.fr _ _ (e _ _ a2))⟩) (fun i v _ hv => b1.get' hv) fun i v _ hv => b2.get' hv)⟩⟩
    | _ => cases e
  | tup a1 b1 =>
    cases p2 with
    | tup a2 b2 =>
      cases e
      exact ⟨_, _, _, _, rfl, .inr ⟨SqT.of (k2.fr _ _ a1), SqT.of (k2.fr _ _ a2), q F2 H2 _ k2 (s1.trans s2) (wk_pair (walk_zipT rfl) (by rw [b1.length, b2.length]) (fun G F env s H _ k e => ⟨SqT.of (k.fr _ _ (e _ _ a1)), SqT.of (k.fr _ _ (e _ _ a2))⟩) (fun i v _ hv => b1.get' hv) fun i v _ hv => b2.get' hv)⟩⟩
    | _ => cases e
  | _ => cases e

/-! ### for -/
def forGo (g : Tf) (body : Sf) : List D → En → Option Out
  | [], env => some (.nx env)
  | d :: ds, env => (g d env).bind fun env1 => (body env1).bind fun o => match o with
    | .nx env2 => forGo g body ds env2
    | o => some o
def sFor (src : Lf) (g : Tf) (body : Sf) : Sf := fun env => (src env).bind fun r => forGo g body r.1 r.2
theorem xs_for {iter : Expr} {body : List Stmt} {src : Lf} {gt : Tf} {sl : List Nat} {fb : Sf} (hp : PassesOwn (model X.prog X.w) X.A X.env X.xe) (hi : XI X tg iter src) (hg : XG X tg gt sl) (hb : XSs X body fb) (hc : X.calm = true := by rfl)
    (hs : ∀ x, foldedSetIterable iter X.env x = pure x := by intro _; rfl) : XS X (.For tg iter body [] pos) (sFor src gt fb) := by
  obtain ⟨wi, p1, q1⟩ := hi.ex
  obtain ⟨tg', p2, q2⟩ := hg.ex
  obtain ⟨tb, p3, q3⟩ := hb.ex
  refine ⟨_, ps_for hp hc p1 p2 p3 hs, fun G F env s H o k e E q => ?_⟩
  unfold sFor at e
  obtain ⟨⟨ds, e1⟩, h1, e⟩ := Option.bind_eq_some_iff.mp e
  refine q1 G F env s H ds e1 k h1 _ fun F1 H1 J k1 s1 w => ?_
  obtain ⟨Gp, Y, w1, w2, w3⟩ := w
  refine for_it w1 (fun i s' H' => ∃ F' env', Ok X.K G F' env' s' H' ∧ Same F1 F' ∧ forGo gt fb (ds.drop i) env' = some o) ⟨F1, e1, k1, Same.refl F1, e⟩ (fun i s' H' hi ⟨F', env', k', s'', _⟩ => w2 G F' env' s' H' (Same.refl _) k' s'') (fun i x s' H' H'' hi ⟨F', env', k', s'', e'⟩ y => ?_) fun s' H' ⟨F', env', k', s'', e'⟩ => ?_
  · obtain ⟨F2, k2, s2, _, d, hd, pd⟩ := w3 i H' x H'' G F' env' s' hi (Same.refl _) k' s'' y
    have hdr : ds.drop i = d :: ds.drop (i + 1) := by
      obtain ⟨hl, hx⟩ := List.getElem?_eq_some_iff.mp hd
      rw [List.drop_eq_getElem_cons hl, hx]
    rw [hdr] at e'
    unfold forGo at e'
    obtain ⟨env2, h2, e'⟩ := Option.bind_eq_some_iff.mp e'
    obtain ⟨o2, h3, e'⟩ := Option.bind_eq_some_iff.mp e'
    refine q2 G F2 env' s' H'' x d env2 k2 pd h2 _ fun s3 k3 _ => ?_
    refine q3 G F2 env2 s3 H'' o2 k3 h3 _ ?_
    cases o2 with
    | nx env3 => exact fun F4 s4 H4 k4 s5 => ⟨F4, env3, k4, (s''.trans s2).trans s5, e'⟩
    | rt v ee =>
      cases e'
      exact (q.up (s1.trans (s''.trans s2))).same_rt rfl (by simp)
    | rn v ee =>
      cases e'
      exact (q.up (s1.trans (s''.trans s2))).same_rt rfl (by simp)
    | rp v w ee =>
      cases e'
      exact (q.up (s1.trans (s''.trans s2))).same_rt rfl (by simp)
  · rw [List.drop_length] at e'
    cases e'
    exact q F' s' H' k' (s1.trans s'')

/-! ### while -/
def whGo (c : Bf) (body : Sf) : Nat → En → Option Out
  | 0, _ => none
  | n + 1, env => (c env).bind fun r => if r.1 then (body r.2).bind fun o => match o with
    | .nx env2 => whGo c body n env2
    | o => some o
    else some (.nx r.2)
def sWh (n : Nat) (c : Bf) (body : Sf) : Sf := whGo c body n
theorem xs_while (n : Nat) {c : Expr} {body : List Stmt} {gc : Bf} {fb : Sf} (hp : PassesOwn (model X.prog X.w) X.A X.env X.xe) (hc : XB X c gc) (hb : XSs X body fb) : XS X (.While c body [] pos) (sWh n gc fb) := by
  obtain ⟨tc, p1, q1⟩ := hc.ex
  obtain ⟨tb, p2, q2⟩ := hb.ex
  refine ⟨_, ps_while hp p1 p2, fun G F env s H o k e E q => ?_⟩
  refine ⟨fun m s' H' => ∃ F' env', Ok X.K G F' env' s' H' ∧ Same F F' ∧ whGo gc fb m env' = some o, ⟨n, F, env, k, Same.refl F, e⟩, ?_⟩
  rintro m s' H' ⟨F', env', k', s'', e'⟩
  cases m with
  | zero => cases e'
  | succ m =>
    unfold whGo at e'
    obtain ⟨⟨b, e1⟩, h1, e'⟩ := Option.bind_eq_some_iff.mp e'
    refine q1 G F' env' s' H' b e1 k' h1 _ fun F1 H1 k1 s1 => ?_
    cases b with
    | true =>
      rw [if_pos rfl] at e' ⊢
      obtain ⟨o2, h3, e'⟩ := Option.bind_eq_some_iff.mp e'
      refine ⟨fun s2 H2 => ∃ F2 env2, Ok X.K G F2 env2 s2 H2 ∧ Same F F2 ∧ whGo gc fb m env2 = some o, fun s2 H2 h => ⟨m, Nat.lt_succ_self m, h⟩, ?_⟩
      refine q2 G F1 e1 s' H1 o2 k1 h3 _ ?_
      cases o2 with
      | nx env3 => exact fun F4 s4 H4 k4 s5 => ⟨F4, env3, k4, (s''.trans s1).trans s5, e'⟩
      | rt v ee =>
        cases e'
        exact (q.up (s''.trans s1)).same_rt rfl (by simp)
      | rn v ee =>
        cases e'
        exact (q.up (s''.trans s1)).same_rt rfl (by simp)
      | rp v w ee =>
        cases e'
        exact (q.up (s''.trans s1)).same_rt rfl (by simp)
    | false =>
      rw [if_neg Bool.false_ne_true] at e' ⊢
      cases e'
      exact q F1 s' H1 k1 (s''.trans s1)

/-! ### list comprehensions -/
def wipeE (env : En) : List Nat → En
  | [] => env
  | v :: vs => (wipeE env vs).set v .no
def backE (old env : En) : List Nat → En
  | [] => env
  | v :: vs => match old[v]? with
    | some x => (backE old env vs).set v x
    | none => backE old env vs
def noOwn (env : En) : List Nat → Bool
  | [] => true
  | v :: vs => (!isOwn env v) && noOwn env vs
def lcGo (vs : List Nat) (g : Tf) (c : Bf) (f : Ef) : List D → En → Option (List D × En)
  | [], env => some ([], env)
  | d :: ds, env => (g d env).bind fun env1 => (c env1).bind fun r => if r.1 then (f r.2).bind fun q => (lcGo vs g c f ds (wipeE q.2 vs)).map fun w => (q.1 :: w.1, w.2)
    else lcGo vs g c f ds (wipeE r.2 vs)
def lComp (src : Lf) (vs : List Nat) (g : Tf) (c : Bf) (f : Ef) : Lf := fun env => (src env).bind fun r => if noOwn r.2 vs && fits r.1.length then (lcGo vs g c f r.1 (wipeE r.2 vs)).map fun w => (w.1, backE r.2 w.2 vs) else none
theorem wipeE_length (env : En) : ∀ vs : List Nat, (wipeE env vs).length = env.length
  | [] => rfl
  | v :: vs => by unfold wipeE; rw [List.length_set, wipeE_length env vs]
theorem wipeE_get (env : En) : ∀ (vs : List Nat) (j : Nat), (wipeE env vs)[j]? = if j ∈ vs ∧ j < env.length then some .no else env[j]?
  | [], j => by simp [wipeE]
  | v :: vs, j => by
    unfold wipeE
    by_cases hj : v = j
    · subst hj
      by_cases hl : v < env.length
      · rw [List.getElem?_set_self (by rw [wipeE_length]; exact hl)]
        simp [hl]
      · rw [List.getElem?_eq_none (by rw [List.length_set, wipeE_length]; omega), List.getElem?_eq_none (by omega)]
        simp [hl]
    · rw [List.getElem?_set_ne hj, wipeE_get env vs j]
      have : ¬ j = v := fun e => hj e.symm
      simp [this]
theorem backE_length (old env : En) : ∀ vs : List Nat, (backE old env vs).length = env.length
  | [] => rfl
  | v :: vs => by
    unfold backE
    split
    · rw [List.length_set, backE_length old env vs]
    · exact backE_length old env vs
theorem backE_get (old env : En) (hl : old.length = env.length) : ∀ (vs : List Nat) (j : Nat), (backE old env vs)[j]? = if j ∈ vs then old[j]? else env[j]?
  | [], j => by simp [backE]
  | v :: vs, j => by
    unfold backE
    by_cases hj : v = j
    · subst hj
      cases hx : old[v]? with
      | some x =>
        have hv : v < old.length := (List.getElem?_eq_some_iff.mp hx).1
        simp only
        rw [List.getElem?_set_self (by rw [backE_length, ← hl]; exact hv)]
        simp
      | none =>
        simp only
        rw [backE_get old env hl vs v, hx]
        have : env[v]? = none := by rw [List.getElem?_eq_none_iff] at hx ⊢; omega
        simp [this]
    · have hn : ¬ j = v := fun e => hj e.symm
      cases hx : old[v]? with
      | some x => simp only; rw [List.getElem?_set_ne hj, backE_get old env hl vs j]; simp [hn]
      | none => simp only; rw [backE_get old env hl vs j]; simp [hn]
theorem noOwn_get {env : En} : ∀ {vs : List Nat} {j : Nat}, noOwn env vs = true → j ∈ vs → ∀ l ds, env[j]? ≠ some (.own l ds)
  | v :: vs, j, h, hj, l, ds => fun e => by
    unfold noOwn at h
    simp only [Bool.and_eq_true, Bool.not_eq_true'] at h
    rcases List.mem_cons.mp hj with rfl | hj
    · have := h.1
      unfold isOwn at this
      rw [e] at this; cases this
    · exact noOwn_get h.2 hj l ds e
theorem ok_wipe {G : Gm} {F : Hp} {env : En} {s : L2.St} {H : Hp} (vs : List Nat) (k : Ok K G F env s H) : Ok K G F (wipeE env vs) (wipe s vs) H := by
  have key : ∀ {j : Nat} {x : Sl}, (wipeE env vs)[j]? = some x → x ≠ .no → env[j]? = some x ∧ (wipe s vs)[j]? = s[j]? := fun {j x} e hx => by
    rw [wipeE_get] at e
    rw [wipe_get]
    split at e
    · cases e; exact absurd rfl hx
    · rename_i hn
      exact ⟨e, by rw [k.len]; rw [if_neg hn]⟩
  refine ⟨by rw [wipe_length, wipeE_length, k.len], k.fr, fun j d e => ?_, fun j l ds e => ?_, fun j ds e => ?_, fun i j l ds m es e1 e2 e3 => ?_, k.pin, k.dom, k.grow, k.new, k.rin⟩
  · obtain ⟨h1, h2⟩ := key e (by simp)
    rw [h2]; exact k.val j d h1
  · obtain ⟨h1, h2⟩ := key e (by simp)
    rw [h2]; exact k.own j l ds h1
  · obtain ⟨h1, h2⟩ := key e (by simp)
    rw [h2]; exact k.ro j ds h1
  · obtain ⟨h1, h2⟩ := key e1 (by simp)
    obtain ⟨h3, h4⟩ := key e2 (by simp)
    rw [h2, h4] at e3
    exact k.sep i j _ _ _ _ h1 h3 e3
/-- slots that know less -/
theorem ok_weak {G : Gm} {F : Hp} {env : En} {s s' : L2.St} {H : Hp} (k : Ok K G F env s H) (hl : s'.length = s.length) (h : ∀ (j : Nat) x, env[j]? = some x → x ≠ .no → s'[j]? = s[j]?) : Ok K G F env s' H := by
  refine ⟨by rw [hl, k.len], k.fr, fun j d e => ?_, fun j l ds e => ?_, fun j ds e => ?_, fun i j l ds m es e1 e2 e3 => ?_, k.pin, k.dom, k.grow, k.new, k.rin⟩
  · rw [h j _ e (by simp)]; exact k.val j d e
  · rw [h j _ e (by simp)]; exact k.own j l ds e
  · rw [h j _ e (by simp)]; exact k.ro j ds e
  · rw [h i _ e1 (by simp), h j _ e2 (by simp)] at e3
    exact k.sep i j _ _ _ _ e1 e2 e3
/-- a frame with one more pinned object -/
abbrev Gm.pin (G : Gm) (p : Addr) (o : HO) : Gm := { G with P := upd G.P p o, H0 := upd G.H0 p o }
theorem ok_pin {G : Gm} {F : Hp} {env : En} {s : L2.St} {H : Hp} {p : Addr} {o : HO} (k : Ok K G F env s H) (hp : H p = some o) (hn : ∀ (j : Nat) l es, env[j]? = some (.own l es) → s[j]? ≠ some (some (.ref p))) (hP : G.P p = none) (hF : F p = none) : Ok K (G.pin p o) F env s H := by
  refine ⟨k.len, k.fr, k.val, fun j l ds e => ?_, k.ro, k.sep, fun a u e => ?_, fun a e => ?_, k.grow, fun a u e => ?_, k.rin.trans (same_upd hP)⟩
  · obtain ⟨a, vs, h1, h2, h3, h4, h5, h6, h7⟩ := k.own j l ds e
    have ne : a ≠ p := fun z => by subst z; exact hn j l ds e h1
    exact ⟨a, vs, h1, h2, h3, by show upd G.P p o a = none; rw [upd_ne ne]; exact h4, h5, fun z => by show upd G.H0 p o a = none; rw [upd_ne ne]; exact h6 z, h7⟩
  · have e : upd G.P p o a = some u := e
    by_cases h : a = p
    · subst h; rw [upd_same] at e; rw [hp]; exact e
    · rw [upd_ne h] at e; exact k.pin a u e
  · show upd G.H0 p o a = none
    have ne : a ≠ p := fun z => by subst z; rw [hp] at e; cases e
    rw [upd_ne ne]; exact k.dom a e
  · rcases k.new a u e with z | z
    · exact .inl z
    · have ne : a ≠ p := fun z => by subst z; rw [hF] at e; cases e
      exact .inr (by show upd G.H0 p o a = none; rw [upd_ne ne]; exact z)
theorem ok_unpin {G : Gm} {F : Hp} {env : En} {s : L2.St} {H : Hp} {p : Addr} {o : HO} (k : Ok K (G.pin p o) F env s H) (hP : G.P p = none) (h0 : G.H0 p = none) (hr : Same G.R G.P) : Ok K G F env s H := by
  have pn : ∀ a, upd G.P p o a = none → G.P a = none ∧ a ≠ p := fun a e => by
    by_cases h : a = p
    · subst h; rw [upd_same] at e; cases e
    · rw [upd_ne h] at e; exact ⟨e, h⟩
  refine ⟨k.len, k.fr, k.val, fun j l ds e => ?_, k.ro, k.sep, fun a u e => k.pin a u (same_upd hP a u e), fun a e => ?_, k.grow, fun a u e => ?_, hr⟩
  · obtain ⟨a, vs, h1, h2, h3, h4, h5, h6, h7⟩ := k.own j l ds e
    obtain ⟨h8, h9⟩ := pn a h4
    exact ⟨a, vs, h1, h2, h3, h8, h5, fun z => by have q : upd G.H0 p o a = none := h6 z; rw [upd_ne h9] at q; exact q, h7⟩
  · by_cases h : a = p
    · subst h; exact h0
    · have q : upd G.H0 p o a = none := k.dom a e
      rw [upd_ne h] at q; exact q
  · rcases k.new a u e with z | z
    · exact .inl z
    · have z : upd G.H0 p o a = none := z
      by_cases h : a = p
      · subst h; rw [upd_same] at z; cases z
      · rw [upd_ne h] at z; exact .inr z
/-- a pinned object is never frozen -/
theorem pin_nofrz {G : Gm} {F : Hp} {env : En} {s : L2.St} {H : Hp} {p : Addr} {o : HO} (k : Ok K (G.pin p o) F env s H) (h : G.F0 p = none) : F p = none := by
  cases hx : F p with
  | none => rfl
  | some u =>
    rcases k.new p u hx with z | z
    · have z : G.F0 p = some u := z
      rw [h] at z; cases z
    · have z : upd G.H0 p o p = none := z
      rw [upd_same] at z; cases z
theorem pin_at {G : Gm} {F : Hp} {env : En} {s : L2.St} {H : Hp} {p : Addr} {o : HO} (k : Ok K (G.pin p o) F env s H) : H p = some o := k.pin p o (by show upd G.P p o p = some o; rw [upd_same])
/-- an object that is pinned changes its content -/
theorem ok_repin {G : Gm} {F : Hp} {env : En} {s : L2.St} {H : Hp} {p : Addr} {o o' : HO} (k : Ok K (G.pin p o) F env s H) (hP : G.P p = none) (hF : F p = none) (hr : Same G.R G.P) : Ok K (G.pin p o') F env s (upd H p o') := by
  have pn : ∀ a, upd G.P p o a = none → upd G.P p o' a = none ∧ a ≠ p := fun a e => by
    by_cases h : a = p
    · subst h; rw [upd_same] at e; cases e
    · rw [upd_ne h] at e; exact ⟨by rw [upd_ne h]; exact e, h⟩
  have hn : ∀ a, upd G.H0 p o a = none → upd G.H0 p o' a = none := fun a e => by
    by_cases h : a = p
    · subst h; rw [upd_same] at e; cases e
    · rw [upd_ne h] at e ⊢; exact e
  refine ⟨k.len, fun a u e => ?_, k.val, fun j l ds e => ?_, k.ro, k.sep, fun a u e => ?_, fun a e => ?_, k.grow, fun a u e => ?_, hr.trans (same_upd hP)⟩
  · have ne : a ≠ p := fun z => by subst z; rw [hF] at e; cases e
    rw [upd_ne ne]; exact k.fr a u e
  · obtain ⟨a, vs, h1, h2, h3, h4, h5, h6, h7⟩ := k.own j l ds e
    obtain ⟨h8, h9⟩ := pn a h4
    exact ⟨a, vs, h1, by rw [upd_ne h9]; exact h2, h3, h8, h5, fun z => hn a (h6 z), h7⟩
  · have e : upd G.P p o' a = some u := e
    by_cases h : a = p
    · subst h; rw [upd_same] at e ⊢; exact e
    · rw [upd_ne h] at e ⊢
      exact k.pin a u (by show upd G.P p o a = some u; rw [upd_ne h]; exact e)
  · by_cases h : a = p
    · subst h; rw [upd_same] at e; cases e
    · rw [upd_ne h] at e; exact hn a (k.dom a e)
  · rcases k.new a u e with z | z
    · exact .inl z
    · exact .inr (hn a z)
theorem lcGo_some {vs : List Nat} {g : Tf} {c : Bf} {f : Ef} {d : D} {ds : List D} {env env' : En} {zs : List D} (e : lcGo vs g c f (d :: ds) env = some (zs, env')) :
    ∃ env1 env2, g d env = some env1 ∧ ((∃ y env3 ws, c env1 = some (true, env2) ∧ f env2 = some (y, env3) ∧ lcGo vs g c f ds (wipeE env3 vs) = some (ws, env') ∧ zs = y :: ws) ∨ (c env1 = some (false, env2) ∧ lcGo vs g c f ds (wipeE env2 vs) = some (zs, env'))) := by
  unfold lcGo at e
  obtain ⟨env1, h1, e⟩ := Option.bind_eq_some_iff.mp e
  obtain ⟨⟨b, env2⟩, h2, e⟩ := Option.bind_eq_some_iff.mp e
  cases b with
  | true =>
    rw [if_pos rfl] at e
    obtain ⟨⟨y, env3⟩, h3, e⟩ := Option.bind_eq_some_iff.mp e
    obtain ⟨⟨ws, env4⟩, h4, e⟩ := Option.map_eq_some_iff.mp e
    cases e
    exact ⟨env1, env2, h1, .inl ⟨y, env3, ws, h2, h3, h4, rfl⟩⟩
  | false =>
    rw [if_neg Bool.false_ne_true] at e
    exact ⟨env1, env2, h1, .inr ⟨h2, e⟩⟩
theorem rn_comp {wi : TI} {gt : TG} {tt : TT} {te : TE} {src : Lf} {vs : List Nat} {g : Tf} {c : Bf} {f : Ef} {sl : List Nat} (hi : RI K wi src) (hg : RG K gt g sl) (ht : RB K tt c) (he : RE K te f) (hsl : ∀ i ∈ sl, i ∈ vs) :
    RN K (tLc wi gt tt te vs) (lComp src vs g c f) := fun G F env s H zs env' k e Q q => by
  unfold lComp at e
  obtain ⟨⟨ds, e1⟩, h1, e⟩ := Option.bind_eq_some_iff.mp e
  dsimp only at e
  split at e
  · rename_i hno
    rw [Bool.and_eq_true] at hno
    have hfit := fits_line hno.2
    obtain ⟨⟨ws, e2⟩, h2, e⟩ := Option.map_eq_some_iff.mp e
    cases e
    refine hi G F env s H ds e1 k h1 _ fun F1 H1 J k1 s1 w => ?_
    obtain ⟨Gp, Y, w1, w2, w3⟩ := w
    intro L hL
    have n1 : F1 L = none := k1.fr.free hL
    have n2 : G.P L = none := k1.pin.free hL
    have n3 : G.H0 L = none := k1.dom L hL
    have nown : ∀ (j : Nat) l es, e1[j]? = some (.own l es) → s[j]? ≠ some (some (.ref L)) := k1.notown hL
    have kw := ok_wipe vs k1
    have nw : ∀ (j : Nat) l es, (wipeE e1 vs)[j]? = some (.own l es) → (wipe s vs)[j]? ≠ some (some (.ref L)) := kw.notown hL
    have nF0 : G.F0 L = none := k1.grow.free n1
    -- the state at each turn
    refine lc_it w1 (fun i H' => ∃ F' env' accV accD rest, Ok K (G.pin L (.lst accV)) F' env' (wipe s vs) H' ∧ Same F1 F' ∧ Da F' accV accD ∧ accD.length ≤ i ∧ lcGo vs g c f (ds.drop i) env' = some (rest, e2) ∧ ws = accD ++ rest) ?_ ?_ ?_ ?_
    · refine ⟨F1, wipeE e1 vs, [], [], ws, ?_, Same.refl F1, .nil, Nat.zero_le _, h2, rfl⟩
      exact ok_pin (kw.laid hL) upd_same nw n2 n1
    · rintro i H' _ ⟨F', env', accV, accD, rest, k', s', _⟩
      exact w2 (G.pin L (.lst accV)) F' env' _ H' (Same.refl _) k' s'
    · rintro i x H' H'' hin ⟨F', env', accV, accD, rest, k', s', da, hlen, e', hw⟩ y
      obtain ⟨F2, k2, s2, hh, d, hd, pd⟩ := w3 i H' x H'' (G.pin L (.lst accV)) F' env' (wipe s vs) hin (Same.refl _) k' s' y
      have hdr : ds.drop i = d :: ds.drop (i + 1) := by
        obtain ⟨hl, hx⟩ := List.getElem?_eq_some_iff.mp hd
        rw [List.drop_eq_getElem_cons hl, hx]
      rw [hdr] at e'
      obtain ⟨env1, env2, g1, h3⟩ := lcGo_some e'
      refine hg _ F2 env' (wipe s vs) H'' x d env1 k2 pd g1 _ fun s3 k3 w3' => ?_
      have hwp : wipe s3 vs = wipe (wipe s vs) vs := w3' vs hsl
      have hww : wipe (wipe s vs) vs = wipe s vs := by
        refine List.ext_getElem? fun j => ?_
        rw [wipe_get, wipe_get, wipe_length]
        by_cases hj : j ∈ vs ∧ j < s.length
        · rw [if_pos hj, if_pos hj]
        · rw [if_neg hj, if_neg hj]
      refine ⟨by rw [hwp, hww], ?_⟩
      -- a turn's end
      have again : ∀ {F5 : Hp} {env5 : En} {H5 : Hp} {acc : List V}, Ok K (G.pin L (.lst acc)) F5 env5 s3 H5 → Ok K (G.pin L (.lst acc)) F5 (wipeE env5 vs) (wipe s vs) H5 := fun {F5 env5 H5 acc} k5 => by
        have := ok_wipe vs k5
        rw [hwp, hww] at this
        exact this
      rcases h3 with ⟨yv, env3, wr, hc, hf, hr, rfl⟩ | ⟨hc, hr⟩
      · refine ht _ F2 env1 s3 H'' true env2 k3 hc _ fun F3 H3 k4 s4 => ?_
        rw [if_pos rfl]
        refine he _ F3 env2 s3 H3 yv env3 k4 hf _ fun F4 H4 v k5 s5 p5 => ?_
        have ss : Same F1 F4 := ((s'.trans s2).trans s4).trans s5
        have ss' : Same F' F4 := (s2.trans s4).trans s5
        refine ⟨accV, pin_at k5, by rw [da.length]; omega, F4, wipeE env3 vs, accV ++ [v], accD ++ [yv], wr, again (ok_repin k5 n2 (pin_nofrz k5 nF0) k1.rin), ss, (Da.mono ss' _ _ da).append (.cons p5 .nil), by simp; omega, hr, by rw [hw]; simp⟩
      · refine ht _ F2 env1 s3 H'' false env2 k3 hc _ fun F3 H3 k4 s4 => ?_
        rw [if_neg Bool.false_ne_true]
        have ss : Same F1 F3 := (s'.trans s2).trans s4
        exact ⟨F3, wipeE env2 vs, accV, accD, rest, again k4, ss, Da.mono (s2.trans s4) _ _ da, by omega, hr, hw⟩
    · rintro H' ⟨F', env', accV, accD, rest, k', s', da, hlen, e', hw⟩
      rw [List.drop_length] at e'
      cases e'
      rw [List.append_nil] at hw
      subst hw
      have ku := ok_unpin k' n2 n3 k1.rin
      have f' := pin_nofrz k' nF0
      have hLL := pin_at k'
      have hle : e1.length = e2.length := by rw [← k1.len, ← ku.len, wipe_length]
      -- the slots of the comprehension's own names are as they were
      have kb : Ok K G F' (backE e1 e2 vs) s H' := by
        have key : ∀ {j : Nat} {x : Sl}, (backE e1 e2 vs)[j]? = some x → (j ∈ vs ∧ e1[j]? = some x) ∨ (j ∉ vs ∧ e2[j]? = some x ∧ s[j]? = (wipe s vs)[j]?) := fun {j x} e => by
          rw [backE_get e1 e2 hle] at e
          by_cases hj : j ∈ vs
          · rw [if_pos hj] at e; exact .inl ⟨hj, e⟩
          · rw [if_neg hj] at e
            refine .inr ⟨hj, e, ?_⟩
            rw [wipe_get, if_neg (fun z => hj z.1)]
        refine ⟨by rw [backE_length, ← hle]; exact k1.len, ku.fr, fun j d e => ?_, fun j l es e => ?_, fun j es e => ?_, fun j j' l es m fs e1' e2' e3' => ?_, ku.pin, ku.dom, ku.grow, ku.new, ku.rin⟩
        · rcases key e with ⟨_, h⟩ | ⟨_, h, hs⟩
          · obtain ⟨v, q1, q2⟩ := k1.val j d h
            exact ⟨v, q1, Dt.mono s' _ _ q2⟩
          · rw [hs]; exact ku.val j d h
        · rcases key e with ⟨hj, h⟩ | ⟨_, h, hs⟩
          · exact absurd h (noOwn_get hno.1 hj l es)
          · rw [hs]; exact ku.own j l es h
        · rcases key e with ⟨_, h⟩ | ⟨_, h, hs⟩
          · obtain ⟨a, us, q1, q2, q3⟩ := k1.ro j es h
            exact ⟨a, us, q1, q2, Da.mono s' _ _ q3⟩
          · rw [hs]; exact ku.ro j es h
        · rcases key e1' with ⟨hj, h⟩ | ⟨_, h, hs⟩
          · exact absurd h (noOwn_get hno.1 hj l es)
          · rcases key e2' with ⟨hj2, h2⟩ | ⟨_, h2, hs2⟩
            · exact absurd h2 (noOwn_get hno.1 hj2 m fs)
            · rw [hs, hs2] at e3'
              exact ku.sep j j' _ _ _ _ h h2 e3'
      refine q F' H' L accV kb (s1.trans s') hLL f' n3 n2 (fun j l es e z => ?_) da
      obtain ⟨a, us, q1, q2, q3, q4, _⟩ := kb.own j l es e
      rw [z] at q1
      cases q1
      -- L is pinned in the frame of the block, so none of its own lists
      rw [backE_get e1 e2 hle] at e
      by_cases hj : j ∈ vs
      · rw [if_pos hj] at e
        exact noOwn_get hno.1 hj l es e
      · rw [if_neg hj] at e
        obtain ⟨b, us', g1, g2, g3, g4, _⟩ := k'.own j l es e
        rw [wipe_get, if_neg (fun w => hj w.1)] at g1
        rw [z] at g1
        cases g1
        have g4 : upd G.P L (.lst accV) L = none := g4
        rw [upd_same] at g4; cases g4
  · cases e
end
end M

namespace M
open PySem PySem.Spec PyProof.Rows L2

/-! ### the reading that hangs on the mirror alone -/
def cE (K : Frg) (f : Ef) : TE := fun s H Q => ∃ G F env d env', Ok K G F env s H ∧ f env = some (d, env') ∧ ∀ F' H' v, Ok K G F' env' s H' → Same F F' → Dt F' v d → Q v H'
def cB (K : Frg) (f : Bf) : TT := fun s H Q => ∃ G F env d env', Ok K G F env s H ∧ f env = some (d, env') ∧ ∀ F' H', Ok K G F' env' s H' → Same F F' → Q d H'
def cG (K : Frg) (g : Tf) (sl : List Nat) : TG := fun v s H Q => ∃ G F env d env', Ok K G F env s H ∧ Dt F v d ∧ g d env = some env' ∧ ∀ s', Ok K G F env' s' H → (∀ vs : List Nat, (∀ i ∈ sl, i ∈ vs) → wipe s' vs = wipe s vs) → Q s' H
structure XTs (X : Cx) (ifs : List Expr) (c : Bf) : Prop where
  ex : ∃ t, PTs X ifs t ∧ RB X.K t c
section
variable {X : Cx} {e tg : Expr} {f : Ef} {c : Bf} {g : Tf} {sl : List Nat} {K : Frg}
theorem XE.can (h : XE X e f) : PE X e (cE X.K f) := by
  obtain ⟨t, h1, h2⟩ := h.ex
  exact ⟨fun pins s σ H Q I ⟨G, F, env, d, env', k, e, q⟩ => h1.run pins s σ H Q I (h2 G F env σ H d env' k e Q q)⟩
theorem re_can : RE K (cE K f) f := fun G F env s H d env' k e Q q => ⟨G, F, env, d, env', k, e, q⟩
def bYes : Bf := fun env => some (true, env)
theorem xts_nil : XTs X [] bYes := ⟨_, pts_nil, fun G F env s H d env' k e Q q => by cases e; exact q F H k (Same.refl F)⟩
theorem XTs.can {ifs : List Expr} (h : XTs X ifs c) : PTs X ifs (cB X.K c) := by
  obtain ⟨t, h1, h2⟩ := h.ex
  exact ⟨fun pins s σ H Q I ⟨G, F, env, d, env', k, e, q⟩ => h1.run pins s σ H Q I (h2 G F env σ H d env' k e Q q)⟩
theorem rb_can : RB K (cB K c) c := fun G F env s H d env' k e Q q => ⟨G, F, env, d, env', k, e, q⟩
theorem XG.can (h : XG X tg g sl) : PG X tg (cG X.K g sl) := by
  obtain ⟨t, h1, h2⟩ := h.ex
  exact ⟨fun pins s σ H v u Q I r ⟨G, F, env, d, env', k, p, e, q⟩ => h1.run pins s σ H v u Q I r (h2 G F env σ H v d env' k p e Q q)⟩
theorem rg_can : RG K (cG K g sl) g sl := fun G F env s H v d env' k p e Q q => ⟨G, F, env, d, env', k, p, e, q⟩

variable {elt iter : Expr} {ifs : List Expr} {scope : Scope} {own : List (Str × Nat)} {pos spos : Pos} {src : Lf}
/-- the context of a comprehension's block -/
abbrev Blk (X : Cx) (scope : Scope) (s : Shared) (H : Hp) (C : Addr) (cl : List (Str × Addr)) (fp : List Addr) : Cx := X.blk s H scope (compEnvC scope cl C X.env) fp
theorem xn_comp (hi : XI X tg iter src) (hN : X.N.Nodup) (ok : BlkOk X.N X.env.scope scope own) (hg : ∀ s H C cl fp, XG (Blk X scope s H C cl fp) tg g sl) (ht : ∀ s H C cl fp, XTs (Blk X scope s H C cl fp) ifs c) (he : ∀ s H C cl fp, XE (Blk X scope s H C cl fp) elt f)
    (hsl : ∀ i ∈ sl, i ∈ own.map (·.2) := by decide) (hc : X.calm = true := by rfl) (hs : ∀ x, foldedSetIterable iter X.env x = pure x := by intro _; rfl) : XN X (.ListComp elt [⟨tg, iter, ifs, 0⟩] scope pos) (lComp src (own.map (·.2)) g c f) := by
  obtain ⟨wi, p1, q1⟩ := hi.ex
  exact ⟨_, pe_lc hc hN p1 ok (fun s H C cl fp => (hg s H C cl fp).can) (fun s H C cl fp => (ht s H C cl fp).can) (fun s H C cl fp => (he s H C cl fp).can) hs, rn_comp q1 rg_can rb_can re_can hsl⟩
end

/-! ### a def -/
def fnRun (n np : Nat) (f : Sf) : Gf := fun args => if args.length = np then match f (args ++ List.replicate (n - np) .no) with
  | some (.nx env) => some (.none, env.take np)
  | some (.rt d env) => some (d, env.take np)
  | some (.rn ds env) => some (.list ds, env.take np)
  | some (.rp as ds env) => some (.tuple (as ++ [.list ds]), env.take np)
  | none => none
  else none
abbrev Hf := List Sl → Option (List D × List Sl)
/-- a def that hands back a new list -/
def fnNew (n np : Nat) (f : Sf) : Hf := fun args => if args.length = np then match f (args ++ List.replicate (n - np) .no) with
  | some (.rn ds env) => some (ds, env.take np)
  | _ => none
  else none
structure PostN (F H F' H' : Hp) (args args' : List Sl) (vs : List V) (p : Addr) (us : List V) (ds : List D) : Prop where
  keep : Same (minus H args vs) H'
  dom : ∀ a, H' a = none → H a = none
  grow : Same F F'
  fr : Same F' H'
  new : ∀ a o, F' a = some o → F a = some o ∨ H a = none
  at_ : H' p = some (.lst us)
  nf : F' p = none
  fresh : H p = none
  res : Da F' us ds
  own : ∀ (i : Nat) l ds, args[i]? = some (.own l ds) → ∀ ds', args'[i]? = some (.own false ds') → ∀ a, vs[i]? = some (.ref a) → ∃ us, H' a = some (.lst us) ∧ F' a = none ∧ Da F' us ds'
def spN (K : Frg) (g : Hf) : Sp := fun vs H Q _ => ∃ F args ds args', g args = some (ds, args') ∧ Same F H ∧ ArgsOk K F H args vs ∧ ∀ F' H' p us, PostN F H F' H' args args' vs p us ds → Q (.ref p) H'
def lCall (g : Hf) (fa : Af) : Lf := fun env => (fa env).bind fun r =>
  match rSlots r.1 with
  | [] => (resArs r.2 r.1).bind fun args => (g args).map fun q => (q.1, r.2)
  | [i] => if (oSlots r.1).contains i then none else (resArs r.2 r.1).bind fun args => (g args).bind fun q => (backAr r.2 r.1 q.2).map fun env' => (q.1, env')
  | _ => none
theorem rn_call {K : Frg} {g : Hf} {fa : Af} {t : TA} {E : XK} (ha : RA K t fa) : RN K (tCall (spN K g) [] E t) (lCall g fa) := fun G F env s H d env' k e Q q => by
  unfold lCall at e
  obtain ⟨⟨as, e1⟩, h1, e⟩ := Option.bind_eq_some_iff.mp e
  refine ha G F env s H as e1 k h1 _ fun F1 H1 vs k1 s1 p1 => ?_
  rw [List.append_nil]
  dsimp only at e
  -- the post in the other one's words, the list left out
  have po0 : ∀ {args args' : List Sl} {F' H' : Hp} {p : Addr} {us : List V} {ds : List D}, PostN F1 H1 F' H' args args' vs p us ds → Post F1 H1 F' H' args args' vs .non .none := fun po => ⟨po.keep, po.dom, po.grow, po.fr, po.new, .non, po.own⟩
  have noP : ∀ {args args' : List Sl} {F' H' : Hp} {p : Addr} {us : List V} {ds : List D}, PostN F1 H1 F' H' args args' vs p us ds → G.H0 p = none ∧ G.P p = none := fun po => ⟨k1.dom _ po.fresh, k1.pin.free po.fresh⟩
  -- none of the caller's own lists
  have no : ∀ {args args' : List Sl} {F' H' : Hp} {p : Addr} {us : List V} {ds : List D} {env2 : En}, PostN F1 H1 F' H' args args' vs p us ds → (∀ (j : Nat) l es, env2[j]? = some (.own l es) → ∃ fs, e1[j]? = some (.own l fs)) → ∀ (j : Nat) l es, env2[j]? = some (.own l es) → s[j]? ≠ some (some (.ref p)) := fun po bk j l es e z => by
    obtain ⟨fs, e2⟩ := bk j l es e
    exact k1.notown po.fresh j l fs e2 z
  split at e
  · rename_i hrs
    obtain ⟨args, h2, e⟩ := Option.bind_eq_some_iff.mp e
    obtain ⟨⟨d', args'⟩, h3, e⟩ := Option.map_eq_some_iff.mp e
    cases e
    refine ⟨F1, args, d', args', h3, k1.fr, args_ok k1 p1 h2 (by rw [hrs]; intro i hi; cases hi) (by rw [hrs]; intro i hi; cases hi), fun F' H' p us po => ?_⟩
    exact q F' H' p us (ok_after k1 p1 h2 (po0 po) rfl (fun j => .inl rfl) (by rw [hrs]; intro i hi; cases hi)) (s1.trans po.grow) po.at_ po.nf (noP po).1 (noP po).2 (no po fun j l es e => ⟨es, e⟩) po.res
  · rename_i i hrs
    split at e
    · cases e
    · rename_i hc
      obtain ⟨args, h2, e⟩ := Option.bind_eq_some_iff.mp e
      obtain ⟨⟨d', args'⟩, h3, e⟩ := Option.bind_eq_some_iff.mp e
      obtain ⟨env2, h4, e⟩ := Option.map_eq_some_iff.mp e
      cases e
      obtain ⟨j, l, ds, es, g1, g2, g3, g4⟩ := backAr_one hrs h4
      subst g4
      have hil : i < e1.length := (List.getElem?_eq_some_iff.mp g3).1
      refine ⟨F1, args, d', args', h3, k1.fr, args_ok k1 p1 h2 (by rw [hrs]; intro i' hi'; simp at hi'; subst hi'; intro hm; apply hc; simp [hm]) (by rw [hrs]; intro i' hi' j1 j2 q1 q2; simp at hi'; subst hi'; exact rSlots_one hrs j1 j2 q1 q2), fun F' H' p us po => ?_⟩
      refine q F' H' p us (ok_after k1 p1 h2 (po0 po) (by simp) (fun j' => ?_) ?_) (s1.trans po.grow) po.at_ po.nf (noP po).1 (noP po).2 (no po fun j' l' es' e' => ?_) po.res
      · by_cases hj : i = j'
        · subst hj
          exact .inr ⟨j, l, ds, es, g1, g2, g3, by rw [List.getElem?_set_self hil]⟩
        · exact .inl (List.getElem?_set_ne hj)
      · rw [hrs]
        intro i' hi' j' _
        simp at hi'
        subst hi'
        exact ⟨j, l, ds, g2, g1, by rw [List.getElem?_set_self hil]⟩
      · rcases set_get e' with ⟨rfl, _, z⟩ | ⟨_, z⟩
        · cases z; exact ⟨_, g3⟩
        · exact ⟨_, z⟩
  · cases e
section
variable {X : Cx} {k : Nat} {fx : Addr} {fd : FuncData} {ps : List Str} {x : Str} {p pos : Pos} {e : Expr} {es : List Expr} {fa : Af} {g : Hf}
theorem xn_call (FF : FnOk X.prog X.w X.K X.mg X.base CX0 k fx fd ps (spN X.K g)) (hr : Room k X.A) (hm : X.mg x = some (.ref fx)) (hk : PySem.W.keepIn X.K (.ref fx) = true) (hb : Binds X.K fd ps []) (ha : XA X (e :: es) fa) (hg : Gl X x := by rfl)
    (hdb : (x == ("__debug__" : Str)) = false := by decide) (he : starEach (e :: es) X.env = (false, eval e X.env) :: starEach es X.env := by rfl) (hpl : (backTo pos (starEach es X.env)).any (·.1) = false := by rfl) :
    XN X (.Call (.Name x p) (e :: es) [] pos) (lCall g fa) :=
  let ⟨_, h1, h2⟩ := ha.ex; ⟨_, pe_call FF hr hg hm hk hb .nil pass0 h1 hdb he hpl, rn_call h2⟩
end
theorem start_get {N : List Str} {vs : List V} {i : Nat} {v : V} (h : vs[i]? = some v) : (L2.start N vs)[i]? = some (some v) := by
  have hi : i < vs.length := (List.getElem?_eq_some_iff.mp h).1
  unfold L2.start
  rw [List.getElem?_append_left (by simpa using hi), List.getElem?_map, h]
  rfl
theorem app_get {args : List Sl} {m : Nat} {i : Nat} {x : Sl} (h : (args ++ List.replicate m .no)[i]? = some x) (hx : x ≠ .no) : args[i]? = some x := by
  by_cases hi : i < args.length
  · rw [List.getElem?_append_left hi] at h; exact h
  · rw [List.getElem?_append_right (by omega), List.getElem?_replicate] at h
    split at h
    · cases h; exact absurd rfl hx
    · cases h
theorem ok_start {K : Frg} {F H : Hp} {args : List Sl} {vs : List V} {N ps : List Str} (hl : ps.length = args.length) (hN : ps.length ≤ N.length) (fr : Same F H) (a : ArgsOk K F H args vs) :
    Ok K ⟨F, H, minus H args vs, minus H args vs, L2.start N vs⟩ F (args ++ List.replicate (N.length - ps.length) .no) (L2.start N vs) H where
  len := by unfold L2.start; simp only [List.length_append, List.length_map, List.length_replicate]; have := a.len; omega
  fr := fr
  val := fun i d e => by
    obtain ⟨v, h1, h2⟩ := a.val i d (app_get e (by simp))
    exact ⟨v, start_get h1, h2⟩
  own := fun i l ds e => by
    have e' := app_get e (by simp)
    obtain ⟨rfl, p, us, h1, h2, h3, h4⟩ := a.own i l ds e'
    refine ⟨p, us, start_get h1, h2, h3, ?_, h4, fun z => (by cases z), fun _ => start_get h1⟩
    show minus H args vs p = none
    unfold minus
    exact if_pos ⟨i, _, _, e', h1⟩
  ro := fun i ds e => by
    obtain ⟨p, us, h1, h2, h3⟩ := a.ro i ds (app_get e (by simp))
    exact ⟨p, us, start_get h1, h2, h3⟩
  sep := fun i j l ds m es e1 e2 e3 => by
    have e1' := app_get e1 (by simp)
    have e2' := app_get e2 (by simp)
    obtain ⟨_, p, us, h1, _⟩ := a.own i l ds e1'
    obtain ⟨_, q, us', h2, _⟩ := a.own j m es e2'
    rw [start_get h1, start_get h2] at e3
    exact a.sep i j _ _ _ _ e1' e2' (by rw [h1, h2]; exact Option.some.inj e3)
  pin := fun x o e => (minus_of e).1
  dom := fun x e => e
  grow := Same.refl F
  new := fun x o e => .inl e
  rin := Same.refl _
theorem post_of {K : Frg} {F F' H H' : Hp} {args : List Sl} {vs : List V} {N : List Str} {env : En} {s : L2.St} {v : V} {d : D} {np : Nat} (a : ArgsOk K F H args vs) (hl : np = args.length) (k : Ok K ⟨F, H, minus H args vs, minus H args vs, L2.start N vs⟩ F' env s H') (p : Dt F' v d) : Post F H F' H' args (env.take np) vs v d where
  keep := k.pin
  dom := k.dom
  grow := k.grow
  fr := k.fr
  new := k.new
  res := p
  own := fun i l ds e ds' e' q hq => by
    have e2 : env[i]? = some (.own false ds') := by
      rw [List.getElem?_take] at e'
      split at e'
      · exact e'
      · cases e'
    obtain ⟨b, us, h1, h2, h3, _, h4, _, h5⟩ := k.own i false ds' e2
    have h6 : (L2.start N vs)[i]? = some (some (.ref b)) := h5 rfl
    rw [start_get hq] at h6
    cases h6
    exact ⟨us, h2, h3, h4⟩
section
variable {P : Program} {w : World} {K : Frg} {mg : Str → Option Value} {base : Heap}
theorem fn_ok {x qual : Str} {st : Stmt} {f : Addr} {fd : FuncData} {N ps : List Str} {k : Nat} {fb : Sf} (F : Fun K x qual st f fd) (S : FnScope N ps (defScope st))
    (hbody : ∀ (cdv : Value) (A : Around) (outer : List Env) (s : Shared) (H : Hp) (E : XK), Room k (A.deeper (envOfC qual (defScope st) s.heap.objs.size f cdv)) →
      XSs (cxOf CX0 P w K mg base N qual (defScope st) f cdv A outer s H E).nox (defBody st) fb) : FnOk P w K mg base CX0 (k + 1) f fd ps (spF K (fnRun N.length ps.length fb)) := by
  refine F.ok S (fun vs H Q E h => ?_) (fun cdv A outer s H vs Q E hr h => ?_)
  · obtain ⟨Fz, args, d, args', hg, fr, a, _⟩ := h
    unfold fnRun at hg
    split at hg
    · rename_i hl
      rw [a.len, hl]
    · cases hg
  · obtain ⟨Fz, args, d, args', hg, fr, a, q⟩ := h
    obtain ⟨t, h1, h2⟩ := (hbody cdv A outer s H E hr).ex
    refine ⟨t, h1, ?_⟩
    have hpl : ps.length ≤ N.length := by have := congrArg List.length S.pre; rw [List.length_take] at this; omega
    unfold fnRun at hg
    split at hg
    · rename_i hl
      have k0 := ok_start hl.symm hpl fr a
      split at hg
      · rename_i env he
        cases hg
        refine h2 _ Fz _ _ H _ k0 he _ ?_
        exact fun F' s' H' k' s1 => q F' H' .non (post_of a hl.symm k' .non)
      · rename_i d' env he
        cases hg
        refine h2 _ Fz _ _ H _ k0 he _ ?_
        exact fun F' s' H' v k' s1 p => q F' H' v (post_of a hl.symm k' p)
      · rename_i ds env he
        cases hg
        refine h2 _ Fz _ _ H _ k0 he _ ?_
        intro F' s' H' p us k' s1 g1 g2 g3 g4 g5 g6
        exact q _ H' (.ref p) (post_of a hl.symm (k'.freeze g1 g2 g3 g5) (.lst upd_same (Da.mono (same_upd g2) _ _ g6)))
      · rename_i as ds env he
        cases hg
        refine h2 _ Fz _ _ H _ k0 he _ ?_
        intro F' s' H' t p ws us k' s1 n
        obtain ⟨F2, k2, s2, pd, _⟩ := n.frz k'
        exact q F2 H' (.ref t) (post_of a hl.symm k2 pd)
      · cases hg
    · cases hg
theorem fn_new {x qual : Str} {st : Stmt} {f : Addr} {fd : FuncData} {N ps : List Str} {k : Nat} {fb : Sf} (F : Fun K x qual st f fd) (S : FnScope N ps (defScope st))
    (hbody : ∀ (cdv : Value) (A : Around) (outer : List Env) (s : Shared) (H : Hp) (E : XK), Room k (A.deeper (envOfC qual (defScope st) s.heap.objs.size f cdv)) →
      XSs (cxOf CX0 P w K mg base N qual (defScope st) f cdv A outer s H E).nox (defBody st) fb) : FnOk P w K mg base CX0 (k + 1) f fd ps (spN K (fnNew N.length ps.length fb)) := by
  refine F.ok S (fun vs H Q E h => ?_) (fun cdv A outer s H vs Q E hr h => ?_)
  · obtain ⟨Fz, args, d, args', hg, fr, a, _⟩ := h
    unfold fnNew at hg
    split at hg
    · rename_i hl
      rw [a.len, hl]
    · cases hg
  · obtain ⟨Fz, args, d, args', hg, fr, a, q⟩ := h
    obtain ⟨t, h1, h2⟩ := (hbody cdv A outer s H E hr).ex
    refine ⟨t, h1, ?_⟩
    have hpl : ps.length ≤ N.length := by have := congrArg List.length S.pre; rw [List.length_take] at this; omega
    unfold fnNew at hg
    split at hg
    · rename_i hl
      have k0 := ok_start hl.symm hpl fr a
      split at hg
      · rename_i ds env he
        cases hg
        refine h2 _ Fz _ _ H _ k0 he _ ?_
        intro F' s' H' p us k' s1 g1 g2 g3 g4 g5 g6
        have po := post_of (v := .non) (d := .none) a hl.symm k' .non
        exact q F' H' p us ⟨po.keep, po.dom, po.grow, po.fr, po.new, g1, g2, g3, g6, po.own⟩
      · cases hg
    · cases hg
end
end M

namespace M
open PySem PySem.Spec PyProof.Rows L2
section
variable {X : Cx} {e a b : Expr} {f fa fb : Ef} {p pos : Pos} {K : Frg}

/-! ### built-ins of one argument -/
def gLen : D → Option D
  | .list ds => some (.int (ds.length : Int))
  | .tuple ds => some (.int (ds.length : Int))
  | .str x => if fits x.length then some (.int (x.length : Int)) else none
  | _ => none
def rLen (K : Frg) : List V → Hp → VK → Prop := fun xs H Q => ∃ x n, xs = [x] ∧ LenV K x H n ∧ Q (.int n) H
theorem gc_len : GC K (rLen K) gLen := by
  intro G F env s H x d z k h1 h3 Q q
  unfold gLen at h3
  split at h3
  · cases h3
    obtain ⟨p, vs, rfl, h4, h5⟩ := h1.list k.fr
    refine ⟨_, vs.length, rfl, .inl ⟨vs, h4, rfl⟩, ?_⟩
    rw [h5.length]
    exact q F H _ k (Same.refl F) (.int _)
  · cases h3
    obtain ⟨p, vs, rfl, h4, _, h5⟩ := h1.tup k.fr
    refine ⟨_, vs.length, rfl, .inr ⟨vs, SqT.of h4, rfl⟩, ?_⟩
    rw [h5.length]
    exact q F H _ k (Same.refl F) (.int _)
  · split at h3
    · rename_i hf
      cases h3
      cases h1.str
      exact ⟨_, _, rfl, ⟨fits_line hf, rfl⟩, q F H _ k (Same.refl F) (.int _)⟩
    · cases h3
  · cases h3
theorem xe_len (hm : X.mg "len" = none) (ha : XO X e f) (hg : Gl X "len" := by rfl) (he : starEach [e] X.env = (false, eval e X.env) :: starEach [] X.env := by rfl) (hpl : (backTo pos (starEach [] X.env)).any (·.1) = false := by rfl) : XE X (.Call (.Name "len" p) [e] [] pos) (eUn gLen f) :=
  xe_cbB call_len PySem.boot_len gc_len hm ha hg (by decide) (by decide) he hpl
def gAbs : D → Option D
  | .int i => some (.int (if i < 0 then -i else i))
  | _ => none
theorem gc_abs : GC K (fun xs H Q => ∃ i, xs = [.int i] ∧ Q (.int (if i < 0 then -i else i)) H) gAbs := by
  intro G F env s H x d z k h1 h3 Q q
  unfold gAbs at h3
  split at h3
  · cases h3; cases h1.int
    exact ⟨_, rfl, q F H _ k (Same.refl F) (.int _)⟩
  · cases h3
theorem xe_abs (hm : X.mg "abs" = none) (ha : XO X e f) (hg : Gl X "abs" := by rfl) (he : starEach [e] X.env = (false, eval e X.env) :: starEach [] X.env := by rfl) (hpl : (backTo pos (starEach [] X.env)).any (·.1) = false := by rfl) : XE X (.Call (.Name "abs" p) [e] [] pos) (eUn gAbs f) :=
  xe_cbB call_abs boot_abs gc_abs hm ha hg (by decide) (by decide) he hpl
def gInt : D → Option D
  | .int i => some (.int i)
  | .bool k => some (.int (if k then 1 else 0))
  | _ => none
def gList : D → Option (List D)
  | .list ds => some ds
  | .tuple ds => some ds
  | _ => none
theorem gc_list : GCN K (fun xs H Q => ∃ p ys, xs = [.ref p] ∧ (SqL K H p ys ∨ SqT K H p ys) ∧ ∀ l, H l = none → Q (.ref l) (upd H l (.lst ys))) gList := by
  intro G F env s H x d z k h1 h3 Q q
  unfold gList at h3
  split at h3
  · cases h3
    obtain ⟨p, vs, rfl, h4, h5⟩ := h1.list k.fr
    exact ⟨p, vs, rfl, .inl h4, fun l hl => q F _ l vs (k.laid hl) (Same.refl F) upd_same (k.fr.free hl) (k.dom l hl) (k.pin.free hl) (k.notown hl) h5⟩
  · cases h3
    obtain ⟨p, vs, rfl, h4, _, h5⟩ := h1.tup k.fr
    exact ⟨p, vs, rfl, .inr (SqT.of h4), fun l hl => q F _ l vs (k.laid hl) (Same.refl F) upd_same (k.fr.free hl) (k.dom l hl) (k.pin.free hl) (k.notown hl) h5⟩
  · cases h3
theorem xn_list (hm : X.mg "list" = none) (ha : XO X e f) (hg : Gl X "list" := by rfl) (he : starEach [e] X.env = (false, eval e X.env) :: starEach [] X.env := by rfl) (hpl : (backTo pos (starEach [] X.env)).any (·.1) = false := by rfl) : XN X (.Call (.Name "list" p) [e] [] pos) (lUn gList f) :=
  xn_cbT call_list_of boot_list gc_list hm ha hg (by decide) (by decide) he hpl
def gTuple : D → Option D
  | .list ds => some (.tuple ds)
  | .tuple ds => some (.tuple ds)
  | _ => none
theorem gc_tuple : GC K (fun xs H Q => ∃ p ys, xs = [.ref p] ∧ ((SqL K H p ys ∧ ∀ l, H l = none → Q (.ref l) (upd H l (.tup ys))) ∨ (SqT K H p ys ∧ Q (.ref p) H))) gTuple := by
  intro G F env s H x d z k h1 h3 Q q
  unfold gTuple at h3
  split at h3
  · cases h3
    obtain ⟨p, vs, rfl, h4, h5⟩ := h1.list k.fr
    exact ⟨p, vs, rfl, .inl ⟨h4, fun l hl => q _ _ _ (k.alloc hl) (same_upd (k.fr.free hl)) (.tup upd_same (Da.mono (same_upd (k.fr.free hl)) _ _ h5))⟩⟩
  · cases h3
    obtain ⟨p, vs, rfl, h4, h6, h5⟩ := h1.tup k.fr
    exact ⟨p, vs, rfl, .inr ⟨SqT.of h4, q F H _ k (Same.refl F) (.tup h6 h5)⟩⟩
  · cases h3
theorem xe_tuple (hm : X.mg "tuple" = none) (ha : XO X e f) (hg : Gl X "tuple" := by rfl) (he : starEach [e] X.env = (false, eval e X.env) :: starEach [] X.env := by rfl) (hpl : (backTo pos (starEach [] X.env)).any (·.1) = false := by rfl) : XE X (.Call (.Name "tuple" p) [e] [] pos) (eUn gTuple f) :=
  xe_cbT call_tuple_of boot_tuple gc_tuple hm ha hg (by decide) (by decide) he hpl
/-! whole numbers, truths in a list -/
def intsOf : List D → Option (List Int)
  | [] => some []
  | .int i :: ds => (intsOf ds).map fun r => i :: r
  | _ :: _ => none
def blsOf : List D → Option (List Bool)
  | [] => some []
  | .bool i :: ds => (blsOf ds).map fun r => i :: r
  | _ :: _ => none
theorem intsOf_some : ∀ {ds : List D} {ns : List Int}, intsOf ds = some ns → ds = ns.map .int
  | [], _, h => by cases h; rfl
  | .int i :: ds, ns, h => by
    unfold intsOf at h
    obtain ⟨r, h1, h⟩ := Option.map_eq_some_iff.mp h
    subst h
    rw [intsOf_some h1]; rfl
  | .none :: _, _, h => by cases h
  | .bool _ :: _, _, h => by cases h
  | .str _ :: _, _, h => by cases h
  | .list _ :: _, _, h => by cases h
  | .tuple _ :: _, _, h => by cases h
  | .dict _ :: _, _, h => by cases h
theorem blsOf_some : ∀ {ds : List D} {ns : List Bool}, blsOf ds = some ns → ds = ns.map .bool
  | [], _, h => by cases h; rfl
  | .bool i :: ds, ns, h => by
    unfold blsOf at h
    obtain ⟨r, h1, h⟩ := Option.map_eq_some_iff.mp h
    subst h
    rw [blsOf_some h1]; rfl
  | .none :: _, _, h => by cases h
  | .int _ :: _, _, h => by cases h
  | .str _ :: _, _, h => by cases h
  | .list _ :: _, _, h => by cases h
  | .tuple _ :: _, _, h => by cases h
  | .dict _ :: _, _, h => by cases h
theorem intsOf_map : ∀ ns : List Int, intsOf (ns.map .int) = some ns
  | [] => rfl
  | n :: ns => by show (intsOf (ns.map .int)).map _ = _; rw [intsOf_map ns]; rfl
theorem blsOf_map : ∀ ns : List Bool, blsOf (ns.map .bool) = some ns
  | [] => rfl
  | n :: ns => by show (blsOf (ns.map .bool)).map _ = _; rw [blsOf_map ns]; rfl
theorem Da.bls {F : Hp} : ∀ {ns : List Bool} {vs : List V}, Da F vs (ns.map .bool) → vs = ns.map V.bl
  | [], _, r => by cases r; rfl
  | n :: ns, _, r => by
    cases r with
    | cons a b => cases a; rw [Da.bls b]; rfl
theorem Da.irs {F : Hp} : ∀ {ns : List Int} {vs : List V}, Da F vs (ns.map .int) → vs = ns.map V.int
  | [], _, r => by cases r; rfl
  | n :: ns, _, r => by
    cases r with
    | cons a b => cases a; rw [Da.irs b]; rfl
def gSum : D → Option D
  | .list ds => (intsOf ds).map fun ns => .int ns.sum
  | _ => none
theorem gc_sum : GC K (rSum K) gSum := by
  intro G F env s H x d z k h1 h3 Q q
  unfold gSum at h3
  split at h3
  · obtain ⟨ns, h4, h5⟩ := Option.map_eq_some_iff.mp h3
    cases h5
    obtain ⟨p, vs, rfl, h6, h7⟩ := h1.list k.fr
    rw [intsOf_some h4] at h7
    rw [h7.irs] at h6
    exact ⟨p, ns, rfl, h6, q F H _ k (Same.refl F) (.int _)⟩
  · cases h3
theorem xe_sum (hm : X.mg "sum" = none) (ha : XO X e f) (hc : X.calm = true := by rfl) (hg : Gl X "sum" := by rfl) (he : starEach [e] X.env = (false, eval e X.env) :: starEach [] X.env := by rfl) (hpl : (backTo pos (starEach [] X.env)).any (·.1) = false := by rfl) : XE X (.Call (.Name "sum" p) [e] [] pos) (eUn gSum f) :=
  xe_cbB (cr_sum hc) boot_sum gc_sum hm ha hg (by decide) (by decide) he hpl
def gAll : D → Option D
  | .list ds => (blsOf ds).map fun ns => .bool (ns.all id)
  | _ => none
def gAny : D → Option D
  | .list ds => (blsOf ds).map fun ns => .bool (ns.any id)
  | _ => none
theorem gc_all : GC K (rAll K) gAll := by
  intro G F env s H x d z k h1 h3 Q q
  unfold gAll at h3
  split at h3
  · obtain ⟨ns, h4, h5⟩ := Option.map_eq_some_iff.mp h3
    cases h5
    obtain ⟨p, vs, rfl, h6, h7⟩ := h1.list k.fr
    rw [blsOf_some h4] at h7
    rw [h7.bls] at h6
    exact ⟨p, ns, rfl, h6, q F H _ k (Same.refl F) (.bl _)⟩
  · cases h3
theorem xe_all (hm : X.mg "all" = none) (ha : XO X e f) (hc : X.calm = true := by rfl) (hg : Gl X "all" := by rfl) (he : starEach [e] X.env = (false, eval e X.env) :: starEach [] X.env := by rfl) (hpl : (backTo pos (starEach [] X.env)).any (·.1) = false := by rfl) : XE X (.Call (.Name "all" p) [e] [] pos) (eUn gAll f) :=
  xe_cbB (cr_all hc) boot_all gc_all hm ha hg (by decide) (by decide) he hpl
/-! of two -/
def gMax2 : D → D → Option D
  | .int i, .int j => some (.int (if j > i then j else i))
  | _, _ => none
def gMin2 : D → D → Option D
  | .int i, .int j => some (.int (if j < i then j else i))
  | _, _ => none
theorem gc_max2 : GC2 K (fun xs H Q => ∃ i j, xs = [.int i, .int j] ∧ Q (.int (if j > i then j else i)) H) gMax2 := by
  intro G F env s H x y d e z k h1 h2 h3 Q q
  unfold gMax2 at h3
  split at h3
  · cases h3; cases h1; cases h2
    exact ⟨_, _, rfl, q F H _ k (Same.refl F) (.int _)⟩
  · cases h3
theorem xe_max2 (hm : X.mg "max" = none) (ha : XE X a fa) (hb : XE X b fb) (hc : X.calm = true := by rfl) (hg : Gl X "max" := by rfl) (he : starEach [a, b] X.env = (false, eval a X.env) :: starEach [b] X.env := by rfl) (he2 : starEach [b] X.env = (false, eval b X.env) :: starEach [] X.env := by rfl) (hpl : (backTo pos (starEach [b] X.env)).any (·.1) = false := by rfl) : XE X (.Call (.Name "max" p) [a, b] [] pos) (eBin gMax2 fa fb) :=
  xe_cb2 (call_max2 hc) boot_max gc_max2 hm ha hb hg (by decide) (by decide) he he2 hpl
/-! isinstance -/
inductive Ty where
  | int | bool | str | lst | tup
def Ty.nm : Ty → String
  | .int => "int" | .bool => "bool" | .str => "str" | .lst => "list" | .tup => "tuple"
def isi : Ty → D → Option Bool
  | _, .dict _ => none
  | .int, .int _ => some true
  | .int, .bool _ => some true
  | .int, _ => some false
  | .bool, .bool _ => some true
  | .bool, _ => some false
  | .str, .str _ => some true
  | .str, _ => some false
  | .lst, .list _ => some true
  | .lst, _ => some false
  | .tup, .tuple _ => some true
  | .tup, _ => some false
def tyD : D → String
  | .none => "NoneType" | .bool _ => "bool" | .int _ => "int" | .str _ => "str" | .list _ => "list" | .tuple _ => "tuple" | .dict _ => "dict"
theorem isi_kit {T : Ty} {d : D} {b : Bool} (h : isi T d = some b) : kitB (tyD d) T.nm = some b := by
  cases T <;> cases d <;> cases h <;> simp only [tyD, Ty.nm] <;> decide +kernel
theorem ty_of {G : Gm} {F : Hp} {env : En} {s : L2.St} {H : Hp} {d : D} {v : V} (k : Ok K G F env s H) (h : Dt F v d) : TyX K H v (.type (tyD d)) := by
  cases h with
  | non => exact .base .non
  | bl b => exact .base (.bl b)
  | int i => exact .base (.int i)
  | str x => exact .base (.str x)
  | lst a b => exact .base (.lst (k.fr _ _ a))
  | tup a b => exact .base (.tup (k.fr _ _ a))
def gIsi (T : Ty) (d : D) : Option D := (isi T d).map .bool
theorem xe_isi {p2 : Pos} (T : Ty) {y : Str} (hv : bootBuiltins y = some (.type T.nm)) (hm : X.mg "isinstance" = none) (hmy : X.mg y = none) (ha : XE X e f) (hgy : Gl X y := by rfl) (hg : Gl X "isinstance" := by rfl) (hn : y ≠ "__name__" := by decide) (hdb : (y == ("__debug__" : Str)) = false := by decide)
    (he : starEach [e, .Name y p2] X.env = (false, eval e X.env) :: starEach [.Name y p2] X.env := by rfl) (he2 : starEach [.Name y p2] X.env = (false, eval (.Name y p2) X.env) :: starEach [] X.env := by rfl) (hpl : (backTo pos (starEach [.Name y p2] X.env)).any (·.1) = false := by rfl) :
    XE X (.Call (.Name "isinstance" p) [e, .Name y p2] [] pos) (eUn (gIsi T) f) := by
  obtain ⟨t, h1, h2⟩ := ha.ex
  refine ⟨_, pe_callB call_isi hg hm boot_isinstance (pa_cons h1 (pa_cons (pe_bltn (v := .ty T.nm) hgy hmy hv rfl hn hdb) pa_nil he2) he) (by decide) (by decide) he hpl, fun G F env s H d env' k e Q q => ?_⟩
  obtain ⟨d1, h3, h4⟩ := un_some e
  unfold gIsi at h4
  obtain ⟨b, h5, h6⟩ := Option.map_eq_some_iff.mp h4
  cases h6
  refine h2 G F env s H d1 env' k h3 _ fun F1 H1 v1 k1 s1 p1 => ?_
  exact ⟨v1, .ty T.nm, _, _, b, rfl, .ty _, ty_of k1 p1, kit_ty (isi_kit h5), q F1 H1 _ k1 s1 (.bl _)⟩

/-! ### in, not in -/
def flatD : D → Bool
  | .none => true
  | .bool _ => true
  | .int _ => true
  | .str _ => true
  | _ => false
end
/-! ### is None -/
def isNone : D → Bool
  | .none => true
  | _ => false
def gIsN : D → D → Option D
  | d, .none => some (.bool (isNone d))
  | _, _ => none
def gNtN : D → D → Option D
  | d, .none => some (.bool (!isNone d))
  | _, _ => none
end M

namespace M
open PySem PySem.Spec PyProof.Rows L2
def FU : Nat := 10 ^ 300
theorem da_irs {F : Hp} : ∀ ns : List Int, Da F (ns.map V.int) (ns.map .int)
  | [] => .nil
  | n :: ns => .cons (.int n) (da_irs ns)
theorem law_sp {K : Frg} {H : Hp} {a : Addr} {ns : List Int} {g : Gf} (hS : SqL K H a (ns.map V.int)) (h : ∃ args', g [.ro (ns.map .int)] = some (.bool true, args')) :
    spF K g [.ref a] H (fun v _ => v = .bl true) fun _ _ _ => False := by
  obtain ⟨args', h⟩ := h
  have hm : minus H [.ro (ns.map .int)] [.ref a] = H := by
    funext b
    unfold minus
    rw [if_neg]
    rintro ⟨j, l, es, h1, _⟩
    cases j with
    | zero => cases h1
    | succ j => simp at h1
  refine ⟨fun _ => none, _, _, args', h, fun b o e => (by cases e), ⟨rfl, fun i d e => ?_, fun i l ds e => ?_, fun i ds e => ?_, fun i j l ds m es e1 e2 e3 => ?_⟩, fun F' H' v po => ?_⟩
  · cases i with
    | zero => cases e
    | succ j => simp at e
  · cases i with
    | zero => cases e
    | succ j => simp at e
  · cases i with
    | zero =>
      cases e
      exact ⟨a, _, rfl, by rw [hm]; exact hS, da_irs ns⟩
    | succ j => simp at e
  · cases i with
    | zero => cases e1
    | succ j => simp at e1
  · have := po.res
    cases this
    rfl
theorem fn_okE {P : Program} {w : World} {K : Frg} {mg : Str → Option Value} {base : Heap} {x qual : Str} {st : Stmt} {f : Addr} {fd : FuncData} {N ps : List Str} {k : Nat} {g : Gf} (fb : Sf) (n np : Nat) (F : Fun K x qual st f fd) (S : FnScope N ps (defScope st))
    (hn : N.length = n) (hp : ps.length = np) (hg : g = fnRun n np fb)
    (hbody : ∀ (cdv : Value) (A : Around) (outer : List Env) (s : Shared) (H : Hp) (E : XK), Room k (A.deeper (envOfC qual (defScope st) s.heap.objs.size f cdv)) →
      XSs (cxOf CX0 P w K mg base N qual (defScope st) f cdv A outer s H E).nox (defBody st) fb) : FnOk P w K mg base CX0 (k + 1) f fd ps (spF K g) := by
  subst hn hp hg
  exact fn_ok F S hbody
theorem fn_newE {P : Program} {w : World} {K : Frg} {mg : Str → Option Value} {base : Heap} {x qual : Str} {st : Stmt} {f : Addr} {fd : FuncData} {N ps : List Str} {k : Nat} {g : Hf} (fb : Sf) (n np : Nat) (F : Fun K x qual st f fd) (S : FnScope N ps (defScope st))
    (hn : N.length = n) (hp : ps.length = np) (hg : g = fnNew n np fb)
    (hbody : ∀ (cdv : Value) (A : Around) (outer : List Env) (s : Shared) (H : Hp) (E : XK), Room k (A.deeper (envOfC qual (defScope st) s.heap.objs.size f cdv)) →
      XSs (cxOf CX0 P w K mg base N qual (defScope st) f cdv A outer s H E).nox (defBody st) fb) : FnOk P w K mg base CX0 (k + 1) f fd ps (spN K g) := by
  subst hn hp hg
  exact fn_new F S hbody
end M

/-! the least that must hold ahead: rules to reason about the mirrors, no program in sight -/
namespace M
open PySem PySem.Spec PyProof.Rows L2
def WO {α : Type} (o : Option α) (Q : α → Prop) : Prop := ∃ x, o = some x ∧ Q x
def WE (f : Ef) (env : En) (Q : D → En → Prop) : Prop := ∃ d e, f env = some (d, e) ∧ Q d e
def WL (f : Lf) (env : En) (Q : List D → En → Prop) : Prop := ∃ d e, f env = some (d, e) ∧ Q d e
def WB (f : Bf) (env : En) (Q : Bool → En → Prop) : Prop := ∃ d e, f env = some (d, e) ∧ Q d e
def WA (f : Af) (env : En) (Q : List Ar → En → Prop) : Prop := ∃ d e, f env = some (d, e) ∧ Q d e
def WP (f : Pf) (env : En) (Q : Option Int → En → Prop) : Prop := ∃ d e, f env = some (d, e) ∧ Q d e
def WT (g : Tf) (d : D) (env : En) (Q : En → Prop) : Prop := ∃ e, g d env = some e ∧ Q e
def WTs (g : List D → En → Option En) (d : List D) (env : En) (Q : En → Prop) : Prop := ∃ e, g d env = some e ∧ Q e
def WG (g : Gf) (args : List Sl) (Q : D → List Sl → Prop) : Prop := ∃ d e, g args = some (d, e) ∧ Q d e
def WH (g : Hf) (args : List Sl) (Q : List D → List Sl → Prop) : Prop := ∃ d e, g args = some (d, e) ∧ Q d e
/-- what a statement leaves -/
structure Po where
  n : En → Prop
  r : D → En → Prop
  l : List D → En → Prop
def Po.at (Q : Po) : Out → Prop
  | .nx e => Q.n e
  | .rt d e => Q.r d e
  | .rn ds e => Q.l ds e
  | .rp as ds e => Q.r (.tuple (as ++ [.list ds])) e
def WS (f : Sf) (env : En) (Q : Po) : Prop := ∃ o, f env = some o ∧ Q.at o
/-- slots to be worked out first -/
def Nrm (e : En) (Q : En → Prop) : Prop := Q e
def IfB (b : Bool) (A B : Prop) : Prop := if b then A else B
def IsB (d : D) (Q : Bool → Prop) : Prop := match d with
  | .bool b => Q b
  | _ => False
def IsL (d : D) (Q : List D → Prop) : Prop := match d with
  | .list b => Q b
  | _ => False
def IsS (d : D) (Q : List D → Prop) : Prop := match d with
  | .list b => Q b
  | .tuple b => Q b
  | _ => False
def Fit (n : Nat) (Q : Prop) : Prop := fits n = true ∧ Q
def Sml (n : Int) (Q : Prop) : Prop := smallI n = true ∧ Q
def Own (s : Option Sl) (Q : Bool → List D → Prop) : Prop := ∃ b ds, s = some (.own b ds) ∧ Q b ds
def Any (s : Option Sl) (Q : List D → Prop) : Prop := ∃ b ds, (s = some (.own b ds) ∨ s = some (.ro ds)) ∧ Q ds
def CallG (g : Gf) (as : List Ar) (e : En) (Q : D → En → Prop) : Prop :=
  (rSlots as = [] ∧ WO (resArs e as) fun args => WG g args fun d _ => Q d e) ∨ (∃ i, rSlots as = [i] ∧ (oSlots as).contains i = false ∧ WO (resArs e as) fun args => WG g args fun d a' => WO (backAr e as a') fun e' => Q d e')
def CallH (g : Hf) (as : List Ar) (e : En) (Q : List D → En → Prop) : Prop :=
  (rSlots as = [] ∧ WO (resArs e as) fun args => WH g args fun d _ => Q d e) ∨ (∃ i, rSlots as = [i] ∧ (oSlots as).contains i = false ∧ WO (resArs e as) fun args => WH g args fun d a' => WO (backAr e as a') fun e' => Q d e')
def Two (ds : List D) (Q : D → D → Prop) : Prop := match ds with
  | [x, y] => Q x y
  | _ => False
def WC (vs : List Nat) (g : Tf) (c : Bf) (f : Ef) (ds : List D) (env : En) (Q : List D → En → Prop) : Prop := ∃ xs e, lcGo vs g c f ds env = some (xs, e) ∧ Q xs e
def IsI (d : D) (Q : Int → Prop) : Prop := match d with
  | .int b => Q b
  | _ => False
section
variable {env : En} {d e : D} {f fa fb fc : Ef} {p q c : Bf} {l : Lf} {i j : Nat} {g : D → D → Option D}
theorem ifb_dec {P : Prop} [Decidable P] {A B : Prop} (h1 : P → A) (h2 : ¬ P → B) : IfB (decide P) A B := by
  unfold IfB
  by_cases h : P
  · simp [h, h1 h]
  · simp [h, h2 h]
theorem ifb_decT {P : Prop} [Decidable P] {A B : Prop} (h : P) (a : A) : IfB (decide P) A B := ifb_dec (fun _ => a) fun n => absurd h n
theorem ifb_decF {P : Prop} [Decidable P] {A B : Prop} (h : ¬ P) (b : B) : IfB (decide P) A B := ifb_dec (fun p => absurd p h) fun _ => b
theorem ifb_not {b : Bool} {A B : Prop} (h : IfB b B A) : IfB (!b) A B := by cases b <;> exact h
theorem ifb_t {A B : Prop} (h : A) : IfB true A B := h
theorem ifb_f {A B : Prop} (h : B) : IfB false A B := h
theorem ifb_eT {b : Bool} {A B : Prop} (h : b = true) (a : A) : IfB b A B := by subst h; exact a
theorem ifb_eF {b : Bool} {A B : Prop} (h : b = false) (a : B) : IfB b A B := by subst h; exact a
theorem isb {b : Bool} {Q : Bool → Prop} (h : Q b) : IsB (.bool b) Q := h
theorem isi_ {b : Int} {Q : Int → Prop} (h : Q b) : IsI (.int b) Q := h

theorem isl {b : List D} {Q : List D → Prop} (h : Q b) : IsL (.list b) Q := h
theorem iss_l {b : List D} {Q : List D → Prop} (h : Q b) : IsS (.list b) Q := h
theorem iss_t {b : List D} {Q : List D → Prop} (h : Q b) : IsS (.tuple b) Q := h
theorem nrm_ {e e' : En} {Q : En → Prop} (h : e = e') (q : Q e') : Nrm e Q := by subst h; exact q
theorem two_ {x y : D} {Q : D → D → Prop} (h : Q x y) : Two [x, y] Q := h
theorem fit_ {n : Nat} {Q : Prop} (h : fits n = true) (q : Q) : Fit n Q := ⟨h, q⟩
theorem sml_ {n : Int} {Q : Prop} (h1 : -1000000000 ≤ n) (h2 : n ≤ 1000000000) (q : Q) : Sml n Q := ⟨by unfold smallI; rw [decide_eq_true h1, decide_eq_true h2]; rfl, q⟩
theorem own_ {s : Option Sl} {b : Bool} {ds : List D} {Q : Bool → List D → Prop} (h : s = some (.own b ds)) (q : Q b ds) : Own s Q := ⟨b, ds, h, q⟩
theorem any_o {s : Option Sl} {b : Bool} {ds : List D} {Q : List D → Prop} (h : s = some (.own b ds)) (q : Q ds) : Any s Q := ⟨b, ds, .inl h, q⟩
theorem any_r {s : Option Sl} {ds : List D} {Q : List D → Prop} (h : s = some (.ro ds)) (q : Q ds) : Any s Q := ⟨true, ds, .inr h, q⟩
theorem WO.mono {α : Type} {o : Option α} {Q Q' : α → Prop} (h : WO o Q) (m : ∀ x, Q x → Q' x) : WO o Q' := let ⟨x, e, q⟩ := h; ⟨x, e, m x q⟩
theorem WE.mono {Q Q' : D → En → Prop} (h : WE f env Q) (m : ∀ x e, Q x e → Q' x e) : WE f env Q' := let ⟨x, y, e, q⟩ := h; ⟨x, y, e, m x y q⟩
theorem WB.mono {Q Q' : Bool → En → Prop} (h : WB p env Q) (m : ∀ x e, Q x e → Q' x e) : WB p env Q' := let ⟨x, y, e, q⟩ := h; ⟨x, y, e, m x y q⟩
theorem WL.mono {Q Q' : List D → En → Prop} (h : WL l env Q) (m : ∀ x e, Q x e → Q' x e) : WL l env Q' := let ⟨x, y, e, q⟩ := h; ⟨x, y, e, m x y q⟩
theorem WG.mono {g : Gf} {as : List Sl} {Q Q' : D → List Sl → Prop} (h : WG g as Q) (m : ∀ x e, Q x e → Q' x e) : WG g as Q' := let ⟨x, y, e, q⟩ := h; ⟨x, y, e, m x y q⟩
theorem WH.mono {g : Hf} {as : List Sl} {Q Q' : List D → List Sl → Prop} (h : WH g as Q) (m : ∀ x e, Q x e → Q' x e) : WH g as Q' := let ⟨x, y, e, q⟩ := h; ⟨x, y, e, m x y q⟩
theorem WS.mono {f : Sf} {Q Q' : Po} (h : WS f env Q) (m1 : ∀ e, Q.n e → Q'.n e) (m2 : ∀ d e, Q.r d e → Q'.r d e) (m3 : ∀ d e, Q.l d e → Q'.l d e) : WS f env Q' := by
  obtain ⟨o, e, q⟩ := h
  refine ⟨o, e, ?_⟩
  cases o with
  | nx e => exact m1 _ q
  | rt d e => exact m2 _ _ q
  | rn d e => exact m3 _ _ q
  | rp as ds e => exact m2 _ _ q
/-! expressions -/
theorem we_v {Q : D → En → Prop} (h : env[i]? = some (.val d)) (q : Q d env) : WE (eV i) env Q := ⟨d, env, by unfold eV; rw [h], q⟩
theorem we_oV {Q : D → En → Prop} (h : env[i]? = some (.val d)) (q : Q d env) : WE (eO i) env Q := ⟨d, env, by unfold eO; rw [h], q⟩
theorem we_oW {Q : D → En → Prop} {b : Bool} {ds : List D} (h : env[i]? = some (.own b ds)) (q : Q (.list ds) env) : WE (eO i) env Q := ⟨_, env, by unfold eO; rw [h], q⟩
theorem we_oR {Q : D → En → Prop} {ds : List D} (h : env[i]? = some (.ro ds)) (q : Q (.list ds) env) : WE (eO i) env Q := ⟨_, env, by unfold eO; rw [h], q⟩
theorem we_c {Q : D → En → Prop} (q : Q d env) : WE (eC d) env Q := ⟨_, _, rfl, q⟩
theorem we_un {g : D → Option D} {Q : D → En → Prop} (h : WE fa env fun x e => WO (g x) fun z => Q z e) : WE (eUn g fa) env Q := by
  obtain ⟨x, e, h1, z, h2, q⟩ := h
  exact ⟨z, e, by unfold eUn; rw [h1]; simp [h2], q⟩
theorem we_bin {Q : D → En → Prop} (h : WE fa env fun x e => WE fb e fun y e' => WO (g x y) fun z => Q z e') : WE (eBin g fa fb) env Q := by
  obtain ⟨x, e, h1, y, e', h2, z, h3, q⟩ := h
  exact ⟨z, e', by unfold eBin; simp [h1, h2, h3], q⟩
theorem we_bV {Q : D → En → Prop} {ds : List D} {b : Bool} (h0 : env[i]? = some (.own b ds)) (h : WE fb env fun y e' => WE (eO i) e' fun x _ => WO (g x y) fun z => Q z e') : WE (eBinV g i fb) env Q := by
  obtain ⟨y, e', h2, x, e2, h1, z, h3, q⟩ := h
  exact ⟨z, e', by unfold eBinV; rw [show eO i env = _ from by unfold eO; rw [h0]]; simp only [Option.bind_some, h2, h1, h3, Option.map_some], q⟩
theorem we_bVr {Q : D → En → Prop} {ds : List D} (h0 : env[i]? = some (.ro ds)) (h : WE fb env fun y e' => WE (eO i) e' fun x _ => WO (g x y) fun z => Q z e') : WE (eBinV g i fb) env Q := by
  obtain ⟨y, e', h2, x, e2, h1, z, h3, q⟩ := h
  exact ⟨z, e', by unfold eBinV; rw [show eO i env = _ from by unfold eO; rw [h0]]; simp only [Option.bind_some, h2, h1, h3, Option.map_some], q⟩
theorem we_bVv {Q : D → En → Prop} (h0 : env[i]? = some (.val d)) (h : WE fb env fun y e' => WE (eO i) e' fun x _ => WO (g x y) fun z => Q z e') : WE (eBinV g i fb) env Q := by
  obtain ⟨y, e', h2, x, e2, h1, z, h3, q⟩ := h
  exact ⟨z, e', by unfold eBinV; rw [show eO i env = _ from by unfold eO; rw [h0]]; simp only [Option.bind_some, h2, h1, h3, Option.map_some], q⟩
theorem we_chain {g g' : D → D → Option D} {Q : D → En → Prop} (h : WE fa env fun x e => WE fb e fun y e' => WO (g x y) fun z => IsB z fun b => IfB b (WE fc e' fun w e2 => WO (g' y w) fun z => Q z e2) (Q (.bool false) e')) : WE (eChain g g' fa fb fc) env Q := by
  obtain ⟨x, e, h1, y, e', h2, z, h3, h⟩ := h
  cases z with
  | bool b =>
    cases b with
    | true =>
      obtain ⟨w, e2, h4, z, h5, q⟩ : WE fc e' fun w e2 => WO (g' y w) fun z => Q z e2 := h
      exact ⟨z, e2, by unfold eChain; simp [h1, h2, h3, h4, h5], q⟩
    | false => exact ⟨_, e', by unfold eChain; simp [h1, h2, h3]; (try rfl), h⟩
  | _ => cases h
theorem we_and {Q : D → En → Prop} (h : WE fa env fun x e => IsB x fun b => IfB b (WE fb e Q) (Q (.bool false) e)) : WE (eAnd fa fb) env Q := by
  obtain ⟨x, e, h1, h⟩ := h
  cases x with
  | bool b =>
    cases b with
    | true =>
      obtain ⟨w, e2, h4, q⟩ : WE fb e Q := h
      exact ⟨w, e2, by unfold eAnd; simp [h1, h4], q⟩
    | false => exact ⟨_, e, by unfold eAnd; simp [h1]; (try rfl), h⟩
  | _ => cases h
theorem we_or {Q : D → En → Prop} (h : WE fa env fun x e => IsB x fun b => IfB b (Q (.bool true) e) (WE fb e Q)) : WE (eOr fa fb) env Q := by
  obtain ⟨x, e, h1, h⟩ := h
  cases x with
  | bool b =>
    cases b with
    | false =>
      obtain ⟨w, e2, h4, q⟩ : WE fb e Q := h
      exact ⟨w, e2, by unfold eOr; simp [h1, h4], q⟩
    | true => exact ⟨_, e, by unfold eOr; simp [h1]; (try rfl), h⟩
  | _ => cases h
theorem we_not {Q : D → En → Prop} (h : WE fa env fun x e => IsB x fun b => Q (.bool !b) e) : WE (eNot fa) env Q := by
  obtain ⟨x, e, h1, h⟩ := h
  cases x with
  | bool b => exact ⟨_, e, by unfold eNot; simp [h1]; (try rfl), h⟩
  | _ => cases h
theorem we_if {Q : D → En → Prop} (h : WB p env fun b e => IfB b (WE fa e Q) (WE fb e Q)) : WE (eIf p fa fb) env Q := by
  obtain ⟨b, e, h1, h⟩ := h
  cases b with
  | true => obtain ⟨w, e2, h2, q⟩ : WE fa e Q := h; exact ⟨w, e2, by unfold eIf; simp [h1, h2], q⟩
  | false => obtain ⟨w, e2, h2, q⟩ : WE fb e Q := h; exact ⟨w, e2, by unfold eIf; simp [h1, h2], q⟩
theorem we_fz {Q : D → En → Prop} (h : WL l env fun ds e => Q (.list ds) e) : WE (eFz l) env Q := by
  obtain ⟨x, e, h1, h⟩ := h
  exact ⟨_, e, by unfold eFz; rw [h1]; (try rfl), h⟩
theorem we_tup {Q : D → En → Prop} (h : WL l env fun ds e => Fit ds.length (Q (.tuple ds) e)) : WE (eTup l) env Q := by
  obtain ⟨x, e, h1, h2, h⟩ := h
  exact ⟨_, e, by unfold eTup; simp [h1, h2]; (try rfl), h⟩
def cutOf (x : D) (a b : Option Int) : Option D := match x with
  | .list ds => some (.list (cutD ds a b))
  | .tuple ds => some (.tuple (cutD ds a b))
  | _ => none
theorem wo_cutL {ds : List D} {a b : Option Int} {Q : D → Prop} (q : Q (.list (cutD ds a b))) : WO (cutOf (.list ds) a b) Q := ⟨_, rfl, q⟩
theorem wo_cutT {ds : List D} {a b : Option Int} {Q : D → Prop} (q : Q (.tuple (cutD ds a b))) : WO (cutOf (.tuple ds) a b) Q := ⟨_, rfl, q⟩
theorem we_sl {lo hi : Pf} {Q : D → En → Prop} (h : WE fa env fun x e => WP lo e fun a e1 => WP hi e1 fun b e2 => WO (cutOf x a b) fun z => Q z e2) : WE (eSl fa lo hi) env Q := by
  obtain ⟨x, e, h1, a, e1, h2, b, e2, h3, z, h4, h⟩ := h
  unfold cutOf at h4
  split at h4 <;> cases h4
  · exact ⟨_, e2, by unfold eSl; simp [h1, h2, h3]; (try rfl), h⟩
  · exact ⟨_, e2, by unfold eSl; simp [h1, h2, h3]; (try rfl), h⟩
theorem wp_no {Q : Option Int → En → Prop} (q : Q none env) : WP pNo env Q := ⟨_, _, rfl, q⟩
theorem wp_e {Q : Option Int → En → Prop} (h : WE f env fun x e => IsI x fun n => Q (some n) e) : WP (pE f) env Q := by
  obtain ⟨x, e, h1, h⟩ := h
  cases x with
  | int n => exact ⟨_, e, by unfold pE; rw [h1]; (try rfl), h⟩
  | _ => cases h

/-! lists -/
theorem wl_nil {Q : List D → En → Prop} (q : Q [] env) : WL lNil env Q := ⟨_, _, rfl, q⟩
theorem wl_cons {Q : List D → En → Prop} (h : WE f env fun x e => WL l e fun xs e' => Q (x :: xs) e') : WL (lCons f l) env Q := by
  obtain ⟨x, e, h1, xs, e', h2, q⟩ := h
  exact ⟨_, e', by unfold lCons; simp [h1, h2]; (try rfl), q⟩
theorem wl_lst {Q : List D → En → Prop} (h : WL l env fun ds e => Fit ds.length (Q ds e)) : WL (lLst l) env Q := by
  obtain ⟨x, e, h1, h2, q⟩ := h
  exact ⟨_, e, by unfold lLst; simp [h1, h2]; (try rfl), q⟩
theorem wl_un {g : D → Option (List D)} {Q : List D → En → Prop} (h : WE fa env fun x e => WO (g x) fun z => Q z e) : WL (lUn g fa) env Q := by
  obtain ⟨x, e, h1, z, h2, q⟩ := h
  exact ⟨z, e, by unfold lUn; rw [h1]; simp [h2], q⟩
theorem wl_slV {lo hi : Pf} {Q : List D → En → Prop} {b : Bool} {ds0 : List D} (h0 : env[i]? = some (.own b ds0) ∨ env[i]? = some (.ro ds0)) (h : WP lo env fun a e1 => WP hi e1 fun b e2 => Any e2[i]? fun ds => Q (cutD ds a b) e2) : WL (lSlV i lo hi) env Q := by
  obtain ⟨a, e1, h2, b, e2, h3, c, ds, h4, q⟩ := h
  refine ⟨_, e2, ?_, q⟩
  unfold lSlV
  rcases h0 with h0 | h0 <;> rcases h4 with h4 | h4 <;> · simp [eO, h0, h2, h3]; simp [h4]
theorem wl_slO {lo hi : Pf} {Q : List D → En → Prop} {b : Bool} {ds0 : List D} (h0 : env[i]? = some (.own b ds0)) (h : WP lo env fun a e1 => WP hi e1 fun b e2 => Any e2[i]? fun ds => Q (cutD ds a b) e2) : WL (lSlV i lo hi) env Q := wl_slV (.inl h0) h
theorem wl_slR {lo hi : Pf} {Q : List D → En → Prop} {ds0 : List D} (h0 : env[i]? = some (.ro ds0)) (h : WP lo env fun a e1 => WP hi e1 fun b e2 => Any e2[i]? fun ds => Q (cutD ds a b) e2) : WL (lSlV i lo hi) env Q := wl_slV (b := true) (.inr h0) h
theorem wl_it {Q : List D → En → Prop} (h : WE f env fun x e => IsS x fun ds => Q ds e) : WL (lIt f) env Q := by
  obtain ⟨x, e, h1, h⟩ := h
  cases x with
  | list ds => exact ⟨_, e, by unfold lIt; rw [h1]; rfl, h⟩
  | tuple ds => exact ⟨_, e, by unfold lIt; rw [h1]; rfl, h⟩
  | _ => cases h
theorem wl_rng1 {Q : List D → En → Prop} (h : WE f env fun x e => IsI x fun n => Sml n (Q (irange 0 n.toNat) e)) : WL (lRng1 f) env Q := by
  obtain ⟨x, e, h1, h⟩ := h
  cases x with
  | int n => exact ⟨_, e, by unfold lRng1; rw [h1]; show (if _ then _ else _) = _; rw [if_pos h.1], h.2⟩
  | _ => cases h
theorem wl_rng2 {f' : Ef} {Q : List D → En → Prop} (h : WE f env fun x e => WE f' e fun y e' => IsI x fun m => IsI y fun n => Sml m (Sml n (Q (irange m (n - m).toNat) e'))) : WL (lRng2 f f') env Q := by
  obtain ⟨x, e, h1, y, e', h2, h⟩ := h
  cases x with
  | int m => cases y with
    | int n => exact ⟨_, e', by unfold lRng2; simp [h1, h2, h.1, h.2.1]; (try rfl), h.2.2⟩
    | _ => cases h
  | _ => cases h
theorem wl_enum {Q : List D → En → Prop} (h : WE f env fun x e => IsL x fun ds => Q (pairs (irange 0 ds.length) ds) e) : WL (lEnum f) env Q := by
  obtain ⟨x, e, h1, h⟩ := h
  cases x with
  | list ds => exact ⟨_, e, by unfold lEnum; rw [h1]; rfl, h⟩
  | _ => cases h
theorem wl_zip {f' : Ef} {Q : List D → En → Prop} (h : WE f env fun x e => WE f' e fun y e' => ∃ ds es, ((x = .list ds ∧ y = .list es) ∨ (x = .tuple ds ∧ y = .tuple es)) ∧ Q (pairs ds es) e') : WL (lZip f f') env Q := by
  obtain ⟨x, e, h1, y, e', h2, ds, es, h3, q⟩ := h
  exact ⟨_, e', by unfold lZip; rcases h3 with ⟨rfl, rfl⟩ | ⟨rfl, rfl⟩ <;> simp [h1, h2], q⟩
theorem lc_pure {vs : List Nat} {g : Tf} {c : Bf} {f : Ef} {P : D → Bool} {F : D → D} {env : En} : ∀ (ds : List D),
    (∀ d ∈ ds, WT g d env fun e1 => WB c e1 fun b e2 => b = P d ∧ IfB b (WE f e2 fun x e3 => x = F d ∧ wipeE e3 vs = env) (wipeE e2 vs = env)) →
    lcGo vs g c f ds env = some ((ds.filter P).map F, env)
  | [], _ => rfl
  | d :: ds, s => by
    have ih := lc_pure (vs := vs) (g := g) (c := c) (f := f) (P := P) (F := F) (env := env) ds fun d hd => s d (List.mem_cons_of_mem _ hd)
    obtain ⟨e1, h1, b, e2, h2, h3, h4⟩ := s d List.mem_cons_self
    cases b with
    | true =>
      obtain ⟨x, e3, h4, h5, h6⟩ : WE f e2 fun x e3 => x = F d ∧ wipeE e3 vs = env := h4
      unfold lcGo; simp [h1, h2, h4, h5, h6, ih, ← h3]
    | false =>
      have h6 : wipeE e2 vs = env := h4
      unfold lcGo; simp [h1, h2, h6, ih, ← h3]
/-- a comprehension that touches no slot -/
theorem wl_compP {vs : List Nat} {g : Tf} {c : Bf} {f : Ef} {Q : List D → En → Prop} (P : List D → D → Bool) (F : List D → D → D)
    (h : WL l env fun ds e => noOwn e vs = true ∧ fits ds.length = true ∧
      (∀ d ∈ ds, WT g d (wipeE e vs) fun e1 => WB c e1 fun b e2 => b = P ds d ∧ IfB b (WE f e2 fun x e3 => x = F ds d ∧ wipeE e3 vs = wipeE e vs) (wipeE e2 vs = wipeE e vs)) ∧
      Q ((ds.filter (P ds)).map (F ds)) (backE e (wipeE e vs) vs)) : WL (lComp l vs g c f) env Q := by
  obtain ⟨ds, e, h1, h2, h3, h4, q⟩ := h
  exact ⟨_, _, by unfold lComp; simp [h1, h2, h3, lc_pure ds h4], q⟩

theorem wc_nil {vs : List Nat} {g : Tf} {c : Bf} {f : Ef} {Q : List D → En → Prop} (q : Q [] env) : WC vs g c f [] env Q := ⟨[], env, rfl, q⟩
theorem wc_cons {vs : List Nat} {g : Tf} {c : Bf} {f : Ef} {ds : List D} {Q : List D → En → Prop} (h : WT g d env fun e1 => WB c e1 fun b e2 => IfB b (WE f e2 fun x e3 => Nrm (wipeE e3 vs) fun e4 => WC vs g c f ds e4 fun xs e => Q (x :: xs) e) (Nrm (wipeE e2 vs) fun e4 => WC vs g c f ds e4 Q)) : WC vs g c f (d :: ds) env Q := by
  obtain ⟨e1, h1, b, e2, h2, h3⟩ := h
  cases b with
  | true =>
    obtain ⟨x, e3, h4, xs, e, h5, q⟩ : WE f e2 fun x e3 => WC vs g c f ds (wipeE e3 vs) fun xs e => Q (x :: xs) e := h3
    exact ⟨x :: xs, e, by unfold lcGo; simp [h1, h2, h4, h5], q⟩
  | false =>
    obtain ⟨xs, e, h5, q⟩ : WC vs g c f ds (wipeE e2 vs) Q := h3
    exact ⟨xs, e, by unfold lcGo; simp [h1, h2, h5], q⟩
/-- a comprehension over a list that is known, item by item -/
theorem wl_compU {vs : List Nat} {g : Tf} {c : Bf} {f : Ef} {Q : List D → En → Prop} (ds : List D)
    (h : WL l env fun ds' e => ds' = ds ∧ noOwn e vs = true ∧ fits ds.length = true ∧ Nrm (wipeE e vs) fun e4 => WC vs g c f ds e4 fun xs e' => Nrm (backE e e' vs) (Q xs)) : WL (lComp l vs g c f) env Q := by
  obtain ⟨_, e, h1, rfl, h2, h3, xs, e', h4, q⟩ := h
  exact ⟨xs, _, by unfold lComp; simp [h1, h2, h3, h4], q⟩
/-! tests -/
theorem wb_v {Q : Bool → En → Prop} (h : WE f env fun x e => IsB x fun b => Q b e) : WB (bV f) env Q := by
  obtain ⟨x, e, h1, h⟩ := h
  cases x with
  | bool b => exact ⟨_, e, by unfold bV; rw [h1]; (try rfl), h⟩
  | _ => cases h
theorem wb_and {Q : Bool → En → Prop} (h : WB p env fun b e => IfB b (WB q e Q) (Q false e)) : WB (bAnd p q) env Q := by
  obtain ⟨b, e, h1, h⟩ := h
  cases b with
  | true => obtain ⟨b, e', h2, q⟩ : WB q e Q := h; exact ⟨b, e', by unfold bAnd; simp [h1, h2], q⟩
  | false => exact ⟨_, e, by unfold bAnd; simp [h1]; (try rfl), h⟩
theorem wb_or {Q : Bool → En → Prop} (h : WB p env fun b e => IfB b (Q true e) (WB q e Q)) : WB (bOr p q) env Q := by
  obtain ⟨b, e, h1, h⟩ := h
  cases b with
  | false => obtain ⟨b, e', h2, q⟩ : WB q e Q := h; exact ⟨b, e', by unfold bOr; simp [h1, h2], q⟩
  | true => exact ⟨_, e, by unfold bOr; simp [h1]; (try rfl), h⟩
theorem wb_not {Q : Bool → En → Prop} (h : WB p env fun b e => Q (!b) e) : WB (bNot p) env Q := by
  obtain ⟨b, e, h1, h⟩ := h
  exact ⟨_, e, by unfold bNot; rw [h1]; (try rfl), h⟩
theorem wb_yes {Q : Bool → En → Prop} (q : Q true env) : WB bYes env Q := ⟨_, _, rfl, q⟩

/-! targets -/
theorem wt_n {Q : En → Prop} (q : Nrm (env.set i (.val d)) Q) : WT (tN i) d env Q := ⟨_, rfl, q⟩
theorem wt_t {n : Nat} {r : List D → En → Option En} {ds : List D} {Q : En → Prop} (hl : ds.length = n) (h : WTs r ds env Q) : WT (tT n r) (.tuple ds) env Q := by
  obtain ⟨e, h, q⟩ := h
  exact ⟨e, by unfold tT; simp [hl, h], q⟩
theorem wts_nil {Q : En → Prop} (q : Q env) : WTs gsN [] env Q := ⟨_, rfl, q⟩
theorem wts_cons {g : Tf} {r : List D → En → Option En} {ds : List D} {Q : En → Prop} (h : WT g d env fun e => WTs r ds e Q) : WTs (gsC g r) (d :: ds) env Q := by
  obtain ⟨e, h1, e', h2, q⟩ := h
  exact ⟨e', by unfold gsC; simp [h1, h2], q⟩

/-! calls -/
theorem wa_nil {Q : List Ar → En → Prop} (q : Q [] env) : WA aNil env Q := ⟨_, _, rfl, q⟩
theorem wa_v {a : Af} {Q : List Ar → En → Prop} (h : WE f env fun x e => WA a e fun xs e' => Q (.v x :: xs) e') : WA (aV f a) env Q := by
  obtain ⟨x, e, h1, xs, e', h2, q⟩ := h
  exact ⟨_, e', by unfold aV; simp [h1, h2]; (try rfl), q⟩
theorem wa_r {a : Af} {Q : List Ar → En → Prop} {b : Bool} {ds : List D} (h0 : env[i]? = some (.own b ds)) (h : WA a env fun xs e' => Q (.r i :: xs) e') : WA (aR i a) env Q := by
  obtain ⟨xs, e', h2, q⟩ := h
  exact ⟨_, e', by unfold aR; simp [eO, h0, h2]; (try rfl), q⟩
theorem wa_o {a : Af} {Q : List Ar → En → Prop} (h0 : ∃ d, eO i env = some (d, env)) (h : WA a env fun xs e' => Q (.o i :: xs) e') : WA (aO i a) env Q := by
  obtain ⟨_, h0⟩ := h0
  obtain ⟨xs, e', h2, q⟩ := h
  exact ⟨_, e', by unfold aO; simp [h0, h2]; (try rfl), q⟩
theorem wa_oR {a : Af} {Q : List Ar → En → Prop} {ds : List D} (h0 : env[i]? = some (.ro ds)) (h : WA a env fun xs e' => Q (.o i :: xs) e') : WA (aO i a) env Q := wa_o ⟨_, by unfold eO; rw [h0]⟩ h
theorem wa_oO {a : Af} {Q : List Ar → En → Prop} {b : Bool} {ds : List D} (h0 : env[i]? = some (.own b ds)) (h : WA a env fun xs e' => Q (.o i :: xs) e') : WA (aO i a) env Q := wa_o ⟨_, by unfold eO; rw [h0]⟩ h
theorem wa_oV {a : Af} {Q : List Ar → En → Prop} (h0 : env[i]? = some (.val d)) (h : WA a env fun xs e' => Q (.o i :: xs) e') : WA (aO i a) env Q := wa_o ⟨_, by unfold eO; rw [h0]⟩ h
theorem we_call {g : Gf} {fa : Af} {Q : D → En → Prop} (h : WA fa env fun as e => CallG g as e Q) : WE (eCall g fa) env Q := by
  obtain ⟨as, e, h1, h⟩ := h
  rcases h with ⟨h3, args, h2, d, a', h4, q⟩ | ⟨i, h3, h4, args, h2, d, a', h5, e', h6, q⟩
  · exact ⟨d, e, by unfold eCall; simp [h1, h2, h3, h4], q⟩
  · exact ⟨d, e', by unfold eCall; simp only [h1, Option.bind_some, h3]; simp [show i ∉ oSlots as from fun z => by simp [z] at h4, h2, h5, h6], q⟩
theorem wl_call {g : Hf} {fa : Af} {Q : List D → En → Prop} (h : WA fa env fun as e => CallH g as e Q) : WL (lCall g fa) env Q := by
  obtain ⟨as, e, h1, h⟩ := h
  rcases h with ⟨h3, args, h2, d, a', h4, q⟩ | ⟨i, h3, h4, args, h2, d, a', h5, e', h6, q⟩
  · exact ⟨d, e, by unfold lCall; simp [h1, h2, h3, h4], q⟩
  · exact ⟨d, e', by unfold lCall; simp only [h1, Option.bind_some, h3]; simp [show i ∉ oSlots as from fun z => by simp [z] at h4, h2, h5, h6], q⟩
theorem cg0 {g : Gf} {as : List Ar} {Q : D → En → Prop} (h : rSlots as = []) (q : WO (resArs env as) fun args => WG g args fun d _ => Q d env) : CallG g as env Q := .inl ⟨h, q⟩
theorem cg1 {g : Gf} {as : List Ar} {Q : D → En → Prop} (h : rSlots as = [i]) (h2 : (oSlots as).contains i = false) (q : WO (resArs env as) fun args => WG g args fun d a' => WO (backAr env as a') fun e' => Q d e') : CallG g as env Q := .inr ⟨i, h, h2, q⟩
theorem ch0 {g : Hf} {as : List Ar} {Q : List D → En → Prop} (h : rSlots as = []) (q : WO (resArs env as) fun args => WH g args fun d _ => Q d env) : CallH g as env Q := .inl ⟨h, q⟩
theorem ch1 {g : Hf} {as : List Ar} {Q : List D → En → Prop} (h : rSlots as = [i]) (h2 : (oSlots as).contains i = false) (q : WO (resArs env as) fun args => WH g args fun d a' => WO (backAr env as a') fun e' => Q d e') : CallH g as env Q := .inr ⟨i, h, h2, q⟩
theorem res_nil {Q : List Sl → Prop} (q : Q []) : WO (resArs env []) Q := ⟨_, rfl, q⟩
theorem res_cons {a : Ar} {as : List Ar} {x : Sl} {Q : List Sl → Prop} (h : resAr env a = some x) (q : WO (resArs env as) fun xs => Q (x :: xs)) : WO (resArs env (a :: as)) Q := by
  obtain ⟨xs, h2, q⟩ := q
  exact ⟨_, by unfold resArs; simp [h, h2], q⟩
theorem res_v {as : List Ar} {Q : List Sl → Prop} (q : WO (resArs env as) fun xs => Q (.val d :: xs)) : WO (resArs env (.v d :: as)) Q := res_cons rfl q
theorem res_r {as : List Ar} {b : Bool} {ds : List D} {Q : List Sl → Prop} (h : env[i]? = some (.own b ds)) (q : WO (resArs env as) fun xs => Q (.own false ds :: xs)) : WO (resArs env (.r i :: as)) Q := res_cons (by unfold resAr; dsimp only; rw [h]) q
theorem res_oO {as : List Ar} {b : Bool} {ds : List D} {Q : List Sl → Prop} (h : env[i]? = some (.own b ds)) (q : WO (resArs env as) fun xs => Q (.ro ds :: xs)) : WO (resArs env (.o i :: as)) Q := res_cons (by unfold resAr; dsimp only; rw [h]) q
theorem res_oR {as : List Ar} {ds : List D} {Q : List Sl → Prop} (h : env[i]? = some (.ro ds)) (q : WO (resArs env as) fun xs => Q (.ro ds :: xs)) : WO (resArs env (.o i :: as)) Q := res_cons (by unfold resAr; dsimp only; rw [h]) q
theorem res_oV {as : List Ar} {ds : List D} {Q : List Sl → Prop} (h : env[i]? = some (.val (.list ds))) (q : WO (resArs env as) fun xs => Q (.ro ds :: xs)) : WO (resArs env (.o i :: as)) Q := res_cons (by unfold resAr; dsimp only; rw [h]) q
theorem back_nil {xs : List Sl} {Q : En → Prop} (q : Q env) : WO (backAr env [] xs) Q := ⟨_, by unfold backAr; (try rfl), q⟩
theorem back_v {as : List Ar} {x : Sl} {xs : List Sl} {Q : En → Prop} (q : WO (backAr env as xs) Q) : WO (backAr env (.v d :: as) (x :: xs)) Q := q
theorem back_o {as : List Ar} {x : Sl} {xs : List Sl} {Q : En → Prop} (q : WO (backAr env as xs) Q) : WO (backAr env (.o i :: as) (x :: xs)) Q := q
theorem back_r {as : List Ar} {ds ds0 : List D} {b : Bool} {xs : List Sl} {Q : En → Prop} (h : env[i]? = some (.own b ds0)) (q : Nrm (env.set i (.own b ds)) fun e => WO (backAr e as xs) Q) : WO (backAr env (.r i :: as) (.own false ds :: xs)) Q := by
  obtain ⟨e, h1, q⟩ := q
  exact ⟨e, by unfold backAr; rw [h]; exact h1, q⟩

/-! methods -/
theorem we_mut {g : List D → D → Option (List D × D)} {Q : D → En → Prop} {b : Bool} {ds0 : List D} (h0 : env[i]? = some (.own b ds0)) (h : WE f env fun x e => Own e[i]? fun l ds => WO (g ds x) fun r => Nrm (e.set i (.own l r.1)) (Q r.2)) : WE (eMut g i f) env Q := by
  obtain ⟨x, e, h1, l, ds, h2, r, h3, q⟩ := h
  exact ⟨_, _, by unfold eMut isOwn; rw [h0]; simp only [if_true, h1, Option.bind_some, h2, h3]; (try rfl), q⟩
theorem we_mut0 {g : List D → Option (List D × D)} {Q : D → En → Prop} {b : Bool} {ds : List D} (h0 : env[i]? = some (.own b ds)) (h : WO (g ds) fun r => Nrm (env.set i (.own b r.1)) (Q r.2)) : WE (eMut0 g i) env Q := by
  obtain ⟨r, h3, q⟩ := h
  exact ⟨_, _, by unfold eMut0; rw [h0]; simp only [h3]; (try rfl), q⟩

/-! statements -/
theorem ws_nil {N : En → Prop} {R : D → En → Prop} {L : List D → En → Prop} (q : N env) : WS sNil env ⟨N, R, L⟩ := ⟨.nx env, rfl, q⟩
theorem ws_seq {f g : Sf} {N : En → Prop} {R : D → En → Prop} {L : List D → En → Prop} (h : WS f env ⟨fun e => WS g e ⟨N, R, L⟩, R, L⟩) : WS (sSeq f g) env ⟨N, R, L⟩ := by
  obtain ⟨o, h1, h⟩ := h
  cases o with
  | nx e =>
    obtain ⟨o, h2, q⟩ : WS g e ⟨N, R, L⟩ := h
    exact ⟨o, by unfold sSeq; simp [h1, h2], q⟩
  | rt d e => exact ⟨.rt d e, by unfold sSeq; simp [h1]; (try rfl), h⟩
  | rn d e => exact ⟨.rn d e, by unfold sSeq; simp [h1]; (try rfl), h⟩
  | rp d d2 e => exact ⟨.rp d d2 e, by unfold sSeq; simp [h1]; (try rfl), h⟩
/-- with a resting place between the two -/
theorem ws_mid {f g : Sf} {N : En → Prop} {R : D → En → Prop} {L : List D → En → Prop} (I : En → Prop) (h : WS f env ⟨I, R, L⟩) (h2 : ∀ e, I e → WS g e ⟨N, R, L⟩) : WS (sSeq f g) env ⟨N, R, L⟩ := ws_seq (h.mono (fun e q => h2 e q) (fun _ _ q => q) fun _ _ q => q)
theorem ws_expr {N : En → Prop} {R : D → En → Prop} {L : List D → En → Prop} (h : WE f env fun _ e => N e) : WS (sExpr f) env ⟨N, R, L⟩ := by
  obtain ⟨x, e, h1, q⟩ := h
  exact ⟨.nx e, by unfold sExpr; rw [h1]; (try rfl), q⟩
theorem ws_ret {N : En → Prop} {R : D → En → Prop} {L : List D → En → Prop} (h : WE f env R) : WS (sRet f) env ⟨N, R, L⟩ := by
  obtain ⟨x, e, h1, q⟩ := h
  exact ⟨.rt x e, by unfold sRet; rw [h1]; (try rfl), q⟩
theorem ws_retL {N : En → Prop} {R : D → En → Prop} {L : List D → En → Prop} (h : WL l env L) : WS (sRetL l) env ⟨N, R, L⟩ := by
  obtain ⟨x, e, h1, q⟩ := h
  exact ⟨.rn x e, by unfold sRetL; rw [h1]; (try rfl), q⟩
theorem ws_retN {N : En → Prop} {R : D → En → Prop} {L : List D → En → Prop} (q : R .none env) : WS sRetN env ⟨N, R, L⟩ := ⟨.rt .none env, rfl, q⟩
theorem ws_retO {N : En → Prop} {R : D → En → Prop} {L : List D → En → Prop} {ds : List D} (h : env[i]? = some (.own true ds)) (q : Nrm (env.set i .no) (L ds)) : WS (sRetO i) env ⟨N, R, L⟩ := ⟨.rn ds _, by unfold sRetO; rw [h], q⟩
theorem ws_frz {f : Sf} {N : En → Prop} {R : D → En → Prop} {L : List D → En → Prop} {ds : List D} (h : env[i]? = some (.own true ds)) (q : Nrm (env.set i (.val (.list ds))) fun e => WS f e ⟨N, R, L⟩) : WS (sFrz i f) env ⟨N, R, L⟩ := by
  obtain ⟨o, h1, q⟩ := q
  exact ⟨o, by unfold sFrz frz; rw [h]; exact h1, q⟩
theorem ws_frzV {f : Sf} {N : En → Prop} {R : D → En → Prop} {L : List D → En → Prop} (h : env[i]? = some (.val d)) (q : WS f env ⟨N, R, L⟩) : WS (sFrz i f) env ⟨N, R, L⟩ := by
  obtain ⟨o, h1, q⟩ := q
  exact ⟨o, by unfold sFrz frz; rw [h]; exact h1, q⟩
theorem ws_if {f g : Sf} {N : En → Prop} {R : D → En → Prop} {L : List D → En → Prop} (h : WB c env fun b e => IfB b (WS f e ⟨N, R, L⟩) (WS g e ⟨N, R, L⟩)) : WS (sIf c f g) env ⟨N, R, L⟩ := by
  obtain ⟨b, e, h1, h⟩ := h
  cases b with
  | true => obtain ⟨o, h2, q⟩ : WS f e ⟨N, R, L⟩ := h; exact ⟨o, by unfold sIf; simp [h1, h2], q⟩
  | false => obtain ⟨o, h2, q⟩ : WS g e ⟨N, R, L⟩ := h; exact ⟨o, by unfold sIf; simp [h1, h2], q⟩
theorem ws_set {N : En → Prop} {R : D → En → Prop} {L : List D → En → Prop} (h : WE f env fun x e => Nrm (e.set i (.val x)) N) : WS (sSet i f) env ⟨N, R, L⟩ := by
  obtain ⟨x, e, h1, q⟩ := h
  exact ⟨.nx _, by unfold sSet; rw [h1]; (try rfl), q⟩
theorem ws_setO {N : En → Prop} {R : D → En → Prop} {L : List D → En → Prop} (h : WL l env fun x e => Nrm (e.set i (.own true x)) N) : WS (sSetO i l) env ⟨N, R, L⟩ := by
  obtain ⟨x, e, h1, q⟩ := h
  exact ⟨.nx _, by unfold sSetO; rw [h1]; (try rfl), q⟩
theorem ws_asg {g : Tf} {N : En → Prop} {R : D → En → Prop} {L : List D → En → Prop} (h : WE f env fun x e => WT g x e N) : WS (sAsg f g) env ⟨N, R, L⟩ := by
  obtain ⟨x, e, h1, e', h2, q⟩ := h
  exact ⟨.nx _, by unfold sAsg; simp [h1, h2]; (try rfl), q⟩
theorem ws_par {N : En → Prop} {R : D → En → Prop} {L : List D → En → Prop} (h : WL l env fun ds e => Two ds fun x y => Nrm ((e.set i (.val x)).set j (.val y)) N) : WS (sPar i j l) env ⟨N, R, L⟩ := by
  obtain ⟨x, e, h1, h⟩ := h
  unfold Two at h
  split at h
  case h_2 => cases h
  have q := h
  exact ⟨.nx _, by unfold sPar; rw [h1]; (try rfl), q⟩
theorem ws_putI {fk fe : Ef} {N : En → Prop} {R : D → En → Prop} {L : List D → En → Prop} {b : Bool} {ds0 : List D} (h0 : env[i]? = some (.own b ds0)) (h : WE fe env fun x e => WE fk e fun y e' => IsI y fun k => Own e'[i]? fun l ds => WO (ixN ds.length k) fun j => Nrm (e'.set i (.own l (ds.set j x))) N) : WS (sPutI i fk fe) env ⟨N, R, L⟩ := by
  obtain ⟨x, e, h1, y, e', h2, h⟩ := h
  cases y with
  | int k =>
    obtain ⟨l, ds, h3, j, h4, q⟩ := h
    exact ⟨.nx _, by unfold sPutI isOwn; rw [h0]; simp only [if_true]; unfold sPut; simp only [h1, h2, Option.bind_some, h3, h4]; (try rfl), q⟩
  | _ => cases h
/-- for: by what is still to be walked -/
theorem for_go {g : Tf} {body : Sf} {N : En → Prop} {R : D → En → Prop} {L : List D → En → Prop} (I : List D → En → Prop) : ∀ (ds : List D) (env : En), I ds env →
    (∀ d rs e, I (d :: rs) e → WT g d e fun e1 => WS body e1 ⟨I rs, R, L⟩) → (∀ e, I [] e → N e) → WS (forGo g body ds) env ⟨N, R, L⟩
  | [], env, h, _, q => ⟨.nx env, rfl, q env h⟩
  | d :: ds, env, h, s, q => by
    obtain ⟨e1, h1, o, h2, h3⟩ := s d ds env h
    cases o with
    | nx e =>
      obtain ⟨o, h4, h5⟩ := for_go I ds e h3 s q
      exact ⟨o, by unfold forGo; simp [h1, h2, h4], h5⟩
    | rt d e => exact ⟨.rt d e, by unfold forGo; simp [h1, h2]; (try rfl), h3⟩
    | rn d e => exact ⟨.rn d e, by unfold forGo; simp [h1, h2]; (try rfl), h3⟩
    | rp d d2 e => exact ⟨.rp d d2 e, by unfold forGo; simp [h1, h2]; (try rfl), h3⟩
theorem ws_for {g : Tf} {body : Sf} {N : En → Prop} {R : D → En → Prop} {L : List D → En → Prop} (I : List D → List D → En → Prop) (h : WL l env fun ds e => I ds ds e ∧ (∀ d rs e, I ds (d :: rs) e → WT g d e fun e1 => WS body e1 ⟨I ds rs, R, L⟩) ∧ ∀ e, I ds [] e → N e) : WS (sFor l g body) env ⟨N, R, L⟩ := by
  obtain ⟨ds, e, h1, h2, h3, h4⟩ := h
  obtain ⟨o, h5, q⟩ := for_go (I ds) ds e h2 h3 h4
  exact ⟨o, by unfold sFor; simp [h1, h5], q⟩
/-- for: by the turn -/
theorem ws_forN {g : Tf} {body : Sf} {N : En → Prop} {R : D → En → Prop} {L : List D → En → Prop} (I : List D → Nat → En → Prop) (h : WL l env fun ds e => I ds 0 e ∧ (∀ k d e, k < ds.length → ds[k]? = some d → I ds k e → WT g d e fun e1 => WS body e1 ⟨I ds (k + 1), R, L⟩) ∧ ∀ e, I ds ds.length e → N e) : WS (sFor l g body) env ⟨N, R, L⟩ := by
  obtain ⟨ds, e, h1, h2, h3, h4⟩ := h
  obtain ⟨o, h5, q⟩ := for_go (N := N) (R := R) (L := L) (body := body) (g := g) (fun rs e => ∃ k, k ≤ ds.length ∧ ds.drop k = rs ∧ I ds k e) ds e ⟨0, Nat.zero_le _, rfl, h2⟩ (fun d rs e ⟨k, hk, h5, h6⟩ => by
    have hlt : k < ds.length := by
      rcases Nat.lt_or_ge k ds.length with h | h
      · exact h
      · rw [List.drop_eq_nil_of_le h] at h5; cases h5
    have e1 : ds[k]? = some d := by
      rw [List.drop_eq_getElem_cons hlt] at h5
      injection h5 with h5 _
      rw [List.getElem?_eq_getElem hlt, h5]
    obtain ⟨x1, h7, o, h8, h9⟩ := h3 k d e hlt e1 h6
    refine ⟨x1, h7, o, h8, ?_⟩
    cases o with
    | nx e' =>
      refine ⟨k + 1, hlt, ?_, h9⟩
      rw [List.drop_eq_getElem_cons hlt] at h5
      injection h5 with _ h5
    | rt d e => exact h9
    | rn d e => exact h9
    | rp d d2 e => exact h9) (fun e ⟨k, hk, h5, h6⟩ => by
    have : k = ds.length := by
      rw [List.drop_eq_nil_iff] at h5
      omega
    subst this
    exact h4 e h6)
  exact ⟨o, by unfold sFor; simp [h1, h5], q⟩
theorem wh_go {body : Sf} {N : En → Prop} {R : D → En → Prop} {L : List D → En → Prop} (I : Nat → En → Prop) : ∀ (n m : Nat) (env : En), m < n → I m env →
    (∀ m e, I m e → WB c e fun b e1 => IfB b (WS body e1 ⟨fun e2 => ∃ m', m' < m ∧ I m' e2, R, L⟩) (N e1)) → WS (whGo c body n) env ⟨N, R, L⟩
  | 0, m, env, h, _, _ => absurd h (Nat.not_lt_zero _)
  | n + 1, m, env, hn, h, s => by
    obtain ⟨b, e1, h1, h2⟩ := s m env h
    cases b with
    | false => exact ⟨.nx e1, by unfold whGo; simp [h1]; (try rfl), h2⟩
    | true =>
      obtain ⟨o, h3, h4⟩ : WS body e1 ⟨fun e2 => ∃ m', m' < m ∧ I m' e2, R, L⟩ := h2
      cases o with
      | nx e =>
        obtain ⟨m', h5, h6⟩ := h4
        obtain ⟨o, h7, h8⟩ := wh_go I n m' e (by omega) h6 s
        exact ⟨o, by unfold whGo; simp [h1, h3, h7], h8⟩
      | rt d e => exact ⟨.rt d e, by unfold whGo; simp [h1, h3]; (try rfl), h4⟩
      | rn d e => exact ⟨.rn d e, by unfold whGo; simp [h1, h3]; (try rfl), h4⟩
      | rp d d2 e => exact ⟨.rp d d2 e, by unfold whGo; simp [h1, h3]; (try rfl), h4⟩
/-- while: with a measure that falls -/
theorem ws_wh {body : Sf} {n : Nat} {N : En → Prop} {R : D → En → Prop} {L : List D → En → Prop} (I : Nat → En → Prop) (m : Nat) (hm : m < n) (h0 : I m env)
    (h : ∀ m e, I m e → WB c e fun b e1 => IfB b (WS body e1 ⟨fun e2 => ∃ m', m' < m ∧ I m' e2, R, L⟩) (N e1)) : WS (sWh n c body) env ⟨N, R, L⟩ := by
  obtain ⟨o, h5, q⟩ := wh_go I n m env hm h0 h
  exact ⟨o, h5, q⟩

/-! defs -/
theorem wg_eq {g : Gf} {as bs : List Sl} {Q : D → List Sl → Prop} (h : g as = some (d, bs)) (q : Q d bs) : WG g as Q := ⟨d, bs, h, q⟩
theorem wg_run {n np : Nat} {f : Sf} {args : List Sl} {Q : D → List Sl → Prop} (hl : args.length = np) (h : Nrm (args ++ List.replicate (n - np) .no) fun e => WS f e ⟨fun e => Q .none (e.take np), fun d e => Q d (e.take np), fun ds e => Q (.list ds) (e.take np)⟩) : WG (fnRun n np f) args Q := by
  obtain ⟨o, h1, q⟩ := h
  cases o with
  | nx e => exact ⟨_, _, by unfold fnRun; rw [if_pos hl, h1], q⟩
  | rt d e => exact ⟨_, _, by unfold fnRun; rw [if_pos hl, h1], q⟩
  | rn d e => exact ⟨_, _, by unfold fnRun; rw [if_pos hl, h1], q⟩
  | rp d d2 e => exact ⟨_, _, by unfold fnRun; rw [if_pos hl, h1], q⟩
theorem wh_new {n np : Nat} {f : Sf} {args : List Sl} {Q : List D → List Sl → Prop} (hl : args.length = np) (h : Nrm (args ++ List.replicate (n - np) .no) fun e => WS f e ⟨fun e => False, fun d e => False, fun ds e => Q ds (e.take np)⟩) : WH (fnNew n np f) args Q := by
  obtain ⟨o, h1, q⟩ := h
  cases o with
  | nx e => cases q
  | rt d e => cases q
  | rn d e => exact ⟨_, _, by unfold fnNew; rw [if_pos hl, h1], q⟩
  | rp d d2 e => cases q

/-! what is worked out -/
variable {Q : D → Prop} {a b : Int}
theorem wo_add (q : Q (.int (a + b))) : WO (gAdd (.int a) (.int b)) Q := ⟨_, rfl, q⟩
theorem wo_addL {xs ys : List D} (h : fits (xs.length + ys.length) = true) (q : Q (.list (xs ++ ys))) : WO (gAdd (.list xs) (.list ys)) Q := ⟨_, by unfold gAdd; dsimp only; rw [if_pos h], q⟩
theorem wo_addT {xs ys : List D} (h : fits (xs.length + ys.length) = true) (q : Q (.tuple (xs ++ ys))) : WO (gAdd (.tuple xs) (.tuple ys)) Q := ⟨_, by unfold gAdd; dsimp only; rw [if_pos h], q⟩
theorem wo_sub (q : Q (.int (a - b))) : WO (gSub (.int a) (.int b)) Q := ⟨_, rfl, q⟩
theorem wo_mul (h : mulOk a b = true) (q : Q (.int (a * b))) : WO (gMul (.int a) (.int b)) Q := ⟨_, by unfold gMul; dsimp only; rw [if_pos h], q⟩
theorem wo_div (h1 : 0 < b) (h2 : b < 10 ^ 250 * 10 ^ 250) (q : Q (.int (a / b))) : WO (gDiv (.int a) (.int b)) Q := ⟨_, by unfold gDiv divOk; dsimp only; rw [decide_eq_true h1, decide_eq_true h2]; (try rfl), q⟩
theorem wo_mod (h1 : 0 < b) (q : Q (.int (a % b))) : WO (gMod (.int a) (.int b)) Q := ⟨_, by unfold gMod; dsimp only; rw [decide_eq_true h1]; (try rfl), q⟩
theorem wo_neg (q : Q (.int (-a))) : WO (gNeg (.int a)) Q := ⟨_, rfl, q⟩
theorem wo_lt (q : Q (.bool (decide (a < b)))) : WO (gLt (.int a) (.int b)) Q := ⟨_, rfl, q⟩
theorem wo_le (q : Q (.bool (decide (a ≤ b)))) : WO (gLe (.int a) (.int b)) Q := ⟨_, rfl, q⟩
theorem wo_gt (q : Q (.bool (decide (b < a)))) : WO (gGt (.int a) (.int b)) Q := ⟨_, rfl, q⟩
theorem wo_ge (q : Q (.bool (decide (b ≤ a)))) : WO (gGe (.int a) (.int b)) Q := ⟨_, rfl, q⟩
theorem shp_int : shp (.int a) = true := rfl
theorem eqv_int : PyData.eqv (.int a) (.int b) = decide (a = b) := by unfold PyData.eqv; by_cases h : a = b <;> simp [h]
theorem wo_eq (q : Q (.bool (decide (a = b)))) : WO (gEq (.int a) (.int b)) Q := ⟨_, by unfold gEq; rw [shp_int, shp_int]; simp only [Bool.and_self, if_true]; rw [eqv_int], q⟩
theorem wo_ne (q : Q (.bool (!decide (a = b)))) : WO (gNe (.int a) (.int b)) Q := ⟨_, by unfold gNe; rw [shp_int, shp_int]; simp only [Bool.and_self, if_true]; rw [eqv_int], q⟩
theorem eqv_bool {a b : Bool} : PyData.eqv (.bool a) (.bool b) = (a == b) := by unfold PyData.eqv; rfl
theorem wo_eqB {a b : Bool} (q : Q (.bool (a == b))) : WO (gEq (.bool a) (.bool b)) Q := ⟨_, by unfold gEq; rw [show shp (.bool a) = true from rfl, show shp (.bool b) = true from rfl]; simp only [Bool.and_self, if_true]; rw [eqv_bool], q⟩
theorem wo_neB {a b : Bool} (q : Q (.bool (!(a == b)))) : WO (gNe (.bool a) (.bool b)) Q := ⟨_, by unfold gNe; rw [show shp (.bool a) = true from rfl, show shp (.bool b) = true from rfl]; simp only [Bool.and_self, if_true]; rw [eqv_bool], q⟩
theorem wo_eqD (h1 : shp d = true) (h2 : shp e = true) (q : Q (.bool (PyData.eqv d e))) : WO (gEq d e) Q := ⟨_, by unfold gEq; rw [h1, h2]; (try rfl), q⟩
theorem wo_neD (h1 : shp d = true) (h2 : shp e = true) (q : Q (.bool (!PyData.eqv d e))) : WO (gNe d e) Q := ⟨_, by unfold gNe; rw [h1, h2]; (try rfl), q⟩
theorem atI_ix {α : Type} {xs : List α} {k : Int} (h1 : 0 ≤ k) (h2 : k < xs.length) : atI xs k = some (xs[k.toNat]'(by omega)) := by
  unfold atI ixN
  rw [if_pos h1, if_pos h2]
  simp only [Option.bind_some]
  exact List.getElem?_eq_getElem _
theorem wo_idxL {ds : List D} {k : Int} (h1 : 0 ≤ k) (h2 : k < ds.length) (q : ∀ d, ds[k.toNat]? = some d → d ∈ ds → Q d) : WO (gIdx (.list ds) (.int k)) Q :=
  ⟨_, atI_ix h1 h2, q _ (List.getElem?_eq_getElem _) (List.getElem_mem _)⟩
theorem wo_idxE {x d : D} {k : Int} (h : gIdx d (.int k) = some x) (q : Q x) : WO (gIdx d (.int k)) Q := ⟨_, h, q⟩
theorem wo_lenL {ds : List D} (q : Q (.int (ds.length : Int))) : WO (gLen (.list ds)) Q := ⟨_, rfl, q⟩
theorem wo_lenT {ds : List D} (q : Q (.int (ds.length : Int))) : WO (gLen (.tuple ds)) Q := ⟨_, rfl, q⟩
theorem wo_abs (q : Q (.int (if a < 0 then -a else a))) : WO (gAbs (.int a)) Q := ⟨_, rfl, q⟩
theorem wo_intB {b : Bool} (q : Q (.int (if b then 1 else 0))) : WO (gInt (.bool b)) Q := ⟨_, rfl, q⟩
theorem wo_intI (q : Q (.int a)) : WO (gInt (.int a)) Q := ⟨_, rfl, q⟩
theorem wo_listL {ds : List D} {Q : List D → Prop} (q : Q ds) : WO (gList (.list ds)) Q := ⟨_, rfl, q⟩
theorem wo_listT {ds : List D} {Q : List D → Prop} (q : Q ds) : WO (gList (.tuple ds)) Q := ⟨_, rfl, q⟩
theorem wo_tupL {ds : List D} (q : Q (.tuple ds)) : WO (gTuple (.list ds)) Q := ⟨_, rfl, q⟩
theorem wo_tupT {ds : List D} (q : Q (.tuple ds)) : WO (gTuple (.tuple ds)) Q := ⟨_, rfl, q⟩
theorem wo_sum {ns : List Int} {ds : List D} (h : ds = ns.map .int) (q : Q (.int ns.sum)) : WO (gSum (.list ds)) Q := ⟨_, by subst h; unfold gSum; dsimp only; rw [intsOf_map]; (try rfl), q⟩
theorem wo_all {ns : List Bool} {ds : List D} (h : ds = ns.map .bool) (q : Q (.bool (ns.all id))) : WO (gAll (.list ds)) Q := ⟨_, by subst h; unfold gAll; dsimp only; rw [blsOf_map]; (try rfl), q⟩
theorem wo_max (q : Q (.int (if b > a then b else a))) : WO (gMax2 (.int a) (.int b)) Q := ⟨_, rfl, q⟩
theorem wo_min (q : Q (.int (if b < a then b else a))) : WO (gMin2 (.int a) (.int b)) Q := ⟨_, rfl, q⟩
theorem wo_app {ds : List D} {Q : List D × D → Prop} (h : fits (ds.length + 1) = true) (q : Q (ds ++ [d], .none)) : WO (mAppend ds d) Q := ⟨_, by unfold mAppend; rw [if_pos h], q⟩
theorem wo_ext {ds es : List D} {Q : List D × D → Prop} (h : fits (ds.length + es.length) = true) (q : Q (ds ++ es, .none)) : WO (mExtend ds (.list es)) Q := ⟨_, by unfold mExtend; dsimp only; rw [if_pos h], q⟩
theorem wo_isN (q : Q (.bool (isNone d))) : WO (gIsN d .none) Q := ⟨_, rfl, q⟩
theorem wo_ntN (q : Q (.bool (!isNone d))) : WO (gNtN d .none) Q := ⟨_, rfl, q⟩
theorem wo_isiE {T : Ty} {z : D} (h : gIsi T d = some z) (q : Q z) : WO (gIsi T d) Q := ⟨z, h, q⟩
theorem wo_allE {z : D} (h : gAll d = some z) (q : Q z) : WO (gAll d) Q := ⟨z, h, q⟩
theorem wo_anyE {z : D} (h : gAny d = some z) (q : Q z) : WO (gAny d) Q := ⟨z, h, q⟩
theorem wo_eqT (h : (shp d && shp e && PyData.eqv d e) = true) (q : Q (.bool true)) : WO (gEq d e) Q := by
  simp only [Bool.and_eq_true] at h
  exact ⟨_, by unfold gEq; rw [h.1.1, h.1.2, h.2]; rfl, q⟩
theorem wo_eqF (h : (shp d && shp e && !PyData.eqv d e) = true) (q : Q (.bool false)) : WO (gEq d e) Q := by
  simp only [Bool.and_eq_true, Bool.not_eq_true'] at h
  exact ⟨_, by unfold gEq; rw [h.1.1, h.1.2, h.2]; rfl, q⟩
theorem wo_neT (h : (shp d && shp e && !PyData.eqv d e) = true) (q : Q (.bool true)) : WO (gNe d e) Q := by
  simp only [Bool.and_eq_true, Bool.not_eq_true'] at h
  exact ⟨_, by unfold gNe; rw [h.1.1, h.1.2, h.2]; rfl, q⟩
theorem wo_neF (h : (shp d && shp e && PyData.eqv d e) = true) (q : Q (.bool false)) : WO (gNe d e) Q := by
  simp only [Bool.and_eq_true] at h
  exact ⟨_, by unfold gNe; rw [h.1.1, h.1.2, h.2]; rfl, q⟩
theorem wo_isiI (q : Q (.bool true)) : WO (gIsi .int (.int a)) Q := ⟨_, rfl, q⟩
theorem wo_isiB (q : Q (.bool false)) : WO (gIsi .bool (.int a)) Q := ⟨_, rfl, q⟩
theorem wo_ixE {n j : Nat} {k : Int} {Q : Nat → Prop} (h : ixN n k = some j) (q : Q j) : WO (ixN n k) Q := ⟨j, h, q⟩
theorem wo_ix {n : Nat} {k : Int} {Q : Nat → Prop} (h1 : 0 ≤ k) (h2 : k < n) (q : Q k.toNat) : WO (ixN n k) Q := ⟨_, by unfold ixN; rw [if_pos h1, if_pos h2], q⟩
theorem mul_ok1 (h : a.natAbs < 2 ^ 64) : mulOk a b = true := by unfold mulOk; rw [decide_eq_true h]; rfl
theorem mul_ok2 (h : b.natAbs < 2 ^ 64) : mulOk a b = true := by unfold mulOk; rw [decide_eq_true h]; simp
theorem mul_ok3 (h1 : a.natAbs < 10 ^ 250 * 10 ^ 250) (h2 : b.natAbs < 10 ^ 250 * 10 ^ 250) : mulOk a b = true := by unfold mulOk; rw [decide_eq_true h1, decide_eq_true h2]; simp
theorem fits_of {n : Nat} (h : n ≤ 16777216) : fits n = true := decide_eq_true h
end
theorem wo_p10_60 {Q : D → Prop} (q : Q (.int 1000000000000000000000000000000000000000000000000000000000000)) : WO (gPow (.int 10) (.int 60)) Q := ⟨_, rfl, q⟩
theorem wo_p10_18 {Q : D → Prop} (q : Q (.int 1000000000000000000)) : WO (gPow (.int 10) (.int 18)) Q := ⟨_, rfl, q⟩
theorem wo_p10_30 {Q : D → Prop} (q : Q (.int 1000000000000000000000000000000)) : WO (gPow (.int 10) (.int 30)) Q := ⟨_, rfl, q⟩
theorem wo_p2_24 {Q : D → Prop} (q : Q (.int 16777216)) : WO (gPow (.int 2) (.int 24)) Q := ⟨_, rfl, q⟩
theorem wo_p10_8 {Q : D → Prop} (q : Q (.int 100000000)) : WO (gPow (.int 10) (.int 8)) Q := ⟨_, rfl, q⟩
theorem wo_p10_19 {Q : D → Prop} (q : Q (.int 10000000000000000000)) : WO (gPow (.int 10) (.int 19)) Q := ⟨_, rfl, q⟩
theorem wo_p10_55 {Q : D → Prop} (q : Q (.int 10000000000000000000000000000000000000000000000000000000)) : WO (gPow (.int 10) (.int 55)) Q := ⟨_, rfl, q⟩
theorem wo_p10_59 {Q : D → Prop} (q : Q (.int 100000000000000000000000000000000000000000000000000000000000)) : WO (gPow (.int 10) (.int 59)) Q := ⟨_, rfl, q⟩
theorem wo_p3_30 {Q : D → Prop} (q : Q (.int 205891132094649)) : WO (gPow (.int 3) (.int 30)) Q := ⟨_, rfl, q⟩
theorem wo_p2_40 {Q : D → Prop} (q : Q (.int 1099511627776)) : WO (gPow (.int 2) (.int 40)) Q := ⟨_, rfl, q⟩
theorem wo_p10_54 {Q : D → Prop} (q : Q (.int 1000000000000000000000000000000000000000000000000000000)) : WO (gPow (.int 10) (.int 54)) Q := ⟨_, rfl, q⟩
theorem wo_p3_13 {Q : D → Prop} (q : Q (.int 1594323)) : WO (gPow (.int 3) (.int 13)) Q := ⟨_, rfl, q⟩
theorem wo_p2_20 {Q : D → Prop} (q : Q (.int 1048576)) : WO (gPow (.int 2) (.int 20)) Q := ⟨_, rfl, q⟩
theorem wo_p10_57 {Q : D → Prop} (q : Q (.int 1000000000000000000000000000000000000000000000000000000000)) : WO (gPow (.int 10) (.int 57)) Q := ⟨_, rfl, q⟩
theorem wo_p10_40 {Q : D → Prop} (q : Q (.int 10000000000000000000000000000000000000000)) : WO (gPow (.int 10) (.int 40)) Q := ⟨_, rfl, q⟩
theorem wo_p10_61 {Q : D → Prop} (q : Q (.int 10000000000000000000000000000000000000000000000000000000000000)) : WO (gPow (.int 10) (.int 61)) Q := ⟨_, rfl, q⟩
theorem wo_p10_50 {Q : D → Prop} (q : Q (.int 100000000000000000000000000000000000000000000000000)) : WO (gPow (.int 10) (.int 50)) Q := ⟨_, rfl, q⟩
end M

namespace M
open PySem PySem.Spec PyProof.Rows L2
theorem irange_zero {n : Nat} {d : D} (h : d ∈ irange 0 n) : ∃ i : Int, d = .int i ∧ 0 ≤ i ∧ i < n := by
  unfold irange at h
  obtain ⟨k, h1, rfl⟩ := List.mem_map.mp h
  exact ⟨_, rfl, by omega, by have := List.mem_range.mp h1; omega⟩
theorem irange_length (lo : Int) (n : Nat) : (irange lo n).length = n := by unfold irange; rw [List.length_map, List.length_range]
theorem cut_take (xs : List D) (n : Nat) : M.cutD xs none (some (n : Int)) = xs.take n := by
  unfold M.cutD
  rw [HT.sIx_none, HT.sIx_nat, List.drop_zero, Nat.sub_zero]
  rcases Nat.le_total n xs.length with h | h
  · rw [Nat.min_eq_left h]
  · rw [Nat.min_eq_right h, List.take_of_length_le (Nat.le_refl _), List.take_of_length_le h]
theorem cut_from (xs : List D) (m n : Nat) : M.cutD xs (some (m : Int)) (some (n : Int)) = (xs.drop m).take (n - m) := by
  unfold M.cutD
  rw [HT.sIx_nat, HT.sIx_nat]
  by_cases h : m ≤ xs.length
  · rw [Nat.min_eq_left h]
    by_cases h2 : n ≤ xs.length
    · rw [Nat.min_eq_left h2]
    · rw [Nat.min_eq_right (by omega), List.take_of_length_le (by rw [List.length_drop]; omega), List.take_of_length_le (by rw [List.length_drop]; omega)]
  · rw [Nat.min_eq_right (show xs.length ≤ m by omega), List.drop_eq_nil_of_le (Nat.le_refl _), List.drop_eq_nil_of_le (show xs.length ≤ m by omega)]
    simp
theorem ints_get {cs : List Int} {k : Nat} {d : D} (h : (cs.map PyData.int)[k]? = some d) : ∃ c : Int, d = .int c := by
  rw [List.getElem?_map] at h
  cases e : cs[k]? with
  | none => rw [e] at h; cases h
  | some c => rw [e] at h; cases h; exact ⟨c, rfl⟩
theorem ints_mem {cs : List Int} {d : D} (h : d ∈ cs.map PyData.int) : ∃ c : Int, d = .int c := by
  obtain ⟨c, _, rfl⟩ := List.mem_map.mp h
  exact ⟨c, rfl⟩
theorem pairs_mem {xs ys : List D} {d : D} (h : d ∈ pairs xs ys) : ∃ x y, d = .tuple [x, y] ∧ x ∈ xs ∧ y ∈ ys := by
  unfold pairs at h
  obtain ⟨⟨x, y⟩, h1, rfl⟩ := List.mem_map.mp h
  exact ⟨x, y, rfl, (List.of_mem_zip h1).1, (List.of_mem_zip h1).2⟩
theorem pick_w {xs : List Int} {ds : List D} {k lo hi : Int} {Q : D → Prop} (h0 : 0 ≤ k) (h1 : k < ds.length) (e : ds = xs.map .int) (hb : ∀ x ∈ xs, lo ≤ x ∧ x ≤ hi) (q : ∀ x : Int, lo ≤ x → x ≤ hi → x ∈ xs → Q (.int x)) : WO (gIdx (.list ds) (.int k)) Q := by
  subst e
  refine wo_idxL h0 h1 fun d _ hd => ?_
  obtain ⟨x, hx, rfl⟩ := List.mem_map.mp hd
  exact q x (hb x hx).1 (hb x hx).2 hx
/-! ### common parts -/
mutual
theorem eqv_refl0 : ∀ d : D, d.canLay0 = true → PyData.eqv d d = true
  | .none, _ => by unfold PyData.eqv; rfl
  | .bool b, _ => by unfold PyData.eqv; simp
  | .int b, _ => by unfold PyData.eqv; simp
  | .str b, _ => by unfold PyData.eqv; simp
  | .list ds, h => by unfold PyData.eqv; exact eqvAll_refl0 ds (by unfold PyData.canLay0 at h; exact h)
  | .tuple ds, h => by unfold PyData.eqv; exact eqvAll_refl0 ds (by unfold PyData.canLay0 at h; exact h)
  | .dict _, h => by unfold PyData.canLay0 at h; cases h
theorem eqvAll_refl0 : ∀ ds : List D, PyData.canLayAll0 ds = true → PyData.eqvAll ds ds = true
  | [], _ => by unfold PyData.eqvAll; rfl
  | d :: ds, h => by
    unfold PyData.canLayAll0 at h
    unfold PyData.eqvAll
    rw [eqv_refl0 d (Bool.and_eq_true_iff.mp h).1, eqvAll_refl0 ds (Bool.and_eq_true_iff.mp h).2]
    rfl
end
theorem eqv_refl (d : D) (h : shp d = true) : PyData.eqv d d = true := eqv_refl0 d (by unfold shp SeqAt.shaped at h; exact (Bool.and_eq_true_iff.mp h).1)
theorem canLay_ints : ∀ ns : List Int, PyData.canLayAll0 (ns.map .int) = true
  | [] => rfl
  | n :: ns => canLay_ints ns
theorem depth_ints : ∀ ns : List Int, PyData.depthAll (ns.map .int) = 0
  | [] => rfl
  | n :: ns => by
    show max 0 (PyData.depthAll (ns.map .int)) = 0
    rw [depth_ints ns]
    rfl
theorem shp_ints (ns : List Int) : shp (.list (ns.map .int)) = true := by
  unfold shp SeqAt.shaped
  have h1 : (PyData.list (ns.map PyData.int)).canLay0 = true := canLay_ints ns
  have h2 : (PyData.list (ns.map PyData.int)).depth = 1 := by
    show PyData.depthAll (ns.map .int) + 1 = 1
    rw [depth_ints]
  rw [h1, h2]
  rfl
theorem wo_eqR {d : D} {Q : D → Prop} (h : shp d = true) (q : Q (.bool true)) : WO (gEq d d) Q := wo_eqD h h (by rw [eqv_refl d h]; exact q)
structure IsG (a b g : Int) : Prop where
  pos : 0 ≤ g
  da : g ∣ a
  db : g ∣ b
  all : ∀ d : Int, d ∣ a → d ∣ b → d ∣ g
theorem IsG.uniq {a b g h : Int} (x : IsG a b g) (y : IsG a b h) : g = h := Int.dvd_antisymm x.pos y.pos (y.all g x.da x.db) (x.all h y.da y.db)
theorem IsG.symm {a b g : Int} (x : IsG a b g) : IsG b a g := ⟨x.pos, x.db, x.da, fun d h1 h2 => x.all d h2 h1⟩
theorem IsG.ne {a b g : Int} (x : IsG a b g) (h : 0 < b) : 0 < g := by
  rcases Int.lt_or_eq_of_le x.pos with h1 | h1
  · exact h1
  · have := x.db
    rw [← h1] at this
    have := Int.zero_dvd.mp this
    omega
/-- g is made of both, s and t times -/
structure Bz (a b g s t : Int) : Prop where
  G : IsG a b g
  eq : s * a + t * b = g
  sb : s.natAbs ≤ b.natAbs + 1
  tb : t.natAbs ≤ a.natAbs + 1
/-- the turn's state of the search for the greatest common part -/
structure Eu (a b r0 s0 t0 r1 s1 t1 : Int) : Prop where
  h0 : 0 ≤ r0
  h1 : 0 ≤ r1
  e0 : s0 * a + t0 * b = r0
  e1 : s1 * a + t1 * b = r1
  dv : ∀ d : Int, (d ∣ r0 ∧ d ∣ r1) ↔ (d ∣ a ∧ d ∣ b)
  sg : ∃ e p0 p1 u0 u1 : Int, (e = 1 ∨ e = -1) ∧ 0 ≤ p0 ∧ 0 ≤ p1 ∧ 0 ≤ u0 ∧ 0 ≤ u1 ∧ s0 = e * p0 ∧ s1 = -(e * p1) ∧ t0 = -(e * u0) ∧ t1 = e * u1 ∧ p0 * r1 + p1 * r0 = b ∧ u0 * r1 + u1 * r0 = a ∧ p0 ≤ b + 1 ∧ p1 ≤ b + 1 ∧ u0 ≤ a + 1 ∧ u1 ≤ a + 1
theorem Eu.start {a b : Int} (ha : 0 ≤ a) (hb : 0 ≤ b) : Eu a b a 1 0 b 0 1 :=
  ⟨ha, hb, by omega, by omega, fun d => Iff.rfl, 1, 1, 0, 0, 1, .inl rfl, by omega, by omega, by omega, by omega, by omega, by omega, by omega, by omega, by omega, by omega, by omega, by omega, by omega, by omega⟩
theorem Eu.step {a b r0 s0 t0 r1 s1 t1 : Int} (E : Eu a b r0 s0 t0 r1 s1 t1) (hr : r1 ≠ 0) : Eu a b r1 s1 t1 (r0 - r0 / r1 * r1) (s0 - r0 / r1 * s1) (t0 - r0 / r1 * t1) ∧ (r0 - r0 / r1 * r1).toNat < r1.toNat ∧ 0 ≤ r0 / r1 ∧ r0 / r1 ≤ r0 := by
  obtain ⟨h0, h1, e0, e1, dv, e, p0, p1, u0, u1, he, hp0, hp1, hu0, hu1, rfl, rfl, rfl, rfl, i1, i2, b1, b2, b3, b4⟩ := E
  have hr1 : 0 < r1 := by omega
  have q0 : 0 ≤ r0 / r1 := Int.ediv_nonneg h0 h1
  have q1 : r0 / r1 ≤ r0 := Int.ediv_le_self _ h0
  have m1 := Int.mul_ediv_add_emod r0 r1
  have m2 := Int.emod_nonneg r0 hr
  have m3 := Int.emod_lt_of_pos r0 hr1
  have m4 : r0 - r0 / r1 * r1 = r0 % r1 := by rw [Int.mul_comm]; omega
  generalize r0 / r1 = q at *
  have k1 : 0 ≤ q * p1 := Int.mul_nonneg q0 hp1
  have k2 : 0 ≤ q * u1 := Int.mul_nonneg q0 hu1
  have k3 : p1 * (r0 - q * r1) + (p0 + q * p1) * r1 = b := by grind
  have k4 : u1 * (r0 - q * r1) + (u0 + q * u1) * r1 = a := by grind
  have k5 : 0 ≤ p1 * (r0 - q * r1) := Int.mul_nonneg hp1 (by omega)
  have k6 : 0 ≤ u1 * (r0 - q * r1) := Int.mul_nonneg hu1 (by omega)
  have k7 : (p0 + q * p1) * 1 ≤ (p0 + q * p1) * r1 := Int.mul_le_mul_of_nonneg_left (by omega) (by omega)
  have k8 : (u0 + q * u1) * 1 ≤ (u0 + q * u1) * r1 := Int.mul_le_mul_of_nonneg_left (by omega) (by omega)
  refine ⟨⟨h1, by omega, e1, by grind, fun d => ?_, -e, p1, p0 + q * p1, u1, u0 + q * u1, by omega, hp1, by omega, hu1, by omega, by grind, by grind, by grind, by grind, k3, k4, by omega, by omega, by omega, by omega⟩, by omega, q0, q1⟩
  rw [← dv d]
  constructor
  · rintro ⟨d1, d2⟩
    refine ⟨?_, d1⟩
    have : r0 = (r0 - q * r1) + q * r1 := by omega
    rw [this]
    exact Int.dvd_add d2 (Int.dvd_mul_of_dvd_right d1)
  · rintro ⟨d1, d2⟩
    exact ⟨d2, Int.dvd_sub d1 (Int.dvd_mul_of_dvd_right d2)⟩
theorem Eu.fin {a b r0 s0 t0 s1 t1 : Int} (ha : 0 ≤ a) (hb : 0 ≤ b) (E : Eu a b r0 s0 t0 0 s1 t1) : Bz a b r0 s0 t0 := by
  obtain ⟨h0, h1, e0, e1, dv, e, p0, p1, u0, u1, he, hp0, hp1, hu0, hu1, rfl, rfl, rfl, rfl, i1, i2, b1, b2, b3, b4⟩ := E
  have := (dv r0).mp ⟨Int.dvd_refl _, Int.dvd_zero _⟩
  refine ⟨⟨h0, this.1, this.2, fun d d1 d2 => ((dv d).mpr ⟨d1, d2⟩).1⟩, e0, ?_, ?_⟩
  · rcases he with rfl | rfl <;> omega
  · rcases he with rfl | rfl <;> omega
theorem Eu.sz {a b r0 s0 t0 r1 s1 t1 : Int} (E : Eu a b r0 s0 t0 r1 s1 t1) : s1.natAbs ≤ b.natAbs + 1 ∧ t1.natAbs ≤ a.natAbs + 1 := by
  obtain ⟨h0, h1, e0, e1, dv, e, p0, p1, u0, u1, he, hp0, hp1, hu0, hu1, rfl, rfl, rfl, rfl, i1, i2, b1, b2, b3, b4⟩ := E
  constructor
  · rcases he with rfl | rfl <;> omega
  · rcases he with rfl | rfl <;> omega
/-- by rests alone: halved each turn -/
theorem rest_turn {x y : Int} {n : Nat} (hy : 0 < y) (hx : y ≤ x) (h : x * y < 2 ^ (n + 1)) : y * (x % y) < 2 ^ n := by
  have m1 := Int.mul_ediv_add_emod x y
  have m2 := Int.emod_nonneg x (show y ≠ 0 by omega)
  have m3 := Int.emod_lt_of_pos x hy
  have q1 : 1 ≤ x / y := by
    have := Int.le_ediv_of_mul_le hy (show 1 * y ≤ x by omega)
    exact this
  have q2 : y * 1 ≤ y * (x / y) := Int.mul_le_mul_of_nonneg_left q1 (by omega)
  have h2 : 2 * (x % y) ≤ x := by omega
  have h3 : y * (2 * (x % y)) ≤ y * x := Int.mul_le_mul_of_nonneg_left h2 (by omega)
  have h4 : y * (2 * (x % y)) = 2 * (y * (x % y)) := by grind
  rw [Int.mul_comm y x] at h3
  rw [Int.pow_succ] at h
  omega
/-! ### values that == can be asked of -/
def scal : D → Bool
  | .none => true
  | .bool _ => true
  | .int _ => true
  | .str x => (PyData.str x).canLay0
  | _ => false
theorem scal_int (x : Int) : scal (.int x) = true := rfl
theorem scal_lay : ∀ d : D, scal d = true → d.canLay0 = true ∧ d.depth = 0
  | .none, _ => ⟨rfl, rfl⟩
  | .bool _, _ => ⟨rfl, rfl⟩
  | .int _, _ => ⟨rfl, rfl⟩
  | .str _, h => ⟨h, rfl⟩
  | .list _, h => by cases h
  | .tuple _, h => by cases h
  | .dict _, h => by cases h
theorem scal_all : ∀ ds : List D, ds.all scal = true → PyData.canLayAll0 ds = true ∧ PyData.depthAll ds = 0
  | [], _ => ⟨rfl, rfl⟩
  | d :: ds, h => by
    rw [List.all_cons, Bool.and_eq_true] at h
    obtain ⟨h1, h2⟩ := scal_lay d h.1
    obtain ⟨h3, h4⟩ := scal_all ds h.2
    refine ⟨?_, ?_⟩
    · show (d.canLay0 && PyData.canLayAll0 ds) = true
      rw [h1, h3]; rfl
    · show max d.depth (PyData.depthAll ds) = 0
      rw [h2, h4]; rfl
theorem shp_tup {ds : List D} (h : ds.all scal = true) : shp (.tuple ds) = true := by
  obtain ⟨h1, h2⟩ := scal_all ds h
  unfold shp SeqAt.shaped
  rw [show (PyData.tuple ds).canLay0 = true from h1, show (PyData.tuple ds).depth = 1 from by show PyData.depthAll ds + 1 = 1; rw [h2]]
  rfl
/-! ### stretches joined -/
def Jd (f1 s1 f2 s2 : Int) (d : D) : Prop := ∃ g : Int, IsG s1 s2 g ∧ 0 < g ∧ (((f2 - f1) % g ≠ 0 ∧ d = .tuple [.str "none", .int g]) ∨ ((f2 - f1) % g = 0 ∧ ∃ x : Int, 0 ≤ x ∧ x < s1 / g * s2 ∧ x % s1 = f1 ∧ x % s2 = f2 ∧ d = .tuple [.str "all", .int x, .int (s1 / g * s2)]))
theorem emod_of_sub {x y s : Int} (h : s ∣ x - y) (h0 : 0 ≤ y) (h1 : y < s) : x % s = y := by
  have := Int.emod_emod_of_dvd x (Int.dvd_refl s)
  rw [← Int.emod_eq_of_lt h0 h1]
  exact Int.emod_eq_emod_iff_emod_sub_eq_zero.mpr (Int.emod_eq_zero_of_dvd h)
theorem sub_of_emod {x y s : Int} (h : x % s = y % s) : s ∣ x - y := Int.dvd_of_emod_eq_zero (Int.emod_eq_emod_iff_emod_sub_eq_zero.mp h)
theorem lcm_dvd {s1 s2 g a b x : Int} (B : Bz s1 s2 g a b) (hg : 0 < g) (h1 : s1 ∣ x) (h2 : s2 ∣ x) : s1 / g * s2 ∣ x := by
  obtain ⟨p, hp⟩ := B.G.da
  obtain ⟨q, hq⟩ := B.G.db
  obtain ⟨c, rfl⟩ := h1
  obtain ⟨d, hd⟩ := h2
  have e1 : s1 / g = p := by rw [hp, Int.mul_ediv_cancel_left _ (by omega)]
  rw [e1]
  have eq := B.eq
  refine ⟨a * d + b * c * 1, ?_⟩
  have : g * (s1 * c) = g * (p * s2 * (a * d + b * c * 1)) := by grind
  exact Int.eq_of_mul_eq_mul_left (show g ≠ 0 by omega) this
theorem zero_of_dvd {x w : Int} (h : w ∣ x) (h1 : -w < x) (h2 : x < w) : x = 0 := by
  obtain ⟨k, rfl⟩ := h
  rcases Int.lt_trichotomy k 0 with h | h | h
  · have := Int.mul_le_mul_of_nonneg_left (show k ≤ -1 by omega) (show 0 ≤ w by omega)
    omega
  · rw [h, Int.mul_zero]
  · have := Int.mul_le_mul_of_nonneg_left (show 1 ≤ k by omega) (show 0 ≤ w by omega)
    omega
theorem IsG.bz {a b g : Int} (G : IsG a b g) (hb : 0 ≤ b) (ha : 0 ≤ a) : ∃ s t : Int, Bz a b g s t := by
  -- by the search itself
  have : ∀ n : Nat, ∀ r0 s0 t0 r1 s1 t1 : Int, r1.toNat < n → Eu a b r0 s0 t0 r1 s1 t1 → ∃ r s t : Int, Bz a b r s t := by
    intro n
    induction n with
    | zero => intro _ _ _ _ _ _ h; omega
    | succ n ih =>
      intro r0 s0 t0 r1 s1 t1 h E
      by_cases hr : r1 = 0
      · subst hr
        exact ⟨_, _, _, E.fin ha hb⟩
      · obtain ⟨E2, lt, _, _⟩ := E.step hr
        exact ih _ _ _ _ _ _ (by omega) E2
  obtain ⟨r, s, t, B⟩ := this (b.toNat + 1) a 1 0 b 0 1 (by omega) (Eu.start ha hb)
  have := B.G.uniq G
  subst this
  exact ⟨s, t, B⟩
theorem crt_uniq {s1 s2 g x y : Int} (G : IsG s1 s2 g) (hg : 0 < g) (h1 : 0 ≤ s1) (h2 : 0 ≤ s2) (x0 : 0 ≤ x) (x1 : x < s1 / g * s2) (y0 : 0 ≤ y) (y1 : y < s1 / g * s2) (e1 : x % s1 = y % s1) (e2 : x % s2 = y % s2) : x = y := by
  obtain ⟨s, t, B⟩ := G.bz h2 h1
  have := zero_of_dvd (lcm_dvd B hg (sub_of_emod e1) (sub_of_emod e2)) (by omega) (by omega)
  omega
theorem lcm_comm {s1 s2 g : Int} (G : IsG s1 s2 g) (hg : 0 < g) : s1 / g * s2 = s2 / g * s1 := by
  obtain ⟨p, hp⟩ := G.da
  obtain ⟨q, hq⟩ := G.db
  have e1 : s1 / g = p := by rw [hp, Int.mul_ediv_cancel_left _ (by omega)]
  have e2 : s2 / g = q := by rw [hq, Int.mul_ediv_cancel_left _ (by omega)]
  rw [e1, e2, hp, hq]
  grind
theorem Jd.uniq {f1 s1 f2 s2 : Int} {d e : D} (h1 : 0 < s1) (h2 : 0 < s2) (x : Jd f1 s1 f2 s2 d) (y : Jd f1 s1 f2 s2 e) : d = e := by
  obtain ⟨g, G, hg, x⟩ := x
  obtain ⟨g', G', _, y⟩ := y
  have := G.uniq G'
  subst this
  rcases x with ⟨n, rfl⟩ | ⟨n, x, x0, x1, x2, x3, rfl⟩
  · rcases y with ⟨_, rfl⟩ | ⟨m, _⟩
    · rfl
    · exact absurd m n
  · rcases y with ⟨m, _⟩ | ⟨m, y, y0, y1, y2, y3, rfl⟩
    · exact absurd n m
    · rw [crt_uniq G hg (by omega) (by omega) x0 x1 y0 y1 (x2.trans y2.symm) (x3.trans y3.symm)]
theorem mul_le2 {a b A B : Int} (ha : 0 ≤ a) (hb : 0 ≤ b) (h1 : a ≤ A) (h2 : b ≤ B) : a * b ≤ A * B :=
  Int.le_trans (Int.mul_le_mul_of_nonneg_left h2 ha) (Int.mul_le_mul_of_nonneg_right h1 (by omega))
/-! ### weights -/
def mapI (f : Int → Int) : D → D
  | .int x => .int (f x)
  | d => d
theorem mapI_ints (f : Int → Int) (ns : List Int) : (ns.map PyData.int).map (mapI f) = (ns.map f).map .int := by
  rw [List.map_map, List.map_map]
  rfl
theorem filter_yes (ds : List D) : ds.filter (fun _ => true) = ds := List.filter_eq_self.mpr fun _ _ => rfl
def dot : List Int → List Int → Int
  | w :: ws, n :: ns => w * n + dot ws ns
  | _, _ => 0
theorem dot_app : ∀ (ws ns : List Int) (w n : Int), ws.length = ns.length → dot (ws ++ [w]) (ns ++ [n]) = dot ws ns + w * n
  | [], [], w, n, _ => by simp [dot]
  | [], _ :: _, _, _, h => by simp at h
  | _ :: _, [], _, _, h => by simp at h
  | v :: ws, m :: ns, w, n, h => by
    have := dot_app ws ns w n (by simpa using h)
    show v * m + dot (ws ++ [w]) (ns ++ [n]) = v * m + dot ws ns + w * n
    omega
theorem dot_mod (m s : Int) : ∀ (ws ns : List Int), m ∣ dot (ws.map fun w => w * s % m) ns - s * dot ws ns
  | [], [] => ⟨0, by simp [dot]⟩
  | [], _ :: _ => ⟨0, by simp [dot]⟩
  | _ :: _, [] => ⟨0, by simp [dot]⟩
  | w :: ws, n :: ns => by
    obtain ⟨c, hc⟩ := dot_mod m s ws ns
    have e := Int.mul_ediv_add_emod (w * s) m
    refine ⟨c - w * s / m * n, ?_⟩
    show w * s % m * n + dot (ws.map fun w => w * s % m) ns - s * (w * n + dot ws ns) = _
    generalize w * s / m = q at *
    generalize w * s % m = r at *
    grind
theorem dot_sum (t : Int) : ∀ (ws ns : List Int), (List.zipWith (fun w n => w * n * t) ws ns).sum = dot ws ns * t
  | [], [] => by simp [dot]
  | [], _ :: _ => by simp [dot]
  | _ :: _, [] => by simp [dot]
  | w :: ws, n :: ns => by
    have := dot_sum t ws ns
    rw [List.zipWith_cons_cons, List.sum_cons, this]
    show w * n * t + dot ws ns * t = (w * n + dot ws ns) * t
    grind
def mapT (f : Int → Int → Int) : D → D
  | .tuple [.int x, .int y] => .int (f x y)
  | d => d
theorem pairs_ints (ws ns : List Int) : pairs (ws.map .int) (ns.map .int) = (ws.zip ns).map fun p => .tuple [.int p.1, .int p.2] := by
  unfold pairs
  rw [List.zip_map, List.map_map]
  rfl
theorem mapT_pairs (f : Int → Int → Int) (ws ns : List Int) : (pairs (ws.map .int) (ns.map .int)).map (mapT f) = (List.zipWith f ws ns).map .int := by
  rw [pairs_ints, List.map_map]
  induction ws generalizing ns with
  | nil => simp
  | cons w ws ih =>
    cases ns with
    | nil => simp
    | cons n ns =>
      rw [List.zip_cons_cons, List.zipWith_cons_cons, List.map_cons, List.map_cons, ih ns]
      rfl
structure We (m : Int) (ns : List Int) (g : Int) (ws : List Int) : Prop where
  pos : 0 < g
  dm : g ∣ m
  dn : ∀ n ∈ ns, g ∣ n
  all : ∀ d : Int, d ∣ m → (∀ n ∈ ns, d ∣ n) → d ∣ g
  len : ws.length = ns.length
  dot : m ∣ dot ws ns - g
  rng : ∀ w ∈ ws, 0 ≤ w ∧ w < m
theorem We.start {m : Int} (hm : 0 < m) : We m [] m [] := ⟨hm, Int.dvd_refl _, fun n h => (by cases h), fun d h _ => h, rfl, ⟨-1, by simp [M.dot]⟩, fun w h => (by cases h)⟩
theorem We.step {m g n g' s t : Int} {ns ws : List Int} (hm : 0 < m) (W : We m ns g ws) (B : Bz g (n % m) g' s t) : We m (ns ++ [n]) g' ((ws.map fun w => w * s % m) ++ [t % m]) := by
  have hgm := Int.dvd_trans B.G.da W.dm
  have en : n = n % m + m * (n / m) := by have := Int.mul_ediv_add_emod n m; omega
  refine ⟨?_, hgm, fun x hx => ?_, fun d d1 d2 => ?_, ?_, ?_, fun w hw => ?_⟩
  · rcases Int.lt_or_eq_of_le B.G.pos with h | h
    · exact h
    · rw [← h] at hgm
      have := Int.zero_dvd.mp hgm
      omega
  · rcases List.mem_append.mp hx with hx | hx
    · exact Int.dvd_trans B.G.da (W.dn x hx)
    · rw [List.mem_singleton] at hx
      subst hx
      rw [en]
      exact Int.dvd_add B.G.db (Int.dvd_mul_of_dvd_left hgm)
  · refine B.G.all d (W.all d d1 fun x hx => d2 x (List.mem_append_left _ hx)) ?_
    have : n % m = n - m * (n / m) := by omega
    rw [this]
    exact Int.dvd_sub (d2 n (by simp)) (Int.dvd_mul_of_dvd_left d1)
  · simp [W.len]
  · rw [dot_app _ _ _ _ (by simp [W.len])]
    obtain ⟨a, ha⟩ := dot_mod m s ws ns
    obtain ⟨b, hb⟩ := W.dot
    have et := Int.mul_ediv_add_emod t m
    have eq := B.eq
    refine ⟨a + s * b - t / m * n + t * (n / m), ?_⟩
    generalize M.dot (ws.map fun w => w * s % m) ns = X at *
    generalize M.dot ws ns = Y at *
    generalize n / m = p at *
    generalize n % m = q at *
    generalize t / m = u at *
    generalize t % m = v at *
    grind
  · rcases List.mem_append.mp hw with hw | hw
    · obtain ⟨v, _, rfl⟩ := List.mem_map.mp hw
      exact ⟨Int.emod_nonneg _ (by omega), Int.emod_lt_of_pos _ hm⟩
    · rw [List.mem_singleton] at hw
      subst hw
      exact ⟨Int.emod_nonneg _ (by omega), Int.emod_lt_of_pos _ hm⟩
theorem We.one {m f g : Int} {ws : List Int} (W : We m [f] g ws) : IsG m f g := ⟨by have := W.pos; omega, W.dm, W.dn f (by simp), fun d d1 d2 => W.all d d1 fun n hn => by rw [List.mem_singleton] at hn; subst hn; exact d2⟩
theorem wo_allM {ds : List D} {p : D → Bool} {Q : D → Prop} (q : Q (.bool (ds.all p))) : WO (gAll (.list (ds.map fun d => .bool (p d)))) Q := by
  refine wo_all (ns := ds.map p) (by rw [List.map_map]; rfl) ?_
  rw [List.all_map]
  exact q
/-! ### many stretches -/
theorem Jd.all {f1 s1 f2 s2 : Int} {d : D} (h0 : 0 ≤ f1) (h1 : f1 < s1) (h2 : 0 ≤ f2) (h3 : f2 < s2) (J : Jd f1 s1 f2 s2 d) :
    (∃ g : Int, d = .tuple [.str "none", .int g] ∧ ∀ y : Int, ¬ (y % s1 = f1 ∧ y % s2 = f2)) ∨ ∃ x w : Int, d = .tuple [.str "all", .int x, .int w] ∧ 0 ≤ x ∧ x < w ∧ w ≤ s1 * s2 ∧ ∀ y : Int, (y % s1 = f1 ∧ y % s2 = f2) ↔ y % w = x := by
  obtain ⟨g, G, hg, ⟨hn, rfl⟩ | ⟨hn, x, x0, x1, x2, x3, rfl⟩⟩ := J
  · refine .inl ⟨g, rfl, fun y ⟨e1, e2⟩ => hn ?_⟩
    have a1 : s1 ∣ y - f1 := sub_of_emod (by rw [e1, Int.emod_eq_of_lt h0 h1])
    have a2 : s2 ∣ y - f2 := sub_of_emod (by rw [e2, Int.emod_eq_of_lt h2 h3])
    have := Int.dvd_sub (Int.dvd_trans G.da a1) (Int.dvd_trans G.db a2)
    rw [show y - f1 - (y - f2) = f2 - f1 by omega] at this
    exact Int.emod_eq_zero_of_dvd this
  · obtain ⟨s, t, B⟩ := G.bz (show 0 ≤ s2 by omega) (show 0 ≤ s1 by omega)
    have hd : s1 / g ≤ s1 := Int.ediv_le_self _ (by omega)
    refine .inr ⟨x, s1 / g * s2, rfl, x0, x1, Int.mul_le_mul_of_nonneg_right hd (by omega), fun y => ⟨fun ⟨e1, e2⟩ => ?_, fun e => ?_⟩⟩
    · exact emod_of_sub (lcm_dvd B hg (sub_of_emod (e1.trans x2.symm)) (sub_of_emod (e2.trans x3.symm))) x0 x1
    · have hw : s1 / g * s2 ∣ y - x := sub_of_emod (by rw [e, Int.emod_eq_of_lt x0 x1])
      have w2 : s2 ∣ s1 / g * s2 := Int.dvd_mul_left _ _
      have w1 : s1 ∣ s1 / g * s2 := by rw [lcm_comm G hg]; exact Int.dvd_mul_left _ _
      refine ⟨?_, ?_⟩
      · rw [← x2]
        exact Int.emod_eq_emod_iff_emod_sub_eq_zero.mpr (Int.emod_eq_zero_of_dvd (Int.dvd_trans w1 hw))
      · rw [← x3]
        exact Int.emod_eq_emod_iff_emod_sub_eq_zero.mpr (Int.emod_eq_zero_of_dvd (Int.dvd_trans w2 hw))
abbrev St2 := Int × Int
def Alls (ss : List St2) (x : Int) : Prop := ∀ p ∈ ss, x % p.2 = p.1
def stD (p : St2) : D := .tuple [.int p.1, .int p.2]
def Told (ss : List St2) (d : D) : Prop := (d = .none ∧ ∀ x, ¬ Alls ss x) ∨ ∃ p : St2, d = stD p ∧ 0 ≤ p.1 ∧ p.1 < p.2 ∧ ∀ x, Alls ss x ↔ x % p.2 = p.1
theorem Told.uniq {ss tt : List St2} {d e : D} (h : ∀ x, Alls ss x ↔ Alls tt x) (x : Told ss d) (y : Told tt e) : d = e := by
  rcases x with ⟨rfl, x⟩ | ⟨⟨f, w⟩, rfl, x0, x1, x⟩
  · rcases y with ⟨rfl, _⟩ | ⟨⟨f, w⟩, rfl, y0, y1, y⟩
    · rfl
    · exact absurd ((h f).mpr ((y f).mpr (Int.emod_eq_of_lt y0 y1))) (x f)
  · rcases y with ⟨rfl, y⟩ | ⟨⟨f', w'⟩, rfl, y0, y1, y⟩
    · exact absurd ((h f).mp ((x f).mpr (Int.emod_eq_of_lt x0 x1))) (y f)
    · dsimp only at x x0 x1 y y0 y1
      have key : ∀ z : Int, z % w = f ↔ z % w' = f' := fun z => (x z).symm.trans ((h z).trans (y z))
      have a1 : (f + w) % w' = f' := (key _).mp (by rw [Int.add_emod_right]; exact Int.emod_eq_of_lt x0 x1)
      have a2 : f % w' = f' := (key _).mp (Int.emod_eq_of_lt x0 x1)
      have b1 : (f' + w') % w = f := (key _).mpr (by rw [Int.add_emod_right]; exact Int.emod_eq_of_lt y0 y1)
      have b2 : f' % w = f := (key _).mpr (Int.emod_eq_of_lt y0 y1)
      have d1 : w' ∣ w := by have := sub_of_emod (a1.trans a2.symm); rwa [show f + w - f = w by omega] at this
      have d2 : w ∣ w' := by have := sub_of_emod (b1.trans b2.symm); rwa [show f' + w' - f' = w' by omega] at this
      have := Int.dvd_antisymm (by omega) (by omega) d1 d2
      subst this
      rw [Int.emod_eq_of_lt x0 x1] at a2
      rw [a2]
theorem Told.shp {ss : List St2} {d : D} (h : Told ss d) : M.shp d = true := by
  rcases h with ⟨rfl, _⟩ | ⟨p, rfl, _⟩
  · rfl
  · exact shp_tup (by simp only [List.all_cons, List.all_nil, scal_int, Bool.and_true])
theorem Alls.cons {p : St2} {ss : List St2} {x : Int} : Alls (p :: ss) x ↔ x % p.2 = p.1 ∧ Alls ss x := by
  unfold Alls
  simp
end M

namespace M
open PySem PySem.Spec PyProof.Rows L2
section
variable {X : Cx}
theorem Da.zip {F : Hp} : ∀ {xs : List V} {ds : List D}, Da F xs ds → ∀ q ∈ xs.zip ds, Dt F q.1 q.2
  | [], [], _, q, hq => by simp at hq
  | [], _ :: _, h, _, _ => by cases h
  | _ :: _, [], h, _, _ => by cases h
  | _ :: _, _ :: _, h, q, hq => by
    cases h with
    | cons h1 t =>
      rw [List.zip_cons_cons] at hq
      rcases List.mem_cons.mp hq with rfl | hq
      · exact h1
      · exact Da.zip t q hq
/-! ### list of a text, of a range; tuple of a range -/
def lRg1 (f : Ef) : Lf := fun env => (f env).bind fun r => match r.1 with
  | .int n => if smallI n && fits n.toNat then some (irange 0 n.toNat, r.2) else none
  | _ => none
def eTupRg (f : Ef) : Ef := fun env => (lRg1 f env).map fun r => (.tuple r.1, r.2)
/-! ### xs + ys, xs * k as new lists -/
/-- xs a name: its list may be the def's own -/
def asList : Sl → Option (List D)
  | .own _ xs => some xs
  | .val (.list xs) => some xs
  | _ => none
def listD : D → Option (List D)
  | .list xs => some xs
  | _ => none
def lAddV (i : Nat) (fb : Ef) : Lf := fun env => (eO i env).bind fun _ => (fb env).bind fun q => (listD q.1).bind fun ys => ((q.2[i]?).bind asList).bind fun xs => if fits (xs.length + ys.length) then some (xs ++ ys, q.2) else none
/-- both are values -/
def lAddE (fa fb : Ef) : Lf := fun env => (fa env).bind fun r => (fb r.2).bind fun q => match r.1, q.1 with
  | .list xs, .list ys => if fits (xs.length + ys.length) then some (xs ++ ys, q.2) else none
  | _, _ => none
theorem xn_addE {a b : Expr} {fa fb : Ef} {pos : Pos} (ha : XE X a fa) (hb : XE X b fb) : XN X (.BinOp a .Add b pos) (lAddE fa fb) := by
  obtain ⟨ta, h1, h2⟩ := ha.ex
  obtain ⟨tb, h3, h4⟩ := hb.ex
  refine ⟨_, pe_op op_addA h1 h3, fun G F env s H ds env' k e Q q => ?_⟩
  unfold lAddE at e
  obtain ⟨⟨d1, e1⟩, g1, e⟩ := Option.bind_eq_some_iff.mp e
  obtain ⟨⟨d2, e2⟩, g2, e⟩ := Option.bind_eq_some_iff.mp e
  refine h2 G F env s H d1 e1 k g1 _ fun F1 H1 v1 k1 s1 p1 => ?_
  refine h4 G F1 e1 s H1 d2 e2 k1 g2 _ fun F2 H2 v2 k2 s2 p2 => ?_
  dsimp only at e
  split at e
  · split at e
    · rename_i hf
      cases e
      have p1' := Dt.mono s2 _ _ p1
      cases p1' with
      | lst a1 b1 =>
        cases p2 with
        | lst a2 b2 =>
          refine .inr (.inr (.inl ⟨_, _, _, _, rfl, rfl, k2.fr _ _ a1, k2.fr _ _ a2, by rw [b1.length, b2.length]; exact fits_line hf, fun p hp => ?_⟩))
          exact q F2 _ p _ (k2.laid hp) (s1.trans s2) upd_same (k2.fr.free hp) (k2.dom p hp) (k2.pin.free hp) (k2.notown hp) (b1.append b2)
    · cases e
  · cases e
section
variable {env : En} {fa fb : Ef} {i : Nat}
theorem wl_addO {Q : List D → En → Prop} {b : Bool} {ds0 : List D} (h0 : env[i]? = some (.own b ds0)) (h : WE fb env fun y e' => IsL y fun ys => Own e'[i]? fun _ xs => Fit (xs.length + ys.length) (Q (xs ++ ys) e')) : WL (lAddV i fb) env Q := by
  obtain ⟨y, e', h1, h⟩ := h
  cases y with
  | list ys =>
    obtain ⟨b, xs, h2, h3, q⟩ := h
    exact ⟨_, e', by unfold lAddV; simp [eO, h0, h1, h2, h3, listD, asList], q⟩
  | _ => cases h
theorem wl_addE {Q : List D → En → Prop} (h : WE fa env fun x e => WE fb e fun y e' => IsL x fun xs => IsL y fun ys => Fit (xs.length + ys.length) (Q (xs ++ ys) e')) : WL (lAddE fa fb) env Q := by
  obtain ⟨x, e, h1, y, e', h2, h⟩ := h
  cases x with
  | list xs =>
    cases y with
    | list ys =>
      obtain ⟨h3, q⟩ := h
      exact ⟨_, e', by unfold lAddE; simp [h1, h2, h3], q⟩
    | _ => cases h
  | _ => cases h
theorem wl_rg1 {Q : List D → En → Prop} (h : WE fa env fun x e => IsI x fun n => Sml n (Fit n.toNat (Q (irange 0 n.toNat) e))) : WL (lRg1 fa) env Q := by
  obtain ⟨x, e, h1, h⟩ := h
  cases x with
  | int n =>
    obtain ⟨h2, h3, q⟩ := h
    exact ⟨_, e, by unfold lRg1; simp [h1, h2, h3], q⟩
  | _ => cases h
theorem we_tupRg {Q : D → En → Prop} (h : WL (lRg1 fa) env fun ds e => Q (.tuple ds) e) : WE (eTupRg fa) env Q := by
  obtain ⟨ds, e, h1, q⟩ := h
  exact ⟨_, e, by unfold eTupRg; rw [h1]; rfl, q⟩
end
end
end M

namespace M
open PySem PySem.Spec PyProof.Rows L2
/-! ### own lists looked at as values, for as long as an expression runs whose answer is flat -/
def unown : Sl → Sl
  | .own _ ds => .val (.list ds)
  | x => x
theorem unown_own {b : Bool} {ds : List D} : unown (.own b ds) = .val (.list ds) := rfl
theorem unown_val {d : D} : unown (.val d) = .val d := rfl
theorem unown_no : unown .no = .no := rfl
theorem unown_ro {ds : List D} : unown (.ro ds) = .ro ds := rfl
def unowns : En → En
  | [] => []
  | x :: xs => unown x :: unowns xs
theorem unowns_nil : unowns [] = [] := rfl
theorem unowns_cons {x : Sl} {xs : En} : unowns (x :: xs) = unown x :: unowns xs := rfl
theorem unowns_eq : ∀ env : En, unowns env = env.map unown
  | [] => rfl
  | x :: xs => by rw [unowns_cons, unowns_eq xs]; rfl
def eBor (f : Ef) : Ef := fun env => (f (unowns env)).bind fun r => if flatD r.1 then some (r.1, env) else none
def bBor (f : Bf) : Bf := fun env => (f (unowns env)).map fun r => (r.1, env)
open Classical in
noncomputable def Fb (F H : Hp) (env : En) (s : L2.St) : Hp := fun a => if (∃ (j : Nat) (l : Bool) (ds : List D), env[j]? = some (.own l ds) ∧ s[j]? = some (some (.ref a))) then H a else F a
theorem fb_own {F H : Hp} {env : En} {s : L2.St} {j : Nat} {l : Bool} {ds : List D} {a : Addr} (h1 : env[j]? = some (.own l ds)) (h2 : s[j]? = some (some (.ref a))) : Fb F H env s a = H a := by
  unfold Fb
  exact if_pos ⟨j, l, ds, h1, h2⟩
section
variable {K : Frg} {G : Gm} {F F' : Hp} {env env' : En} {s : L2.St} {H H' : Hp}
theorem fb_same (k : Ok K G F env s H) : Same F (Fb F H env s) := fun a o e => by
  unfold Fb
  split
  · exact k.fr a o e
  · exact e
theorem fb_fr (k : Ok K G F env s H) : Same (Fb F H env s) H := fun a o e => by
  unfold Fb at e
  split at e
  · exact e
  · exact k.fr a o e
noncomputable def Gb (G : Gm) (F H : Hp) (env : En) (s : L2.St) : Gm := { F0 := Fb F H env s, H0 := H, P := G.P, R := G.R, s0 := s }
theorem ok_bor (k : Ok K G F env s H) : Ok K (Gb G F H env s) (Fb F H env s) (env.map unown) s H := by
  have get : ∀ {j : Nat} {x : Sl}, (env.map unown)[j]? = some x → ∃ y, env[j]? = some y ∧ unown y = x := fun {j x} e => by
    rw [List.getElem?_map] at e
    exact Option.map_eq_some_iff.mp e
  refine ⟨by rw [List.length_map]; exact k.len, fb_fr k, fun i d e => ?_, fun i l ds e => ?_, fun i ds e => ?_, fun i j l ds m es e1 _ _ => ?_, k.pin, fun a e => e, Same.refl _, fun a o e => .inl e, k.rin⟩
  · obtain ⟨y, h1, h2⟩ := get e
    cases y with
    | own l ds =>
      cases h2
      obtain ⟨a, vs, g1, g2, g3, g4, g5, _⟩ := k.own i l ds h1
      exact ⟨_, g1, .lst ((fb_own h1 g1).trans g2) (Da.mono (fb_same k) _ _ g5)⟩
    | val d' =>
      cases h2
      obtain ⟨v, g1, g2⟩ := k.val i _ h1
      exact ⟨v, g1, Dt.mono (fb_same k) _ _ g2⟩
    | no => cases h2
    | ro _ => cases h2
  · obtain ⟨y, h1, h2⟩ := get e
    cases y <;> cases h2
  · obtain ⟨y, h1, h2⟩ := get e
    cases y with
    | ro es =>
      cases h2
      obtain ⟨a, vs, g1, g2, g3⟩ := k.ro i _ h1
      exact ⟨a, vs, g1, g2, Da.mono (fb_same k) _ _ g3⟩
    | _ => cases h2
  · obtain ⟨y, h1, h2⟩ := get e1
    cases y <;> cases h2
theorem ok_unbor (k : Ok K G F env s H) (k' : Ok K (Gb G F H env s) F' env' s H') (e : Same (Fb F H env s) F') : Ok K G F env s H' := by
  refine ⟨k.len, (fb_same k).trans (e.trans k'.fr), k.val, fun i l ds h => ?_, k.ro, k.sep, k'.pin, fun a h => k.dom a (k'.dom a h), k.grow, k.new, k.rin⟩
  obtain ⟨a, vs, g1, g2, g3⟩ := k.own i l ds h
  exact ⟨a, vs, g1, k'.fr _ _ (e _ _ ((fb_own h g1).trans g2)), g3⟩
theorem dt_flat {v : V} {d : D} (h : Dt F' v d) (f : flatD d = true) : Dt F v d := by
  cases h with
  | non => exact .non
  | bl b => exact .bl b
  | int i => exact .int i
  | str x => exact .str x
  | lst _ _ => cases f
  | tup _ _ => cases f
end
theorem re_bor {K : Frg} {t : TE} {f : Ef} (h : RE K t f) : RE K t (eBor f) := fun G F env s H d env' k e Q q => by
  unfold eBor at e
  rw [unowns_eq] at e
  obtain ⟨⟨d1, e1⟩, h1, e⟩ := Option.bind_eq_some_iff.mp e
  split at e
  · rename_i hf
    cases e
    exact h _ _ _ s H d1 e1 (ok_bor k) h1 Q fun F' H' v k' s' p => q F H' v (ok_unbor k k' s') (Same.refl F) (dt_flat p hf)
  · cases e
theorem rb_bor {K : Frg} {t : TT} {f : Bf} (h : RB K t f) : RB K t (bBor f) := fun G F env s H b env' k e Q q => by
  unfold bBor at e
  rw [unowns_eq] at e
  obtain ⟨⟨d1, e1⟩, h1, e⟩ := Option.map_eq_some_iff.mp e
  cases e
  exact h _ _ _ s H d1 e1 (ok_bor k) h1 Q fun F' H' k' s' => q F H' (ok_unbor k k' s') (Same.refl F)
section
variable {X : Cx} {e : Expr} {f : Ef} {c : Bf} {env : En}
theorem we_bor {Q : D → En → Prop} (h : Nrm (unowns env) fun e => WE f e fun d _ => flatD d = true ∧ Q d env) : WE (eBor f) env Q := by
  obtain ⟨d, e, h1, h2, q⟩ := h
  exact ⟨d, env, by unfold eBor; rw [h1]; simp [h2], q⟩
theorem wb_bor {Q : Bool → En → Prop} (h : Nrm (unowns env) fun e => WB c e fun b _ => Q b env) : WB (bBor c) env Q := by
  obtain ⟨b, e, h1, q⟩ := h
  exact ⟨b, env, by unfold bBor; rw [h1]; rfl, q⟩
end
/-! ### is, of truths -/
def gIsB : D → D → Option D
  | .bool a, .bool b => some (.bool (decide (a = b)))
  | _, _ => none
def gNtB : D → D → Option D
  | .bool a, .bool b => some (.bool (!decide (a = b)))
  | _, _ => none
theorem wo_isB {a b : Bool} {Q : D → Prop} (q : Q (.bool (decide (a = b)))) : WO (gIsB (.bool a) (.bool b)) Q := ⟨_, rfl, q⟩
theorem wo_ntB {a b : Bool} {Q : D → Prop} (q : Q (.bool (!decide (a = b)))) : WO (gNtB (.bool a) (.bool b)) Q := ⟨_, rfl, q⟩
end M

namespace M
open PySem PySem.Spec PyProof.Rows L2
section
variable {X : Cx}
end
/-! ### a new list made while own lists are looked at -/
mutual
def lfree : D → Bool
  | .none => true
  | .bool _ => true
  | .int _ => true
  | .str _ => true
  | .tuple ds => lfreeA ds
  | _ => false
def lfreeA : List D → Bool
  | [] => true
  | d :: ds => lfree d && lfreeA ds
end
def lBor (f : Lf) : Lf := fun env => (f (unowns env)).bind fun r => if lfreeA r.1 then some (r.1, env) else none
theorem wl_bor {f : Lf} {env : En} {Q : List D → En → Prop} (h : Nrm (unowns env) fun e => WL f e fun ds _ => lfreeA ds = true ∧ Q ds env) : WL (lBor f) env Q := by
  obtain ⟨ds, e, h1, h2, q⟩ := h
  exact ⟨ds, env, by unfold lBor; rw [h1]; simp [h2], q⟩
end M

namespace M
open PySem PySem.Spec PyProof.Rows L2
/-! ### enumerate of a tuple -/
def lEnumA (f : Ef) : Lf := fun env => (f env).bind fun r => match r.1 with
  | .list ds => some (pairs (irange 0 ds.length) ds, r.2)
  | .tuple ds => some (pairs (irange 0 ds.length) ds, r.2)
  | _ => none
theorem wl_enumA {f : Ef} {env : En} {Q : List D → En → Prop} (h : WE f env fun x e => IsS x fun ds => Q (pairs (irange 0 ds.length) ds) e) : WL (lEnumA f) env Q := by
  obtain ⟨x, e, h1, h⟩ := h
  cases x with
  | list ds => exact ⟨_, e, by unfold lEnumA; rw [h1]; rfl, h⟩
  | tuple ds => exact ⟨_, e, by unfold lEnumA; rw [h1]; rfl, h⟩
  | _ => cases h
end M

namespace M
open PySem PySem.Spec PyProof.Rows L2
/-! ### a tuple told with a new list at its end, and the list changed by the one who asked -/
def unT : List Ar → Option (List D × Nat)
  | [] => none
  | .r i :: as => match as with
    | [] => some ([], i)
    | _ :: _ => none
  | .v d :: as => (unT as).map fun r => (d :: r.1, r.2)
  | .o _ :: _ => none
theorem unT_ok {F : Hp} {s : L2.St} : ∀ {ars : List Ar} {as : List D} {i : Nat} {vs : List V}, unT ars = some (as, i) → ArsOk F s ars vs → ∃ ws v, vs = ws ++ [v] ∧ Da F ws as ∧ s[i]? = some (some v)
  | [], _, _, _, e, _ => by cases e
  | .r j :: as, bs, i, vs, e, h => by
    unfold unT at e
    cases as with
    | nil =>
      cases e
      cases h with
      | cons h1 h2 =>
        cases h2
        cases h1 with
        | r h1 => exact ⟨[], _, rfl, .nil, h1⟩
    | cons _ _ => cases e
  | .o j :: as, bs, i, vs, e, h => by unfold unT at e; cases e
  | .v d :: as, bs, i, vs, e, h => by
    unfold unT at e
    obtain ⟨⟨cs, j⟩, h3, e⟩ := Option.map_eq_some_iff.mp e
    cases e
    cases h with
    | cons h1 h2 =>
      obtain ⟨ws, v, rfl, h4, h5⟩ := unT_ok h3 h2
      cases h1 with
      | v h1 => exact ⟨_ :: ws, v, rfl, .cons h1 h4, h5⟩
def sRetT (fa : Af) : Sf := fun env => (fa env).bind fun r => (unT r.1).bind fun q => match r.2[q.2]? with
  | some (.own true ds) => if fits (q.1.length + 1) then some (.rp q.1 ds (r.2.set q.2 .no)) else none
  | _ => none
section
variable {X : Cx} {K : Frg} {st : Stmt} {rest es : List Stmt} {e a b : Expr} {f g : Sf} {fe fa fb : Ef} {pos : Pos}
theorem xs_retT {es : List Expr} {fa : Af} {x1} {p1 : Pos} (ha : XA X es fa) : XS X (.Return (some (.Tuple es x1 p1)) pos) (sRetT fa) := by
  obtain ⟨t, h1, h2⟩ := ha.ex
  refine ⟨_, ps_ret (pe_tup h1), fun G F env s H o k e E q => ?_⟩
  unfold sRetT at e
  obtain ⟨⟨ars, e1⟩, h3, e⟩ := Option.bind_eq_some_iff.mp e
  obtain ⟨⟨as, i⟩, h4, e⟩ := Option.bind_eq_some_iff.mp e
  dsimp only at e
  split at e
  · rename_i ds h5
    split at e
    · rename_i hf
      cases e
      refine h2 G F env s H ars e1 k h3 _ fun F1 H1 vs k1 s1 p1 => ?_
      obtain ⟨ws, v, rfl, hda, hv⟩ := unT_ok h4 p1
      obtain ⟨a, us, g1, g2, g3, g4, g5, g6, _⟩ := k1.own i true ds h5
      rw [hv] at g1; cases g1
      refine ⟨by rw [List.length_append, hda.length]; exact fits_line hf, fun t ht => ?_⟩
      have ne : a ≠ t := fun z => by subst z; rw [g2] at ht; cases ht
      refine q F1 s _ t a ws us (ok_drop i (k1.laid ht)) s1 ⟨upd_same, k1.fr.free ht, k1.dom t ht, k1.pin.free ht, by rw [upd_ne ne]; exact g2, g3, g6 rfl, g4, fun j l es e z => ?_, hda, g5⟩
      rcases set_get e with ⟨_, _, z2⟩ | ⟨hj, z2⟩
      · cases z2
      · exact hj (k1.sep i j _ _ _ _ h5 z2 (hv.trans z.symm))
    · cases e
  · cases e
end
inductive Rt where
  | v (d : D) | t (as ds : List D)
abbrev Kf := List Sl → Option (Rt × List Sl)
def fnTold (n np : Nat) (f : Sf) : Kf := fun args => if args.length = np then match f (args ++ List.replicate (n - np) .no) with
  | some (.nx env) => some (.v .none, env.take np)
  | some (.rt d env) => some (.v d, env.take np)
  | some (.rp as ds env) => some (.t as ds, env.take np)
  | _ => none
  else none
structure PostT (F H F' H' : Hp) (args args' : List Sl) (vs : List V) (t p : Addr) (ws us : List V) (as ds : List D) : Prop where
  keep : Same (minus H args vs) H'
  dom : ∀ a, H' a = none → H a = none
  grow : Same F F'
  fr : Same F' H'
  new : ∀ a o, F' a = some o → F a = some o ∨ H a = none
  own : ∀ (i : Nat) l ds, args[i]? = some (.own l ds) → ∀ ds', args'[i]? = some (.own false ds') → ∀ a, vs[i]? = some (.ref a) → ∃ us, H' a = some (.lst us) ∧ F' a = none ∧ Da F' us ds'
  ht : H' t = some (.tup (ws ++ [.ref p]))
  ft : F' t = none
  t0 : H t = none
  hp : H' p = some (.lst us)
  fp : F' p = none
  p0 : H p = none
  da : Da F' ws as
  du : Da F' us ds
def spT (K : Frg) (g : Kf) : Sp := fun vs H Q _ => ∃ F args r args', g args = some (r, args') ∧ Same F H ∧ ArgsOk K F H args vs ∧ (∀ d, r = .v d → ∀ F' H' v, Post F H F' H' args args' vs v d → Q v H') ∧
  (∀ as ds, r = .t as ds → ∀ F' H' t p ws us, PostT F H F' H' args args' vs t p ws us as ds → Q (.ref t) H')
section
variable {P : Program} {w : World} {K : Frg} {mg : Str → Option Value} {base : Heap}
theorem fn_told {x qual : Str} {st : Stmt} {f : Addr} {fd : FuncData} {N ps : List Str} {k : Nat} {fb : Sf} (F : Fun K x qual st f fd) (S : FnScope N ps (defScope st))
    (hbody : ∀ (cdv : Value) (A : Around) (outer : List Env) (s : Shared) (H : Hp) (E : XK), Room k (A.deeper (envOfC qual (defScope st) s.heap.objs.size f cdv)) →
      XSs (cxOf CX0 P w K mg base N qual (defScope st) f cdv A outer s H E).nox (defBody st) fb) : FnOk P w K mg base CX0 (k + 1) f fd ps (spT K (fnTold N.length ps.length fb)) := by
  refine F.ok S (fun vs H Q E h => ?_) (fun cdv A outer s H vs Q E hr h => ?_)
  · obtain ⟨Fz, args, d, args', hg, fr, a, _⟩ := h
    unfold fnTold at hg
    split at hg
    · rename_i hl
      rw [a.len, hl]
    · cases hg
  · obtain ⟨Fz, args, d, args', hg, fr, a, q1, q2⟩ := h
    obtain ⟨t, h1, h2⟩ := (hbody cdv A outer s H E hr).ex
    refine ⟨t, h1, ?_⟩
    have hpl : ps.length ≤ N.length := by have := congrArg List.length S.pre; rw [List.length_take] at this; omega
    unfold fnTold at hg
    split at hg
    · rename_i hl
      have k0 := ok_start hl.symm hpl fr a
      split at hg
      · rename_i env he
        cases hg
        refine h2 _ Fz _ _ H _ k0 he _ ?_
        exact fun F' s' H' k' s1 => q1 _ rfl F' H' .non (post_of a hl.symm k' .non)
      · rename_i d' env he
        cases hg
        refine h2 _ Fz _ _ H _ k0 he _ ?_
        exact fun F' s' H' v k' s1 p => q1 _ rfl F' H' v (post_of a hl.symm k' p)
      · rename_i as ds env he
        cases hg
        refine h2 _ Fz _ _ H _ k0 he _ ?_
        intro F' s' H' t p ws us k' s1 n
        have po := post_of (v := .non) (d := .none) a hl.symm k' .non
        exact q2 _ _ rfl F' H' t p ws us ⟨po.keep, po.dom, po.grow, po.fr, po.new, po.own, n.ht, n.ft, n.t0, n.hp, n.fp, n.p0, n.da, n.du⟩
      · cases hg
    · cases hg
theorem fn_toldE {x qual : Str} {st : Stmt} {f : Addr} {fd : FuncData} {N ps : List Str} {k : Nat} {g : Kf} (fb : Sf) (n np : Nat) (F : Fun K x qual st f fd) (S : FnScope N ps (defScope st))
    (hn : N.length = n) (hp : ps.length = np) (hg : g = fnTold n np fb)
    (hbody : ∀ (cdv : Value) (A : Around) (outer : List Env) (s : Shared) (H : Hp) (E : XK), Room k (A.deeper (envOfC qual (defScope st) s.heap.objs.size f cdv)) →
      XSs (cxOf CX0 P w K mg base N qual (defScope st) f cdv A outer s H E).nox (defBody st) fb) : FnOk P w K mg base CX0 (k + 1) f fd ps (spT K g) := by
  subst hn hp hg
  exact fn_told F S hbody
end
/-! the one who asked: slot i holds what was told -/
abbrev Td := En → List D → List D → Option Out
structure Tk (K : Frg) (G : Gm) (F : Hp) (env : En) (s : L2.St) (H : Hp) (i : Nat) (t p : Addr) (vs us : List V) (as ds : List D) : Prop where
  ok : Ok K G F env s H
  sl : s[i]? = some (some (.ref t))
  no : env[i]? = some .no
  nt : NewT G F H env s t p vs us as ds
def RT (K : Frg) (tt : TS) (i : Nat) (f : Td) : Prop := ∀ G F env s H t p vs us as ds o, Tk K G F env s H i t p vs us as ds → f env as ds = some o → ∀ E : Ends, RSx K G F E o → tt E s H
structure XT (X : Cx) (i : Nat) (sts : List Stmt) (f : Td) : Prop where
  ex : ∃ t, PSs X sts t ∧ RT X.K t i f
theorem set_same {s : L2.St} {i : Nat} {x : Option V} (h : s[i]? = some x) : s.set i x = s := by
  refine List.ext_getElem? fun j => ?_
  by_cases hj : i = j
  · subst hj
    rw [List.getElem?_set_self (List.getElem?_eq_some_iff.mp h).1, h]
  · rw [List.getElem?_set_ne hj]
section
variable {K : Frg} {G : Gm} {F : Hp} {env : En} {s : L2.St} {H H' : Hp} {i : Nat}
theorem ok_know {v : V} {d : D} (k : Ok K G F env s H) (hs : s[i]? = some (some v)) (p : Dt F v d) : Ok K G F (env.set i (.val d)) s H := by
  have := ok_set (i := i) k p
  rwa [set_same hs] at this
theorem ok_forget {x : Option V} (k : Ok K G F env s H) : Ok K G F (env.set i .no) (s.set i x) H := by
  refine ok_weak (ok_drop i k) (by simp) fun j y e hy => ?_
  rcases set_get e with ⟨_, _, z⟩ | ⟨hj, _⟩
  · exact absurd z.symm hy
  · rw [List.getElem?_set_ne hj]
theorem ok_move (k : Ok K G F env s H) (h1 : Same F H') (h2 : ∀ (j : Nat) l ds a vs, env[j]? = some (.own l ds) → s[j]? = some (some (.ref a)) → H a = some (.lst vs) → H' a = some (.lst vs)) (h3 : Same G.P H') (h4 : ∀ a, H' a = none → H a = none) : Ok K G F env s H' := by
  refine ⟨k.len, h1, k.val, fun j l ds e => ?_, k.ro, k.sep, h3, fun a h => k.dom a (h4 a h), k.grow, k.new, k.rin⟩
  obtain ⟨a, vs, g1, g2, g3⟩ := k.own j l ds e
  exact ⟨a, vs, g1, h2 j l ds a vs e g1 g2, g3⟩
theorem tk_after {F' : Hp} {G' : Gm} {t p : Addr} {ws us vs : List V} {as ds : List D} {args args' : List Sl} {ars : List Ar} {h : Hp} (k : Ok K G F env s H) (hi : i < env.length) (p1 : ArsOk F s ars vs) (hr : resArs env ars = some args) (hn : rSlots ars = []) (po : PostT F H F' H' args args' vs t p ws us as ds) :
    Tk K G F' (env.set i .no) (s.set i (some (.ref t))) H' i t p ws us as ds := by
  have po0 : Post F H F' H' args args' vs .non .none := ⟨po.keep, po.dom, po.grow, po.fr, po.new, .non, po.own⟩
  have k2 := ok_after k p1 hr po0 rfl (fun j => .inl rfl) (by rw [hn]; intro i hi; cases hi)
  refine ⟨ok_forget k2, by rw [List.getElem?_set_self (by rw [k.len]; exact hi)], by rw [List.getElem?_set_self hi], ⟨po.ht, po.ft, k.dom t po.t0, k.pin.free po.t0, po.hp, po.fp, k.dom p po.p0, k.pin.free po.p0, fun j l es e z => ?_, po.da, po.du⟩⟩
  rcases set_get e with ⟨_, _, z2⟩ | ⟨hj, z2⟩
  · cases z2
  · rw [List.getElem?_set_ne hj] at z
    exact k.notown po.p0 j l es z2 z
end
section
variable {X : Cx} {K : Frg} {st : Stmt} {rest sts : List Stmt} {e a b : Expr} {f : Sf} {fe : Ef} {pos : Pos} {i : Nat}
def sTold (fa : Af) (g : Kf) (i : Nat) (fr : Td) (fp : Sf) : Sf := fun env => (fa env).bind fun r => match rSlots r.1 with
  | [] => if i < r.2.length then (resArs r.2 r.1).bind fun args => (g args).bind fun q => match q.1 with
    | .v d => fp (r.2.set i (.val d))
    | .t as ds => fr (r.2.set i .no) as ds
    else none
  | _ => none
theorem rs_told {g : Kf} {fa : Af} {ta : TA} {E0 : XK} {fr : Td} {fp : Sf} {t1 t2 : TS} (ha : RA K ta fa) (h1 : RT K t1 i fr) (h2 : RS K t2 fp) : RS K (tSeq (tAsg (tCall (spT K g) [] E0 ta) (gName i)) (fun E s H => t1 E s H ∨ t2 E s H)) (sTold fa g i fr fp) := fun G F env s H o k e E q => by
  unfold sTold at e
  obtain ⟨⟨ars, e1⟩, h3, e⟩ := Option.bind_eq_some_iff.mp e
  refine ha G F env s H ars e1 k h3 _ fun F1 H1 vs k1 s1 p1 => ?_
  rw [List.append_nil]
  dsimp only at e
  split at e
  · rename_i hrs
    split at e
    · rename_i hi
      obtain ⟨args, h4, e⟩ := Option.bind_eq_some_iff.mp e
      obtain ⟨⟨r, args'⟩, h5, e⟩ := Option.bind_eq_some_iff.mp e
      refine ⟨F1, args, r, args', h5, k1.fr, args_ok k1 p1 h4 (by rw [hrs]; intro i hi; cases hi) (by rw [hrs]; intro i hi; cases hi), fun d hd F' H' v po => ?_, fun as ds hd F' H' t p ws us po => ?_⟩
      · subst hd
        have k2 := ok_after k1 p1 h4 po rfl (fun j => .inl rfl) (by rw [hrs]; intro i hi; cases hi)
        exact .inr (h2 G F' _ _ H' o (ok_set k2 po.res) e E (q.up (s1.trans po.grow)))
      · subst hd
        exact .inl (h1 G F' _ _ H' _ _ _ _ _ _ o (tk_after (G' := G) (h := H) k1 hi p1 h4 hrs po) e E (q.up (s1.trans po.grow)))
    · cases e
  · cases e
theorem pss_or {t1 t2 : TS} (h1 : PSs X sts t1) (h2 : PSs X sts t2) : PSs X sts (fun E s H => t1 E s H ∨ t2 E s H) := ⟨fun pins s σ H D I h => h.elim (h1.run pins s σ H D I) (h2.run pins s σ H D I)⟩
theorem xss_told (i : Nat) {k : Nat} {fx : Addr} {fd : FuncData} {ps : List Str} {x y : Str} {p py cpos : Pos} {e : Expr} {es : List Expr} {fa : Af} {g : Kf} {fr : Td} {fp : Sf} (FF : FnOk X.prog X.w X.K X.mg X.base CX0 k fx fd ps (spT X.K g)) (hr : Room k X.A) (hm : X.mg x = some (.ref fx)) (hk : PySem.W.keepIn X.K (.ref fx) = true) (hb : Binds X.K fd ps []) (ha : XA X (e :: es) fa)
    (hN : X.N.Nodup) (h1 : XT X i rest fr) (h2 : XSs X rest fp) (hg : Gl X x := by rfl) (hdb : (x == ("__debug__" : Str)) = false := by decide) (he : starEach (e :: es) X.env = (false, eval e X.env) :: starEach es X.env := by rfl) (hpl : (backTo cpos (starEach es X.env)).any (·.1) = false := by rfl)
    (hi : X.N[i]? = some y := by rfl) (hx : Loc X.env.scope y := by first | exact Or.inl rfl | exact Or.inr rfl) (hs : swapsWith (.Call (.Name x p) (e :: es) [] cpos) (some (.Name y py)) pos.line X.env = pure false := by rfl)
    (hf : X.fn y = true ∨ X.env.scope.names.lookup y = some .local := by first | exact .inl rfl | exact .inr rfl | assumption) : XSs X (.Assign [.Name y py] (.Call (.Name x p) (e :: es) [] cpos) pos :: rest) (sTold fa g i fr fp) := by
  obtain ⟨ta, p1, q1⟩ := ha.ex
  obtain ⟨t1, p2, q2⟩ := h1.ex
  obtain ⟨t2, p3, q3⟩ := h2.ex
  exact ⟨_, pss_cons (ps_set hN hi hx (pe_call FF hr hg hm hk hb .nil pass0 p1 hdb he hpl) hs hf) (pss_or p2 p3), rs_told q1 q2 q3⟩
/-- from here on it is a value -/
def tdP (i : Nat) (f : Sf) : Td := fun env as ds => f (env.set i (.val (.tuple (as ++ [.list ds]))))
theorem xt_plain (i : Nat) (h : XSs X sts f) : XT X i sts (tdP i f) := by
  obtain ⟨t, p1, q1⟩ := h.ex
  refine ⟨t, p1, fun G F env s H t p vs us as ds o k e E q => ?_⟩
  obtain ⟨F2, k2, s2, pd, _⟩ := k.nt.frz k.ok
  exact q1 G F2 _ s H o (ok_know k2 k.sl pd) e E (q.up s2)
/-! statements that only look: they go on or hand back something flat -/
abbrev Gpu := En → Option (Option D)
def RPu (K : Frg) (t : TS) (f : Gpu) : Prop := ∀ G F env s H r, Ok K G F env s H → f env = some r → ∀ E : Ends, (r = none → ∀ F' H', Ok K G F' env s H' → Same F F' → E.nx s H') → (∀ d, r = some d → flatD d = true ∧ ∀ F' H' v, Ok K G F' env s H' → Same F F' → Dt F' v d → E.rt v H') → t E s H
structure XPu (X : Cx) (st : Stmt) (f : Gpu) : Prop where
  ex : ∃ t, PS X st t ∧ RPu X.K t f
structure XPus (X : Cx) (sts : List Stmt) (f : Gpu) : Prop where
  ex : ∃ t, PSs X sts t ∧ RPu X.K t f
def pNil : Gpu := fun _ => some none
def pSeq (f g : Gpu) : Gpu := fun env => (f env).bind fun r => match r with
  | none => g env
  | some d => some (some d)
def pRet (f : Ef) : Gpu := fun env => (eBor f env).map fun r => some r.1
def pIf (c : Bf) (f g : Gpu) : Gpu := fun env => (bBor c env).bind fun r => if r.1 then f env else g env
theorem eBor_some {f : Ef} {env env' : En} {d : D} (h : eBor f env = some (d, env')) : env' = env ∧ flatD d = true := by
  unfold eBor at h
  obtain ⟨⟨d1, e1⟩, h1, h⟩ := Option.bind_eq_some_iff.mp h
  dsimp only at h
  split at h
  · rename_i hf
    cases h; exact ⟨rfl, hf⟩
  · cases h
theorem bBor_some {f : Bf} {env env' : En} {d : Bool} (h : bBor f env = some (d, env')) : env' = env := by
  unfold bBor at h
  obtain ⟨⟨d1, e1⟩, h1, h⟩ := Option.map_eq_some_iff.mp h
  cases h; rfl
theorem xpu_ret (he : XE X e fe) : XPu X (.Return (some e) pos) (pRet fe) := by
  obtain ⟨t, h1, h2⟩ := he.ex
  refine ⟨_, ps_ret h1, fun G F env s H r k e E q1 q2 => ?_⟩
  unfold pRet at e
  obtain ⟨⟨d, e1⟩, h3, e⟩ := Option.map_eq_some_iff.mp e
  cases e
  obtain ⟨rfl, hf⟩ := eBor_some h3
  exact re_bor h2 G F _ s H d _ k h3 _ fun F1 H1 v k1 s1 p1 => (q2 d rfl).2 F1 H1 v k1 s1 p1
theorem xpus_nil : XPus X [] pNil := ⟨_, pss_nil, fun G F env s H r k h E q1 q2 => by cases h; exact q1 rfl F H k (Same.refl F)⟩
theorem xpus_one {f : Gpu} (h1 : XPu X st f) : XPus X [st] f := let ⟨_, p1, q1⟩ := h1.ex; ⟨_, pss_one p1, q1⟩
theorem xpu_if {c : Expr} {p1 p2 : List Stmt} {gc : Bf} {f g : Gpu} (hc : XB X c gc) (ha : XPus X p1 f) (hb : XPus X p2 g) : XPu X (.If c p1 p2 pos) (pIf gc f g) := by
  obtain ⟨t, h1, h2⟩ := hc.ex
  obtain ⟨ta, h3, h4⟩ := ha.ex
  obtain ⟨tb, h5, h6⟩ := hb.ex
  refine ⟨_, ps_if h1 h3 h5, fun G F env s H r k e E q1 q2 => ?_⟩
  unfold pIf at e
  obtain ⟨⟨c, e1⟩, h7, e⟩ := Option.bind_eq_some_iff.mp e
  have he := bBor_some h7
  subst he
  have up1 : ∀ {F1 : Hp}, Same F F1 → r = none → ∀ F' H', Ok X.K G F' e1 s H' → Same F1 F' → E.nx s H' := fun s1 hr F2 H2 k2 s2 => q1 hr F2 H2 k2 (s1.trans s2)
  have up2 : ∀ {F1 : Hp}, Same F F1 → ∀ d, r = some d → flatD d = true ∧ ∀ F' H' v, Ok X.K G F' e1 s H' → Same F1 F' → Dt F' v d → E.rt v H' := fun s1 d hr => ⟨(q2 d hr).1, fun F2 H2 v k2 s2 p2 => (q2 d hr).2 F2 H2 v k2 (s1.trans s2) p2⟩
  refine rb_bor h2 G F e1 s H c e1 k h7 _ fun F1 H1 k1 s1 => ?_
  cases c with
  | true =>
    rw [if_pos rfl] at e ⊢
    exact h4 G F1 e1 s H1 r k1 e E (up1 s1) (up2 s1)
  | false =>
    rw [if_neg Bool.false_ne_true] at e ⊢
    exact h6 G F1 e1 s H1 r k1 e E (up1 s1) (up2 s1)
/-- a look at what was told, the told tuple a value for so long -/
def lookT (i : Nat) (env : En) (as ds : List D) : En := unowns (env.set i (.val (.tuple (as ++ [.list ds]))))
theorem tk_look {G : Gm} {F : Hp} {env : En} {s : L2.St} {H : Hp} {t p : Addr} {vs us : List V} {as ds : List D} (k : Tk K G F env s H i t p vs us as ds) : ∃ G' F1, Ok K G' F1 (lookT i env as ds) s H ∧ Same F F1 ∧ ∀ F' H', Ok K G' F' (lookT i env as ds) s H' → Same F1 F' → Tk K G F env s H' i t p vs us as ds := by
  obtain ⟨F2, k2, s2, pd, ft, fp⟩ := k.nt.frz k.ok
  have k3 := ok_know k2 k.sl pd
  have k4 := ok_bor k3
  have hl : (env.set i (.val (.tuple (as ++ [.list ds])))).map unown = lookT i env as ds := by unfold lookT; rw [unowns_eq]
  rw [hl] at k4
  refine ⟨_, _, k4, s2.trans (fb_same k3), fun F' H' k' s' => ?_⟩
  have up : Same F2 H' := (fb_same k3).trans (s'.trans k'.fr)
  refine ⟨ok_move k.ok (s2.trans up) (fun j l es a ws h1 h2 h3 => ?_) k'.pin (fun a h => k'.dom a h), k.sl, k.no, ?_⟩
  · have hj : i ≠ j := fun e => by subst e; rw [k.no] at h1; cases h1
    have h4 : (env.set i (.val (.tuple (as ++ [.list ds]))))[j]? = some (.own l es) := by rw [List.getElem?_set_ne hj]; exact h1
    exact k'.fr _ _ (s' _ _ ((fb_own h4 h2).trans h3))
  · have n := k.nt
    exact ⟨up _ _ ft, n.ft, n.t0, n.tP, up _ _ fp, n.fp, n.p0, n.pP, n.pn, n.da, n.du⟩
def tdG (i : Nat) (fp : Gpu) (fr : Td) : Td := fun env as ds => (fp (lookT i env as ds)).bind fun r => match r with
  | none => fr env as ds
  | some d => if flatD d then some (.rt d env) else none
theorem xt_guard (i : Nat) {fp : Gpu} {fr : Td} (h1 : XPu X st fp) (h2 : XT X i rest fr) : XT X i (st :: rest) (tdG i fp fr) := by
  obtain ⟨t1, p1, q1⟩ := h1.ex
  obtain ⟨t2, p2, q2⟩ := h2.ex
  refine ⟨_, pss_cons p1 p2, fun G F env s H t p vs us as ds o k e E q => ?_⟩
  unfold tdG at e
  obtain ⟨r, h3, e⟩ := Option.bind_eq_some_iff.mp e
  obtain ⟨G', F1, k1, s1, w⟩ := tk_look k
  refine q1 G' F1 _ s H r k1 h3 _ (fun hr F2 H2 k2 s2 => ?_) (fun d hr => ?_)
  · subst hr
    exact q2 G F env s H2 t p vs us as ds o (w F2 H2 k2 s2) e E q
  · subst hr
    dsimp only at e
    split at e
    · rename_i hf
      cases e
      exact ⟨hf, fun F2 H2 v k2 s2 p2 => q F s H2 v (w F2 H2 k2 s2).ok (Same.refl F) (dt_flat p2 hf)⟩
    · cases e
/-- a parting -/
def thenS (fr : Sf) : Out → Option Out
  | .nx env1 => fr env1
  | o => some o
def tdIf (i : Nat) (c : Bf) (fa fb : Td) (fr : Sf) : Td := fun env as ds => (c (lookT i env as ds)).bind fun r => (if r.1 then fa env as ds else fb env as ds).bind (thenS fr)
/-! a whole number written down -/
structure XC (X : Cx) (e : Expr) (j : Int) : Prop where
  ex : ∃ t, PE X e t ∧ ∀ s H Q, Q (V.int j) H → t s H Q
theorem xc_int {j : Int} {k pos} : XC X (.Constant (.int j) k pos) j := ⟨_, pe_int, fun s H Q q => q⟩
theorem atI_last {α : Type} {xs : List α} {x : α} {n : Nat} {j : Int} (hn : xs.length = n) (h : ixN (n + 1) j = some n) : atI (xs ++ [x]) j = some x := by
  subst hn
  unfold atI
  rw [List.length_append, show [x].length = 1 from rfl, h]
  simp
/-- y = list(x[j]) -/
def tdK (i ik : Nat) (j : Int) (fr : Td) : Td := fun env as ds => if ixN (as.length + 1) j = some as.length ∧ ik ≠ i then fr (env.set ik (.val (.list ds))) as ds else none
theorem xt_keep (i ik : Nat) {j : Int} {x y : Str} {ie : Expr} {p2 p3 p4 p5 py spos : Pos} {fr : Td} (hm : X.mg "list" = none) (hj : XC X ie j) (h2 : XT X i rest fr) (hNd : X.N.Nodup) (hg : Gl X "list" := by rfl) (hN : X.N[i]? = some x := by rfl) (hv : Vis X.env.scope x := by first | exact Or.inl rfl | exact Or.inr (Or.inl rfl) | exact Or.inr (Or.inr rfl))
    (hd : (x == ("__debug__" : Str)) = false := by decide) (hcd : (x == ("__classdict__" : Str)) = false := by decide) (hix : PlainIx ie := by intro _ _; rfl) (he : starEach [.Subscript (.Name x p2) ie p3] X.env = (false, eval (.Subscript (.Name x p2) ie p3) X.env) :: starEach [] X.env := by rfl) (hpl : (backTo p5 (starEach [] X.env)).any (·.1) = false := by rfl)
    (hi : X.N[ik]? = some y := by rfl) (hx : Loc X.env.scope y := by first | exact Or.inl rfl | exact Or.inr rfl) (hs : swapsWith (.Call (.Name "list" p4) [.Subscript (.Name x p2) ie p3] [] p5) (some (.Name y py)) spos.line X.env = pure false := by rfl)
    (hf : X.fn y = true ∨ X.env.scope.names.lookup y = some .local := by first | exact .inl rfl | exact .inr rfl | assumption) :
    XT X i (.Assign [.Name y py] (.Call (.Name "list" p4) [.Subscript (.Name x p2) ie p3] [] p5) spos :: rest) (tdK i ik j fr) := by
  obtain ⟨tj, g1, g2⟩ := hj.ex
  obtain ⟨t2, p2, q2⟩ := h2.ex
  refine ⟨_, pss_cons (ps_set hNd hi hx (pe_callTy call_list_of hg hm boot_list (pa_cons (pe_ix ix_seq (pe_var hN hv hd hcd) g1 hix) pa_nil he) (by decide) (by decide) he hpl) hs hf) p2, fun G F env s H t p vs us as ds o k e E q => ?_⟩
  unfold tdK at e
  split at e
  · rename_i hc
    obtain ⟨hc, hne⟩ := hc
    have n := k.nt
    refine ⟨_, k.sl, ?_⟩
    refine g2 s H _ ?_
    refine .inr (.inl ⟨t, _, j, .ref p, rfl, rfl, SqT.of n.ht, atI_last n.da.length hc, ?_⟩)
    refine ⟨p, us, rfl, .inl (SqL.of n.hp), fun c hc => ?_⟩
    have np : p ≠ c := fun z => by subst z; rw [n.hp] at hc; cases hc
    have nt' : t ≠ c := fun z => by subst z; rw [n.ht] at hc; cases hc
    have fc : F c = none := k.ok.fr.free hc
    have k1 := k.ok.alloc (o := .lst us) hc
    have s1 : Same F (upd F c (.lst us)) := same_upd fc
    have k2 := ok_set (i := ik) k1 (v := .ref c) (d := .list ds) (.lst upd_same (Da.mono s1 _ _ n.du))
    refine q2 G _ _ _ _ t p vs us as ds o ⟨k2, by rw [List.getElem?_set_ne hne]; exact k.sl, by rw [List.getElem?_set_ne hne]; exact k.no, ⟨by rw [upd_ne nt']; exact n.ht, by rw [upd_ne nt']; exact n.ft, n.t0, n.tP, by rw [upd_ne np]; exact n.hp, by rw [upd_ne np]; exact n.fp, n.p0, n.pP, fun j' l es e2 z => ?_, Da.mono s1 _ _ n.da, Da.mono s1 _ _ n.du⟩⟩ e E (q.up s1)
    rcases set_get e2 with ⟨_, _, z2⟩ | ⟨hj', z2⟩
    · cases z2
    · rw [List.getElem?_set_ne hj'] at z
      exact n.pn j' l es z2 z
  · cases e
/-- the list changed -/
theorem tk_mut {G : Gm} {F : Hp} {env : En} {s : L2.St} {H : Hp} {t p : Addr} {vs us us' : List V} {as ds ds' : List D} (k : Tk K G F env s H i t p vs us as ds) (h : Da F us' ds') : Tk K G F env s (upd H p (.lst us')) i t p vs us' as ds' := by
  have n := k.nt
  have ne : t ≠ p := fun z => by have := n.ht; rw [z, n.hp] at this; cases this
  refine ⟨ok_move k.ok (fun a o e => ?_) (fun j l es a ws h1 h2 h3 => ?_) (fun a o e => ?_) (fun a e => ?_), k.sl, k.no, ⟨by rw [upd_ne ne]; exact n.ht, n.ft, n.t0, n.tP, upd_same, n.fp, n.p0, n.pP, n.pn, n.da, h⟩⟩
  · have : a ≠ p := fun z => by subst z; rw [n.fp] at e; cases e
    rw [upd_ne this]; exact k.ok.fr _ _ e
  · have : a ≠ p := fun z => by subst z; exact n.pn j l es h1 h2
    rw [upd_ne this]; exact h3
  · have : a ≠ p := fun z => by subst z; rw [n.pP] at e; cases e
    rw [upd_ne this]; exact k.ok.pin _ _ e
  · by_cases hc : a = p
    · subst hc; rw [upd_same] at e; cases e
    · rw [upd_ne hc] at e; exact e
def tdA (i : Nat) (j c : Int) (fr : Td) : Td := fun env as ds => if ixN (as.length + 1) j = some as.length ∧ fits (ds.length + 1) = true then fr env as (ds ++ [.int c]) else none
def tdC (i : Nat) (j : Int) (fr : Td) : Td := fun env as ds => if ixN (as.length + 1) j = some as.length then fr env as [] else none
theorem xt_append (i : Nat) {j c : Int} {x : Str} {ie ce : Expr} {p2 p3 apos cpos spos : Pos} {fr : Td} (hj : XC X ie j) (hc : XC X ce c) (h2 : XT X i rest fr) (hN : X.N[i]? = some x := by rfl) (hv : Vis X.env.scope x := by first | exact Or.inl rfl | exact Or.inr (Or.inl rfl) | exact Or.inr (Or.inr rfl))
    (hd : (x == ("__debug__" : Str)) = false := by decide) (hcd : (x == ("__classdict__" : Str)) = false := by decide) (hix : PlainIx ie := by intro _ _; rfl)
    (hbase : attributeBase (.Subscript (.Name x p2) ie p3) "append" X.env (eval (.Subscript (.Name x p2) ie p3) X.env) = eval (.Subscript (.Name x p2) ie p3) X.env := by rfl)
    (hfew : ((backTo cpos (starEach [ce] X.env)).all (fun x => !x.1) && (backToKw cpos (keywordEach [] X.env)).all (fun x => x.1.isSome)
      && decide (([ce] : List Expr).length + ([] : List Keyword).length + (if ([] : List Keyword).isEmpty then 0 else 1) < 30)) = true := by rfl)
    (hline : (apos.endLine == cpos.line) = true := by rfl) (hs : starEach [ce] X.env = (false, eval ce X.env) :: starEach [] X.env := by rfl) (hplain : (backTo cpos (starEach [] X.env)).any (·.1) = false := by rfl)
    (hsw : swapsWith (.Call (.Attribute (.Subscript (.Name x p2) ie p3) "append" apos) [ce] [] cpos) none spos.line X.env = pure false := by rfl) :
    XT X i (.Expr (.Call (.Attribute (.Subscript (.Name x p2) ie p3) "append" apos) [ce] [] cpos) spos :: rest) (tdA i j c fr) := by
  obtain ⟨tj, g1, g2⟩ := hj.ex
  obtain ⟨tc, g3, g4⟩ := hc.ex
  obtain ⟨t2, p2, q2⟩ := h2.ex
  refine ⟨_, pss_cons (ps_expr (pe_bm PySem.F.plainAttrs_list PySem.F.slot_list_append PySem.F.type_list_append mt_append (pe_ix ix_seq (pe_var hN hv hd hcd) g1 hix) (pa_cons g3 pa_nil hs) hbase hfew hline hs hplain) hsw) p2, fun G F env s H t p vs us as ds o k e E q => ?_⟩
  unfold tdA at e
  split at e
  · rename_i hc
    obtain ⟨hc, hfit⟩ := hc
    have n := k.nt
    refine ⟨_, k.sl, ?_⟩
    refine g2 s H _ ?_
    refine .inr (.inl ⟨t, _, j, .ref p, rfl, rfl, SqT.of n.ht, atI_last n.da.length hc, .inl ⟨rfl, _, SqL.of n.hp⟩, ?_⟩)
    refine g4 s H _ ?_
    have := fits_line hfit
    exact ⟨p, us, _, rfl, rfl, n.hp, by rw [n.du.length]; omega, q2 G F env s _ t p vs _ as _ o (tk_mut k (n.du.append (.cons (.int c) .nil))) e E q⟩
  · cases e
/-- a, b = x: the list is the def's own -/
def tdU (i ia ib : Nat) (f : Sf) : Td := fun env as ds => match as with
  | [d] => if ia ≠ i ∧ ib ≠ i then f ((env.set ia (.val d)).set ib (.own true ds)) else none
  | _ => none
end
theorem xss_never {X : Cx} {sts : List Stmt} : XSs X sts sNo := ⟨fun _ _ _ => False, ⟨fun _ _ _ _ _ _ h => h.elim⟩, fun G F env s H o k e E q => by cases e⟩
/-! what it leaves -/
def RetT (ars : List Ar) (e : En) (R : D → En → Prop) : Prop := ∃ as i ds, unT ars = some (as, i) ∧ e[i]? = some (.own true ds) ∧ fits (as.length + 1) = true ∧ R (.tuple (as ++ [.list ds])) (e.set i .no)
section
variable {env : En} {N : En → Prop} {R : D → En → Prop} {L : List D → En → Prop} {i ik : Nat} {as ds : List D} {j c : Int} {Q : Po} {A : Prop} {B : D → Prop}
theorem ws_retT {fa : Af} (h : WA fa env fun ars e => RetT ars e R) : WS (sRetT fa) env ⟨N, R, L⟩ := by
  obtain ⟨ars, e, h1, as, i, ds, h2, h3, h4, q⟩ := h
  exact ⟨.rp as ds (e.set i .no), by unfold sRetT; simp only [h1, h2, h3, h4, Option.bind_some, if_true], q⟩
theorem retT1 {a : D} (h : env[i]? = some (.own true ds)) (q : Nrm (env.set i .no) (R (.tuple [a, .list ds]))) : RetT [.v a, .r i] env R := ⟨[a], i, ds, rfl, h, rfl, q⟩
theorem retT2 {a b : D} (h : env[i]? = some (.own true ds)) (q : Nrm (env.set i .no) (R (.tuple [a, b, .list ds]))) : RetT [.v a, .v b, .r i] env R := ⟨[a, b], i, ds, rfl, h, rfl, q⟩
def WTd (f : Td) (env : En) (as ds : List D) (Q : Po) : Prop := ∃ o, f env as ds = some o ∧ Q.at o
def WPu (f : Gpu) (env : En) (A : Prop) (B : D → Prop) : Prop := ∃ r, f env = some r ∧ match r with
  | none => A
  | some d => B d
def WK (g : Kf) (args : List Sl) (A : D → Prop) (B : List D → List D → Prop) : Prop := ∃ r a', g args = some (r, a') ∧ match r with
  | .v d => A d
  | .t as ds => B as ds
theorem wpu_nil (q : A) : WPu pNil env A B := ⟨none, rfl, q⟩
theorem wpu_seq {f g : Gpu} (h : WPu f env (WPu g env A B) B) : WPu (pSeq f g) env A B := by
  obtain ⟨r, h1, h2⟩ := h
  cases r with
  | none => obtain ⟨r, h3, q⟩ := h2; exact ⟨r, by unfold pSeq; rw [h1]; exact h3, q⟩
  | some d => exact ⟨some d, by unfold pSeq; rw [h1]; rfl, h2⟩
theorem wpu_ret {f : Ef} (h : WE (eBor f) env fun d _ => B d) : WPu (pRet f) env A B := by
  obtain ⟨d, e, h1, q⟩ := h
  exact ⟨some d, by unfold pRet; rw [h1]; rfl, q⟩
theorem wpu_if {c : Bf} {f g : Gpu} (h : WB (bBor c) env fun b _ => IfB b (WPu f env A B) (WPu g env A B)) : WPu (pIf c f g) env A B := by
  obtain ⟨b, e, h1, h2⟩ := h
  cases b with
  | true => obtain ⟨r, h3, q⟩ : WPu f env A B := h2; exact ⟨r, by unfold pIf; rw [h1]; exact h3, q⟩
  | false => obtain ⟨r, h3, q⟩ : WPu g env A B := h2; exact ⟨r, by unfold pIf; rw [h1]; exact h3, q⟩
theorem wtd_P {f : Sf} (h : Nrm (env.set i (.val (.tuple (as ++ [.list ds])))) fun e => WS f e Q) : WTd (tdP i f) env as ds Q := h
theorem wtd_G {fp : Gpu} {fr : Td} (h : Nrm (unowns (env.set i (.val (.tuple (as ++ [.list ds]))))) fun e => WPu fp e (WTd fr env as ds ⟨N, R, L⟩) fun d => flatD d = true ∧ R d env) : WTd (tdG i fp fr) env as ds ⟨N, R, L⟩ := by
  obtain ⟨r, h1, h2⟩ : WPu fp (lookT i env as ds) (WTd fr env as ds ⟨N, R, L⟩) fun d => flatD d = true ∧ R d env := h
  cases r with
  | none => obtain ⟨o, h3, q⟩ := h2; exact ⟨o, by unfold tdG; rw [h1]; exact h3, q⟩
  | some d => exact ⟨.rt d env, by unfold tdG; rw [h1]; simp only [Option.bind_some, h2.1, if_true], h2.2⟩
theorem wtd_If {gc : Bf} {fa fb : Td} {fr : Sf} (h : Nrm (unowns (env.set i (.val (.tuple (as ++ [.list ds]))))) fun e => WB (bBor gc) e fun b _ => IfB b (WTd fa env as ds ⟨fun e => WS fr e ⟨N, R, L⟩, R, L⟩) (WTd fb env as ds ⟨fun e => WS fr e ⟨N, R, L⟩, R, L⟩)) : WTd (tdIf i (bBor gc) fa fb fr) env as ds ⟨N, R, L⟩ := by
  obtain ⟨b, e, h1, h2⟩ : WB (bBor gc) (lookT i env as ds) fun b _ => IfB b (WTd fa env as ds ⟨fun e => WS fr e ⟨N, R, L⟩, R, L⟩) (WTd fb env as ds ⟨fun e => WS fr e ⟨N, R, L⟩, R, L⟩) := h
  have fin : ∀ o, (⟨fun e => WS fr e ⟨N, R, L⟩, R, L⟩ : Po).at o → ∃ o', thenS fr o = some o' ∧ (⟨N, R, L⟩ : Po).at o' := fun o q => by
    cases o with
    | nx e => exact q
    | rt d e => exact ⟨_, rfl, q⟩
    | rn d e => exact ⟨_, rfl, q⟩
    | rp d d2 e => exact ⟨_, rfl, q⟩
  cases b with
  | true =>
    obtain ⟨o, h3, q⟩ : WTd fa env as ds ⟨fun e => WS fr e ⟨N, R, L⟩, R, L⟩ := h2
    obtain ⟨o', h4, q'⟩ := fin o q
    exact ⟨o', by unfold tdIf; rw [h1]; simp only [Option.bind_some, if_true, h3]; exact h4, q'⟩
  | false =>
    obtain ⟨o, h3, q⟩ : WTd fb env as ds ⟨fun e => WS fr e ⟨N, R, L⟩, R, L⟩ := h2
    obtain ⟨o', h4, q'⟩ := fin o q
    exact ⟨o', by unfold tdIf; rw [h1]; simp only [Option.bind_some, Bool.false_eq_true, if_false, h3]; exact h4, q'⟩
theorem wtd_K {fr : Td} (h : ixN (as.length + 1) j = some as.length ∧ ik ≠ i) (q : Nrm (env.set ik (.val (.list ds))) fun e => WTd fr e as ds Q) : WTd (tdK i ik j fr) env as ds Q := by
  obtain ⟨o, h1, q⟩ : WTd fr (env.set ik (.val (.list ds))) as ds Q := q
  exact ⟨o, by unfold tdK; rw [if_pos h]; exact h1, q⟩
theorem wtd_A {fr : Td} (h : ixN (as.length + 1) j = some as.length) (hf : fits (ds.length + 1) = true) (q : WTd fr env as (ds ++ [.int c]) Q) : WTd (tdA i j c fr) env as ds Q := by
  obtain ⟨o, h1, q⟩ := q
  exact ⟨o, by unfold tdA; rw [if_pos ⟨h, hf⟩]; exact h1, q⟩
theorem wtd_C {fr : Td} (h : ixN (as.length + 1) j = some as.length) (q : WTd fr env as [] Q) : WTd (tdC i j fr) env as ds Q := by
  obtain ⟨o, h1, q⟩ := q
  exact ⟨o, by unfold tdC; rw [if_pos h]; exact h1, q⟩
theorem wtd_U {f : Sf} {ia ib : Nat} {d : D} (h : ia ≠ i ∧ ib ≠ i) (q : Nrm ((env.set ia (.val d)).set ib (.own true ds)) fun e => WS f e Q) : WTd (tdU i ia ib f) env [d] ds Q := by
  obtain ⟨o, h1, q⟩ : WS f ((env.set ia (.val d)).set ib (.own true ds)) Q := q
  exact ⟨o, by unfold tdU; dsimp only; rw [if_pos h]; exact h1, q⟩
theorem ws_told {fa : Af} {g : Kf} {fr : Td} {fp : Sf} (h : WA fa env fun ars e => rSlots ars = [] ∧ i < e.length ∧ WO (resArs e ars) fun args => WK g args (fun d => Nrm (e.set i (.val d)) fun e => WS fp e Q) fun as ds => Nrm (e.set i .no) fun e => WTd fr e as ds Q) : WS (sTold fa g i fr fp) env Q := by
  obtain ⟨ars, e, h1, h2, h3, args, h4, r, a', h5, h6⟩ := h
  cases r with
  | v d =>
    obtain ⟨o, h7, q⟩ : WS fp (e.set i (.val d)) Q := h6
    exact ⟨o, by unfold sTold; simp only [h1, h2, h3, h4, h5, Option.bind_some, if_true]; exact h7, q⟩
  | t as ds =>
    obtain ⟨o, h7, q⟩ : WTd fr (e.set i .no) as ds Q := h6
    exact ⟨o, by unfold sTold; simp only [h1, h2, h3, h4, h5, Option.bind_some, if_true]; exact h7, q⟩
end
/-! what a body hands back that isn't told -/
def NR (p : D → Prop) (f : Sf) : Prop := ∀ env o, f env = some o → match o with
  | .rt d _ => p d
  | .rn _ _ => False
  | _ => True
section
variable {p : D → Prop} {f g : Sf}
theorem nr_seq (h1 : NR p f) (h2 : NR p g) : NR p (sSeq f g) := fun env o e => by
  unfold sSeq at e
  obtain ⟨o1, h3, e⟩ := Option.bind_eq_some_iff.mp e
  have := h1 env o1 h3
  cases o1 with
  | nx e1 => exact h2 e1 o e
  | rt d e1 => cases e; exact this
  | rn d e1 => cases e; exact this
  | rp d d2 e1 => cases e; exact this
theorem nr_frz {i : Nat} (h : NR p f) : NR p (sFrz i f) := fun env o e => by
  unfold sFrz at e
  obtain ⟨r, h3, e⟩ := Option.bind_eq_some_iff.mp e
  exact h _ o e
theorem nr_forGo {t : Tf} (h : NR p f) : ∀ ds, NR p (forGo t f ds)
  | [] => fun env o e => by cases e; trivial
  | d :: ds => fun env o e => by
    unfold forGo at e
    obtain ⟨e1, h3, e⟩ := Option.bind_eq_some_iff.mp e
    obtain ⟨o1, h4, e⟩ := Option.bind_eq_some_iff.mp e
    have := h e1 o1 h4
    cases o1 with
    | nx e1 => exact nr_forGo h ds e1 o e
    | rt d e1 => cases e; exact this
    | rn d e1 => cases e; exact this
    | rp d d2 e1 => cases e; exact this
theorem nr_for {l : Lf} {t : Tf} (h : NR p f) : NR p (sFor l t f) := fun env o e => by
  unfold sFor at e
  obtain ⟨r, h3, e⟩ := Option.bind_eq_some_iff.mp e
  exact nr_forGo h r.1 r.2 o e
theorem nr_set {i : Nat} {fe : Ef} : NR p (sSet i fe) := fun env o e => by
  unfold sSet at e
  obtain ⟨r, h3, e⟩ := Option.map_eq_some_iff.mp e
  subst e; trivial
theorem nr_setO {i : Nat} {fe : Lf} : NR p (sSetO i fe) := fun env o e => by
  unfold sSetO at e
  obtain ⟨r, h3, e⟩ := Option.map_eq_some_iff.mp e
  subst e; trivial
theorem nr_asg {fe : Ef} {t : Tf} : NR p (sAsg fe t) := fun env o e => by
  unfold sAsg at e
  obtain ⟨r, h3, e⟩ := Option.bind_eq_some_iff.mp e
  obtain ⟨r2, h4, e⟩ := Option.map_eq_some_iff.mp e
  subst e; trivial
theorem nr_retT {fa : Af} : NR p (sRetT fa) := fun env o e => by
  unfold sRetT at e
  obtain ⟨r, h3, e⟩ := Option.bind_eq_some_iff.mp e
  obtain ⟨r2, h4, e⟩ := Option.bind_eq_some_iff.mp e
  split at e
  · split at e
    · cases e; trivial
    · cases e
  · cases e
theorem wk_of {n np : Nat} {args : List Sl} {Q : D → List Sl → Prop} {A : D → Prop} {B : List D → List D → Prop} (h : WG (fnRun n np f) args Q) (hp : NR p f) (h1 : ∀ d e, Q d e → p d ∨ d = .none → A d) (h2 : ∀ as ds e, Q (.tuple (as ++ [.list ds])) e → B as ds) : WK (fnTold n np f) args A B := by
  obtain ⟨d, e, h3, q⟩ := h
  unfold fnRun at h3
  split at h3
  · rename_i hl
    split at h3
    · rename_i env he
      cases h3
      exact ⟨.v .none, _, by unfold fnTold; rw [if_pos hl, he], h1 _ _ q (.inr rfl)⟩
    · rename_i d' env he
      cases h3
      exact ⟨.v d, _, by unfold fnTold; rw [if_pos hl, he], h1 _ _ q (.inl (hp _ _ he))⟩
    · rename_i ds env he
      exact (hp _ _ he).elim
    · rename_i as ds env he
      cases h3
      exact ⟨.t as ds, _, by unfold fnTold; rw [if_pos hl, he], h2 _ _ _ q⟩
    · cases h3
  · cases h3
end
end M

namespace M
open PySem PySem.Spec PyProof.Rows L2
/-! ### a new list handed in to be changed, and forgotten -/
def valsA : List Ar → Option (List D)
  | [] => some []
  | .v d :: as => (valsA as).map fun r => d :: r
  | _ :: _ => none
def eCallN (g : Gf) (fl : Lf) (fa : Af) : Ef := fun env => (fl env).bind fun r => (fa r.2).bind fun q => (valsA q.1).bind fun ds => (g (.own false r.1 :: ds.map .val)).map fun w => (w.1, q.2)
section
variable {X : Cx} {k : Nat} {fx : Addr} {fd : FuncData} {ps : List Str} {x : Str} {p pos : Pos} {e : Expr} {es : List Expr} {fa : Af} {fl : Lf} {g : Gf}
end
theorem we_callN {env : En} {g : Gf} {fl : Lf} {fa : Af} {Q : D → En → Prop} (h : WL fl env fun ls e => WA fa e fun ars e2 => WO (valsA ars) fun ds => WG g (.own false ls :: ds.map .val) fun d _ => Q d e2) : WE (eCallN g fl fa) env Q := by
  obtain ⟨ls, e1, h1, ars, e2, h2, ds, h3, d, a', h4, q⟩ := h
  exact ⟨d, e2, by unfold eCallN; simp only [h1, h2, h3, h4, Option.bind_some, Option.map_some], q⟩
theorem vals_nil {Q : List D → Prop} (q : Q []) : WO (valsA []) Q := ⟨_, rfl, q⟩
theorem vals_v {d : D} {as : List Ar} {Q : List D → Prop} (h : WO (valsA as) fun ds => Q (d :: ds)) : WO (valsA (.v d :: as)) Q := by
  obtain ⟨ds, h1, q⟩ := h
  exact ⟨_, by unfold valsA; rw [h1]; rfl, q⟩
end M

namespace M
open PySem PySem.Spec PyProof.Rows L2
/-! ### clocks as data -/
abbrev Hd := Int × Int × Str
def isLk (x : Str) : Prop := ∃ c : Nat, 97 ≤ c ∧ c ≤ 122 ∧ x = ⟨#[c]⟩
def HandsOk (m : Int) (hs : List Hd) : Prop := ∀ h ∈ hs, 0 ≤ h.1 ∧ h.1 < m ∧ 0 ≤ h.2.1 ∧ h.2.1 < m ∧ isLk h.2.2
/-! shapes -/
def Lay (n : Nat) (d : D) : Prop := d.canLay0 = true ∧ d.depth ≤ n
theorem lay_int {n : Nat} (i : Int) : Lay n (.int i) := ⟨rfl, Nat.zero_le _⟩
theorem lay_all {n : Nat} : ∀ {ds : List D}, (∀ d ∈ ds, Lay n d) → PyData.canLayAll0 ds = true ∧ PyData.depthAll ds ≤ n
  | [], _ => ⟨rfl, Nat.zero_le _⟩
  | d :: ds, h => by
    obtain ⟨h1, h2⟩ := h d List.mem_cons_self
    obtain ⟨h3, h4⟩ := lay_all (ds := ds) fun e he => h e (List.mem_cons_of_mem _ he)
    refine ⟨?_, ?_⟩
    · show (PyData.canLay0 d && PyData.canLayAll0 ds) = true
      rw [h1, h3]; rfl
    · show max d.depth (PyData.depthAll ds) ≤ n
      omega
theorem lay_tup {n : Nat} {ds : List D} (h : ∀ d ∈ ds, Lay n d) : Lay (n + 1) (.tuple ds) := by
  obtain ⟨h1, h2⟩ := lay_all h
  refine ⟨h1, ?_⟩
  show PyData.depthAll ds + 1 ≤ n + 1
  omega
theorem lay_lst {n : Nat} {ds : List D} (h : ∀ d ∈ ds, Lay n d) : Lay (n + 1) (.list ds) := by
  obtain ⟨h1, h2⟩ := lay_all h
  refine ⟨h1, ?_⟩
  show PyData.depthAll ds + 1 ≤ n + 1
  omega
theorem Lay.shp {n : Nat} {d : D} (h : Lay n d) (hn : n ≤ 64) : M.shp d = true := by
  unfold M.shp SeqAt.shaped
  rw [h.1, decide_eq_true (show d.depth ≤ 64 by have := h.2; omega)]
  rfl
theorem Lay.mono {n m : Nat} {d : D} (h : Lay n d) (hn : n ≤ m) : Lay m d := ⟨h.1, Nat.le_trans h.2 hn⟩
theorem lay_ints {n : Nat} (ns : List Int) : Lay (n + 1) (.list (ns.map .int)) := lay_lst fun d hd => by
  obtain ⟨j, _, rfl⟩ := List.mem_map.mp hd
  exact lay_int _

/-! letters -/
def letters : List Nat := [97, 98, 99, 100, 101, 102, 103, 104, 105, 106, 107, 108, 109, 110, 111, 112, 113, 114, 115, 116, 117, 118, 119, 120, 121, 122]
/-! ### swaps -/
/-! readings -/
/-! rows -/
/-! ### rules for tuples of numbers of hands -/
/-! first numbers of the plain rows -/
/-- the greatest number that divides a dial and some numbers -/
structure Gd (m : Int) (ns : List Int) (g : Int) : Prop where
  pos : 0 < g
  dm : g ∣ m
  dn : ∀ n ∈ ns, g ∣ n
  all : ∀ d : Int, d ∣ m → (∀ n ∈ ns, d ∣ n) → d ∣ g
theorem Gd.uniq {m g h : Int} {ns : List Int} (x : Gd m ns g) (y : Gd m ns h) : g = h :=
  Int.dvd_antisymm (by have := x.pos; omega) (by have := y.pos; omega) (y.all g x.dm x.dn) (x.all h y.dm y.dn)
theorem Gd.start {m : Int} (hm : 0 < m) : Gd m [] m := ⟨hm, Int.dvd_refl _, fun n h => (by cases h), fun d h _ => h⟩
theorem Gd.step {m g n g' : Int} {ns : List Int} (x : Gd m ns g) (G : IsG g n g') : Gd m (ns ++ [n]) g' := by
  have hp := G.symm.ne x.pos
  refine ⟨hp, Int.dvd_trans G.da x.dm, fun y hy => ?_, fun d d1 d2 => G.all d (x.all d d1 fun y hy => d2 y (List.mem_append_left _ hy)) (d2 n (by simp))⟩
  rcases List.mem_append.mp hy with hy | hy
  · exact Int.dvd_trans G.da (x.dn y hy)
  · rw [List.mem_singleton] at hy; subst hy; exact G.db
theorem HandsOk.mono {m n : Int} {hs : List Hd} (h : HandsOk m hs) (hn : m ≤ n) : HandsOk n hs := fun x hx => by
  obtain ⟨h1, h2, h3, h4, h5⟩ := h x hx
  exact ⟨h1, by omega, h3, by omega, h5⟩
theorem eqvAll_ints : ∀ xs ys : List Int, PyData.eqvAll (xs.map .int) (ys.map .int) = decide (xs = ys)
  | [], [] => by unfold PyData.eqvAll; rfl
  | [], y :: ys => by unfold PyData.eqvAll; rfl
  | x :: xs, [] => by unfold PyData.eqvAll; rfl
  | x :: xs, y :: ys => by
    show (PyData.eqv (.int x) (.int y) && PyData.eqvAll (xs.map .int) (ys.map .int)) = _
    rw [eqvAll_ints xs ys, eqv_int, ← Bool.decide_and]
    exact decide_eq_decide.mpr (by rw [List.cons.injEq])
theorem wo_neInts {xs ys : List Int} {Q : D → Prop} (q : Q (.bool (!decide (xs = ys)))) : WO (gNe (.list (xs.map .int)) (.list (ys.map .int))) Q :=
  wo_neD (shp_ints xs) (shp_ints ys) (by
    have : PyData.eqv (.list (xs.map .int)) (.list (ys.map .int)) = decide (xs = ys) := by unfold PyData.eqv; exact eqvAll_ints xs ys
    rw [this]; exact q)
/-! ### what a reading takes for a tick -/
end M

namespace Lw
open PySem PySem.Spec PyProof.Rows L2 M
def topS (i : Nat) : Stmt := PySem.Challenge.pw_dialdoubt_k10_weights_told.main.body.getD i (.Pass ⟨0, 0, 0, 0⟩)
abbrev s_common_parts : Stmt := topS 1
abbrev N_common_parts : List Str := ["one", "other", "first", "second", "times", "rest", "a", "b"]
theorem sc_common_parts : FnScope N_common_parts ["one", "other"] (defScope s_common_parts) := ⟨rfl, rfl, rfl, by decide +kernel, rfl, by decide +kernel, by decide +kernel⟩
abbrev s_weights_of : Stmt := topS 2
abbrev N_weights_of : List Str := ["many", "numbers", "greatest", "found", "number", "times", "more", "weight"]
theorem sc_weights_of : FnScope N_weights_of ["many", "numbers"] (defScope s_weights_of) := ⟨rfl, rfl, rfl, by decide +kernel, rfl, by decide +kernel, by decide +kernel⟩
abbrev s__law_cells : Stmt := topS 4
abbrev N__law_cells : List Str := ["script", "many", "cells", "k", "cell"]
theorem sc__law_cells : FnScope N__law_cells ["script", "many"] (defScope s__law_cells) := ⟨rfl, rfl, rfl, by decide +kernel, rfl, by decide +kernel, by decide +kernel⟩
abbrev s__law_pool : Stmt := topS 5
abbrev N__law_pool : List Str := ["cells", "k", "cell", "rest"]
theorem sc__law_pool : FnScope N__law_pool ["cells", "k"] (defScope s__law_pool) := ⟨rfl, rfl, rfl, by decide +kernel, rfl, by decide +kernel, by decide +kernel⟩
abbrev s__law_take : Stmt := topS 6
abbrev N__law_take : List Str := ["pool", "many", "found"]
theorem sc__law_take : FnScope N__law_take ["pool", "many"] (defScope s__law_take) := ⟨rfl, rfl, rfl, by decide +kernel, rfl, by decide +kernel, by decide +kernel⟩
abbrev s__law_wide : Stmt := topS 7
abbrev N__law_wide : List Str := ["pool", "base", "found", "turn"]
theorem sc__law_wide : FnScope N__law_wide ["pool", "base"] (defScope s__law_wide) := ⟨rfl, rfl, rfl, by decide +kernel, rfl, by decide +kernel, by decide +kernel⟩
abbrev s__law_power : Stmt := topS 8
abbrev N__law_power : List Str := ["base", "times", "found", "turn"]
theorem sc__law_power : FnScope N__law_power ["base", "times"] (defScope s__law_power) := ⟨rfl, rfl, rfl, by decide +kernel, rfl, by decide +kernel, by decide +kernel⟩
abbrev s__law_dial : Stmt := topS 9
abbrev N__law_dial : List Str := ["pool", "way"]
theorem sc__law_dial : FnScope N__law_dial ["pool"] (defScope s__law_dial) := ⟨rfl, rfl, rfl, by decide +kernel, rfl, by decide +kernel, by decide +kernel⟩
abbrev s__law_mark : Stmt := topS 10
abbrev N__law_mark : List Str := ["pool", "many", "way", "part"]
theorem sc__law_mark : FnScope N__law_mark ["pool", "many"] (defScope s__law_mark) := ⟨rfl, rfl, rfl, by decide +kernel, rfl, by decide +kernel, by decide +kernel⟩
abbrev s__law_common : Stmt := topS 11
abbrev N__law_common : List Str := ["one", "other", "turn"]
theorem sc__law_common : FnScope N__law_common ["one", "other"] (defScope s__law_common) := ⟨rfl, rfl, rfl, by decide +kernel, rfl, by decide +kernel, by decide +kernel⟩
abbrev s__law_whole : Stmt := topS 12
abbrev N__law_whole : List Str := ["thing"]
theorem sc__law_whole : FnScope N__law_whole ["thing"] (defScope s__law_whole) := ⟨rfl, rfl, rfl, by decide +kernel, rfl, by decide +kernel, by decide +kernel⟩
abbrev s__law_numbers : Stmt := topS 13
abbrev N__law_numbers : List Str := ["pool", "many", "found", "turn", "number", "way"]
theorem sc__law_numbers : FnScope N__law_numbers ["pool", "many"] (defScope s__law_numbers) := ⟨rfl, rfl, rfl, by decide +kernel, rfl, by decide +kernel, by decide +kernel⟩
abbrev s__law_right : Stmt := topS 14
abbrev N__law_right : List Str := ["many", "numbers", "greatest", "number", "handed", "found", "kept", "weight"]
theorem sc__law_right : FnScope N__law_right ["many", "numbers"] (defScope s__law_right) := ⟨rfl, rfl, rfl, by decide +kernel, rfl, by decide +kernel, by decide +kernel⟩
abbrev s_law : Stmt := topS 15
abbrev N_law : List Str := ["script", "cells", "k", "pool", "many", "turn"]
theorem sc_law : FnScope N_law ["script"] (defScope s_law) := ⟨rfl, rfl, rfl, by decide +kernel, rfl, by decide +kernel, by decide +kernel⟩
/-! ### the mirrors -/
def b_common_parts : Sf :=
  (sSeq (sPar 2 3 (lCons (eTup (lCons (eV 0) (lCons (eC (.int 1)) (lCons (eC (.int 0)) lNil)))) (lCons (eTup (lCons (eV 1) (lCons (eC (.int 0)) (lCons (eC (.int 1)) lNil)))) lNil)))
  (sSeq (sWh FU (bV (eBin gNe (eBin gIdx (eV 3) (eC (.int 0))) (eC (.int 0))))
  (sSeq (sSet 4 (eBin gDiv (eBin gIdx (eV 2) (eC (.int 0))) (eBin gIdx (eV 3) (eC (.int 0)))))
  (sSeq (sSet 5 (eUn gTuple (eFz (lComp (lZip (eV 2) (eV 3)) [6, 7] (tT 2 (gsC (tN 6) (gsC (tN 7) gsN))) bYes (eBin gSub (eV 6) (eBin gMul (eV 4) (eV 7)))))))
  (sPar 2 3 (lCons (eV 3) (lCons (eV 5) lNil))))))
  (sRet (eV 2))))
def g_common_parts : Gf := fnRun 8 2 b_common_parts
def b_weights_of : Sf :=
  (sSeq (sSet 2 (eV 0))
  (sSeq (sSetO 3 (lLst lNil))
  (sSeq (sFor (lIt (eV 1)) (tN 4)
  (sSeq (sAsg (eCall g_common_parts (aV (eV 2) (aV (eBin gMod (eV 4) (eV 0)) aNil))) (tT 3 (gsC (tN 2) (gsC (tN 5) (gsC (tN 6) gsN)))))
  (sFrz 3 (sSetO 3 (lAddE (eFz (lComp (lIt (eV 3)) [7] (tN 7) bYes (eBin gMod (eBin gMul (eV 7) (eV 5)) (eV 0)))) (eFz (lLst (lCons (eBin gMod (eV 6) (eV 0)) lNil))))))))
  (sRetT (aV (eV 2) (aR 3 aNil))))))
def g_weights_of : Gf := fnRun 8 2 b_weights_of
def t_weights_of : Kf := fnTold 8 2 b_weights_of
def b__law_cells : Sf :=
  (sSeq (sSetO 2 (lUn gList (eFz (lSlV 0 pNo (pE (eV 1))))))
  (sSeq (sFor (lEnum (eFz (lSlV 0 (pE (eV 1)) (pE (eC (.int 63)))))) (tT 2 (gsC (tN 3) (gsC (tN 4) gsN)))
  (sPutI 2 (eBin gMod (eV 3) (eV 1)) (eBin gAdd (eBin gMul (eBinV gIdx 2 (eBin gMod (eV 3) (eV 1))) (eC (.int 31))) (eV 4))))
  (sFrz 2 (sRet (eV 2)))))
def g__law_cells : Gf := fnRun 5 2 b__law_cells
def b__law_pool : Sf :=
  (sSeq (sSet 2 (eC (.int 0)))
  (sSeq (sIf (bV (eBin gGt (eUn gLen (eV 0)) (eC (.int 0))))
  (sSet 2 (eBin gAdd (eBin gIdx (eV 0) (eBin gMod (eV 1) (eUn gLen (eV 0)))) (eBin gDiv (eV 1) (eUn gLen (eV 0)))))
  sNil)
  (sSeq (sSet 3 (eC (.int 0)))
  (sSeq (sIf (bOr (bV (eBin gLt (eV 2) (eC (.int 0)))) (bV (eBin gGe (eV 2) (eBin gPow (eC (.int 10)) (eC (.int 18))))))
  (sSet 3 (eUn gAbs (eV 2)))
  sNil)
  (sRetL (lLst (lCons (eV 3) (lCons (eBin gMod (eBin gAdd (eBin gMul (eBin gMod (eV 2) (eC (.int 2147483629))) (eC (.int 69621))) (eBin gMul (eBin gMul (eC (.int 40009)) (eBin gAdd (eV 1) (eC (.int 1)))) (eBin gAdd (eV 1) (eC (.int 3))))) (eC (.int 2147483629))) lNil))))))))
def g__law_pool : Hf := fnNew 4 2 b__law_pool
def b__law_take : Sf :=
  (sSeq (sIf (bV (eBin gGt (eBinV gIdx 0 (eC (.int 0))) (eC (.int 0))))
  (sSeq (sSet 2 (eBin gMod (eBinV gIdx 0 (eC (.int 0))) (eV 1)))
  (sSeq (sPutI 0 (eC (.int 0)) (eBin gDiv (eBinV gIdx 0 (eC (.int 0))) (eV 1)))
  (sRet (eV 2))))
  sNil)
  (sSeq (sPutI 0 (eC (.int 1)) (eBin gMod (eBin gAdd (eBin gMul (eBinV gIdx 0 (eC (.int 1))) (eC (.int 48271))) (eC (.int 12820163))) (eC (.int 2147483647))))
  (sRet (eBin gMod (eBin gDiv (eBin gMod (eBin gMul (eBin gMod (eBin gMul (eBinV gIdx 0 (eC (.int 1))) (eBinV gIdx 0 (eC (.int 1)))) (eC (.int 2147483629))) (eC (.int 69621))) (eC (.int 2147483587))) (eC (.int 8))) (eV 1)))))
def g__law_take : Gf := fnRun 3 2 b__law_take
def b__law_wide : Sf :=
  (sSeq (sSet 2 (eC (.int 0)))
  (sSeq (sFor (lRng1 (eC (.int 8))) (tN 3)
  (sSet 2 (eBin gAdd (eBin gMul (eV 2) (eBin gPow (eC (.int 10)) (eC (.int 8)))) (eCall g__law_take (aR 0 (aV (eBin gPow (eC (.int 10)) (eC (.int 8))) aNil))))))
  (sRet (eBin gMod (eV 2) (eV 1)))))
def g__law_wide : Gf := fnRun 4 2 b__law_wide
def b__law_power : Sf :=
  (sSeq (sSet 2 (eC (.int 1)))
  (sSeq (sFor (lRng1 (eV 1)) (tN 3)
  (sSet 2 (eBin gMul (eV 2) (eV 0))))
  (sRet (eV 2))))
def g__law_power : Gf := fnRun 4 2 b__law_power
def b__law_dial : Sf :=
  (sSeq (sSet 1 (eCall g__law_take (aR 0 (aV (eC (.int 6)) aNil))))
  (sSeq (sIf (bV (eBin gLt (eV 1) (eC (.int 2))))
  (sRet (eBin gAdd (eC (.int 2)) (eCall g__law_take (aR 0 (aV (eC (.int 59)) aNil)))))
  sNil)
  (sSeq (sIf (bV (eBin gEq (eV 1) (eC (.int 2))))
  (sRet (eBin gIdx (eFz (lLst (lCons (eC (.int 720)) (lCons (eC (.int 5040)) (lCons (eC (.int 1716)) (lCons (eC (.int 1155)) (lCons (eC (.int 46189)) (lCons (eC (.int 97)) lNil)))))))) (eCall g__law_take (aR 0 (aV (eC (.int 6)) aNil)))))
  sNil)
  (sSeq (sIf (bV (eBin gEq (eV 1) (eC (.int 3))))
  (sRet (eCall g__law_power (aV (eC (.int 2)) (aV (eBin gAdd (eC (.int 1)) (eCall g__law_take (aR 0 (aV (eC (.int 199)) aNil)))) aNil))))
  sNil)
  (sSeq (sIf (bV (eBin gEq (eV 1) (eC (.int 4))))
  (sRet (eCall g__law_power (aV (eC (.int 10)) (aV (eBin gAdd (eC (.int 1)) (eCall g__law_take (aR 0 (aV (eC (.int 60)) aNil)))) aNil))))
  sNil)
  (sRet (eBin gMul (eBin gIdx (eFz (lLst (lCons (eC (.int 12)) (lCons (eC (.int 30)) (lCons (eC (.int 2310)) (lCons (eC (.int 1)) lNil)))))) (eCall g__law_take (aR 0 (aV (eC (.int 4)) aNil)))) (eBin gAdd (eC (.int 2)) (eCall g__law_wide (aR 0 (aV (eBin gPow (eC (.int 10)) (eC (.int 55))) aNil)))))))))))
def g__law_dial : Gf := fnRun 2 1 b__law_dial
def b__law_mark : Sf :=
  (sSeq (sSet 2 (eCall g__law_take (aR 0 (aV (eC (.int 5)) aNil))))
  (sSeq (sSet 3 (eBin gIdx (eFz (lLst (lCons (eC (.int 2)) (lCons (eC (.int 3)) (lCons (eC (.int 4)) (lCons (eC (.int 5)) (lCons (eC (.int 6)) (lCons (eC (.int 7)) (lCons (eC (.int 10)) (lCons (eC (.int 11)) (lCons (eC (.int 12)) lNil))))))))))) (eCall g__law_take (aR 0 (aV (eC (.int 9)) aNil)))))
  (sSeq (sIf (bV (eBin gEq (eV 2) (eC (.int 0))))
  (sRet (eBin gMod (eCall g__law_take (aR 0 (aV (eC (.int 12)) aNil))) (eV 1)))
  sNil)
  (sSeq (sIf (bV (eBin gEq (eV 2) (eC (.int 1))))
  (sRet (eBin gSub (eBin gSub (eV 1) (eC (.int 1))) (eBin gMod (eCall g__law_take (aR 0 (aV (eC (.int 5)) aNil))) (eV 1))))
  sNil)
  (sSeq (sIf (bAnd (bV (eBin gLt (eV 2) (eC (.int 4)))) (bV (eBin gEq (eBin gMod (eV 1) (eV 3)) (eC (.int 0)))))
  (sRet (eBin gIdx (eFz (lLst (lCons (eBin gMul (eBin gDiv (eV 1) (eV 3)) (eCall g__law_take (aR 0 (aV (eV 3) aNil)))) (lCons (eBin gMod (eBin gMul (eV 3) (eCall g__law_wide (aR 0 (aV (eV 1) aNil)))) (eV 1)) lNil)))) (eBin gSub (eV 2) (eC (.int 2)))))
  sNil)
  (sRet (eCall g__law_wide (aR 0 (aV (eV 1) aNil)))))))))
def g__law_mark : Gf := fnRun 4 2 b__law_mark
def b__law_common : Sf :=
  (sSeq (sFor (lRng1 (eC (.int 700))) (tN 2)
  (sIf (bV (eBin gNe (eV 1) (eC (.int 0))))
  (sPar 0 1 (lCons (eV 1) (lCons (eBin gMod (eV 0) (eV 1)) lNil)))
  sNil))
  (sRet (eV 0)))
def g__law_common : Gf := fnRun 3 2 b__law_common
def b__law_whole : Sf :=
  (sRet (eAnd (eUn (gIsi .int) (eV 0)) (eNot (eUn (gIsi .bool) (eV 0)))))
def g__law_whole : Gf := fnRun 1 1 b__law_whole
def b__law_numbers : Sf :=
  (sSeq (sSetO 2 (lLst lNil))
  (sSeq (sFor (lRng1 (eBin gAdd (eC (.int 1)) (eCall g__law_take (aR 0 (aV (eC (.int 10)) aNil))))) (tN 3)
  (sSeq (sSet 4 (eCall g__law_mark (aR 0 (aV (eV 1) aNil))))
  (sSeq (sSet 5 (eCall g__law_take (aR 0 (aV (eC (.int 6)) aNil))))
  (sSeq (sIf (bV (eBin gEq (eV 5) (eC (.int 0))))
  (sSet 4 (eBin gMul (eV 1) (eCall g__law_take (aR 0 (aV (eC (.int 4)) aNil)))))
  sNil)
  (sSeq (sIf (bV (eBin gEq (eV 5) (eC (.int 1))))
  (sSet 4 (eBin gSub (eV 4) (eBin gMul (eV 1) (eBin gAdd (eC (.int 1)) (eCall g__law_take (aR 0 (aV (eC (.int 8)) aNil)))))))
  sNil)
  (sSeq (sIf (bAnd (bV (eBin gEq (eV 5) (eC (.int 2)))) (bV (eBinV gNe 2 (eFz (lLst lNil)))))
  (sSet 4 (eBin gMod (eBin gMul (eBinV gIdx 2 (eUn gNeg (eC (.int 1)))) (eCall g__law_take (aR 0 (aV (eC (.int 5)) aNil)))) (eV 1)))
  sNil)
  (sExpr (eMut mAppend 2 (eV 4)))))))))
  (sFrz 2 (sRet (eV 2)))))
def g__law_numbers : Gf := fnRun 6 2 b__law_numbers
def b__law_right : Sf :=
  (sSeq (sSet 2 (eV 0))
  (sSeq (sFor (lIt (eV 1)) (tN 3)
  (sSet 2 (eCall g__law_common (aV (eV 2) (aV (eBin gMod (eV 3) (eV 0)) aNil)))))
  (sSeq (sSet 4 (eFz (lUn gList (eV 1))))
  (sTold (aV (eV 0) (aV (eV 4) aNil)) t_weights_of 5
  (tdG 5 (pIf (bOr (bNot (bV (eUn (gIsi .tup) (eV 5)))) (bOr (bV (eBin gNe (eUn gLen (eV 5)) (eC (.int 2)))) (bOr (bNot (bV (eUn (gIsi .lst) (eBin gIdx (eV 5) (eC (.int 1)))))) (bV (eBin gNe (eV 4) (eV 1)))))) (pRet (eC (.bool false))) pNil)
  (tdG 5 (pIf (bOr (bNot (bV (eCall g__law_whole (aV (eBin gIdx (eV 5) (eC (.int 0))) aNil)))) (bOr (bV (eBin gNe (eBin gIdx (eV 5) (eC (.int 0))) (eV 2))) (bV (eBin gNe (eUn gLen (eBin gIdx (eV 5) (eC (.int 1)))) (eUn gLen (eV 1)))))) (pRet (eC (.bool false))) pNil)
  (tdG 5 (pIf (bNot (bV (eUn gAll (eFz (lComp (lIt (eBin gIdx (eV 5) (eC (.int 1)))) [7] (tN 7) bYes (eCall g__law_whole (aV (eV 7) aNil))))))) (pRet (eC (.bool false))) pNil)
  (tdG 5 (pIf (bV (eBin gNe (eBin gMod (eBin gSub (eUn gSum (eFz (lComp (lZip (eBin gIdx (eV 5) (eC (.int 1))) (eV 1)) [7, 3] (tT 2 (gsC (tN 7) (gsC (tN 3) gsN))) bYes (eBin gMul (eV 7) (eV 3))))) (eV 2)) (eV 0)) (eC (.int 0)))) (pRet (eC (.bool false))) pNil)
  (tdK 5 6 (1)
  (tdA 5 (1) (0)
  (tdP 5 (sRet (eBin gEq (eCall g_weights_of (aV (eV 0) (aV (eV 4) aNil))) (eTup (lCons (eV 2) (lCons (eV 6) lNil))))))))))))
  sNo))))
def g__law_right : Gf := fnRun 8 2 b__law_right
def b_law : Sf :=
  (sSeq (sSet 1 (eCall g__law_cells (aO 0 (aV (eC (.int 8)) aNil))))
  (sSeq (sFor (lRng1 (eBin gMax2 (eC (.int 1)) (eUn gLen (eV 1)))) (tN 2)
  (sSeq (sSetO 3 (lCall g__law_pool (aV (eV 1) (aV (eV 2) aNil))))
  (sSeq (sSet 4 (eCall g__law_dial (aR 3 aNil)))
  (sFor (lRng1 (eC (.int 2))) (tN 5)
  (sIf (bNot (bV (eCall g__law_right (aV (eV 4) (aV (eCall g__law_numbers (aR 3 (aV (eV 4) aNil))) aNil)))))
  (sRet (eC (.bool false)))
  sNil)))))
  (sRet (eC (.bool true)))))
def g_law : Gf := fnRun 6 1 b_law
/-! ### what the top has left -/
structure Tx (K : Frg) (mg : Str → Option Value) where
  f_common_parts : Addr
  d_common_parts : FuncData
  F_common_parts : Fun K "common_parts" "common_parts" s_common_parts f_common_parts d_common_parts
  m_common_parts : mg "common_parts" = some (.ref f_common_parts)
  b_common_parts : Binds K d_common_parts ["one", "other"] []
  f_weights_of : Addr
  d_weights_of : FuncData
  F_weights_of : Fun K "weights_of" "weights_of" s_weights_of f_weights_of d_weights_of
  m_weights_of : mg "weights_of" = some (.ref f_weights_of)
  b_weights_of : Binds K d_weights_of ["many", "numbers"] []
  f__law_cells : Addr
  d__law_cells : FuncData
  F__law_cells : Fun K "_law_cells" "_law_cells" s__law_cells f__law_cells d__law_cells
  m__law_cells : mg "_law_cells" = some (.ref f__law_cells)
  b__law_cells : Binds K d__law_cells ["script", "many"] []
  f__law_pool : Addr
  d__law_pool : FuncData
  F__law_pool : Fun K "_law_pool" "_law_pool" s__law_pool f__law_pool d__law_pool
  m__law_pool : mg "_law_pool" = some (.ref f__law_pool)
  b__law_pool : Binds K d__law_pool ["cells", "k"] []
  f__law_take : Addr
  d__law_take : FuncData
  F__law_take : Fun K "_law_take" "_law_take" s__law_take f__law_take d__law_take
  m__law_take : mg "_law_take" = some (.ref f__law_take)
  b__law_take : Binds K d__law_take ["pool", "many"] []
  f__law_wide : Addr
  d__law_wide : FuncData
  F__law_wide : Fun K "_law_wide" "_law_wide" s__law_wide f__law_wide d__law_wide
  m__law_wide : mg "_law_wide" = some (.ref f__law_wide)
  b__law_wide : Binds K d__law_wide ["pool", "base"] []
  f__law_power : Addr
  d__law_power : FuncData
  F__law_power : Fun K "_law_power" "_law_power" s__law_power f__law_power d__law_power
  m__law_power : mg "_law_power" = some (.ref f__law_power)
  b__law_power : Binds K d__law_power ["base", "times"] []
  f__law_dial : Addr
  d__law_dial : FuncData
  F__law_dial : Fun K "_law_dial" "_law_dial" s__law_dial f__law_dial d__law_dial
  m__law_dial : mg "_law_dial" = some (.ref f__law_dial)
  b__law_dial : Binds K d__law_dial ["pool"] []
  f__law_mark : Addr
  d__law_mark : FuncData
  F__law_mark : Fun K "_law_mark" "_law_mark" s__law_mark f__law_mark d__law_mark
  m__law_mark : mg "_law_mark" = some (.ref f__law_mark)
  b__law_mark : Binds K d__law_mark ["pool", "many"] []
  f__law_common : Addr
  d__law_common : FuncData
  F__law_common : Fun K "_law_common" "_law_common" s__law_common f__law_common d__law_common
  m__law_common : mg "_law_common" = some (.ref f__law_common)
  b__law_common : Binds K d__law_common ["one", "other"] []
  f__law_whole : Addr
  d__law_whole : FuncData
  F__law_whole : Fun K "_law_whole" "_law_whole" s__law_whole f__law_whole d__law_whole
  m__law_whole : mg "_law_whole" = some (.ref f__law_whole)
  b__law_whole : Binds K d__law_whole ["thing"] []
  f__law_numbers : Addr
  d__law_numbers : FuncData
  F__law_numbers : Fun K "_law_numbers" "_law_numbers" s__law_numbers f__law_numbers d__law_numbers
  m__law_numbers : mg "_law_numbers" = some (.ref f__law_numbers)
  b__law_numbers : Binds K d__law_numbers ["pool", "many"] []
  f__law_right : Addr
  d__law_right : FuncData
  F__law_right : Fun K "_law_right" "_law_right" s__law_right f__law_right d__law_right
  m__law_right : mg "_law_right" = some (.ref f__law_right)
  b__law_right : Binds K d__law_right ["many", "numbers"] []
  f_law : Addr
  d_law : FuncData
  F_law : Fun K "law" "law" s_law f_law d_law
  m_law : mg "law" = some (.ref f_law)
  b_law : Binds K d_law ["script"] []
  z_abs : mg "abs" = none
  z_all : mg "all" = none
  z_bool : mg "bool" = none
  z_enumerate : mg "enumerate" = none
  z_int : mg "int" = none
  z_isinstance : mg "isinstance" = none
  z_len : mg "len" = none
  z_list : mg "list" = none
  z_max : mg "max" = none
  z_range : mg "range" = none
  z_sum : mg "sum" = none
  z_tuple : mg "tuple" = none
  z_zip : mg "zip" = none
section
variable {P : Program} {w : World} {K : Frg} {mg : Str → Option Value} {base : Heap} (T : Tx K mg)
include T
theorem ok_common_parts : FnOk P w K mg base CX0 1 T.f_common_parts T.d_common_parts ["one", "other"] (spF K g_common_parts) :=
  fn_okE (k := 0) b_common_parts 8 2 T.F_common_parts sc_common_parts rfl rfl rfl fun cdv A outer s H E hr =>
  (xss_cons (xs_par 2 3 (xl_cons (xe_tup (xl_cons (xv 0) (xl_cons xe_int (xl_cons xe_int xl_nil)))) (xl_cons (xe_tup (xl_cons (xv 1) (xl_cons xe_int (xl_cons xe_int xl_nil)))) xl_nil)) sc_common_parts.nd)
  (xss_cons (xs_while FU PassesOwn.never (xb_cmp (op_neD hr.units) gq_ne (xe_idx (xv 3) xe_int) xe_int (nomark _))
  (xss_cons (xs_set 4 (xe_div (xe_idx (xv 2) xe_int) (xe_idx (xv 3) xe_int)) sc_common_parts.nd)
  (xss_cons (xs_set 5 (xe_tuple T.z_tuple (XE.xo (XN.xe (xn_comp (own := [("a", 6), ("b", 7)]) (xi_zip (xv 2) (xv 3) T.z_zip) sc_common_parts.nd (blkOk_by (N := N_common_parts) (sc := defScope s_common_parts) (by decide +kernel)) (fun _ _ _ _ _ => (xg_tup (xgs_cons (xg_name 6 sc_common_parts.nd) (xgs_cons (xg_name 7 sc_common_parts.nd) xgs_nil)))) (fun _ _ _ _ _ => xts_nil) (fun _ _ _ _ _ => (xe_sub (xv 6) (xe_mul (xv 4) (xv 7)))))))) sc_common_parts.nd)
  (xss_one (xs_par 2 3 (xl_cons (xv 3) (xl_cons (xv 5) xl_nil)) sc_common_parts.nd)))))
  (xss_one (xs_ret (xv 2)))))
theorem ok_weights_of : FnOk P w K mg base CX0 2 T.f_weights_of T.d_weights_of ["many", "numbers"] (spF K g_weights_of) :=
  fn_okE (k := 1) b_weights_of 8 2 T.F_weights_of sc_weights_of rfl rfl rfl fun cdv A outer s H E hr =>
  (xss_cons (xs_set 2 (xv 0) sc_weights_of.nd)
  (xss_cons (xs_setO 3 (xn_lst xl_nil) sc_weights_of.nd)
  (xss_cons (xs_for PassesOwn.never (xi_seq (xv 1)) (xg_name 4 sc_weights_of.nd)
  (xss_cons (xs_asg (xe_call ((ok_common_parts T).mono (by decide)) hr T.m_common_parts T.F_common_parts.kp T.b_common_parts (xa_v (xv 2) (xa_v (xe_mod (xv 4) (xv 0)) xa_nil))) (xg_tup (xgs_cons (xg_name 2 sc_weights_of.nd) (xgs_cons (xg_name 5 sc_weights_of.nd) (xgs_cons (xg_name 6 sc_weights_of.nd) xgs_nil)))))
  (xss_one (xs_frz 3 (xs_setO 3 (xn_addE (XN.xe (xn_comp (own := [("weight", 7)]) (xi_seq (xv 3)) sc_weights_of.nd (blkOk_by (N := N_weights_of) (sc := defScope s_weights_of) (by decide +kernel)) (fun _ _ _ _ _ => (xg_name 7 sc_weights_of.nd)) (fun _ _ _ _ _ => xts_nil) (fun _ _ _ _ _ => (xe_mod (xe_mul (xv 7) (xv 5)) (xv 0))))) (XN.xe (xn_lst (xl_cons (xe_mod (xv 6) (xv 0)) xl_nil)))) sc_weights_of.nd)))))
  (xss_one (xs_retT (xa_v (xv 2) (xa_r 3 xa_nil)))))))
theorem okT_weights_of : FnOk P w K mg base CX0 2 T.f_weights_of T.d_weights_of ["many", "numbers"] (spT K t_weights_of) :=
  fn_toldE (k := 1) b_weights_of 8 2 T.F_weights_of sc_weights_of rfl rfl rfl fun cdv A outer s H E hr =>
  (xss_cons (xs_set 2 (xv 0) sc_weights_of.nd)
  (xss_cons (xs_setO 3 (xn_lst xl_nil) sc_weights_of.nd)
  (xss_cons (xs_for PassesOwn.never (xi_seq (xv 1)) (xg_name 4 sc_weights_of.nd)
  (xss_cons (xs_asg (xe_call ((ok_common_parts T).mono (by decide)) hr T.m_common_parts T.F_common_parts.kp T.b_common_parts (xa_v (xv 2) (xa_v (xe_mod (xv 4) (xv 0)) xa_nil))) (xg_tup (xgs_cons (xg_name 2 sc_weights_of.nd) (xgs_cons (xg_name 5 sc_weights_of.nd) (xgs_cons (xg_name 6 sc_weights_of.nd) xgs_nil)))))
  (xss_one (xs_frz 3 (xs_setO 3 (xn_addE (XN.xe (xn_comp (own := [("weight", 7)]) (xi_seq (xv 3)) sc_weights_of.nd (blkOk_by (N := N_weights_of) (sc := defScope s_weights_of) (by decide +kernel)) (fun _ _ _ _ _ => (xg_name 7 sc_weights_of.nd)) (fun _ _ _ _ _ => xts_nil) (fun _ _ _ _ _ => (xe_mod (xe_mul (xv 7) (xv 5)) (xv 0))))) (XN.xe (xn_lst (xl_cons (xe_mod (xv 6) (xv 0)) xl_nil)))) sc_weights_of.nd)))))
  (xss_one (xs_retT (xa_v (xv 2) (xa_r 3 xa_nil)))))))
theorem ok__law_cells : FnOk P w K mg base CX0 1 T.f__law_cells T.d__law_cells ["script", "many"] (spF K g__law_cells) :=
  fn_okE (k := 0) b__law_cells 5 2 T.F__law_cells sc__law_cells rfl rfl rfl fun cdv A outer s H E hr =>
  (xss_cons (xs_setO 2 (xn_list T.z_list (XE.xo (XN.xe (xn_sliceV 0 xp_none (xp_some (xv 1)))))) sc__law_cells.nd)
  (xss_cons (xs_for PassesOwn.never (xi_enum (XN.xe (xn_sliceV 0 (xp_some (xv 1)) (xp_some xe_int))) T.z_enumerate) (xg_tup (xgs_cons (xg_name 3 sc__law_cells.nd) (xgs_cons (xg_name 4 sc__law_cells.nd) xgs_nil)))
  (xss_one (xs_put 2 (xe_add (xe_mul (xe_idxV 2 (xe_mod (xv 3) (xv 1))) xe_int) (xv 4)) (xe_mod (xv 3) (xv 1)))))
  (xss_one (xs_frz 2 (xs_ret (xv 2))))))
theorem ok__law_pool : FnOk P w K mg base CX0 1 T.f__law_pool T.d__law_pool ["cells", "k"] (spN K g__law_pool) :=
  fn_newE (k := 0) b__law_pool 4 2 T.F__law_pool sc__law_pool rfl rfl rfl fun cdv A outer s H E hr =>
  (xss_cons (xs_set 2 xe_int sc__law_pool.nd)
  (xss_cons (xs_if (xb_cmp op_gt gq_gt (xe_len T.z_len (XE.xo (xv 0))) xe_int (nomark _))
  (xss_one (xs_set 2 (xe_add (xe_idx (xv 0) (xe_mod (xv 1) (xe_len T.z_len (XE.xo (xv 0))))) (xe_div (xv 1) (xe_len T.z_len (XE.xo (xv 0))))) sc__law_pool.nd))
  xss_nil)
  (xss_cons (xs_set 3 xe_int sc__law_pool.nd)
  (xss_cons (xs_if (xb_w (xw_or (xb_cmp op_lt gq_lt (xv 2) xe_int (nomark _)) (xw_or1 (xb_cmp op_ge gq_ge (xv 2) (xe_pow xe_int xe_int) (nomark _)))))
  (xss_one (xs_set 3 (xe_abs T.z_abs (XE.xo (xv 2))) sc__law_pool.nd))
  xss_nil)
  (xss_one (xs_retL (xn_lst (xl_cons (xv 3) (xl_cons (xe_mod (xe_add (xe_mul (xe_mod (xv 2) xe_int) xe_int) (xe_mul (xe_mul xe_int (xe_add (xv 1) xe_int)) (xe_add (xv 1) xe_int))) xe_int) xl_nil)))))))))
theorem ok__law_take : FnOk P w K mg base CX0 1 T.f__law_take T.d__law_take ["pool", "many"] (spF K g__law_take) :=
  fn_okE (k := 0) b__law_take 3 2 T.F__law_take sc__law_take rfl rfl rfl fun cdv A outer s H E hr =>
  (xss_cons (xs_if (xb_cmp op_gt gq_gt (xe_idxV 0 xe_int) xe_int (nomark _))
  (xss_cons (xs_set 2 (xe_mod (xe_idxV 0 xe_int) (xv 1)) sc__law_take.nd)
  (xss_cons (xs_put 0 (xe_div (xe_idxV 0 xe_int) (xv 1)) xe_int)
  (xss_one (xs_ret (xv 2)))))
  xss_nil)
  (xss_cons (xs_put 0 (xe_mod (xe_add (xe_mul (xe_idxV 0 xe_int) xe_int) xe_int) xe_int) xe_int)
  (xss_one (xs_ret (xe_mod (xe_div (xe_mod (xe_mul (xe_mod (xe_mul (xe_idxV 0 xe_int) (xe_idxV 0 xe_int)) xe_int) xe_int) xe_int) xe_int) (xv 1))))))
theorem ok__law_wide : FnOk P w K mg base CX0 2 T.f__law_wide T.d__law_wide ["pool", "base"] (spF K g__law_wide) :=
  fn_okE (k := 1) b__law_wide 4 2 T.F__law_wide sc__law_wide rfl rfl rfl fun cdv A outer s H E hr =>
  (xss_cons (xs_set 2 xe_int sc__law_wide.nd)
  (xss_cons (xs_for PassesOwn.never (xi_rng1 xe_int T.z_range) (xg_name 3 sc__law_wide.nd)
  (xss_one (xs_set 2 (xe_add (xe_mul (xv 2) (xe_pow xe_int xe_int)) (xe_call ((ok__law_take T).mono (by decide)) hr T.m__law_take T.F__law_take.kp T.b__law_take (xa_r 0 (xa_v (xe_pow xe_int xe_int) xa_nil)))) sc__law_wide.nd)))
  (xss_one (xs_ret (xe_mod (xv 2) (xv 1))))))
theorem ok__law_power : FnOk P w K mg base CX0 1 T.f__law_power T.d__law_power ["base", "times"] (spF K g__law_power) :=
  fn_okE (k := 0) b__law_power 4 2 T.F__law_power sc__law_power rfl rfl rfl fun cdv A outer s H E hr =>
  (xss_cons (xs_set 2 xe_int sc__law_power.nd)
  (xss_cons (xs_for PassesOwn.never (xi_rng1 (xv 1) T.z_range) (xg_name 3 sc__law_power.nd)
  (xss_one (xs_set 2 (xe_mul (xv 2) (xv 0)) sc__law_power.nd)))
  (xss_one (xs_ret (xv 2)))))
theorem ok__law_dial : FnOk P w K mg base CX0 3 T.f__law_dial T.d__law_dial ["pool"] (spF K g__law_dial) :=
  fn_okE (k := 2) b__law_dial 2 1 T.F__law_dial sc__law_dial rfl rfl rfl fun cdv A outer s H E hr =>
  (xss_cons (xs_set 1 (xe_call ((ok__law_take T).mono (by decide)) hr T.m__law_take T.F__law_take.kp T.b__law_take (xa_r 0 (xa_v xe_int xa_nil))) sc__law_dial.nd)
  (xss_cons (xs_if (xb_cmp op_lt gq_lt (xv 1) xe_int (nomark _))
  (xss_one (xs_ret (xe_add xe_int (xe_call ((ok__law_take T).mono (by decide)) hr T.m__law_take T.F__law_take.kp T.b__law_take (xa_r 0 (xa_v xe_int xa_nil))))))
  xss_nil)
  (xss_cons (xs_if (xb_cmp (op_eqD hr.units) gq_eq (xv 1) xe_int (nomark _))
  (xss_one (xs_ret (xe_idx (XN.xe (xn_lst (xl_cons xe_int (xl_cons xe_int (xl_cons xe_int (xl_cons xe_int (xl_cons xe_int (xl_cons xe_int xl_nil)))))))) (xe_call ((ok__law_take T).mono (by decide)) hr T.m__law_take T.F__law_take.kp T.b__law_take (xa_r 0 (xa_v xe_int xa_nil))))))
  xss_nil)
  (xss_cons (xs_if (xb_cmp (op_eqD hr.units) gq_eq (xv 1) xe_int (nomark _))
  (xss_one (xs_ret (xe_call ((ok__law_power T).mono (by decide)) hr T.m__law_power T.F__law_power.kp T.b__law_power (xa_v xe_int (xa_v (xe_add xe_int (xe_call ((ok__law_take T).mono (by decide)) hr T.m__law_take T.F__law_take.kp T.b__law_take (xa_r 0 (xa_v xe_int xa_nil)))) xa_nil)))))
  xss_nil)
  (xss_cons (xs_if (xb_cmp (op_eqD hr.units) gq_eq (xv 1) xe_int (nomark _))
  (xss_one (xs_ret (xe_call ((ok__law_power T).mono (by decide)) hr T.m__law_power T.F__law_power.kp T.b__law_power (xa_v xe_int (xa_v (xe_add xe_int (xe_call ((ok__law_take T).mono (by decide)) hr T.m__law_take T.F__law_take.kp T.b__law_take (xa_r 0 (xa_v xe_int xa_nil)))) xa_nil)))))
  xss_nil)
  (xss_one (xs_ret (xe_mul (xe_idx (XN.xe (xn_lst (xl_cons xe_int (xl_cons xe_int (xl_cons xe_int (xl_cons xe_int xl_nil)))))) (xe_call ((ok__law_take T).mono (by decide)) hr T.m__law_take T.F__law_take.kp T.b__law_take (xa_r 0 (xa_v xe_int xa_nil)))) (xe_add xe_int (xe_call ((ok__law_wide T).mono (by decide)) hr T.m__law_wide T.F__law_wide.kp T.b__law_wide (xa_r 0 (xa_v (xe_pow xe_int xe_int) xa_nil))))))))))))
theorem ok__law_mark : FnOk P w K mg base CX0 3 T.f__law_mark T.d__law_mark ["pool", "many"] (spF K g__law_mark) :=
  fn_okE (k := 2) b__law_mark 4 2 T.F__law_mark sc__law_mark rfl rfl rfl fun cdv A outer s H E hr =>
  (xss_cons (xs_set 2 (xe_call ((ok__law_take T).mono (by decide)) hr T.m__law_take T.F__law_take.kp T.b__law_take (xa_r 0 (xa_v xe_int xa_nil))) sc__law_mark.nd)
  (xss_cons (xs_set 3 (xe_idx (XN.xe (xn_lst (xl_cons xe_int (xl_cons xe_int (xl_cons xe_int (xl_cons xe_int (xl_cons xe_int (xl_cons xe_int (xl_cons xe_int (xl_cons xe_int (xl_cons xe_int xl_nil))))))))))) (xe_call ((ok__law_take T).mono (by decide)) hr T.m__law_take T.F__law_take.kp T.b__law_take (xa_r 0 (xa_v xe_int xa_nil)))) sc__law_mark.nd)
  (xss_cons (xs_if (xb_cmp (op_eqD hr.units) gq_eq (xv 2) xe_int (nomark _))
  (xss_one (xs_ret (xe_mod (xe_call ((ok__law_take T).mono (by decide)) hr T.m__law_take T.F__law_take.kp T.b__law_take (xa_r 0 (xa_v xe_int xa_nil))) (xv 1))))
  xss_nil)
  (xss_cons (xs_if (xb_cmp (op_eqD hr.units) gq_eq (xv 2) xe_int (nomark _))
  (xss_one (xs_ret (xe_sub (xe_sub (xv 1) xe_int) (xe_mod (xe_call ((ok__law_take T).mono (by decide)) hr T.m__law_take T.F__law_take.kp T.b__law_take (xa_r 0 (xa_v xe_int xa_nil))) (xv 1)))))
  xss_nil)
  (xss_cons (xs_if (xb_w (xw_and (xb_cmp op_lt gq_lt (xv 2) xe_int (nomark _)) (xw_and1 (xb_cmp (op_eqD hr.units) gq_eq (xe_mod (xv 1) (xv 3)) xe_int (nomark _)))))
  (xss_one (xs_ret (xe_idx (XN.xe (xn_lst (xl_cons (xe_mul (xe_div (xv 1) (xv 3)) (xe_call ((ok__law_take T).mono (by decide)) hr T.m__law_take T.F__law_take.kp T.b__law_take (xa_r 0 (xa_v (xv 3) xa_nil)))) (xl_cons (xe_mod (xe_mul (xv 3) (xe_call ((ok__law_wide T).mono (by decide)) hr T.m__law_wide T.F__law_wide.kp T.b__law_wide (xa_r 0 (xa_v (xv 1) xa_nil)))) (xv 1)) xl_nil)))) (xe_sub (xv 2) xe_int))))
  xss_nil)
  (xss_one (xs_ret (xe_call ((ok__law_wide T).mono (by decide)) hr T.m__law_wide T.F__law_wide.kp T.b__law_wide (xa_r 0 (xa_v (xv 1) xa_nil))))))))))
theorem ok__law_common : FnOk P w K mg base CX0 1 T.f__law_common T.d__law_common ["one", "other"] (spF K g__law_common) :=
  fn_okE (k := 0) b__law_common 3 2 T.F__law_common sc__law_common rfl rfl rfl fun cdv A outer s H E hr =>
  (xss_cons (xs_for PassesOwn.never (xi_rng1 xe_int T.z_range) (xg_name 2 sc__law_common.nd)
  (xss_one (xs_if (xb_cmp (op_neD hr.units) gq_ne (xv 1) xe_int (nomark _))
  (xss_one (xs_par 0 1 (xl_cons (xv 1) (xl_cons (xe_mod (xv 0) (xv 1)) xl_nil)) sc__law_common.nd))
  xss_nil)))
  (xss_one (xs_ret (xv 0))))
theorem ok__law_whole : FnOk P w K mg base CX0 1 T.f__law_whole T.d__law_whole ["thing"] (spF K g__law_whole) :=
  fn_okE (k := 0) b__law_whole 1 1 T.F__law_whole sc__law_whole rfl rfl rfl fun cdv A outer s H E hr =>
  (xss_one (xs_ret (xe_and (xe_isi .int boot_int T.z_isinstance T.z_int (xv 0)) (xe_one (xe_not (xe_isi .bool boot_bool T.z_isinstance T.z_bool (xv 0)))))))
theorem ok__law_numbers : FnOk P w K mg base CX0 4 T.f__law_numbers T.d__law_numbers ["pool", "many"] (spF K g__law_numbers) :=
  fn_okE (k := 3) b__law_numbers 6 2 T.F__law_numbers sc__law_numbers rfl rfl rfl fun cdv A outer s H E hr =>
  (xss_cons (xs_setO 2 (xn_lst xl_nil) sc__law_numbers.nd)
  (xss_cons (xs_for PassesOwn.never (xi_rng1 (xe_add xe_int (xe_call ((ok__law_take T).mono (by decide)) hr T.m__law_take T.F__law_take.kp T.b__law_take (xa_r 0 (xa_v xe_int xa_nil)))) T.z_range) (xg_name 3 sc__law_numbers.nd)
  (xss_cons (xs_set 4 (xe_call ((ok__law_mark T).mono (by decide)) hr T.m__law_mark T.F__law_mark.kp T.b__law_mark (xa_r 0 (xa_v (xv 1) xa_nil))) sc__law_numbers.nd)
  (xss_cons (xs_set 5 (xe_call ((ok__law_take T).mono (by decide)) hr T.m__law_take T.F__law_take.kp T.b__law_take (xa_r 0 (xa_v xe_int xa_nil))) sc__law_numbers.nd)
  (xss_cons (xs_if (xb_cmp (op_eqD hr.units) gq_eq (xv 5) xe_int (nomark _))
  (xss_one (xs_set 4 (xe_mul (xv 1) (xe_call ((ok__law_take T).mono (by decide)) hr T.m__law_take T.F__law_take.kp T.b__law_take (xa_r 0 (xa_v xe_int xa_nil)))) sc__law_numbers.nd))
  xss_nil)
  (xss_cons (xs_if (xb_cmp (op_eqD hr.units) gq_eq (xv 5) xe_int (nomark _))
  (xss_one (xs_set 4 (xe_sub (xv 4) (xe_mul (xv 1) (xe_add xe_int (xe_call ((ok__law_take T).mono (by decide)) hr T.m__law_take T.F__law_take.kp T.b__law_take (xa_r 0 (xa_v xe_int xa_nil)))))) sc__law_numbers.nd))
  xss_nil)
  (xss_cons (xs_if (xb_w (xw_and (xb_cmp (op_eqD hr.units) gq_eq (xv 5) xe_int (nomark _)) (xw_and1 (xb_cmpV 2 (op_neD hr.units) gq_ne (XN.xe (xn_lst xl_nil)) (nomark _)))))
  (xss_one (xs_set 4 (xe_mod (xe_mul (xe_idxV 2 (xe_neg xe_int)) (xe_call ((ok__law_take T).mono (by decide)) hr T.m__law_take T.F__law_take.kp T.b__law_take (xa_r 0 (xa_v xe_int xa_nil)))) (xv 1)) sc__law_numbers.nd))
  xss_nil)
  (xss_one (xs_expr (xe_mut 2 PySem.F.slot_list_append PySem.F.type_list_append mt_append gm_append (xv 4))))))))))
  (xss_one (xs_frz 2 (xs_ret (xv 2))))))
theorem ok__law_right : FnOk P w K mg base CX0 3 T.f__law_right T.d__law_right ["many", "numbers"] (spF K g__law_right) :=
  fn_okE (k := 2) b__law_right 8 2 T.F__law_right sc__law_right rfl rfl rfl fun cdv A outer s H E hr =>
  (xss_cons (xs_set 2 (xv 0) sc__law_right.nd)
  (xss_cons (xs_for PassesOwn.never (xi_seq (xv 1)) (xg_name 3 sc__law_right.nd)
  (xss_one (xs_set 2 (xe_call ((ok__law_common T).mono (by decide)) hr T.m__law_common T.F__law_common.kp T.b__law_common (xa_v (xv 2) (xa_v (xe_mod (xv 3) (xv 0)) xa_nil))) sc__law_right.nd)))
  (xss_cons (xs_set 4 (XN.xe (xn_list T.z_list (XE.xo (xv 1)))) sc__law_right.nd)
  (xss_told 5 ((okT_weights_of T).mono (by decide)) hr T.m_weights_of T.F_weights_of.kp T.b_weights_of (xa_v (xv 0) (xa_v (xv 4) xa_nil)) sc__law_right.nd
  (xt_guard 5 (xpu_if (xb_w (xw_or (xb_not (xb_val (xe_isi .tup boot_tuple T.z_isinstance T.z_tuple (xv 5)))) (xw_or (xb_cmp (op_neD hr.units) gq_ne (xe_len T.z_len (XE.xo (xv 5))) xe_int (nomark _)) (xw_or (xb_not (xb_val (xe_isi .lst boot_list T.z_isinstance T.z_list (xe_idx (xv 5) xe_int)))) (xw_or1 (xb_cmp (op_neD hr.units) gq_ne (xv 4) (xv 1) (nomark _))))))) (xpus_one (xpu_ret xe_bl)) xpus_nil)
  (xt_guard 5 (xpu_if (xb_w (xw_or (xb_not (xb_val (xe_call ((ok__law_whole T).mono (by decide)) hr T.m__law_whole T.F__law_whole.kp T.b__law_whole (xa_v (xe_idx (xv 5) xe_int) xa_nil)))) (xw_or (xb_cmp (op_neD hr.units) gq_ne (xe_idx (xv 5) xe_int) (xv 2) (nomark _)) (xw_or1 (xb_cmp (op_neD hr.units) gq_ne (xe_len T.z_len (XE.xo (xe_idx (xv 5) xe_int))) (xe_len T.z_len (XE.xo (xv 1))) (nomark _)))))) (xpus_one (xpu_ret xe_bl)) xpus_nil)
  (xt_guard 5 (xpu_if (xb_not (xb_val (xe_all T.z_all (XE.xo (XN.xe (xn_comp (own := [("weight", 7)]) (xi_seq (xe_idx (xv 5) xe_int)) sc__law_right.nd (blkOk_by (N := N__law_right) (sc := defScope s__law_right) (by decide +kernel)) (fun _ _ _ _ _ => (xg_name 7 sc__law_right.nd)) (fun _ _ _ _ _ => xts_nil) (fun _ _ _ _ _ => (xe_call ((ok__law_whole T).mono (by decide)) hr T.m__law_whole T.F__law_whole.kp T.b__law_whole (xa_v (xv 7) xa_nil))))))))) (xpus_one (xpu_ret xe_bl)) xpus_nil)
  (xt_guard 5 (xpu_if (xb_cmp (op_neD hr.units) gq_ne (xe_mod (xe_sub (xe_sum T.z_sum (XE.xo (XN.xe (xn_comp (own := [("weight", 7), ("number", 3)]) (xi_zip (xe_idx (xv 5) xe_int) (xv 1) T.z_zip) sc__law_right.nd (blkOk_by (N := N__law_right) (sc := defScope s__law_right) (by decide +kernel)) (fun _ _ _ _ _ => (xg_tup (xgs_cons (xg_name 7 sc__law_right.nd) (xgs_cons (xg_name 3 sc__law_right.nd) xgs_nil)))) (fun _ _ _ _ _ => xts_nil) (fun _ _ _ _ _ => (xe_mul (xv 7) (xv 3))))))) (xv 2)) (xv 0)) xe_int (nomark _)) (xpus_one (xpu_ret xe_bl)) xpus_nil)
  (xt_keep 5 6 T.z_list xc_int
  (xt_append 5 xc_int xc_int
  (xt_plain 5 (xss_one (xs_ret (xe_cmp (op_eqD hr.units) gq_eq (xe_call ((ok_weights_of T).mono (by decide)) hr T.m_weights_of T.F_weights_of.kp T.b_weights_of (xa_v (xv 0) (xa_v (xv 4) xa_nil))) (xe_tup (xl_cons (xv 2) (xl_cons (xv 6) xl_nil))) (nomark _)))))) sc__law_right.nd)))))
  xss_never))))
theorem ok_law : FnOk P w K mg base CX0 5 T.f_law T.d_law ["script"] (spF K g_law) :=
  fn_okE (k := 4) b_law 6 1 T.F_law sc_law rfl rfl rfl fun cdv A outer s H E hr =>
  (xss_cons (xs_set 1 (xe_call ((ok__law_cells T).mono (by decide)) hr T.m__law_cells T.F__law_cells.kp T.b__law_cells (xa_o 0 (xa_v xe_int xa_nil))) sc_law.nd)
  (xss_cons (xs_for PassesOwn.never (xi_rng1 (xe_max2 T.z_max xe_int (xe_len T.z_len (XE.xo (xv 1)))) T.z_range) (xg_name 2 sc_law.nd)
  (xss_cons (xs_setO 3 (xn_call ((ok__law_pool T).mono (by decide)) hr T.m__law_pool T.F__law_pool.kp T.b__law_pool (xa_v (xv 1) (xa_v (xv 2) xa_nil))) sc_law.nd)
  (xss_cons (xs_set 4 (xe_call ((ok__law_dial T).mono (by decide)) hr T.m__law_dial T.F__law_dial.kp T.b__law_dial (xa_r 3 xa_nil)) sc_law.nd)
  (xss_one (xs_for PassesOwn.never (xi_rng1 xe_int T.z_range) (xg_name 5 sc_law.nd)
  (xss_one (xs_if (xb_not (xb_val (xe_call ((ok__law_right T).mono (by decide)) hr T.m__law_right T.F__law_right.kp T.b__law_right (xa_v (xv 4) (xa_v (xe_call ((ok__law_numbers T).mono (by decide)) hr T.m__law_numbers T.F__law_numbers.kp T.b__law_numbers (xa_r 3 (xa_v (xv 4) xa_nil))) xa_nil)))))
  (xss_one (xs_ret xe_bl))
  xss_nil)))))))
  (xss_one (xs_ret xe_bl))))
end
end Lw

namespace Lw
open PySem PySem.Spec PyProof.Rows L2 M
theorem tx_mk {K : Frg} {h : Heap} {mg : Str → Option Value} (X : K.In h) (G : h.Ns mainGlobals mg)
    {od0 an0 : Option Addr} {sl0 : Array (Option Value)} {oc0 kV0 dc0 pm0 cd0 ct0 : Value} {f0 : Addr}
    (a0 : PySem.W.nsIn K mainGlobals "common_parts" = some (some (.ref f0))) (l0 : K.lookup f0 = some ⟨oc0, od0, .func (PySem.W.fnOf "common_parts" "common_parts" (defArgs s_common_parts) (defBody s_common_parts) (defScope s_common_parts) .none kV0 dc0 pm0 an0 cd0 ct0), sl0⟩) (c0 : PySem.W.codeIn K cd0 "common_parts" = true) (k0 : PySem.W.keepIn K (.ref f0) = true)
    {od1 an1 : Option Addr} {sl1 : Array (Option Value)} {oc1 kV1 dc1 pm1 cd1 ct1 : Value} {f1 : Addr}
    (a1 : PySem.W.nsIn K mainGlobals "weights_of" = some (some (.ref f1))) (l1 : K.lookup f1 = some ⟨oc1, od1, .func (PySem.W.fnOf "weights_of" "weights_of" (defArgs s_weights_of) (defBody s_weights_of) (defScope s_weights_of) .none kV1 dc1 pm1 an1 cd1 ct1), sl1⟩) (c1 : PySem.W.codeIn K cd1 "weights_of" = true) (k1 : PySem.W.keepIn K (.ref f1) = true)
    {od2 an2 : Option Addr} {sl2 : Array (Option Value)} {oc2 kV2 dc2 pm2 cd2 ct2 : Value} {f2 : Addr}
    (a2 : PySem.W.nsIn K mainGlobals "_law_cells" = some (some (.ref f2))) (l2 : K.lookup f2 = some ⟨oc2, od2, .func (PySem.W.fnOf "_law_cells" "_law_cells" (defArgs s__law_cells) (defBody s__law_cells) (defScope s__law_cells) .none kV2 dc2 pm2 an2 cd2 ct2), sl2⟩) (c2 : PySem.W.codeIn K cd2 "_law_cells" = true) (k2 : PySem.W.keepIn K (.ref f2) = true)
    {od3 an3 : Option Addr} {sl3 : Array (Option Value)} {oc3 kV3 dc3 pm3 cd3 ct3 : Value} {f3 : Addr}
    (a3 : PySem.W.nsIn K mainGlobals "_law_pool" = some (some (.ref f3))) (l3 : K.lookup f3 = some ⟨oc3, od3, .func (PySem.W.fnOf "_law_pool" "_law_pool" (defArgs s__law_pool) (defBody s__law_pool) (defScope s__law_pool) .none kV3 dc3 pm3 an3 cd3 ct3), sl3⟩) (c3 : PySem.W.codeIn K cd3 "_law_pool" = true) (k3 : PySem.W.keepIn K (.ref f3) = true)
    {od4 an4 : Option Addr} {sl4 : Array (Option Value)} {oc4 kV4 dc4 pm4 cd4 ct4 : Value} {f4 : Addr}
    (a4 : PySem.W.nsIn K mainGlobals "_law_take" = some (some (.ref f4))) (l4 : K.lookup f4 = some ⟨oc4, od4, .func (PySem.W.fnOf "_law_take" "_law_take" (defArgs s__law_take) (defBody s__law_take) (defScope s__law_take) .none kV4 dc4 pm4 an4 cd4 ct4), sl4⟩) (c4 : PySem.W.codeIn K cd4 "_law_take" = true) (k4 : PySem.W.keepIn K (.ref f4) = true)
    {od5 an5 : Option Addr} {sl5 : Array (Option Value)} {oc5 kV5 dc5 pm5 cd5 ct5 : Value} {f5 : Addr}
    (a5 : PySem.W.nsIn K mainGlobals "_law_wide" = some (some (.ref f5))) (l5 : K.lookup f5 = some ⟨oc5, od5, .func (PySem.W.fnOf "_law_wide" "_law_wide" (defArgs s__law_wide) (defBody s__law_wide) (defScope s__law_wide) .none kV5 dc5 pm5 an5 cd5 ct5), sl5⟩) (c5 : PySem.W.codeIn K cd5 "_law_wide" = true) (k5 : PySem.W.keepIn K (.ref f5) = true)
    {od6 an6 : Option Addr} {sl6 : Array (Option Value)} {oc6 kV6 dc6 pm6 cd6 ct6 : Value} {f6 : Addr}
    (a6 : PySem.W.nsIn K mainGlobals "_law_power" = some (some (.ref f6))) (l6 : K.lookup f6 = some ⟨oc6, od6, .func (PySem.W.fnOf "_law_power" "_law_power" (defArgs s__law_power) (defBody s__law_power) (defScope s__law_power) .none kV6 dc6 pm6 an6 cd6 ct6), sl6⟩) (c6 : PySem.W.codeIn K cd6 "_law_power" = true) (k6 : PySem.W.keepIn K (.ref f6) = true)
    {od7 an7 : Option Addr} {sl7 : Array (Option Value)} {oc7 kV7 dc7 pm7 cd7 ct7 : Value} {f7 : Addr}
    (a7 : PySem.W.nsIn K mainGlobals "_law_dial" = some (some (.ref f7))) (l7 : K.lookup f7 = some ⟨oc7, od7, .func (PySem.W.fnOf "_law_dial" "_law_dial" (defArgs s__law_dial) (defBody s__law_dial) (defScope s__law_dial) .none kV7 dc7 pm7 an7 cd7 ct7), sl7⟩) (c7 : PySem.W.codeIn K cd7 "_law_dial" = true) (k7 : PySem.W.keepIn K (.ref f7) = true)
    {od8 an8 : Option Addr} {sl8 : Array (Option Value)} {oc8 kV8 dc8 pm8 cd8 ct8 : Value} {f8 : Addr}
    (a8 : PySem.W.nsIn K mainGlobals "_law_mark" = some (some (.ref f8))) (l8 : K.lookup f8 = some ⟨oc8, od8, .func (PySem.W.fnOf "_law_mark" "_law_mark" (defArgs s__law_mark) (defBody s__law_mark) (defScope s__law_mark) .none kV8 dc8 pm8 an8 cd8 ct8), sl8⟩) (c8 : PySem.W.codeIn K cd8 "_law_mark" = true) (k8 : PySem.W.keepIn K (.ref f8) = true)
    {od9 an9 : Option Addr} {sl9 : Array (Option Value)} {oc9 kV9 dc9 pm9 cd9 ct9 : Value} {f9 : Addr}
    (a9 : PySem.W.nsIn K mainGlobals "_law_common" = some (some (.ref f9))) (l9 : K.lookup f9 = some ⟨oc9, od9, .func (PySem.W.fnOf "_law_common" "_law_common" (defArgs s__law_common) (defBody s__law_common) (defScope s__law_common) .none kV9 dc9 pm9 an9 cd9 ct9), sl9⟩) (c9 : PySem.W.codeIn K cd9 "_law_common" = true) (k9 : PySem.W.keepIn K (.ref f9) = true)
    {od10 an10 : Option Addr} {sl10 : Array (Option Value)} {oc10 kV10 dc10 pm10 cd10 ct10 : Value} {f10 : Addr}
    (a10 : PySem.W.nsIn K mainGlobals "_law_whole" = some (some (.ref f10))) (l10 : K.lookup f10 = some ⟨oc10, od10, .func (PySem.W.fnOf "_law_whole" "_law_whole" (defArgs s__law_whole) (defBody s__law_whole) (defScope s__law_whole) .none kV10 dc10 pm10 an10 cd10 ct10), sl10⟩) (c10 : PySem.W.codeIn K cd10 "_law_whole" = true) (k10 : PySem.W.keepIn K (.ref f10) = true)
    {od11 an11 : Option Addr} {sl11 : Array (Option Value)} {oc11 kV11 dc11 pm11 cd11 ct11 : Value} {f11 : Addr}
    (a11 : PySem.W.nsIn K mainGlobals "_law_numbers" = some (some (.ref f11))) (l11 : K.lookup f11 = some ⟨oc11, od11, .func (PySem.W.fnOf "_law_numbers" "_law_numbers" (defArgs s__law_numbers) (defBody s__law_numbers) (defScope s__law_numbers) .none kV11 dc11 pm11 an11 cd11 ct11), sl11⟩) (c11 : PySem.W.codeIn K cd11 "_law_numbers" = true) (k11 : PySem.W.keepIn K (.ref f11) = true)
    {od12 an12 : Option Addr} {sl12 : Array (Option Value)} {oc12 kV12 dc12 pm12 cd12 ct12 : Value} {f12 : Addr}
    (a12 : PySem.W.nsIn K mainGlobals "_law_right" = some (some (.ref f12))) (l12 : K.lookup f12 = some ⟨oc12, od12, .func (PySem.W.fnOf "_law_right" "_law_right" (defArgs s__law_right) (defBody s__law_right) (defScope s__law_right) .none kV12 dc12 pm12 an12 cd12 ct12), sl12⟩) (c12 : PySem.W.codeIn K cd12 "_law_right" = true) (k12 : PySem.W.keepIn K (.ref f12) = true)
    {od13 an13 : Option Addr} {sl13 : Array (Option Value)} {oc13 kV13 dc13 pm13 cd13 ct13 : Value} {f13 : Addr}
    (a13 : PySem.W.nsIn K mainGlobals "law" = some (some (.ref f13))) (l13 : K.lookup f13 = some ⟨oc13, od13, .func (PySem.W.fnOf "law" "law" (defArgs s_law) (defBody s_law) (defScope s_law) .none kV13 dc13 pm13 an13 cd13 ct13), sl13⟩) (c13 : PySem.W.codeIn K cd13 "law" = true) (k13 : PySem.W.keepIn K (.ref f13) = true)
    (z0 : PySem.W.nsIn K mainGlobals "abs" = some none)
    (z1 : PySem.W.nsIn K mainGlobals "all" = some none)
    (z2 : PySem.W.nsIn K mainGlobals "bool" = some none)
    (z3 : PySem.W.nsIn K mainGlobals "enumerate" = some none)
    (z4 : PySem.W.nsIn K mainGlobals "int" = some none)
    (z5 : PySem.W.nsIn K mainGlobals "isinstance" = some none)
    (z6 : PySem.W.nsIn K mainGlobals "len" = some none)
    (z7 : PySem.W.nsIn K mainGlobals "list" = some none)
    (z8 : PySem.W.nsIn K mainGlobals "max" = some none)
    (z9 : PySem.W.nsIn K mainGlobals "range" = some none)
    (z10 : PySem.W.nsIn K mainGlobals "sum" = some none)
    (z11 : PySem.W.nsIn K mainGlobals "tuple" = some none)
    (z12 : PySem.W.nsIn K mainGlobals "zip" = some none) :
    ∃ T : Tx K mg, T.f_law = f13 ∧ T.d_law = PySem.W.fnOf "law" "law" (defArgs s_law) (defBody s_law) (defScope s_law) .none kV13 dc13 pm13 an13 cd13 ct13 := by
  have F0 := fun_mk (st := s_common_parts) l0 c0 k0
  have B0 := F0.binds (ps := ["one", "other"]) fun _ _ _ _ _ _ us hl => match us, hl with | [_, _], _ => rfl
  have F1 := fun_mk (st := s_weights_of) l1 c1 k1
  have B1 := F1.binds (ps := ["many", "numbers"]) fun _ _ _ _ _ _ us hl => match us, hl with | [_, _], _ => rfl
  have F2 := fun_mk (st := s__law_cells) l2 c2 k2
  have B2 := F2.binds (ps := ["script", "many"]) fun _ _ _ _ _ _ us hl => match us, hl with | [_, _], _ => rfl
  have F3 := fun_mk (st := s__law_pool) l3 c3 k3
  have B3 := F3.binds (ps := ["cells", "k"]) fun _ _ _ _ _ _ us hl => match us, hl with | [_, _], _ => rfl
  have F4 := fun_mk (st := s__law_take) l4 c4 k4
  have B4 := F4.binds (ps := ["pool", "many"]) fun _ _ _ _ _ _ us hl => match us, hl with | [_, _], _ => rfl
  have F5 := fun_mk (st := s__law_wide) l5 c5 k5
  have B5 := F5.binds (ps := ["pool", "base"]) fun _ _ _ _ _ _ us hl => match us, hl with | [_, _], _ => rfl
  have F6 := fun_mk (st := s__law_power) l6 c6 k6
  have B6 := F6.binds (ps := ["base", "times"]) fun _ _ _ _ _ _ us hl => match us, hl with | [_, _], _ => rfl
  have F7 := fun_mk (st := s__law_dial) l7 c7 k7
  have B7 := F7.binds (ps := ["pool"]) fun _ _ _ _ _ _ us hl => match us, hl with | [_], _ => rfl
  have F8 := fun_mk (st := s__law_mark) l8 c8 k8
  have B8 := F8.binds (ps := ["pool", "many"]) fun _ _ _ _ _ _ us hl => match us, hl with | [_, _], _ => rfl
  have F9 := fun_mk (st := s__law_common) l9 c9 k9
  have B9 := F9.binds (ps := ["one", "other"]) fun _ _ _ _ _ _ us hl => match us, hl with | [_, _], _ => rfl
  have F10 := fun_mk (st := s__law_whole) l10 c10 k10
  have B10 := F10.binds (ps := ["thing"]) fun _ _ _ _ _ _ us hl => match us, hl with | [_], _ => rfl
  have F11 := fun_mk (st := s__law_numbers) l11 c11 k11
  have B11 := F11.binds (ps := ["pool", "many"]) fun _ _ _ _ _ _ us hl => match us, hl with | [_, _], _ => rfl
  have F12 := fun_mk (st := s__law_right) l12 c12 k12
  have B12 := F12.binds (ps := ["many", "numbers"]) fun _ _ _ _ _ _ us hl => match us, hl with | [_, _], _ => rfl
  have F13 := fun_mk (st := s_law) l13 c13 k13
  have B13 := F13.binds (ps := ["script"]) fun _ _ _ _ _ _ us hl => match us, hl with | [_], _ => rfl
  exact ⟨{ f_common_parts := _, d_common_parts := _, F_common_parts := F0, m_common_parts := PySem.W.mg_of X G a0, b_common_parts := B0, f_weights_of := _, d_weights_of := _, F_weights_of := F1, m_weights_of := PySem.W.mg_of X G a1, b_weights_of := B1, f__law_cells := _, d__law_cells := _, F__law_cells := F2, m__law_cells := PySem.W.mg_of X G a2, b__law_cells := B2, f__law_pool := _, d__law_pool := _, F__law_pool := F3, m__law_pool := PySem.W.mg_of X G a3, b__law_pool := B3, f__law_take := _, d__law_take := _, F__law_take := F4, m__law_take := PySem.W.mg_of X G a4, b__law_take := B4, f__law_wide := _, d__law_wide := _, F__law_wide := F5, m__law_wide := PySem.W.mg_of X G a5, b__law_wide := B5, f__law_power := _, d__law_power := _, F__law_power := F6, m__law_power := PySem.W.mg_of X G a6, b__law_power := B6, f__law_dial := _, d__law_dial := _, F__law_dial := F7, m__law_dial := PySem.W.mg_of X G a7, b__law_dial := B7, f__law_mark := _, d__law_mark := _, F__law_mark := F8, m__law_mark := PySem.W.mg_of X G a8, b__law_mark := B8, f__law_common := _, d__law_common := _, F__law_common := F9, m__law_common := PySem.W.mg_of X G a9, b__law_common := B9, f__law_whole := _, d__law_whole := _, F__law_whole := F10, m__law_whole := PySem.W.mg_of X G a10, b__law_whole := B10, f__law_numbers := _, d__law_numbers := _, F__law_numbers := F11, m__law_numbers := PySem.W.mg_of X G a11, b__law_numbers := B11, f__law_right := _, d__law_right := _, F__law_right := F12, m__law_right := PySem.W.mg_of X G a12, b__law_right := B12, f_law := _, d_law := _, F_law := F13, m_law := PySem.W.mg_of X G a13, b_law := B13, z_abs := PySem.W.mg_none_of X G z0, z_all := PySem.W.mg_none_of X G z1, z_bool := PySem.W.mg_none_of X G z2, z_enumerate := PySem.W.mg_none_of X G z3, z_int := PySem.W.mg_none_of X G z4, z_isinstance := PySem.W.mg_none_of X G z5, z_len := PySem.W.mg_none_of X G z6, z_list := PySem.W.mg_none_of X G z7, z_max := PySem.W.mg_none_of X G z8, z_range := PySem.W.mg_none_of X G z9, z_sum := PySem.W.mg_none_of X G z10, z_tuple := PySem.W.mg_none_of X G z11, z_zip := PySem.W.mg_none_of X G z12 }, rfl, rfl⟩
theorem all_mk {l : PySem.W.OpenLaw} {w : World} {K : Frg} {h : Heap} {mg : Str → Option Value} {fa : Addr} (X : K.In h) (G : h.Ns mainGlobals mg) (hfa : mg "law" = some (.ref fa))
    {od0 an0 : Option Addr} {sl0 : Array (Option Value)} {oc0 kV0 dc0 pm0 cd0 ct0 : Value} {f0 : Addr}
    (a0 : PySem.W.nsIn K mainGlobals "common_parts" = some (some (.ref f0))) (l0 : K.lookup f0 = some ⟨oc0, od0, .func (PySem.W.fnOf "common_parts" "common_parts" (defArgs s_common_parts) (defBody s_common_parts) (defScope s_common_parts) .none kV0 dc0 pm0 an0 cd0 ct0), sl0⟩) (c0 : PySem.W.codeIn K cd0 "common_parts" = true) (k0 : PySem.W.keepIn K (.ref f0) = true)
    {od1 an1 : Option Addr} {sl1 : Array (Option Value)} {oc1 kV1 dc1 pm1 cd1 ct1 : Value} {f1 : Addr}
    (a1 : PySem.W.nsIn K mainGlobals "weights_of" = some (some (.ref f1))) (l1 : K.lookup f1 = some ⟨oc1, od1, .func (PySem.W.fnOf "weights_of" "weights_of" (defArgs s_weights_of) (defBody s_weights_of) (defScope s_weights_of) .none kV1 dc1 pm1 an1 cd1 ct1), sl1⟩) (c1 : PySem.W.codeIn K cd1 "weights_of" = true) (k1 : PySem.W.keepIn K (.ref f1) = true)
    {od2 an2 : Option Addr} {sl2 : Array (Option Value)} {oc2 kV2 dc2 pm2 cd2 ct2 : Value} {f2 : Addr}
    (a2 : PySem.W.nsIn K mainGlobals "_law_cells" = some (some (.ref f2))) (l2 : K.lookup f2 = some ⟨oc2, od2, .func (PySem.W.fnOf "_law_cells" "_law_cells" (defArgs s__law_cells) (defBody s__law_cells) (defScope s__law_cells) .none kV2 dc2 pm2 an2 cd2 ct2), sl2⟩) (c2 : PySem.W.codeIn K cd2 "_law_cells" = true) (k2 : PySem.W.keepIn K (.ref f2) = true)
    {od3 an3 : Option Addr} {sl3 : Array (Option Value)} {oc3 kV3 dc3 pm3 cd3 ct3 : Value} {f3 : Addr}
    (a3 : PySem.W.nsIn K mainGlobals "_law_pool" = some (some (.ref f3))) (l3 : K.lookup f3 = some ⟨oc3, od3, .func (PySem.W.fnOf "_law_pool" "_law_pool" (defArgs s__law_pool) (defBody s__law_pool) (defScope s__law_pool) .none kV3 dc3 pm3 an3 cd3 ct3), sl3⟩) (c3 : PySem.W.codeIn K cd3 "_law_pool" = true) (k3 : PySem.W.keepIn K (.ref f3) = true)
    {od4 an4 : Option Addr} {sl4 : Array (Option Value)} {oc4 kV4 dc4 pm4 cd4 ct4 : Value} {f4 : Addr}
    (a4 : PySem.W.nsIn K mainGlobals "_law_take" = some (some (.ref f4))) (l4 : K.lookup f4 = some ⟨oc4, od4, .func (PySem.W.fnOf "_law_take" "_law_take" (defArgs s__law_take) (defBody s__law_take) (defScope s__law_take) .none kV4 dc4 pm4 an4 cd4 ct4), sl4⟩) (c4 : PySem.W.codeIn K cd4 "_law_take" = true) (k4 : PySem.W.keepIn K (.ref f4) = true)
    {od5 an5 : Option Addr} {sl5 : Array (Option Value)} {oc5 kV5 dc5 pm5 cd5 ct5 : Value} {f5 : Addr}
    (a5 : PySem.W.nsIn K mainGlobals "_law_wide" = some (some (.ref f5))) (l5 : K.lookup f5 = some ⟨oc5, od5, .func (PySem.W.fnOf "_law_wide" "_law_wide" (defArgs s__law_wide) (defBody s__law_wide) (defScope s__law_wide) .none kV5 dc5 pm5 an5 cd5 ct5), sl5⟩) (c5 : PySem.W.codeIn K cd5 "_law_wide" = true) (k5 : PySem.W.keepIn K (.ref f5) = true)
    {od6 an6 : Option Addr} {sl6 : Array (Option Value)} {oc6 kV6 dc6 pm6 cd6 ct6 : Value} {f6 : Addr}
    (a6 : PySem.W.nsIn K mainGlobals "_law_power" = some (some (.ref f6))) (l6 : K.lookup f6 = some ⟨oc6, od6, .func (PySem.W.fnOf "_law_power" "_law_power" (defArgs s__law_power) (defBody s__law_power) (defScope s__law_power) .none kV6 dc6 pm6 an6 cd6 ct6), sl6⟩) (c6 : PySem.W.codeIn K cd6 "_law_power" = true) (k6 : PySem.W.keepIn K (.ref f6) = true)
    {od7 an7 : Option Addr} {sl7 : Array (Option Value)} {oc7 kV7 dc7 pm7 cd7 ct7 : Value} {f7 : Addr}
    (a7 : PySem.W.nsIn K mainGlobals "_law_dial" = some (some (.ref f7))) (l7 : K.lookup f7 = some ⟨oc7, od7, .func (PySem.W.fnOf "_law_dial" "_law_dial" (defArgs s__law_dial) (defBody s__law_dial) (defScope s__law_dial) .none kV7 dc7 pm7 an7 cd7 ct7), sl7⟩) (c7 : PySem.W.codeIn K cd7 "_law_dial" = true) (k7 : PySem.W.keepIn K (.ref f7) = true)
    {od8 an8 : Option Addr} {sl8 : Array (Option Value)} {oc8 kV8 dc8 pm8 cd8 ct8 : Value} {f8 : Addr}
    (a8 : PySem.W.nsIn K mainGlobals "_law_mark" = some (some (.ref f8))) (l8 : K.lookup f8 = some ⟨oc8, od8, .func (PySem.W.fnOf "_law_mark" "_law_mark" (defArgs s__law_mark) (defBody s__law_mark) (defScope s__law_mark) .none kV8 dc8 pm8 an8 cd8 ct8), sl8⟩) (c8 : PySem.W.codeIn K cd8 "_law_mark" = true) (k8 : PySem.W.keepIn K (.ref f8) = true)
    {od9 an9 : Option Addr} {sl9 : Array (Option Value)} {oc9 kV9 dc9 pm9 cd9 ct9 : Value} {f9 : Addr}
    (a9 : PySem.W.nsIn K mainGlobals "_law_common" = some (some (.ref f9))) (l9 : K.lookup f9 = some ⟨oc9, od9, .func (PySem.W.fnOf "_law_common" "_law_common" (defArgs s__law_common) (defBody s__law_common) (defScope s__law_common) .none kV9 dc9 pm9 an9 cd9 ct9), sl9⟩) (c9 : PySem.W.codeIn K cd9 "_law_common" = true) (k9 : PySem.W.keepIn K (.ref f9) = true)
    {od10 an10 : Option Addr} {sl10 : Array (Option Value)} {oc10 kV10 dc10 pm10 cd10 ct10 : Value} {f10 : Addr}
    (a10 : PySem.W.nsIn K mainGlobals "_law_whole" = some (some (.ref f10))) (l10 : K.lookup f10 = some ⟨oc10, od10, .func (PySem.W.fnOf "_law_whole" "_law_whole" (defArgs s__law_whole) (defBody s__law_whole) (defScope s__law_whole) .none kV10 dc10 pm10 an10 cd10 ct10), sl10⟩) (c10 : PySem.W.codeIn K cd10 "_law_whole" = true) (k10 : PySem.W.keepIn K (.ref f10) = true)
    {od11 an11 : Option Addr} {sl11 : Array (Option Value)} {oc11 kV11 dc11 pm11 cd11 ct11 : Value} {f11 : Addr}
    (a11 : PySem.W.nsIn K mainGlobals "_law_numbers" = some (some (.ref f11))) (l11 : K.lookup f11 = some ⟨oc11, od11, .func (PySem.W.fnOf "_law_numbers" "_law_numbers" (defArgs s__law_numbers) (defBody s__law_numbers) (defScope s__law_numbers) .none kV11 dc11 pm11 an11 cd11 ct11), sl11⟩) (c11 : PySem.W.codeIn K cd11 "_law_numbers" = true) (k11 : PySem.W.keepIn K (.ref f11) = true)
    {od12 an12 : Option Addr} {sl12 : Array (Option Value)} {oc12 kV12 dc12 pm12 cd12 ct12 : Value} {f12 : Addr}
    (a12 : PySem.W.nsIn K mainGlobals "_law_right" = some (some (.ref f12))) (l12 : K.lookup f12 = some ⟨oc12, od12, .func (PySem.W.fnOf "_law_right" "_law_right" (defArgs s__law_right) (defBody s__law_right) (defScope s__law_right) .none kV12 dc12 pm12 an12 cd12 ct12), sl12⟩) (c12 : PySem.W.codeIn K cd12 "_law_right" = true) (k12 : PySem.W.keepIn K (.ref f12) = true)
    {od13 an13 : Option Addr} {sl13 : Array (Option Value)} {oc13 kV13 dc13 pm13 cd13 ct13 : Value} {f13 : Addr}
    (a13 : PySem.W.nsIn K mainGlobals "law" = some (some (.ref f13))) (l13 : K.lookup f13 = some ⟨oc13, od13, .func (PySem.W.fnOf "law" "law" (defArgs s_law) (defBody s_law) (defScope s_law) .none kV13 dc13 pm13 an13 cd13 ct13), sl13⟩) (c13 : PySem.W.codeIn K cd13 "law" = true) (k13 : PySem.W.keepIn K (.ref f13) = true)
    (z0 : PySem.W.nsIn K mainGlobals "abs" = some none)
    (z1 : PySem.W.nsIn K mainGlobals "all" = some none)
    (z2 : PySem.W.nsIn K mainGlobals "bool" = some none)
    (z3 : PySem.W.nsIn K mainGlobals "enumerate" = some none)
    (z4 : PySem.W.nsIn K mainGlobals "int" = some none)
    (z5 : PySem.W.nsIn K mainGlobals "isinstance" = some none)
    (z6 : PySem.W.nsIn K mainGlobals "len" = some none)
    (z7 : PySem.W.nsIn K mainGlobals "list" = some none)
    (z8 : PySem.W.nsIn K mainGlobals "max" = some none)
    (z9 : PySem.W.nsIn K mainGlobals "range" = some none)
    (z10 : PySem.W.nsIn K mainGlobals "sum" = some none)
    (z11 : PySem.W.nsIn K mainGlobals "tuple" = some none)
    (z12 : PySem.W.nsIn K mainGlobals "zip" = some none) :
    ∃ fd : FuncData, (∀ (s : Shared) (v : Value), BindsTo s fd ⟨[v], []⟩ [("script", v)]) ∧ ∀ base : Heap, K.In base → base.Ns mainGlobals mg → FnOk l.prog w K mg base CX0 5 fa fd ["script"] (spF K g_law) := by
  have e := hfa.symm.trans (PySem.W.mg_of X G a13)
  cases e
  obtain ⟨T, e1, e2⟩ := tx_mk X G a0 l0 c0 k0 a1 l1 c1 k1 a2 l2 c2 k2 a3 l3 c3 k3 a4 l4 c4 k4 a5 l5 c5 k5 a6 l6 c6 k6 a7 l7 c7 k7 a8 l8 c8 k8 a9 l9 c9 k9 a10 l10 c10 k10 a11 l11 c11 k11 a12 l12 c12 k12 a13 l13 c13 k13  z0 z1 z2 z3 z4 z5 z6 z7 z8 z9 z10 z11 z12
  refine ⟨T.d_law, fun s v => ?_, fun base _ _ => ?_⟩
  · rw [e2]; exact .of_eq rfl
  · have := ok_law (P := l.prog) (w := w) (base := base) T
    rw [e1] at this
    exact this
end Lw

open PySem PySem.W PyProof.Rows
set_option maxHeartbeats 0 in
theorem Lw.walked (hlaw : ∀ ns : List Int, ns.length ≤ 63 → ∃ args', Lw.g_law [.ro (ns.map .int)] = some (.bool true, args')) : PySem.Challenge.rw_dialdoubt_k10_weights_told.Holds := by
  w_on
  refine Lw.wrap ?_
  k_fill
  refine L2.walk_of (l := PySem.Challenge.rw_dialdoubt_k10_weights_told) (n := 63) (k := 5) (x := "script") (CX := fun _ => L2.CX0) (sp := fun w => M.spF _ Lw.g_law) rfl (by decide) rfl ⟨rfl, by decide, by decide⟩ (fun w h Y => PySem.W.kIn_of Y) ?F (fun _ _ a ns hl _ hS => M.law_sp hS (hlaw ns hl)) (fun _ _ _ _ _ h => h)
  case F =>
    intro w mg fa h KX G hmg
    refine' Lw.all_mk KX G hmg ?a0 ?l0 ?c0 ?k0 ?a1 ?l1 ?c1 ?k1 ?a2 ?l2 ?c2 ?k2 ?a3 ?l3 ?c3 ?k3 ?a4 ?l4 ?c4 ?k4 ?a5 ?l5 ?c5 ?k5 ?a6 ?l6 ?c6 ?k6 ?a7 ?l7 ?c7 ?k7 ?a8 ?l8 ?c8 ?k8 ?a9 ?l9 ?c9 ?k9 ?a10 ?l10 ?c10 ?k10 ?a11 ?l11 ?c11 ?k11 ?a12 ?l12 ?c12 ?k12 ?a13 ?l13 ?c13 ?k13 ?z0 ?z1 ?z2 ?z3 ?z4 ?z5 ?z6 ?z7 ?z8 ?z9 ?z10 ?z11 ?z12
    (case a0 => k_is); (case l0 => k_is); (case c0 => k_is); (case k0 => k_is); (case a1 => k_is); (case l1 => k_is); (case c1 => k_is); (case k1 => k_is); (case a2 => k_is); (case l2 => k_is); (case c2 => k_is); (case k2 => k_is); (case a3 => k_is); (case l3 => k_is); (case c3 => k_is); (case k3 => k_is); (case a4 => k_is); (case l4 => k_is); (case c4 => k_is); (case k4 => k_is); (case a5 => k_is); (case l5 => k_is); (case c5 => k_is); (case k5 => k_is); (case a6 => k_is); (case l6 => k_is); (case c6 => k_is); (case k6 => k_is); (case a7 => k_is); (case l7 => k_is); (case c7 => k_is); (case k7 => k_is); (case a8 => k_is); (case l8 => k_is); (case c8 => k_is); (case k8 => k_is); (case a9 => k_is); (case l9 => k_is); (case c9 => k_is); (case k9 => k_is); (case a10 => k_is); (case l10 => k_is); (case c10 => k_is); (case k10 => k_is); (case a11 => k_is); (case l11 => k_is); (case c11 => k_is); (case k11 => k_is); (case a12 => k_is); (case l12 => k_is); (case c12 => k_is); (case k12 => k_is); (case a13 => k_is); (case l13 => k_is); (case c13 => k_is); (case k13 => k_is); (case z0 => k_is); (case z1 => k_is); (case z2 => k_is); (case z3 => k_is); (case z4 => k_is); (case z5 => k_is); (case z6 => k_is); (case z7 => k_is); (case z8 => k_is); (case z9 => k_is); (case z10 => k_is); (case z11 => k_is); (case z12 => k_is)

namespace Lw
open PySem PySem.Spec PyProof.Rows L2 M
local macro_rules | `(tactic| walk_at "sd") => `(tactic| (first | (with_reducible assumption) | omega | (simp; done) | (simp; omega) | decide))
local macro_rules | `(tactic| walk_at "v1") => `(tactic| (first | with_reducible refine we_callN ?_ | with_reducible refine vals_nil ?_ | with_reducible refine vals_v ?_ | with_reducible refine ws_retT ?_ | with_reducible refine wpu_nil ?_ | with_reducible refine wpu_seq ?_ | with_reducible refine wpu_ret ?_ | with_reducible refine wpu_if ?_ | with_reducible refine wtd_P ?_ | with_reducible refine wtd_G ?_ | with_reducible refine wtd_If ?_ | with_reducible refine ws_seq ?_ | with_reducible refine ws_expr ?_ | with_reducible refine ws_ret ?_ | with_reducible refine ws_retL ?_ | with_reducible refine ws_if ?_ | with_reducible refine ws_set ?_ | with_reducible refine ws_setO ?_ | with_reducible refine ws_asg ?_ | with_reducible refine ws_par ?_ | with_reducible refine two_ ?_ | with_reducible refine wc_nil ?_ | with_reducible refine wc_cons ?_ | with_reducible refine ws_nil ?_ | with_reducible refine ws_retN ?_ | with_reducible refine we_c ?_ | with_reducible refine we_un ?_ | with_reducible refine we_bin ?_ | with_reducible refine we_chain ?_ | with_reducible refine we_and ?_ | with_reducible refine we_or ?_ | with_reducible refine we_not ?_ | with_reducible refine we_if ?_ | with_reducible refine we_fz ?_ | with_reducible refine we_tup ?_ | with_reducible refine we_sl ?_ | with_reducible refine wp_no ?_ | with_reducible refine wp_e ?_ | with_reducible refine wl_nil ?_ | with_reducible refine wl_cons ?_ | with_reducible refine wl_lst ?_ | with_reducible refine wl_un ?_ | with_reducible refine wl_it ?_ | with_reducible refine wl_rng1 ?_ | with_reducible refine wl_rng2 ?_ | with_reducible refine wl_enum ?_ | with_reducible refine wl_enumA ?_ | with_reducible refine wl_addE ?_ | with_reducible refine wl_rg1 ?_ | with_reducible refine we_tupRg ?_ | with_reducible refine we_bor ?_ | with_reducible refine wl_bor ?_ | with_reducible refine wb_bor ?_ | with_reducible refine wo_isB ?_ | with_reducible refine wo_ntB ?_ | with_reducible refine wb_v ?_ | with_reducible refine wb_and ?_ | with_reducible refine wb_or ?_ | with_reducible refine wb_not ?_ | with_reducible refine wb_yes ?_ | with_reducible refine wt_n ?_ | with_reducible refine wts_nil ?_ | with_reducible refine wts_cons ?_ | with_reducible refine wa_nil ?_ | with_reducible refine wa_v ?_ | with_reducible refine we_call ?_ | with_reducible refine wl_call ?_ | with_reducible refine back_nil ?_ | with_reducible refine back_v ?_ | with_reducible refine back_o ?_ | with_reducible refine res_nil ?_ | with_reducible refine res_v ?_ | with_reducible refine ifb_not ?_ | with_reducible refine ifb_t ?_ | with_reducible refine ifb_f ?_ | with_reducible refine isb ?_ | with_reducible refine isi_ ?_ | with_reducible refine isl ?_ | with_reducible refine iss_l ?_ | with_reducible refine iss_t ?_ | with_reducible refine wo_add ?_ | with_reducible refine wo_sub ?_ | with_reducible refine wo_neg ?_ | with_reducible refine wo_lt ?_ | with_reducible refine wo_le ?_ | with_reducible refine wo_gt ?_ | with_reducible refine wo_ge ?_ | with_reducible refine wo_eq ?_ | with_reducible refine wo_ne ?_ | with_reducible refine wo_eqB ?_ | with_reducible refine wo_neB ?_ | with_reducible refine wo_isN ?_ | with_reducible refine wo_ntN ?_ | with_reducible refine wo_lenL ?_ | with_reducible refine wo_lenT ?_ | with_reducible refine wo_abs ?_ | with_reducible refine wo_intB ?_ | with_reducible refine wo_intI ?_ | with_reducible refine wo_listL ?_ | with_reducible refine wo_listT ?_ | with_reducible refine wo_tupL ?_ | with_reducible refine wo_tupT ?_ | with_reducible refine wo_max ?_ | with_reducible refine wo_min ?_ | with_reducible refine wo_isiI ?_ | with_reducible refine wo_isiB ?_ | with_reducible refine wo_cutL ?_ | with_reducible refine wo_cutT ?_ | with_reducible refine wo_p10_60 ?_ | with_reducible refine wo_p10_18 ?_ | with_reducible refine wo_p10_30 ?_ | with_reducible refine wo_p2_24 ?_ | with_reducible refine wo_p10_8 ?_ | with_reducible refine wo_p10_19 ?_ | with_reducible refine wo_p10_55 ?_ | with_reducible refine wo_p10_59 ?_ | with_reducible refine wo_p3_30 ?_ | with_reducible refine wo_p2_40 ?_ | with_reducible refine wo_p10_54 ?_ | with_reducible refine wo_p3_13 ?_ | with_reducible refine wo_p2_20 ?_ | with_reducible refine wo_p10_57 ?_ | with_reducible refine wo_p10_40 ?_ | with_reducible refine wo_p10_61 ?_ | with_reducible refine wo_p10_50 ?_ | ((with_reducible refine ifb_decT ?_ ?_); (· first | (with_reducible assumption) | omega | (simp only [List.length_cons, List.length_nil]; omega))) | ((with_reducible refine ifb_decF ?_ ?_); (· first | (with_reducible assumption) | omega | (simp only [List.length_cons, List.length_nil]; omega))) | ((with_reducible refine wo_eqT ?_ ?_); (· decide +kernel)) | ((with_reducible refine wo_eqF ?_ ?_); (· decide +kernel)) | ((with_reducible refine wo_neT ?_ ?_); (· decide +kernel)) | ((with_reducible refine wo_neF ?_ ?_); (· decide +kernel)) | with_reducible refine ifb_dec (fun _ => ?_) (fun _ => ?_) | ((with_reducible apply retT1); (· rfl)) | ((with_reducible apply retT2); (· rfl)) | ((with_reducible apply wl_addO); (· rfl)) | ((with_reducible apply ifb_eT); (· rfl)) | ((with_reducible apply ifb_eF); (· rfl)) | ((with_reducible apply we_v); (· rfl)) | ((with_reducible apply we_oV); (· rfl)) | ((with_reducible apply we_oW); (· rfl)) | ((with_reducible apply we_oR); (· rfl)) | ((with_reducible apply we_bV); (· rfl)) | ((with_reducible apply we_bVr); (· rfl)) | ((with_reducible apply we_bVv); (· rfl)) | ((with_reducible apply wa_r); (· rfl)) | ((with_reducible apply wa_oR); (· rfl)) | ((with_reducible apply wa_oO); (· rfl)) | ((with_reducible apply wa_oV); (· rfl)) | ((with_reducible apply back_r); (· rfl)) | ((with_reducible apply we_mut); (· rfl)) | ((with_reducible apply we_mut0); (· rfl)) | ((with_reducible apply ws_frz); (· rfl)) | ((with_reducible apply ws_frzV); (· rfl)) | ((with_reducible apply ws_retO); (· rfl)) | ((with_reducible apply ws_putI); (· rfl)) | ((with_reducible apply own_); (· rfl)) | ((with_reducible apply any_o); (· rfl)) | ((with_reducible apply any_r); (· rfl)) | ((with_reducible apply res_r); (· rfl)) | ((with_reducible apply res_oO); (· rfl)) | ((with_reducible apply res_oR); (· rfl)) | ((with_reducible apply res_oV); (· rfl)) | ((with_reducible apply wt_t); (· rfl)) | ((with_reducible apply wl_slO); (· rfl)) | ((with_reducible apply wl_slR); (· rfl)) | ((with_reducible apply wo_idxE); (· rfl)) | ((with_reducible apply wo_isiE); (· rfl)) | ((with_reducible apply wo_allE); (· rfl)) | ((with_reducible apply wo_anyE); (· rfl)) | ((with_reducible apply wo_ixE); (· rfl)) | ((with_reducible apply cg0); (· rfl)) | ((with_reducible apply ch0); (· rfl)) | ((with_reducible apply cg1); (· rfl); (· rfl)) | ((with_reducible apply ch1); (· rfl); (· rfl)) | ((with_reducible refine fit_ ?_ ?_); (· first | rfl | (apply fits_of; first | omega | (simp; omega)))) | ((with_reducible refine sml_ ?_ ?_ ?_); (· walk_at "sd"); (· walk_at "sd")) | ((with_reducible refine wo_mod ?_ ?_); (· walk_at "sd")) | ((with_reducible refine wo_div ?_ ?_ ?_); (· walk_at "sd"); (· walk_at "sd")) | ((with_reducible refine wo_mul ?_ ?_); (· first | exact mul_ok1 (by walk_at "sd") | exact mul_ok2 (by walk_at "sd") | exact mul_ok3 (by omega) (by omega))) | ((with_reducible refine wo_ix ?_ ?_ ?_); (· walk_at "sd"); (· walk_at "sd")) | ((with_reducible refine wo_app ?_ ?_); (· first | rfl | (apply fits_of; first | omega | (simp; omega)))) | ((with_reducible refine wo_ext ?_ ?_); (· first | rfl | (apply fits_of; first | omega | (simp; omega)))) | ((with_reducible refine wo_addL ?_ ?_); (· first | rfl | (apply fits_of; first | omega | (simp; omega)))) | ((with_reducible refine wo_addT ?_ ?_); (· first | rfl | (apply fits_of; first | omega | (simp; omega)))) | ((with_reducible refine wtd_K ?_ ?_); (· exact ⟨rfl, by decide⟩)) | ((with_reducible refine wtd_U ?_ ?_); (· exact ⟨rfl, by decide⟩)) | ((with_reducible refine wtd_C ?_ ?_); (· rfl)) | ((with_reducible refine wtd_A ?_ ?_ ?_); (· rfl); (· first | rfl | (apply fits_of; first | omega | (simp; omega)))) | ((with_reducible apply nrm_); (· (try simp only [wipeE, backE, List.set_cons_zero, List.set_cons_succ, List.getElem?_cons_zero, List.getElem?_cons_succ, List.cons_append, List.nil_append, List.replicate_succ, List.replicate_zero, Nat.reduceSub, unowns_nil, unowns_cons, unown_own, unown_val, unown_no, unown_ro]); rfl))))
local macro_rules | `(tactic| walk_at "v2") => `(tactic| (first | with_reducible refine we_callN ?_ | with_reducible refine vals_nil ?_ | with_reducible refine vals_v ?_ | with_reducible refine ws_retT ?_ | with_reducible refine wpu_nil ?_ | with_reducible refine wpu_seq ?_ | with_reducible refine wpu_ret ?_ | with_reducible refine wpu_if ?_ | with_reducible refine wtd_P ?_ | with_reducible refine wtd_G ?_ | with_reducible refine wtd_If ?_ | with_reducible refine ws_seq ?_ | with_reducible refine ws_expr ?_ | with_reducible refine ws_ret ?_ | with_reducible refine ws_retL ?_ | with_reducible refine ws_set ?_ | with_reducible refine ws_setO ?_ | with_reducible refine ws_asg ?_ | with_reducible refine ws_par ?_ | with_reducible refine two_ ?_ | with_reducible refine wc_nil ?_ | with_reducible refine wc_cons ?_ | with_reducible refine ws_nil ?_ | with_reducible refine ws_retN ?_ | with_reducible refine we_c ?_ | with_reducible refine we_un ?_ | with_reducible refine we_bin ?_ | with_reducible refine we_chain ?_ | with_reducible refine we_and ?_ | with_reducible refine we_or ?_ | with_reducible refine we_not ?_ | with_reducible refine we_if ?_ | with_reducible refine we_fz ?_ | with_reducible refine we_tup ?_ | with_reducible refine we_sl ?_ | with_reducible refine wp_no ?_ | with_reducible refine wp_e ?_ | with_reducible refine wl_nil ?_ | with_reducible refine wl_cons ?_ | with_reducible refine wl_lst ?_ | with_reducible refine wl_un ?_ | with_reducible refine wl_it ?_ | with_reducible refine wl_rng1 ?_ | with_reducible refine wl_rng2 ?_ | with_reducible refine wl_enum ?_ | with_reducible refine wl_enumA ?_ | with_reducible refine wl_addE ?_ | with_reducible refine wl_rg1 ?_ | with_reducible refine we_tupRg ?_ | with_reducible refine we_bor ?_ | with_reducible refine wl_bor ?_ | with_reducible refine wb_bor ?_ | with_reducible refine wo_isB ?_ | with_reducible refine wo_ntB ?_ | with_reducible refine wb_v ?_ | with_reducible refine wb_and ?_ | with_reducible refine wb_or ?_ | with_reducible refine wb_not ?_ | with_reducible refine wb_yes ?_ | with_reducible refine wt_n ?_ | with_reducible refine wts_nil ?_ | with_reducible refine wts_cons ?_ | with_reducible refine wa_nil ?_ | with_reducible refine wa_v ?_ | with_reducible refine we_call ?_ | with_reducible refine wl_call ?_ | with_reducible refine back_nil ?_ | with_reducible refine back_v ?_ | with_reducible refine back_o ?_ | with_reducible refine res_nil ?_ | with_reducible refine res_v ?_ | with_reducible refine ifb_not ?_ | with_reducible refine ifb_t ?_ | with_reducible refine ifb_f ?_ | with_reducible refine isb ?_ | with_reducible refine isi_ ?_ | with_reducible refine isl ?_ | with_reducible refine iss_l ?_ | with_reducible refine iss_t ?_ | with_reducible refine wo_add ?_ | with_reducible refine wo_sub ?_ | with_reducible refine wo_neg ?_ | with_reducible refine wo_lt ?_ | with_reducible refine wo_le ?_ | with_reducible refine wo_gt ?_ | with_reducible refine wo_ge ?_ | with_reducible refine wo_eq ?_ | with_reducible refine wo_ne ?_ | with_reducible refine wo_eqB ?_ | with_reducible refine wo_neB ?_ | with_reducible refine wo_isN ?_ | with_reducible refine wo_ntN ?_ | with_reducible refine wo_lenL ?_ | with_reducible refine wo_lenT ?_ | with_reducible refine wo_abs ?_ | with_reducible refine wo_intB ?_ | with_reducible refine wo_intI ?_ | with_reducible refine wo_listL ?_ | with_reducible refine wo_listT ?_ | with_reducible refine wo_tupL ?_ | with_reducible refine wo_tupT ?_ | with_reducible refine wo_max ?_ | with_reducible refine wo_min ?_ | with_reducible refine wo_isiI ?_ | with_reducible refine wo_isiB ?_ | with_reducible refine wo_cutL ?_ | with_reducible refine wo_cutT ?_ | with_reducible refine wo_p10_60 ?_ | with_reducible refine wo_p10_18 ?_ | with_reducible refine wo_p10_30 ?_ | with_reducible refine wo_p2_24 ?_ | with_reducible refine wo_p10_8 ?_ | with_reducible refine wo_p10_19 ?_ | with_reducible refine wo_p10_55 ?_ | with_reducible refine wo_p10_59 ?_ | with_reducible refine wo_p3_30 ?_ | with_reducible refine wo_p2_40 ?_ | with_reducible refine wo_p10_54 ?_ | with_reducible refine wo_p3_13 ?_ | with_reducible refine wo_p2_20 ?_ | with_reducible refine wo_p10_57 ?_ | with_reducible refine wo_p10_40 ?_ | with_reducible refine wo_p10_61 ?_ | with_reducible refine wo_p10_50 ?_ | ((with_reducible refine ifb_decT ?_ ?_); (· first | (with_reducible assumption) | omega | (simp only [List.length_cons, List.length_nil]; omega))) | ((with_reducible refine ifb_decF ?_ ?_); (· first | (with_reducible assumption) | omega | (simp only [List.length_cons, List.length_nil]; omega))) | ((with_reducible refine wo_eqT ?_ ?_); (· decide +kernel)) | ((with_reducible refine wo_eqF ?_ ?_); (· decide +kernel)) | ((with_reducible refine wo_neT ?_ ?_); (· decide +kernel)) | ((with_reducible refine wo_neF ?_ ?_); (· decide +kernel)) | with_reducible refine ifb_dec (fun _ => ?_) (fun _ => ?_) | ((with_reducible apply retT1); (· rfl)) | ((with_reducible apply retT2); (· rfl)) | ((with_reducible apply wl_addO); (· rfl)) | ((with_reducible apply ifb_eT); (· rfl)) | ((with_reducible apply ifb_eF); (· rfl)) | ((with_reducible apply we_v); (· rfl)) | ((with_reducible apply we_oV); (· rfl)) | ((with_reducible apply we_oW); (· rfl)) | ((with_reducible apply we_oR); (· rfl)) | ((with_reducible apply we_bV); (· rfl)) | ((with_reducible apply we_bVr); (· rfl)) | ((with_reducible apply we_bVv); (· rfl)) | ((with_reducible apply wa_r); (· rfl)) | ((with_reducible apply wa_oR); (· rfl)) | ((with_reducible apply wa_oO); (· rfl)) | ((with_reducible apply wa_oV); (· rfl)) | ((with_reducible apply back_r); (· rfl)) | ((with_reducible apply we_mut); (· rfl)) | ((with_reducible apply we_mut0); (· rfl)) | ((with_reducible apply ws_frz); (· rfl)) | ((with_reducible apply ws_frzV); (· rfl)) | ((with_reducible apply ws_retO); (· rfl)) | ((with_reducible apply ws_putI); (· rfl)) | ((with_reducible apply own_); (· rfl)) | ((with_reducible apply any_o); (· rfl)) | ((with_reducible apply any_r); (· rfl)) | ((with_reducible apply res_r); (· rfl)) | ((with_reducible apply res_oO); (· rfl)) | ((with_reducible apply res_oR); (· rfl)) | ((with_reducible apply res_oV); (· rfl)) | ((with_reducible apply wt_t); (· rfl)) | ((with_reducible apply wl_slO); (· rfl)) | ((with_reducible apply wl_slR); (· rfl)) | ((with_reducible apply wo_idxE); (· rfl)) | ((with_reducible apply wo_isiE); (· rfl)) | ((with_reducible apply wo_allE); (· rfl)) | ((with_reducible apply wo_anyE); (· rfl)) | ((with_reducible apply wo_ixE); (· rfl)) | ((with_reducible apply cg0); (· rfl)) | ((with_reducible apply ch0); (· rfl)) | ((with_reducible apply cg1); (· rfl); (· rfl)) | ((with_reducible apply ch1); (· rfl); (· rfl)) | ((with_reducible refine fit_ ?_ ?_); (· first | rfl | (apply fits_of; first | omega | (simp; omega)))) | ((with_reducible refine sml_ ?_ ?_ ?_); (· walk_at "sd"); (· walk_at "sd")) | ((with_reducible refine wo_mod ?_ ?_); (· walk_at "sd")) | ((with_reducible refine wo_div ?_ ?_ ?_); (· walk_at "sd"); (· walk_at "sd")) | ((with_reducible refine wo_mul ?_ ?_); (· first | exact mul_ok1 (by walk_at "sd") | exact mul_ok2 (by walk_at "sd") | exact mul_ok3 (by omega) (by omega))) | ((with_reducible refine wo_ix ?_ ?_ ?_); (· walk_at "sd"); (· walk_at "sd")) | ((with_reducible refine wo_app ?_ ?_); (· first | rfl | (apply fits_of; first | omega | (simp; omega)))) | ((with_reducible refine wo_ext ?_ ?_); (· first | rfl | (apply fits_of; first | omega | (simp; omega)))) | ((with_reducible refine wo_addL ?_ ?_); (· first | rfl | (apply fits_of; first | omega | (simp; omega)))) | ((with_reducible refine wo_addT ?_ ?_); (· first | rfl | (apply fits_of; first | omega | (simp; omega)))) | ((with_reducible refine wtd_K ?_ ?_); (· exact ⟨rfl, by decide⟩)) | ((with_reducible refine wtd_U ?_ ?_); (· exact ⟨rfl, by decide⟩)) | ((with_reducible refine wtd_C ?_ ?_); (· rfl)) | ((with_reducible refine wtd_A ?_ ?_ ?_); (· rfl); (· first | rfl | (apply fits_of; first | omega | (simp; omega)))) | ((with_reducible apply nrm_); (· (try simp only [wipeE, backE, List.set_cons_zero, List.set_cons_succ, List.getElem?_cons_zero, List.getElem?_cons_succ, List.cons_append, List.nil_append, List.replicate_succ, List.replicate_zero, Nat.reduceSub, unowns_nil, unowns_cons, unown_own, unown_val, unown_no, unown_ro]); rfl))))
local macro_rules | `(tactic| walk_at "vc") => `(tactic| (repeat' first | with_reducible refine we_callN ?_ | with_reducible refine vals_nil ?_ | with_reducible refine vals_v ?_ | with_reducible refine ws_retT ?_ | with_reducible refine wpu_nil ?_ | with_reducible refine wpu_seq ?_ | with_reducible refine wpu_ret ?_ | with_reducible refine wpu_if ?_ | with_reducible refine wtd_P ?_ | with_reducible refine wtd_G ?_ | with_reducible refine wtd_If ?_ | with_reducible refine ws_seq ?_ | with_reducible refine ws_expr ?_ | with_reducible refine ws_ret ?_ | with_reducible refine ws_retL ?_ | with_reducible refine ws_if ?_ | with_reducible refine ws_set ?_ | with_reducible refine ws_setO ?_ | with_reducible refine ws_asg ?_ | with_reducible refine ws_par ?_ | with_reducible refine two_ ?_ | with_reducible refine wc_nil ?_ | with_reducible refine wc_cons ?_ | with_reducible refine ws_nil ?_ | with_reducible refine ws_retN ?_ | with_reducible refine we_c ?_ | with_reducible refine we_un ?_ | with_reducible refine we_bin ?_ | with_reducible refine we_chain ?_ | with_reducible refine we_and ?_ | with_reducible refine we_or ?_ | with_reducible refine we_not ?_ | with_reducible refine we_if ?_ | with_reducible refine we_fz ?_ | with_reducible refine we_tup ?_ | with_reducible refine we_sl ?_ | with_reducible refine wp_no ?_ | with_reducible refine wp_e ?_ | with_reducible refine wl_nil ?_ | with_reducible refine wl_cons ?_ | with_reducible refine wl_lst ?_ | with_reducible refine wl_un ?_ | with_reducible refine wl_it ?_ | with_reducible refine wl_rng1 ?_ | with_reducible refine wl_rng2 ?_ | with_reducible refine wl_enum ?_ | with_reducible refine wl_enumA ?_ | with_reducible refine wl_addE ?_ | with_reducible refine wl_rg1 ?_ | with_reducible refine we_tupRg ?_ | with_reducible refine we_bor ?_ | with_reducible refine wl_bor ?_ | with_reducible refine wb_bor ?_ | with_reducible refine wo_isB ?_ | with_reducible refine wo_ntB ?_ | with_reducible refine wb_v ?_ | with_reducible refine wb_and ?_ | with_reducible refine wb_or ?_ | with_reducible refine wb_not ?_ | with_reducible refine wb_yes ?_ | with_reducible refine wt_n ?_ | with_reducible refine wts_nil ?_ | with_reducible refine wts_cons ?_ | with_reducible refine wa_nil ?_ | with_reducible refine wa_v ?_ | with_reducible refine we_call ?_ | with_reducible refine wl_call ?_ | with_reducible refine back_nil ?_ | with_reducible refine back_v ?_ | with_reducible refine back_o ?_ | with_reducible refine res_nil ?_ | with_reducible refine res_v ?_ | with_reducible refine ifb_not ?_ | with_reducible refine ifb_t ?_ | with_reducible refine ifb_f ?_ | with_reducible refine isb ?_ | with_reducible refine isi_ ?_ | with_reducible refine isl ?_ | with_reducible refine iss_l ?_ | with_reducible refine iss_t ?_ | with_reducible refine wo_add ?_ | with_reducible refine wo_sub ?_ | with_reducible refine wo_neg ?_ | with_reducible refine wo_lt ?_ | with_reducible refine wo_le ?_ | with_reducible refine wo_gt ?_ | with_reducible refine wo_ge ?_ | with_reducible refine wo_eq ?_ | with_reducible refine wo_ne ?_ | with_reducible refine wo_eqB ?_ | with_reducible refine wo_neB ?_ | with_reducible refine wo_isN ?_ | with_reducible refine wo_ntN ?_ | with_reducible refine wo_lenL ?_ | with_reducible refine wo_lenT ?_ | with_reducible refine wo_abs ?_ | with_reducible refine wo_intB ?_ | with_reducible refine wo_intI ?_ | with_reducible refine wo_listL ?_ | with_reducible refine wo_listT ?_ | with_reducible refine wo_tupL ?_ | with_reducible refine wo_tupT ?_ | with_reducible refine wo_max ?_ | with_reducible refine wo_min ?_ | with_reducible refine wo_isiI ?_ | with_reducible refine wo_isiB ?_ | with_reducible refine wo_cutL ?_ | with_reducible refine wo_cutT ?_ | with_reducible refine wo_p10_60 ?_ | with_reducible refine wo_p10_18 ?_ | with_reducible refine wo_p10_30 ?_ | with_reducible refine wo_p2_24 ?_ | with_reducible refine wo_p10_8 ?_ | with_reducible refine wo_p10_19 ?_ | with_reducible refine wo_p10_55 ?_ | with_reducible refine wo_p10_59 ?_ | with_reducible refine wo_p3_30 ?_ | with_reducible refine wo_p2_40 ?_ | with_reducible refine wo_p10_54 ?_ | with_reducible refine wo_p3_13 ?_ | with_reducible refine wo_p2_20 ?_ | with_reducible refine wo_p10_57 ?_ | with_reducible refine wo_p10_40 ?_ | with_reducible refine wo_p10_61 ?_ | with_reducible refine wo_p10_50 ?_ | ((with_reducible refine ifb_decT ?_ ?_); (· first | (with_reducible assumption) | omega | (simp only [List.length_cons, List.length_nil]; omega))) | ((with_reducible refine ifb_decF ?_ ?_); (· first | (with_reducible assumption) | omega | (simp only [List.length_cons, List.length_nil]; omega))) | ((with_reducible refine wo_eqT ?_ ?_); (· decide +kernel)) | ((with_reducible refine wo_eqF ?_ ?_); (· decide +kernel)) | ((with_reducible refine wo_neT ?_ ?_); (· decide +kernel)) | ((with_reducible refine wo_neF ?_ ?_); (· decide +kernel)) | with_reducible refine ifb_dec (fun _ => ?_) (fun _ => ?_) | ((with_reducible apply retT1); (· rfl)) | ((with_reducible apply retT2); (· rfl)) | ((with_reducible apply wl_addO); (· rfl)) | ((with_reducible apply ifb_eT); (· rfl)) | ((with_reducible apply ifb_eF); (· rfl)) | ((with_reducible apply we_v); (· rfl)) | ((with_reducible apply we_oV); (· rfl)) | ((with_reducible apply we_oW); (· rfl)) | ((with_reducible apply we_oR); (· rfl)) | ((with_reducible apply we_bV); (· rfl)) | ((with_reducible apply we_bVr); (· rfl)) | ((with_reducible apply we_bVv); (· rfl)) | ((with_reducible apply wa_r); (· rfl)) | ((with_reducible apply wa_oR); (· rfl)) | ((with_reducible apply wa_oO); (· rfl)) | ((with_reducible apply wa_oV); (· rfl)) | ((with_reducible apply back_r); (· rfl)) | ((with_reducible apply we_mut); (· rfl)) | ((with_reducible apply we_mut0); (· rfl)) | ((with_reducible apply ws_frz); (· rfl)) | ((with_reducible apply ws_frzV); (· rfl)) | ((with_reducible apply ws_retO); (· rfl)) | ((with_reducible apply ws_putI); (· rfl)) | ((with_reducible apply own_); (· rfl)) | ((with_reducible apply any_o); (· rfl)) | ((with_reducible apply any_r); (· rfl)) | ((with_reducible apply res_r); (· rfl)) | ((with_reducible apply res_oO); (· rfl)) | ((with_reducible apply res_oR); (· rfl)) | ((with_reducible apply res_oV); (· rfl)) | ((with_reducible apply wt_t); (· rfl)) | ((with_reducible apply wl_slO); (· rfl)) | ((with_reducible apply wl_slR); (· rfl)) | ((with_reducible apply wo_idxE); (· rfl)) | ((with_reducible apply wo_isiE); (· rfl)) | ((with_reducible apply wo_allE); (· rfl)) | ((with_reducible apply wo_anyE); (· rfl)) | ((with_reducible apply wo_ixE); (· rfl)) | ((with_reducible apply cg0); (· rfl)) | ((with_reducible apply ch0); (· rfl)) | ((with_reducible apply cg1); (· rfl); (· rfl)) | ((with_reducible apply ch1); (· rfl); (· rfl)) | ((with_reducible refine fit_ ?_ ?_); (· first | rfl | (apply fits_of; first | omega | (simp; omega)))) | ((with_reducible refine sml_ ?_ ?_ ?_); (· walk_at "sd"); (· walk_at "sd")) | ((with_reducible refine wo_mod ?_ ?_); (· walk_at "sd")) | ((with_reducible refine wo_div ?_ ?_ ?_); (· walk_at "sd"); (· walk_at "sd")) | ((with_reducible refine wo_mul ?_ ?_); (· first | exact mul_ok1 (by walk_at "sd") | exact mul_ok2 (by walk_at "sd") | exact mul_ok3 (by omega) (by omega))) | ((with_reducible refine wo_ix ?_ ?_ ?_); (· walk_at "sd"); (· walk_at "sd")) | ((with_reducible refine wo_app ?_ ?_); (· first | rfl | (apply fits_of; first | omega | (simp; omega)))) | ((with_reducible refine wo_ext ?_ ?_); (· first | rfl | (apply fits_of; first | omega | (simp; omega)))) | ((with_reducible refine wo_addL ?_ ?_); (· first | rfl | (apply fits_of; first | omega | (simp; omega)))) | ((with_reducible refine wo_addT ?_ ?_); (· first | rfl | (apply fits_of; first | omega | (simp; omega)))) | ((with_reducible refine wtd_K ?_ ?_); (· exact ⟨rfl, by decide⟩)) | ((with_reducible refine wtd_U ?_ ?_); (· exact ⟨rfl, by decide⟩)) | ((with_reducible refine wtd_C ?_ ?_); (· rfl)) | ((with_reducible refine wtd_A ?_ ?_ ?_); (· rfl); (· first | rfl | (apply fits_of; first | omega | (simp; omega)))) | ((with_reducible apply nrm_); (· (try simp only [wipeE, backE, List.set_cons_zero, List.set_cons_succ, List.getElem?_cons_zero, List.getElem?_cons_succ, List.cons_append, List.nil_append, List.replicate_succ, List.replicate_zero, Nat.reduceSub, unowns_nil, unowns_cons, unown_own, unown_val, unown_no, unown_ro]); rfl))))
local macro_rules | `(tactic| walk_at "vd") => `(tactic| (repeat' first | with_reducible refine we_callN ?_ | with_reducible refine vals_nil ?_ | with_reducible refine vals_v ?_ | with_reducible refine ws_retT ?_ | with_reducible refine wpu_nil ?_ | with_reducible refine wpu_seq ?_ | with_reducible refine wpu_ret ?_ | with_reducible refine wpu_if ?_ | with_reducible refine wtd_P ?_ | with_reducible refine wtd_G ?_ | with_reducible refine wtd_If ?_ | with_reducible refine ws_seq ?_ | with_reducible refine ws_expr ?_ | with_reducible refine ws_ret ?_ | with_reducible refine ws_retL ?_ | with_reducible refine ws_set ?_ | with_reducible refine ws_setO ?_ | with_reducible refine ws_asg ?_ | with_reducible refine ws_par ?_ | with_reducible refine two_ ?_ | with_reducible refine wc_nil ?_ | with_reducible refine wc_cons ?_ | with_reducible refine ws_nil ?_ | with_reducible refine ws_retN ?_ | with_reducible refine we_c ?_ | with_reducible refine we_un ?_ | with_reducible refine we_bin ?_ | with_reducible refine we_chain ?_ | with_reducible refine we_and ?_ | with_reducible refine we_or ?_ | with_reducible refine we_not ?_ | with_reducible refine we_if ?_ | with_reducible refine we_fz ?_ | with_reducible refine we_tup ?_ | with_reducible refine we_sl ?_ | with_reducible refine wp_no ?_ | with_reducible refine wp_e ?_ | with_reducible refine wl_nil ?_ | with_reducible refine wl_cons ?_ | with_reducible refine wl_lst ?_ | with_reducible refine wl_un ?_ | with_reducible refine wl_it ?_ | with_reducible refine wl_rng1 ?_ | with_reducible refine wl_rng2 ?_ | with_reducible refine wl_enum ?_ | with_reducible refine wl_enumA ?_ | with_reducible refine wl_addE ?_ | with_reducible refine wl_rg1 ?_ | with_reducible refine we_tupRg ?_ | with_reducible refine we_bor ?_ | with_reducible refine wl_bor ?_ | with_reducible refine wb_bor ?_ | with_reducible refine wo_isB ?_ | with_reducible refine wo_ntB ?_ | with_reducible refine wb_v ?_ | with_reducible refine wb_and ?_ | with_reducible refine wb_or ?_ | with_reducible refine wb_not ?_ | with_reducible refine wb_yes ?_ | with_reducible refine wt_n ?_ | with_reducible refine wts_nil ?_ | with_reducible refine wts_cons ?_ | with_reducible refine wa_nil ?_ | with_reducible refine wa_v ?_ | with_reducible refine we_call ?_ | with_reducible refine wl_call ?_ | with_reducible refine back_nil ?_ | with_reducible refine back_v ?_ | with_reducible refine back_o ?_ | with_reducible refine res_nil ?_ | with_reducible refine res_v ?_ | with_reducible refine ifb_not ?_ | with_reducible refine ifb_t ?_ | with_reducible refine ifb_f ?_ | with_reducible refine isb ?_ | with_reducible refine isi_ ?_ | with_reducible refine isl ?_ | with_reducible refine iss_l ?_ | with_reducible refine iss_t ?_ | with_reducible refine wo_add ?_ | with_reducible refine wo_sub ?_ | with_reducible refine wo_neg ?_ | with_reducible refine wo_lt ?_ | with_reducible refine wo_le ?_ | with_reducible refine wo_gt ?_ | with_reducible refine wo_ge ?_ | with_reducible refine wo_eq ?_ | with_reducible refine wo_ne ?_ | with_reducible refine wo_eqB ?_ | with_reducible refine wo_neB ?_ | with_reducible refine wo_isN ?_ | with_reducible refine wo_ntN ?_ | with_reducible refine wo_lenL ?_ | with_reducible refine wo_lenT ?_ | with_reducible refine wo_abs ?_ | with_reducible refine wo_intB ?_ | with_reducible refine wo_intI ?_ | with_reducible refine wo_listL ?_ | with_reducible refine wo_listT ?_ | with_reducible refine wo_tupL ?_ | with_reducible refine wo_tupT ?_ | with_reducible refine wo_max ?_ | with_reducible refine wo_min ?_ | with_reducible refine wo_isiI ?_ | with_reducible refine wo_isiB ?_ | with_reducible refine wo_cutL ?_ | with_reducible refine wo_cutT ?_ | with_reducible refine wo_p10_60 ?_ | with_reducible refine wo_p10_18 ?_ | with_reducible refine wo_p10_30 ?_ | with_reducible refine wo_p2_24 ?_ | with_reducible refine wo_p10_8 ?_ | with_reducible refine wo_p10_19 ?_ | with_reducible refine wo_p10_55 ?_ | with_reducible refine wo_p10_59 ?_ | with_reducible refine wo_p3_30 ?_ | with_reducible refine wo_p2_40 ?_ | with_reducible refine wo_p10_54 ?_ | with_reducible refine wo_p3_13 ?_ | with_reducible refine wo_p2_20 ?_ | with_reducible refine wo_p10_57 ?_ | with_reducible refine wo_p10_40 ?_ | with_reducible refine wo_p10_61 ?_ | with_reducible refine wo_p10_50 ?_ | ((with_reducible refine ifb_decT ?_ ?_); (· first | (with_reducible assumption) | omega | (simp only [List.length_cons, List.length_nil]; omega))) | ((with_reducible refine ifb_decF ?_ ?_); (· first | (with_reducible assumption) | omega | (simp only [List.length_cons, List.length_nil]; omega))) | ((with_reducible refine wo_eqT ?_ ?_); (· decide +kernel)) | ((with_reducible refine wo_eqF ?_ ?_); (· decide +kernel)) | ((with_reducible refine wo_neT ?_ ?_); (· decide +kernel)) | ((with_reducible refine wo_neF ?_ ?_); (· decide +kernel)) | with_reducible refine ifb_dec (fun _ => ?_) (fun _ => ?_) | ((with_reducible apply retT1); (· rfl)) | ((with_reducible apply retT2); (· rfl)) | ((with_reducible apply wl_addO); (· rfl)) | ((with_reducible apply ifb_eT); (· rfl)) | ((with_reducible apply ifb_eF); (· rfl)) | ((with_reducible apply we_v); (· rfl)) | ((with_reducible apply we_oV); (· rfl)) | ((with_reducible apply we_oW); (· rfl)) | ((with_reducible apply we_oR); (· rfl)) | ((with_reducible apply we_bV); (· rfl)) | ((with_reducible apply we_bVr); (· rfl)) | ((with_reducible apply we_bVv); (· rfl)) | ((with_reducible apply wa_r); (· rfl)) | ((with_reducible apply wa_oR); (· rfl)) | ((with_reducible apply wa_oO); (· rfl)) | ((with_reducible apply wa_oV); (· rfl)) | ((with_reducible apply back_r); (· rfl)) | ((with_reducible apply we_mut); (· rfl)) | ((with_reducible apply we_mut0); (· rfl)) | ((with_reducible apply ws_frz); (· rfl)) | ((with_reducible apply ws_frzV); (· rfl)) | ((with_reducible apply ws_retO); (· rfl)) | ((with_reducible apply ws_putI); (· rfl)) | ((with_reducible apply own_); (· rfl)) | ((with_reducible apply any_o); (· rfl)) | ((with_reducible apply any_r); (· rfl)) | ((with_reducible apply res_r); (· rfl)) | ((with_reducible apply res_oO); (· rfl)) | ((with_reducible apply res_oR); (· rfl)) | ((with_reducible apply res_oV); (· rfl)) | ((with_reducible apply wt_t); (· rfl)) | ((with_reducible apply wl_slO); (· rfl)) | ((with_reducible apply wl_slR); (· rfl)) | ((with_reducible apply wo_idxE); (· rfl)) | ((with_reducible apply wo_isiE); (· rfl)) | ((with_reducible apply wo_allE); (· rfl)) | ((with_reducible apply wo_anyE); (· rfl)) | ((with_reducible apply wo_ixE); (· rfl)) | ((with_reducible apply cg0); (· rfl)) | ((with_reducible apply ch0); (· rfl)) | ((with_reducible apply cg1); (· rfl); (· rfl)) | ((with_reducible apply ch1); (· rfl); (· rfl)) | ((with_reducible refine fit_ ?_ ?_); (· first | rfl | (apply fits_of; first | omega | (simp; omega)))) | ((with_reducible refine sml_ ?_ ?_ ?_); (· walk_at "sd"); (· walk_at "sd")) | ((with_reducible refine wo_mod ?_ ?_); (· walk_at "sd")) | ((with_reducible refine wo_div ?_ ?_ ?_); (· walk_at "sd"); (· walk_at "sd")) | ((with_reducible refine wo_mul ?_ ?_); (· first | exact mul_ok1 (by walk_at "sd") | exact mul_ok2 (by walk_at "sd") | exact mul_ok3 (by omega) (by omega))) | ((with_reducible refine wo_ix ?_ ?_ ?_); (· walk_at "sd"); (· walk_at "sd")) | ((with_reducible refine wo_app ?_ ?_); (· first | rfl | (apply fits_of; first | omega | (simp; omega)))) | ((with_reducible refine wo_ext ?_ ?_); (· first | rfl | (apply fits_of; first | omega | (simp; omega)))) | ((with_reducible refine wo_addL ?_ ?_); (· first | rfl | (apply fits_of; first | omega | (simp; omega)))) | ((with_reducible refine wo_addT ?_ ?_); (· first | rfl | (apply fits_of; first | omega | (simp; omega)))) | ((with_reducible refine wtd_K ?_ ?_); (· exact ⟨rfl, by decide⟩)) | ((with_reducible refine wtd_U ?_ ?_); (· exact ⟨rfl, by decide⟩)) | ((with_reducible refine wtd_C ?_ ?_); (· rfl)) | ((with_reducible refine wtd_A ?_ ?_ ?_); (· rfl); (· first | rfl | (apply fits_of; first | omega | (simp; omega)))) | ((with_reducible apply nrm_); (· (try simp only [wipeE, backE, List.set_cons_zero, List.set_cons_succ, List.getElem?_cons_zero, List.getElem?_cons_succ, List.cons_append, List.nil_append, List.replicate_succ, List.replicate_zero, Nat.reduceSub, unowns_nil, unowns_cons, unown_own, unown_val, unown_no, unown_ro]); rfl))))
local macro_rules | `(tactic| walk_at "nr") => `(tactic| ((with_reducible apply nrm_); (· (try simp only [wipeE, backE, List.set_cons_zero, List.set_cons_succ, List.getElem?_cons_zero, List.getElem?_cons_succ, List.cons_append, List.nil_append, List.replicate_succ, List.replicate_zero, Nat.reduceSub, unowns_nil, unowns_cons, unown_own, unown_val, unown_no, unown_ro]); rfl)))
local macro_rules | `(tactic| walk_at "nb") => `(tactic| simp only [wipeE, backE, List.set_cons_zero, List.set_cons_succ, List.getElem?_cons_zero, List.getElem?_cons_succ])
/-! ### the law's own helpers -/
theorem take_w {a b m : Int} {Q : D → List Sl → Prop} (hm : 0 < m) (hm2 : m < 10 ^ 200) (q : ∀ r a' b' x, 0 ≤ r → r < m → Q (.int r) [.own false [.int a', .int b'], x]) :
    WG g__law_take [.own false [.int a, .int b], .val (.int m)] Q := by
  refine wg_run rfl ?_
  unfold b__law_take
  walk_at "vc"
  · exact q _ _ _ _ (Int.emod_nonneg _ (by omega)) (Int.emod_lt_of_pos _ hm)
  · exact q _ _ _ _ (Int.emod_nonneg _ (by omega)) (Int.emod_lt_of_pos _ hm)
theorem wide_w {a b m : Int} {Q : D → List Sl → Prop} (hm : 0 < m) (q : ∀ r a' b' x, 0 ≤ r → r < m → Q (.int r) [.own false [.int a', .int b'], x]) :
    WG g__law_wide [.own false [.int a, .int b], .val (.int m)] Q := by
  refine wg_run rfl ?_
  unfold b__law_wide
  walk_at "vc"
  refine ws_for (fun _ _ e => ∃ (a b f : Int) (t : Sl), e = [.own false [.int a, .int b], .val (.int m), .val (.int f), t]) ?_
  walk_at "vc"
  refine ⟨⟨a, b, 0, .no, rfl⟩, ?_, ?_⟩
  · rintro d _ _ ⟨a, b, f, t, rfl⟩
    (repeat' first | walk_at "v1" | ((with_reducible refine take_w ?_ ?_ fun _ _ _ _ _ _ => ?_); (· walk_at "sd"); (· walk_at "sd")))
    exact ⟨_, _, _, _, rfl⟩
  · rintro _ ⟨a, b, f, t, rfl⟩
    walk_at "vc"
    exact q _ _ _ _ (Int.emod_nonneg _ (by omega)) (Int.emod_lt_of_pos _ hm)
theorem power_w {b n : Nat} {Q : D → List Sl → Prop} (hb : b < 2 ^ 64) (hn : n ≤ 1000000) (q : ∀ x y, Q (.int ((b ^ n : Nat) : Int)) [x, y]) :
    WG g__law_power [.val (.int b), .val (.int n)] Q := by
  refine wg_run rfl ?_
  unfold b__law_power
  walk_at "vc"
  refine ws_forN (fun _ k e => ∃ t : Sl, e = [.val (.int b), .val (.int n), .val (.int ((b ^ k : Nat) : Int)), t]) ?_
  walk_at "vc"
  refine ⟨⟨_, rfl⟩, ?_, ?_⟩
  · rintro k d _ _ _ ⟨t, rfl⟩
    walk_at "vc"
    refine ⟨.val d, ?_⟩
    rw [Nat.pow_succ, Int.natCast_mul]
  · rintro _ ⟨t, rfl⟩
    walk_at "vc"
    have := q (.val (.int b)) (.val (.int n))
    rw [irange_length, Int.toNat_natCast]
    exact this

theorem cells_w {ns : List Int} {m : Nat} {Q : D → List Sl → Prop} (h0 : 0 < m) (hm : m ≤ 63) (q : ∀ (cs : List Int) x y, cs.length ≤ m → Q (.list (cs.map .int)) [x, y]) :
    WG g__law_cells [.ro (ns.map .int), .val (.int m)] Q := by
  refine wg_run rfl ?_
  unfold b__law_cells
  walk_at "vc"
  rw [cut_take, ← List.map_take]
  refine ws_for (fun _ rs e => ∃ (cs : List Int) (x y : Sl), cs.length ≤ m ∧ (rs ≠ [] → cs.length = m) ∧ (∀ d ∈ rs, ∃ i n : Int, 0 ≤ i ∧ d = .tuple [.int i, .int n]) ∧ e = [.ro (ns.map .int), .val (.int m), .own true (cs.map .int), x, y]) ?_
  walk_at "vc"
  rw [show (63 : Int) = ((63 : Nat) : Int) from rfl, cut_from, ← List.map_drop, ← List.map_take]
  refine ⟨⟨ns.take m, .no, .no, by rw [List.length_take]; omega, fun hne => ?_, fun d hd => ?_, rfl⟩, ?_, ?_⟩
  · rw [List.length_take]
    rcases Nat.lt_or_ge m ns.length with h | h
    · omega
    · rw [List.drop_eq_nil_of_le h] at hne
      exact absurd (by simp [pairs]) hne
  · obtain ⟨x, y, rfl, h1, h2⟩ := pairs_mem hd
    obtain ⟨i, rfl, h3, _⟩ := irange_zero h1
    obtain ⟨n, rfl⟩ := ints_mem h2
    exact ⟨i, n, h3, rfl⟩
  · rintro d rs e ⟨cs, x, y, h1, h2, h3, rfl⟩
    obtain ⟨i, n, hi, rfl⟩ := h3 d List.mem_cons_self
    have hl := h2 (by simp)
    have hr0 : 0 ≤ i % (m : Int) := Int.emod_nonneg _ (by omega)
    have hr1 : i % (m : Int) < m := Int.emod_lt_of_pos _ (by omega)
    walk_at "vc"
    refine wo_idxL hr0 (by rw [List.length_map, hl]; exact hr1) fun d hd _ => ?_
    obtain ⟨c, rfl⟩ := ints_get hd
    walk_at "vc"
    refine ⟨cs.set (i % (m : Int)).toNat (c * 31 + n), .val (.int i), .val (.int n), by rw [List.length_set]; omega, fun _ => by rw [List.length_set]; exact hl, fun d hd => h3 d (List.mem_cons_of_mem _ hd), ?_⟩
    rw [List.map_set]
  · rintro e ⟨cs, x, y, h1, h2, h3, rfl⟩
    walk_at "vc"
    exact q cs _ _ h1
theorem pool_w {cs : List Int} {k : Int} {Q : List D → List Sl → Prop} (h0 : 0 ≤ k) (h1 : k ≤ 63) (hl : cs.length ≤ 63) (q : ∀ (a b : Int) x y, Q [.int a, .int b] [x, y]) :
    WH g__law_pool [.val (.list (cs.map .int)), .val (.int k)] Q := by
  refine wh_new rfl ?_
  unfold b__law_pool
  walk_at "nr"
  refine ws_mid (fun e => e = [.val (.list (cs.map .int)), .val (.int k), .val (.int 0), .no]) (by walk_at "vc"; rfl) ?_
  rintro _ rfl
  refine ws_mid (fun e => ∃ c : Int, e = [.val (.list (cs.map .int)), .val (.int k), .val (.int c), .no]) ?_ ?_
  · walk_at "vc"
    · rename_i h
      rw [List.length_map] at h
      have hr0 : 0 ≤ k % ((cs.map PyData.int).length : Int) := Int.emod_nonneg _ (by rw [List.length_map]; omega)
      have hr1 : k % ((cs.map PyData.int).length : Int) < ((cs.map PyData.int).length : Int) := Int.emod_lt_of_pos _ (by rw [List.length_map]; omega)
      refine wo_idxL hr0 hr1 fun d hd _ => ?_
      obtain ⟨c, rfl⟩ := ints_get hd
      walk_at "vc"
      exact ⟨_, rfl⟩
    · exact ⟨0, rfl⟩
  · rintro _ ⟨c, rfl⟩
    refine ws_mid (fun e => e = [.val (.list (cs.map .int)), .val (.int k), .val (.int c), .val (.int 0)]) (by walk_at "vc"; rfl) ?_
    rintro _ rfl
    refine ws_mid (fun e => ∃ d : Int, e = [.val (.list (cs.map .int)), .val (.int k), .val (.int c), .val (.int d)]) ?_ ?_
    · walk_at "vc"
      · exact ⟨_, rfl⟩
      · exact ⟨_, rfl⟩
      · exact ⟨_, rfl⟩
    · rintro _ ⟨d, rfl⟩
      walk_at "vc"
      exact q _ _ _ _

theorem dial_w {a b : Int} {Q : D → List Sl → Prop} (q : ∀ r a' b' : Int, 0 < r → r ≤ 10 ^ 60 → Q (.int r) [.own false [.int a', .int b']]) :
    WG g__law_dial [.own false [.int a, .int b]] Q := by
  refine wg_run rfl ?_
  unfold b__law_dial
  (repeat' first | walk_at "v1" | ((with_reducible refine take_w ?_ ?_ fun _ _ _ _ _ _ => ?_); (· walk_at "sd"); (· walk_at "sd")) | ((with_reducible refine wide_w ?_ fun _ _ _ _ _ _ => ?_); (· walk_at "sd")))
  · exact q _ _ _ (by omega) (by omega)
  · refine pick_w (xs := [720, 5040, 1716, 1155, 46189, 97]) (lo := 1) (hi := 46189) (by omega) (by simp; omega) rfl (by decide) fun x h1 h2 _ => ?_
    walk_at "vc"
    exact q _ _ _ (by omega) (by omega)
  · rename_i r _ _ _ h1 h2
    obtain ⟨n, rfl⟩ := Int.eq_ofNat_of_zero_le h1
    refine power_w (b := 2) (n := 1 + n) (by decide) (by omega) fun x y => ?_
    walk_at "vc"
    have : (2 : Nat) ^ (1 + n) ≤ 2 ^ 199 := Nat.pow_le_pow_right (by decide) (by omega)
    have h3 : 0 < (2 : Nat) ^ (1 + n) := Nat.pow_pos (by decide)
    have h4 : (2 : Nat) ^ 199 ≤ 10 ^ 60 := by decide
    exact q _ _ _ (by omega) (by omega)
  · rename_i r _ _ _ h1 h2
    obtain ⟨n, rfl⟩ := Int.eq_ofNat_of_zero_le h1
    refine power_w (b := 10) (n := 1 + n) (by decide) (by omega) fun x y => ?_
    walk_at "vc"
    have : (10 : Nat) ^ (1 + n) ≤ 10 ^ 60 := Nat.pow_le_pow_right (by decide) (by omega)
    have h3 : 0 < (10 : Nat) ^ (1 + n) := Nat.pow_pos (by decide)
    exact q _ _ _ (by omega) (by omega)
  · refine pick_w (xs := [12, 30, 2310, 1]) (lo := 1) (hi := 2310) (by omega) (by simp; omega) rfl (by decide) fun x h1 h2 _ => ?_
    (repeat' first | walk_at "v1" | ((with_reducible refine take_w ?_ ?_ fun _ _ _ _ _ _ => ?_); (· walk_at "sd"); (· walk_at "sd")) | ((with_reducible refine wide_w ?_ fun _ _ _ _ _ _ => ?_); (· walk_at "sd")))
    rename_i r _ _ _ h3 h4
    have : 0 < x * (2 + r) := Int.mul_pos (by omega) (by omega)
    have : x * (2 + r) ≤ 2310 * (2 + r) := Int.mul_le_mul_of_nonneg_right h2 (by omega)
    exact q _ _ _ (by omega) (by omega)

theorem mark_w {a b m : Int} {Q : D → List Sl → Prop} (hm : 0 < m) (hm2 : m ≤ 10 ^ 60) (q : ∀ (r a' b' : Int) x, 0 ≤ r → r < m → Q (.int r) [.own false [.int a', .int b'], x]) :
    WG g__law_mark [.own false [.int a, .int b], .val (.int m)] Q := by
  refine wg_run rfl ?_
  unfold b__law_mark
  (repeat' first | walk_at "v1" | ((with_reducible refine take_w ?_ ?_ fun _ _ _ _ _ _ => ?_); (· walk_at "sd"); (· walk_at "sd")) | ((with_reducible refine wide_w ?_ fun _ _ _ _ _ _ => ?_); (· walk_at "sd")))
  refine pick_w (xs := [2, 3, 4, 5, 6, 7, 10, 11, 12]) (lo := 2) (hi := 12) (by omega) (by simp; omega) rfl (by decide) fun x h1 h2 _ => ?_
  (repeat' first | walk_at "v1" | ((with_reducible refine take_w ?_ ?_ fun _ _ _ _ _ _ => ?_); (· walk_at "sd"); (· walk_at "sd")) | ((with_reducible refine wide_w ?_ fun _ _ _ _ _ _ => ?_); (· walk_at "sd")))
  · exact q _ _ _ _ (Int.emod_nonneg _ (by omega)) (Int.emod_lt_of_pos _ hm)
  · rename_i r _ _ _ h3 h4
    have := Int.emod_lt_of_pos r hm
    have := Int.emod_nonneg r (show m ≠ 0 by omega)
    exact q _ _ _ _ (by omega) (by omega)
  · rename_i w _ _ _ _ _ _ _ _ _ _ r1 _ _ _ _ _ r2 _ _ _ _ _
    refine wo_idxL (by omega) (by simp; omega) fun d _ hd => ?_
    obtain ⟨z, rfl, hz, hz2⟩ : ∃ z : Int, d = .int z ∧ 0 ≤ z ∧ z < m := by
      simp only [List.mem_cons, List.not_mem_nil, or_false] at hd
      rcases hd with rfl | rfl
      · refine ⟨_, rfl, Int.mul_nonneg (Int.ediv_nonneg (by omega) (by omega)) (by assumption), ?_⟩
        have hd : x * (m / x) = m := Int.mul_ediv_cancel' (Int.dvd_of_emod_eq_zero (by assumption))
        have hp : 0 < m / x := by
          rcases Int.lt_or_le 0 (m / x) with h | h
          · exact h
          · have := Int.mul_le_mul_of_nonneg_left h (show 0 ≤ x by omega)
            omega
        rw [Int.mul_comm] at hd
        rw [← hd, Int.mul_ediv_cancel _ (show x ≠ 0 by omega)]
        exact Int.mul_lt_mul_of_pos_left (by omega) hp
      · exact ⟨_, rfl, Int.emod_nonneg _ (by omega), Int.emod_lt_of_pos _ hm⟩
    exact q _ _ _ _ hz hz2
  · exact q _ _ _ _ (by assumption) (by omega)
  · exact q _ _ _ _ (by assumption) (by omega)

theorem common_w {a b : Int} {Q : D → List Sl → Prop} (ha : 0 ≤ a) (hb : 0 ≤ b) (ha2 : a < 10 ^ 200) (hb2 : b < 10 ^ 200) (q : ∀ g s t : Int, Bz a b g s t → Q (.tuple [.int g, .int s, .int t]) [.val (.int a), .val (.int b)]) :
    WG g_common_parts [.val (.int a), .val (.int b)] Q := by
  refine wg_run rfl ?_
  unfold b_common_parts
  walk_at "nr"
  refine ws_mid (fun e => ∃ (r0 s0 t0 r1 s1 t1 : Int) (x4 x5 : Sl), Eu a b r0 s0 t0 r1 s1 t1 ∧ r0 ≤ a + b ∧ r1 ≤ a + b ∧ e = [.val (.int a), .val (.int b), .val (.tuple [.int r0, .int s0, .int t0]), .val (.tuple [.int r1, .int s1, .int t1]), x4, x5, .no, .no]) ?_ ?_
  · walk_at "vc"
    exact ⟨a, 1, 0, b, 0, 1, .no, .no, Eu.start ha hb, by omega, by omega, rfl⟩
  · rintro e ⟨r0, s0, t0, r1, s1, t1, x4, x5, E, z0, z1, rfl⟩
    refine ws_mid (fun e => ∃ (r0 s0 t0 s1 t1 : Int) (x4 x5 : Sl), Eu a b r0 s0 t0 0 s1 t1 ∧ e = [.val (.int a), .val (.int b), .val (.tuple [.int r0, .int s0, .int t0]), .val (.tuple [.int 0, .int s1, .int t1]), x4, x5, .no, .no]) ?_ ?_
    · refine ws_wh (fun m e => ∃ (r0 s0 t0 r1 s1 t1 : Int) (x4 x5 : Sl), Eu a b r0 s0 t0 r1 s1 t1 ∧ r0 ≤ a + b ∧ r1 ≤ a + b ∧ m = r1.toNat ∧ e = [.val (.int a), .val (.int b), .val (.tuple [.int r0, .int s0, .int t0]), .val (.tuple [.int r1, .int s1, .int t1]), x4, x5, .no, .no]) r1.toNat (by unfold FU; omega) ⟨r0, s0, t0, r1, s1, t1, x4, x5, E, z0, z1, rfl, rfl⟩ ?_
      rintro m e ⟨r0, s0, t0, r1, s1, t1, x4, x5, E, z0, z1, rfl, rfl⟩
      have h0 := E.h0
      have h1 := E.h1
      have sz := E.sz
      walk_at "vc"
      · rename_i h
        subst h
        exact ⟨r0, s0, t0, s1, t1, x4, x5, E, rfl⟩
      · rename_i h
        obtain ⟨E2, lt, q0, q1⟩ := E.step h
        have h3 := E2.h1
        walk_at "vc"
        refine wl_compU [.tuple [.int r0, .int r1], .tuple [.int s0, .int s1], .tuple [.int t0, .int t1]] ?_
        refine wl_zip ?_
        walk_at "vc"
        refine ⟨_, _, .inr ⟨rfl, rfl⟩, rfl, rfl, rfl, ?_⟩
        walk_at "vc"
        refine ⟨_, lt, r1, s1, t1, r0 - r0 / r1 * r1, s0 - r0 / r1 * s1, t0 - r0 / r1 * t1, .val (.int (r0 / r1)), .val (.tuple [.int (r0 - r0 / r1 * r1), .int (s0 - r0 / r1 * s1), .int (t0 - r0 / r1 * t1)]), E2, z1, by omega, rfl, ?_⟩
        rfl
    · rintro e ⟨r0, s0, t0, s1, t1, x4, x5, E, rfl⟩
      walk_at "vc"
      exact q r0 s0 t0 (E.fin ha hb)

theorem lcommon_w {a b : Int} {Q : D → List Sl → Prop} (ha : 0 ≤ a) (hb : 0 ≤ b) (hab : a * b < 2 ^ 240 * 2 ^ 240 * 2 ^ 220) (q : ∀ (g : Int) x y, IsG a b g → Q (.int g) [x, y]) :
    WG g__law_common [.val (.int a), .val (.int b)] Q := by
  refine wg_run rfl ?_
  unfold b__law_common
  walk_at "vc"
  refine ws_forN (fun _ k e => ∃ (x y : Int) (t : Sl), 0 ≤ x ∧ 0 ≤ y ∧ (∀ d : Int, (d ∣ x ∧ d ∣ y) ↔ (d ∣ a ∧ d ∣ b)) ∧ (k = 0 ∧ x = a ∧ y = b ∨ y = 0 ∨ y < x ∧ x * y < 2 ^ (701 - k)) ∧ e = [.val (.int x), .val (.int y), t]) ?_
  walk_at "vc"
  refine ⟨⟨a, b, .no, ha, hb, fun d => Iff.rfl, .inl ⟨rfl, rfl, rfl⟩, rfl⟩, ?_, ?_⟩
  · rintro k d e hk _ ⟨x, y, t, hx, hy, dv, st, rfl⟩
    rw [irange_length] at hk
    walk_at "vc"
    · rename_i h
      subst h
      exact ⟨x, 0, _, hx, by omega, dv, .inr (.inl rfl), rfl⟩
    · rename_i h
      have hy1 : 0 < y := by omega
      have m1 := Int.mul_ediv_add_emod x y
      have m2 := Int.emod_nonneg x (show y ≠ 0 by omega)
      have m3 := Int.emod_lt_of_pos x hy1
      walk_at "vc"
      refine ⟨y, x % y, _, hy, m2, fun d => ?_, .inr (.inr ⟨by omega, ?_⟩), rfl⟩
      · rw [← dv d]
        constructor
        · rintro ⟨d1, d2⟩
          refine ⟨?_, d1⟩
          rw [← m1]
          exact Int.dvd_add (Int.dvd_mul_of_dvd_left d1) d2
        · rintro ⟨d1, d2⟩
          refine ⟨d2, ?_⟩
          have : x % y = x - y * (x / y) := by omega
          rw [this]
          exact Int.dvd_sub d1 (Int.dvd_mul_of_dvd_left d2)
      · rcases st with ⟨rfl, rfl, rfl⟩ | h0 | ⟨h1, h2⟩
        · have hxy : y * (x % y) ≤ y * x := Int.mul_le_mul_of_nonneg_left (by
            have := Int.emod_emod_of_dvd x (Int.dvd_refl y)
            rcases Int.lt_or_le x y with h | h
            · rw [Int.emod_eq_of_lt hx h]; exact Int.le_refl _
            · omega) hy
          rw [Int.mul_comm y x] at hxy
          have h5 : (2 : Int) ^ (701 - (0 + 1)) = 2 ^ 240 * 2 ^ 240 * 2 ^ 220 := by decide +kernel
          rw [h5]
          omega
        · omega
        · have : 701 - k = (701 - (k + 1)) + 1 := by omega
          rw [this] at h2
          exact rest_turn hy1 (by omega) h2
  · rintro e ⟨x, y, t, hx, hy, dv, st, rfl⟩
    rw [irange_length] at st
    have hy0 : y = 0 := by
      rcases st with ⟨h, _⟩ | h | ⟨h1, h2⟩
      · cases h
      · exact h
      · rcases Int.lt_or_eq_of_le hy with h | h
        · exfalso
          have h4 : x * 1 ≤ x * y := Int.mul_le_mul_of_nonneg_left (by omega) hx
          have h3 : (2 : Int) ^ (701 - (700 : Int).toNat) = 2 := rfl
          rw [h3] at h2
          omega
        · exact h.symm
    subst hy0
    walk_at "vc"
    have := (dv x).mp ⟨Int.dvd_refl _, Int.dvd_zero _⟩
    exact q x _ _ ⟨hx, this.1, this.2, fun d d1 d2 => ((dv d).mpr ⟨d1, d2⟩).1⟩

theorem weights_w {m : Int} {ns : List Int} {Q : D → List Sl → Prop} (hm : 0 < m) (hm2 : m ≤ 10 ^ 120) (hl : ns.length ≤ 100000) (q : ∀ g ws x y, We m ns g ws → Q (.tuple [.int g, .list (ws.map .int)]) [x, y]) :
    WG g_weights_of [.val (.int m), .val (.list (ns.map .int))] Q := by
  refine wg_run rfl ?_
  unfold b_weights_of
  walk_at "vc"
  refine ws_for (fun _ rs e => ∃ (done rest : List Int) (g : Int) (ws : List Int) (x4 x5 x6 : Sl), ns = done ++ rest ∧ rs = rest.map .int ∧ We m done g ws ∧ e = [.val (.int m), .val (.list (ns.map .int)), .val (.int g), .own true (ws.map .int), x4, x5, x6, .no]) ?_
  walk_at "vc"
  refine ⟨⟨[], ns, m, [], .no, .no, .no, rfl, rfl, We.start hm, rfl⟩, ?_, ?_⟩
  · rintro d rs e ⟨done, rest, g, ws, x4, x5, x6, rfl, hr, W, rfl⟩
    cases rest with
    | nil => cases hr
    | cons n rest =>
      cases hr
      have hn0 := Int.emod_nonneg n (show m ≠ 0 by omega)
      have hn1 := Int.emod_lt_of_pos n hm
      have hgm := Int.le_of_dvd hm W.dm
      have hg := W.pos
      walk_at "vc"
      refine common_w (by omega) hn0 (by omega) (by omega) fun g' s t B => ?_
      have hs := B.sb
      have W2 := W.step hm B
      have hlen : ws.length ≤ 100000 := by
        rw [W.len]
        rw [List.length_append] at hl
        omega
      walk_at "vc"
      refine wl_compP (fun _ _ => true) (fun _ => mapI fun w => w * s % m) ?_
      walk_at "vc"
      refine ⟨rfl, fits_of (by rw [List.length_map]; omega), fun d hd => ?_, ?_⟩
      · obtain ⟨w, hw, rfl⟩ := List.mem_map.mp hd
        have hw2 := W.rng w hw
        walk_at "vc"
        exact ⟨rfl, by walk_at "vc"; exact ⟨rfl, rfl⟩⟩
      · rw [filter_yes, mapI_ints]
        walk_at "vc"
        refine ⟨done ++ [n], rest, g', _, .val (.int n), .val (.int s), .val (.int t), by simp, rfl, W2, ?_⟩
        rw [List.map_append (l₁ := ws.map fun w => w * s % m)]
        rfl
  · rintro e ⟨done, rest, g, ws, x4, x5, x6, rfl, hr, W, rfl⟩
    cases rest with
    | cons _ _ => cases hr
    | nil =>
      walk_at "vc"
      refine q g ws _ _ ?_
      rw [List.append_nil]
      exact W
theorem weights_nr : NR (fun _ => False) b_weights_of := by
  unfold b_weights_of
  exact nr_seq nr_set (nr_seq nr_setO (nr_seq (nr_for (nr_seq nr_asg (nr_frz nr_setO))) nr_retT))
end Lw

namespace Lw
open PySem PySem.Spec PyProof.Rows L2 M
local macro_rules | `(tactic| walk_at "sd") => `(tactic| (first | (with_reducible assumption) | omega | (simp; done) | (simp; omega) | decide))
local macro_rules | `(tactic| walk_at "v1") => `(tactic| (first | with_reducible refine we_callN ?_ | with_reducible refine vals_nil ?_ | with_reducible refine vals_v ?_ | with_reducible refine ws_retT ?_ | with_reducible refine wpu_nil ?_ | with_reducible refine wpu_seq ?_ | with_reducible refine wpu_ret ?_ | with_reducible refine wpu_if ?_ | with_reducible refine wtd_P ?_ | with_reducible refine wtd_G ?_ | with_reducible refine wtd_If ?_ | with_reducible refine ws_seq ?_ | with_reducible refine ws_expr ?_ | with_reducible refine ws_ret ?_ | with_reducible refine ws_retL ?_ | with_reducible refine ws_if ?_ | with_reducible refine ws_set ?_ | with_reducible refine ws_setO ?_ | with_reducible refine ws_asg ?_ | with_reducible refine ws_par ?_ | with_reducible refine two_ ?_ | with_reducible refine wc_nil ?_ | with_reducible refine wc_cons ?_ | with_reducible refine ws_nil ?_ | with_reducible refine ws_retN ?_ | with_reducible refine we_c ?_ | with_reducible refine we_un ?_ | with_reducible refine we_bin ?_ | with_reducible refine we_chain ?_ | with_reducible refine we_and ?_ | with_reducible refine we_or ?_ | with_reducible refine we_not ?_ | with_reducible refine we_if ?_ | with_reducible refine we_fz ?_ | with_reducible refine we_tup ?_ | with_reducible refine we_sl ?_ | with_reducible refine wp_no ?_ | with_reducible refine wp_e ?_ | with_reducible refine wl_nil ?_ | with_reducible refine wl_cons ?_ | with_reducible refine wl_lst ?_ | with_reducible refine wl_un ?_ | with_reducible refine wl_it ?_ | with_reducible refine wl_rng1 ?_ | with_reducible refine wl_rng2 ?_ | with_reducible refine wl_enum ?_ | with_reducible refine wl_enumA ?_ | with_reducible refine wl_addE ?_ | with_reducible refine wl_rg1 ?_ | with_reducible refine we_tupRg ?_ | with_reducible refine we_bor ?_ | with_reducible refine wl_bor ?_ | with_reducible refine wb_bor ?_ | with_reducible refine wo_isB ?_ | with_reducible refine wo_ntB ?_ | with_reducible refine wb_v ?_ | with_reducible refine wb_and ?_ | with_reducible refine wb_or ?_ | with_reducible refine wb_not ?_ | with_reducible refine wb_yes ?_ | with_reducible refine wt_n ?_ | with_reducible refine wts_nil ?_ | with_reducible refine wts_cons ?_ | with_reducible refine wa_nil ?_ | with_reducible refine wa_v ?_ | with_reducible refine we_call ?_ | with_reducible refine wl_call ?_ | with_reducible refine back_nil ?_ | with_reducible refine back_v ?_ | with_reducible refine back_o ?_ | with_reducible refine res_nil ?_ | with_reducible refine res_v ?_ | with_reducible refine ifb_not ?_ | with_reducible refine ifb_t ?_ | with_reducible refine ifb_f ?_ | with_reducible refine isb ?_ | with_reducible refine isi_ ?_ | with_reducible refine isl ?_ | with_reducible refine iss_l ?_ | with_reducible refine iss_t ?_ | with_reducible refine wo_add ?_ | with_reducible refine wo_sub ?_ | with_reducible refine wo_neg ?_ | with_reducible refine wo_lt ?_ | with_reducible refine wo_le ?_ | with_reducible refine wo_gt ?_ | with_reducible refine wo_ge ?_ | with_reducible refine wo_eq ?_ | with_reducible refine wo_ne ?_ | with_reducible refine wo_eqB ?_ | with_reducible refine wo_neB ?_ | with_reducible refine wo_isN ?_ | with_reducible refine wo_ntN ?_ | with_reducible refine wo_lenL ?_ | with_reducible refine wo_lenT ?_ | with_reducible refine wo_abs ?_ | with_reducible refine wo_intB ?_ | with_reducible refine wo_intI ?_ | with_reducible refine wo_listL ?_ | with_reducible refine wo_listT ?_ | with_reducible refine wo_tupL ?_ | with_reducible refine wo_tupT ?_ | with_reducible refine wo_max ?_ | with_reducible refine wo_min ?_ | with_reducible refine wo_isiI ?_ | with_reducible refine wo_isiB ?_ | with_reducible refine wo_cutL ?_ | with_reducible refine wo_cutT ?_ | with_reducible refine wo_p10_60 ?_ | with_reducible refine wo_p10_18 ?_ | with_reducible refine wo_p10_30 ?_ | with_reducible refine wo_p2_24 ?_ | with_reducible refine wo_p10_8 ?_ | with_reducible refine wo_p10_19 ?_ | with_reducible refine wo_p10_55 ?_ | with_reducible refine wo_p10_59 ?_ | with_reducible refine wo_p3_30 ?_ | with_reducible refine wo_p2_40 ?_ | with_reducible refine wo_p10_54 ?_ | with_reducible refine wo_p3_13 ?_ | with_reducible refine wo_p2_20 ?_ | with_reducible refine wo_p10_57 ?_ | with_reducible refine wo_p10_40 ?_ | with_reducible refine wo_p10_61 ?_ | with_reducible refine wo_p10_50 ?_ | ((with_reducible refine ifb_decT ?_ ?_); (· first | (with_reducible assumption) | omega | (simp only [List.length_cons, List.length_nil]; omega))) | ((with_reducible refine ifb_decF ?_ ?_); (· first | (with_reducible assumption) | omega | (simp only [List.length_cons, List.length_nil]; omega))) | ((with_reducible refine wo_eqT ?_ ?_); (· decide +kernel)) | ((with_reducible refine wo_eqF ?_ ?_); (· decide +kernel)) | ((with_reducible refine wo_neT ?_ ?_); (· decide +kernel)) | ((with_reducible refine wo_neF ?_ ?_); (· decide +kernel)) | with_reducible refine ifb_dec (fun _ => ?_) (fun _ => ?_) | ((with_reducible apply retT1); (· rfl)) | ((with_reducible apply retT2); (· rfl)) | ((with_reducible apply wl_addO); (· rfl)) | ((with_reducible apply ifb_eT); (· rfl)) | ((with_reducible apply ifb_eF); (· rfl)) | ((with_reducible apply we_v); (· rfl)) | ((with_reducible apply we_oV); (· rfl)) | ((with_reducible apply we_oW); (· rfl)) | ((with_reducible apply we_oR); (· rfl)) | ((with_reducible apply we_bV); (· rfl)) | ((with_reducible apply we_bVr); (· rfl)) | ((with_reducible apply we_bVv); (· rfl)) | ((with_reducible apply wa_r); (· rfl)) | ((with_reducible apply wa_oR); (· rfl)) | ((with_reducible apply wa_oO); (· rfl)) | ((with_reducible apply wa_oV); (· rfl)) | ((with_reducible apply back_r); (· rfl)) | ((with_reducible apply we_mut); (· rfl)) | ((with_reducible apply we_mut0); (· rfl)) | ((with_reducible apply ws_frz); (· rfl)) | ((with_reducible apply ws_frzV); (· rfl)) | ((with_reducible apply ws_retO); (· rfl)) | ((with_reducible apply ws_putI); (· rfl)) | ((with_reducible apply own_); (· rfl)) | ((with_reducible apply any_o); (· rfl)) | ((with_reducible apply any_r); (· rfl)) | ((with_reducible apply res_r); (· rfl)) | ((with_reducible apply res_oO); (· rfl)) | ((with_reducible apply res_oR); (· rfl)) | ((with_reducible apply res_oV); (· rfl)) | ((with_reducible apply wt_t); (· rfl)) | ((with_reducible apply wl_slO); (· rfl)) | ((with_reducible apply wl_slR); (· rfl)) | ((with_reducible apply wo_idxE); (· rfl)) | ((with_reducible apply wo_isiE); (· rfl)) | ((with_reducible apply wo_allE); (· rfl)) | ((with_reducible apply wo_anyE); (· rfl)) | ((with_reducible apply wo_ixE); (· rfl)) | ((with_reducible apply cg0); (· rfl)) | ((with_reducible apply ch0); (· rfl)) | ((with_reducible apply cg1); (· rfl); (· rfl)) | ((with_reducible apply ch1); (· rfl); (· rfl)) | ((with_reducible refine fit_ ?_ ?_); (· first | rfl | (apply fits_of; first | omega | (simp; omega)))) | ((with_reducible refine sml_ ?_ ?_ ?_); (· walk_at "sd"); (· walk_at "sd")) | ((with_reducible refine wo_mod ?_ ?_); (· walk_at "sd")) | ((with_reducible refine wo_div ?_ ?_ ?_); (· walk_at "sd"); (· walk_at "sd")) | ((with_reducible refine wo_mul ?_ ?_); (· first | exact mul_ok1 (by walk_at "sd") | exact mul_ok2 (by walk_at "sd") | exact mul_ok3 (by omega) (by omega))) | ((with_reducible refine wo_ix ?_ ?_ ?_); (· walk_at "sd"); (· walk_at "sd")) | ((with_reducible refine wo_app ?_ ?_); (· first | rfl | (apply fits_of; first | omega | (simp; omega)))) | ((with_reducible refine wo_ext ?_ ?_); (· first | rfl | (apply fits_of; first | omega | (simp; omega)))) | ((with_reducible refine wo_addL ?_ ?_); (· first | rfl | (apply fits_of; first | omega | (simp; omega)))) | ((with_reducible refine wo_addT ?_ ?_); (· first | rfl | (apply fits_of; first | omega | (simp; omega)))) | ((with_reducible refine wtd_K ?_ ?_); (· exact ⟨rfl, by decide⟩)) | ((with_reducible refine wtd_U ?_ ?_); (· exact ⟨rfl, by decide⟩)) | ((with_reducible refine wtd_C ?_ ?_); (· rfl)) | ((with_reducible refine wtd_A ?_ ?_ ?_); (· rfl); (· first | rfl | (apply fits_of; first | omega | (simp; omega)))) | ((with_reducible apply nrm_); (· (try simp only [wipeE, backE, List.set_cons_zero, List.set_cons_succ, List.getElem?_cons_zero, List.getElem?_cons_succ, List.cons_append, List.nil_append, List.replicate_succ, List.replicate_zero, Nat.reduceSub, unowns_nil, unowns_cons, unown_own, unown_val, unown_no, unown_ro]); rfl))))
local macro_rules | `(tactic| walk_at "v2") => `(tactic| (first | with_reducible refine we_callN ?_ | with_reducible refine vals_nil ?_ | with_reducible refine vals_v ?_ | with_reducible refine ws_retT ?_ | with_reducible refine wpu_nil ?_ | with_reducible refine wpu_seq ?_ | with_reducible refine wpu_ret ?_ | with_reducible refine wpu_if ?_ | with_reducible refine wtd_P ?_ | with_reducible refine wtd_G ?_ | with_reducible refine wtd_If ?_ | with_reducible refine ws_seq ?_ | with_reducible refine ws_expr ?_ | with_reducible refine ws_ret ?_ | with_reducible refine ws_retL ?_ | with_reducible refine ws_set ?_ | with_reducible refine ws_setO ?_ | with_reducible refine ws_asg ?_ | with_reducible refine ws_par ?_ | with_reducible refine two_ ?_ | with_reducible refine wc_nil ?_ | with_reducible refine wc_cons ?_ | with_reducible refine ws_nil ?_ | with_reducible refine ws_retN ?_ | with_reducible refine we_c ?_ | with_reducible refine we_un ?_ | with_reducible refine we_bin ?_ | with_reducible refine we_chain ?_ | with_reducible refine we_and ?_ | with_reducible refine we_or ?_ | with_reducible refine we_not ?_ | with_reducible refine we_if ?_ | with_reducible refine we_fz ?_ | with_reducible refine we_tup ?_ | with_reducible refine we_sl ?_ | with_reducible refine wp_no ?_ | with_reducible refine wp_e ?_ | with_reducible refine wl_nil ?_ | with_reducible refine wl_cons ?_ | with_reducible refine wl_lst ?_ | with_reducible refine wl_un ?_ | with_reducible refine wl_it ?_ | with_reducible refine wl_rng1 ?_ | with_reducible refine wl_rng2 ?_ | with_reducible refine wl_enum ?_ | with_reducible refine wl_enumA ?_ | with_reducible refine wl_addE ?_ | with_reducible refine wl_rg1 ?_ | with_reducible refine we_tupRg ?_ | with_reducible refine we_bor ?_ | with_reducible refine wl_bor ?_ | with_reducible refine wb_bor ?_ | with_reducible refine wo_isB ?_ | with_reducible refine wo_ntB ?_ | with_reducible refine wb_v ?_ | with_reducible refine wb_and ?_ | with_reducible refine wb_or ?_ | with_reducible refine wb_not ?_ | with_reducible refine wb_yes ?_ | with_reducible refine wt_n ?_ | with_reducible refine wts_nil ?_ | with_reducible refine wts_cons ?_ | with_reducible refine wa_nil ?_ | with_reducible refine wa_v ?_ | with_reducible refine we_call ?_ | with_reducible refine wl_call ?_ | with_reducible refine back_nil ?_ | with_reducible refine back_v ?_ | with_reducible refine back_o ?_ | with_reducible refine res_nil ?_ | with_reducible refine res_v ?_ | with_reducible refine ifb_not ?_ | with_reducible refine ifb_t ?_ | with_reducible refine ifb_f ?_ | with_reducible refine isb ?_ | with_reducible refine isi_ ?_ | with_reducible refine isl ?_ | with_reducible refine iss_l ?_ | with_reducible refine iss_t ?_ | with_reducible refine wo_add ?_ | with_reducible refine wo_sub ?_ | with_reducible refine wo_neg ?_ | with_reducible refine wo_lt ?_ | with_reducible refine wo_le ?_ | with_reducible refine wo_gt ?_ | with_reducible refine wo_ge ?_ | with_reducible refine wo_eq ?_ | with_reducible refine wo_ne ?_ | with_reducible refine wo_eqB ?_ | with_reducible refine wo_neB ?_ | with_reducible refine wo_isN ?_ | with_reducible refine wo_ntN ?_ | with_reducible refine wo_lenL ?_ | with_reducible refine wo_lenT ?_ | with_reducible refine wo_abs ?_ | with_reducible refine wo_intB ?_ | with_reducible refine wo_intI ?_ | with_reducible refine wo_listL ?_ | with_reducible refine wo_listT ?_ | with_reducible refine wo_tupL ?_ | with_reducible refine wo_tupT ?_ | with_reducible refine wo_max ?_ | with_reducible refine wo_min ?_ | with_reducible refine wo_isiI ?_ | with_reducible refine wo_isiB ?_ | with_reducible refine wo_cutL ?_ | with_reducible refine wo_cutT ?_ | with_reducible refine wo_p10_60 ?_ | with_reducible refine wo_p10_18 ?_ | with_reducible refine wo_p10_30 ?_ | with_reducible refine wo_p2_24 ?_ | with_reducible refine wo_p10_8 ?_ | with_reducible refine wo_p10_19 ?_ | with_reducible refine wo_p10_55 ?_ | with_reducible refine wo_p10_59 ?_ | with_reducible refine wo_p3_30 ?_ | with_reducible refine wo_p2_40 ?_ | with_reducible refine wo_p10_54 ?_ | with_reducible refine wo_p3_13 ?_ | with_reducible refine wo_p2_20 ?_ | with_reducible refine wo_p10_57 ?_ | with_reducible refine wo_p10_40 ?_ | with_reducible refine wo_p10_61 ?_ | with_reducible refine wo_p10_50 ?_ | ((with_reducible refine ifb_decT ?_ ?_); (· first | (with_reducible assumption) | omega | (simp only [List.length_cons, List.length_nil]; omega))) | ((with_reducible refine ifb_decF ?_ ?_); (· first | (with_reducible assumption) | omega | (simp only [List.length_cons, List.length_nil]; omega))) | ((with_reducible refine wo_eqT ?_ ?_); (· decide +kernel)) | ((with_reducible refine wo_eqF ?_ ?_); (· decide +kernel)) | ((with_reducible refine wo_neT ?_ ?_); (· decide +kernel)) | ((with_reducible refine wo_neF ?_ ?_); (· decide +kernel)) | with_reducible refine ifb_dec (fun _ => ?_) (fun _ => ?_) | ((with_reducible apply retT1); (· rfl)) | ((with_reducible apply retT2); (· rfl)) | ((with_reducible apply wl_addO); (· rfl)) | ((with_reducible apply ifb_eT); (· rfl)) | ((with_reducible apply ifb_eF); (· rfl)) | ((with_reducible apply we_v); (· rfl)) | ((with_reducible apply we_oV); (· rfl)) | ((with_reducible apply we_oW); (· rfl)) | ((with_reducible apply we_oR); (· rfl)) | ((with_reducible apply we_bV); (· rfl)) | ((with_reducible apply we_bVr); (· rfl)) | ((with_reducible apply we_bVv); (· rfl)) | ((with_reducible apply wa_r); (· rfl)) | ((with_reducible apply wa_oR); (· rfl)) | ((with_reducible apply wa_oO); (· rfl)) | ((with_reducible apply wa_oV); (· rfl)) | ((with_reducible apply back_r); (· rfl)) | ((with_reducible apply we_mut); (· rfl)) | ((with_reducible apply we_mut0); (· rfl)) | ((with_reducible apply ws_frz); (· rfl)) | ((with_reducible apply ws_frzV); (· rfl)) | ((with_reducible apply ws_retO); (· rfl)) | ((with_reducible apply ws_putI); (· rfl)) | ((with_reducible apply own_); (· rfl)) | ((with_reducible apply any_o); (· rfl)) | ((with_reducible apply any_r); (· rfl)) | ((with_reducible apply res_r); (· rfl)) | ((with_reducible apply res_oO); (· rfl)) | ((with_reducible apply res_oR); (· rfl)) | ((with_reducible apply res_oV); (· rfl)) | ((with_reducible apply wt_t); (· rfl)) | ((with_reducible apply wl_slO); (· rfl)) | ((with_reducible apply wl_slR); (· rfl)) | ((with_reducible apply wo_idxE); (· rfl)) | ((with_reducible apply wo_isiE); (· rfl)) | ((with_reducible apply wo_allE); (· rfl)) | ((with_reducible apply wo_anyE); (· rfl)) | ((with_reducible apply wo_ixE); (· rfl)) | ((with_reducible apply cg0); (· rfl)) | ((with_reducible apply ch0); (· rfl)) | ((with_reducible apply cg1); (· rfl); (· rfl)) | ((with_reducible apply ch1); (· rfl); (· rfl)) | ((with_reducible refine fit_ ?_ ?_); (· first | rfl | (apply fits_of; first | omega | (simp; omega)))) | ((with_reducible refine sml_ ?_ ?_ ?_); (· walk_at "sd"); (· walk_at "sd")) | ((with_reducible refine wo_mod ?_ ?_); (· walk_at "sd")) | ((with_reducible refine wo_div ?_ ?_ ?_); (· walk_at "sd"); (· walk_at "sd")) | ((with_reducible refine wo_mul ?_ ?_); (· first | exact mul_ok1 (by walk_at "sd") | exact mul_ok2 (by walk_at "sd") | exact mul_ok3 (by omega) (by omega))) | ((with_reducible refine wo_ix ?_ ?_ ?_); (· walk_at "sd"); (· walk_at "sd")) | ((with_reducible refine wo_app ?_ ?_); (· first | rfl | (apply fits_of; first | omega | (simp; omega)))) | ((with_reducible refine wo_ext ?_ ?_); (· first | rfl | (apply fits_of; first | omega | (simp; omega)))) | ((with_reducible refine wo_addL ?_ ?_); (· first | rfl | (apply fits_of; first | omega | (simp; omega)))) | ((with_reducible refine wo_addT ?_ ?_); (· first | rfl | (apply fits_of; first | omega | (simp; omega)))) | ((with_reducible refine wtd_K ?_ ?_); (· exact ⟨rfl, by decide⟩)) | ((with_reducible refine wtd_U ?_ ?_); (· exact ⟨rfl, by decide⟩)) | ((with_reducible refine wtd_C ?_ ?_); (· rfl)) | ((with_reducible refine wtd_A ?_ ?_ ?_); (· rfl); (· first | rfl | (apply fits_of; first | omega | (simp; omega)))) | ((with_reducible apply nrm_); (· (try simp only [wipeE, backE, List.set_cons_zero, List.set_cons_succ, List.getElem?_cons_zero, List.getElem?_cons_succ, List.cons_append, List.nil_append, List.replicate_succ, List.replicate_zero, Nat.reduceSub, unowns_nil, unowns_cons, unown_own, unown_val, unown_no, unown_ro]); rfl))))
local macro_rules | `(tactic| walk_at "vc") => `(tactic| (repeat' first | with_reducible refine we_callN ?_ | with_reducible refine vals_nil ?_ | with_reducible refine vals_v ?_ | with_reducible refine ws_retT ?_ | with_reducible refine wpu_nil ?_ | with_reducible refine wpu_seq ?_ | with_reducible refine wpu_ret ?_ | with_reducible refine wpu_if ?_ | with_reducible refine wtd_P ?_ | with_reducible refine wtd_G ?_ | with_reducible refine wtd_If ?_ | with_reducible refine ws_seq ?_ | with_reducible refine ws_expr ?_ | with_reducible refine ws_ret ?_ | with_reducible refine ws_retL ?_ | with_reducible refine ws_if ?_ | with_reducible refine ws_set ?_ | with_reducible refine ws_setO ?_ | with_reducible refine ws_asg ?_ | with_reducible refine ws_par ?_ | with_reducible refine two_ ?_ | with_reducible refine wc_nil ?_ | with_reducible refine wc_cons ?_ | with_reducible refine ws_nil ?_ | with_reducible refine ws_retN ?_ | with_reducible refine we_c ?_ | with_reducible refine we_un ?_ | with_reducible refine we_bin ?_ | with_reducible refine we_chain ?_ | with_reducible refine we_and ?_ | with_reducible refine we_or ?_ | with_reducible refine we_not ?_ | with_reducible refine we_if ?_ | with_reducible refine we_fz ?_ | with_reducible refine we_tup ?_ | with_reducible refine we_sl ?_ | with_reducible refine wp_no ?_ | with_reducible refine wp_e ?_ | with_reducible refine wl_nil ?_ | with_reducible refine wl_cons ?_ | with_reducible refine wl_lst ?_ | with_reducible refine wl_un ?_ | with_reducible refine wl_it ?_ | with_reducible refine wl_rng1 ?_ | with_reducible refine wl_rng2 ?_ | with_reducible refine wl_enum ?_ | with_reducible refine wl_enumA ?_ | with_reducible refine wl_addE ?_ | with_reducible refine wl_rg1 ?_ | with_reducible refine we_tupRg ?_ | with_reducible refine we_bor ?_ | with_reducible refine wl_bor ?_ | with_reducible refine wb_bor ?_ | with_reducible refine wo_isB ?_ | with_reducible refine wo_ntB ?_ | with_reducible refine wb_v ?_ | with_reducible refine wb_and ?_ | with_reducible refine wb_or ?_ | with_reducible refine wb_not ?_ | with_reducible refine wb_yes ?_ | with_reducible refine wt_n ?_ | with_reducible refine wts_nil ?_ | with_reducible refine wts_cons ?_ | with_reducible refine wa_nil ?_ | with_reducible refine wa_v ?_ | with_reducible refine we_call ?_ | with_reducible refine wl_call ?_ | with_reducible refine back_nil ?_ | with_reducible refine back_v ?_ | with_reducible refine back_o ?_ | with_reducible refine res_nil ?_ | with_reducible refine res_v ?_ | with_reducible refine ifb_not ?_ | with_reducible refine ifb_t ?_ | with_reducible refine ifb_f ?_ | with_reducible refine isb ?_ | with_reducible refine isi_ ?_ | with_reducible refine isl ?_ | with_reducible refine iss_l ?_ | with_reducible refine iss_t ?_ | with_reducible refine wo_add ?_ | with_reducible refine wo_sub ?_ | with_reducible refine wo_neg ?_ | with_reducible refine wo_lt ?_ | with_reducible refine wo_le ?_ | with_reducible refine wo_gt ?_ | with_reducible refine wo_ge ?_ | with_reducible refine wo_eq ?_ | with_reducible refine wo_ne ?_ | with_reducible refine wo_eqB ?_ | with_reducible refine wo_neB ?_ | with_reducible refine wo_isN ?_ | with_reducible refine wo_ntN ?_ | with_reducible refine wo_lenL ?_ | with_reducible refine wo_lenT ?_ | with_reducible refine wo_abs ?_ | with_reducible refine wo_intB ?_ | with_reducible refine wo_intI ?_ | with_reducible refine wo_listL ?_ | with_reducible refine wo_listT ?_ | with_reducible refine wo_tupL ?_ | with_reducible refine wo_tupT ?_ | with_reducible refine wo_max ?_ | with_reducible refine wo_min ?_ | with_reducible refine wo_isiI ?_ | with_reducible refine wo_isiB ?_ | with_reducible refine wo_cutL ?_ | with_reducible refine wo_cutT ?_ | with_reducible refine wo_p10_60 ?_ | with_reducible refine wo_p10_18 ?_ | with_reducible refine wo_p10_30 ?_ | with_reducible refine wo_p2_24 ?_ | with_reducible refine wo_p10_8 ?_ | with_reducible refine wo_p10_19 ?_ | with_reducible refine wo_p10_55 ?_ | with_reducible refine wo_p10_59 ?_ | with_reducible refine wo_p3_30 ?_ | with_reducible refine wo_p2_40 ?_ | with_reducible refine wo_p10_54 ?_ | with_reducible refine wo_p3_13 ?_ | with_reducible refine wo_p2_20 ?_ | with_reducible refine wo_p10_57 ?_ | with_reducible refine wo_p10_40 ?_ | with_reducible refine wo_p10_61 ?_ | with_reducible refine wo_p10_50 ?_ | ((with_reducible refine ifb_decT ?_ ?_); (· first | (with_reducible assumption) | omega | (simp only [List.length_cons, List.length_nil]; omega))) | ((with_reducible refine ifb_decF ?_ ?_); (· first | (with_reducible assumption) | omega | (simp only [List.length_cons, List.length_nil]; omega))) | ((with_reducible refine wo_eqT ?_ ?_); (· decide +kernel)) | ((with_reducible refine wo_eqF ?_ ?_); (· decide +kernel)) | ((with_reducible refine wo_neT ?_ ?_); (· decide +kernel)) | ((with_reducible refine wo_neF ?_ ?_); (· decide +kernel)) | with_reducible refine ifb_dec (fun _ => ?_) (fun _ => ?_) | ((with_reducible apply retT1); (· rfl)) | ((with_reducible apply retT2); (· rfl)) | ((with_reducible apply wl_addO); (· rfl)) | ((with_reducible apply ifb_eT); (· rfl)) | ((with_reducible apply ifb_eF); (· rfl)) | ((with_reducible apply we_v); (· rfl)) | ((with_reducible apply we_oV); (· rfl)) | ((with_reducible apply we_oW); (· rfl)) | ((with_reducible apply we_oR); (· rfl)) | ((with_reducible apply we_bV); (· rfl)) | ((with_reducible apply we_bVr); (· rfl)) | ((with_reducible apply we_bVv); (· rfl)) | ((with_reducible apply wa_r); (· rfl)) | ((with_reducible apply wa_oR); (· rfl)) | ((with_reducible apply wa_oO); (· rfl)) | ((with_reducible apply wa_oV); (· rfl)) | ((with_reducible apply back_r); (· rfl)) | ((with_reducible apply we_mut); (· rfl)) | ((with_reducible apply we_mut0); (· rfl)) | ((with_reducible apply ws_frz); (· rfl)) | ((with_reducible apply ws_frzV); (· rfl)) | ((with_reducible apply ws_retO); (· rfl)) | ((with_reducible apply ws_putI); (· rfl)) | ((with_reducible apply own_); (· rfl)) | ((with_reducible apply any_o); (· rfl)) | ((with_reducible apply any_r); (· rfl)) | ((with_reducible apply res_r); (· rfl)) | ((with_reducible apply res_oO); (· rfl)) | ((with_reducible apply res_oR); (· rfl)) | ((with_reducible apply res_oV); (· rfl)) | ((with_reducible apply wt_t); (· rfl)) | ((with_reducible apply wl_slO); (· rfl)) | ((with_reducible apply wl_slR); (· rfl)) | ((with_reducible apply wo_idxE); (· rfl)) | ((with_reducible apply wo_isiE); (· rfl)) | ((with_reducible apply wo_allE); (· rfl)) | ((with_reducible apply wo_anyE); (· rfl)) | ((with_reducible apply wo_ixE); (· rfl)) | ((with_reducible apply cg0); (· rfl)) | ((with_reducible apply ch0); (· rfl)) | ((with_reducible apply cg1); (· rfl); (· rfl)) | ((with_reducible apply ch1); (· rfl); (· rfl)) | ((with_reducible refine fit_ ?_ ?_); (· first | rfl | (apply fits_of; first | omega | (simp; omega)))) | ((with_reducible refine sml_ ?_ ?_ ?_); (· walk_at "sd"); (· walk_at "sd")) | ((with_reducible refine wo_mod ?_ ?_); (· walk_at "sd")) | ((with_reducible refine wo_div ?_ ?_ ?_); (· walk_at "sd"); (· walk_at "sd")) | ((with_reducible refine wo_mul ?_ ?_); (· first | exact mul_ok1 (by walk_at "sd") | exact mul_ok2 (by walk_at "sd") | exact mul_ok3 (by omega) (by omega))) | ((with_reducible refine wo_ix ?_ ?_ ?_); (· walk_at "sd"); (· walk_at "sd")) | ((with_reducible refine wo_app ?_ ?_); (· first | rfl | (apply fits_of; first | omega | (simp; omega)))) | ((with_reducible refine wo_ext ?_ ?_); (· first | rfl | (apply fits_of; first | omega | (simp; omega)))) | ((with_reducible refine wo_addL ?_ ?_); (· first | rfl | (apply fits_of; first | omega | (simp; omega)))) | ((with_reducible refine wo_addT ?_ ?_); (· first | rfl | (apply fits_of; first | omega | (simp; omega)))) | ((with_reducible refine wtd_K ?_ ?_); (· exact ⟨rfl, by decide⟩)) | ((with_reducible refine wtd_U ?_ ?_); (· exact ⟨rfl, by decide⟩)) | ((with_reducible refine wtd_C ?_ ?_); (· rfl)) | ((with_reducible refine wtd_A ?_ ?_ ?_); (· rfl); (· first | rfl | (apply fits_of; first | omega | (simp; omega)))) | ((with_reducible apply nrm_); (· (try simp only [wipeE, backE, List.set_cons_zero, List.set_cons_succ, List.getElem?_cons_zero, List.getElem?_cons_succ, List.cons_append, List.nil_append, List.replicate_succ, List.replicate_zero, Nat.reduceSub, unowns_nil, unowns_cons, unown_own, unown_val, unown_no, unown_ro]); rfl))))
local macro_rules | `(tactic| walk_at "vd") => `(tactic| (repeat' first | with_reducible refine we_callN ?_ | with_reducible refine vals_nil ?_ | with_reducible refine vals_v ?_ | with_reducible refine ws_retT ?_ | with_reducible refine wpu_nil ?_ | with_reducible refine wpu_seq ?_ | with_reducible refine wpu_ret ?_ | with_reducible refine wpu_if ?_ | with_reducible refine wtd_P ?_ | with_reducible refine wtd_G ?_ | with_reducible refine wtd_If ?_ | with_reducible refine ws_seq ?_ | with_reducible refine ws_expr ?_ | with_reducible refine ws_ret ?_ | with_reducible refine ws_retL ?_ | with_reducible refine ws_set ?_ | with_reducible refine ws_setO ?_ | with_reducible refine ws_asg ?_ | with_reducible refine ws_par ?_ | with_reducible refine two_ ?_ | with_reducible refine wc_nil ?_ | with_reducible refine wc_cons ?_ | with_reducible refine ws_nil ?_ | with_reducible refine ws_retN ?_ | with_reducible refine we_c ?_ | with_reducible refine we_un ?_ | with_reducible refine we_bin ?_ | with_reducible refine we_chain ?_ | with_reducible refine we_and ?_ | with_reducible refine we_or ?_ | with_reducible refine we_not ?_ | with_reducible refine we_if ?_ | with_reducible refine we_fz ?_ | with_reducible refine we_tup ?_ | with_reducible refine we_sl ?_ | with_reducible refine wp_no ?_ | with_reducible refine wp_e ?_ | with_reducible refine wl_nil ?_ | with_reducible refine wl_cons ?_ | with_reducible refine wl_lst ?_ | with_reducible refine wl_un ?_ | with_reducible refine wl_it ?_ | with_reducible refine wl_rng1 ?_ | with_reducible refine wl_rng2 ?_ | with_reducible refine wl_enum ?_ | with_reducible refine wl_enumA ?_ | with_reducible refine wl_addE ?_ | with_reducible refine wl_rg1 ?_ | with_reducible refine we_tupRg ?_ | with_reducible refine we_bor ?_ | with_reducible refine wl_bor ?_ | with_reducible refine wb_bor ?_ | with_reducible refine wo_isB ?_ | with_reducible refine wo_ntB ?_ | with_reducible refine wb_v ?_ | with_reducible refine wb_and ?_ | with_reducible refine wb_or ?_ | with_reducible refine wb_not ?_ | with_reducible refine wb_yes ?_ | with_reducible refine wt_n ?_ | with_reducible refine wts_nil ?_ | with_reducible refine wts_cons ?_ | with_reducible refine wa_nil ?_ | with_reducible refine wa_v ?_ | with_reducible refine we_call ?_ | with_reducible refine wl_call ?_ | with_reducible refine back_nil ?_ | with_reducible refine back_v ?_ | with_reducible refine back_o ?_ | with_reducible refine res_nil ?_ | with_reducible refine res_v ?_ | with_reducible refine ifb_not ?_ | with_reducible refine ifb_t ?_ | with_reducible refine ifb_f ?_ | with_reducible refine isb ?_ | with_reducible refine isi_ ?_ | with_reducible refine isl ?_ | with_reducible refine iss_l ?_ | with_reducible refine iss_t ?_ | with_reducible refine wo_add ?_ | with_reducible refine wo_sub ?_ | with_reducible refine wo_neg ?_ | with_reducible refine wo_lt ?_ | with_reducible refine wo_le ?_ | with_reducible refine wo_gt ?_ | with_reducible refine wo_ge ?_ | with_reducible refine wo_eq ?_ | with_reducible refine wo_ne ?_ | with_reducible refine wo_eqB ?_ | with_reducible refine wo_neB ?_ | with_reducible refine wo_isN ?_ | with_reducible refine wo_ntN ?_ | with_reducible refine wo_lenL ?_ | with_reducible refine wo_lenT ?_ | with_reducible refine wo_abs ?_ | with_reducible refine wo_intB ?_ | with_reducible refine wo_intI ?_ | with_reducible refine wo_listL ?_ | with_reducible refine wo_listT ?_ | with_reducible refine wo_tupL ?_ | with_reducible refine wo_tupT ?_ | with_reducible refine wo_max ?_ | with_reducible refine wo_min ?_ | with_reducible refine wo_isiI ?_ | with_reducible refine wo_isiB ?_ | with_reducible refine wo_cutL ?_ | with_reducible refine wo_cutT ?_ | with_reducible refine wo_p10_60 ?_ | with_reducible refine wo_p10_18 ?_ | with_reducible refine wo_p10_30 ?_ | with_reducible refine wo_p2_24 ?_ | with_reducible refine wo_p10_8 ?_ | with_reducible refine wo_p10_19 ?_ | with_reducible refine wo_p10_55 ?_ | with_reducible refine wo_p10_59 ?_ | with_reducible refine wo_p3_30 ?_ | with_reducible refine wo_p2_40 ?_ | with_reducible refine wo_p10_54 ?_ | with_reducible refine wo_p3_13 ?_ | with_reducible refine wo_p2_20 ?_ | with_reducible refine wo_p10_57 ?_ | with_reducible refine wo_p10_40 ?_ | with_reducible refine wo_p10_61 ?_ | with_reducible refine wo_p10_50 ?_ | ((with_reducible refine ifb_decT ?_ ?_); (· first | (with_reducible assumption) | omega | (simp only [List.length_cons, List.length_nil]; omega))) | ((with_reducible refine ifb_decF ?_ ?_); (· first | (with_reducible assumption) | omega | (simp only [List.length_cons, List.length_nil]; omega))) | ((with_reducible refine wo_eqT ?_ ?_); (· decide +kernel)) | ((with_reducible refine wo_eqF ?_ ?_); (· decide +kernel)) | ((with_reducible refine wo_neT ?_ ?_); (· decide +kernel)) | ((with_reducible refine wo_neF ?_ ?_); (· decide +kernel)) | with_reducible refine ifb_dec (fun _ => ?_) (fun _ => ?_) | ((with_reducible apply retT1); (· rfl)) | ((with_reducible apply retT2); (· rfl)) | ((with_reducible apply wl_addO); (· rfl)) | ((with_reducible apply ifb_eT); (· rfl)) | ((with_reducible apply ifb_eF); (· rfl)) | ((with_reducible apply we_v); (· rfl)) | ((with_reducible apply we_oV); (· rfl)) | ((with_reducible apply we_oW); (· rfl)) | ((with_reducible apply we_oR); (· rfl)) | ((with_reducible apply we_bV); (· rfl)) | ((with_reducible apply we_bVr); (· rfl)) | ((with_reducible apply we_bVv); (· rfl)) | ((with_reducible apply wa_r); (· rfl)) | ((with_reducible apply wa_oR); (· rfl)) | ((with_reducible apply wa_oO); (· rfl)) | ((with_reducible apply wa_oV); (· rfl)) | ((with_reducible apply back_r); (· rfl)) | ((with_reducible apply we_mut); (· rfl)) | ((with_reducible apply we_mut0); (· rfl)) | ((with_reducible apply ws_frz); (· rfl)) | ((with_reducible apply ws_frzV); (· rfl)) | ((with_reducible apply ws_retO); (· rfl)) | ((with_reducible apply ws_putI); (· rfl)) | ((with_reducible apply own_); (· rfl)) | ((with_reducible apply any_o); (· rfl)) | ((with_reducible apply any_r); (· rfl)) | ((with_reducible apply res_r); (· rfl)) | ((with_reducible apply res_oO); (· rfl)) | ((with_reducible apply res_oR); (· rfl)) | ((with_reducible apply res_oV); (· rfl)) | ((with_reducible apply wt_t); (· rfl)) | ((with_reducible apply wl_slO); (· rfl)) | ((with_reducible apply wl_slR); (· rfl)) | ((with_reducible apply wo_idxE); (· rfl)) | ((with_reducible apply wo_isiE); (· rfl)) | ((with_reducible apply wo_allE); (· rfl)) | ((with_reducible apply wo_anyE); (· rfl)) | ((with_reducible apply wo_ixE); (· rfl)) | ((with_reducible apply cg0); (· rfl)) | ((with_reducible apply ch0); (· rfl)) | ((with_reducible apply cg1); (· rfl); (· rfl)) | ((with_reducible apply ch1); (· rfl); (· rfl)) | ((with_reducible refine fit_ ?_ ?_); (· first | rfl | (apply fits_of; first | omega | (simp; omega)))) | ((with_reducible refine sml_ ?_ ?_ ?_); (· walk_at "sd"); (· walk_at "sd")) | ((with_reducible refine wo_mod ?_ ?_); (· walk_at "sd")) | ((with_reducible refine wo_div ?_ ?_ ?_); (· walk_at "sd"); (· walk_at "sd")) | ((with_reducible refine wo_mul ?_ ?_); (· first | exact mul_ok1 (by walk_at "sd") | exact mul_ok2 (by walk_at "sd") | exact mul_ok3 (by omega) (by omega))) | ((with_reducible refine wo_ix ?_ ?_ ?_); (· walk_at "sd"); (· walk_at "sd")) | ((with_reducible refine wo_app ?_ ?_); (· first | rfl | (apply fits_of; first | omega | (simp; omega)))) | ((with_reducible refine wo_ext ?_ ?_); (· first | rfl | (apply fits_of; first | omega | (simp; omega)))) | ((with_reducible refine wo_addL ?_ ?_); (· first | rfl | (apply fits_of; first | omega | (simp; omega)))) | ((with_reducible refine wo_addT ?_ ?_); (· first | rfl | (apply fits_of; first | omega | (simp; omega)))) | ((with_reducible refine wtd_K ?_ ?_); (· exact ⟨rfl, by decide⟩)) | ((with_reducible refine wtd_U ?_ ?_); (· exact ⟨rfl, by decide⟩)) | ((with_reducible refine wtd_C ?_ ?_); (· rfl)) | ((with_reducible refine wtd_A ?_ ?_ ?_); (· rfl); (· first | rfl | (apply fits_of; first | omega | (simp; omega)))) | ((with_reducible apply nrm_); (· (try simp only [wipeE, backE, List.set_cons_zero, List.set_cons_succ, List.getElem?_cons_zero, List.getElem?_cons_succ, List.cons_append, List.nil_append, List.replicate_succ, List.replicate_zero, Nat.reduceSub, unowns_nil, unowns_cons, unown_own, unown_val, unown_no, unown_ro]); rfl))))
local macro_rules | `(tactic| walk_at "nr") => `(tactic| ((with_reducible apply nrm_); (· (try simp only [wipeE, backE, List.set_cons_zero, List.set_cons_succ, List.getElem?_cons_zero, List.getElem?_cons_succ, List.cons_append, List.nil_append, List.replicate_succ, List.replicate_zero, Nat.reduceSub, unowns_nil, unowns_cons, unown_own, unown_val, unown_no, unown_ro]); rfl)))
local macro_rules | `(tactic| walk_at "nb") => `(tactic| simp only [wipeE, backE, List.set_cons_zero, List.set_cons_succ, List.getElem?_cons_zero, List.getElem?_cons_succ])
theorem whole_w {n : Int} {Q : D → List Sl → Prop} (q : ∀ x, Q (.bool true) [x]) : WG g__law_whole [.val (.int n)] Q := by
  refine wg_run rfl ?_
  unfold b__law_whole
  walk_at "vc"
  exact q _

theorem wo_idxLast {ds : List D} {d : D} {Q : D → Prop} (q : Q d) : WO (gIdx (.list (ds ++ [d])) (.int (-1))) Q := by
  refine ⟨d, ?_, q⟩
  unfold gIdx
  dsimp only
  unfold atI ixN
  rw [if_neg (by decide), if_pos (by rw [List.length_append]; show -(((ds.length + 1 : Nat)) : Int) ≤ -1; omega)]
  have : ((-1 : Int) + ((ds ++ [d]).length : Nat)).toNat = ds.length := by rw [List.length_append]; show ((-1 : Int) + ((ds.length + 1 : Nat) : Int)).toNat = ds.length; omega
  rw [this]
  simp
theorem numbers_w {a b m : Int} {Q : D → List Sl → Prop} (hm : 0 < m) (hm2 : m ≤ 10 ^ 60) (q : ∀ (ns : List Int) (a' b' : Int) x, ns.length ≤ 10 → (∀ n ∈ ns, -(10 ^ 62) ≤ n ∧ n ≤ 10 ^ 62) → Q (.list (ns.map .int)) [.own false [.int a', .int b'], x]) :
    WG g__law_numbers [.own false [.int a, .int b], .val (.int m)] Q := by
  refine wg_run rfl ?_
  unfold b__law_numbers
  (repeat' first | walk_at "v1" | ((with_reducible refine take_w ?_ ?_ fun _ _ _ _ _ _ => ?_); (· walk_at "sd"); (· walk_at "sd")))
  refine ws_forN (fun _ k e => ∃ (ns : List Int) (a b : Int) (x3 x4 x5 : Sl), ns.length = k ∧ (∀ n ∈ ns, -(10 ^ 62) ≤ n ∧ n ≤ 10 ^ 62) ∧ e = [.own false [.int a, .int b], .val (.int m), .own true (ns.map .int), x3, x4, x5]) ?_
  (repeat' first | walk_at "v1" | ((with_reducible refine take_w ?_ ?_ fun _ _ _ _ _ _ => ?_); (· walk_at "sd"); (· walk_at "sd")))
  refine ⟨⟨[], _, _, _, _, _, rfl, fun n h => (by cases h), rfl⟩, ?_, ?_⟩
  · rintro k d e hk hd ⟨ns, a, b, x3, x4, x5, rfl, hns, rfl⟩
    rw [irange_length] at hk
    have fin : ∀ {n : Int} {a b : Int} {x4 x5 : Sl} , -(10 ^ 62) ≤ n ∧ n ≤ 10 ^ 62 → ∃ (ns' : List Int) (a' b' : Int) (y3 y4 y5 : Sl), ns'.length = ns.length + 1 ∧ (∀ n ∈ ns', -(10 ^ 62) ≤ n ∧ n ≤ 10 ^ 62) ∧ [.own false [.int a, .int b], .val (.int m), .own true (ns.map .int ++ [.int n]), .val d, x4, x5] = [Sl.own false [.int a', .int b'], .val (.int m), .own true (ns'.map .int), y3, y4, y5] := fun {n a b x4 x5} h =>
      ⟨ns ++ [n], a, b, _, _, _, by simp, fun x hx => by
        rcases List.mem_append.mp hx with hx | hx
        · exact hns x hx
        · rw [List.mem_singleton] at hx; subst hx; exact h, by rw [List.map_append]; rfl⟩
    (repeat' first | walk_at "v1" | ((with_reducible refine mark_w ?_ ?_ fun _ _ _ _ _ _ => ?_); (· walk_at "sd"); (· walk_at "sd")) | ((with_reducible refine take_w ?_ ?_ fun _ _ _ _ _ _ => ?_); (· walk_at "sd"); (· walk_at "sd")))
    · rename_i u _ _ _ hu0 hu1
      have h1 := Int.mul_nonneg (show 0 ≤ m by omega) hu0
      have h2 := Int.mul_le_mul_of_nonneg_left (show u ≤ 3 by omega) (show 0 ≤ m by omega)
      exact fin (by omega)
    · rename_i n0 _ _ _ hn0 hn1 _ _ _ _ _ _ _ _ u _ _ _ hu0 hu1
      have h1 := Int.mul_nonneg (show 0 ≤ m by omega) (show 0 ≤ 1 + u by omega)
      have h2 := Int.mul_le_mul_of_nonneg_left (show 1 + u ≤ 8 by omega) (show 0 ≤ m by omega)
      exact fin (by omega)
    · rename_i n0 _ _ _ hn0 hn1 _ _ _ _ _ _ _ _ _
      refine wo_neInts (ys := []) ?_
      walk_at "vc"
      rcases ns.eq_nil_or_concat with rfl | ⟨L, l, rfl⟩
      · refine ifb_eT (by simp) ?_
        walk_at "vc"
        exact fin (n := n0) (by omega)
      · refine ifb_eF (by simp) ?_
        rw [List.concat_eq_append] at *
        rw [List.map_append, List.map_cons, List.map_nil]
        walk_at "vc"
        refine wo_idxLast ?_
        (repeat' first | walk_at "v1" | ((with_reducible refine take_w ?_ ?_ fun _ _ _ _ _ _ => ?_); (· walk_at "sd"); (· walk_at "sd")))
        rename_i u a4 b4 _ hu0 hu1
        have hl := hns l (by simp)
        have h1 := Int.emod_nonneg (l * u) (show m ≠ 0 by omega)
        have h2 := Int.emod_lt_of_pos (l * u) hm
        have hk' : L.length < 100 := by
          rw [List.length_append] at hk
          omega
        walk_at "vc"
        refine ⟨L ++ [l] ++ [l * u % m], _, _, _, _, _, by simp, fun x hx => ?_, by rw [List.map_append, List.map_append]; rfl⟩
        rcases List.mem_append.mp hx with hx | hx
        · exact hns x hx
        · rw [List.mem_singleton] at hx
          subst hx
          omega
    · rename_i n0 _ _ _ hn0 hn1 _ _ _ _ _ _ _ _ _
      exact fin (by omega)
  · rintro e ⟨ns, a, b, x3, x4, x5, hl, hns, rfl⟩
    rw [irange_length] at hl
    walk_at "vc"
    exact q ns _ _ _ (by omega) hns
structure Gs (m : Int) (ns : List Int) (g : Int) : Prop where
  pos : 0 < g
  dm : g ∣ m
  dn : ∀ n ∈ ns, g ∣ n
  all : ∀ d : Int, d ∣ m → (∀ n ∈ ns, d ∣ n) → d ∣ g
theorem Gs.uniq {m g h : Int} {ns ws : List Int} (x : Gs m ns g) (y : We m ns h ws) : g = h := Int.dvd_antisymm (by have := x.pos; omega) (by have := y.pos; omega) (y.all g x.dm x.dn) (x.all h y.dm y.dn)
theorem Gs.step {m g n g' : Int} {ns : List Int} (hm : 0 < m) (W : Gs m ns g) (G : IsG g (n % m) g') : Gs m (ns ++ [n]) g' := by
  have en : n = n % m + m * (n / m) := by have := Int.mul_ediv_add_emod n m; omega
  have hgm := Int.dvd_trans G.da W.dm
  refine ⟨?_, hgm, fun x hx => ?_, fun d d1 d2 => ?_⟩
  · rcases Int.lt_or_eq_of_le G.pos with h | h
    · exact h
    · rw [← h] at hgm
      have := Int.zero_dvd.mp hgm
      omega
  · rcases List.mem_append.mp hx with hx | hx
    · exact Int.dvd_trans G.da (W.dn x hx)
    · rw [List.mem_singleton] at hx
      subst hx
      rw [en]
      exact Int.dvd_add G.db (Int.dvd_mul_of_dvd_left hgm)
  · refine G.all d (W.all d d1 fun x hx => d2 x (List.mem_append_left _ hx)) ?_
    have := d2 n (by simp)
    have e : n % m = n - m * (n / m) := by omega
    rw [e]
    exact Int.dvd_sub this (Int.dvd_mul_of_dvd_left d1)
theorem right_w {m : Int} {ns : List Int} {Q : D → List Sl → Prop} (hm : 0 < m) (hm2 : m ≤ 10 ^ 60) (hl : ns.length ≤ 10) (hns : ∀ n ∈ ns, -(10 ^ 62) ≤ n ∧ n ≤ 10 ^ 62) (q : ∀ x y, Q (.bool true) [x, y]) :
    WG g__law_right [.val (.int m), .val (.list (ns.map .int))] Q := by
  have hW : WG g_weights_of [.val (.int m), .val (.list (ns.map .int))] fun d _ => ∃ g ws, We m ns g ws ∧ d = .tuple [.int g, .list (ws.map .int)] := weights_w hm (by omega) (by omega) fun g ws x y W => ⟨g, ws, W, rfl⟩
  obtain ⟨d0, a0, he, g, ws, W, rfl⟩ := hW
  refine wg_run rfl ?_
  unfold b__law_right
  walk_at "vc"
  refine ws_for (fun _ rs e => ∃ (done rest : List Int) (g : Int) (x3 : Sl), ns = done ++ rest ∧ rs = rest.map .int ∧ Gs m done g ∧ (x3 = .no ∨ ∃ v, x3 = .val (.int v)) ∧ e = [.val (.int m), .val (.list (ns.map .int)), .val (.int g), x3, .no, .no, .no, .no]) ?_
  walk_at "vc"
  refine ⟨⟨[], ns, m, _, rfl, rfl, ⟨hm, Int.dvd_refl _, fun n h => (by cases h), fun d h _ => h⟩, .inl rfl, rfl⟩, ?_, ?_⟩
  · clear W he
    rintro d rs e ⟨done, rest, g, x3, rfl, hr, W, _, rfl⟩
    cases rest with
    | nil => cases hr
    | cons n rest =>
      cases hr
      have h0 := Int.emod_nonneg n (show m ≠ 0 by omega)
      have h1 := Int.emod_lt_of_pos n hm
      have h2 := Int.le_of_dvd hm W.dm
      have h3 := W.pos
      have hp : g * (n % m) < 2 ^ 240 * 2 ^ 240 * 2 ^ 220 := by
        have := mul_le2 (show 0 ≤ g by omega) h0 (show g ≤ 10 ^ 60 by omega) (show n % m ≤ 10 ^ 60 by omega)
        omega
      walk_at "vc"
      refine lcommon_w (by omega) h0 hp fun g' x y G => ?_
      walk_at "vc"
      exact ⟨done ++ [n], rest, g', _, by simp, rfl, W.step hm G, .inr ⟨n, rfl⟩, rfl⟩
  · rintro e ⟨done, rest, g', x3, rfl, hr, W', hx3, rfl⟩
    cases rest with
    | cons _ _ => cases hr
    | nil =>
      rw [List.append_nil] at *
      have := W'.uniq W
      subst this
      have hg := W.pos
      have hgm := Int.le_of_dvd hm W.dm
      have hz : ((List.zipWith (fun w n => w * n) ws done).sum - g') % m = 0 := by
        have := dot_sum 1 ws done
        simp only [Int.mul_one] at this
        rw [this]
        exact Int.emod_eq_zero_of_dvd W.dot
      have hlw : (ws.map PyData.int).length ≤ 10 := by rw [List.length_map, W.len]; exact hl
      have hlen : ((ws.map PyData.int).length : Int) = ((done.map PyData.int).length : Int) := by rw [List.length_map, List.length_map, W.len]
      walk_at "vc"
      refine ws_told ?_
      walk_at "vc"
      refine ⟨rfl, by simp, ?_⟩
      walk_at "vc"
      refine wk_of (Q := fun d _ => d = .tuple [.int g', .list (ws.map .int)]) ⟨_, _, he, rfl⟩ weights_nr (fun d e h1 h2 => ?_) fun as ds e h => ?_
      · subst h1
        rcases h2 with h2 | h2
        · exact h2.elim
        · cases h2
      injection h with h
      obtain ⟨rfl, h3⟩ := List.append_inj' (t₁ := [PyData.list ds]) (s₂ := [PyData.int g']) (t₂ := [PyData.list (ws.map .int)]) h rfl
      injection h3 with h3
      injection h3 with h3
      subst h3
      walk_at "vc"
      refine wo_neInts ?_
      walk_at "vc"
      refine whole_w fun _ => ?_
      walk_at "vc"
      refine wl_compP (fun _ _ => true) (fun _ _ => .bool true) ?_
      walk_at "vc"
      refine ⟨rfl, fits_of (by rw [List.length_map, W.len]; omega), fun d hd => ?_, ?_⟩
      · obtain ⟨w, hw, rfl⟩ := List.mem_map.mp hd
        walk_at "vc"
        exact ⟨rfl, by walk_at "vc"; exact whole_w fun _ => by walk_at "vc"; exact ⟨rfl, rfl⟩⟩
      rw [filter_yes]
      walk_at "vc"
      refine wo_allM (p := fun _ => true) ?_
      walk_at "vc"
      refine ifb_eT (by simp) ?_
      walk_at "vc"
      refine wl_compP (fun _ _ => true) (fun _ => mapT fun w n => w * n) ?_
      refine wl_zip ?_
      walk_at "vc"
      refine ⟨_, _, .inl ⟨rfl, rfl⟩, by rcases hx3 with rfl | ⟨v, rfl⟩ <;> rfl, fits_of ?_, fun d hd => ?_, ?_⟩
      · rw [pairs_ints, List.length_map, List.length_zip]
        omega
      · rw [pairs_ints] at hd
        obtain ⟨⟨w, n⟩, h1, rfl⟩ := List.mem_map.mp hd
        have h2 := W.rng w (List.of_mem_zip h1).1
        have h3 := hns n (List.of_mem_zip h1).2
        walk_at "vc"
        exact ⟨rfl, by walk_at "vc"; exact ⟨rfl, rfl⟩⟩
      · rw [filter_yes, mapT_pairs]
        walk_at "vc"
        refine wo_sum rfl ?_
        walk_at "nb"
        walk_at "vc"
        refine wg_eq he ?_
        walk_at "vc"
        refine wo_eqR ((lay_tup (n := 1) fun d hd => ?_).shp (by omega)) ?_
        · simp only [List.mem_cons, List.not_mem_nil, or_false] at hd
          rcases hd with rfl | rfl
          · exact lay_int _
          · exact lay_ints _
        exact q _ _
      · exact absurd rfl (by assumption)
theorem law_true : ∀ ns : List Int, ns.length ≤ 63 → ∃ args', g_law [.ro (ns.map .int)] = some (.bool true, args') := by
  intro ns hl
  suffices h : WG g_law [.ro (ns.map .int)] (fun d _ => d = .bool true) by
    obtain ⟨d, a, e, rfl⟩ := h
    exact ⟨a, e⟩
  refine wg_run rfl ?_
  unfold b_law
  walk_at "vc"
  refine cells_w (m := 8) (by omega) (by omega) fun cs x y hc => ?_
  walk_at "vc"
  refine ws_for (fun _ rs e => (∀ d ∈ rs, ∃ k : Int, d = .int k ∧ 0 ≤ k ∧ k ≤ 63) ∧ ∃ x2 x3 x4 x5 : Sl, e = [.ro (ns.map .int), .val (.list (cs.map .int)), x2, x3, x4, x5]) ?_
  walk_at "vc"
  · refine ⟨⟨fun d hd => ?_, _, _, _, _, rfl⟩, ?_, ?_⟩
    · obtain ⟨i, rfl, h1, h2⟩ := irange_zero hd
      rw [List.length_map] at h2
      exact ⟨i, rfl, h1, by split at h2 <;> omega⟩
    · rintro d rs e ⟨h, x2, x3, x4, x5, rfl⟩
      obtain ⟨k, rfl, hk0, hk1⟩ := h d List.mem_cons_self
      (repeat' first | walk_at "v1" | ((with_reducible refine pool_w ?_ ?_ ?_ fun _ _ _ _ => ?_); (· walk_at "sd"); (· walk_at "sd"); (· walk_at "sd")) | ((with_reducible refine dial_w fun _ _ _ _ _ => ?_); skip))
      rename_i a0 b0 _ _ m a1 b1 hm0 hm1
      refine ws_for (fun _ rs e => ∃ (a b : Int) (x5 : Sl), e = [.ro (ns.map .int), .val (.list (cs.map .int)), .val (.int k), .own true [.int a, .int b], .val (.int m), x5]) ?_
      walk_at "vc"
      refine ⟨⟨_, _, _, rfl⟩, ?_, ?_⟩
      · rintro d rs e ⟨a, b, x5, rfl⟩
        walk_at "vc"
        refine numbers_w (by omega) (by omega) fun nn a' b' _ h1 h2 => ?_
        walk_at "vc"
        refine right_w (by omega) (by omega) h1 h2 fun _ _ => ?_
        walk_at "vc"
        exact ⟨_, _, _, rfl⟩
      · rintro e ⟨a, b, x5, rfl⟩
        exact ⟨fun d hd => h d (List.mem_cons_of_mem _ hd), _, _, _, _, rfl⟩
    · rintro e ⟨h, x2, x3, x4, x5, rfl⟩
      walk_at "vc"
      rfl

end Lw

theorem PySem.Challenge.cw_dialdoubt_k10_weights_told_holds : PySem.Challenge.rw_dialdoubt_k10_weights_told.Holds :=
  Lw.walked Lw.law_true
