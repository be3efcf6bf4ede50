import PyProof.Rows.All
import HandS.Conv
import HandS.Deep
import HandS.ExcBuiltin
import HandS.ExcInit
import HandS.ExcIs
import HandS.ExcOwn
import HandS.ForMost
import HandS.IsInst
import HandS.More
import HandS.Replace
import HandS.SetFor
import HandS.Strs
import HandS.Style
import HandS.Text
import HandS.TupAny
import HandS.Walk
import HandS.Wide
import HandS.WordsExc
import HandS.Zip
import KE.DataFind
import KE.DataMinMax
import KE.DatumIndex
import KE.DatumOrd
import KE.GoesEnum
import KE.GoesMore
import KE.GoesZip
import KE.KDictDisplayH
import KE.KDictKeyed
import KE.KExcIs
import KE.KTurns
import KE.KeyNested
import KE.KxIndex
import KE.SortData
import OpenK.AllK
import PyProof.ListStr
import PyProof.Rows.SetFrom
import Wide.All
import Wide.FinOn
import HandS.NoneIn
import HandS.Dict
import HandS.SortKw
import KE.GoesRaise
import PySem.Challenge.RW_dialdoubt_k52_hands_that_there_are_none
set_option Elab.async false
set_option linter.all false
set_option maxRecDepth 100000
set_option maxHeartbeats 4000000
namespace Lw
open PySem PySem.W PyProof.Rows
set_option maxHeartbeats 0 in
open_top wrap for PySem.Challenge.rw_dialdoubt_k52_hands_that_there_are_none
end Lw
namespace M
open PySem PySem.Spec PyProof.Rows L2

abbrev D := PyData
abbrev Frg := PySem.W.Frag
/-- a slot: nothing; a value that never changes; a list that this def may change (l: made here; else handed in); a list that is read only; a dict made here (w: by whose hashes) -/
inductive Sl where
  | no | val (d : D) | own (l : Bool) (ds : List D) | ro (ds : List D) | dct (w : World) (kvs : List (D × D))
abbrev En := List Sl

/-! ### values in a frozen heap -/
/-- a caught exception at a: of the class at C, its own dict at d -/
def ExV (C : Addr) (d : Option Addr) (a : Addr) : HO := .ext fun h => ∃ (oe : Obj) (vs : Array Value), h.get? a = some oe ∧ Zc (.ref C) d oe ∧ oe.data = .fields vs
/-! dicts: by their entries (hash, key, value) -/
def EntR (e : Int × V × V) (x : DictEntry) : Prop := x.hash = e.1 ∧ RelV e.2.1 x.key ∧ RelV e.2.2 x.val
abbrev DicO (a : Addr) (es : List (Int × V × V)) : HO := .ext fun h => ∃ (o : Obj) (xs : Array DictEntry) (ep : Nat), h.get? a = some o ∧ o.ExactDict ∧ o.data = .dict xs ep ∧ (a == sysModules) = false ∧ Paired EntR es xs.toList
mutual
inductive Dt (F : Hp) : V → D → Prop
  | non : Dt F .non .none
  | bl (b : Bool) : Dt F (.bl b) (.bool b)
  | int (i : Int) : Dt F (.int i) (.int i)
  | str (x : Str) : Dt F (.str x) (.str x)
  | lst {a : Addr} {xs : List V} {ds : List D} : F a = some (.lst xs) → Da F xs ds → Dt F (.ref a) (.list ds)
  | tup {a : Addr} {xs : List V} {ds : List D} : F a = some (.tup xs) → Da F xs ds → Dt F (.ref a) (.tuple ds)
  | xc {a C : Addr} : F a = some (ExV C none a) → Dt F (.ref a) (.dict [(.int (C : Int), .none)])
  | xf {a C dd : Addr} {f : Str} {z : Int} : F a = some (ExV C (some dd) a) → F dd = some (.xd [(f, .int z)]) → Dt F (.ref a) (.dict [(.int (C : Int), .tuple [.str f, .int z])])
  | dic {a : Addr} {od : Obj} {es : List (Int × V × V)} {ks vs : List D} : F a = some (.frz od (DicO a es)) → Da F (es.map (·.2.1)) ks → Da F (es.map (·.2.2)) vs → Dt F (.ref a) (.dict [(.none, .list ks), (.list vs, .list (es.map fun e => .int e.1))])
inductive Da (F : Hp) : List V → List D → Prop
  | nil : Da F [] []
  | cons {v : V} {vs : List V} {d : D} {ds : List D} : Dt F v d → Da F vs ds → Da F (v :: vs) (d :: ds)
end
theorem Dt.mono {F F' : Hp} (e : Same F F') (d : D) (v : V) (h : Dt F v d) : Dt F' v d :=
  Dt.rec (motive_1 := fun v d _ => Dt F' v d) (motive_2 := fun vs ds _ => Da F' vs ds) .non .bl .int .str (fun s _ a => .lst (e _ _ s) a) (fun s _ a => .tup (e _ _ s) a) (fun s => .xc (e _ _ s)) (fun s1 s2 => .xf (e _ _ s1) (e _ _ s2)) (fun s _ _ a b => .dic (e _ _ s) a b) .nil (fun _ _ a b => .cons a b) h
theorem Da.mono {F F' : Hp} (e : Same F F') (ds : List D) (vs : List V) (h : Da F vs ds) : Da F' vs ds :=
  Da.rec (motive_1 := fun v d _ => Dt F' v d) (motive_2 := fun vs ds _ => Da F' vs ds) .non .bl .int .str (fun s _ a => .lst (e _ _ s) a) (fun s _ a => .tup (e _ _ s) a) (fun s => .xc (e _ _ s)) (fun s1 s2 => .xf (e _ _ s1) (e _ _ s2)) (fun s _ _ a b => .dic (e _ _ s) a b) .nil (fun _ _ a b => .cons a b) h
mutual
def nd : D → Bool
  | .none => true
  | .bool _ => true
  | .int _ => true
  | .str _ => true
  | .list ds => ndA ds
  | .tuple ds => ndA ds
  | .dict _ => false
def ndA : List D → Bool
  | [] => true
  | d :: ds => nd d && ndA ds
end
theorem ndA_cons {d : D} {ds : List D} (h : ndA (d :: ds) = true) : nd d = true ∧ ndA ds = true := by
  unfold ndA at h
  exact Bool.and_eq_true_iff.mp h
mutual
theorem nd_can : ∀ d : D, d.canLay0 = true → nd d = true
  | .none, _ => by unfold nd; rfl
  | .bool _, _ => by unfold nd; rfl
  | .int _, _ => by unfold nd; rfl
  | .str _, _ => by unfold nd; rfl
  | .list ds, h => by unfold nd; exact ndA_can ds (by unfold PyData.canLay0 at h; exact h)
  | .tuple ds, h => by unfold nd; exact ndA_can ds (by unfold PyData.canLay0 at h; exact h)
  | .dict _, h => by unfold PyData.canLay0 at h; cases h
theorem ndA_can : ∀ ds : List D, PyData.canLayAll0 ds = true → ndA ds = true
  | [], _ => by unfold ndA; rfl
  | d :: ds, h => by
    unfold PyData.canLayAll0 at h
    obtain ⟨h1, h2⟩ := Bool.and_eq_true_iff.mp h
    unfold ndA
    rw [nd_can d h1, ndA_can ds h2]; rfl
end
theorem nd_sh {d : D} (h : SeqAt.shaped d = true) : nd d = true := nd_can d (Bool.and_eq_true_iff.mp h).1
theorem ndA_sh {ds : List D} (h : SeqAt.shaped (.list ds) = true) : ndA ds = true := by
  have := nd_sh h
  unfold nd at this
  exact this
mutual
theorem Dt.dp {K : Frg} {F : Hp} : ∀ (d : D) (v : V), nd d = true → Dt F v d → Dp K F v d
  | .none, _, _, h => by cases h; exact .non
  | .bool _, _, _, h => by cases h; exact .bl _
  | .int _, _, _, h => by cases h; exact .int _
  | .str _, _, _, h => by cases h; exact .str _
  | .list ds, _, n, h => by
    cases h with
    | lst s a => exact .lst (SqL.of s) (Da.dp ds _ (by unfold nd at n; exact n) a)
  | .tuple ds, _, n, h => by
    cases h with
    | tup s a => exact .tup (SqT.of s) (Da.dp ds _ (by unfold nd at n; exact n) a)
  | .dict _, _, n, h => by unfold nd at n; cases n
theorem Da.dp {K : Frg} {F : Hp} : ∀ (ds : List D) (vs : List V), ndA ds = true → Da F vs ds → DpAll K F vs ds
  | [], _, _, h => by cases h; exact .nil
  | d :: ds, _, n, h => by
    cases h with
    | cons h1 h2 => exact .cons (Dt.dp d _ (ndA_cons n).1 h1) (Da.dp ds _ (ndA_cons n).2 h2)
end
theorem Da.length {F : Hp} : ∀ {ds : List D} {vs : List V}, Da F vs ds → vs.length = ds.length
  | [], _, h => by cases h; rfl
  | d :: ds, _, h => by
    cases h with
    | cons h1 h2 => simp [Da.length h2]
theorem Da.append {F : Hp} : ∀ {ds es : List D} {vs us : List V}, Da F vs ds → Da F us es → Da F (vs ++ us) (ds ++ es)
  | [], _, _, _, h, h' => by cases h; exact h'
  | d :: ds, _, _, _, h, h' => by
    cases h with
    | cons h1 h2 => exact .cons h1 (Da.append h2 h')
theorem Da.get {F : Hp} : ∀ {ds : List D} {vs : List V} {i : Nat} {d : D}, Da F vs ds → ds[i]? = some d → ∃ v, vs[i]? = some v ∧ Dt F v d
  | [], _, _, _, _, e => by simp at e
  | d :: ds, _, 0, _, h, e => by
    cases h with
    | cons h1 h2 => simp at e; subst e; exact ⟨_, rfl, h1⟩
  | d :: ds, _, i + 1, _, h, e => by
    cases h with
    | cons h1 h2 =>
      obtain ⟨v, h3, h4⟩ := Da.get (i := i) h2 (by simpa using e)
      exact ⟨v, by simpa using h3, h4⟩
theorem Da.get' {F : Hp} {ds : List D} {vs : List V} {i : Nat} {v : V} (h : Da F vs ds) (e : vs[i]? = some v) : ∃ d, ds[i]? = some d ∧ Dt F v d := by
  have hi : i < vs.length := (List.getElem?_eq_some_iff.mp e).1
  have hj : i < ds.length := by rw [← h.length]; exact hi
  obtain ⟨u, h1, h2⟩ := h.get (List.getElem?_eq_getElem hj)
  rw [e] at h1; cases h1
  exact ⟨_, List.getElem?_eq_getElem hj, h2⟩
theorem Da.of {F : Hp} : ∀ {ds : List D} {vs : List V}, vs.length = ds.length → (∀ (i : Nat) v d, vs[i]? = some v → ds[i]? = some d → Dt F v d) → Da F vs ds
  | [], [], _, _ => .nil
  | [], _ :: _, h, _ => by simp at h
  | _ :: _, [], h, _ => by simp at h
  | d :: ds, v :: vs, h, g => .cons (g 0 v d rfl rfl) (Da.of (by simpa using h) fun i u e h1 h2 => g (i + 1) u e (by simpa using h1) (by simpa using h2))
theorem Da.pick {F : Hp} {ds es : List D} {vs us : List V} (h : Da F vs ds) (hl : us.length = es.length) (g : ∀ (i : Nat) v d, us[i]? = some v → es[i]? = some d → ∃ j : Nat, vs[j]? = some v ∧ ds[j]? = some d) : Da F us es :=
  Da.of hl fun i v d h1 h2 => by
    obtain ⟨j, e1, e2⟩ := g i v d h1 h2
    obtain ⟨d', e, q⟩ := h.get' e1
    rw [e2] at e; cases e; exact q
theorem Da.take {F : Hp} {ds : List D} {vs : List V} (h : Da F vs ds) (n : Nat) : Da F (vs.take n) (ds.take n) :=
  h.pick (by simp [h.length]) fun i v d h1 h2 => by
    rw [List.getElem?_take] at h1 h2
    split at h1
    · rename_i hn
      rw [if_pos hn] at h2
      exact ⟨i, h1, h2⟩
    · cases h1
theorem Da.drop {F : Hp} {ds : List D} {vs : List V} (h : Da F vs ds) (n : Nat) : Da F (vs.drop n) (ds.drop n) :=
  h.pick (by simp [h.length]) fun i v d h1 h2 => by
    rw [List.getElem?_drop] at h1 h2
    exact ⟨n + i, h1, h2⟩
theorem Da.set {F : Hp} {ds : List D} {vs : List V} {d : D} {v : V} (h : Da F vs ds) (q : Dt F v d) (n : Nat) : Da F (vs.set n v) (ds.set n d) := by
  refine Da.of (by simp [h.length]) fun i v' d' h1 h2 => ?_
  by_cases hi : n = i
  · subst hi
    have l1 : n < vs.length := by have := (List.getElem?_eq_some_iff.mp h1).1; simpa using this
    have l2 : n < ds.length := by rw [← h.length]; exact l1
    rw [List.getElem?_set_self l1] at h1
    rw [List.getElem?_set_self l2] at h2
    cases h1; cases h2; exact q
  · rw [List.getElem?_set_ne hi] at h1 h2
    obtain ⟨d2, e, q'⟩ := h.get' h1
    rw [h2] at e; cases e; exact q'
/-- a def's frame: what is frozen and what stands at its entry; the pinned objects; the slots at entry -/
structure Gm where
  F0 : Hp
  H0 : Hp
  P : Hp
  R : Hp
  s0 : L2.St

mutual
def nkOf : D → Option NestedKey
  | .none => some .none
  | .bool b => some (.num (if b then 1 else 0))
  | .int i => some (.num i)
  | .str x => some (.text x)
  | .tuple ds => (nkAll ds).map .tup
  | .list _ => none
  | .dict _ => none
def nkAll : List D → Option (List NestedKey)
  | [] => some []
  | d :: ds => (nkOf d).bind fun k => (nkAll ds).map fun ks => k :: ks
end
def EntOk (F : Hp) (w : World) (e : Int × V × V) (p : D × D) : Prop := (∃ nk, nkOf p.1 = some nk ∧ e.1 = nk.hash w) ∧ Dt F e.2.1 p.1 ∧ Dt F e.2.2 p.2
structure EntsOk (F : Hp) (w : World) (es : List (Int × V × V)) (kvs : List (D × D)) : Prop where
  all : Paired (EntOk F w) es kvs
  nd : (kvs.map fun p => nkOf p.1).Nodup
  le : kvs.length ≤ sizeLine
theorem EntsOk.mono {F F' : Hp} (e : Same F F') {w : World} {es : List (Int × V × V)} {kvs : List (D × D)} (h : EntsOk F w es kvs) : EntsOk F' w es kvs where
  all := by
    have : ∀ {es : List (Int × V × V)} {kvs : List (D × D)}, Paired (EntOk F w) es kvs → Paired (EntOk F' w) es kvs := fun {es kvs} h => by
      induction h with
      | nil => exact .nil
      | cons r _ ih => exact .cons ⟨r.1, Dt.mono e _ _ r.2.1, Dt.mono e _ _ r.2.2⟩ ih
    exact this h.all
  nd := h.nd
  le := h.le
structure DcOk (G : Gm) (F : Hp) (env : En) (s : L2.St) (H : Hp) : Prop where
  at' : ∀ (i : Nat) w kvs, env[i]? = some (.dct w kvs) → ∃ a es, s[i]? = some (some (.ref a)) ∧ H a = some (DicO a es) ∧ F a = none ∧ G.P a = none ∧ G.H0 a = none ∧ EntsOk F w es kvs
  sep : ∀ (i j : Nat) w kvs w' kvs', env[i]? = some (.dct w kvs) → env[j]? = some (.dct w' kvs') → s[i]? = s[j]? → i = j
theorem DcOk.move {G G' : Gm} {F F' : Hp} {env env' : En} {s s' : L2.St} {H H' : Hp} (k : DcOk G F env s H) (hF : Same F F') (he : ∀ (i : Nat) w kvs, env'[i]? = some (.dct w kvs) → env[i]? = some (.dct w kvs) ∧ s'[i]? = s[i]?)
    (hH : ∀ a es, H a = some (DicO a es) → F a = none → G.P a = none → G.H0 a = none → (∃ (i : Nat) (w : World) (kvs : List (D × D)), env[i]? = some (.dct w kvs) ∧ s[i]? = some (some (.ref a))) → H' a = some (DicO a es) ∧ F' a = none ∧ G'.P a = none ∧ G'.H0 a = none) : DcOk G' F' env' s' H' where
  at' := fun i w kvs e => by
    obtain ⟨e1, e2⟩ := he i w kvs e
    obtain ⟨a, es, h1, h2, h3, h4, h5, h6⟩ := k.at' i w kvs e1
    obtain ⟨g2, g3, g4, g5⟩ := hH a es h2 h3 h4 h5 ⟨i, w, kvs, e1, h1⟩
    exact ⟨a, es, e2.trans h1, g2, g3, g4, g5, h6.mono hF⟩
  sep := fun i j w kvs w' kvs' e1 e2 e3 => by
    obtain ⟨f1, f2⟩ := he i w kvs e1
    obtain ⟨f3, f4⟩ := he j w' kvs' e2
    exact k.sep i j _ _ _ _ f1 f3 (f2.symm.trans (e3.trans f4))
/-- nothing but the slots changes -/
theorem DcOk.slots {G : Gm} {F : Hp} {env env' : En} {s s' : L2.St} {H : Hp} (k : DcOk G F env s H) (he : ∀ (i : Nat) w kvs, env'[i]? = some (.dct w kvs) → env[i]? = some (.dct w kvs) ∧ s'[i]? = s[i]?) : DcOk G F env' s' H :=
  k.move (fun _ _ e => e) he fun a es h1 h2 h3 h4 _ => ⟨h1, h2, h3, h4⟩
structure Ok (K : Frg) (G : Gm) (F : Hp) (env : En) (s : L2.St) (H : Hp) : Prop where
  len : s.length = env.length
  fr : Same F H
  val : ∀ (i : Nat) d, env[i]? = some (.val d) → ∃ v, s[i]? = some (some v) ∧ Dt F v d
  own : ∀ (i : Nat) l ds, env[i]? = some (.own l ds) → ∃ a vs, s[i]? = some (some (.ref a)) ∧ H a = some (.lst vs) ∧ F a = none ∧ G.P a = none ∧ Da F vs ds ∧ (l = true → G.H0 a = none) ∧ (l = false → G.s0[i]? = some (some (.ref a)))
  ro : ∀ (i : Nat) ds, env[i]? = some (.ro ds) → ∃ a vs, s[i]? = some (some (.ref a)) ∧ SqL K G.R a vs ∧ Da F vs ds
  sep : ∀ (i j : Nat) l ds m es, env[i]? = some (.own l ds) → env[j]? = some (.own m es) → s[i]? = s[j]? → i = j
  pin : Same G.P H
  dom : ∀ a, H a = none → G.H0 a = none
  grow : Same G.F0 F
  new : ∀ a o, F a = some o → G.F0 a = some o ∨ G.H0 a = none
  rin : Same G.R G.P
  dct : DcOk G F env s H

theorem same_upd {F : Hp} {p : Addr} {o : HO} (h : F p = none) : Same F (upd F p o) := fun b x e => by
  rw [upd_ne (ne_of_none e h)]
  exact e
theorem same_laid {F H : Hp} {p : Addr} {o : HO} (e : Same F H) (hp : H p = none) : Same F (upd H p o) := fun a u q => by
  have := e a u q
  rw [upd_ne (ne_of_none this hp)]; exact this

section
variable {K : Frg} {G : Gm} {F : Hp} {env : En} {s : L2.St} {H : Hp} {p : Addr} {o : HO}
/-- a new object, not frozen -/
theorem Ok.laid (k : Ok K G F env s H) (hp : H p = none) : Ok K G F env s (upd H p o) where
  len := k.len
  fr := same_laid k.fr hp
  val := k.val
  own := fun i l ds e => by
    obtain ⟨a, vs, h1, h2, h3⟩ := k.own i l ds e
    exact ⟨a, vs, h1, by rw [upd_ne (ne_of_none h2 hp)]; exact h2, h3⟩
  ro := k.ro
  sep := k.sep
  pin := same_laid k.pin hp
  dom := fun a e => by
    by_cases h : a = p
    · subst h; rw [upd_same] at e; cases e
    · rw [upd_ne h] at e; exact k.dom a e
  grow := k.grow
  new := k.new
  rin := k.rin
  dct := k.dct.move (fun _ _ e => e) (fun _ _ _ e => ⟨e, rfl⟩) fun a es h1 h2 h3 h4 _ => ⟨by rw [upd_ne (ne_of_none h1 hp)]; exact h1, h2, h3, h4⟩
theorem Ok.notdct (k : Ok K G F env s H) {q : HO} (hp : H p = some q) (hq : ∀ es, q ≠ DicO p es) : ∀ (j : Nat) w kvs, env[j]? = some (.dct w kvs) → s[j]? ≠ some (some (.ref p)) := fun j w kvs e z => by
  obtain ⟨a, es, h1, h2, _⟩ := k.dct.at' j w kvs e
  rw [z] at h1
  cases h1
  rw [hp] at h2
  exact hq es (Option.some.inj h2)
theorem Ok.notdctL (k : Ok K G F env s H) {vs : List V} (hp : H p = some (.lst vs)) : ∀ (j : Nat) w kvs, env[j]? = some (.dct w kvs) → s[j]? ≠ some (some (.ref p)) := k.notdct hp fun _ h => nomatch h
theorem Ok.notdctT (k : Ok K G F env s H) {vs : List V} (hp : H p = some (.tup vs)) : ∀ (j : Nat) w kvs, env[j]? = some (.dct w kvs) → s[j]? ≠ some (some (.ref p)) := k.notdct hp fun _ h => nomatch h
theorem Ok.notdctN (k : Ok K G F env s H) (hp : H p = none) : ∀ (j : Nat) w kvs, env[j]? = some (.dct w kvs) → s[j]? ≠ some (some (.ref p)) := fun j w kvs e z => by
  obtain ⟨a, es, h1, h2, _⟩ := k.dct.at' j w kvs e
  rw [z] at h1
  cases h1
  rw [hp] at h2; cases h2
/-- freezing -/
theorem Ok.freeze (k : Ok K G F env s H) (h1 : H p = some o) (h2 : F p = none) (h3 : G.H0 p = none) (h4 : ∀ (j : Nat) l es, env[j]? = some (.own l es) → s[j]? ≠ some (some (.ref p))) (h5 : ∀ (j : Nat) w kvs, env[j]? = some (.dct w kvs) → s[j]? ≠ some (some (.ref p))) : Ok K G (upd F p o) env s H where
  len := k.len
  fr := fun a u e => by
    by_cases h : a = p
    · subst h; rw [upd_same] at e; rw [h1]; exact e
    · rw [upd_ne h] at e; exact k.fr a u e
  val := fun i d e => by
    obtain ⟨v, q1, q2⟩ := k.val i d e
    exact ⟨v, q1, Dt.mono (same_upd h2) d v q2⟩
  own := fun i l ds e => by
    obtain ⟨a, us, q1, q2, q3, q4, q5, q6⟩ := k.own i l ds e
    have ne : a ≠ p := fun z => by subst z; exact h4 i l ds e q1
    exact ⟨a, us, q1, q2, by rw [upd_ne ne]; exact q3, q4, Da.mono (same_upd h2) ds us q5, q6⟩
  ro := fun i ds e => by
    obtain ⟨a, us, q1, q2, q3⟩ := k.ro i ds e
    exact ⟨a, us, q1, q2, Da.mono (same_upd h2) ds us q3⟩
  sep := k.sep
  pin := k.pin
  dom := k.dom
  grow := k.grow.trans (same_upd h2)
  new := fun a u e => by
    by_cases h : a = p
    · subst h; exact .inr h3
    · rw [upd_ne h] at e; exact k.new a u e
  rin := k.rin
  dct := k.dct.move (same_upd h2) (fun _ _ _ e => ⟨e, rfl⟩) fun a es g1 g2 g3 g4 ⟨i, w, kvs, g5, g6⟩ => ⟨g1, by
    have ne : a ≠ p := fun z => by subst z; exact h5 i w kvs g5 g6
    rw [upd_ne ne]; exact g2, g3, g4⟩
theorem Ok.notown (k : Ok K G F env s H) (hp : H p = none) : ∀ (j : Nat) l es, env[j]? = some (.own l es) → s[j]? ≠ some (some (.ref p)) := fun j l es e z => by
  obtain ⟨a, vs, h1, h2, _⟩ := k.own j l es e
  rw [z] at h1
  cases h1
  rw [hp] at h2; cases h2
/-- a new object, frozen at once -/
theorem Ok.alloc (k : Ok K G F env s H) (hp : H p = none) : Ok K G (upd F p o) env s (upd H p o) :=
  (k.laid hp).freeze upd_same (k.fr.free hp) (k.dom p hp) (k.notown hp) (k.notdctN hp)
end

/-- a value frozen, or a list that the def owns or may read -/
def Dq (K : Frg) (F H : Hp) (v : V) (d : D) : Prop := Dt F v d ∨ ∃ a vs ds, v = .ref a ∧ d = .list ds ∧ SqL K H a vs ∧ Da F vs ds
theorem Dq.dp {K : Frg} {F H : Hp} {v : V} {d : D} (e : Same F H) (n : nd d = true) (h : Dq K F H v d) : Dp K H v d := by
  rcases h with h | ⟨a, vs, ds, rfl, rfl, h1, h2⟩
  · exact Dt.dp d v n (Dt.mono e d v h)
  · exact .lst h1 (Da.dp ds vs (by unfold nd at n; exact n) (Da.mono e ds vs h2))
theorem Dq.list {K : Frg} {F H : Hp} {v : V} {ds : List D} (e : Same F H) (h : Dq K F H v (.list ds)) : ∃ a vs, v = .ref a ∧ SqL K H a vs ∧ Da F vs ds := by
  rcases h with h | ⟨a, vs, es, rfl, e2, h1, h2⟩
  · cases h with
    | lst s a => exact ⟨_, _, rfl, SqL.of (e _ _ s), a⟩
  · cases e2
    exact ⟨a, vs, rfl, h1, h2⟩
theorem Dq.tup {K : Frg} {F H : Hp} {v : V} {ds : List D} (e : Same F H) (h : Dq K F H v (.tuple ds)) : ∃ a vs, v = .ref a ∧ H a = some (.tup vs) ∧ F a = some (.tup vs) ∧ Da F vs ds := by
  rcases h with h | ⟨a, vs, es, rfl, e2, h1, h2⟩
  · cases h with
    | tup s a => exact ⟨_, _, rfl, e _ _ s, s, a⟩
  · cases e2
theorem Dq.int {K : Frg} {F H : Hp} {v : V} {i : Int} (h : Dq K F H v (.int i)) : v = .int i := by
  rcases h with h | ⟨a, vs, ds, rfl, e, h1, h2⟩
  · cases h; rfl
  · cases e
theorem Dq.bl {K : Frg} {F H : Hp} {v : V} {i : Bool} (h : Dq K F H v (.bool i)) : v = .bl i := by
  rcases h with h | ⟨a, vs, ds, rfl, e, h1, h2⟩
  · cases h; rfl
  · cases e
theorem Dq.str {K : Frg} {F H : Hp} {v : V} {i : Str} (h : Dq K F H v (.str i)) : v = .str i := by
  rcases h with h | ⟨a, vs, ds, rfl, e, h1, h2⟩
  · cases h; rfl
  · cases e
theorem Dq.non {K : Frg} {F H : Hp} {v : V} (h : Dq K F H v .none) : v = .non := by
  rcases h with h | ⟨a, vs, ds, rfl, e, h1, h2⟩
  · cases h; rfl
  · cases e
/-! ### judgements -/
abbrev Ef := En → Option (D × En)
abbrev Bf := En → Option (Bool × En)
abbrev Lf := En → Option (List D × En)
def RE (K : Frg) (t : TE) (f : Ef) : Prop := ∀ G F env s H d env', Ok K G F env s H → f env = some (d, env') → ∀ Q : VK, (∀ F' H' v, Ok K G F' env' s H' → Same F F' → Dt F' v d → Q v H') → t s H Q
/-- the value may be one of the def's own lists -/
def RO (K : Frg) (t : TE) (f : Ef) : Prop := ∀ G F env s H d env', Ok K G F env s H → f env = some (d, env') → ∀ Q : VK, (∀ F' H' v, Ok K G F' env' s H' → Same F F' → Dq K F' H' v d → Q v H') → t s H Q
/-- a new list, nobody's yet -/
def RN (K : Frg) (t : TE) (f : Lf) : Prop := ∀ G F env s H ds env', Ok K G F env s H → f env = some (ds, env') → ∀ Q : VK,
  (∀ F' H' p vs, Ok K G F' env' s H' → Same F F' → H' p = some (.lst vs) → F' p = none → G.H0 p = none → G.P p = none → (∀ (j : Nat) l es, env'[j]? = some (.own l es) → s[j]? ≠ some (some (.ref p))) → Da F' vs ds → Q (.ref p) H') → t s H Q
def RB (K : Frg) (t : TT) (f : Bf) : Prop := ∀ G F env s H b env', Ok K G F env s H → f env = some (b, env') → ∀ Q : Bool → Hp → Prop, (∀ F' H', Ok K G F' env' s H' → Same F F' → Q b H') → t s H Q
def RL (K : Frg) (t : TA) (f : Lf) : Prop := ∀ G F env s H ds env', Ok K G F env s H → f env = some (ds, env') → ∀ Q : List V → Hp → Prop, (∀ F' H' vs, Ok K G F' env' s H' → Same F F' → Da F' vs ds → Q vs H') → t s H Q

structure XE (X : Cx) (e : Expr) (f : Ef) : Prop where
  ex : ∃ t, PE X e t ∧ RE X.K t f
structure XO (X : Cx) (e : Expr) (f : Ef) : Prop where
  ex : ∃ t, PE X e t ∧ RO X.K t f
structure XN (X : Cx) (e : Expr) (f : Lf) : Prop where
  ex : ∃ t, PE X e t ∧ RN X.K t f
structure XB (X : Cx) (e : Expr) (f : Bf) : Prop where
  ex : ∃ t, PT X e t ∧ RB X.K t f
structure XW (X : Cx) (e : Expr) (f : Bf) : Prop where
  ex : ∃ t, PW X e t ∧ RB X.K t f
structure XL (X : Cx) (es : List Expr) (f : Lf) : Prop where
  ex : ∃ t, PA X es t ∧ RL X.K t f
theorem RE.ro {K : Frg} {t : TE} {f : Ef} (h : RE K t f) : RO K t f := fun G F env s H d env' k e Q q => h G F env s H d env' k e Q fun F' H' v k' s' p => q F' H' v k' s' (.inl p)
theorem XE.xo {X : Cx} {e : Expr} {f : Ef} (h : XE X e f) : XO X e f := let ⟨t, h1, h2⟩ := h.ex; ⟨t, h1, h2.ro⟩
def eFz (f : Lf) : Ef := fun env => (f env).map fun r => (.list r.1, r.2)
theorem RN.re {K : Frg} {t : TE} {f : Lf} (h : RN K t f) : RE K t (eFz f) := fun G F env s H d env' k e Q q => by
  unfold eFz at e
  obtain ⟨⟨ds, e1⟩, e2, e3⟩ := Option.map_eq_some_iff.mp e
  cases e3
  refine h G F env s H ds _ k e2 Q fun F' H' p vs k' s' h1 h2 h3 _ h4 h5 => ?_
  exact q (upd F' p (.lst vs)) H' (.ref p) (k'.freeze h1 h2 h3 h4 (k'.notdctL h1)) (s'.trans (same_upd h2)) (.lst upd_same (Da.mono (same_upd h2) ds vs h5))
theorem XN.xe {X : Cx} {e : Expr} {f : Lf} (h : XN X e f) : XE X e (eFz f) := let ⟨t, h1, h2⟩ := h.ex; ⟨t, h1, h2.re⟩
end M

namespace M
open PySem PySem.Spec PyProof.Rows L2

/-! ### names, constants -/
def eV (i : Nat) : Ef := fun env => match env[i]? with
  | some (.val d) => some (d, env)
  | _ => none
def eO (i : Nat) : Ef := fun env => match env[i]? with
  | some (.val d) => some (d, env)
  | some (.own _ ds) => some (.list ds, env)
  | some (.ro ds) => some (.list ds, env)
  | _ => none
def eC (d : D) : Ef := fun env => some (d, env)
section
variable {X : Cx} {a b c e : Expr} {es : List Expr} {f fa fb fc : Ef} {pos : Pos}
theorem re_var {K : Frg} (i : Nat) : RE K (tVar i) (eV i) := fun G F env s H d env' k e Q q => by
  unfold eV at e
  split at e
  · rename_i d' h
    cases e
    obtain ⟨v, h1, h2⟩ := k.val i _ h
    exact ⟨v, h1, q F H v k (Same.refl F) h2⟩
  · cases e
theorem ro_var {K : Frg} (i : Nat) : RO K (tVar i) (eO i) := fun G F env s H d env' k e Q q => by
  unfold eO at e
  split at e
  · rename_i d' h
    cases e
    obtain ⟨v, h1, h2⟩ := k.val i _ h
    exact ⟨v, h1, q F H v k (Same.refl F) (.inl h2)⟩
  · rename_i l ds h
    cases e
    obtain ⟨p, vs, h1, h2, h3, h4, h5, _⟩ := k.own i l ds h
    exact ⟨_, h1, q F H _ k (Same.refl F) (.inr ⟨p, vs, ds, rfl, rfl, SqL.of h2, h5⟩)⟩
  · rename_i ds h
    cases e
    obtain ⟨p, vs, h1, h2, h3⟩ := k.ro i ds h
    exact ⟨_, h1, q F H _ k (Same.refl F) (.inr ⟨p, vs, ds, rfl, rfl, (k.rin.trans k.pin).seq h2, h3⟩)⟩
  · cases e
theorem xv (i : Nat) {x : Str} {pos : Pos} (hN : X.N[i]? = some x := by rfl) (hv : Vis X.env.scope x := by first | exact Or.inl rfl | exact Or.inr (Or.inl rfl) | exact Or.inr (Or.inr rfl)) (hd : (x == ("__debug__" : Str)) = false := by decide)
    (hcd : (x == ("__classdict__" : Str)) = false := by decide) : XE X (.Name x pos) (eV i) := ⟨_, pe_var hN hv hd hcd, re_var i⟩
theorem xvo (i : Nat) {x : Str} {pos : Pos} (hN : X.N[i]? = some x := by rfl) (hv : Vis X.env.scope x := by first | exact Or.inl rfl | exact Or.inr (Or.inl rfl) | exact Or.inr (Or.inr rfl)) (hd : (x == ("__debug__" : Str)) = false := by decide)
    (hcd : (x == ("__classdict__" : Str)) = false := by decide) : XO X (.Name x pos) (eO i) := ⟨_, pe_var hN hv hd hcd, ro_var i⟩
theorem re_c {K : Frg} {v : V} {d : D} (h : ∀ F, Dt F v d) : RE K (tC v) (eC d) := fun G F env s H d' env' k e Q q => by
  cases e
  exact q F H v k (Same.refl F) (h F)
theorem xe_int {i j pos} : XE X (.Constant (.int i) j pos) (eC (.int i)) := ⟨_, pe_int, re_c fun _ => .int i⟩
theorem xe_bl {b j pos} : XE X (.Constant (.bool b) j pos) (eC (.bool b)) := ⟨_, pe_bl, re_c fun _ => .bl b⟩
theorem xe_non {j pos} : XE X (.Constant .none j pos) (eC .none) := ⟨_, pe_non, re_c fun _ => .non⟩
theorem xe_str {x j pos} : XE X (.Constant (.str x) j pos) (eC (.str x)) := ⟨_, pe_str, re_c fun _ => .str x⟩
/-- a module's constant that is an int or a text -/
theorem xe_glob {x : Str} {v : V} {d : D} {u : Value} {pos : Pos} (hg : Gl X x) (hm : X.mg x = some u) (r : RelV v u) (h : ∀ F, Dt F v d) (hd : (x == ("__debug__" : Str)) = false := by decide) : XE X (.Name x pos) (eC d) :=
  ⟨_, pe_glob hg hm r hd, re_c h⟩

/-! ### two places -/
def GO (K : Frg) (r : R2) (g : D → D → Option D) : Prop := ∀ G F env s H x y d e z, Ok K G F env s H → Dt F x d → Dt F y e → g d e = some z → ∀ Q : VK, (∀ F' H' v, Ok K G F' env s H' → Same F F' → Dt F' v z → Q v H') → r x y H Q
def GQ (K : Frg) (r : R2) (g : D → D → Option D) : Prop := ∀ G F env s H x y d e z, Ok K G F env s H → Dq K F H x d → Dq K F H y e → g d e = some z → ∀ Q : VK, (∀ F' H' v, Ok K G F' env s H' → Same F F' → Dt F' v z → Q v H') → r x y H Q
theorem GQ.go {K : Frg} {r : R2} {g : D → D → Option D} (h : GQ K r g) : GO K r g := fun G F env s H x y d e z k h1 h2 h3 Q q => h G F env s H x y d e z k (.inl h1) (.inl h2) h3 Q q
def eBin (g : D → D → Option D) (fa fb : Ef) : Ef := fun env => (fa env).bind fun r => (fb r.2).bind fun q => (g r.1 q.1).map fun d => (d, q.2)
theorem bin_some {g : D → D → Option D} {fa fb : Ef} {env env' : En} {d : D} (e : eBin g fa fb env = some (d, env')) : ∃ d1 e1 d2, fa env = some (d1, e1) ∧ fb e1 = some (d2, env') ∧ g d1 d2 = some d := by
  unfold eBin at e
  obtain ⟨⟨d1, e1⟩, h1, e⟩ := Option.bind_eq_some_iff.mp e
  obtain ⟨⟨d2, e2⟩, h2, e⟩ := Option.bind_eq_some_iff.mp e
  obtain ⟨z, h3, e⟩ := Option.map_eq_some_iff.mp e
  cases e
  exact ⟨d1, e1, d2, h1, h2, h3⟩
theorem re_bin {K : Frg} {r : R2} {g : D → D → Option D} {ta tb : TE} (ho : GO K r g) (ha : RE K ta fa) (hb : RE K tb fb) : RE K (tOp r ta tb) (eBin g fa fb) := fun G F env s H d env' k e Q q => by
  obtain ⟨d1, e1, d2, h1, h2, h3⟩ := bin_some e
  refine ha G F env s H d1 e1 k h1 _ fun F1 H1 v1 k1 s1 p1 => ?_
  refine hb G F1 e1 s H1 d2 env' k1 h2 _ fun F2 H2 v2 k2 s2 p2 => ?_
  exact ho G F2 env' s H2 v1 v2 d1 d2 d k2 (Dt.mono s2 d1 v1 p1) p2 h3 Q fun F3 H3 v3 k3 s3 p3 => q F3 H3 v3 k3 ((s1.trans s2).trans s3) p3
theorem Dq.up {K : Frg} {F F' H : Hp} {v : V} {d : D} (e : Same F F') (h : Dq K F H v d) : Dq K F' H v d := by
  rcases h with h | ⟨a, vs, ds, h1, h2, h3, h4⟩
  · exact .inl (Dt.mono e d v h)
  · exact .inr ⟨a, vs, ds, h1, h2, h3, Da.mono e ds vs h4⟩
/-- the first one a name -/
def eBinV (g : D → D → Option D) (i : Nat) (fb : Ef) : Ef := fun env => (eO i env).bind fun _ => (fb env).bind fun q => (eO i q.2).bind fun r => (g r.1 q.1).map fun d => (d, q.2)
theorem dq_slot {K : Frg} {G : Gm} {F : Hp} {env env' : En} {s : L2.St} {H : Hp} {i : Nat} {d : D} (k : Ok K G F env s H) (e : eO i env = some (d, env')) : ∃ v, s[i]? = some (some v) ∧ Dq K F H v d := by
  unfold eO at e
  split at e
  · rename_i d' h
    cases e
    obtain ⟨v, h1, h2⟩ := k.val i _ h
    exact ⟨v, h1, .inl h2⟩
  · rename_i l ds h
    cases e
    obtain ⟨p, vs, h1, h2, h3, h4, h5, _⟩ := k.own i l ds h
    exact ⟨_, h1, .inr ⟨p, vs, ds, rfl, rfl, SqL.of h2, h5⟩⟩
  · rename_i ds h
    cases e
    obtain ⟨p, vs, h1, h2, h3⟩ := k.ro i ds h
    exact ⟨_, h1, .inr ⟨p, vs, ds, rfl, rfl, (k.rin.trans k.pin).seq h2, h3⟩⟩
  · cases e
/-- the first operand a name whose list may be the def's own -/
theorem re_binV {K : Frg} {r : R2} {g : D → D → Option D} {tb : TE} {i : Nat} (ho : GQ K r g) (hb : RE K tb fb) : RE K (tOp r (tVar i) tb) (eBinV g i fb) := fun G F env s H d env' k e Q q => by
  unfold eBinV at e
  obtain ⟨⟨d0, e0⟩, h0, e⟩ := Option.bind_eq_some_iff.mp e
  obtain ⟨⟨d2, e2⟩, h2, e⟩ := Option.bind_eq_some_iff.mp e
  obtain ⟨⟨d1, e1⟩, h1, e⟩ := Option.bind_eq_some_iff.mp e
  obtain ⟨z, h3, e⟩ := Option.map_eq_some_iff.mp e
  cases e
  obtain ⟨v, hv, _⟩ := dq_slot k h0
  refine ⟨v, hv, ?_⟩
  refine hb G F env s H d2 e2 k h2 _ fun F2 H2 v2 k2 s2 p2 => ?_
  obtain ⟨v', hv', hd⟩ := dq_slot k2 h1
  rw [hv] at hv'
  cases hv'
  exact ho G F2 e2 s H2 v v2 d1 d2 d k2 hd (.inl p2) h3 Q fun F3 H3 v3 k3 s3 p3 => q F3 H3 v3 k3 (s2.trans s3) p3
end
end M

namespace M
open PySem PySem.Spec PyProof.Rows L2

/-! ### operators -/
def fits (n : Nat) : Bool := decide (n ≤ 16777216)
theorem fits_line {n : Nat} (h : fits n = true) : n ≤ sizeLine := by rw [sizeLine_eq]; exact of_decide_eq_true h
def gAdd : D → D → Option D
  | .int i, .int j => some (.int (i + j))
  | .str x, .str y => if fits (x.length + y.length) then some (.str (x ++ y)) else none
  | .list xs, .list ys => if fits (xs.length + ys.length) then some (.list (xs ++ ys)) else none
  | .tuple xs, .tuple ys => if fits (xs.length + ys.length) then some (.tuple (xs ++ ys)) else none
  | _, _ => none
def gSub : D → D → Option D
  | .int i, .int j => some (.int (i - j))
  | _, _ => none
/-- a product that the model surely makes -/
def mulOk (i j : Int) : Bool := decide (i.natAbs < 2 ^ 64) || decide (j.natAbs < 2 ^ 64) || (decide (i.natAbs < 10 ^ 250 * 10 ^ 250) && decide (j.natAbs < 10 ^ 250 * 10 ^ 250))
theorem mulOk.ok {i j : Int} (h : mulOk i j = true) : IntMulOk i j := by
  unfold mulOk at h
  simp only [Bool.or_eq_true, Bool.and_eq_true, decide_eq_true_eq] at h
  rcases h with (h | h) | ⟨h1, h2⟩
  · exact CMul.ok (.inl (by omega))
  · exact CMul.ok (.inr (by omega))
  · have h8 : (10 ^ 250 * 10 ^ 250 : Nat) ≤ 2 ^ 1700 := by decide +kernel
    exact CMulW.ok (wide_mul (a := 1700) (b := 1700) (Nat.lt_of_lt_of_le h1 h8) (Nat.lt_of_lt_of_le h2 h8) (by decide) (by decide) (by decide))
def gMul : D → D → Option D
  | .int i, .int j => if mulOk i j then some (.int (i * j)) else none
  | .list xs, .int k => if decide (0 ≤ k) && decide (k < 1000000) && fits (xs.length * k.toNat) then some (.list (List.replicate k.toNat xs).flatten) else none
  | _, _ => none
def divOk (j : Int) : Bool := decide (0 < j) && decide (j < 10 ^ 250 * 10 ^ 250)
def gDiv : D → D → Option D
  | .int i, .int j => if divOk j then some (.int (i / j)) else none
  | _, _ => none
def gMod : D → D → Option D
  | .int i, .int j => if decide (0 < j) then some (.int (i % j)) else none
  | _, _ => none
def gPow : D → D → Option D
  | .int i, .int j => if decide (0 ≤ j) && decide (j ≤ 1000000) && decide (i.natAbs < 2 ^ 64) then some (.int (i ^ j.toNat)) else none
  | _, _ => none
theorem GO.intro {K : Frg} {r : R2} {g : D → D → Option D} (h : ∀ G F env s H x y d e z, Ok K G F env s H → Dt F x d → Dt F y e → g d e = some z → ∀ Q : VK, (∀ F' H' v, Ok K G F' env s H' → Same F F' → Dt F' v z → Q v H') → r x y H Q) : GO K r g := h

def rMulI : R2 := fun x y H Q => ∃ i j, x = .int i ∧ y = .int j ∧ IntMulOk i j ∧ Q (.int (i * j)) H
section
variable {X : Cx}
theorem op_mulI : OpR X (binaryOp .Mult) rMulI := by
  intro pins s σ H x y v u Q I rx ry h
  obtain ⟨i, j, rfl, rfl, hc, q⟩ := h
  obtain ⟨t, rfl⟩ := rx
  obtain ⟨t', rfl⟩ := ry
  exact mul_int ⟨.int (i * j), H, I.tok _, ⟨_, rfl⟩, q⟩ hc
def rAddA (K : Frg) : R2 := fun x y H Q => (rI0 fun i j => .int (i + j)) x y H Q ∨ (∃ i j, x = .str i ∧ y = .str j ∧ i.length + j.length ≤ sizeLine ∧ Q (.str (i ++ j)) H) ∨ rCat x y H Q ∨ rCatA K x y H Q
theorem op_addA : OpR X (binaryOp .Add) (rAddA X.K) := op_add.or (op_add_str.or (op_cat.or op_catA))
theorem go_add {K : Frg} : GO K (rAddA K) gAdd := by
  intro G F env s H x y d e z k h1 h2 h3 Q q
  unfold gAdd at h3
  split at h3
  · cases h1; cases h2; cases h3
    exact .inl ⟨_, _, rfl, rfl, q F H _ k (Same.refl F) (.int _)⟩
  · split at h3
    · rename_i hf
      cases h1; cases h2; cases h3
      exact .inr (.inl ⟨_, _, rfl, rfl, fits_line hf, q F H _ k (Same.refl F) (.str _)⟩)
    · cases h3
  · split at h3
    · rename_i hf
      cases h3
      cases h1 with
      | lst a1 b1 =>
        cases h2 with
        | lst a2 b2 =>
          refine .inr (.inr (.inl ⟨_, _, _, _, rfl, rfl, k.fr _ _ a1, k.fr _ _ a2, by rw [b1.length, b2.length]; exact fits_line hf, fun p hp => ?_⟩))
          exact q _ _ _ (k.alloc hp) (same_upd (k.fr.free hp)) (.lst upd_same (Da.mono (same_upd (k.fr.free hp)) _ _ (b1.append b2)))
    · cases h3
  · split at h3
    · rename_i hf
      cases h3
      cases h1 with
      | tup a1 b1 =>
        cases h2 with
        | tup a2 b2 =>
          refine .inr (.inr (.inr ⟨_, _, _, _, rfl, rfl, SqT.of (k.fr _ _ a1), SqT.of (k.fr _ _ a2), by rw [b1.length, b2.length]; exact fits_line hf, fun e0 => ?_, fun _ e0 => ?_, fun _ _ p hp => ?_⟩))
          · subst e0; cases b1
            exact q F H _ k (Same.refl F) (.tup a2 b2)
          · subst e0; cases b2
            rw [List.append_nil] at *
            exact q F H _ k (Same.refl F) (.tup a1 b1)
          · exact q _ _ _ (k.alloc hp) (same_upd (k.fr.free hp)) (.tup upd_same (Da.mono (same_upd (k.fr.free hp)) _ _ (b1.append b2)))
    · cases h3
  · cases h3
theorem go_sub {K : Frg} : GO K (rI0 fun i j => .int (i - j)) gSub := by
  intro G F env s H x y d e z k h1 h2 h3 Q q
  unfold gSub at h3
  split at h3
  · cases h1; cases h2; cases h3
    exact ⟨_, _, rfl, rfl, q F H _ k (Same.refl F) (.int _)⟩
  · cases h3
def rMulA : R2 := fun x y H Q => rMulI x y H Q ∨ rRep x y H Q
theorem op_mulA : OpR X (binaryOp .Mult) rMulA := op_mulI.or op_rep
theorem Da.rep {F : Hp} {ds : List D} {vs : List V} (h : Da F vs ds) : ∀ n : Nat, Da F (List.replicate n vs).flatten (List.replicate n ds).flatten
  | 0 => .nil
  | n + 1 => by
    rw [List.replicate_succ, List.replicate_succ, List.flatten_cons, List.flatten_cons]
    exact h.append (Da.rep h n)
theorem go_mul {K : Frg} : GO K rMulA gMul := by
  intro G F env s H x y d e z k h1 h2 h3 Q q
  unfold gMul at h3
  split at h3
  · split at h3
    · rename_i hf
      cases h1; cases h2; cases h3
      exact .inl ⟨_, _, rfl, rfl, mulOk.ok hf, q F H _ k (Same.refl F) (.int _)⟩
    · cases h3
  · split at h3
    · rename_i hf
      cases h3
      simp only [Bool.and_eq_true, decide_eq_true_eq] at hf
      cases h2
      cases h1 with
      | lst a1 b1 =>
        refine .inr ⟨_, _, _, rfl, rfl, k.fr _ _ a1, by omega, by omega, by rw [b1.length]; exact fits_line hf.2, fun p hp => ?_⟩
        exact q _ _ _ (k.alloc hp) (same_upd (k.fr.free hp)) (.lst upd_same (Da.mono (same_upd (k.fr.free hp)) _ _ (Da.rep b1 _)))
    · cases h3
  · cases h3
theorem go_div {K : Frg} : GO K (rI CDivW fun i j => .int (i / j)) gDiv := by
  intro G F env s H x y d e z k h1 h2 h3 Q q
  unfold gDiv at h3
  split at h3
  · split at h3
    · rename_i hf
      cases h1; cases h2; cases h3
      unfold divOk at hf
      simp only [Bool.and_eq_true, decide_eq_true_eq] at hf
      refine ⟨_, _, rfl, rfl, wide_div (b := 1700) hf.1 ?_ (by decide) (by decide), q F H _ k (Same.refl F) (.int _)⟩
      have h8 : (10 ^ 250 * 10 ^ 250 : Nat) ≤ 2 ^ 1700 := by decide +kernel
      have h9 := hf.2
      omega
    · cases h3
  · cases h3
theorem go_mod {K : Frg} : GO K (rI (fun _ j => 0 < j) fun i j => .int (i % j)) gMod := by
  intro G F env s H x y d e z k h1 h2 h3 Q q
  unfold gMod at h3
  split at h3
  · split at h3
    · rename_i hf
      cases h1; cases h2; cases h3
      exact ⟨_, _, rfl, rfl, of_decide_eq_true hf, q F H _ k (Same.refl F) (.int _)⟩
    · cases h3
  · cases h3
theorem go_pow {K : Frg} : GO K (rI CPow fun i j => .int (i ^ j.toNat)) gPow := by
  intro G F env s H x y d e z k h1 h2 h3 Q q
  unfold gPow at h3
  split at h3
  · split at h3
    · rename_i hf
      cases h1; cases h2; cases h3
      simp only [Bool.and_eq_true, decide_eq_true_eq] at hf
      exact ⟨_, _, rfl, rfl, ⟨hf.1.1, hf.1.2, hf.2⟩, q F H _ k (Same.refl F) (.int _)⟩
    · cases h3
  · cases h3
variable {a b c e : Expr} {f fa fb fc : Ef} {pos : Pos}
theorem xe_op {op : Operator} {r : R2} {g : D → D → Option D} (ho : OpR X (binaryOp op) r) (hg : GO X.K r g) (ha : XE X a fa) (hb : XE X b fb) : XE X (.BinOp a op b pos) (eBin g fa fb) :=
  let ⟨_, h1, h2⟩ := ha.ex; let ⟨_, h3, h4⟩ := hb.ex; ⟨_, pe_op ho h1 h3, re_bin hg h2 h4⟩
theorem xe_add (ha : XE X a fa) (hb : XE X b fb) : XE X (.BinOp a .Add b pos) (eBin gAdd fa fb) := xe_op op_addA go_add ha hb
theorem xe_sub (ha : XE X a fa) (hb : XE X b fb) : XE X (.BinOp a .Sub b pos) (eBin gSub fa fb) := xe_op op_sub go_sub ha hb
theorem xe_mul (ha : XE X a fa) (hb : XE X b fb) : XE X (.BinOp a .Mult b pos) (eBin gMul fa fb) := xe_op op_mulA go_mul ha hb
theorem xe_div (ha : XE X a fa) (hb : XE X b fb) : XE X (.BinOp a .FloorDiv b pos) (eBin gDiv fa fb) := xe_op op_fdivW go_div ha hb
theorem xe_mod (ha : XE X a fa) (hb : XE X b fb) : XE X (.BinOp a .Mod b pos) (eBin gMod fa fb) := xe_op op_mod go_mod ha hb
theorem xe_pow (ha : XE X a fa) (hb : XE X b fb) : XE X (.BinOp a .Pow b pos) (eBin gPow fa fb) := xe_op op_pow go_pow ha hb
/-! ### one place -/
def GU (K : Frg) (r : V → Hp → VK → Prop) (g : D → Option D) : Prop := ∀ G F env s H x d z, Ok K G F env s H → Dq K F H x d → g d = some z → ∀ Q : VK, (∀ F' H' v, Ok K G F' env s H' → Same F F' → Dt F' v z → Q v H') → r x H Q
def eUn (g : D → Option D) (fa : Ef) : Ef := fun env => (fa env).bind fun r => (g r.1).map fun d => (d, r.2)
theorem un_some {g : D → Option D} {fa : Ef} {env env' : En} {d : D} (e : eUn g fa env = some (d, env')) : ∃ d1, fa env = some (d1, env') ∧ g d1 = some d := by
  unfold eUn at e
  obtain ⟨⟨d1, e1⟩, h1, e⟩ := Option.bind_eq_some_iff.mp e
  obtain ⟨z, h3, e⟩ := Option.map_eq_some_iff.mp e
  cases e
  exact ⟨d1, h1, h3⟩
theorem re_un {K : Frg} {r : V → Hp → VK → Prop} {g : D → Option D} {ta : TE} (ho : GU K r g) (ha : RO K ta fa) : RE K (tUn r ta) (eUn g fa) := fun G F env s H d env' k e Q q => by
  obtain ⟨d1, h1, h3⟩ := un_some e
  refine ha G F env s H d1 env' k h1 _ fun F1 H1 v1 k1 s1 p1 => ?_
  exact ho G F1 env' s H1 v1 d1 d k1 p1 h3 Q fun F3 H3 v3 k3 s3 p3 => q F3 H3 v3 k3 (s1.trans s3) p3
def gNeg : D → Option D
  | .int i => some (.int (-i))
  | _ => none
theorem gu_neg {K : Frg} : GU K (rU fun i => .int (-i)) gNeg := by
  intro G F env s H x d z k h1 h3 Q q
  unfold gNeg at h3
  split at h3
  · cases h3
    exact ⟨_, h1.int, q F H _ k (Same.refl F) (.int _)⟩
  · cases h3
theorem xe_neg (ha : XE X a fa) : XE X (.UnaryOp .USub a pos) (eUn gNeg fa) :=
  let ⟨_, h1, h2⟩ := ha.ex; ⟨_, pe_un un_neg h1, re_un gu_neg h2.ro⟩

/-! ### comparisons -/
def gLt : D → D → Option D
  | .int i, .int j => some (.bool (decide (i < j)))
  | _, _ => none
def gLe : D → D → Option D
  | .int i, .int j => some (.bool (decide (i ≤ j)))
  | _, _ => none
def gGt : D → D → Option D
  | .int i, .int j => some (.bool (decide (j < i)))
  | _, _ => none
def gGe : D → D → Option D
  | .int i, .int j => some (.bool (decide (j ≤ i)))
  | _, _ => none
theorem gq_lt {K : Frg} : GQ K (rI0 fun i j => .bl (decide (i < j))) gLt := by
  intro G F env s H x y d e z k h1 h2 h3 Q q
  unfold gLt at h3
  split at h3
  · cases h3; exact ⟨_, _, h1.int, h2.int, q F H _ k (Same.refl F) (.bl _)⟩
  · cases h3
theorem gq_le {K : Frg} : GQ K (rI0 fun i j => .bl (decide (i ≤ j))) gLe := by
  intro G F env s H x y d e z k h1 h2 h3 Q q
  unfold gLe at h3
  split at h3
  · cases h3; exact ⟨_, _, h1.int, h2.int, q F H _ k (Same.refl F) (.bl _)⟩
  · cases h3
theorem gq_gt {K : Frg} : GQ K (rI0 fun i j => .bl (decide (j < i))) gGt := by
  intro G F env s H x y d e z k h1 h2 h3 Q q
  unfold gGt at h3
  split at h3
  · cases h3; exact ⟨_, _, h1.int, h2.int, q F H _ k (Same.refl F) (.bl _)⟩
  · cases h3
theorem gq_ge {K : Frg} : GQ K (rI0 fun i j => .bl (decide (j ≤ i))) gGe := by
  intro G F env s H x y d e z k h1 h2 h3 Q q
  unfold gGe at h3
  split at h3
  · cases h3; exact ⟨_, _, h1.int, h2.int, q F H _ k (Same.refl F) (.bl _)⟩
  · cases h3
def shp (d : D) : Bool := SeqAt.shaped d
def gEq (d e : D) : Option D := if shp d && shp e then some (.bool (PyData.eqv d e)) else none
def gNe (d e : D) : Option D := if shp d && shp e then some (.bool (!PyData.eqv d e)) else none
theorem gq_eq {K : Frg} : GQ K (rEqD K) gEq := by
  intro G F env s H x y d e z k h1 h2 h3 Q q
  unfold gEq at h3
  split at h3
  · rename_i hf
    cases h3
    rw [Bool.and_eq_true] at hf
    exact ⟨d, e, h1.dp k.fr (nd_sh hf.1), h2.dp k.fr (nd_sh hf.2), hf.1, hf.2, q F H _ k (Same.refl F) (.bl _)⟩
  · cases h3
theorem gq_ne {K : Frg} : GQ K (rNeD K) gNe := by
  intro G F env s H x y d e z k h1 h2 h3 Q q
  unfold gNe at h3
  split at h3
  · rename_i hf
    cases h3
    rw [Bool.and_eq_true] at hf
    exact ⟨d, e, h1.dp k.fr (nd_sh hf.1), h2.dp k.fr (nd_sh hf.2), hf.1, hf.2, q F H _ k (Same.refl F) (.bl _)⟩
  · cases h3
def bV (f : Ef) : Bf := fun env => (f env).bind fun r => match r.1 with
  | .bool b => some (b, r.2)
  | _ => none
theorem bV_some {f : Ef} {env env' : En} {b : Bool} (e : bV f env = some (b, env')) : f env = some (.bool b, env') := by
  unfold bV at e
  obtain ⟨⟨d1, e1⟩, h1, e⟩ := Option.bind_eq_some_iff.mp e
  cases d1 <;> first | (cases e; exact h1) | cases e
theorem rb_test {K : Frg} {t : TE} {f : Ef} (h : RE K t f) : RB K (tTest t) (bV f) := fun G F env s H b env' k e Q q =>
  h G F env s H _ env' k (bV_some e) _ fun F' H' v k' s' p => by cases p; exact ⟨b, rfl, q F' H' k' s'⟩
theorem rb_tB {K : Frg} {t : TE} {f : Ef} (h : RE K t f) : RB K (tB t) (bV f) := fun G F env s H b env' k e Q q =>
  h G F env s H _ env' k (bV_some e) _ fun F' H' v k' s' p => by cases p; exact ⟨b, rfl, q F' H' k' s'⟩
/-- an expression that is True or False, as a test -/
theorem xb_val (h : XE X a fa) (he : ∀ whole, isTrue a X.env whole = (do let v ← whole; standAt a.pos; holding [v] (truthy v)) := by intro _; rfl) : XB X a (bV fa) :=
  let ⟨_, h1, h2⟩ := h.ex; ⟨_, pt_val h1 he, rb_tB h2⟩
section
variable {op : CmpOp} {r : R2} {g : D → D → Option D}
theorem xe_cmp (ho : OpR X (compareOp op) r) (hg : GQ X.K r g) (ha : XE X a fa) (hb : XE X b fb) (hm : behindInMarks op b = false) : XE X (.Compare a [op] [b] pos) (eBin g fa fb) :=
  let ⟨_, h1, h2⟩ := ha.ex; let ⟨_, h3, h4⟩ := hb.ex; ⟨_, pe_cmpR ho h1 h3 hm, re_bin hg.go h2 h4⟩
theorem xb_cmp (ho : OpR X (compareOp op) r) (hg : GQ X.K r g) (ha : XE X a fa) (hb : XE X b fb) (hm : behindInMarks op b = false) : XB X (.Compare a [op] [b] pos) (bV (eBin g fa fb)) :=
  let ⟨_, h1, h2⟩ := ha.ex; let ⟨_, h3, h4⟩ := hb.ex; ⟨_, pt_cmpR ho h1 h3 hm, rb_test (re_bin hg.go h2 h4)⟩
/-- the first operand, a name, may be -/
theorem xb_cmpV {x : Str} {p2 : Pos} (i : Nat) (ho : OpR X (compareOp op) r) (hg : GQ X.K r g) (hb : XE X b fb) (hm : behindInMarks op b = false) (hN : X.N[i]? = some x := by rfl) (hv : Vis X.env.scope x := by first | exact Or.inl rfl | exact Or.inr (Or.inl rfl) | exact Or.inr (Or.inr rfl)) (hd : (x == ("__debug__" : Str)) = false := by decide)
    (hcd : (x == ("__classdict__" : Str)) = false := by decide) : XB X (.Compare (.Name x p2) [op] [b] pos) (bV (eBinV g i fb)) :=
  let ⟨_, h3, h4⟩ := hb.ex; ⟨_, pt_cmpR ho (pe_var hN hv hd hcd) h3 hm, rb_test (re_binV hg h4)⟩
/-- a op b op' c -/
def eChain (g g' : D → D → Option D) (fa fb fc : Ef) : Ef := fun env => (fa env).bind fun r => (fb r.2).bind fun q => (g r.1 q.1).bind fun z => match z with
  | .bool true => (fc q.2).bind fun w => (g' q.1 w.1).map fun d => (d, w.2)
  | .bool false => some (.bool false, q.2)
  | _ => none
theorem re_chain {K : Frg} {r' : R2} {g' : D → D → Option D} {ta tb tc : TE} (ho : GQ K r g) (ho' : GQ K r' g') (ha : RE K ta fa) (hb : RE K tb fb) (hc : RE K tc fc) : RE K (tChain r r' ta tb tc) (eChain g g' fa fb fc) := fun G F env s H d env' k e Q q => by
  unfold eChain at e
  obtain ⟨⟨d1, e1⟩, h1, e⟩ := Option.bind_eq_some_iff.mp e
  obtain ⟨⟨d2, e2⟩, h2, e⟩ := Option.bind_eq_some_iff.mp e
  obtain ⟨z, h3, e⟩ := Option.bind_eq_some_iff.mp e
  refine ha G F env s H d1 e1 k h1 _ fun F1 H1 v1 k1 s1 p1 => ?_
  refine hb G F1 e1 s H1 d2 e2 k1 h2 _ fun F2 H2 v2 k2 s2 p2 => ?_
  refine ho.go G F2 e2 s H2 v1 v2 d1 d2 z k2 (Dt.mono s2 d1 v1 p1) p2 h3 _ fun F3 H3 v3 k3 s3 p3 => ?_
  split at e
  · cases p3
    refine ⟨true, rfl, ?_⟩
    rw [if_pos rfl]
    obtain ⟨⟨d4, e4⟩, h4, e⟩ := Option.bind_eq_some_iff.mp e
    obtain ⟨w, h5, e⟩ := Option.map_eq_some_iff.mp e
    cases e
    refine hc G F3 e2 s H3 d4 e4 k3 h4 _ fun F4 H4 v4 k4 s4 p4 => ?_
    exact ho'.go G F4 e4 s H4 v2 v4 d2 d4 _ k4 (Dt.mono (s3.trans s4) d2 v2 p2) p4 h5 Q fun F5 H5 v5 k5 s5 p5 => q F5 H5 v5 k5 ((((s1.trans s2).trans s3).trans s4).trans s5) p5
  · cases p3
    cases e
    refine ⟨false, rfl, ?_⟩
    rw [if_neg Bool.false_ne_true]
    exact q F3 H3 _ k3 ((s1.trans s2).trans s3) (.bl _)
  · cases e
theorem xb_chain {op' : CmpOp} {r' : R2} {g' : D → D → Option D} (ho : OpR X (compareOp op) r) (hg : GQ X.K r g) (ho' : OpR X (compareOp op') r') (hg' : GQ X.K r' g') (ha : XE X a fa) (hb : XE X b fb) (hc : XE X c fc)
    (hm : lastMarks [op, op'] [b, c] = false := by with_unfolding_all rfl) : XB X (.Compare a [op, op'] [b, c] pos) (bV (eChain g g' fa fb fc)) :=
  let ⟨_, h1, h2⟩ := ha.ex; let ⟨_, h3, h4⟩ := hb.ex; let ⟨_, h5, h6⟩ := hc.ex; ⟨_, pt_chain ho ho' h1 h3 h5 hm, rb_test (re_chain hg hg' h2 h4 h6)⟩
end
/-! in, not in -/
end
end M

namespace M
open PySem PySem.Spec PyProof.Rows L2
section
variable {X : Cx} {a b c e : Expr} {es : List Expr} {f fa fb fc : Ef} {ga gb gc : Bf} {pos : Pos} {K : Frg}

/-! ### and, or, not, if-expressions -/
def bAnd (p q : Bf) : Bf := fun env => (p env).bind fun r => if r.1 then q r.2 else some (false, r.2)
def bOr (p q : Bf) : Bf := fun env => (p env).bind fun r => if r.1 then some (true, r.2) else q r.2
def bNot (p : Bf) : Bf := fun env => (p env).map fun r => (!r.1, r.2)
theorem rb_and {t u : TT} (h1 : RB K t ga) (h2 : RB K u gb) : RB K (tAnd t u) (bAnd ga gb) := fun G F env s H b env' k e Q q => by
  unfold bAnd at e
  obtain ⟨⟨c, e1⟩, h3, e⟩ := Option.bind_eq_some_iff.mp e
  refine h1 G F env s H c e1 k h3 _ fun F1 H1 k1 s1 => ?_
  cases c with
  | true =>
    rw [if_pos rfl] at e ⊢
    exact h2 G F1 e1 s H1 b env' k1 e Q fun F2 H2 k2 s2 => q F2 H2 k2 (s1.trans s2)
  | false =>
    rw [if_neg Bool.false_ne_true] at e ⊢
    cases e
    exact q F1 H1 k1 s1
theorem rb_or {t u : TT} (h1 : RB K t ga) (h2 : RB K u gb) : RB K (tOr t u) (bOr ga gb) := fun G F env s H b env' k e Q q => by
  unfold bOr at e
  obtain ⟨⟨c, e1⟩, h3, e⟩ := Option.bind_eq_some_iff.mp e
  refine h1 G F env s H c e1 k h3 _ fun F1 H1 k1 s1 => ?_
  cases c with
  | false =>
    rw [if_neg Bool.false_ne_true] at e ⊢
    exact h2 G F1 e1 s H1 b env' k1 e Q fun F2 H2 k2 s2 => q F2 H2 k2 (s1.trans s2)
  | true =>
    rw [if_pos rfl] at e ⊢
    cases e
    exact q F1 H1 k1 s1
theorem rb_not {t : TT} (h1 : RB K t ga) : RB K (tNot t) (bNot ga) := fun G F env s H b env' k e Q q => by
  unfold bNot at e
  obtain ⟨⟨c, e1⟩, h3, e⟩ := Option.map_eq_some_iff.mp e
  cases e
  exact h1 G F env s H c e1 k h3 _ fun F1 H1 k1 s1 => q F1 H1 k1 s1
theorem xw_and1 (ha : XB X a ga) : XW X (.BoolOp .And [a] pos) ga := let ⟨_, h1, h2⟩ := ha.ex; ⟨_, pw_and1 h1, h2⟩
theorem xw_or1 (ha : XB X a ga) : XW X (.BoolOp .Or [a] pos) ga := let ⟨_, h1, h2⟩ := ha.ex; ⟨_, pw_or1 h1, h2⟩
theorem xw_and {rest : List Expr} (ha : XB X a ga) (hb : XW X (.BoolOp .And (b :: rest) pos) gb) : XW X (.BoolOp .And (a :: b :: rest) pos) (bAnd ga gb) :=
  let ⟨_, h1, h2⟩ := ha.ex; let ⟨_, h3, h4⟩ := hb.ex; ⟨_, pw_and h1 h3, rb_and h2 h4⟩
theorem xw_or {rest : List Expr} (ha : XB X a ga) (hb : XW X (.BoolOp .Or (b :: rest) pos) gb) : XW X (.BoolOp .Or (a :: b :: rest) pos) (bOr ga gb) :=
  let ⟨_, h1, h2⟩ := ha.ex; let ⟨_, h3, h4⟩ := hb.ex; ⟨_, pw_or h1 h3, rb_or h2 h4⟩
theorem xb_w (h : XW X a ga) : XB X a ga := let ⟨_, h1, h2⟩ := h.ex; ⟨_, h1.pt, h2⟩
theorem xb_not (ha : XB X a ga) : XB X (.UnaryOp .Not a pos) (bNot ga) := let ⟨_, h1, h2⟩ := ha.ex; ⟨_, pt_not h1, rb_not h2⟩
def eAnd (fa fb : Ef) : Ef := fun env => (fa env).bind fun r => match r.1 with
  | .bool true => fb r.2
  | .bool false => some (.bool false, r.2)
  | _ => none
def eOr (fa fb : Ef) : Ef := fun env => (fa env).bind fun r => match r.1 with
  | .bool false => fb r.2
  | .bool true => some (.bool true, r.2)
  | _ => none
def eNot (fa : Ef) : Ef := fun env => (fa env).bind fun r => match r.1 with
  | .bool b => some (.bool !b, r.2)
  | _ => none
theorem re_and {ta tb : TE} (h1 : RE K ta fa) (h2 : RE K tb fb) : RE K (tAndV ta tb) (eAnd fa fb) := fun G F env s H d env' k e Q q => by
  unfold eAnd at e
  obtain ⟨⟨c, e1⟩, h3, e⟩ := Option.bind_eq_some_iff.mp e
  refine h1 G F env s H c e1 k h3 _ fun F1 H1 v k1 s1 p1 => ?_
  cases p1 with
  | bl b =>
    refine ⟨b, rfl, ?_⟩
    cases b with
    | true =>
      rw [if_pos rfl]
      exact h2 G F1 e1 s H1 d env' k1 e Q fun F2 H2 v2 k2 s2 p2 => q F2 H2 v2 k2 (s1.trans s2) p2
    | false =>
      rw [if_neg Bool.false_ne_true]
      cases e
      exact q F1 H1 _ k1 s1 (.bl _)
  | _ => cases e
theorem re_not {ta : TE} (h1 : RE K ta fa) : RE K (tNotV ta) (eNot fa) := fun G F env s H d env' k e Q q => by
  unfold eNot at e
  obtain ⟨⟨c, e1⟩, h3, e⟩ := Option.bind_eq_some_iff.mp e
  refine h1 G F env s H c e1 k h3 _ fun F1 H1 v k1 s1 p1 => ?_
  cases p1 with
  | bl b =>
    cases e
    exact ⟨b, rfl, q F1 H1 _ k1 s1 (.bl _)⟩
  | _ => cases e
theorem xe_one {op} (h : XE X a fa) : XE X (.BoolOp op [a] pos) fa := let ⟨_, h1, h2⟩ := h.ex; ⟨_, pe_one h1, h2⟩
theorem xe_and {rest : List Expr} (ha : XE X a fa) (hb : XE X (.BoolOp .And (b :: rest) pos) fb) : XE X (.BoolOp .And (a :: b :: rest) pos) (eAnd fa fb) :=
  let ⟨_, h1, h2⟩ := ha.ex; let ⟨_, h3, h4⟩ := hb.ex; ⟨_, pe_and h1 h3, re_and h2 h4⟩
theorem xe_not (ha : XE X a fa) : XE X (.UnaryOp .Not a pos) (eNot fa) := let ⟨_, h1, h2⟩ := ha.ex; ⟨_, pe_not h1, re_not h2⟩
def eIf (p : Bf) (fa fb : Ef) : Ef := fun env => (p env).bind fun r => if r.1 then fa r.2 else fb r.2
/-! ### argument lists, displays -/
def lNil : Lf := fun env => some ([], env)
def lCons (f : Ef) (g : Lf) : Lf := fun env => (f env).bind fun r => (g r.2).map fun q => (r.1 :: q.1, q.2)
theorem lCons_some {f : Ef} {g : Lf} {env env' : En} {ds : List D} (e : lCons f g env = some (ds, env')) : ∃ d e1 r, f env = some (d, e1) ∧ g e1 = some (r, env') ∧ ds = d :: r := by
  unfold lCons at e
  obtain ⟨⟨d, e1⟩, h1, e⟩ := Option.bind_eq_some_iff.mp e
  obtain ⟨⟨r, e2⟩, h2, e⟩ := Option.map_eq_some_iff.mp e
  cases e
  exact ⟨d, e1, r, h1, h2, rfl⟩
theorem xl_nil : XL X [] lNil := ⟨_, pa_nil, fun G F env s H d env' k e Q q => by cases e; exact q F H [] k (Same.refl F) .nil⟩
theorem xl_cons {g : Lf} (ha : XE X e f) (hr : XL X es g) (hs : starEach (e :: es) X.env = (false, eval e X.env) :: starEach es X.env := by rfl) : XL X (e :: es) (lCons f g) := by
  obtain ⟨ta, h1, h2⟩ := ha.ex
  obtain ⟨tr, h3, h4⟩ := hr.ex
  refine ⟨_, pa_cons h1 h3 hs, fun G F env s H d env' k e Q q => ?_⟩
  obtain ⟨d1, e1, r, h5, h6, rfl⟩ := lCons_some e
  refine h2 G F env s H d1 e1 k h5 _ fun F1 H1 v k1 s1 p1 => ?_
  refine h4 G F1 e1 s H1 r env' k1 h6 _ fun F2 H2 vs k2 s2 p2 => ?_
  exact q F2 H2 _ k2 (s1.trans s2) (.cons (Dt.mono s2 d1 v p1) p2)
def eTup (g : Lf) : Ef := fun env => (g env).bind fun r => if fits r.1.length then some (.tuple r.1, r.2) else none
theorem xe_tup {x1} {g : Lf} (h : XL X es g) : XE X (.Tuple es x1 pos) (eTup g) := by
  obtain ⟨t, h1, h2⟩ := h.ex
  refine ⟨_, pe_tup h1, fun G F env s H d env' k e Q q => ?_⟩
  unfold eTup at e
  obtain ⟨⟨ds, e1⟩, h3, e⟩ := Option.bind_eq_some_iff.mp e
  split at e
  · rename_i hf
    cases e
    refine h2 G F env s H ds _ k h3 _ fun F1 H1 vs k1 s1 p1 => ⟨by rw [p1.length]; exact fits_line hf, fun p hp => ?_⟩
    exact q _ _ _ (k1.alloc hp) (s1.trans (same_upd (k1.fr.free hp))) (.tup upd_same (Da.mono (same_upd (k1.fr.free hp)) _ _ p1))
  · cases e
def lLst (g : Lf) : Lf := fun env => (g env).bind fun r => if fits r.1.length then some (r.1, r.2) else none
theorem xn_lst {g : Lf} (h : XL X es g) : XN X (.List es pos) (lLst g) := by
  obtain ⟨t, h1, h2⟩ := h.ex
  refine ⟨_, pe_lst h1, fun G F env s H d env' k e Q q => ?_⟩
  unfold lLst at e
  obtain ⟨⟨ds, e1⟩, h3, e⟩ := Option.bind_eq_some_iff.mp e
  split at e
  · rename_i hf
    cases e
    refine h2 G F env s H ds _ k h3 _ fun F1 H1 vs k1 s1 p1 => ⟨by rw [p1.length]; exact fits_line hf, fun p hp => ?_⟩
    exact q F1 _ p vs (k1.laid hp) s1 upd_same (k1.fr.free hp) (k1.dom p hp) (k1.pin.free hp) (k1.notown hp) p1
  · cases e
/-! ### subscripts -/
def gIdx : D → D → Option D
  | .list ds, .int i => atI ds i
  | .tuple ds, .int i => atI ds i
  | .str x, .int i => if fits x.length then (atI x.cps.toList i).map fun c => .str ⟨#[c]⟩ else none
  | _, _ => none
theorem Da.at_ {F : Hp} {ds : List D} {vs : List V} {i : Int} {d : D} (h : Da F vs ds) (e : atI ds i = some d) : ∃ v, atI vs i = some v ∧ Dt F v d := by
  unfold atI at e ⊢
  rw [h.length]
  cases hx : ixN ds.length i with
  | none => rw [hx] at e; cases e
  | some j =>
    rw [hx] at e
    obtain ⟨v, h1, h2⟩ := h.get (show ds[j]? = some d from e)
    exact ⟨v, h1, h2⟩
theorem gq_idx : GQ K (rIx K) gIdx := by
  intro G F env s H x y d e z k h1 h2 h3 Q q
  unfold gIdx at h3
  split at h3
  · obtain ⟨p, vs, rfl, h4, h5⟩ := h1.list k.fr
    obtain ⟨v, h6, h7⟩ := h5.at_ h3
    exact .inl ⟨p, vs, _, v, rfl, h2.int, h4, h6, q F H v k (Same.refl F) h7⟩
  · obtain ⟨p, vs, rfl, h4, _, h5⟩ := h1.tup k.fr
    obtain ⟨v, h6, h7⟩ := h5.at_ h3
    exact .inr (.inl ⟨p, vs, _, v, rfl, h2.int, SqT.of h4, h6, q F H v k (Same.refl F) h7⟩)
  · split at h3
    · rename_i hf
      obtain ⟨c, h4, h5⟩ := Option.map_eq_some_iff.mp h3
      cases h5
      exact .inr (.inr ⟨_, _, c, h1.str, h2.int, fits_line hf, h4, q F H _ k (Same.refl F) (.str _)⟩)
    · cases h3
  · cases h3
theorem xe_idx (ha : XE X a fa) (hb : XE X b fb) (hs : PlainIx b := by intro _ _; rfl) : XE X (.Subscript a b pos) (eBin gIdx fa fb) :=
  let ⟨_, h1, h2⟩ := ha.ex; let ⟨_, h3, h4⟩ := hb.ex; ⟨_, pe_ix ix_seq h1 h3 hs, re_bin gq_idx.go h2 h4⟩
theorem xe_idxV {x : Str} {p2 : Pos} (i : Nat) (hb : XE X b fb) (hN : X.N[i]? = some x := by rfl) (hv : Vis X.env.scope x := by first | exact Or.inl rfl | exact Or.inr (Or.inl rfl) | exact Or.inr (Or.inr rfl)) (hd : (x == ("__debug__" : Str)) = false := by decide)
    (hcd : (x == ("__classdict__" : Str)) = false := by decide) (hs : PlainIx b := by intro _ _; rfl) : XE X (.Subscript (.Name x p2) b pos) (eBinV gIdx i fb) :=
  let ⟨_, h3, h4⟩ := hb.ex; ⟨_, pe_ix ix_seq (pe_var hN hv hd hcd) h3 hs, re_binV gq_idx h4⟩

/-! ### slices -/
abbrev Pf := En → Option (Option Int × En)
def RP (K : Frg) (t : TO) (f : Pf) : Prop := ∀ G F env s H o env', Ok K G F env s H → f env = some (o, env') → ∀ Q : Option Int → Hp → Prop, (∀ F' H', Ok K G F' env' s H' → Same F F' → Q o H') → t s H Q
structure XP (X : Cx) (e : Option Expr) (f : Pf) : Prop where
  ex : ∃ t, PO X e t ∧ RP X.K t f
def pNo : Pf := fun env => some (none, env)
def pE (f : Ef) : Pf := fun env => (f env).bind fun r => match r.1 with
  | .int i => some (some i, r.2)
  | _ => none
theorem xp_none : XP X none pNo := ⟨_, po_none, fun G F env s H d env' k e Q q => by cases e; exact q F H k (Same.refl F)⟩
theorem xp_some (h : XE X a fa) : XP X (some a) (pE fa) := by
  obtain ⟨t, h1, h2⟩ := h.ex
  refine ⟨_, po_some h1, fun G F env s H d env' k e Q q => ?_⟩
  unfold pE at e
  obtain ⟨⟨c, e1⟩, h3, e⟩ := Option.bind_eq_some_iff.mp e
  refine h2 G F env s H c e1 k h3 _ fun F1 H1 v k1 s1 p1 => ?_
  cases p1 with
  | int i => cases e; exact ⟨i, rfl, q F1 H1 k1 s1⟩
  | _ => cases e
def cutD (xs : List D) (lo hi : Option Int) : List D := (xs.drop (HT.sIx xs.length 0 lo)).take (HT.sIx xs.length xs.length hi - HT.sIx xs.length 0 lo)
theorem Da.cut {F : Hp} {ds : List D} {vs : List V} (h : Da F vs ds) (lo hi : Option Int) : Da F (cutV vs lo hi) (cutD ds lo hi) := by
  unfold cutV cutD
  rw [h.length]
  exact (h.drop _).take _
def eSl (fa : Ef) (l h : Pf) : Ef := fun env => (fa env).bind fun r => (l r.2).bind fun q => (h q.2).bind fun w => match r.1 with
  | .list ds => some (.list (cutD ds q.1 w.1), w.2)
  | .tuple ds => some (.tuple (cutD ds q.1 w.1), w.2)
  | .str x => if fits x.length then some (.str (cutS x q.1 w.1), w.2) else none
  | _ => none
theorem cutD_whole {ds : List D} {vs : List V} {F : Hp} {lo hi : Option Int} (h : Da F vs ds) (w : HT.sIx vs.length 0 lo = 0 ∧ HT.sIx vs.length vs.length hi = vs.length) : cutD ds lo hi = ds := by
  unfold cutD
  rw [← h.length, w.1, w.2, List.drop_zero, Nat.sub_zero, h.length, List.take_length]
theorem sl_any : SlR X (fun x lo hi H Q => rSlL X.K x lo hi H Q ∨ rSlA X.K x lo hi H Q ∨ rSlS x lo hi H Q) := sl_list.or (sl_tupA.or sl_str)
theorem re_slice {lo hi : Option Expr} {pl ph : Pf} {t : TE} {tl th : TO} (h2 : RE K t fa) (h4 : RP K tl pl) (h6 : RP K th ph) :
    RE K (tSl (fun x lo hi H Q => rSlL K x lo hi H Q ∨ rSlA K x lo hi H Q ∨ rSlS x lo hi H Q) t tl th) (eSl fa pl ph) := fun G F env s H d env' k e Q q => by
  unfold eSl at e
  obtain ⟨⟨c, e1⟩, h7, e⟩ := Option.bind_eq_some_iff.mp e
  obtain ⟨⟨l, e2⟩, h8, e⟩ := Option.bind_eq_some_iff.mp e
  obtain ⟨⟨u, e3⟩, h9, e⟩ := Option.bind_eq_some_iff.mp e
  refine h2 G F env s H c e1 k h7 _ fun F1 H1 v k1 s1 p1 => ?_
  refine h4 G F1 e1 s H1 l e2 k1 h8 _ fun F2 H2 k2 s2 => ?_
  refine h6 G F2 e2 s H2 u e3 k2 h9 _ fun F3 H3 k3 s3 => ?_
  have p3 := Dt.mono (s2.trans s3) c v p1
  have ss := (s1.trans s2).trans s3
  cases p3 with
  | lst a1 b1 =>
    cases e
    refine .inl ⟨_, _, rfl, SqL.of (k3.fr _ _ a1), fun p hp => ?_⟩
    exact q _ _ _ (k3.alloc hp) (ss.trans (same_upd (k3.fr.free hp))) (.lst upd_same (Da.mono (same_upd (k3.fr.free hp)) _ _ (b1.cut l u)))
  | tup a1 b1 =>
    cases e
    refine .inr (.inl ⟨_, _, rfl, SqT.of (k3.fr _ _ a1), fun w => ?_, fun w p hp => ?_⟩)
    · rw [cutD_whole b1 w] at q
      exact q F3 H3 _ k3 ss (.tup a1 b1)
    · exact q _ _ _ (k3.alloc hp) (ss.trans (same_upd (k3.fr.free hp))) (.tup upd_same (Da.mono (same_upd (k3.fr.free hp)) _ _ (b1.cut l u)))
  | str x =>
    dsimp only at e
    split at e
    · rename_i hf
      cases e
      exact .inr (.inr ⟨_, rfl, fits_line hf, q F3 H3 _ k3 ss (.str _)⟩)
    · cases e
  | _ => cases e
theorem xe_slice {p2 : Pos} {lo hi : Option Expr} {pl ph : Pf} (ha : XE X a fa) (hl : XP X lo pl) (hh : XP X hi ph) : XE X (.Subscript a (.Slice lo hi none p2) pos) (eSl fa pl ph) :=
  let ⟨_, h1, h2⟩ := ha.ex; let ⟨_, h3, h4⟩ := hl.ex; let ⟨_, h5, h6⟩ := hh.ex; ⟨_, pe_slice sl_any h1 h3 h5, re_slice (lo := lo) (hi := hi) h2 h4 h6⟩
/-- a slice of a list that is read only, or the def's own, by its name -/
def lSlV (i : Nat) (l h : Pf) : Lf := fun env => (eO i env).bind fun _ => (l env).bind fun q => (h q.2).bind fun w => (eO i w.2).bind fun r => match r.1 with
  | .list ds => some (cutD ds q.1 w.1, w.2)
  | _ => none
theorem xn_sliceV {x : Str} {p2 p3 : Pos} {lo hi : Option Expr} {pl ph : Pf} (i : Nat) (hl : XP X lo pl) (hh : XP X hi ph) (hN : X.N[i]? = some x := by rfl) (hv : Vis X.env.scope x := by first | exact Or.inl rfl | exact Or.inr (Or.inl rfl) | exact Or.inr (Or.inr rfl))
    (hd : (x == ("__debug__" : Str)) = false := by decide) (hcd : (x == ("__classdict__" : Str)) = false := by decide) : XN X (.Subscript (.Name x p3) (.Slice lo hi none p2) pos) (lSlV i pl ph) := by
  obtain ⟨tl, h3, h4⟩ := hl.ex
  obtain ⟨th, h5, h6⟩ := hh.ex
  refine ⟨_, pe_slice sl_list (pe_var hN hv hd hcd) h3 h5, fun G F env s H d env' k e Q q => ?_⟩
  unfold lSlV at e
  obtain ⟨⟨c0, e0⟩, h0, e⟩ := Option.bind_eq_some_iff.mp e
  obtain ⟨⟨l, e2⟩, h8, e⟩ := Option.bind_eq_some_iff.mp e
  obtain ⟨⟨u, e3⟩, h9, e⟩ := Option.bind_eq_some_iff.mp e
  obtain ⟨⟨c, e4⟩, h7, e⟩ := Option.bind_eq_some_iff.mp e
  obtain ⟨v, hv0, _⟩ := dq_slot k h0
  refine ⟨v, hv0, ?_⟩
  refine h4 G F env s H l e2 k h8 _ fun F2 H2 k2 s2 => ?_
  refine h6 G F2 e2 s H2 u e3 k2 h9 _ fun F3 H3 k3 s3 => ?_
  obtain ⟨v', hv', hq⟩ := dq_slot k3 h7
  rw [hv0] at hv'
  cases hv'
  dsimp only at e
  split at e
  · rename_i ds
    cases e
    obtain ⟨p, vs, rfl, h10, h11⟩ := hq.list k3.fr
    refine ⟨p, vs, rfl, h10, fun p' hp => ?_⟩
    exact q F3 _ p' _ (k3.laid hp) (s2.trans s3) upd_same (k3.fr.free hp) (k3.dom p' hp) (k3.pin.free hp) (k3.notown hp) (h11.cut l u)
  · cases e
end
end M

namespace M
open PySem PySem.Spec PyProof.Rows L2

/-! ### arguments of a def: values, or the caller's own lists by their slots (i: to be changed, or read only) -/
inductive Ar where
  | v (d : D) | r (i : Nat) | o (i : Nat)
abbrev Af := En → Option (List Ar × En)
inductive ArOk (F : Hp) (s : L2.St) : Ar → V → Prop
  | v {d : D} {v : V} (h : Dt F v d) : ArOk F s (.v d) v
  | r {i : Nat} {v : V} (h : s[i]? = some (some v)) : ArOk F s (.r i) v
  | o {i : Nat} {v : V} (h : s[i]? = some (some v)) : ArOk F s (.o i) v
inductive ArsOk (F : Hp) (s : L2.St) : List Ar → List V → Prop
  | nil : ArsOk F s [] []
  | cons {a : Ar} {as : List Ar} {v : V} {vs : List V} (h : ArOk F s a v) (t : ArsOk F s as vs) : ArsOk F s (a :: as) (v :: vs)
theorem ArOk.mono {F F' : Hp} {s : L2.St} {a : Ar} {v : V} (e : Same F F') (h : ArOk F s a v) : ArOk F' s a v := by
  cases h with
  | v h => exact .v (Dt.mono e _ _ h)
  | r h => exact .r h
  | o h => exact .o h
theorem ArsOk.length {F : Hp} {s : L2.St} : ∀ {as : List Ar} {vs : List V}, ArsOk F s as vs → vs.length = as.length
  | [], _, h => by cases h; rfl
  | a :: as, _, h => by cases h with | cons h t => simp [ArsOk.length t]
theorem ArsOk.get {F : Hp} {s : L2.St} : ∀ {as : List Ar} {vs : List V} {j : Nat} {a : Ar}, ArsOk F s as vs → as[j]? = some a → ∃ v, vs[j]? = some v ∧ ArOk F s a v
  | [], _, _, _, _, e => by simp at e
  | a :: as, _, 0, _, h, e => by cases h with | cons h t => simp at e; subst e; exact ⟨_, rfl, h⟩
  | a :: as, _, j + 1, _, h, e => by
    cases h with
    | cons h t =>
      obtain ⟨v, h1, h2⟩ := ArsOk.get (j := j) t (by simpa using e)
      exact ⟨v, by simpa using h1, h2⟩
def RA (K : Frg) (t : TA) (f : Af) : Prop := ∀ G F env s H as env', Ok K G F env s H → f env = some (as, env') → ∀ Q : List V → Hp → Prop, (∀ F' H' vs, Ok K G F' env' s H' → Same F F' → ArsOk F' s as vs → Q vs H') → t s H Q
structure XA (X : Cx) (es : List Expr) (f : Af) : Prop where
  ex : ∃ t, PA X es t ∧ RA X.K t f
def aNil : Af := fun env => some ([], env)
def aV (f : Ef) (g : Af) : Af := fun env => (f env).bind fun r => (g r.2).map fun q => (.v r.1 :: q.1, q.2)
def aR (i : Nat) (g : Af) : Af := fun env => (eO i env).bind fun _ => (g env).map fun q => (.r i :: q.1, q.2)
def aO (i : Nat) (g : Af) : Af := fun env => (eO i env).bind fun _ => (g env).map fun q => (.o i :: q.1, q.2)
section
variable {X : Cx} {e : Expr} {es : List Expr} {f : Ef} {g : Af} {pos : Pos}
theorem xa_nil : XA X [] aNil := ⟨_, pa_nil, fun G F env s H d env' k e Q q => by cases e; exact q F H [] k (Same.refl F) .nil⟩
theorem xa_v (ha : XE X e f) (hr : XA X es g) (hs : starEach (e :: es) X.env = (false, eval e X.env) :: starEach es X.env := by rfl) : XA X (e :: es) (aV f g) := by
  obtain ⟨ta, h1, h2⟩ := ha.ex
  obtain ⟨tr, h3, h4⟩ := hr.ex
  refine ⟨_, pa_cons h1 h3 hs, fun G F env s H as env' k e Q q => ?_⟩
  unfold aV at e
  obtain ⟨⟨d1, e1⟩, h5, e⟩ := Option.bind_eq_some_iff.mp e
  obtain ⟨⟨r, e2⟩, h6, e⟩ := Option.map_eq_some_iff.mp e
  cases e
  refine h2 G F env s H d1 e1 k h5 _ fun F1 H1 v k1 s1 p1 => ?_
  refine h4 G F1 e1 s H1 r _ k1 h6 _ fun F2 H2 vs k2 s2 p2 => ?_
  exact q F2 H2 _ k2 (s1.trans s2) (.cons (.v (Dt.mono s2 d1 v p1)) p2)
theorem xa_r (i : Nat) {x : Str} (hr : XA X es g) (hN : X.N[i]? = some x := by rfl) (hv : Vis X.env.scope x := by first | exact Or.inl rfl | exact Or.inr (Or.inl rfl) | exact Or.inr (Or.inr rfl)) (hd : (x == ("__debug__" : Str)) = false := by decide)
    (hcd : (x == ("__classdict__" : Str)) = false := by decide) (hs : starEach (.Name x pos :: es) X.env = (false, eval (.Name x pos) X.env) :: starEach es X.env := by rfl) : XA X (.Name x pos :: es) (aR i g) := by
  obtain ⟨tr, h3, h4⟩ := hr.ex
  refine ⟨_, pa_cons (pe_var hN hv hd hcd) h3 hs, fun G F env s H as env' k e Q q => ?_⟩
  unfold aR at e
  obtain ⟨⟨d1, e1⟩, h5, e⟩ := Option.bind_eq_some_iff.mp e
  obtain ⟨⟨r, e2⟩, h6, e⟩ := Option.map_eq_some_iff.mp e
  cases e
  obtain ⟨v, h7, _⟩ := dq_slot k h5
  refine ⟨v, h7, ?_⟩
  exact h4 G F env s H r _ k h6 _ fun F2 H2 vs k2 s2 p2 => q F2 H2 _ k2 s2 (.cons (.r h7) p2)
theorem xa_o (i : Nat) {x : Str} (hr : XA X es g) (hN : X.N[i]? = some x := by rfl) (hv : Vis X.env.scope x := by first | exact Or.inl rfl | exact Or.inr (Or.inl rfl) | exact Or.inr (Or.inr rfl)) (hd : (x == ("__debug__" : Str)) = false := by decide)
    (hcd : (x == ("__classdict__" : Str)) = false := by decide) (hs : starEach (.Name x pos :: es) X.env = (false, eval (.Name x pos) X.env) :: starEach es X.env := by rfl) : XA X (.Name x pos :: es) (aO i g) := by
  obtain ⟨tr, h3, h4⟩ := hr.ex
  refine ⟨_, pa_cons (pe_var hN hv hd hcd) h3 hs, fun G F env s H as env' k e Q q => ?_⟩
  unfold aO at e
  obtain ⟨⟨d1, e1⟩, h5, e⟩ := Option.bind_eq_some_iff.mp e
  obtain ⟨⟨r, e2⟩, h6, e⟩ := Option.map_eq_some_iff.mp e
  cases e
  obtain ⟨v, h7, _⟩ := dq_slot k h5
  refine ⟨v, h7, ?_⟩
  exact h4 G F env s H r _ k h6 _ fun F2 H2 vs k2 s2 p2 => q F2 H2 _ k2 s2 (.cons (.o h7) p2)
end

/-! ### what a def does: arguments in, a value and the lists handed in to be changed out -/
abbrev Gf := List Sl → Option (D × List Sl)
open Classical in
/-- the heap without the lists handed in to be changed -/
noncomputable def minus (H : Hp) (args : List Sl) (vs : List V) : Hp := fun a => if (∃ (j : Nat) (l : Bool) (es : List D), args[j]? = some (.own l es) ∧ vs[j]? = some (.ref a)) then none else H a
theorem minus_some {H : Hp} {args : List Sl} {vs : List V} {a : Addr} {o : HO} (h : H a = some o) (n : ∀ (j : Nat) l es, args[j]? = some (.own l es) → vs[j]? ≠ some (.ref a)) : minus H args vs a = some o := by
  unfold minus
  rw [if_neg fun ⟨j, l, es, h1, h2⟩ => n j l es h1 h2]
  exact h
theorem minus_of {H : Hp} {args : List Sl} {vs : List V} {a : Addr} {o : HO} (h : minus H args vs a = some o) : H a = some o ∧ ∀ (j : Nat) l es, args[j]? = some (.own l es) → vs[j]? ≠ some (.ref a) := by
  unfold minus at h
  split at h
  · cases h
  · rename_i n
    exact ⟨h, fun j l es h1 h2 => n ⟨j, l, es, h1, h2⟩⟩
structure ArgsOk (K : Frg) (F H : Hp) (args : List Sl) (vs : List V) : Prop where
  len : vs.length = args.length
  val : ∀ (i : Nat) d, args[i]? = some (.val d) → ∃ v, vs[i]? = some v ∧ Dt F v d
  own : ∀ (i : Nat) l ds, args[i]? = some (.own l ds) → l = false ∧ ∃ a us, vs[i]? = some (.ref a) ∧ H a = some (.lst us) ∧ F a = none ∧ Da F us ds
  ro : ∀ (i : Nat) ds, args[i]? = some (.ro ds) → ∃ a us, vs[i]? = some (.ref a) ∧ SqL K (minus H args vs) a us ∧ Da F us ds
  sep : ∀ (i j : Nat) l ds m es, args[i]? = some (.own l ds) → args[j]? = some (.own m es) → vs[i]? = vs[j]? → i = j
  dct : ∀ (i : Nat) w kvs, args[i]? ≠ some (.dct w kvs)
structure Post (F H F' H' : Hp) (args args' : List Sl) (vs : List V) (v : V) (d : D) : Prop where
  keep : Same (minus H args vs) H'
  dom : ∀ a, H' a = none → H a = none
  grow : Same F F'
  fr : Same F' H'
  new : ∀ a o, F' a = some o → F a = some o ∨ H a = none
  res : Dt F' v d
  own : ∀ (i : Nat) l ds, args[i]? = some (.own l ds) → ∀ ds', args'[i]? = some (.own false ds') → ∀ a, vs[i]? = some (.ref a) → ∃ us, H' a = some (.lst us) ∧ F' a = none ∧ Da F' us ds'
def spF (K : Frg) (g : Gf) : Sp := fun vs H Q _ => ∃ F args d args', g args = some (d, args') ∧ Same F H ∧ ArgsOk K F H args vs ∧ ∀ F' H' v, Post F H F' H' args args' vs v d → Q v H'

def resAr (env : En) : Ar → Option Sl
  | .v d => some (.val d)
  | .r i => match env[i]? with
    | some (.own _ ds) => some (.own false ds)
    | _ => none
  | .o i => match env[i]? with
    | some (.own _ ds) => some (.ro ds)
    | some (.ro ds) => some (.ro ds)
    | some (.val (.list ds)) => some (.ro ds)
    | _ => none
def resArs (env : En) : List Ar → Option (List Sl)
  | [] => some []
  | a :: as => (resAr env a).bind fun x => (resArs env as).map fun r => x :: r
/-- at most one slot is handed in to be changed, and it isn't handed in to be read besides -/
def rSlots : List Ar → List Nat
  | [] => []
  | .r i :: as => i :: rSlots as
  | .v _ :: as => rSlots as
  | .o _ :: as => rSlots as
def oSlots : List Ar → List Nat
  | [] => []
  | .o i :: as => i :: oSlots as
  | .v _ :: as => oSlots as
  | .r _ :: as => oSlots as
def backAr (env : En) : List Ar → List Sl → Option En
  | [], _ => some env
  | .r i :: as, x :: xs => match x, env[i]? with
    | .own false ds, some (.own l _) => backAr (env.set i (.own l ds)) as xs
    | _, _ => none
  | _ :: as, _ :: xs => backAr env as xs
  | _ :: _, [] => none
def eCall (g : Gf) (fa : Af) : Ef := fun env => (fa env).bind fun r =>
  match rSlots r.1 with
  | [] => (resArs r.2 r.1).bind fun args => (g args).map fun q => (q.1, r.2)
  | [i] => if (oSlots r.1).contains i then none else (resArs r.2 r.1).bind fun args => (g args).bind fun q => (backAr r.2 r.1 q.2).map fun env' => (q.1, env')
  | _ => none
theorem resArs_get {env : En} : ∀ {as : List Ar} {xs : List Sl} {j : Nat} {x : Sl}, resArs env as = some xs → xs[j]? = some x → ∃ a, as[j]? = some a ∧ resAr env a = some x
  | [], xs, j, x, h, e => by cases h; simp at e
  | a :: as, xs, j, x, h, e => by
    unfold resArs at h
    obtain ⟨y, h1, h⟩ := Option.bind_eq_some_iff.mp h
    obtain ⟨r, h2, h⟩ := Option.map_eq_some_iff.mp h
    subst h
    cases j with
    | zero => simp at e; subst e; exact ⟨a, rfl, h1⟩
    | succ j =>
      obtain ⟨b, h3, h4⟩ := resArs_get (j := j) h2 (by simpa using e)
      exact ⟨b, by simpa using h3, h4⟩
theorem resArs_length {env : En} : ∀ {as : List Ar} {xs : List Sl}, resArs env as = some xs → xs.length = as.length
  | [], xs, h => by cases h; rfl
  | a :: as, xs, h => by
    unfold resArs at h
    obtain ⟨y, h1, h⟩ := Option.bind_eq_some_iff.mp h
    obtain ⟨r, h2, h⟩ := Option.map_eq_some_iff.mp h
    subst h
    simp [resArs_length h2]
theorem resArs_get2 {env : En} : ∀ {as : List Ar} {xs : List Sl} {j : Nat} {a : Ar}, resArs env as = some xs → as[j]? = some a → ∃ x, xs[j]? = some x ∧ resAr env a = some x
  | [], xs, j, x, h, e => by simp at e
  | a :: as, xs, j, b, h, e => by
    unfold resArs at h
    obtain ⟨y, h1, h⟩ := Option.bind_eq_some_iff.mp h
    obtain ⟨r, h2, h⟩ := Option.map_eq_some_iff.mp h
    subst h
    cases j with
    | zero => simp at e; subst e; exact ⟨y, rfl, h1⟩
    | succ j =>
      obtain ⟨b, h3, h4⟩ := resArs_get2 (j := j) h2 (by simpa using e)
      exact ⟨b, by simpa using h3, h4⟩
theorem rSlots_mem : ∀ {as : List Ar} {j i : Nat}, as[j]? = some (.r i) → i ∈ rSlots as
  | [], j, i, e => by simp at e
  | a :: as, 0, i, e => by simp at e; subst e; simp [rSlots]
  | a :: as, j + 1, i, e => by
    have h := rSlots_mem (as := as) (j := j) (i := i) (by simpa using e)
    cases a <;> simp [rSlots, h]
theorem oSlots_mem : ∀ {as : List Ar} {j i : Nat}, as[j]? = some (.o i) → i ∈ oSlots as
  | [], j, i, e => by simp at e
  | a :: as, 0, i, e => by simp at e; subst e; simp [oSlots]
  | a :: as, j + 1, i, e => by
    have h := oSlots_mem (as := as) (j := j) (i := i) (by simpa using e)
    cases a <;> simp [oSlots, h]
theorem rSlots_one : ∀ {as : List Ar} {i : Nat}, rSlots as = [i] → ∀ (j j' : Nat), as[j]? = some (.r i) → as[j']? = some (.r i) → j = j'
  | [], i, h, _, _, _, _ => by cases h
  | .v d :: as, i, h, 0, _, e, _ => by simp at e
  | .o d :: as, i, h, 0, _, e, _ => by simp at e
  | .v d :: as, i, h, _ + 1, 0, _, e => by simp at e
  | .o d :: as, i, h, _ + 1, 0, _, e => by simp at e
  | .v d :: as, i, h, j + 1, j' + 1, e, e' => by rw [rSlots_one (as := as) h j j' (by simpa using e) (by simpa using e')]
  | .o d :: as, i, h, j + 1, j' + 1, e, e' => by rw [rSlots_one (as := as) h j j' (by simpa using e) (by simpa using e')]
  | .r k :: as, i, h, j, j', e, e' => by
    have h0 : rSlots as = [] := by simp [rSlots] at h; exact h.2
    cases j with
    | zero =>
      cases j' with
      | zero => rfl
      | succ j' =>
        have := rSlots_mem (as := as) (j := j') (i := i) (by simpa using e')
        rw [h0] at this; cases this
    | succ j =>
      have := rSlots_mem (as := as) (j := j) (i := i) (by simpa using e)
      rw [h0] at this; cases this
/-- writing back: only the slot handed in -/
theorem backAr_one : ∀ {as : List Ar} {xs : List Sl} {env env' : En} {i : Nat}, rSlots as = [i] → backAr env as xs = some env' → ∃ (j : Nat) (l : Bool) (ds es : List D), as[j]? = some (.r i) ∧ xs[j]? = some (.own false ds) ∧ env[i]? = some (.own l es) ∧ env' = env.set i (.own l ds)
  | [], _, _, _, _, h, _ => by cases h
  | .v d :: as, [], _, _, _, h, e => by simp [backAr] at e
  | .o d :: as, [], _, _, _, h, e => by simp [backAr] at e
  | .r d :: as, [], _, _, _, h, e => by simp [backAr] at e
  | .v d :: as, x :: xs, env, env', i, h, e => by
    obtain ⟨j, l, ds, es, h1, h2, h3, h4⟩ := backAr_one (as := as) (xs := xs) (env := env) h (by simpa [backAr] using e)
    exact ⟨j + 1, l, ds, es, by simpa using h1, by simpa using h2, h3, h4⟩
  | .o d :: as, x :: xs, env, env', i, h, e => by
    obtain ⟨j, l, ds, es, h1, h2, h3, h4⟩ := backAr_one (as := as) (xs := xs) (env := env) h (by simpa [backAr] using e)
    exact ⟨j + 1, l, ds, es, by simpa using h1, by simpa using h2, h3, h4⟩
  | .r k :: as, x :: xs, env, env', i, h, e => by
    have h0 : rSlots as = [] ∧ k = i := by simp [rSlots] at h; exact ⟨h.2, h.1⟩
    obtain ⟨h0, rfl⟩ := h0
    have key : ∀ (as : List Ar) (xs : List Sl) (env env' : En), rSlots as = [] → backAr env as xs = some env' → env' = env := by
      intro as
      induction as with
      | nil => intro xs env env' _ e; simp [backAr] at e; exact e.symm
      | cons a as ih =>
        intro xs env env' h e
        cases a with
        | v d => cases xs with
          | nil => simp [backAr] at e
          | cons x xs => exact ih xs env env' h (by simpa [backAr] using e)
        | o d => cases xs with
          | nil => simp [backAr] at e
          | cons x xs => exact ih xs env env' h (by simpa [backAr] using e)
        | r i => simp [rSlots] at h
    unfold backAr at e
    split at e
    · rename_i ds l es h1
      have e2 := key _ _ _ _ h0 e
      exact ⟨0, l, ds, es, rfl, rfl, h1, e2⟩
    · cases e

theorem resAr_val {env : En} {a : Ar} {d : D} (h : resAr env a = some (.val d)) : a = .v d := by
  cases a with
  | v d' => simp [resAr] at h; rw [h]
  | r i => simp only [resAr] at h; split at h <;> cases h
  | o i => simp only [resAr] at h; split at h <;> cases h
theorem resAr_own {env : En} {a : Ar} {l : Bool} {ds : List D} (h : resAr env a = some (.own l ds)) : l = false ∧ ∃ i m, a = .r i ∧ env[i]? = some (.own m ds) := by
  cases a with
  | v d' => simp [resAr] at h
  | r i =>
    simp only [resAr] at h
    split at h
    · rename_i m es e
      cases h
      exact ⟨rfl, i, m, rfl, e⟩
    · cases h
  | o i => simp only [resAr] at h; split at h <;> cases h
theorem resAr_ro {env : En} {a : Ar} {ds : List D} (h : resAr env a = some (.ro ds)) : ∃ i, a = .o i ∧ ((∃ m, env[i]? = some (.own m ds)) ∨ env[i]? = some (.ro ds) ∨ env[i]? = some (.val (.list ds))) := by
  cases a with
  | v d' => simp [resAr] at h
  | r i => simp only [resAr] at h; split at h <;> cases h
  | o i =>
    simp only [resAr] at h
    split at h
    · rename_i m es e
      cases h
      exact ⟨i, rfl, .inl ⟨_, e⟩⟩
    · rename_i es e
      cases h
      exact ⟨i, rfl, .inr (.inl e)⟩
    · rename_i es e
      cases h
      exact ⟨i, rfl, .inr (.inr e)⟩
    · cases h
theorem resAr_dct {env : En} {a : Ar} {w : World} {kvs : List (D × D)} : resAr env a ≠ some (.dct w kvs) := fun h => by
  cases a with
  | v d' => simp [resAr] at h
  | r i => simp only [resAr] at h; split at h <;> cases h
  | o i => simp only [resAr] at h; split at h <;> cases h
section
variable {K : Frg} {G : Gm} {F F' : Hp} {env : En} {s : L2.St} {H H' : Hp} {as : List Ar} {vs : List V} {args args' : List Sl} {v : V} {d : D}
theorem own_arg (k : Ok K G F env s H) (p : ArsOk F s as vs) (hr : resArs env as = some args) {j : Nat} {l : Bool} {ds : List D} (h : args[j]? = some (.own l ds)) :
    l = false ∧ ∃ i m, i ∈ rSlots as ∧ as[j]? = some (.r i) ∧ env[i]? = some (.own m ds) ∧ ∃ x, vs[j]? = some x ∧ s[i]? = some (some x) := by
  obtain ⟨a, h1, h2⟩ := resArs_get hr h
  obtain ⟨e, i, m, rfl, h3⟩ := resAr_own h2
  obtain ⟨x, h4, h5⟩ := p.get h1
  cases h5 with
  | r h5 => exact ⟨e, i, m, rSlots_mem h1, h1, h3, x, h4, h5⟩
/-- an object that is none of the slots handed in -/
theorem minus_slot (k : Ok K G F env s H) (p : ArsOk F s as vs) (hr : resArs env as = some args) {a : Addr} {o : HO} (h : H a = some o) (n : ∀ i ∈ rSlots as, ∀ m ds, env[i]? = some (.own m ds) → s[i]? ≠ some (some (.ref a))) : minus H args vs a = some o :=
  minus_some h fun j l es h1 h2 => by
    obtain ⟨_, i, m, hi, _, h3, x, h4, h5⟩ := own_arg k p hr h1
    rw [h2] at h4
    cases h4
    exact n i hi m es h3 h5
theorem minus_pin (k : Ok K G F env s H) (p : ArsOk F s as vs) (hr : resArs env as = some args) : Same G.P (minus H args vs) := fun a o e =>
  minus_slot k p hr (k.pin a o e) fun i _ m ds h1 h2 => by
    obtain ⟨b, us, h3, _, _, h4, _⟩ := k.own i m ds h1
    rw [h2] at h3
    cases h3
    rw [h4] at e; cases e
theorem minus_fr (k : Ok K G F env s H) (p : ArsOk F s as vs) (hr : resArs env as = some args) : Same F (minus H args vs) := fun a o e =>
  minus_slot k p hr (k.fr a o e) fun i _ m ds h1 h2 => by
    obtain ⟨b, us, h3, _, h4, _⟩ := k.own i m ds h1
    rw [h2] at h3
    cases h3
    rw [h4] at e; cases e
theorem args_ok (k : Ok K G F env s H) (p : ArsOk F s as vs) (hr : resArs env as = some args) (h1 : ∀ i ∈ rSlots as, i ∉ oSlots as) (h2 : ∀ i ∈ rSlots as, ∀ (j j' : Nat), as[j]? = some (.r i) → as[j']? = some (.r i) → j = j') : ArgsOk K F H args vs where
  len := by rw [p.length, resArs_length hr]
  val := fun i d e => by
    obtain ⟨a, h3, h4⟩ := resArs_get hr e
    have h5 := resAr_val h4
    subst h5
    obtain ⟨x, h6, h7⟩ := p.get h3
    cases h7 with
    | v h7 => exact ⟨x, h6, h7⟩
  own := fun j l ds e => by
    obtain ⟨e1, i, m, hi, h3, h4, x, h5, h6⟩ := own_arg k p hr e
    obtain ⟨a, us, h7, h8, h9, _, h10, _⟩ := k.own i m ds h4
    rw [h6] at h7
    cases h7
    exact ⟨e1, a, us, h5, h8, h9, h10⟩
  ro := fun j ds e => by
    obtain ⟨a, h3, h4⟩ := resArs_get hr e
    obtain ⟨i, rfl, h5⟩ := resAr_ro h4
    obtain ⟨x, h6, h7⟩ := p.get h3
    cases h7 with
    | o h7 =>
      rcases h5 with ⟨m, h5⟩ | h5 | h5
      · obtain ⟨a, us, h8, h9, h10, _, h11, _⟩ := k.own i m ds h5
        rw [h7] at h8
        cases h8
        refine ⟨a, us, h6, SqL.of (minus_slot k p hr h9 fun i' hi' m' ds' g1 g2 => ?_), h11⟩
        have e2 := k.sep i' i m' ds' m ds g1 h5 (g2.trans h7.symm)
        subst e2
        exact h1 i' hi' (oSlots_mem h3)
      · obtain ⟨a, us, h8, h9, h10⟩ := k.ro i ds h5
        rw [h7] at h8
        cases h8
        exact ⟨a, us, h6, (k.rin.trans (minus_pin k p hr)).seq h9, h10⟩
      · obtain ⟨y, h8, h9⟩ := k.val i _ h5
        rw [h7] at h8
        cases h8
        cases h9 with
        | lst a1 b1 => exact ⟨_, _, h6, SqL.of (minus_fr k p hr _ _ a1), b1⟩
  sep := fun i j l ds m es h3 h4 h5 => by
    obtain ⟨_, i1, m1, hi1, g1, g2, x1, g3, g4⟩ := own_arg k p hr h3
    obtain ⟨_, i2, m2, hi2, q1, q2, x2, q3, q4⟩ := own_arg k p hr h4
    rw [g3, q3] at h5
    cases h5
    have e2 := k.sep i1 i2 _ _ _ _ g2 q2 (g4.trans q4.symm)
    subst e2
    exact h2 i1 hi1 i j g1 q1
  dct := fun i w kvs e => by
    obtain ⟨a, h3, h4⟩ := resArs_get hr e
    exact resAr_dct h4
/-- behind the call -/
theorem ok_after (k : Ok K G F env s H) (p : ArsOk F s as vs) (hr : resArs env as = some args) (q : Post F H F' H' args args' vs v d) {env' : En} (hl : env'.length = env.length)
    (he : ∀ (j : Nat), env'[j]? = env[j]? ∨ (∃ (m : Nat) (l : Bool) (ds es : List D), as[m]? = some (.r j) ∧ args'[m]? = some (.own false ds) ∧ env[j]? = some (.own l es) ∧ env'[j]? = some (.own l ds))) (hn : ∀ i ∈ rSlots as, ∀ (j : Nat), env'[j]? = env[j]? → (∃ (m : Nat) (l : Bool) (ds : List D), args'[m]? = some (.own false ds) ∧ as[m]? = some (.r i) ∧ env'[i]? = some (.own l ds))) :
    Ok K G F' env' s H' := by
  have back : ∀ (j : Nat) l ds, env'[j]? = some (.own l ds) → ∃ es, env[j]? = some (.own l es) := fun j l ds e => by
    rcases he j with h | ⟨m, l', ds', es, _, _, h3, h4⟩
    · rw [h] at e; exact ⟨ds, e⟩
    · rw [h4] at e; cases e; exact ⟨es, h3⟩
  refine ⟨by rw [k.len, hl], q.fr, fun i d' e => ?_, fun i l ds e => ?_, fun i ds e => ?_, fun i j l ds m es e1 e2 e3 => ?_, fun a o e => q.keep a o (minus_pin k p hr a o e), fun a e => k.dom a (q.dom a e), k.grow.trans q.grow, fun a o e => ?_, k.rin, k.dct.move q.grow (fun i w kvs e => ⟨?_, rfl⟩) fun a es g1 g2 g3 g4 hx => ⟨?_, ?_, g3, g4⟩⟩
  · rcases he i with h | ⟨m, l', ds', es, _, _, h3, h4⟩
    · rw [h] at e
      obtain ⟨x, h1, h2⟩ := k.val i d' e
      exact ⟨x, h1, Dt.mono q.grow _ _ h2⟩
    · rw [h4] at e; cases e
  · by_cases hi : i ∈ rSlots as
    · have : ∃ (m : Nat) (ds' : List D), args'[m]? = some (.own false ds') ∧ as[m]? = some (.r i) ∧ env'[i]? = some (.own l ds') := by
        rcases he i with h | ⟨m, l', ds', es, g1, g2, g3, g4⟩
        · obtain ⟨m, l', ds', g1, g2, g3⟩ := hn i hi i h
          have : l' = l := by rw [e] at g3; cases g3; rfl
          subst this
          exact ⟨m, ds', g1, g2, g3⟩
        · have : l' = l := by rw [e] at g4; cases g4; rfl
          subst this
          exact ⟨m, ds', g2, g1, g4⟩
      obtain ⟨m, ds', g1, g2, g3⟩ := this
      rw [e] at g3
      cases g3
      obtain ⟨es, g4⟩ := back i l ds e
      obtain ⟨a, us, h1, h2, h3, h4, h5, h6⟩ := k.own i l es g4
      obtain ⟨x, g5, g6⟩ := resArs_get2 hr g2
      simp only [resAr, g4] at g6
      cases g6
      obtain ⟨y, g7, g8⟩ := p.get g2
      cases g8 with
      | r g8 =>
        rw [h1] at g8
        cases g8
        obtain ⟨us', h7, h8, h9⟩ := q.own m false es g5 ds g1 a g7
        exact ⟨a, us', h1, h7, h8, h4, h9, h6⟩
    · have e' : env[i]? = some (.own l ds) := by
        rcases he i with h | ⟨m, l', ds', es, g1, g2, g3, g4⟩
        · rw [← h]; exact e
        · exact absurd (rSlots_mem g1) hi
      obtain ⟨a, us, h1, h2, h3, h4, h5, h6⟩ := k.own i l ds e'
      refine ⟨a, us, h1, q.keep a _ (minus_slot k p hr h2 fun i' hi' m' ds' g1 g2 => ?_), ?_, h4, Da.mono q.grow _ _ h5, h6⟩
      · have e2 := k.sep i' i m' ds' l ds g1 e' (g2.trans h1.symm)
        subst e2
        exact hi hi'
      · cases hx : F' a with
        | none => rfl
        | some o =>
          rcases q.new a o hx with z | z
          · rw [h3] at z; cases z
          · rw [h2] at z; cases z
  · rcases he i with h | ⟨m, l', ds', es, _, _, h3, h4⟩
    · rw [h] at e
      obtain ⟨a, us, h1, h2, h3⟩ := k.ro i ds e
      exact ⟨a, us, h1, h2, Da.mono q.grow _ _ h3⟩
    · rw [h4] at e; cases e
  · obtain ⟨ds1, g1⟩ := back i l ds e1
    obtain ⟨ds2, g2⟩ := back j m es e2
    exact k.sep i j _ _ _ _ g1 g2 e3
  · rcases q.new a o e with z | z
    · exact k.new a o z
    · exact .inr (k.dom a z)
  · rcases he i with h | ⟨m, l', ds', es, _, _, h3, h4⟩
    · rw [← h]; exact e
    · rw [h4] at e; cases e
  · refine q.keep a _ (minus_slot k p hr g1 fun i' hi' m' ds' g5 g6 => ?_)
    obtain ⟨b, us, g7, g8, _⟩ := k.own i' m' ds' g5
    rw [g6] at g7
    cases g7
    rw [g1] at g8; cases g8
  · cases hx' : F' a with
    | none => rfl
    | some o =>
      rcases q.new a o hx' with z | z
      · rw [g2] at z; cases z
      · rw [g1] at z; cases z
theorem re_call {g : Gf} {fa : Af} {t : TA} {E : XK} (ha : RA K t fa) : RE K (tCall (spF K g) [] E t) (eCall g fa) := fun G F env s H d env' k e Q q => by
  unfold eCall at e
  obtain ⟨⟨as, e1⟩, h1, e⟩ := Option.bind_eq_some_iff.mp e
  refine ha G F env s H as e1 k h1 _ fun F1 H1 vs k1 s1 p1 => ?_
  rw [List.append_nil]
  dsimp only at e
  split at e
  · rename_i hrs
    obtain ⟨args, h2, e⟩ := Option.bind_eq_some_iff.mp e
    obtain ⟨⟨d', args'⟩, h3, e⟩ := Option.map_eq_some_iff.mp e
    cases e
    refine ⟨F1, args, d', args', h3, k1.fr, args_ok k1 p1 h2 (by rw [hrs]; intro i hi; cases hi) (by rw [hrs]; intro i hi; cases hi), fun F' H' v po => ?_⟩
    exact q F' H' v (ok_after k1 p1 h2 po rfl (fun j => .inl rfl) (by rw [hrs]; intro i hi; cases hi)) (s1.trans po.grow) po.res
  · rename_i i hrs
    split at e
    · cases e
    · rename_i hc
      obtain ⟨args, h2, e⟩ := Option.bind_eq_some_iff.mp e
      obtain ⟨⟨d', args'⟩, h3, e⟩ := Option.bind_eq_some_iff.mp e
      obtain ⟨env2, h4, e⟩ := Option.map_eq_some_iff.mp e
      cases e
      obtain ⟨j, l, ds, es, g1, g2, g3, g4⟩ := backAr_one hrs h4
      subst g4
      have hil : i < e1.length := (List.getElem?_eq_some_iff.mp g3).1
      refine ⟨F1, args, d', args', h3, k1.fr, args_ok k1 p1 h2 (by rw [hrs]; intro i' hi'; simp at hi'; subst hi'; intro hm; apply hc; simp [hm]) (by rw [hrs]; intro i' hi' j1 j2 q1 q2; simp at hi'; subst hi'; exact rSlots_one hrs j1 j2 q1 q2), fun F' H' v po => ?_⟩
      refine q F' H' v (ok_after k1 p1 h2 po (by simp) (fun j' => ?_) ?_) (s1.trans po.grow) po.res
      · by_cases hj : i = j'
        · subst hj
          exact .inr ⟨j, l, ds, es, g1, g2, g3, by rw [List.getElem?_set_self hil]⟩
        · exact .inl (List.getElem?_set_ne hj)
      · rw [hrs]
        intro i' hi' j' _
        simp at hi'
        subst hi'
        exact ⟨j, l, ds, g2, g1, by rw [List.getElem?_set_self hil]⟩
  · cases e
end
section
variable {X : Cx} {k : Nat} {fx : Addr} {fd : FuncData} {ps : List Str} {x : Str} {p pos : Pos} {e : Expr} {es : List Expr} {fa : Af} {g : Gf}
theorem xe_call (FF : FnOk X.prog X.w X.K X.mg X.base CX0 k fx fd ps (spF X.K g)) (hr : Room k X.A) (hm : X.mg x = some (.ref fx)) (hk : PySem.W.keepIn X.K (.ref fx) = true) (hb : Binds X.K fd ps []) (ha : XA X (e :: es) fa) (hg : Gl X x := by rfl)
    (hdb : (x == ("__debug__" : Str)) = false := by decide) (he : starEach (e :: es) X.env = (false, eval e X.env) :: starEach es X.env := by rfl) (hpl : (backTo pos (starEach es X.env)).any (·.1) = false := by rfl) :
    XE X (.Call (.Name x p) (e :: es) [] pos) (eCall g fa) :=
  let ⟨_, h1, h2⟩ := ha.ex; ⟨_, pe_call FF hr hg hm hk hb .nil pass0 h1 hdb he hpl, re_call h2⟩
/-! ### a built-in of one argument -/
def GC (K : Frg) (r : List V → Hp → VK → Prop) (g : D → Option D) : Prop := ∀ G F env s H x d z, Ok K G F env s H → Dq K F H x d → g d = some z → ∀ Q : VK, (∀ F' H' v, Ok K G F' env s H' → Same F F' → Dt F' v z → Q v H') → r [x] H Q
def GCN (K : Frg) (r : List V → Hp → VK → Prop) (g : D → Option (List D)) : Prop := ∀ G F env s H x d z, Ok K G F env s H → Dq K F H x d → g d = some z → ∀ Q : VK,
  (∀ F' H' p vs, Ok K G F' env s H' → Same F F' → H' p = some (.lst vs) → F' p = none → G.H0 p = none → G.P p = none → (∀ (j : Nat) l es, env[j]? = some (.own l es) → s[j]? ≠ some (some (.ref p))) → Da F' vs z → Q (.ref p) H') → r [x] H Q
def lUn (g : D → Option (List D)) (fa : Ef) : Lf := fun env => (fa env).bind fun r => (g r.1).map fun d => (d, r.2)
variable {f fb : Ef} {K : Frg}
theorem re_cb {r : List V → Hp → VK → Prop} {g : D → Option D} {ta : TE} (ho : GC K r g) (ha : RO K ta f) : RE K (tCB r (tCons ta tNil)) (eUn g f) := fun G F env s H d env' k e Q q => by
  obtain ⟨d1, h1, h3⟩ := un_some e
  refine ha G F env s H d1 env' k h1 _ fun F1 H1 v1 k1 s1 p1 => ?_
  exact ho G F1 env' s H1 v1 d1 d k1 p1 h3 Q fun F3 H3 v3 k3 s3 p3 => q F3 H3 v3 k3 (s1.trans s3) p3
theorem rn_cb {r : List V → Hp → VK → Prop} {g : D → Option (List D)} {ta : TE} (ho : GCN K r g) (ha : RO K ta f) : RN K (tCB r (tCons ta tNil)) (lUn g f) := fun G F env s H d env' k e Q q => by
  unfold lUn at e
  obtain ⟨⟨d1, e1⟩, h1, e⟩ := Option.bind_eq_some_iff.mp e
  obtain ⟨z, h3, e⟩ := Option.map_eq_some_iff.mp e
  cases e
  refine ha G F env s H d1 e1 k h1 _ fun F1 H1 v1 k1 s1 p1 => ?_
  exact ho G F1 e1 s H1 v1 d1 d k1 p1 h3 Q fun F3 H3 p vs k3 s3 p3 => q F3 H3 p vs k3 (s1.trans s3) p3
section
variable {id T : String} {r : List V → Hp → VK → Prop}
theorem xe_cbB {g : D → Option D} (hc : CallR X (.builtin id) r) (hv : bootBuiltins x = some (.builtin id)) (ho : GC X.K r g) (hm : X.mg x = none) (ha : XO X e f) (hg : Gl X x := by rfl) (hn : x ≠ "__name__" := by decide) (hdb : (x == ("__debug__" : Str)) = false := by decide)
    (he : starEach [e] X.env = (false, eval e X.env) :: starEach [] X.env := by rfl) (hpl : (backTo pos (starEach [] X.env)).any (·.1) = false := by rfl) : XE X (.Call (.Name x p) [e] [] pos) (eUn g f) :=
  let ⟨_, h1, h2⟩ := ha.ex; ⟨_, pe_callB hc hg hm hv (pa_cons h1 pa_nil he) hn hdb he hpl, re_cb ho h2⟩
theorem xe_cbT {g : D → Option D} (hc : CallR X (.type T) r) (hv : bootBuiltins x = some (.type T)) (ho : GC X.K r g) (hm : X.mg x = none) (ha : XO X e f) (hg : Gl X x := by rfl) (hn : x ≠ "__name__" := by decide) (hdb : (x == ("__debug__" : Str)) = false := by decide)
    (he : starEach [e] X.env = (false, eval e X.env) :: starEach [] X.env := by rfl) (hpl : (backTo pos (starEach [] X.env)).any (·.1) = false := by rfl) : XE X (.Call (.Name x p) [e] [] pos) (eUn g f) :=
  let ⟨_, h1, h2⟩ := ha.ex; ⟨_, pe_callTy hc hg hm hv (pa_cons h1 pa_nil he) hn hdb he hpl, re_cb ho h2⟩
theorem xn_cbT {g : D → Option (List D)} (hc : CallR X (.type T) r) (hv : bootBuiltins x = some (.type T)) (ho : GCN X.K r g) (hm : X.mg x = none) (ha : XO X e f) (hg : Gl X x := by rfl) (hn : x ≠ "__name__" := by decide) (hdb : (x == ("__debug__" : Str)) = false := by decide)
    (he : starEach [e] X.env = (false, eval e X.env) :: starEach [] X.env := by rfl) (hpl : (backTo pos (starEach [] X.env)).any (·.1) = false := by rfl) : XN X (.Call (.Name x p) [e] [] pos) (lUn g f) :=
  let ⟨_, h1, h2⟩ := ha.ex; ⟨_, pe_callTy hc hg hm hv (pa_cons h1 pa_nil he) hn hdb he hpl, rn_cb ho h2⟩
end
end
end M

namespace M
open PySem PySem.Spec PyProof.Rows L2

inductive Out where
  | nx (env : En) | rt (d : D) (env : En) | rn (ds : List D) (env : En) | rp (as ds : List D) (env : En)
/-- a new tuple that ends in a new list, both nobody's yet -/
structure NewT (G : Gm) (F H : Hp) (env : En) (s : L2.St) (t p : Addr) (vs us : List V) (as ds : List D) : Prop where
  ht : H t = some (.tup (vs ++ [.ref p]))
  ft : F t = none
  t0 : G.H0 t = none
  tP : G.P t = none
  hp : H p = some (.lst us)
  fp : F p = none
  p0 : G.H0 p = none
  pP : G.P p = none
  pn : ∀ (j : Nat) l es, env[j]? = some (.own l es) → s[j]? ≠ some (some (.ref p))
  da : Da F vs as
  du : Da F us ds
/-- both frozen -/
theorem NewT.frz {K : Frg} {G : Gm} {F H : Hp} {env : En} {s : L2.St} {t p : Addr} {vs us : List V} {as ds : List D} (n : NewT G F H env s t p vs us as ds) (k : Ok K G F env s H) : ∃ F', Ok K G F' env s H ∧ Same F F' ∧ Dt F' (.ref t) (.tuple (as ++ [.list ds])) ∧ F' t = some (.tup (vs ++ [.ref p])) ∧ F' p = some (.lst us) := by
  have k1 := k.freeze n.hp n.fp n.p0 n.pn (k.notdctL n.hp)
  have ne : t ≠ p := fun e => by have := n.ht; rw [e, n.hp] at this; cases this
  have f1 : upd F p (.lst us) t = none := by rw [upd_ne ne]; exact n.ft
  have k2 := k1.freeze n.ht f1 n.t0 (fun j l es e z => by
    obtain ⟨a, ws, h1, h2, _⟩ := k.own j l es e
    rw [z] at h1; cases h1
    rw [n.ht] at h2; cases h2) (k1.notdctT n.ht)
  have s1 : Same F (upd F p (.lst us)) := same_upd n.fp
  have s2 : Same (upd F p (.lst us)) (upd (upd F p (.lst us)) t (.tup (vs ++ [.ref p]))) := same_upd f1
  exact ⟨_, k2, s1.trans s2, .tup upd_same ((Da.mono (s1.trans s2) _ _ n.da).append (.cons (.lst (s2 _ _ upd_same) (Da.mono (s1.trans s2) _ _ n.du)) .nil)), upd_same, s2 _ _ upd_same⟩
abbrev Sf := En → Option Out
def RSx (K : Frg) (G : Gm) (F : Hp) (E : Ends) : Out → Prop
  | .nx env => ∀ F' s' H', Ok K G F' env s' H' → Same F F' → E.nx s' H'
  | .rt d env => ∀ F' s' H' v, Ok K G F' env s' H' → Same F F' → Dt F' v d → E.rt v H'
  | .rn ds env => ∀ F' s' H' p vs, Ok K G F' env s' H' → Same F F' → H' p = some (.lst vs) → F' p = none → G.H0 p = none → G.P p = none → (∀ (j : Nat) l es, env[j]? = some (.own l es) → s'[j]? ≠ some (some (.ref p))) → Da F' vs ds → E.rt (.ref p) H'
  | .rp as ds env => ∀ F' s' H' t p vs us, Ok K G F' env s' H' → Same F F' → NewT G F' H' env s' t p vs us as ds → E.rt (.ref t) H'
def RS (K : Frg) (t : TS) (f : Sf) : Prop := ∀ G F env s H o, Ok K G F env s H → f env = some o → ∀ E : Ends, RSx K G F E o → t E s H
structure XS (X : Cx) (st : Stmt) (f : Sf) : Prop where
  ex : ∃ t, PS X st t ∧ RS X.K t f
structure XSs (X : Cx) (sts : List Stmt) (f : Sf) : Prop where
  ex : ∃ t, PSs X sts t ∧ RS X.K t f
theorem RSx.up {K : Frg} {G : Gm} {F F' : Hp} {E : Ends} {o : Out} (s : Same F F') (h : RSx K G F E o) : RSx K G F' E o := by
  cases o with
  | nx env => exact fun F2 s2 H2 k e => h F2 s2 H2 k (s.trans e)
  | rt d env => exact fun F2 s2 H2 v k e p => h F2 s2 H2 v k (s.trans e) p
  | rn ds env => exact fun F2 s2 H2 p vs k e h1 h2 h3 h4 h5 h6 => h F2 s2 H2 p vs k (s.trans e) h1 h2 h3 h4 h5 h6
  | rp as ds env => exact fun F2 s2 H2 t p vs us k e n => h F2 s2 H2 t p vs us k (s.trans e) n
/-- what isn't the next statement hangs on the return alone -/
theorem RSx.same_rt {K : Frg} {G : Gm} {F : Hp} {E E' : Ends} {o : Out} (he : E'.rt = E.rt) (ho : ∀ env, o ≠ .nx env) (h : RSx K G F E o) : RSx K G F E' o := by
  cases o with
  | nx env => exact absurd rfl (ho env)
  | rt d env => exact fun F2 s2 H2 v k e p => by rw [he]; exact h F2 s2 H2 v k e p
  | rn ds env => exact fun F2 s2 H2 p vs k e h1 h2 h3 h4 h5 h6 => by rw [he]; exact h F2 s2 H2 p vs k e h1 h2 h3 h4 h5 h6
  | rp as ds env => exact fun F2 s2 H2 t p vs us k e n => by rw [he]; exact h F2 s2 H2 t p vs us k e n
def sNil : Sf := fun env => some (.nx env)
def sSeq (f g : Sf) : Sf := fun env => (f env).bind fun o => match o with
  | .nx env1 => g env1
  | o => some o
section
variable {X : Cx} {K : Frg} {st : Stmt} {rest : List Stmt} {e a b : Expr} {f g : Sf} {fe fa fb : Ef} {pos : Pos}
theorem rs_seq {t u : TS} (h1 : RS K t f) (h2 : RS K u g) : RS K (tSeq t u) (sSeq f g) := fun G F env s H o k e E q => by
  unfold sSeq at e
  obtain ⟨o1, h3, e⟩ := Option.bind_eq_some_iff.mp e
  cases o1 with
  | nx env1 =>
    refine h1 G F env s H _ k h3 _ ?_
    exact fun F1 s1 H1 k1 e1 => h2 G F1 env1 s1 H1 o k1 e E (q.up e1)
  | rt d env1 =>
    cases e
    exact h1 G F env s H _ k h3 _ q
  | rn ds env1 =>
    cases e
    exact h1 G F env s H _ k h3 _ q
  | rp as ds env1 =>
    cases e
    exact h1 G F env s H _ k h3 _ q
theorem xss_nil : XSs X [] sNil := ⟨_, pss_nil, fun G F env s H o k e E q => by cases e; exact q F s H k (Same.refl F)⟩
theorem xss_cons (h1 : XS X st f) (h2 : XSs X rest g) : XSs X (st :: rest) (sSeq f g) :=
  let ⟨_, p1, q1⟩ := h1.ex; let ⟨_, p2, q2⟩ := h2.ex; ⟨_, pss_cons p1 p2, rs_seq q1 q2⟩
theorem xss_one (h1 : XS X st f) : XSs X [st] f := let ⟨_, p1, q1⟩ := h1.ex; ⟨_, pss_one p1, q1⟩
def sNo : Sf := fun _ => none
theorem xs_never : XS X st sNo := ⟨_, ps_never, fun G F env s H o k e E q => by cases e⟩
def sExpr (f : Ef) : Sf := fun env => (f env).map fun r => .nx r.2
theorem xs_expr (he : XE X e fe) (hs : swapsWith e none pos.line X.env = pure false := by rfl) : XS X (.Expr e pos) (sExpr fe) := by
  obtain ⟨t, h1, h2⟩ := he.ex
  refine ⟨_, ps_expr h1 hs, fun G F env s H o k e E q => ?_⟩
  unfold sExpr at e
  obtain ⟨⟨d, e1⟩, h3, e⟩ := Option.map_eq_some_iff.mp e
  cases e
  exact h2 G F env s H d e1 k h3 _ fun F1 H1 v k1 s1 p1 => q F1 s H1 k1 s1
def sRet (f : Ef) : Sf := fun env => (f env).map fun r => .rt r.1 r.2
theorem xs_ret (he : XE X e fe) : XS X (.Return (some e) pos) (sRet fe) := by
  obtain ⟨t, h1, h2⟩ := he.ex
  refine ⟨_, ps_ret h1, fun G F env s H o k e E q => ?_⟩
  unfold sRet at e
  obtain ⟨⟨d, e1⟩, h3, e⟩ := Option.map_eq_some_iff.mp e
  cases e
  exact h2 G F env s H d e1 k h3 _ fun F1 H1 v k1 s1 p1 => q F1 s H1 v k1 s1 p1
/-- a new list is handed back -/
def sRetL (f : Lf) : Sf := fun env => (f env).map fun r => .rn r.1 r.2
theorem xs_retL {fl : Lf} (he : XN X e fl) : XS X (.Return (some e) pos) (sRetL fl) := by
  obtain ⟨t, h1, h2⟩ := he.ex
  refine ⟨_, ps_ret h1, fun G F env s H o k e E q => ?_⟩
  unfold sRetL at e
  obtain ⟨⟨d, e1⟩, h3, e⟩ := Option.map_eq_some_iff.mp e
  cases e
  exact h2 G F env s H d e1 k h3 _ fun F1 H1 p vs k1 s1 g1 g2 g3 g4 g5 g6 => q F1 s H1 p vs k1 s1 g1 g2 g3 g4 g5 g6
def sRetN : Sf := fun env => some (.rt .none env)
/-- a list that the def made, frozen -/
def frz (i : Nat) : En → Option En := fun env => match env[i]? with
  | some (.own true ds) => some (env.set i (.val (.list ds)))
  | some (.val d) => some env
  | _ => none
theorem set_get {α : Type} {l : List α} {i j : Nat} {x y : α} (h : (l.set i x)[j]? = some y) : (i = j ∧ i < l.length ∧ x = y) ∨ (i ≠ j ∧ l[j]? = some y) := by
  by_cases hj : i = j
  · subst hj
    have hl : i < l.length := by have := (List.getElem?_eq_some_iff.mp h).1; simpa using this
    rw [List.getElem?_set_self hl] at h
    cases h
    exact .inl ⟨rfl, hl, rfl⟩
  · rw [List.getElem?_set_ne hj] at h
    exact .inr ⟨hj, h⟩
/-- a slot's own list becomes a value -/
theorem frz_ok {G : Gm} {F : Hp} {env env' : En} {s : L2.St} {H : Hp} {i : Nat} (k : Ok K G F env s H) (e : frz i env = some env') : ∃ F', Ok K G F' env' s H ∧ Same F F' := by
  unfold frz at e
  split at e
  · rename_i ds h
    cases e
    obtain ⟨a, vs, h1, h2, h3, h4, h5, h6, _⟩ := k.own i true ds h
    have hi : i < env.length := (List.getElem?_eq_some_iff.mp h).1
    have k0 : Ok K G F (env.set i .no) s H := by
      refine ⟨by rw [k.len]; simp, k.fr, fun j d e => ?_, fun j l es e => ?_, fun j es e => ?_, fun j j' l es m fs e1 e2 e3 => ?_, k.pin, k.dom, k.grow, k.new, k.rin, k.dct.slots fun j w kvs e => ?_⟩
      · rcases set_get e with ⟨_, _, z⟩ | ⟨_, z⟩
        · cases z
        · exact k.val j d z
      · rcases set_get e with ⟨_, _, z⟩ | ⟨_, z⟩
        · cases z
        · exact k.own j l es z
      · rcases set_get e with ⟨_, _, z⟩ | ⟨_, z⟩
        · cases z
        · exact k.ro j es z
      · rcases set_get e1 with ⟨_, _, z⟩ | ⟨_, z⟩
        · cases z
        · rcases set_get e2 with ⟨_, _, z2⟩ | ⟨_, z2⟩
          · cases z2
          · exact k.sep j j' _ _ _ _ z z2 e3
      · rcases set_get e with ⟨_, _, z⟩ | ⟨_, z⟩
        · cases z
        · exact ⟨z, rfl⟩
    have k1 := k0.freeze h2 h3 (h6 rfl) (fun j l es e z => by
      rcases set_get e with ⟨_, _, z2⟩ | ⟨hj, z2⟩
      · cases z2
      · exact hj (k.sep i j _ _ _ _ h z2 (h1.trans z.symm))) (k0.notdctL h2)
    refine ⟨_, ⟨by rw [k.len]; simp, k1.fr, fun j d e => ?_, fun j l es e => ?_, fun j es e => ?_, fun j j' l es m fs e1 e2 e3 => ?_, k1.pin, k1.dom, k1.grow, k1.new, k1.rin, k1.dct.slots fun j w kvs e => ?_⟩, same_upd h3⟩
    · rcases set_get e with ⟨rfl, _, z⟩ | ⟨hj, z⟩
      · cases z
        exact ⟨_, h1, .lst upd_same (Da.mono (same_upd h3) _ _ h5)⟩
      · exact k1.val j d (by rw [List.getElem?_set_ne hj]; exact z)
    · rcases set_get e with ⟨rfl, _, z⟩ | ⟨hj, z⟩
      · cases z
      · exact k1.own j l es (by rw [List.getElem?_set_ne hj]; exact z)
    · rcases set_get e with ⟨rfl, _, z⟩ | ⟨hj, z⟩
      · cases z
      · exact k1.ro j es (by rw [List.getElem?_set_ne hj]; exact z)
    · rcases set_get e1 with ⟨_, _, z⟩ | ⟨hj1, z⟩
      · cases z
      · rcases set_get e2 with ⟨_, _, z2⟩ | ⟨hj2, z2⟩
        · cases z2
        · exact k1.sep j j' _ _ _ _ (by rw [List.getElem?_set_ne hj1]; exact z) (by rw [List.getElem?_set_ne hj2]; exact z2) e3
    · rcases set_get e with ⟨rfl, _, z⟩ | ⟨hj, z⟩
      · cases z
      · exact ⟨by rw [List.getElem?_set_ne hj]; exact z, rfl⟩
  · cases e
    exact ⟨F, k, Same.refl F⟩
  · cases e
/-- the def's own list is handed back -/
def sRetO (i : Nat) : Sf := fun env => match env[i]? with
  | some (.own true ds) => some (.rn ds (env.set i .no))
  | _ => none
def sFrz (i : Nat) (f : Sf) : Sf := fun env => (frz i env).bind f
theorem rs_frz {t : TS} (i : Nat) (h : RS K t f) : RS K t (sFrz i f) := fun G F env s H o k e E q => by
  unfold sFrz at e
  obtain ⟨env1, h1, e⟩ := Option.bind_eq_some_iff.mp e
  obtain ⟨F1, k1, s1⟩ := frz_ok k h1
  exact h G F1 env1 s H o k1 e E (q.up s1)
/-- ahead of a statement a list is frozen -/
theorem xs_frz (i : Nat) (h : XS X st f) : XS X st (sFrz i f) := let ⟨_, p, q⟩ := h.ex; ⟨_, p, rs_frz i q⟩
def sIf (c : Bf) (f g : Sf) : Sf := fun env => (c env).bind fun r => if r.1 then f r.2 else g r.2
theorem xs_if {c : Expr} {p1 p2 : List Stmt} {gc : Bf} (hc : XB X c gc) (ha : XSs X p1 f) (hb : XSs X p2 g) : XS X (.If c p1 p2 pos) (sIf gc f g) := by
  obtain ⟨t, h1, h2⟩ := hc.ex
  obtain ⟨ta, h3, h4⟩ := ha.ex
  obtain ⟨tb, h5, h6⟩ := hb.ex
  refine ⟨_, ps_if h1 h3 h5, fun G F env s H o k e E q => ?_⟩
  unfold sIf at e
  obtain ⟨⟨c, e1⟩, h7, e⟩ := Option.bind_eq_some_iff.mp e
  refine h2 G F env s H c e1 k h7 _ fun F1 H1 k1 s1 => ?_
  cases c with
  | true =>
    rw [if_pos rfl] at e ⊢
    exact h4 G F1 e1 s H1 o k1 e E (q.up s1)
  | false =>
    rw [if_neg Bool.false_ne_true] at e ⊢
    exact h6 G F1 e1 s H1 o k1 e E (q.up s1)

/-! ### assignment -/
theorem ok_set {G : Gm} {F : Hp} {env : En} {s : L2.St} {H : Hp} {i : Nat} {d : D} {v : V} (k : Ok K G F env s H) (p : Dt F v d) : Ok K G F (env.set i (.val d)) (s.set i (some v)) H := by
  refine ⟨by simp [k.len], k.fr, fun j d' e => ?_, fun j l es e => ?_, fun j es e => ?_, fun j j' l es m fs e1 e2 e3 => ?_, k.pin, k.dom, k.grow, k.new, k.rin, k.dct.slots fun j w kvs e => ?_⟩
  · rcases set_get e with ⟨rfl, hl, z⟩ | ⟨hj, z⟩
    · cases z
      exact ⟨v, by rw [List.getElem?_set_self (by rw [k.len]; exact hl)], p⟩
    · rw [List.getElem?_set_ne hj]
      exact k.val j d' z
  · rcases set_get e with ⟨rfl, hl, z⟩ | ⟨hj, z⟩
    · cases z
    · rw [List.getElem?_set_ne hj]
      exact k.own j l es z
  · rcases set_get e with ⟨rfl, hl, z⟩ | ⟨hj, z⟩
    · cases z
    · rw [List.getElem?_set_ne hj]
      exact k.ro j es z
  · rcases set_get e1 with ⟨rfl, hl, z⟩ | ⟨hj, z⟩
    · cases z
    · rcases set_get e2 with ⟨rfl, hl, z2⟩ | ⟨hj2, z2⟩
      · cases z2
      · rw [List.getElem?_set_ne hj, List.getElem?_set_ne hj2] at e3
        exact k.sep j j' _ _ _ _ z z2 e3
  · rcases set_get e with ⟨_, _, z⟩ | ⟨hj, z⟩
    · cases z
    · exact ⟨z, List.getElem?_set_ne hj⟩
theorem ok_setO {G : Gm} {F : Hp} {env : En} {s : L2.St} {H : Hp} {i : Nat} {ds : List D} {p : Addr} {vs : List V} (k : Ok K G F env s H) (h1 : H p = some (.lst vs)) (h2 : F p = none) (h3 : G.H0 p = none) (h4 : G.P p = none)
    (h5 : ∀ (j : Nat) l es, env[j]? = some (.own l es) → s[j]? ≠ some (some (.ref p))) (h6 : Da F vs ds) : Ok K G F (env.set i (.own true ds)) (s.set i (some (.ref p))) H := by
  refine ⟨by simp [k.len], k.fr, fun j d' e => ?_, fun j l es e => ?_, fun j es e => ?_, fun j j' l es m fs e1 e2 e3 => ?_, k.pin, k.dom, k.grow, k.new, k.rin, k.dct.slots fun j w kvs e => ?_⟩
  · rcases set_get e with ⟨rfl, hl, z⟩ | ⟨hj, z⟩
    · cases z
    · rw [List.getElem?_set_ne hj]
      exact k.val j d' z
  · rcases set_get e with ⟨rfl, hl, z⟩ | ⟨hj, z⟩
    · cases z
      exact ⟨p, vs, by rw [List.getElem?_set_self (by rw [k.len]; exact hl)], h1, h2, h4, h6, fun _ => h3, fun z => by cases z⟩
    · rw [List.getElem?_set_ne hj]
      exact k.own j l es z
  · rcases set_get e with ⟨rfl, hl, z⟩ | ⟨hj, z⟩
    · cases z
    · rw [List.getElem?_set_ne hj]
      exact k.ro j es z
  · rcases set_get e1 with ⟨rfl, hl, z⟩ | ⟨hj, z⟩
    · rcases set_get e2 with ⟨rfl, hl2, z2⟩ | ⟨hj2, z2⟩
      · rfl
      · rw [List.getElem?_set_self (by rw [k.len]; exact hl), List.getElem?_set_ne hj2] at e3
        exact absurd e3.symm (h5 j' _ _ z2)
    · rcases set_get e2 with ⟨rfl, hl, z2⟩ | ⟨hj2, z2⟩
      · rw [List.getElem?_set_self (by rw [k.len]; exact hl), List.getElem?_set_ne hj] at e3
        exact absurd e3 (h5 j _ _ z)
      · rw [List.getElem?_set_ne hj, List.getElem?_set_ne hj2] at e3
        exact k.sep j j' _ _ _ _ z z2 e3
  · rcases set_get e with ⟨_, _, z⟩ | ⟨hj, z⟩
    · cases z
    · exact ⟨z, List.getElem?_set_ne hj⟩
def sSet (i : Nat) (f : Ef) : Sf := fun env => (f env).map fun r => .nx (r.2.set i (.val r.1))
def sSetO (i : Nat) (f : Lf) : Sf := fun env => (f env).map fun r => .nx (r.2.set i (.own true r.1))
theorem rs_set {t : TE} (i : Nat) (h2 : RE K t fe) : RS K (tAsg t (gName i)) (sSet i fe) := fun G F env s H o k e E q => by
  unfold sSet at e
  obtain ⟨⟨d, e1⟩, h3, e⟩ := Option.map_eq_some_iff.mp e
  cases e
  exact h2 G F env s H d e1 k h3 _ fun F1 H1 v k1 s1 p1 => q F1 _ H1 (ok_set k1 p1) s1
theorem rs_setO {t : TE} {fl : Lf} (i : Nat) (h2 : RN K t fl) : RS K (tAsg t (gName i)) (sSetO i fl) := fun G F env s H o k e E q => by
  unfold sSetO at e
  obtain ⟨⟨d, e1⟩, h3, e⟩ := Option.map_eq_some_iff.mp e
  cases e
  exact h2 G F env s H d e1 k h3 _ fun F1 H1 p vs k1 s1 h1 h2 h3 h4 h5 h6 => q F1 _ H1 (ok_setO k1 h1 h2 h3 h4 h5 h6) s1
theorem xs_set (i : Nat) {x : Str} {pos' : Pos} (he : XE X e fe) (hN : X.N.Nodup) (hi : X.N[i]? = some x := by rfl) (hx : Loc X.env.scope x := by first | exact Or.inl rfl | exact Or.inr rfl) (hs : swapsWith e (some (.Name x pos')) pos.line X.env = pure false := by rfl)
    (hf : X.fn x = true ∨ X.env.scope.names.lookup x = some .local := by first | exact .inl rfl | exact .inr rfl | assumption) : XS X (.Assign [.Name x pos'] e pos) (sSet i fe) :=
  let ⟨_, h1, h2⟩ := he.ex; ⟨_, ps_set hN hi hx h1 hs hf, rs_set i h2⟩
theorem xs_setO (i : Nat) {x : Str} {pos' : Pos} {fl : Lf} (he : XN X e fl) (hN : X.N.Nodup) (hi : X.N[i]? = some x := by rfl) (hx : Loc X.env.scope x := by first | exact Or.inl rfl | exact Or.inr rfl) (hs : swapsWith e (some (.Name x pos')) pos.line X.env = pure false := by rfl)
    (hf : X.fn x = true ∨ X.env.scope.names.lookup x = some .local := by first | exact .inl rfl | exact .inr rfl | assumption) : XS X (.Assign [.Name x pos'] e pos) (sSetO i fl) :=
  let ⟨_, h1, h2⟩ := he.ex; ⟨_, ps_set hN hi hx h1 hs hf, rs_setO i h2⟩

/-! ### targets -/
abbrev Tf := D → En → Option En
def RG (K : Frg) (t : TG) (g : Tf) (sl : List Nat) : Prop := ∀ G F env s H v d env', Ok K G F env s H → Dt F v d → g d env = some env' → ∀ Q : L2.St → Hp → Prop,
  (∀ s', Ok K G F env' s' H → (∀ vs : List Nat, (∀ i ∈ sl, i ∈ vs) → wipe s' vs = wipe s vs) → Q s' H) → t v s H Q
def RGs (K : Frg) (t : TGs) (g : List D → En → Option En) (sl : List Nat) : Prop := ∀ G F env s H vs ds env', Ok K G F env s H → Da F vs ds → g ds env = some env' → ∀ Q : L2.St → Hp → Prop,
  (∀ s', Ok K G F env' s' H → (∀ vs : List Nat, (∀ i ∈ sl, i ∈ vs) → wipe s' vs = wipe s vs) → Q s' H) → t vs s H Q
structure XG (X : Cx) (tg : Expr) (g : Tf) (sl : List Nat) : Prop where
  ex : ∃ t, PG X tg t ∧ RG X.K t g sl
structure XGs (X : Cx) (tgs : List Expr) (g : List D → En → Option En) (sl : List Nat) : Prop where
  ex : ∃ t, PGs X tgs t ∧ RGs X.K t g sl
theorem wipe_get (s : L2.St) : ∀ (vs : List Nat) (j : Nat), (wipe s vs)[j]? = if j ∈ vs ∧ j < s.length then some none else s[j]?
  | [], j => by simp [wipe]
  | v :: vs, j => by
    unfold wipe
    by_cases hj : v = j
    · subst hj
      by_cases hl : v < s.length
      · rw [List.getElem?_set_self (by rw [wipe_length]; exact hl)]
        simp [hl]
      · rw [List.getElem?_eq_none (by rw [List.length_set, wipe_length]; omega), List.getElem?_eq_none (by omega)]
        simp [hl]
    · rw [List.getElem?_set_ne hj, wipe_get s vs j]
      have : ¬ j = v := fun e => hj e.symm
      simp [this]
theorem wipe_set {s : L2.St} {i : Nat} {x : Option V} {vs : List Nat} (h : i ∈ vs) : wipe (s.set i x) vs = wipe s vs := by
  refine List.ext_getElem? fun j => ?_
  rw [wipe_get, wipe_get, List.length_set]
  by_cases hj : j ∈ vs ∧ j < s.length
  · rw [if_pos hj, if_pos hj]
  · rw [if_neg hj, if_neg hj]
    by_cases hi : i = j
    · subst hi
      have : ¬ i < s.length := fun z => hj ⟨h, z⟩
      rw [List.getElem?_eq_none (by simp; omega), List.getElem?_eq_none (by omega)]
    · rw [List.getElem?_set_ne hi]
def tN (i : Nat) : Tf := fun d env => some (env.set i (.val d))
theorem xg_name (i : Nat) {x : Str} (hN : X.N.Nodup) (hi : X.N[i]? = some x := by rfl) (hx : Loc X.env.scope x := by first | exact Or.inl rfl | exact Or.inr rfl) (hf : X.fn x = true ∨ X.env.scope.names.lookup x = some .local := by first | exact .inl rfl | exact .inr rfl | assumption) : XG X (.Name x pos) (tN i) [i] :=
  ⟨_, pg_name hN hi hx hf, fun G F env s H v d env' k p e Q q => by
    cases e
    exact q _ (ok_set k p) fun vs h => wipe_set (h i (by simp))⟩
def gsN : List D → En → Option En := fun ds env => match ds with
  | [] => some env
  | _ => none
def gsC (g : Tf) (r : List D → En → Option En) : List D → En → Option En := fun ds env => match ds with
  | d :: ds => (g d env).bind (r ds)
  | [] => none
theorem xgs_nil : XGs X [] gsN [] := ⟨_, pgs_nil, fun G F env s H vs ds env' k p e Q q => by
  unfold gsN at e
  split at e
  · cases p; cases e; exact ⟨rfl, q s k fun _ _ => rfl⟩
  · cases e⟩
theorem xgs_cons {es : List Expr} {g : Tf} {r : List D → En → Option En} {s1 s2 : List Nat} (h1 : XG X e g s1) (h2 : XGs X es r s2) (hs : (assignEach (e :: es) X.env).map (·.2) = assign e X.env :: (assignEach es X.env).map (·.2) := by rfl) : XGs X (e :: es) (gsC g r) (s1 ++ s2) := by
  obtain ⟨t, p1, q1⟩ := h1.ex
  obtain ⟨u, p2, q2⟩ := h2.ex
  refine ⟨_, pgs_cons p1 p2 hs, fun G F env s H vs ds env' k p e Q q => ?_⟩
  cases p with
  | nil => cases e
  | cons pa pb =>
    obtain ⟨env1, h3, h4⟩ := Option.bind_eq_some_iff.mp (show (g _ env).bind (r _) = some env' from e)
    refine ⟨_, _, rfl, q1 G F env s H _ _ env1 k pa h3 _ fun s1' k1 w1 => ?_⟩
    exact q2 G F env1 s1' H _ _ env' k1 pb h4 Q fun s2' k2 w2 => q s2' k2 fun vs hv => (w2 vs fun i hi => hv i (List.mem_append_right _ hi)).trans (w1 vs fun i hi => hv i (List.mem_append_left _ hi))
def tT (n : Nat) (r : List D → En → Option En) : Tf := fun d env => match d with
  | .tuple ds => if ds.length = n then r ds env else none
  | _ => none
theorem xg_tup {es : List Expr} {k : Nat} {r : List D → En → Option En} {sl : List Nat} {n : Nat} (h : XGs X es r sl) (hc : X.calm = true := by rfl) (hn : (assignEach es X.env).length = n := by rfl) (hst : (assignEach es X.env).findIdx? (·.1) = none := by rfl) : XG X (.Tuple es k pos) (tT n r) sl := by
  obtain ⟨t, p1, q1⟩ := h.ex
  refine ⟨_, pg_tup hc p1 hn hst, fun G F env s H v d env' k p e Q q => ?_⟩
  cases p with
  | tup a b =>
    unfold tT at e
    dsimp only at e
    split at e
    · rename_i hl
      exact ⟨_, _, rfl, SqT.of (k.fr _ _ a), by rw [b.length]; exact hl, q1 G F env s H _ _ env' k b e Q q⟩
    · cases e
  | _ => cases e
def sAsg (f : Ef) (g : Tf) : Sf := fun env => (f env).bind fun r => (g r.1 r.2).map .nx
theorem xs_asg {tg : Expr} {g : Tf} {sl : List Nat} (he : XE X e fe) (hg : XG X tg g sl) (hs : swapsWithSole [tg] e pos.line X.env = pure false := by rfl) (hw : swappedStores [tg] e X.env = pure none := by rfl)
    (h1 : (assignEach [tg] X.env).map (·.2) = [assign tg X.env] := by rfl) : XS X (.Assign [tg] e pos) (sAsg fe g) := by
  obtain ⟨t, p1, q1⟩ := he.ex
  obtain ⟨u, p2, q2⟩ := hg.ex
  refine ⟨_, ps_asg p1 p2 hs hw h1, fun G F env s H o k e E q => ?_⟩
  unfold sAsg at e
  obtain ⟨⟨d, e1⟩, h3, e⟩ := Option.bind_eq_some_iff.mp e
  obtain ⟨e2, h4, e⟩ := Option.map_eq_some_iff.mp e
  cases e
  refine q1 G F env s H d e1 k h3 _ fun F1 H1 v k1 s1 pd => ?_
  exact q2 G F1 e1 s H1 v d e2 k1 pd h4 _ fun s' k2 _ => q F1 s' H1 k2 s1
/-- a, b = x, y -/
def sPar (i j : Nat) (g : Lf) : Sf := fun env => (g env).bind fun r => match r.1 with
  | [d, e] => some (.nx ((r.2.set i (.val d)).set j (.val e)))
  | _ => none
theorem xs_par (i j : Nat) {x y : Str} {px py pt : Pos} {kt k2 pt2} {g : Lf} (ha : XL X [a, b] g) (hN : X.N.Nodup) (hw : swappedStores [.Tuple [.Name x px, .Name y py] kt pt] (.Tuple [a, b] k2 pt2) X.env = pure (some [x, y]) := by rfl) (hc : X.calm = true := by rfl) (hi : X.N[i]? = some x := by rfl) (hj : X.N[j]? = some y := by rfl) (hij : i ≠ j := by decide)
    (hx : X.env.scope.names.lookup x = some .local := by rfl) (hy : X.env.scope.names.lookup y = some .local := by rfl)
    (hs : swapsWithSole [.Tuple [.Name x px, .Name y py] kt pt] (.Tuple [a, b] k2 pt2) pos.line X.env = pure false := by rfl) :
    XS X (.Assign [.Tuple [.Name x px, .Name y py] kt pt] (.Tuple [a, b] k2 pt2) pos) (sPar i j g) := by
  obtain ⟨t, p1, q1⟩ := ha.ex
  refine ⟨_, ps_par hc hN hi hj hij hx hy p1 hw hs, fun G F env s H o k e E q => ?_⟩
  unfold sPar at e
  obtain ⟨⟨ds, e1⟩, h3, e⟩ := Option.bind_eq_some_iff.mp e
  refine q1 G F env s H ds e1 k h3 _ fun F1 H1 vs k1 s1 pd => ?_
  dsimp only at e
  split at e
  · cases e
    cases pd with
    | cons pa pb =>
      cases pb with
      | cons pb pc =>
        cases pc
        exact ⟨_, _, rfl, q F1 _ H1 (ok_set (ok_set k1 pa) pb) s1⟩
  · cases e

/-! ### lists that the def owns: changed in place -/
theorem ok_mut {G : Gm} {F : Hp} {env : En} {s : L2.St} {H : Hp} {i : Nat} {l : Bool} {ds es : List D} {a : Addr} {us : List V} (k : Ok K G F env s H) (h : env[i]? = some (.own l ds)) (ha : s[i]? = some (some (.ref a))) (q : Da F us es) :
    Ok K G F (env.set i (.own l es)) s (upd H a (.lst us)) := by
  obtain ⟨b, vs, h1, h2, h3, h4, h5, h6⟩ := k.own i l ds h
  rw [ha] at h1
  cases h1
  have hi : i < env.length := (List.getElem?_eq_some_iff.mp h).1
  have nf : ∀ c o, F c = some o → c ≠ a := fun c o e z => by subst z; rw [h3] at e; cases e
  refine ⟨by simp [k.len], fun c o e => by rw [upd_ne (nf c o e)]; exact k.fr c o e, fun j d e => ?_, fun j m fs e => ?_, fun j fs e => ?_, fun j j' m fs n gs e1 e2 e3 => ?_, fun c o e => ?_, fun c e => ?_, k.grow, k.new, k.rin, k.dct.move (fun _ _ e => e) (fun j w kvs e => ?_) fun c es' g1 g2 g3 g4 _ => ⟨?_, g2, g3, g4⟩⟩
  · rcases set_get e with ⟨_, _, z⟩ | ⟨hj, z⟩
    · cases z
    · exact k.val j d z
  · rcases set_get e with ⟨rfl, _, z⟩ | ⟨hj, z⟩
    · cases z
      exact ⟨a, us, ha, upd_same, h3, h4, q, h6⟩
    · obtain ⟨c, ws, g1, g2, g3⟩ := k.own j m fs z
      have ne : c ≠ a := fun w => by subst w; exact hj (k.sep i j _ _ _ _ h z (ha.trans g1.symm))
      exact ⟨c, ws, g1, by rw [upd_ne ne]; exact g2, g3⟩
  · rcases set_get e with ⟨_, _, z⟩ | ⟨hj, z⟩
    · cases z
    · exact k.ro j fs z
  · have bk : ∀ (j : Nat) m fs, (env.set i (.own l es))[j]? = some (.own m fs) → ∃ gs, env[j]? = some (.own m gs) := fun j m fs e => by
      rcases set_get e with ⟨rfl, _, z⟩ | ⟨hj, z⟩
      · cases z; exact ⟨_, h⟩
      · exact ⟨_, z⟩
    obtain ⟨f1, g1⟩ := bk j m fs e1
    obtain ⟨f2, g2⟩ := bk j' n gs e2
    exact k.sep j j' _ _ _ _ g1 g2 e3
  · have ne : c ≠ a := fun z => by subst z; rw [h4] at e; cases e
    rw [upd_ne ne]; exact k.pin c o e
  · by_cases hc : c = a
    · subst hc; rw [upd_same] at e; cases e
    · rw [upd_ne hc] at e; exact k.dom c e
  · rcases set_get e with ⟨_, _, z⟩ | ⟨hj, z⟩
    · cases z
    · exact ⟨z, rfl⟩
  · have ne : c ≠ a := fun z => by subst z; rw [h2] at g1; cases g1
    rw [upd_ne ne]; exact g1
/-- xs.m(e), xs the def's own list: what it becomes and what is told -/
def isOwn (env : En) (i : Nat) : Bool := match env[i]? with
  | some (.own _ _) => true
  | _ => false
def isDct (env : En) (i : Nat) : Bool := match env[i]? with
  | some (.dct _ _) => true
  | _ => false
theorem isOwn_some {env : En} {i : Nat} (h : isOwn env i = true) : ∃ l ds, env[i]? = some (.own l ds) := by
  unfold isOwn at h
  split at h
  · rename_i l ds e; exact ⟨l, ds, e⟩
  · cases h
def eMut (g : List D → D → Option (List D × D)) (i : Nat) (f : Ef) : Ef := fun env => if isOwn env i then (f env).bind fun r => match r.2[i]? with
  | some (.own l ds) => (g ds r.1).map fun q => (q.2, r.2.set i (.own l q.1))
  | _ => none
  else none
def eMut0 (g : List D → Option (List D × D)) (i : Nat) : Ef := fun env => match env[i]? with
  | some (.own l ds) => (g ds).map fun q => (q.2, env.set i (.own l q.1))
  | _ => none
def GM (r : V → List V → Hp → VK → Prop) (g : List D → D → Option (List D × D)) : Prop := ∀ F a vs ds y d es z H, Same F H → H a = some (.lst vs) → Da F vs ds → Dt F y d → g ds d = some (es, z) → ∀ Q : VK,
  (∀ us v, Da F us es → Dt F v z → Q v (upd H a (.lst us))) → r (.ref a) [y] H Q
theorem re_mut {i : Nat} {r : V → List V → Hp → VK → Prop} {g : List D → D → Option (List D × D)} {tb : TE} (hg : GM r g) (h2 : RE K tb fb) : RE K (tBM K "list" r (tVar i) (tCons tb tNil)) (eMut g i fb) := fun G F env s H d env' k e Q q => by
  unfold eMut at e
  split at e
  · rename_i h0
    obtain ⟨l0, ds0, h0⟩ := isOwn_some h0
    obtain ⟨a, vs0, hv, hH, _⟩ := k.own i l0 ds0 h0
    obtain ⟨⟨d1, e1⟩, h1, e⟩ := Option.bind_eq_some_iff.mp e
    dsimp only at e
    split at e
    · rename_i l ds h3
      obtain ⟨⟨es, z⟩, h4, e⟩ := Option.map_eq_some_iff.mp e
      cases e
      refine ⟨_, hv, .inl ⟨rfl, _, SqL.of hH⟩, ?_⟩
      refine h2 G F env s H d1 e1 k h1 _ fun F1 H1 v1 k1 s1 p1 => ?_
      obtain ⟨b, vs, g1, g2, g3, g4, g5, g6⟩ := k1.own i l ds h3
      rw [hv] at g1
      cases g1
      exact hg F1 a vs ds v1 d1 es z H1 k1.fr g2 g5 p1 h4 Q fun us v pu pv => q F1 _ v (ok_mut k1 h3 hv pu) s1 pv
    · cases e
  · cases e
def mAppend : List D → D → Option (List D × D) := fun ds d => if fits (ds.length + 1) then some (ds ++ [d], .none) else none
theorem gm_append : GM rAppend mAppend := fun F a vs ds y d es z H _ h p py e Q q => by
  unfold mAppend at e
  split at e
  · rename_i hf
    cases e
    have := fits_line hf
    exact ⟨a, vs, y, rfl, rfl, h, by rw [p.length]; omega, q _ _ (p.append (.cons py .nil)) .non⟩
  · cases e
def mExtend : List D → D → Option (List D × D) := fun ds d => match d with
  | .list es => if fits (ds.length + es.length) then some (ds ++ es, .none) else none
  | _ => none
theorem Da.dropLast {F : Hp} {ds : List D} {vs : List V} (h : Da F vs ds) : Da F vs.dropLast ds.dropLast := by
  rw [List.dropLast_eq_take, List.dropLast_eq_take, h.length]
  exact h.take _
section
variable {x : Str} {p2 : Pos} {pos apos : Pos} {name : Str} {id : String}
theorem xe_mut (i : Nat) {r : V → List V → Hp → VK → Prop} {g : List D → D → Option (List D × D)} (slot : Slot "list" name id) (hty : typeOf (.builtin id) = pure (.type "method_descriptor")) (hm : MtR X id r) (hg : GM r g) (ha : XE X e fe) (hN : X.N[i]? = some x := by rfl) (hv : Vis X.env.scope x := by first | exact Or.inl rfl | exact Or.inr (Or.inl rfl) | exact Or.inr (Or.inr rfl))
    (hd : (x == ("__debug__" : Str)) = false := by decide) (hcd : (x == ("__classdict__" : Str)) = false := by decide)
    (hbase : attributeBase (.Name x p2) name X.env (eval (.Name x p2) X.env) = eval (.Name x p2) X.env := by rfl)
    (hfew : ((backTo pos (starEach [e] X.env)).all (fun x => !x.1) && (backToKw pos (keywordEach [] X.env)).all (fun x => x.1.isSome)
      && decide (([e] : List Expr).length + ([] : List Keyword).length + (if ([] : List Keyword).isEmpty then 0 else 1) < 30)) = true := by rfl)
    (hline : (apos.endLine == pos.line) = true := by rfl) (hs : starEach [e] X.env = (false, eval e X.env) :: starEach [] X.env := by rfl) (hplain : (backTo pos (starEach [] X.env)).any (·.1) = false := by rfl) :
    XE X (.Call (.Attribute (.Name x p2) name apos) [e] [] pos) (eMut g i fe) :=
  let ⟨_, h1, h2⟩ := ha.ex; ⟨_, pe_bm PySem.F.plainAttrs_list slot hty hm (pe_var hN hv hd hcd) (pa_cons h1 pa_nil hs) hbase hfew hline hs hplain, re_mut hg h2⟩
end
/-- xs[k] = e -/
def sPut (i : Nat) (fk fe : Ef) : Sf := fun env => (fe env).bind fun r => (fk r.2).bind fun q => match q.1, q.2[i]? with
  | .int k, some (.own l ds) => (ixN ds.length k).map fun j => .nx (q.2.set i (.own l (ds.set j r.1)))
  | _, _ => none
theorem rs_put {i : Nat} {te tk : TE} (h1 : RE K te fe) (h2 : RE K tk fa) : RS K (tAsg te (L2.gSub (tVar i) tk rSetL)) (fun env => if isOwn env i then sPut i fa fe env else none) := fun G F env s H o k e E q => by
  dsimp only at e
  split at e
  · rename_i h0
    obtain ⟨l0, ds0, h0⟩ := isOwn_some h0
    obtain ⟨a, vs0, hv, hH, _⟩ := k.own i l0 ds0 h0
    unfold sPut at e
    obtain ⟨⟨d1, e1⟩, h3, e⟩ := Option.bind_eq_some_iff.mp e
    obtain ⟨⟨d2, e2⟩, h4, e⟩ := Option.bind_eq_some_iff.mp e
    dsimp only at e
    split at e
    · rename_i _ _ kk l ds h5
      obtain ⟨j, h6, e⟩ := Option.map_eq_some_iff.mp e
      cases e
      refine h1 G F env s H d1 e1 k h3 _ fun F1 H1 v1 k1 s1 p1 => ?_
      refine ⟨_, hv, ?_⟩
      refine h2 G F1 e1 s H1 _ e2 k1 h4 _ fun F2 H2 v2 k2 s2 p2 => ?_
      obtain ⟨b, vs, g1, g2, g3, g4, g5, g6⟩ := k2.own i l ds h5
      rw [hv] at g1
      cases g1
      cases p2
      refine ⟨a, vs, kk, j, rfl, rfl, g2, by rw [g5.length]; exact h6, ?_⟩
      exact q F2 s _ (ok_mut k2 h5 hv (g5.set (Dt.mono s2 d1 v1 p1) j)) (s1.trans s2)
    · cases e
  · cases e
def sPutI (i : Nat) (fk fe : Ef) : Sf := fun env => if isOwn env i then sPut i fk fe env else none
theorem xs_put (i : Nat) {x : Str} {p2 p3 : Pos} {ke : Expr} (he : XE X e fe) (hk : XE X ke fa) (hN : X.N[i]? = some x := by rfl) (hv : Vis X.env.scope x := by first | exact Or.inl rfl | exact Or.inr (Or.inl rfl) | exact Or.inr (Or.inr rfl))
    (hd : (x == ("__debug__" : Str)) = false := by decide) (hcd : (x == ("__classdict__" : Str)) = false := by decide) (hs : swapsWithSole [.Subscript (.Name x p2) ke p3] e pos.line X.env = pure false := by rfl) (hw : swappedStores [.Subscript (.Name x p2) ke p3] e X.env = pure none := by rfl)
    (h1 : (assignEach [.Subscript (.Name x p2) ke p3] X.env).map (·.2) = [assign (.Subscript (.Name x p2) ke p3) X.env] := by rfl)
    (ha : ∀ v, assign (.Subscript (.Name x p2) ke p3) X.env v = (do
      let ov ← holding [v] (eval (.Name x p2) X.env)
      let iv ← holding [v, ov] (eval ke X.env)
      standAt p3
      holding [v, ov, iv] (setItem ov iv v)
      release [v, ov, iv] []) := by intro _; rfl) : XS X (.Assign [.Subscript (.Name x p2) ke p3] e pos) (sPutI i fa fe) :=
  let ⟨_, g1, g2⟩ := he.ex; let ⟨_, g3, g4⟩ := hk.ex
  ⟨_, ps_asg g1 (pg_sub (pe_var hN hv hd hcd) g3 set_list ha) hs hw h1, rs_put g2 g4⟩
end
end M

namespace M
open PySem PySem.Spec PyProof.Rows L2

/-! ### what is walked -/
def Wk (K : Frg) (P : Hp) (J : It) (F0 : Hp) (ds : List D) : Prop := ∃ (Gp : Hp → Prop) (Y : Nat → Hp → V → Hp → Prop), Walk J ds.length Gp Y ∧
  (∀ G F env s H, Same P G.R → Ok K G F env s H → Same F0 F → Gp H) ∧
  (∀ i H x H' G F env s, i < ds.length → Same P G.R → Ok K G F env s H → Same F0 F → Y i H x H' → ∃ F', Ok K G F' env s H' ∧ Same F F' ∧ (∀ a o, H a = some o → H' a = some o) ∧ ∃ d, ds[i]? = some d ∧ Dt F' x d)
def RI (K : Frg) (wi : TI) (f : Lf) : Prop := ∀ G F env s H ds env', Ok K G F env s H → f env = some (ds, env') → ∀ R : It → Hp → Prop, (∀ F' H' J, Ok K G F' env' s H' → Same F F' → Wk K G.R J F' ds → R J H') → wi s H R
structure XI (X : Cx) (tg iter : Expr) (f : Lf) : Prop where
  ex : ∃ wi, PI X tg iter wi ∧ RI X.K wi f
theorem wk_list {K : Frg} {P F0 : Hp} {a : Addr} {vs : List V} {ds : List D} (h1 : ∀ G F env s H, Same P G.R → Ok K G F env s H → Same F0 F → SqL K H a vs) (h2 : Da F0 vs ds) : Wk K P (Itl K a) F0 ds :=
  ⟨_, _, by rw [← h2.length]; exact walk_list, h1, fun i H x H' G F env s hi hp k e y => by
    obtain ⟨rfl, hx⟩ := y
    obtain ⟨d, h3, h4⟩ := h2.get' hx
    exact ⟨F, k, Same.refl F, fun _ _ h => h, d, h3, Dt.mono e _ _ h4⟩⟩
theorem wk_tup {K : Frg} {P F0 : Hp} {a : Addr} {vs : List V} {ds : List D} (h1 : F0 a = some (.tup vs)) (h2 : Da F0 vs ds) : Wk K P (Itt K a) F0 ds :=
  ⟨_, _, by rw [← h2.length]; exact walk_tup, fun G F env s H _ k e => SqT.of (k.fr _ _ (e _ _ h1)), fun i H x H' G F env s hi hp k e y => by
    obtain ⟨rfl, hx⟩ := y
    obtain ⟨d, h3, h4⟩ := h2.get' hx
    exact ⟨F, k, Same.refl F, fun _ _ h => h, d, h3, Dt.mono e _ _ h4⟩⟩
def signs (x : Str) : List D := x.cps.toList.map fun c => .str ⟨#[c]⟩
theorem wk_str {K : Frg} {P F0 : Hp} {x : Str} : Wk K P (Its x) F0 (signs x) :=
  ⟨_, _, by
    have : (signs x).length = x.cps.size := by simp [signs]
    rw [this]; exact walk_str, fun _ _ _ _ _ _ _ _ => trivial, fun i H y H' G F env s hi hp k e q => by
    obtain ⟨rfl, c, h1, rfl⟩ := q
    refine ⟨F, k, Same.refl F, fun _ _ h => h, .str ⟨#[c]⟩, ?_, .str _⟩
    unfold signs
    rw [List.getElem?_map, Array.getElem?_toList, h1]
    rfl⟩
def irange (lo : Int) (n : Nat) : List D := (List.range n).map fun (i : Nat) => PyData.int (lo + (i : Int))
theorem wk_range {K : Frg} {P F0 : Hp} {lo : Int} {n : Nat} : Wk K P (Itr lo n) F0 (irange lo n) :=
  ⟨_, _, by
    have : (irange lo n).length = n := by simp [irange]
    rw [this]; exact walk_range, fun _ _ _ _ _ _ _ _ => trivial, fun i H y H' G F env s hi hp k e q => by
    obtain ⟨rfl, rfl⟩ := q
    refine ⟨F, k, Same.refl F, fun _ _ h => h, .int (lo + (i : Int)), ?_, .int _⟩
    have hi' : i < n := by simpa [irange] using hi
    unfold irange
    rw [List.getElem?_map, List.getElem?_range hi']
    rfl⟩
/-- pairs, each a new tuple -/
def pairs (xs ys : List D) : List D := (xs.zip ys).map fun p => .tuple [p.1, p.2]
theorem wk_pair {K : Frg} {P F0 : Hp} {J : It} {n : Nat} {Gp : Hp → Prop} {f g : Nat → Option V} {xs ys : List D} (w : Walk J n Gp (YPair f g)) (hn : n = min xs.length ys.length) (hG : ∀ G F env s H, Same P G.R → Ok K G F env s H → Same F0 F → Gp H)
    (hx : ∀ i v, i < n → f i = some v → ∃ d, xs[i]? = some d ∧ Dt F0 v d) (hy : ∀ i v, i < n → g i = some v → ∃ d, ys[i]? = some d ∧ Dt F0 v d) : Wk K P J F0 (pairs xs ys) :=
  ⟨_, _, by
    have : (pairs xs ys).length = n := by simp [pairs, hn]
    rw [this]; exact w, hG, fun i H v H' G F env s hi hp k e q => by
    have hi' : i < n := by simp [pairs] at hi; omega
    obtain ⟨T, x, y, rfl, hT, rfl, h1, h2⟩ := q
    obtain ⟨d1, h3, h4⟩ := hx i x hi' h1
    obtain ⟨d2, h5, h6⟩ := hy i y hi' h2
    have se : Same F (upd F T (.tup [x, y])) := same_upd (k.fr.free hT)
    refine ⟨_, k.alloc hT, se, fun a o h => same_upd hT a o h, .tuple [d1, d2], ?_, .tup upd_same (.cons (Dt.mono (e.trans se) _ _ h4) (.cons (Dt.mono (e.trans se) _ _ h6) .nil))⟩
    unfold pairs
    rw [List.getElem?_map, (List.getElem?_zip_eq_some (z := (d1, d2))).mpr ⟨h3, h5⟩]
    rfl⟩
section
variable {X : Cx} {tg e a b : Expr} {fe fa fb : Ef} {f g : Sf} {pos : Pos} {K : Frg}
/-- a list, a tuple, a text -/
def iSeq (K : Frg) (tl : TE) : TI := fun s H R => tl s H fun x H1 => (∃ a, x = .ref a ∧ (∃ xs, SqL K H1 a xs) ∧ R (Itl K a) H1) ∨ (∃ a, x = .ref a ∧ (∃ xs, SqT K H1 a xs) ∧ R (Itt K a) H1) ∨ ∃ z, x = .str z ∧ R (Its z) H1
theorem pi_seq {l : Expr} {tl : TE} (hl : PE X l tl) : PI X tg l (iSeq X.K tl) := by
  refine ⟨fun pins s σ H R I h => ?_⟩
  refine thn (hl.run pins s σ H _ I h) fun v s1 ⟨x, H1, I1, r1, q1⟩ => ?_
  rcases q1 with ⟨a, e, ⟨xs, hq⟩, q⟩ | ⟨a, e, ⟨xs, hq⟩, q⟩ | ⟨z, e, q⟩
  · subst e
    cases r1
    obtain ⟨its, rv, p, hz⟩ := I1.list hq
    refine wpAny_pyIter_list p.isList ?_
    refine ⟨s1.heap.objs.size, [s1.heap.objs.size], _, _, H1, rfl, I1.kept (t' := s1.toks) fun b o e => Heap.get?_push_of_some _ e, turn_list a _, ⟨_, Heap.get?_push_size _ rfl, rfl, rfl⟩, fun b hb => ?_, q⟩
    have e : b = s1.heap.objs.size := by simpa using hb
    subst e
    exact I1.fpOk (Nat.le_refl _) (I1.hok.fresh (Nat.le_refl _))
  · subst e
    cases r1
    obtain ⟨its, rv, p, hz⟩ := I1.tuple hq
    refine wpAny_pyIter_tuple (show s1.heap.IsTuple a its.toArray from p) ?_
    refine ⟨s1.heap.objs.size, [s1.heap.objs.size], _, _, H1, rfl, I1.kept (t' := s1.toks) fun b o e => Heap.get?_push_of_some _ e, turn_tuple a _, ⟨_, Heap.get?_push_size _ rfl, rfl, rfl⟩, fun b hb => ?_, q⟩
    have e : b = s1.heap.objs.size := by simpa using hb
    subst e
    exact I1.fpOk (Nat.le_refl _) (I1.hok.fresh (Nat.le_refl _))
  · subst e
    obtain ⟨t, rfl⟩ := r1
    cases ha : z.cps.all (· < 128)
    · exact wpAny_pyIter_wide ha (pi_one (tk := s1.toks) I1 _ (turn_str _ z t "str_iterator" (.inr rfl)) ⟨_, Heap.get?_push_size _ rfl, rfl, rfl⟩ q)
    · exact wpAny_pyIter_ascii ha (pi_one (tk := s1.toks) I1 _ (turn_str _ z t "str_ascii_iterator" (.inl rfl)) ⟨_, Heap.get?_push_size _ rfl, rfl, rfl⟩ q)
def lIt (f : Ef) : Lf := fun env => (f env).bind fun r => match r.1 with
  | .list ds => some (ds, r.2)
  | .tuple ds => some (ds, r.2)
  | .str x => some (signs x, r.2)
  | _ => none
theorem xi_seq (ha : XE X e fe) : XI X tg e (lIt fe) := by
  obtain ⟨t, h1, h2⟩ := ha.ex
  refine ⟨_, pi_seq h1, fun G F env s H ds env' k e R q => ?_⟩
  unfold lIt at e
  obtain ⟨⟨d, e1⟩, h3, e⟩ := Option.bind_eq_some_iff.mp e
  refine h2 G F env s H d e1 k h3 _ fun F1 H1 v k1 s1 p1 => ?_
  cases p1 with
  | lst a1 b1 =>
    cases e
    exact .inl ⟨_, rfl, ⟨_, SqL.of (k1.fr _ _ a1)⟩, q F1 H1 _ k1 s1 (wk_list (fun G F env s H _ k e => SqL.of (k.fr _ _ (e _ _ a1))) b1)⟩
  | tup a1 b1 =>
    cases e
    exact .inr (.inl ⟨_, rfl, ⟨_, SqT.of (k1.fr _ _ a1)⟩, q F1 H1 _ k1 s1 (wk_tup a1 b1)⟩)
  | str x =>
    cases e
    exact .inr (.inr ⟨_, rfl, q F1 H1 _ k1 s1 wk_str⟩)
  | _ => cases e
def smallI (i : Int) : Bool := decide (-1000000000 ≤ i) && decide (i ≤ 1000000000)
def lRng1 (f : Ef) : Lf := fun env => (f env).bind fun r => match r.1 with
  | .int n => if smallI n then some (irange 0 n.toNat, r.2) else none
  | _ => none
def lRng2 (f g : Ef) : Lf := fun env => (f env).bind fun r => (g r.2).bind fun q => match r.1, q.1 with
  | .int m, .int n => if smallI m && smallI n then some (irange m (n - m).toNat, q.2) else none
  | _, _ => none
theorem xi_rng1 {p : Pos} (ha : XE X a fa) (hm : X.mg "range" = none) (hg : Gl X "range" := by rfl) (hs : starEach [a] X.env = [(false, eval a X.env)] := by rfl) : XI X tg (.Call (.Name "range" p) [a] [] pos) (lRng1 fa) := by
  obtain ⟨t, h1, h2⟩ := ha.ex
  refine ⟨_, pi_range1 hg hm (pa_cons h1 pa_nil (by rw [hs]; rfl)) hs, fun G F env s H ds env' k e R q => ?_⟩
  unfold lRng1 at e
  obtain ⟨⟨d, e1⟩, h3, e⟩ := Option.bind_eq_some_iff.mp e
  refine h2 G F env s H d e1 k h3 _ fun F1 H1 v k1 s1 p1 => ?_
  cases p1 with
  | int n =>
    dsimp only at e
    split at e
    · rename_i hf
      cases e
      unfold smallI at hf
      simp only [Bool.and_eq_true, decide_eq_true_eq] at hf
      exact ⟨n, rfl, by omega, by omega, q F1 H1 _ k1 s1 wk_range⟩
    · cases e
  | _ => cases e
theorem xi_rng2 {p : Pos} (ha : XE X a fa) (hb : XE X b fb) (hm : X.mg "range" = none) (hg : Gl X "range" := by rfl) (hs : starEach [a, b] X.env = [(false, eval a X.env), (false, eval b X.env)] := by rfl) (hs2 : starEach [b] X.env = [(false, eval b X.env)] := by rfl) : XI X tg (.Call (.Name "range" p) [a, b] [] pos) (lRng2 fa fb) := by
  obtain ⟨t, h1, h2⟩ := ha.ex
  obtain ⟨u, h3, h4⟩ := hb.ex
  refine ⟨_, pi_range2 hg hm (pa_cons h1 (pa_cons h3 pa_nil (by rw [hs2]; rfl)) (by rw [hs, hs2])) hs hs2, fun G F env s H ds env' k e R q => ?_⟩
  unfold lRng2 at e
  obtain ⟨⟨d, e1⟩, h5, e⟩ := Option.bind_eq_some_iff.mp e
  obtain ⟨⟨d2, e2⟩, h6, e⟩ := Option.bind_eq_some_iff.mp e
  refine h2 G F env s H d e1 k h5 _ fun F1 H1 v k1 s1 p1 => ?_
  refine h4 G F1 e1 s H1 d2 e2 k1 h6 _ fun F2 H2 v2 k2 s2 p2 => ?_
  cases p1 with
  | int m =>
    cases p2 with
    | int n =>
      dsimp only at e
      split at e
      · rename_i hf
        cases e
        unfold smallI at hf
        simp only [Bool.and_eq_true, decide_eq_true_eq] at hf
        exact ⟨m, n, rfl, by omega, q F2 H2 _ k2 (s1.trans s2) wk_range⟩
      · cases e
    | _ => cases e
  | _ => cases e
def lEnum (f : Ef) : Lf := fun env => (f env).bind fun r => match r.1 with
  | .list ds => some (pairs (irange 0 ds.length) ds, r.2)
  | _ => none
theorem xi_enum {p tpos : Pos} {elts : List Expr} {kk : Nat} (ha : XE X a fa) (hm : X.mg "enumerate" = none) (hg : Gl X "enumerate" := by rfl) (hs : starEach [a] X.env = [(false, eval a X.env)] := by rfl) : XI X (.Tuple elts kk tpos) (.Call (.Name "enumerate" p) [a] [] pos) (lEnum fa) := by
  obtain ⟨t, h1, h2⟩ := ha.ex
  refine ⟨_, pi_enum hg hm (pa_cons h1 pa_nil (by rw [hs]; rfl)) hs, fun G F env s H ds env' k e R q => ?_⟩
  unfold lEnum at e
  obtain ⟨⟨d, e1⟩, h3, e⟩ := Option.bind_eq_some_iff.mp e
  refine h2 G F env s H d e1 k h3 _ fun F1 H1 v k1 s1 p1 => ?_
  cases p1 with
  | lst a1 b1 =>
    cases e
    refine ⟨_, _, rfl, SqL.of (k1.fr _ _ a1), q F1 H1 _ k1 s1 (wk_pair walk_enum (by simp [irange, b1.length]) (fun G F env s H _ k e => SqL.of (k.fr _ _ (e _ _ a1))) (fun i v hi hv => ?_) fun i v _ hv => b1.get' hv)⟩
    cases hv
    refine ⟨.int (i : Int), ?_, .int _⟩
    unfold irange
    rw [List.getElem?_map, List.getElem?_range (by rw [← b1.length]; exact hi)]
    simp
  | _ => cases e
def lZip (f g : Ef) : Lf := fun env => (f env).bind fun r => (g r.2).bind fun q => match r.1, q.1 with
  | .list ds, .list es => some (pairs ds es, q.2)
  | .tuple ds, .tuple es => some (pairs ds es, q.2)
  | _, _ => none
theorem walk_zipT {K : Frg} {a b : Addr} {xs ys : List V} {n : Nat} (hn : n = min xs.length ys.length) : Walk (RZ.ItzT K a b) n (fun H => SqT K H a xs ∧ SqT K H b ys) (YPair (fun i => xs[i]?) (fun i => ys[i]?)) := by
  subst hn
  refine ⟨fun i _ hi q => ?_, fun _ q => ⟨xs, ys, q.1, q.2, by omega⟩, fun i H v H' _ q y => ?_⟩
  · have h1 : i < xs.length := by omega
    have h2 : i < ys.length := by omega
    exact ⟨xs, ys, xs[i], ys[i], q.1, q.2, by simp [h1], by simp [h2]⟩
  · obtain ⟨T, x, z, h1, h2, h3, h4, h5⟩ := y
    exact ⟨T, x, z, h1, h2, h3, h4 xs q.1, h5 ys q.2⟩
theorem xi_zip {p tpos : Pos} {elts : List Expr} {kk : Nat} (ha : XE X a fa) (hb : XE X b fb) (hm : X.mg "zip" = none) (hg : Gl X "zip" := by rfl) (hs : starEach [a, b] X.env = (false, eval a X.env) :: starEach [b] X.env := by rfl) (hs2 : starEach [b] X.env = (false, eval b X.env) :: starEach [] X.env := by rfl)
    (hpl : (backTo pos (starEach [b] X.env)).any (·.1) = false := by rfl) : XI X (.Tuple elts kk tpos) (.Call (.Name "zip" p) [a, b] [] pos) (lZip fa fb) := by
  obtain ⟨t, h1, h2⟩ := ha.ex
  obtain ⟨u, h3, h4⟩ := hb.ex
  refine ⟨_, RZ.pi_zipA hg hm (pa_cons h1 (pa_cons h3 pa_nil hs2) hs) hs hpl, fun G F env s H ds env' k e R q => ?_⟩
  unfold lZip at e
  obtain ⟨⟨d, e1⟩, h5, e⟩ := Option.bind_eq_some_iff.mp e
  obtain ⟨⟨d2, e2⟩, h6, e⟩ := Option.bind_eq_some_iff.mp e
  refine h2 G F env s H d e1 k h5 _ fun F1 H1 v k1 s1 p1 => ?_
  refine h4 G F1 e1 s H1 d2 e2 k1 h6 _ fun F2 H2 v2 k2 s2 p2 => ?_
  have p3 := Dt.mono s2 _ _ p1
  cases p3 with
  | lst a1 b1 =>
    cases p2 with
    | lst a2 b2 =>
      cases e
      exact ⟨_, _, _, _, rfl, .inl ⟨SqL.of (k2.fr _ _ a1), SqL.of (k2.fr _ _ a2), q F2 H2 _ k2 (s1.trans s2) (wk_pair (walk_zip rfl) (by rw [b1.length, b2.length]) (fun G F env s H _ k e => ⟨SqL.of (k.fr _ _ (e _ _ a1)), SqL.of (k.fr _ _ (e _ _ a2))⟩) (fun i v _ hv => b1.get' hv) fun i v _ hv => b2.get' hv)⟩⟩
    | _ => cases e
  | tup a1 b1 =>
    cases p2 with
    | tup a2 b2 =>
      cases e
      exact ⟨_, _, _, _, rfl, .inr ⟨SqT.of (k2.fr _ _ a1), SqT.of (k2.fr _ _ a2), q F2 H2 _ k2 (s1.trans s2) (wk_pair (walk_zipT rfl) (by rw [b1.length, b2.length]) (fun G F env s H _ k e => ⟨SqT.of (k.fr _ _ (e _ _ a1)), SqT.of (k.fr _ _ (e _ _ a2))⟩) (fun i v _ hv => b1.get' hv) fun i v _ hv => b2.get' hv)⟩⟩
    | _ => cases e
  | _ => cases e

/-! ### for -/
def forGo (g : Tf) (body : Sf) : List D → En → Option Out
  | [], env => some (.nx env)
  | d :: ds, env => (g d env).bind fun env1 => (body env1).bind fun o => match o with
    | .nx env2 => forGo g body ds env2
    | o => some o
def sFor (src : Lf) (g : Tf) (body : Sf) : Sf := fun env => (src env).bind fun r => forGo g body r.1 r.2
theorem xs_for {iter : Expr} {body : List Stmt} {src : Lf} {gt : Tf} {sl : List Nat} {fb : Sf} (hp : PassesOwn (model X.prog X.w) X.A X.env X.xe) (hi : XI X tg iter src) (hg : XG X tg gt sl) (hb : XSs X body fb) (hc : X.calm = true := by rfl)
    (hs : ∀ x, foldedSetIterable iter X.env x = pure x := by intro _; rfl) : XS X (.For tg iter body [] pos) (sFor src gt fb) := by
  obtain ⟨wi, p1, q1⟩ := hi.ex
  obtain ⟨tg', p2, q2⟩ := hg.ex
  obtain ⟨tb, p3, q3⟩ := hb.ex
  refine ⟨_, ps_for hp hc p1 p2 p3 hs, fun G F env s H o k e E q => ?_⟩
  unfold sFor at e
  obtain ⟨⟨ds, e1⟩, h1, e⟩ := Option.bind_eq_some_iff.mp e
  refine q1 G F env s H ds e1 k h1 _ fun F1 H1 J k1 s1 w => ?_
  obtain ⟨Gp, Y, w1, w2, w3⟩ := w
  refine for_it w1 (fun i s' H' => ∃ F' env', Ok X.K G F' env' s' H' ∧ Same F1 F' ∧ forGo gt fb (ds.drop i) env' = some o) ⟨F1, e1, k1, Same.refl F1, e⟩ (fun i s' H' hi ⟨F', env', k', s'', _⟩ => w2 G F' env' s' H' (Same.refl _) k' s'') (fun i x s' H' H'' hi ⟨F', env', k', s'', e'⟩ y => ?_) fun s' H' ⟨F', env', k', s'', e'⟩ => ?_
  · obtain ⟨F2, k2, s2, _, d, hd, pd⟩ := w3 i H' x H'' G F' env' s' hi (Same.refl _) k' s'' y
    have hdr : ds.drop i = d :: ds.drop (i + 1) := by
      obtain ⟨hl, hx⟩ := List.getElem?_eq_some_iff.mp hd
      rw [List.drop_eq_getElem_cons hl, hx]
    rw [hdr] at e'
    unfold forGo at e'
    obtain ⟨env2, h2, e'⟩ := Option.bind_eq_some_iff.mp e'
    obtain ⟨o2, h3, e'⟩ := Option.bind_eq_some_iff.mp e'
    refine q2 G F2 env' s' H'' x d env2 k2 pd h2 _ fun s3 k3 _ => ?_
    refine q3 G F2 env2 s3 H'' o2 k3 h3 _ ?_
    cases o2 with
    | nx env3 => exact fun F4 s4 H4 k4 s5 => ⟨F4, env3, k4, (s''.trans s2).trans s5, e'⟩
    | rt v ee =>
      cases e'
      exact (q.up (s1.trans (s''.trans s2))).same_rt rfl (by simp)
    | rn v ee =>
      cases e'
      exact (q.up (s1.trans (s''.trans s2))).same_rt rfl (by simp)
    | rp v w ee =>
      cases e'
      exact (q.up (s1.trans (s''.trans s2))).same_rt rfl (by simp)
  · rw [List.drop_length] at e'
    cases e'
    exact q F' s' H' k' (s1.trans s'')

/-! ### while -/
def whGo (c : Bf) (body : Sf) : Nat → En → Option Out
  | 0, _ => none
  | n + 1, env => (c env).bind fun r => if r.1 then (body r.2).bind fun o => match o with
    | .nx env2 => whGo c body n env2
    | o => some o
    else some (.nx r.2)
def sWh (n : Nat) (c : Bf) (body : Sf) : Sf := whGo c body n
theorem xs_while (n : Nat) {c : Expr} {body : List Stmt} {gc : Bf} {fb : Sf} (hp : PassesOwn (model X.prog X.w) X.A X.env X.xe) (hc : XB X c gc) (hb : XSs X body fb) : XS X (.While c body [] pos) (sWh n gc fb) := by
  obtain ⟨tc, p1, q1⟩ := hc.ex
  obtain ⟨tb, p2, q2⟩ := hb.ex
  refine ⟨_, ps_while hp p1 p2, fun G F env s H o k e E q => ?_⟩
  refine ⟨fun m s' H' => ∃ F' env', Ok X.K G F' env' s' H' ∧ Same F F' ∧ whGo gc fb m env' = some o, ⟨n, F, env, k, Same.refl F, e⟩, ?_⟩
  rintro m s' H' ⟨F', env', k', s'', e'⟩
  cases m with
  | zero => cases e'
  | succ m =>
    unfold whGo at e'
    obtain ⟨⟨b, e1⟩, h1, e'⟩ := Option.bind_eq_some_iff.mp e'
    refine q1 G F' env' s' H' b e1 k' h1 _ fun F1 H1 k1 s1 => ?_
    cases b with
    | true =>
      rw [if_pos rfl] at e' ⊢
      obtain ⟨o2, h3, e'⟩ := Option.bind_eq_some_iff.mp e'
      refine ⟨fun s2 H2 => ∃ F2 env2, Ok X.K G F2 env2 s2 H2 ∧ Same F F2 ∧ whGo gc fb m env2 = some o, fun s2 H2 h => ⟨m, Nat.lt_succ_self m, h⟩, ?_⟩
      refine q2 G F1 e1 s' H1 o2 k1 h3 _ ?_
      cases o2 with
      | nx env3 => exact fun F4 s4 H4 k4 s5 => ⟨F4, env3, k4, (s''.trans s1).trans s5, e'⟩
      | rt v ee =>
        cases e'
        exact (q.up (s''.trans s1)).same_rt rfl (by simp)
      | rn v ee =>
        cases e'
        exact (q.up (s''.trans s1)).same_rt rfl (by simp)
      | rp v w ee =>
        cases e'
        exact (q.up (s''.trans s1)).same_rt rfl (by simp)
    | false =>
      rw [if_neg Bool.false_ne_true] at e' ⊢
      cases e'
      exact q F1 s' H1 k1 (s''.trans s1)

/-! ### list comprehensions -/
def wipeE (env : En) : List Nat → En
  | [] => env
  | v :: vs => (wipeE env vs).set v .no
def backE (old env : En) : List Nat → En
  | [] => env
  | v :: vs => match old[v]? with
    | some x => (backE old env vs).set v x
    | none => backE old env vs
def noOwn (env : En) : List Nat → Bool
  | [] => true
  | v :: vs => (!isOwn env v && !isDct env v) && noOwn env vs
def lcGo (vs : List Nat) (g : Tf) (c : Bf) (f : Ef) : List D → En → Option (List D × En)
  | [], env => some ([], env)
  | d :: ds, env => (g d env).bind fun env1 => (c env1).bind fun r => if r.1 then (f r.2).bind fun q => (lcGo vs g c f ds (wipeE q.2 vs)).map fun w => (q.1 :: w.1, w.2)
    else lcGo vs g c f ds (wipeE r.2 vs)
def lComp (src : Lf) (vs : List Nat) (g : Tf) (c : Bf) (f : Ef) : Lf := fun env => (src env).bind fun r => if noOwn r.2 vs && fits r.1.length then (lcGo vs g c f r.1 (wipeE r.2 vs)).map fun w => (w.1, backE r.2 w.2 vs) else none
theorem wipeE_length (env : En) : ∀ vs : List Nat, (wipeE env vs).length = env.length
  | [] => rfl
  | v :: vs => by unfold wipeE; rw [List.length_set, wipeE_length env vs]
theorem wipeE_get (env : En) : ∀ (vs : List Nat) (j : Nat), (wipeE env vs)[j]? = if j ∈ vs ∧ j < env.length then some .no else env[j]?
  | [], j => by simp [wipeE]
  | v :: vs, j => by
    unfold wipeE
    by_cases hj : v = j
    · subst hj
      by_cases hl : v < env.length
      · rw [List.getElem?_set_self (by rw [wipeE_length]; exact hl)]
        simp [hl]
      · rw [List.getElem?_eq_none (by rw [List.length_set, wipeE_length]; omega), List.getElem?_eq_none (by omega)]
        simp [hl]
    · rw [List.getElem?_set_ne hj, wipeE_get env vs j]
      have : ¬ j = v := fun e => hj e.symm
      simp [this]
theorem backE_length (old env : En) : ∀ vs : List Nat, (backE old env vs).length = env.length
  | [] => rfl
  | v :: vs => by
    unfold backE
    split
    · rw [List.length_set, backE_length old env vs]
    · exact backE_length old env vs
theorem backE_get (old env : En) (hl : old.length = env.length) : ∀ (vs : List Nat) (j : Nat), (backE old env vs)[j]? = if j ∈ vs then old[j]? else env[j]?
  | [], j => by simp [backE]
  | v :: vs, j => by
    unfold backE
    by_cases hj : v = j
    · subst hj
      cases hx : old[v]? with
      | some x =>
        have hv : v < old.length := (List.getElem?_eq_some_iff.mp hx).1
        simp only
        rw [List.getElem?_set_self (by rw [backE_length, ← hl]; exact hv)]
        simp
      | none =>
        simp only
        rw [backE_get old env hl vs v, hx]
        have : env[v]? = none := by rw [List.getElem?_eq_none_iff] at hx ⊢; omega
        simp [this]
    · have hn : ¬ j = v := fun e => hj e.symm
      cases hx : old[v]? with
      | some x => simp only; rw [List.getElem?_set_ne hj, backE_get old env hl vs j]; simp [hn]
      | none => simp only; rw [backE_get old env hl vs j]; simp [hn]
theorem noOwn_get {env : En} : ∀ {vs : List Nat} {j : Nat}, noOwn env vs = true → j ∈ vs → ∀ l ds, env[j]? ≠ some (.own l ds)
  | v :: vs, j, h, hj, l, ds => fun e => by
    unfold noOwn at h
    simp only [Bool.and_eq_true, Bool.not_eq_true'] at h
    rcases List.mem_cons.mp hj with rfl | hj
    · have := h.1.1
      unfold isOwn at this
      rw [e] at this; cases this
    · exact noOwn_get h.2 hj l ds e
theorem noOwn_dct {env : En} : ∀ {vs : List Nat} {j : Nat}, noOwn env vs = true → j ∈ vs → ∀ w kvs, env[j]? ≠ some (.dct w kvs)
  | v :: vs, j, h, hj, w, kvs => fun e => by
    unfold noOwn at h
    simp only [Bool.and_eq_true, Bool.not_eq_true'] at h
    rcases List.mem_cons.mp hj with rfl | hj
    · have := h.1.2
      unfold isDct at this
      rw [e] at this; cases this
    · exact noOwn_dct h.2 hj w kvs e
theorem ok_wipe {G : Gm} {F : Hp} {env : En} {s : L2.St} {H : Hp} (vs : List Nat) (k : Ok K G F env s H) : Ok K G F (wipeE env vs) (wipe s vs) H := by
  have key : ∀ {j : Nat} {x : Sl}, (wipeE env vs)[j]? = some x → x ≠ .no → env[j]? = some x ∧ (wipe s vs)[j]? = s[j]? := fun {j x} e hx => by
    rw [wipeE_get] at e
    rw [wipe_get]
    split at e
    · cases e; exact absurd rfl hx
    · rename_i hn
      exact ⟨e, by rw [k.len]; rw [if_neg hn]⟩
  refine ⟨by rw [wipe_length, wipeE_length, k.len], k.fr, fun j d e => ?_, fun j l ds e => ?_, fun j ds e => ?_, fun i j l ds m es e1 e2 e3 => ?_, k.pin, k.dom, k.grow, k.new, k.rin, k.dct.slots fun j w kvs e => key e (by simp)⟩
  · obtain ⟨h1, h2⟩ := key e (by simp)
    rw [h2]; exact k.val j d h1
  · obtain ⟨h1, h2⟩ := key e (by simp)
    rw [h2]; exact k.own j l ds h1
  · obtain ⟨h1, h2⟩ := key e (by simp)
    rw [h2]; exact k.ro j ds h1
  · obtain ⟨h1, h2⟩ := key e1 (by simp)
    obtain ⟨h3, h4⟩ := key e2 (by simp)
    rw [h2, h4] at e3
    exact k.sep i j _ _ _ _ h1 h3 e3
/-- a frame with one more pinned object -/
abbrev Gm.pin (G : Gm) (p : Addr) (o : HO) : Gm := { G with P := upd G.P p o, H0 := upd G.H0 p o }
theorem ok_pin {G : Gm} {F : Hp} {env : En} {s : L2.St} {H : Hp} {p : Addr} {o : HO} (k : Ok K G F env s H) (hp : H p = some o) (hn : ∀ (j : Nat) l es, env[j]? = some (.own l es) → s[j]? ≠ some (some (.ref p))) (hP : G.P p = none) (hF : F p = none) (hD : ∀ (j : Nat) w kvs, env[j]? = some (.dct w kvs) → s[j]? ≠ some (some (.ref p))) : Ok K (G.pin p o) F env s H := by
  refine ⟨k.len, k.fr, k.val, fun j l ds e => ?_, k.ro, k.sep, fun a u e => ?_, fun a e => ?_, k.grow, fun a u e => ?_, k.rin.trans (same_upd hP), k.dct.move (fun _ _ e => e) (fun _ _ _ e => ⟨e, rfl⟩) fun a es g1 g2 g3 g4 ⟨i, w, kvs, g5, g6⟩ => ?_⟩
  · obtain ⟨a, vs, h1, h2, h3, h4, h5, h6, h7⟩ := k.own j l ds e
    have ne : a ≠ p := fun z => by subst z; exact hn j l ds e h1
    exact ⟨a, vs, h1, h2, h3, by show upd G.P p o a = none; rw [upd_ne ne]; exact h4, h5, fun z => by show upd G.H0 p o a = none; rw [upd_ne ne]; exact h6 z, h7⟩
  · have e : upd G.P p o a = some u := e
    by_cases h : a = p
    · subst h; rw [upd_same] at e; rw [hp]; exact e
    · rw [upd_ne h] at e; exact k.pin a u e
  · show upd G.H0 p o a = none
    have ne : a ≠ p := fun z => by subst z; rw [hp] at e; cases e
    rw [upd_ne ne]; exact k.dom a e
  · rcases k.new a u e with z | z
    · exact .inl z
    · have ne : a ≠ p := fun z => by subst z; rw [hF] at e; cases e
      exact .inr (by show upd G.H0 p o a = none; rw [upd_ne ne]; exact z)
  · have ne : a ≠ p := fun z => by subst z; exact hD i w kvs g5 g6
    exact ⟨g1, g2, by show upd G.P p o a = none; rw [upd_ne ne]; exact g3, by show upd G.H0 p o a = none; rw [upd_ne ne]; exact g4⟩
theorem ok_unpin {G : Gm} {F : Hp} {env : En} {s : L2.St} {H : Hp} {p : Addr} {o : HO} (k : Ok K (G.pin p o) F env s H) (hP : G.P p = none) (h0 : G.H0 p = none) (hr : Same G.R G.P) : Ok K G F env s H := by
  have pn : ∀ a, upd G.P p o a = none → G.P a = none ∧ a ≠ p := fun a e => by
    by_cases h : a = p
    · subst h; rw [upd_same] at e; cases e
    · rw [upd_ne h] at e; exact ⟨e, h⟩
  refine ⟨k.len, k.fr, k.val, fun j l ds e => ?_, k.ro, k.sep, fun a u e => k.pin a u (same_upd hP a u e), fun a e => ?_, k.grow, fun a u e => ?_, hr, k.dct.move (fun _ _ e => e) (fun _ _ _ e => ⟨e, rfl⟩) fun a es g1 g2 g3 g4 _ => ?_⟩
  · obtain ⟨a, vs, h1, h2, h3, h4, h5, h6, h7⟩ := k.own j l ds e
    obtain ⟨h8, h9⟩ := pn a h4
    exact ⟨a, vs, h1, h2, h3, h8, h5, fun z => by have q : upd G.H0 p o a = none := h6 z; rw [upd_ne h9] at q; exact q, h7⟩
  · by_cases h : a = p
    · subst h; exact h0
    · have q : upd G.H0 p o a = none := k.dom a e
      rw [upd_ne h] at q; exact q
  · rcases k.new a u e with z | z
    · exact .inl z
    · have z : upd G.H0 p o a = none := z
      by_cases h : a = p
      · subst h; rw [upd_same] at z; cases z
      · rw [upd_ne h] at z; exact .inr z
  · obtain ⟨h8, h9⟩ := pn a g3
    exact ⟨g1, g2, h8, by have q : upd G.H0 p o a = none := g4; rw [upd_ne h9] at q; exact q⟩
/-- a pinned object is never frozen -/
theorem pin_nofrz {G : Gm} {F : Hp} {env : En} {s : L2.St} {H : Hp} {p : Addr} {o : HO} (k : Ok K (G.pin p o) F env s H) (h : G.F0 p = none) : F p = none := by
  cases hx : F p with
  | none => rfl
  | some u =>
    rcases k.new p u hx with z | z
    · have z : G.F0 p = some u := z
      rw [h] at z; cases z
    · have z : upd G.H0 p o p = none := z
      rw [upd_same] at z; cases z
theorem pin_at {G : Gm} {F : Hp} {env : En} {s : L2.St} {H : Hp} {p : Addr} {o : HO} (k : Ok K (G.pin p o) F env s H) : H p = some o := k.pin p o (by show upd G.P p o p = some o; rw [upd_same])
/-- an object that is pinned changes its content -/
theorem ok_repin {G : Gm} {F : Hp} {env : En} {s : L2.St} {H : Hp} {p : Addr} {o o' : HO} (k : Ok K (G.pin p o) F env s H) (hP : G.P p = none) (hF : F p = none) (hr : Same G.R G.P) : Ok K (G.pin p o') F env s (upd H p o') := by
  have pn : ∀ a, upd G.P p o a = none → upd G.P p o' a = none ∧ a ≠ p := fun a e => by
    by_cases h : a = p
    · subst h; rw [upd_same] at e; cases e
    · rw [upd_ne h] at e; exact ⟨by rw [upd_ne h]; exact e, h⟩
  have hn : ∀ a, upd G.H0 p o a = none → upd G.H0 p o' a = none := fun a e => by
    by_cases h : a = p
    · subst h; rw [upd_same] at e; cases e
    · rw [upd_ne h] at e ⊢; exact e
  refine ⟨k.len, fun a u e => ?_, k.val, fun j l ds e => ?_, k.ro, k.sep, fun a u e => ?_, fun a e => ?_, k.grow, fun a u e => ?_, hr.trans (same_upd hP), k.dct.move (fun _ _ e => e) (fun _ _ _ e => ⟨e, rfl⟩) fun a es g1 g2 g3 g4 _ => ?_⟩
  · have ne : a ≠ p := fun z => by subst z; rw [hF] at e; cases e
    rw [upd_ne ne]; exact k.fr a u e
  · obtain ⟨a, vs, h1, h2, h3, h4, h5, h6, h7⟩ := k.own j l ds e
    obtain ⟨h8, h9⟩ := pn a h4
    exact ⟨a, vs, h1, by rw [upd_ne h9]; exact h2, h3, h8, h5, fun z => hn a (h6 z), h7⟩
  · have e : upd G.P p o' a = some u := e
    by_cases h : a = p
    · subst h; rw [upd_same] at e ⊢; exact e
    · rw [upd_ne h] at e ⊢
      exact k.pin a u (by show upd G.P p o a = some u; rw [upd_ne h]; exact e)
  · by_cases h : a = p
    · subst h; rw [upd_same] at e; cases e
    · rw [upd_ne h] at e; exact hn a (k.dom a e)
  · rcases k.new a u e with z | z
    · exact .inl z
    · exact .inr (hn a z)
  · obtain ⟨h8, h9⟩ := pn a g3
    exact ⟨by rw [upd_ne h9]; exact g1, g2, h8, hn a g4⟩
theorem lcGo_some {vs : List Nat} {g : Tf} {c : Bf} {f : Ef} {d : D} {ds : List D} {env env' : En} {zs : List D} (e : lcGo vs g c f (d :: ds) env = some (zs, env')) :
    ∃ env1 env2, g d env = some env1 ∧ ((∃ y env3 ws, c env1 = some (true, env2) ∧ f env2 = some (y, env3) ∧ lcGo vs g c f ds (wipeE env3 vs) = some (ws, env') ∧ zs = y :: ws) ∨ (c env1 = some (false, env2) ∧ lcGo vs g c f ds (wipeE env2 vs) = some (zs, env'))) := by
  unfold lcGo at e
  obtain ⟨env1, h1, e⟩ := Option.bind_eq_some_iff.mp e
  obtain ⟨⟨b, env2⟩, h2, e⟩ := Option.bind_eq_some_iff.mp e
  cases b with
  | true =>
    rw [if_pos rfl] at e
    obtain ⟨⟨y, env3⟩, h3, e⟩ := Option.bind_eq_some_iff.mp e
    obtain ⟨⟨ws, env4⟩, h4, e⟩ := Option.map_eq_some_iff.mp e
    cases e
    exact ⟨env1, env2, h1, .inl ⟨y, env3, ws, h2, h3, h4, rfl⟩⟩
  | false =>
    rw [if_neg Bool.false_ne_true] at e
    exact ⟨env1, env2, h1, .inr ⟨h2, e⟩⟩
theorem rn_comp {wi : TI} {gt : TG} {tt : TT} {te : TE} {src : Lf} {vs : List Nat} {g : Tf} {c : Bf} {f : Ef} {sl : List Nat} (hi : RI K wi src) (hg : RG K gt g sl) (ht : RB K tt c) (he : RE K te f) (hsl : ∀ i ∈ sl, i ∈ vs) :
    RN K (tLc wi gt tt te vs) (lComp src vs g c f) := fun G F env s H zs env' k e Q q => by
  unfold lComp at e
  obtain ⟨⟨ds, e1⟩, h1, e⟩ := Option.bind_eq_some_iff.mp e
  dsimp only at e
  split at e
  · rename_i hno
    rw [Bool.and_eq_true] at hno
    have hfit := fits_line hno.2
    obtain ⟨⟨ws, e2⟩, h2, e⟩ := Option.map_eq_some_iff.mp e
    cases e
    refine hi G F env s H ds e1 k h1 _ fun F1 H1 J k1 s1 w => ?_
    obtain ⟨Gp, Y, w1, w2, w3⟩ := w
    intro L hL
    have n1 : F1 L = none := k1.fr.free hL
    have n2 : G.P L = none := k1.pin.free hL
    have n3 : G.H0 L = none := k1.dom L hL
    have nown : ∀ (j : Nat) l es, e1[j]? = some (.own l es) → s[j]? ≠ some (some (.ref L)) := k1.notown hL
    have kw := ok_wipe vs k1
    have nw : ∀ (j : Nat) l es, (wipeE e1 vs)[j]? = some (.own l es) → (wipe s vs)[j]? ≠ some (some (.ref L)) := kw.notown hL
    have nF0 : G.F0 L = none := k1.grow.free n1
    -- the state at each turn
    refine lc_it w1 (fun i H' => ∃ F' env' accV accD rest, Ok K (G.pin L (.lst accV)) F' env' (wipe s vs) H' ∧ Same F1 F' ∧ Da F' accV accD ∧ accD.length ≤ i ∧ lcGo vs g c f (ds.drop i) env' = some (rest, e2) ∧ ws = accD ++ rest) ?_ ?_ ?_ ?_
    · refine ⟨F1, wipeE e1 vs, [], [], ws, ?_, Same.refl F1, .nil, Nat.zero_le _, h2, rfl⟩
      exact ok_pin (kw.laid hL) upd_same nw n2 n1 (kw.notdctN hL)
    · rintro i H' _ ⟨F', env', accV, accD, rest, k', s', _⟩
      exact w2 (G.pin L (.lst accV)) F' env' _ H' (Same.refl _) k' s'
    · rintro i x H' H'' hin ⟨F', env', accV, accD, rest, k', s', da, hlen, e', hw⟩ y
      obtain ⟨F2, k2, s2, hh, d, hd, pd⟩ := w3 i H' x H'' (G.pin L (.lst accV)) F' env' (wipe s vs) hin (Same.refl _) k' s' y
      have hdr : ds.drop i = d :: ds.drop (i + 1) := by
        obtain ⟨hl, hx⟩ := List.getElem?_eq_some_iff.mp hd
        rw [List.drop_eq_getElem_cons hl, hx]
      rw [hdr] at e'
      obtain ⟨env1, env2, g1, h3⟩ := lcGo_some e'
      refine hg _ F2 env' (wipe s vs) H'' x d env1 k2 pd g1 _ fun s3 k3 w3' => ?_
      have hwp : wipe s3 vs = wipe (wipe s vs) vs := w3' vs hsl
      have hww : wipe (wipe s vs) vs = wipe s vs := by
        refine List.ext_getElem? fun j => ?_
        rw [wipe_get, wipe_get, wipe_length]
        by_cases hj : j ∈ vs ∧ j < s.length
        · rw [if_pos hj, if_pos hj]
        · rw [if_neg hj, if_neg hj]
      refine ⟨by rw [hwp, hww], ?_⟩
      -- a turn's end
      have again : ∀ {F5 : Hp} {env5 : En} {H5 : Hp} {acc : List V}, Ok K (G.pin L (.lst acc)) F5 env5 s3 H5 → Ok K (G.pin L (.lst acc)) F5 (wipeE env5 vs) (wipe s vs) H5 := fun {F5 env5 H5 acc} k5 => by
        have := ok_wipe vs k5
        rw [hwp, hww] at this
        exact this
      rcases h3 with ⟨yv, env3, wr, hc, hf, hr, rfl⟩ | ⟨hc, hr⟩
      · refine ht _ F2 env1 s3 H'' true env2 k3 hc _ fun F3 H3 k4 s4 => ?_
        rw [if_pos rfl]
        refine he _ F3 env2 s3 H3 yv env3 k4 hf _ fun F4 H4 v k5 s5 p5 => ?_
        have ss : Same F1 F4 := ((s'.trans s2).trans s4).trans s5
        have ss' : Same F' F4 := (s2.trans s4).trans s5
        refine ⟨accV, pin_at k5, by rw [da.length]; omega, F4, wipeE env3 vs, accV ++ [v], accD ++ [yv], wr, again (ok_repin k5 n2 (pin_nofrz k5 nF0) k1.rin), ss, (Da.mono ss' _ _ da).append (.cons p5 .nil), by simp; omega, hr, by rw [hw]; simp⟩
      · refine ht _ F2 env1 s3 H'' false env2 k3 hc _ fun F3 H3 k4 s4 => ?_
        rw [if_neg Bool.false_ne_true]
        have ss : Same F1 F3 := (s'.trans s2).trans s4
        exact ⟨F3, wipeE env2 vs, accV, accD, rest, again k4, ss, Da.mono (s2.trans s4) _ _ da, by omega, hr, hw⟩
    · rintro H' ⟨F', env', accV, accD, rest, k', s', da, hlen, e', hw⟩
      rw [List.drop_length] at e'
      cases e'
      rw [List.append_nil] at hw
      subst hw
      have ku := ok_unpin k' n2 n3 k1.rin
      have f' := pin_nofrz k' nF0
      have hLL := pin_at k'
      have hle : e1.length = e2.length := by rw [← k1.len, ← ku.len, wipe_length]
      -- the slots of the comprehension's own names are as they were
      have kb : Ok K G F' (backE e1 e2 vs) s H' := by
        have key : ∀ {j : Nat} {x : Sl}, (backE e1 e2 vs)[j]? = some x → (j ∈ vs ∧ e1[j]? = some x) ∨ (j ∉ vs ∧ e2[j]? = some x ∧ s[j]? = (wipe s vs)[j]?) := fun {j x} e => by
          rw [backE_get e1 e2 hle] at e
          by_cases hj : j ∈ vs
          · rw [if_pos hj] at e; exact .inl ⟨hj, e⟩
          · rw [if_neg hj] at e
            refine .inr ⟨hj, e, ?_⟩
            rw [wipe_get, if_neg (fun z => hj z.1)]
        refine ⟨by rw [backE_length, ← hle]; exact k1.len, ku.fr, fun j d e => ?_, fun j l es e => ?_, fun j es e => ?_, fun j j' l es m fs e1' e2' e3' => ?_, ku.pin, ku.dom, ku.grow, ku.new, ku.rin, ku.dct.slots fun j w kvs e => ?_⟩
        · rcases key e with ⟨_, h⟩ | ⟨_, h, hs⟩
          · obtain ⟨v, q1, q2⟩ := k1.val j d h
            exact ⟨v, q1, Dt.mono s' _ _ q2⟩
          · rw [hs]; exact ku.val j d h
        · rcases key e with ⟨hj, h⟩ | ⟨_, h, hs⟩
          · exact absurd h (noOwn_get hno.1 hj l es)
          · rw [hs]; exact ku.own j l es h
        · rcases key e with ⟨_, h⟩ | ⟨_, h, hs⟩
          · obtain ⟨a, us, q1, q2, q3⟩ := k1.ro j es h
            exact ⟨a, us, q1, q2, Da.mono s' _ _ q3⟩
          · rw [hs]; exact ku.ro j es h
        · rcases key e1' with ⟨hj, h⟩ | ⟨_, h, hs⟩
          · exact absurd h (noOwn_get hno.1 hj l es)
          · rcases key e2' with ⟨hj2, h2⟩ | ⟨_, h2, hs2⟩
            · exact absurd h2 (noOwn_get hno.1 hj2 m fs)
            · rw [hs, hs2] at e3'
              exact ku.sep j j' _ _ _ _ h h2 e3'
        · rcases key e with ⟨hj, h⟩ | ⟨_, h, hs⟩
          · exact absurd h (noOwn_dct hno.1 hj w kvs)
          · exact ⟨h, hs⟩
      refine q F' H' L accV kb (s1.trans s') hLL f' n3 n2 (fun j l es e z => ?_) da
      obtain ⟨a, us, q1, q2, q3, q4, _⟩ := kb.own j l es e
      rw [z] at q1
      cases q1
      -- L is pinned in the frame of the block, so none of its own lists
      rw [backE_get e1 e2 hle] at e
      by_cases hj : j ∈ vs
      · rw [if_pos hj] at e
        exact noOwn_get hno.1 hj l es e
      · rw [if_neg hj] at e
        obtain ⟨b, us', g1, g2, g3, g4, _⟩ := k'.own j l es e
        rw [wipe_get, if_neg (fun w => hj w.1)] at g1
        rw [z] at g1
        cases g1
        have g4 : upd G.P L (.lst accV) L = none := g4
        rw [upd_same] at g4; cases g4
  · cases e
end
end M

namespace M
open PySem PySem.Spec PyProof.Rows L2

/-! ### the reading that hangs on the mirror alone -/
def cE (K : Frg) (f : Ef) : TE := fun s H Q => ∃ G F env d env', Ok K G F env s H ∧ f env = some (d, env') ∧ ∀ F' H' v, Ok K G F' env' s H' → Same F F' → Dt F' v d → Q v H'
def cB (K : Frg) (f : Bf) : TT := fun s H Q => ∃ G F env d env', Ok K G F env s H ∧ f env = some (d, env') ∧ ∀ F' H', Ok K G F' env' s H' → Same F F' → Q d H'
def cG (K : Frg) (g : Tf) (sl : List Nat) : TG := fun v s H Q => ∃ G F env d env', Ok K G F env s H ∧ Dt F v d ∧ g d env = some env' ∧ ∀ s', Ok K G F env' s' H → (∀ vs : List Nat, (∀ i ∈ sl, i ∈ vs) → wipe s' vs = wipe s vs) → Q s' H
structure XTs (X : Cx) (ifs : List Expr) (c : Bf) : Prop where
  ex : ∃ t, PTs X ifs t ∧ RB X.K t c
section
variable {X : Cx} {e tg : Expr} {f : Ef} {c : Bf} {g : Tf} {sl : List Nat} {K : Frg}
theorem XE.can (h : XE X e f) : PE X e (cE X.K f) := by
  obtain ⟨t, h1, h2⟩ := h.ex
  exact ⟨fun pins s σ H Q I ⟨G, F, env, d, env', k, e, q⟩ => h1.run pins s σ H Q I (h2 G F env σ H d env' k e Q q)⟩
theorem re_can : RE K (cE K f) f := fun G F env s H d env' k e Q q => ⟨G, F, env, d, env', k, e, q⟩
def bYes : Bf := fun env => some (true, env)
theorem xts_nil : XTs X [] bYes := ⟨_, pts_nil, fun G F env s H d env' k e Q q => by cases e; exact q F H k (Same.refl F)⟩
theorem XTs.can {ifs : List Expr} (h : XTs X ifs c) : PTs X ifs (cB X.K c) := by
  obtain ⟨t, h1, h2⟩ := h.ex
  exact ⟨fun pins s σ H Q I ⟨G, F, env, d, env', k, e, q⟩ => h1.run pins s σ H Q I (h2 G F env σ H d env' k e Q q)⟩
theorem rb_can : RB K (cB K c) c := fun G F env s H d env' k e Q q => ⟨G, F, env, d, env', k, e, q⟩
theorem XG.can (h : XG X tg g sl) : PG X tg (cG X.K g sl) := by
  obtain ⟨t, h1, h2⟩ := h.ex
  exact ⟨fun pins s σ H v u Q I r ⟨G, F, env, d, env', k, p, e, q⟩ => h1.run pins s σ H v u Q I r (h2 G F env σ H v d env' k p e Q q)⟩
theorem rg_can : RG K (cG K g sl) g sl := fun G F env s H v d env' k p e Q q => ⟨G, F, env, d, env', k, p, e, q⟩

variable {elt iter : Expr} {ifs : List Expr} {scope : Scope} {own : List (Str × Nat)} {pos spos : Pos} {src : Lf}
theorem blkOk_to {N : List Str} {sc sc' scope : Scope} {own : List (Str × Nat)} (h : sc' = sc) (b : BlkOk N sc scope own) : BlkOk N sc' scope own := by subst h; exact b
/-- the context of a comprehension's block -/
abbrev Blk (X : Cx) (scope : Scope) (s : Shared) (H : Hp) (C : Addr) (cl : List (Str × Addr)) (fp : List Addr) : Cx := X.blk s H scope (compEnvC scope cl C X.env) fp
theorem xn_comp (hi : XI X tg iter src) (hN : X.N.Nodup) (ok : BlkOk X.N X.env.scope scope own) (hg : ∀ s H C cl fp, XG (Blk X scope s H C cl fp) tg g sl) (ht : ∀ s H C cl fp, XTs (Blk X scope s H C cl fp) ifs c) (he : ∀ s H C cl fp, XE (Blk X scope s H C cl fp) elt f)
    (hsl : ∀ i ∈ sl, i ∈ own.map (·.2) := by decide) (hc : X.calm = true := by rfl) (hs : ∀ x, foldedSetIterable iter X.env x = pure x := by intro _; rfl) : XN X (.ListComp elt [⟨tg, iter, ifs, 0⟩] scope pos) (lComp src (own.map (·.2)) g c f) := by
  obtain ⟨wi, p1, q1⟩ := hi.ex
  exact ⟨_, pe_lc hc hN p1 ok (fun s H C cl fp => (hg s H C cl fp).can) (fun s H C cl fp => (ht s H C cl fp).can) (fun s H C cl fp => (he s H C cl fp).can) hs, rn_comp q1 rg_can rb_can re_can hsl⟩
theorem xs_setComp (i : Nat) {y : Str} {py : Pos} (hi : XI X tg iter src) (hN : X.N.Nodup) (ok : BlkOk X.N X.env.scope scope own) (hg : ∀ s H C cl fp, XG (Blk X scope s H C cl fp) tg g sl) (ht : ∀ s H C cl fp, XTs (Blk X scope s H C cl fp) ifs c) (he : ∀ s H C cl fp, XE (Blk X scope s H C cl fp) elt f)
    (hsw : swapsWith (.ListComp elt [⟨tg, iter, ifs, 0⟩] scope pos) (some (.Name y py)) spos.line X.env = pure true) (hy : X.N[i]? = some y := by rfl) (hyl : X.env.scope.names.lookup y = some .local := by rfl)
    (hsl : ∀ i ∈ sl, i ∈ own.map (·.2) := by decide) (hc : X.calm = true := by rfl) (hs : ∀ x, foldedSetIterable iter X.env x = pure x := by intro _; rfl) :
    XS X (.Assign [.Name y py] (.ListComp elt [⟨tg, iter, ifs, 0⟩] scope pos) spos) (sSet i (eFz (lComp src (own.map (·.2)) g c f))) := by
  obtain ⟨wi, p1, q1⟩ := hi.ex
  exact ⟨_, ps_setLc hc hN hy hyl hsw p1 ok (fun s H C cl fp => (hg s H C cl fp).can) (fun s H C cl fp => (ht s H C cl fp).can) (fun s H C cl fp => (he s H C cl fp).can) hs, rs_set i (rn_comp q1 rg_can rb_can re_can hsl).re⟩
theorem xs_setCompO (i : Nat) {y : Str} {py : Pos} (hi : XI X tg iter src) (hN : X.N.Nodup) (ok : BlkOk X.N X.env.scope scope own) (hg : ∀ s H C cl fp, XG (Blk X scope s H C cl fp) tg g sl) (ht : ∀ s H C cl fp, XTs (Blk X scope s H C cl fp) ifs c) (he : ∀ s H C cl fp, XE (Blk X scope s H C cl fp) elt f)
    (hsw : swapsWith (.ListComp elt [⟨tg, iter, ifs, 0⟩] scope pos) (some (.Name y py)) spos.line X.env = pure true) (hy : X.N[i]? = some y := by rfl) (hyl : X.env.scope.names.lookup y = some .local := by rfl)
    (hsl : ∀ i ∈ sl, i ∈ own.map (·.2) := by decide) (hc : X.calm = true := by rfl) (hs : ∀ x, foldedSetIterable iter X.env x = pure x := by intro _; rfl) :
    XS X (.Assign [.Name y py] (.ListComp elt [⟨tg, iter, ifs, 0⟩] scope pos) spos) (sSetO i (lComp src (own.map (·.2)) g c f)) := by
  obtain ⟨wi, p1, q1⟩ := hi.ex
  exact ⟨_, ps_setLc hc hN hy hyl hsw p1 ok (fun s H C cl fp => (hg s H C cl fp).can) (fun s H C cl fp => (ht s H C cl fp).can) (fun s H C cl fp => (he s H C cl fp).can) hs, rs_setO i (rn_comp q1 rg_can rb_can re_can hsl)⟩
end

/-! ### a def -/
def fnRun (n np : Nat) (f : Sf) : Gf := fun args => if args.length = np then match f (args ++ List.replicate (n - np) .no) with
  | some (.nx env) => some (.none, env.take np)
  | some (.rt d env) => some (d, env.take np)
  | some (.rn ds env) => some (.list ds, env.take np)
  | some (.rp as ds env) => some (.tuple (as ++ [.list ds]), env.take np)
  | none => none
  else none
abbrev Hf := List Sl → Option (List D × List Sl)
/-- a def that hands back a new list -/
def fnNew (n np : Nat) (f : Sf) : Hf := fun args => if args.length = np then match f (args ++ List.replicate (n - np) .no) with
  | some (.rn ds env) => some (ds, env.take np)
  | _ => none
  else none
structure PostN (F H F' H' : Hp) (args args' : List Sl) (vs : List V) (p : Addr) (us : List V) (ds : List D) : Prop where
  keep : Same (minus H args vs) H'
  dom : ∀ a, H' a = none → H a = none
  grow : Same F F'
  fr : Same F' H'
  new : ∀ a o, F' a = some o → F a = some o ∨ H a = none
  at_ : H' p = some (.lst us)
  nf : F' p = none
  fresh : H p = none
  res : Da F' us ds
  own : ∀ (i : Nat) l ds, args[i]? = some (.own l ds) → ∀ ds', args'[i]? = some (.own false ds') → ∀ a, vs[i]? = some (.ref a) → ∃ us, H' a = some (.lst us) ∧ F' a = none ∧ Da F' us ds'
def spN (K : Frg) (g : Hf) : Sp := fun vs H Q _ => ∃ F args ds args', g args = some (ds, args') ∧ Same F H ∧ ArgsOk K F H args vs ∧ ∀ F' H' p us, PostN F H F' H' args args' vs p us ds → Q (.ref p) H'
def lCall (g : Hf) (fa : Af) : Lf := fun env => (fa env).bind fun r =>
  match rSlots r.1 with
  | [] => (resArs r.2 r.1).bind fun args => (g args).map fun q => (q.1, r.2)
  | [i] => if (oSlots r.1).contains i then none else (resArs r.2 r.1).bind fun args => (g args).bind fun q => (backAr r.2 r.1 q.2).map fun env' => (q.1, env')
  | _ => none
theorem rn_call {K : Frg} {g : Hf} {fa : Af} {t : TA} {E : XK} (ha : RA K t fa) : RN K (tCall (spN K g) [] E t) (lCall g fa) := fun G F env s H d env' k e Q q => by
  unfold lCall at e
  obtain ⟨⟨as, e1⟩, h1, e⟩ := Option.bind_eq_some_iff.mp e
  refine ha G F env s H as e1 k h1 _ fun F1 H1 vs k1 s1 p1 => ?_
  rw [List.append_nil]
  dsimp only at e
  -- the post in the other one's words, the list left out
  have po0 : ∀ {args args' : List Sl} {F' H' : Hp} {p : Addr} {us : List V} {ds : List D}, PostN F1 H1 F' H' args args' vs p us ds → Post F1 H1 F' H' args args' vs .non .none := fun po => ⟨po.keep, po.dom, po.grow, po.fr, po.new, .non, po.own⟩
  have noP : ∀ {args args' : List Sl} {F' H' : Hp} {p : Addr} {us : List V} {ds : List D}, PostN F1 H1 F' H' args args' vs p us ds → G.H0 p = none ∧ G.P p = none := fun po => ⟨k1.dom _ po.fresh, k1.pin.free po.fresh⟩
  -- none of the caller's own lists
  have no : ∀ {args args' : List Sl} {F' H' : Hp} {p : Addr} {us : List V} {ds : List D} {env2 : En}, PostN F1 H1 F' H' args args' vs p us ds → (∀ (j : Nat) l es, env2[j]? = some (.own l es) → ∃ fs, e1[j]? = some (.own l fs)) → ∀ (j : Nat) l es, env2[j]? = some (.own l es) → s[j]? ≠ some (some (.ref p)) := fun po bk j l es e z => by
    obtain ⟨fs, e2⟩ := bk j l es e
    exact k1.notown po.fresh j l fs e2 z
  split at e
  · rename_i hrs
    obtain ⟨args, h2, e⟩ := Option.bind_eq_some_iff.mp e
    obtain ⟨⟨d', args'⟩, h3, e⟩ := Option.map_eq_some_iff.mp e
    cases e
    refine ⟨F1, args, d', args', h3, k1.fr, args_ok k1 p1 h2 (by rw [hrs]; intro i hi; cases hi) (by rw [hrs]; intro i hi; cases hi), fun F' H' p us po => ?_⟩
    exact q F' H' p us (ok_after k1 p1 h2 (po0 po) rfl (fun j => .inl rfl) (by rw [hrs]; intro i hi; cases hi)) (s1.trans po.grow) po.at_ po.nf (noP po).1 (noP po).2 (no po fun j l es e => ⟨es, e⟩) po.res
  · rename_i i hrs
    split at e
    · cases e
    · rename_i hc
      obtain ⟨args, h2, e⟩ := Option.bind_eq_some_iff.mp e
      obtain ⟨⟨d', args'⟩, h3, e⟩ := Option.bind_eq_some_iff.mp e
      obtain ⟨env2, h4, e⟩ := Option.map_eq_some_iff.mp e
      cases e
      obtain ⟨j, l, ds, es, g1, g2, g3, g4⟩ := backAr_one hrs h4
      subst g4
      have hil : i < e1.length := (List.getElem?_eq_some_iff.mp g3).1
      refine ⟨F1, args, d', args', h3, k1.fr, args_ok k1 p1 h2 (by rw [hrs]; intro i' hi'; simp at hi'; subst hi'; intro hm; apply hc; simp [hm]) (by rw [hrs]; intro i' hi' j1 j2 q1 q2; simp at hi'; subst hi'; exact rSlots_one hrs j1 j2 q1 q2), fun F' H' p us po => ?_⟩
      refine q F' H' p us (ok_after k1 p1 h2 (po0 po) (by simp) (fun j' => ?_) ?_) (s1.trans po.grow) po.at_ po.nf (noP po).1 (noP po).2 (no po fun j' l' es' e' => ?_) po.res
      · by_cases hj : i = j'
        · subst hj
          exact .inr ⟨j, l, ds, es, g1, g2, g3, by rw [List.getElem?_set_self hil]⟩
        · exact .inl (List.getElem?_set_ne hj)
      · rw [hrs]
        intro i' hi' j' _
        simp at hi'
        subst hi'
        exact ⟨j, l, ds, g2, g1, by rw [List.getElem?_set_self hil]⟩
      · rcases set_get e' with ⟨rfl, _, z⟩ | ⟨_, z⟩
        · cases z; exact ⟨_, g3⟩
        · exact ⟨_, z⟩
  · cases e
section
variable {X : Cx} {k : Nat} {fx : Addr} {fd : FuncData} {ps : List Str} {x : Str} {p pos : Pos} {e : Expr} {es : List Expr} {fa : Af} {g : Hf}
theorem xn_call (FF : FnOk X.prog X.w X.K X.mg X.base CX0 k fx fd ps (spN X.K g)) (hr : Room k X.A) (hm : X.mg x = some (.ref fx)) (hk : PySem.W.keepIn X.K (.ref fx) = true) (hb : Binds X.K fd ps []) (ha : XA X (e :: es) fa) (hg : Gl X x := by rfl)
    (hdb : (x == ("__debug__" : Str)) = false := by decide) (he : starEach (e :: es) X.env = (false, eval e X.env) :: starEach es X.env := by rfl) (hpl : (backTo pos (starEach es X.env)).any (·.1) = false := by rfl) :
    XN X (.Call (.Name x p) (e :: es) [] pos) (lCall g fa) :=
  let ⟨_, h1, h2⟩ := ha.ex; ⟨_, pe_call FF hr hg hm hk hb .nil pass0 h1 hdb he hpl, rn_call h2⟩
end
theorem start_get {N : List Str} {vs : List V} {i : Nat} {v : V} (h : vs[i]? = some v) : (L2.start N vs)[i]? = some (some v) := by
  have hi : i < vs.length := (List.getElem?_eq_some_iff.mp h).1
  unfold L2.start
  rw [List.getElem?_append_left (by simpa using hi), List.getElem?_map, h]
  rfl
theorem app_get {args : List Sl} {m : Nat} {i : Nat} {x : Sl} (h : (args ++ List.replicate m .no)[i]? = some x) (hx : x ≠ .no) : args[i]? = some x := by
  by_cases hi : i < args.length
  · rw [List.getElem?_append_left hi] at h; exact h
  · rw [List.getElem?_append_right (by omega), List.getElem?_replicate] at h
    split at h
    · cases h; exact absurd rfl hx
    · cases h
theorem ok_start {K : Frg} {F H : Hp} {args : List Sl} {vs : List V} {N ps : List Str} (hl : ps.length = args.length) (hN : ps.length ≤ N.length) (fr : Same F H) (a : ArgsOk K F H args vs) :
    Ok K ⟨F, H, minus H args vs, minus H args vs, L2.start N vs⟩ F (args ++ List.replicate (N.length - ps.length) .no) (L2.start N vs) H where
  len := by unfold L2.start; simp only [List.length_append, List.length_map, List.length_replicate]; have := a.len; omega
  fr := fr
  val := fun i d e => by
    obtain ⟨v, h1, h2⟩ := a.val i d (app_get e (by simp))
    exact ⟨v, start_get h1, h2⟩
  own := fun i l ds e => by
    have e' := app_get e (by simp)
    obtain ⟨rfl, p, us, h1, h2, h3, h4⟩ := a.own i l ds e'
    refine ⟨p, us, start_get h1, h2, h3, ?_, h4, fun z => (by cases z), fun _ => start_get h1⟩
    show minus H args vs p = none
    unfold minus
    exact if_pos ⟨i, _, _, e', h1⟩
  ro := fun i ds e => by
    obtain ⟨p, us, h1, h2, h3⟩ := a.ro i ds (app_get e (by simp))
    exact ⟨p, us, start_get h1, h2, h3⟩
  sep := fun i j l ds m es e1 e2 e3 => by
    have e1' := app_get e1 (by simp)
    have e2' := app_get e2 (by simp)
    obtain ⟨_, p, us, h1, _⟩ := a.own i l ds e1'
    obtain ⟨_, q, us', h2, _⟩ := a.own j m es e2'
    rw [start_get h1, start_get h2] at e3
    exact a.sep i j _ _ _ _ e1' e2' (by rw [h1, h2]; exact Option.some.inj e3)
  pin := fun x o e => (minus_of e).1
  dom := fun x e => e
  grow := Same.refl F
  new := fun x o e => .inl e
  rin := Same.refl _
  dct := ⟨fun i w kvs e => absurd (app_get e (by simp)) (a.dct i w kvs), fun i j w kvs w' kvs' e _ _ => absurd (app_get e (by simp)) (a.dct i w kvs)⟩
theorem post_of {K : Frg} {F F' H H' : Hp} {args : List Sl} {vs : List V} {N : List Str} {env : En} {s : L2.St} {v : V} {d : D} {np : Nat} (a : ArgsOk K F H args vs) (hl : np = args.length) (k : Ok K ⟨F, H, minus H args vs, minus H args vs, L2.start N vs⟩ F' env s H') (p : Dt F' v d) : Post F H F' H' args (env.take np) vs v d where
  keep := k.pin
  dom := k.dom
  grow := k.grow
  fr := k.fr
  new := k.new
  res := p
  own := fun i l ds e ds' e' q hq => by
    have e2 : env[i]? = some (.own false ds') := by
      rw [List.getElem?_take] at e'
      split at e'
      · exact e'
      · cases e'
    obtain ⟨b, us, h1, h2, h3, _, h4, _, h5⟩ := k.own i false ds' e2
    have h6 : (L2.start N vs)[i]? = some (some (.ref b)) := h5 rfl
    rw [start_get hq] at h6
    cases h6
    exact ⟨us, h2, h3, h4⟩
section
variable {P : Program} {w : World} {K : Frg} {mg : Str → Option Value} {base : Heap}
theorem fn_ok {x qual : Str} {st : Stmt} {f : Addr} {fd : FuncData} {N ps : List Str} {k : Nat} {fb : Sf} (F : Fun K x qual st f fd) (S : FnScope N ps (defScope st))
    (hbody : ∀ (cdv : Value) (A : Around) (outer : List Env) (s : Shared) (H : Hp) (E : XK), Room k (A.deeper (envOfC qual (defScope st) s.heap.objs.size f cdv)) →
      XSs (cxOf CX0 P w K mg base N qual (defScope st) f cdv A outer s H E).nox (defBody st) fb) : FnOk P w K mg base CX0 (k + 1) f fd ps (spF K (fnRun N.length ps.length fb)) := by
  refine F.ok S (fun vs H Q E h => ?_) (fun cdv A outer s H vs Q E hr h => ?_)
  · obtain ⟨Fz, args, d, args', hg, fr, a, _⟩ := h
    unfold fnRun at hg
    split at hg
    · rename_i hl
      rw [a.len, hl]
    · cases hg
  · obtain ⟨Fz, args, d, args', hg, fr, a, q⟩ := h
    obtain ⟨t, h1, h2⟩ := (hbody cdv A outer s H E hr).ex
    refine ⟨t, h1, ?_⟩
    have hpl : ps.length ≤ N.length := by have := congrArg List.length S.pre; rw [List.length_take] at this; omega
    unfold fnRun at hg
    split at hg
    · rename_i hl
      have k0 := ok_start hl.symm hpl fr a
      split at hg
      · rename_i env he
        cases hg
        refine h2 _ Fz _ _ H _ k0 he _ ?_
        exact fun F' s' H' k' s1 => q F' H' .non (post_of a hl.symm k' .non)
      · rename_i d' env he
        cases hg
        refine h2 _ Fz _ _ H _ k0 he _ ?_
        exact fun F' s' H' v k' s1 p => q F' H' v (post_of a hl.symm k' p)
      · rename_i ds env he
        cases hg
        refine h2 _ Fz _ _ H _ k0 he _ ?_
        intro F' s' H' p us k' s1 g1 g2 g3 g4 g5 g6
        exact q _ H' (.ref p) (post_of a hl.symm (k'.freeze g1 g2 g3 g5 (k'.notdctL g1)) (.lst upd_same (Da.mono (same_upd g2) _ _ g6)))
      · rename_i as ds env he
        cases hg
        refine h2 _ Fz _ _ H _ k0 he _ ?_
        intro F' s' H' t p ws us k' s1 n
        obtain ⟨F2, k2, s2, pd, _⟩ := n.frz k'
        exact q F2 H' (.ref t) (post_of a hl.symm k2 pd)
      · cases hg
    · cases hg
theorem fn_new {x qual : Str} {st : Stmt} {f : Addr} {fd : FuncData} {N ps : List Str} {k : Nat} {fb : Sf} (F : Fun K x qual st f fd) (S : FnScope N ps (defScope st))
    (hbody : ∀ (cdv : Value) (A : Around) (outer : List Env) (s : Shared) (H : Hp) (E : XK), Room k (A.deeper (envOfC qual (defScope st) s.heap.objs.size f cdv)) →
      XSs (cxOf CX0 P w K mg base N qual (defScope st) f cdv A outer s H E).nox (defBody st) fb) : FnOk P w K mg base CX0 (k + 1) f fd ps (spN K (fnNew N.length ps.length fb)) := by
  refine F.ok S (fun vs H Q E h => ?_) (fun cdv A outer s H vs Q E hr h => ?_)
  · obtain ⟨Fz, args, d, args', hg, fr, a, _⟩ := h
    unfold fnNew at hg
    split at hg
    · rename_i hl
      rw [a.len, hl]
    · cases hg
  · obtain ⟨Fz, args, d, args', hg, fr, a, q⟩ := h
    obtain ⟨t, h1, h2⟩ := (hbody cdv A outer s H E hr).ex
    refine ⟨t, h1, ?_⟩
    have hpl : ps.length ≤ N.length := by have := congrArg List.length S.pre; rw [List.length_take] at this; omega
    unfold fnNew at hg
    split at hg
    · rename_i hl
      have k0 := ok_start hl.symm hpl fr a
      split at hg
      · rename_i ds env he
        cases hg
        refine h2 _ Fz _ _ H _ k0 he _ ?_
        intro F' s' H' p us k' s1 g1 g2 g3 g4 g5 g6
        have po := post_of (v := .non) (d := .none) a hl.symm k' .non
        exact q F' H' p us ⟨po.keep, po.dom, po.grow, po.fr, po.new, g1, g2, g3, g6, po.own⟩
      · cases hg
    · cases hg
end
end M

namespace M
open PySem PySem.Spec PyProof.Rows L2
section
variable {X : Cx} {e a b : Expr} {f fa fb : Ef} {p pos : Pos} {K : Frg}

/-! ### built-ins of one argument -/
def gLen : D → Option D
  | .list ds => some (.int (ds.length : Int))
  | .tuple ds => some (.int (ds.length : Int))
  | .str x => if fits x.length then some (.int (x.length : Int)) else none
  | _ => none
def rLen (K : Frg) : List V → Hp → VK → Prop := fun xs H Q => ∃ x n, xs = [x] ∧ LenV K x H n ∧ Q (.int n) H
theorem gc_len : GC K (rLen K) gLen := by
  intro G F env s H x d z k h1 h3 Q q
  unfold gLen at h3
  split at h3
  · cases h3
    obtain ⟨p, vs, rfl, h4, h5⟩ := h1.list k.fr
    refine ⟨_, vs.length, rfl, .inl ⟨vs, h4, rfl⟩, ?_⟩
    rw [h5.length]
    exact q F H _ k (Same.refl F) (.int _)
  · cases h3
    obtain ⟨p, vs, rfl, h4, _, h5⟩ := h1.tup k.fr
    refine ⟨_, vs.length, rfl, .inr ⟨vs, SqT.of h4, rfl⟩, ?_⟩
    rw [h5.length]
    exact q F H _ k (Same.refl F) (.int _)
  · split at h3
    · rename_i hf
      cases h3
      cases h1.str
      exact ⟨_, _, rfl, ⟨fits_line hf, rfl⟩, q F H _ k (Same.refl F) (.int _)⟩
    · cases h3
  · cases h3
theorem xe_len (hm : X.mg "len" = none) (ha : XO X e f) (hg : Gl X "len" := by rfl) (he : starEach [e] X.env = (false, eval e X.env) :: starEach [] X.env := by rfl) (hpl : (backTo pos (starEach [] X.env)).any (·.1) = false := by rfl) : XE X (.Call (.Name "len" p) [e] [] pos) (eUn gLen f) :=
  xe_cbB call_len PySem.boot_len gc_len hm ha hg (by decide) (by decide) he hpl
def gAbs : D → Option D
  | .int i => some (.int (if i < 0 then -i else i))
  | _ => none
def gInt : D → Option D
  | .int i => some (.int i)
  | .bool k => some (.int (if k then 1 else 0))
  | _ => none
theorem gc_int : GC K (fun xs H Q => (∃ i, xs = [.int i] ∧ Q (.int i) H) ∨ ∃ k, xs = [.bl k] ∧ Q (.int (if k then 1 else 0)) H) gInt := by
  intro G F env s H x d z k h1 h3 Q q
  unfold gInt at h3
  split at h3
  · cases h3; cases h1.int
    exact .inl ⟨_, rfl, q F H _ k (Same.refl F) (.int _)⟩
  · cases h3; cases h1.bl
    exact .inr ⟨_, rfl, q F H _ k (Same.refl F) (.int _)⟩
  · cases h3
theorem xe_int1 (hm : X.mg "int" = none) (ha : XO X e f) (hg : Gl X "int" := by rfl) (he : starEach [e] X.env = (false, eval e X.env) :: starEach [] X.env := by rfl) (hpl : (backTo pos (starEach [] X.env)).any (·.1) = false := by rfl) : XE X (.Call (.Name "int" p) [e] [] pos) (eUn gInt f) :=
  xe_cbT call_int1 boot_int gc_int hm ha hg (by decide) (by decide) he hpl
def gList : D → Option (List D)
  | .list ds => some ds
  | .tuple ds => some ds
  | _ => none
theorem gc_list : GCN K (fun xs H Q => ∃ p ys, xs = [.ref p] ∧ (SqL K H p ys ∨ SqT K H p ys) ∧ ∀ l, H l = none → Q (.ref l) (upd H l (.lst ys))) gList := by
  intro G F env s H x d z k h1 h3 Q q
  unfold gList at h3
  split at h3
  · cases h3
    obtain ⟨p, vs, rfl, h4, h5⟩ := h1.list k.fr
    exact ⟨p, vs, rfl, .inl h4, fun l hl => q F _ l vs (k.laid hl) (Same.refl F) upd_same (k.fr.free hl) (k.dom l hl) (k.pin.free hl) (k.notown hl) h5⟩
  · cases h3
    obtain ⟨p, vs, rfl, h4, _, h5⟩ := h1.tup k.fr
    exact ⟨p, vs, rfl, .inr (SqT.of h4), fun l hl => q F _ l vs (k.laid hl) (Same.refl F) upd_same (k.fr.free hl) (k.dom l hl) (k.pin.free hl) (k.notown hl) h5⟩
  · cases h3
theorem xn_list (hm : X.mg "list" = none) (ha : XO X e f) (hg : Gl X "list" := by rfl) (he : starEach [e] X.env = (false, eval e X.env) :: starEach [] X.env := by rfl) (hpl : (backTo pos (starEach [] X.env)).any (·.1) = false := by rfl) : XN X (.Call (.Name "list" p) [e] [] pos) (lUn gList f) :=
  xn_cbT call_list_of boot_list gc_list hm ha hg (by decide) (by decide) he hpl
def gTuple : D → Option D
  | .list ds => some (.tuple ds)
  | .tuple ds => some (.tuple ds)
  | _ => none
theorem gc_tuple : GC K (fun xs H Q => ∃ p ys, xs = [.ref p] ∧ ((SqL K H p ys ∧ ∀ l, H l = none → Q (.ref l) (upd H l (.tup ys))) ∨ (SqT K H p ys ∧ Q (.ref p) H))) gTuple := by
  intro G F env s H x d z k h1 h3 Q q
  unfold gTuple at h3
  split at h3
  · cases h3
    obtain ⟨p, vs, rfl, h4, h5⟩ := h1.list k.fr
    exact ⟨p, vs, rfl, .inl ⟨h4, fun l hl => q _ _ _ (k.alloc hl) (same_upd (k.fr.free hl)) (.tup upd_same (Da.mono (same_upd (k.fr.free hl)) _ _ h5))⟩⟩
  · cases h3
    obtain ⟨p, vs, rfl, h4, h6, h5⟩ := h1.tup k.fr
    exact ⟨p, vs, rfl, .inr ⟨SqT.of h4, q F H _ k (Same.refl F) (.tup h6 h5)⟩⟩
  · cases h3
theorem xe_tuple (hm : X.mg "tuple" = none) (ha : XO X e f) (hg : Gl X "tuple" := by rfl) (he : starEach [e] X.env = (false, eval e X.env) :: starEach [] X.env := by rfl) (hpl : (backTo pos (starEach [] X.env)).any (·.1) = false := by rfl) : XE X (.Call (.Name "tuple" p) [e] [] pos) (eUn gTuple f) :=
  xe_cbT call_tuple_of boot_tuple gc_tuple hm ha hg (by decide) (by decide) he hpl
/-! whole numbers, truths in a list -/
def intsOf : List D → Option (List Int)
  | [] => some []
  | .int i :: ds => (intsOf ds).map fun r => i :: r
  | _ :: _ => none
def blsOf : List D → Option (List Bool)
  | [] => some []
  | .bool i :: ds => (blsOf ds).map fun r => i :: r
  | _ :: _ => none
theorem intsOf_some : ∀ {ds : List D} {ns : List Int}, intsOf ds = some ns → ds = ns.map .int
  | [], _, h => by cases h; rfl
  | .int i :: ds, ns, h => by
    unfold intsOf at h
    obtain ⟨r, h1, h⟩ := Option.map_eq_some_iff.mp h
    subst h
    rw [intsOf_some h1]; rfl
  | .none :: _, _, h => by cases h
  | .bool _ :: _, _, h => by cases h
  | .str _ :: _, _, h => by cases h
  | .list _ :: _, _, h => by cases h
  | .tuple _ :: _, _, h => by cases h
  | .dict _ :: _, _, h => by cases h
theorem blsOf_some : ∀ {ds : List D} {ns : List Bool}, blsOf ds = some ns → ds = ns.map .bool
  | [], _, h => by cases h; rfl
  | .bool i :: ds, ns, h => by
    unfold blsOf at h
    obtain ⟨r, h1, h⟩ := Option.map_eq_some_iff.mp h
    subst h
    rw [blsOf_some h1]; rfl
  | .none :: _, _, h => by cases h
  | .int _ :: _, _, h => by cases h
  | .str _ :: _, _, h => by cases h
  | .list _ :: _, _, h => by cases h
  | .tuple _ :: _, _, h => by cases h
  | .dict _ :: _, _, h => by cases h
theorem blsOf_map : ∀ ns : List Bool, blsOf (ns.map .bool) = some ns
  | [] => rfl
  | n :: ns => by show (blsOf (ns.map .bool)).map _ = _; rw [blsOf_map ns]; rfl
theorem Da.bls {F : Hp} : ∀ {ns : List Bool} {vs : List V}, Da F vs (ns.map .bool) → vs = ns.map V.bl
  | [], _, r => by cases r; rfl
  | n :: ns, _, r => by
    cases r with
    | cons a b => cases a; rw [Da.bls b]; rfl
theorem Da.irs {F : Hp} : ∀ {ns : List Int} {vs : List V}, Da F vs (ns.map .int) → vs = ns.map V.int
  | [], _, r => by cases r; rfl
  | n :: ns, _, r => by
    cases r with
    | cons a b => cases a; rw [Da.irs b]; rfl
def gSum : D → Option D
  | .list ds => (intsOf ds).map fun ns => .int ns.sum
  | _ => none
theorem gc_sum : GC K (rSum K) gSum := by
  intro G F env s H x d z k h1 h3 Q q
  unfold gSum at h3
  split at h3
  · obtain ⟨ns, h4, h5⟩ := Option.map_eq_some_iff.mp h3
    cases h5
    obtain ⟨p, vs, rfl, h6, h7⟩ := h1.list k.fr
    rw [intsOf_some h4] at h7
    rw [h7.irs] at h6
    exact ⟨p, ns, rfl, h6, q F H _ k (Same.refl F) (.int _)⟩
  · cases h3
theorem xe_sum (hm : X.mg "sum" = none) (ha : XO X e f) (hc : X.calm = true := by rfl) (hg : Gl X "sum" := by rfl) (he : starEach [e] X.env = (false, eval e X.env) :: starEach [] X.env := by rfl) (hpl : (backTo pos (starEach [] X.env)).any (·.1) = false := by rfl) : XE X (.Call (.Name "sum" p) [e] [] pos) (eUn gSum f) :=
  xe_cbB (cr_sum hc) boot_sum gc_sum hm ha hg (by decide) (by decide) he hpl
def gAll : D → Option D
  | .list ds => (blsOf ds).map fun ns => .bool (ns.all id)
  | _ => none
def gAny : D → Option D
  | .list ds => (blsOf ds).map fun ns => .bool (ns.any id)
  | _ => none
theorem gc_all : GC K (rAll K) gAll := by
  intro G F env s H x d z k h1 h3 Q q
  unfold gAll at h3
  split at h3
  · obtain ⟨ns, h4, h5⟩ := Option.map_eq_some_iff.mp h3
    cases h5
    obtain ⟨p, vs, rfl, h6, h7⟩ := h1.list k.fr
    rw [blsOf_some h4] at h7
    rw [h7.bls] at h6
    exact ⟨p, ns, rfl, h6, q F H _ k (Same.refl F) (.bl _)⟩
  · cases h3
theorem xe_all (hm : X.mg "all" = none) (ha : XO X e f) (hc : X.calm = true := by rfl) (hg : Gl X "all" := by rfl) (he : starEach [e] X.env = (false, eval e X.env) :: starEach [] X.env := by rfl) (hpl : (backTo pos (starEach [] X.env)).any (·.1) = false := by rfl) : XE X (.Call (.Name "all" p) [e] [] pos) (eUn gAll f) :=
  xe_cbB (cr_all hc) boot_all gc_all hm ha hg (by decide) (by decide) he hpl
/-! of two -/
def gMax2 : D → D → Option D
  | .int i, .int j => some (.int (if j > i then j else i))
  | _, _ => none
def gMin2 : D → D → Option D
  | .int i, .int j => some (.int (if j < i then j else i))
  | _, _ => none
/-! isinstance -/
inductive Ty where
  | int | bool | str | lst | tup
def Ty.nm : Ty → String
  | .int => "int" | .bool => "bool" | .str => "str" | .lst => "list" | .tup => "tuple"
def isi : Ty → D → Option Bool
  | _, .dict _ => none
  | .int, .int _ => some true
  | .int, .bool _ => some true
  | .int, _ => some false
  | .bool, .bool _ => some true
  | .bool, _ => some false
  | .str, .str _ => some true
  | .str, _ => some false
  | .lst, .list _ => some true
  | .lst, _ => some false
  | .tup, .tuple _ => some true
  | .tup, _ => some false
def tyD : D → String
  | .none => "NoneType" | .bool _ => "bool" | .int _ => "int" | .str _ => "str" | .list _ => "list" | .tuple _ => "tuple" | .dict _ => "dict"
def gIsi (T : Ty) (d : D) : Option D := (isi T d).map .bool
/-! ### in, not in -/
def flatD : D → Bool
  | .none => true
  | .bool _ => true
  | .int _ => true
  | .str _ => true
  | _ => false
def isIn (d e : D) : Option Bool := match d, e with
  | .str x, .str y => some (!(Builtin.Str.occurrences y x 0 y.length 1).isEmpty)
  | d, .list ds => if shp d && shp (.list ds) then some (ds.any fun e => PyData.eqv e d) else none
  | d, .tuple ds => if flatD d && ds.all flatD then some (ds.any fun e => PyData.eqv e d) else none
  | _, _ => none
def gIs (d e : D) : Option D := (isIn d e).map .bool
def gNi (d e : D) : Option D := (isIn d e).map fun b => .bool !b
def rInA (K : Frg) : R2 := fun x y H Q => (∃ i j, x = .str i ∧ y = .str j ∧ Q (.bl (!(Builtin.Str.occurrences j i 0 j.length 1).isEmpty)) H) ∨ rInD K x y H Q ∨ rIn K false x y H Q
def rNiA (K : Frg) : R2 := fun x y H Q => (∃ i j, x = .str i ∧ y = .str j ∧ Q (.bl (!(!(Builtin.Str.occurrences j i 0 j.length 1).isEmpty))) H) ∨ rNotInD K x y H Q ∨ rIn K true x y H Q
theorem op_inA (hu : X.A.units + 65 < cLine) : OpR X (compareOp .In) (rInA X.K) := op_in_str.or ((op_inD hu).or op_in_seq)
theorem op_niA (hu : X.A.units + 65 < cLine) : OpR X (compareOp .NotIn) (rNiA X.K) := op_notin_str.or ((op_notInD hu).or op_notIn_seq)
theorem flat_v {F : Hp} {v : V} {d : D} (h : Dt F v d) (f : flatD d = true) : flatV v = true := by
  cases h <;> first | rfl | (exact absurd f Bool.false_ne_true)
theorem eq_flat {F : Hp} {v u : V} {d e : D} (h : Dt F v d) (g : Dt F u e) (f : flatD d = true) (f' : flatD e = true) : eqV v u = PyData.eqv d e := by
  cases h <;> cases g <;> first | (exact absurd f Bool.false_ne_true) | (exact absurd f' Bool.false_ne_true) | simp [eqV, PyData.eqv]
theorem any_flat {F : Hp} {u : V} {e : D} (g : Dt F u e) (f' : flatD e = true) : ∀ {ds : List D} {vs : List V}, Da F vs ds → ds.all flatD = true → vs.all flatV = true ∧ (vs.any fun y => eqV y u) = ds.any fun y => PyData.eqv y e
  | [], _, h, _ => by cases h; exact ⟨rfl, rfl⟩
  | d :: ds, _, h, f => by
    cases h with
    | cons h1 h2 =>
      rw [List.all_cons, Bool.and_eq_true] at f
      obtain ⟨q1, q2⟩ := any_flat g f' h2 f.2
      refine ⟨by rw [List.all_cons, flat_v h1 f.1, q1]; rfl, ?_⟩
      rw [List.any_cons, List.any_cons, eq_flat h1 g f.1 f', q2]
theorem in_cases {G : Gm} {F : Hp} {env : En} {s : L2.St} {H : Hp} {x y : V} {d e : D} {b : Bool} (k : Ok K G F env s H) (h1 : Dt F x d) (h2 : Dq K F H y e) (h : isIn d e = some b) :
    (∃ i j, x = .str i ∧ y = .str j ∧ b = !(Builtin.Str.occurrences j i 0 j.length 1).isEmpty) ∨ (∃ ds, Dp K H x d ∧ Dp K H y (.list ds) ∧ SeqAt.shaped d = true ∧ SeqAt.shaped (.list ds) = true ∧ b = ds.any fun e => PyData.eqv e d) ∨
      ∃ p xs, y = .ref p ∧ (SqL K H p xs ∨ SqT K H p xs) ∧ flatV x = true ∧ xs.all flatV = true ∧ b = inV x xs := by
  unfold isIn at h
  split at h
  · cases h; cases h1
    exact .inl ⟨_, _, rfl, h2.str, rfl⟩
  · split at h
    · rename_i hf
      cases h
      rw [Bool.and_eq_true] at hf
      exact .inr (.inl ⟨_, (Dq.dp k.fr (nd_sh hf.1) (.inl h1)), h2.dp k.fr (nd_sh hf.2), hf.1, hf.2, rfl⟩)
    · cases h
  · split at h
    · rename_i hf
      cases h
      rw [Bool.and_eq_true] at hf
      obtain ⟨p, vs, rfl, h3, _, h4⟩ := h2.tup k.fr
      obtain ⟨q1, q2⟩ := any_flat h1 hf.1 h4 hf.2
      exact .inr (.inr ⟨p, vs, rfl, .inr (SqT.of h3), flat_v h1 hf.1, q1, q2.symm⟩)
    · cases h
  · cases h
theorem re_in {ta tb : TE} (h1 : RE K ta fa) (h2 : RO K tb fb) : RE K (tOp (rInA K) ta tb) (eBin gIs fa fb) := fun G F env s H d env' k e Q q => by
  obtain ⟨d1, e1, d2, h3, h4, h5⟩ := bin_some e
  unfold gIs at h5
  obtain ⟨b, h6, h7⟩ := Option.map_eq_some_iff.mp h5
  cases h7
  refine h1 G F env s H d1 e1 k h3 _ fun F1 H1 v1 k1 s1 p1 => ?_
  refine h2 G F1 e1 s H1 d2 env' k1 h4 _ fun F2 H2 v2 k2 s2 p2 => ?_
  have fin := q F2 H2 (.bl b) k2 (s1.trans s2) (.bl b)
  rcases in_cases k2 (Dt.mono s2 _ _ p1) p2 h6 with ⟨i, j, rfl, rfl, rfl⟩ | ⟨ds, g1, g2, g3, g4, rfl⟩ | ⟨p, xs, rfl, g1, g2, g3, rfl⟩
  · exact .inl ⟨_, _, rfl, rfl, fin⟩
  · exact .inr (.inl ⟨_, _, g1, g2, g3, g4, fin⟩)
  · exact .inr (.inr ⟨_, _, rfl, g1, g2, g3, fin⟩)
theorem re_ni {ta tb : TE} (h1 : RE K ta fa) (h2 : RO K tb fb) : RE K (tOp (rNiA K) ta tb) (eBin gNi fa fb) := fun G F env s H d env' k e Q q => by
  obtain ⟨d1, e1, d2, h3, h4, h5⟩ := bin_some e
  unfold gNi at h5
  obtain ⟨b, h6, h7⟩ := Option.map_eq_some_iff.mp h5
  cases h7
  refine h1 G F env s H d1 e1 k h3 _ fun F1 H1 v1 k1 s1 p1 => ?_
  refine h2 G F1 e1 s H1 d2 env' k1 h4 _ fun F2 H2 v2 k2 s2 p2 => ?_
  have fin := q F2 H2 (.bl !b) k2 (s1.trans s2) (.bl !b)
  rcases in_cases k2 (Dt.mono s2 _ _ p1) p2 h6 with ⟨i, j, rfl, rfl, rfl⟩ | ⟨ds, g1, g2, g3, g4, rfl⟩ | ⟨p, xs, rfl, g1, g2, g3, rfl⟩
  · exact .inl ⟨_, _, rfl, rfl, fin⟩
  · exact .inr (.inl ⟨_, _, g1, g2, g3, g4, fin⟩)
  · exact .inr (.inr ⟨_, _, rfl, g1, g2, g3, fin⟩)
theorem xe_in (hu : X.A.units + 65 < cLine) (ha : XE X a fa) (hb : XO X b fb) (hm : behindInMarks .In b = false := by rfl) : XE X (.Compare a [.In] [b] pos) (eBin gIs fa fb) :=
  let ⟨_, h1, h2⟩ := ha.ex; let ⟨_, h3, h4⟩ := hb.ex; ⟨_, pe_cmpR (op_inA hu) h1 h3 hm, re_in h2 h4⟩
theorem xb_in (hu : X.A.units + 65 < cLine) (ha : XE X a fa) (hb : XO X b fb) (hm : behindInMarks .In b = false := by rfl) : XB X (.Compare a [.In] [b] pos) (bV (eBin gIs fa fb)) :=
  let ⟨_, h1, h2⟩ := ha.ex; let ⟨_, h3, h4⟩ := hb.ex; ⟨_, pt_cmpR (op_inA hu) h1 h3 hm, rb_test (re_in h2 h4)⟩
theorem xb_ni (hu : X.A.units + 65 < cLine) (ha : XE X a fa) (hb : XO X b fb) (hm : behindInMarks .NotIn b = false := by rfl) : XB X (.Compare a [.NotIn] [b] pos) (bV (eBin gNi fa fb)) :=
  let ⟨_, h1, h2⟩ := ha.ex; let ⟨_, h3, h4⟩ := hb.ex; ⟨_, pt_cmpR (op_niA hu) h1 h3 hm, rb_test (re_ni h2 h4)⟩
end
/-! ### is None -/
def isNone : D → Bool
  | .none => true
  | _ => false
def gIsN : D → D → Option D
  | d, .none => some (.bool (isNone d))
  | _, _ => none
def gNtN : D → D → Option D
  | d, .none => some (.bool (!isNone d))
  | _, _ => none
end M

namespace M
open PySem PySem.Spec PyProof.Rows L2
def FU : Nat := 10 ^ 300
theorem hu65 {k : Nat} {A : Around} (hr : Room k A) : A.units + 65 < cLine := by have := hr.un; omega
theorem da_irs {F : Hp} : ∀ ns : List Int, Da F (ns.map V.int) (ns.map .int)
  | [] => .nil
  | n :: ns => .cons (.int n) (da_irs ns)
theorem law_sp {K : Frg} {H : Hp} {a : Addr} {ns : List Int} {g : Gf} (hS : SqL K H a (ns.map V.int)) (h : ∃ args', g [.ro (ns.map .int)] = some (.bool true, args')) :
    spF K g [.ref a] H (fun v _ => v = .bl true) fun _ _ _ => False := by
  obtain ⟨args', h⟩ := h
  have hm : minus H [.ro (ns.map .int)] [.ref a] = H := by
    funext b
    unfold minus
    rw [if_neg]
    rintro ⟨j, l, es, h1, _⟩
    cases j with
    | zero => cases h1
    | succ j => simp at h1
  refine ⟨fun _ => none, _, _, args', h, fun b o e => (by cases e), ⟨rfl, fun i d e => ?_, fun i l ds e => ?_, fun i ds e => ?_, fun i j l ds m es e1 e2 e3 => ?_, fun i w kvs e => ?_⟩, fun F' H' v po => ?_⟩
  · cases i with
    | zero => cases e
    | succ j => simp at e
  · cases i with
    | zero => cases e
    | succ j => simp at e
  · cases i with
    | zero =>
      cases e
      exact ⟨a, _, rfl, by rw [hm]; exact hS, da_irs ns⟩
    | succ j => simp at e
  · cases i with
    | zero => cases e1
    | succ j => simp at e1
  · cases i with
    | zero => cases e
    | succ j => simp at e
  · have := po.res
    cases this
    rfl
theorem fn_okE {P : Program} {w : World} {K : Frg} {mg : Str → Option Value} {base : Heap} {x qual : Str} {st : Stmt} {f : Addr} {fd : FuncData} {N ps : List Str} {k : Nat} {g : Gf} (fb : Sf) (n np : Nat) (F : Fun K x qual st f fd) (S : FnScope N ps (defScope st))
    (hn : N.length = n) (hp : ps.length = np) (hg : g = fnRun n np fb)
    (hbody : ∀ (cdv : Value) (A : Around) (outer : List Env) (s : Shared) (H : Hp) (E : XK), Room k (A.deeper (envOfC qual (defScope st) s.heap.objs.size f cdv)) →
      XSs (cxOf CX0 P w K mg base N qual (defScope st) f cdv A outer s H E).nox (defBody st) fb) : FnOk P w K mg base CX0 (k + 1) f fd ps (spF K g) := by
  subst hn hp hg
  exact fn_ok F S hbody
theorem fn_newE {P : Program} {w : World} {K : Frg} {mg : Str → Option Value} {base : Heap} {x qual : Str} {st : Stmt} {f : Addr} {fd : FuncData} {N ps : List Str} {k : Nat} {g : Hf} (fb : Sf) (n np : Nat) (F : Fun K x qual st f fd) (S : FnScope N ps (defScope st))
    (hn : N.length = n) (hp : ps.length = np) (hg : g = fnNew n np fb)
    (hbody : ∀ (cdv : Value) (A : Around) (outer : List Env) (s : Shared) (H : Hp) (E : XK), Room k (A.deeper (envOfC qual (defScope st) s.heap.objs.size f cdv)) →
      XSs (cxOf CX0 P w K mg base N qual (defScope st) f cdv A outer s H E).nox (defBody st) fb) : FnOk P w K mg base CX0 (k + 1) f fd ps (spN K g) := by
  subst hn hp hg
  exact fn_new F S hbody
end M

/-! the least that must hold ahead: rules to reason about the mirrors, no program in sight -/
namespace M
open PySem PySem.Spec PyProof.Rows L2
def WO {α : Type} (o : Option α) (Q : α → Prop) : Prop := ∃ x, o = some x ∧ Q x
def WE (f : Ef) (env : En) (Q : D → En → Prop) : Prop := ∃ d e, f env = some (d, e) ∧ Q d e
def WL (f : Lf) (env : En) (Q : List D → En → Prop) : Prop := ∃ d e, f env = some (d, e) ∧ Q d e
def WB (f : Bf) (env : En) (Q : Bool → En → Prop) : Prop := ∃ d e, f env = some (d, e) ∧ Q d e
def WA (f : Af) (env : En) (Q : List Ar → En → Prop) : Prop := ∃ d e, f env = some (d, e) ∧ Q d e
def WP (f : Pf) (env : En) (Q : Option Int → En → Prop) : Prop := ∃ d e, f env = some (d, e) ∧ Q d e
def WT (g : Tf) (d : D) (env : En) (Q : En → Prop) : Prop := ∃ e, g d env = some e ∧ Q e
def WTs (g : List D → En → Option En) (d : List D) (env : En) (Q : En → Prop) : Prop := ∃ e, g d env = some e ∧ Q e
def WG (g : Gf) (args : List Sl) (Q : D → List Sl → Prop) : Prop := ∃ d e, g args = some (d, e) ∧ Q d e
def WH (g : Hf) (args : List Sl) (Q : List D → List Sl → Prop) : Prop := ∃ d e, g args = some (d, e) ∧ Q d e
/-- what a statement leaves -/
structure Po where
  n : En → Prop
  r : D → En → Prop
  l : List D → En → Prop
def Po.at (Q : Po) : Out → Prop
  | .nx e => Q.n e
  | .rt d e => Q.r d e
  | .rn ds e => Q.l ds e
  | .rp as ds e => Q.r (.tuple (as ++ [.list ds])) e
def WS (f : Sf) (env : En) (Q : Po) : Prop := ∃ o, f env = some o ∧ Q.at o
/-- slots to be worked out first -/
def Nrm (e : En) (Q : En → Prop) : Prop := Q e
def IfB (b : Bool) (A B : Prop) : Prop := if b then A else B
def IsB (d : D) (Q : Bool → Prop) : Prop := match d with
  | .bool b => Q b
  | _ => False
def IsL (d : D) (Q : List D → Prop) : Prop := match d with
  | .list b => Q b
  | _ => False
def IsS (d : D) (Q : List D → Prop) : Prop := match d with
  | .list b => Q b
  | .tuple b => Q b
  | _ => False
def Fit (n : Nat) (Q : Prop) : Prop := fits n = true ∧ Q
def Sml (n : Int) (Q : Prop) : Prop := smallI n = true ∧ Q
def Own (s : Option Sl) (Q : Bool → List D → Prop) : Prop := ∃ b ds, s = some (.own b ds) ∧ Q b ds
def Any (s : Option Sl) (Q : List D → Prop) : Prop := ∃ b ds, (s = some (.own b ds) ∨ s = some (.ro ds)) ∧ Q ds
def CallG (g : Gf) (as : List Ar) (e : En) (Q : D → En → Prop) : Prop :=
  (rSlots as = [] ∧ WO (resArs e as) fun args => WG g args fun d _ => Q d e) ∨ (∃ i, rSlots as = [i] ∧ (oSlots as).contains i = false ∧ WO (resArs e as) fun args => WG g args fun d a' => WO (backAr e as a') fun e' => Q d e')
def CallH (g : Hf) (as : List Ar) (e : En) (Q : List D → En → Prop) : Prop :=
  (rSlots as = [] ∧ WO (resArs e as) fun args => WH g args fun d _ => Q d e) ∨ (∃ i, rSlots as = [i] ∧ (oSlots as).contains i = false ∧ WO (resArs e as) fun args => WH g args fun d a' => WO (backAr e as a') fun e' => Q d e')
def Two (ds : List D) (Q : D → D → Prop) : Prop := match ds with
  | [x, y] => Q x y
  | _ => False
def WC (vs : List Nat) (g : Tf) (c : Bf) (f : Ef) (ds : List D) (env : En) (Q : List D → En → Prop) : Prop := ∃ xs e, lcGo vs g c f ds env = some (xs, e) ∧ Q xs e
def IsI (d : D) (Q : Int → Prop) : Prop := match d with
  | .int b => Q b
  | _ => False
section
variable {env : En} {d e : D} {f fa fb fc : Ef} {p q c : Bf} {l : Lf} {i j : Nat} {g : D → D → Option D}
theorem ifb_dec {P : Prop} [Decidable P] {A B : Prop} (h1 : P → A) (h2 : ¬ P → B) : IfB (decide P) A B := by
  unfold IfB
  by_cases h : P
  · simp [h, h1 h]
  · simp [h, h2 h]
theorem ifb_decT {P : Prop} [Decidable P] {A B : Prop} (h : P) (a : A) : IfB (decide P) A B := ifb_dec (fun _ => a) fun n => absurd h n
theorem ifb_decF {P : Prop} [Decidable P] {A B : Prop} (h : ¬ P) (b : B) : IfB (decide P) A B := ifb_dec (fun p => absurd p h) fun _ => b
theorem ifb_not {b : Bool} {A B : Prop} (h : IfB b B A) : IfB (!b) A B := by cases b <;> exact h
theorem ifb_t {A B : Prop} (h : A) : IfB true A B := h
theorem ifb_f {A B : Prop} (h : B) : IfB false A B := h
theorem ifb_eT {b : Bool} {A B : Prop} (h : b = true) (a : A) : IfB b A B := by subst h; exact a
theorem ifb_eF {b : Bool} {A B : Prop} (h : b = false) (a : B) : IfB b A B := by subst h; exact a
theorem isb {b : Bool} {Q : Bool → Prop} (h : Q b) : IsB (.bool b) Q := h
theorem isi_ {b : Int} {Q : Int → Prop} (h : Q b) : IsI (.int b) Q := h

theorem isl {b : List D} {Q : List D → Prop} (h : Q b) : IsL (.list b) Q := h
theorem iss_l {b : List D} {Q : List D → Prop} (h : Q b) : IsS (.list b) Q := h
theorem iss_t {b : List D} {Q : List D → Prop} (h : Q b) : IsS (.tuple b) Q := h
theorem nrm_ {e e' : En} {Q : En → Prop} (h : e = e') (q : Q e') : Nrm e Q := by subst h; exact q
theorem two_ {x y : D} {Q : D → D → Prop} (h : Q x y) : Two [x, y] Q := h
theorem fit_ {n : Nat} {Q : Prop} (h : fits n = true) (q : Q) : Fit n Q := ⟨h, q⟩
theorem sml_ {n : Int} {Q : Prop} (h1 : -1000000000 ≤ n) (h2 : n ≤ 1000000000) (q : Q) : Sml n Q := ⟨by unfold smallI; rw [decide_eq_true h1, decide_eq_true h2]; rfl, q⟩
theorem own_ {s : Option Sl} {b : Bool} {ds : List D} {Q : Bool → List D → Prop} (h : s = some (.own b ds)) (q : Q b ds) : Own s Q := ⟨b, ds, h, q⟩
theorem any_o {s : Option Sl} {b : Bool} {ds : List D} {Q : List D → Prop} (h : s = some (.own b ds)) (q : Q ds) : Any s Q := ⟨b, ds, .inl h, q⟩
theorem any_r {s : Option Sl} {ds : List D} {Q : List D → Prop} (h : s = some (.ro ds)) (q : Q ds) : Any s Q := ⟨true, ds, .inr h, q⟩
theorem WO.mono {α : Type} {o : Option α} {Q Q' : α → Prop} (h : WO o Q) (m : ∀ x, Q x → Q' x) : WO o Q' := let ⟨x, e, q⟩ := h; ⟨x, e, m x q⟩
theorem WE.mono {Q Q' : D → En → Prop} (h : WE f env Q) (m : ∀ x e, Q x e → Q' x e) : WE f env Q' := let ⟨x, y, e, q⟩ := h; ⟨x, y, e, m x y q⟩
theorem WB.mono {Q Q' : Bool → En → Prop} (h : WB p env Q) (m : ∀ x e, Q x e → Q' x e) : WB p env Q' := let ⟨x, y, e, q⟩ := h; ⟨x, y, e, m x y q⟩
theorem WL.mono {Q Q' : List D → En → Prop} (h : WL l env Q) (m : ∀ x e, Q x e → Q' x e) : WL l env Q' := let ⟨x, y, e, q⟩ := h; ⟨x, y, e, m x y q⟩
theorem WG.mono {g : Gf} {as : List Sl} {Q Q' : D → List Sl → Prop} (h : WG g as Q) (m : ∀ x e, Q x e → Q' x e) : WG g as Q' := let ⟨x, y, e, q⟩ := h; ⟨x, y, e, m x y q⟩
theorem WH.mono {g : Hf} {as : List Sl} {Q Q' : List D → List Sl → Prop} (h : WH g as Q) (m : ∀ x e, Q x e → Q' x e) : WH g as Q' := let ⟨x, y, e, q⟩ := h; ⟨x, y, e, m x y q⟩
theorem WS.mono {f : Sf} {Q Q' : Po} (h : WS f env Q) (m1 : ∀ e, Q.n e → Q'.n e) (m2 : ∀ d e, Q.r d e → Q'.r d e) (m3 : ∀ d e, Q.l d e → Q'.l d e) : WS f env Q' := by
  obtain ⟨o, e, q⟩ := h
  refine ⟨o, e, ?_⟩
  cases o with
  | nx e => exact m1 _ q
  | rt d e => exact m2 _ _ q
  | rn d e => exact m3 _ _ q
  | rp as ds e => exact m2 _ _ q
/-! expressions -/
theorem we_v {Q : D → En → Prop} (h : env[i]? = some (.val d)) (q : Q d env) : WE (eV i) env Q := ⟨d, env, by unfold eV; rw [h], q⟩
theorem we_oV {Q : D → En → Prop} (h : env[i]? = some (.val d)) (q : Q d env) : WE (eO i) env Q := ⟨d, env, by unfold eO; rw [h], q⟩
theorem we_oW {Q : D → En → Prop} {b : Bool} {ds : List D} (h : env[i]? = some (.own b ds)) (q : Q (.list ds) env) : WE (eO i) env Q := ⟨_, env, by unfold eO; rw [h], q⟩
theorem we_oR {Q : D → En → Prop} {ds : List D} (h : env[i]? = some (.ro ds)) (q : Q (.list ds) env) : WE (eO i) env Q := ⟨_, env, by unfold eO; rw [h], q⟩
theorem we_c {Q : D → En → Prop} (q : Q d env) : WE (eC d) env Q := ⟨_, _, rfl, q⟩
theorem we_un {g : D → Option D} {Q : D → En → Prop} (h : WE fa env fun x e => WO (g x) fun z => Q z e) : WE (eUn g fa) env Q := by
  obtain ⟨x, e, h1, z, h2, q⟩ := h
  exact ⟨z, e, by unfold eUn; rw [h1]; simp [h2], q⟩
theorem we_bin {Q : D → En → Prop} (h : WE fa env fun x e => WE fb e fun y e' => WO (g x y) fun z => Q z e') : WE (eBin g fa fb) env Q := by
  obtain ⟨x, e, h1, y, e', h2, z, h3, q⟩ := h
  exact ⟨z, e', by unfold eBin; simp [h1, h2, h3], q⟩
theorem we_bV {Q : D → En → Prop} {ds : List D} {b : Bool} (h0 : env[i]? = some (.own b ds)) (h : WE fb env fun y e' => WE (eO i) e' fun x _ => WO (g x y) fun z => Q z e') : WE (eBinV g i fb) env Q := by
  obtain ⟨y, e', h2, x, e2, h1, z, h3, q⟩ := h
  exact ⟨z, e', by unfold eBinV; rw [show eO i env = _ from by unfold eO; rw [h0]]; simp only [Option.bind_some, h2, h1, h3, Option.map_some], q⟩
theorem we_bVr {Q : D → En → Prop} {ds : List D} (h0 : env[i]? = some (.ro ds)) (h : WE fb env fun y e' => WE (eO i) e' fun x _ => WO (g x y) fun z => Q z e') : WE (eBinV g i fb) env Q := by
  obtain ⟨y, e', h2, x, e2, h1, z, h3, q⟩ := h
  exact ⟨z, e', by unfold eBinV; rw [show eO i env = _ from by unfold eO; rw [h0]]; simp only [Option.bind_some, h2, h1, h3, Option.map_some], q⟩
theorem we_bVv {Q : D → En → Prop} (h0 : env[i]? = some (.val d)) (h : WE fb env fun y e' => WE (eO i) e' fun x _ => WO (g x y) fun z => Q z e') : WE (eBinV g i fb) env Q := by
  obtain ⟨y, e', h2, x, e2, h1, z, h3, q⟩ := h
  exact ⟨z, e', by unfold eBinV; rw [show eO i env = _ from by unfold eO; rw [h0]]; simp only [Option.bind_some, h2, h1, h3, Option.map_some], q⟩
theorem we_chain {g g' : D → D → Option D} {Q : D → En → Prop} (h : WE fa env fun x e => WE fb e fun y e' => WO (g x y) fun z => IsB z fun b => IfB b (WE fc e' fun w e2 => WO (g' y w) fun z => Q z e2) (Q (.bool false) e')) : WE (eChain g g' fa fb fc) env Q := by
  obtain ⟨x, e, h1, y, e', h2, z, h3, h⟩ := h
  cases z with
  | bool b =>
    cases b with
    | true =>
      obtain ⟨w, e2, h4, z, h5, q⟩ : WE fc e' fun w e2 => WO (g' y w) fun z => Q z e2 := h
      exact ⟨z, e2, by unfold eChain; simp [h1, h2, h3, h4, h5], q⟩
    | false => exact ⟨_, e', by unfold eChain; simp [h1, h2, h3]; (try rfl), h⟩
  | _ => cases h
theorem we_and {Q : D → En → Prop} (h : WE fa env fun x e => IsB x fun b => IfB b (WE fb e Q) (Q (.bool false) e)) : WE (eAnd fa fb) env Q := by
  obtain ⟨x, e, h1, h⟩ := h
  cases x with
  | bool b =>
    cases b with
    | true =>
      obtain ⟨w, e2, h4, q⟩ : WE fb e Q := h
      exact ⟨w, e2, by unfold eAnd; simp [h1, h4], q⟩
    | false => exact ⟨_, e, by unfold eAnd; simp [h1]; (try rfl), h⟩
  | _ => cases h
theorem we_or {Q : D → En → Prop} (h : WE fa env fun x e => IsB x fun b => IfB b (Q (.bool true) e) (WE fb e Q)) : WE (eOr fa fb) env Q := by
  obtain ⟨x, e, h1, h⟩ := h
  cases x with
  | bool b =>
    cases b with
    | false =>
      obtain ⟨w, e2, h4, q⟩ : WE fb e Q := h
      exact ⟨w, e2, by unfold eOr; simp [h1, h4], q⟩
    | true => exact ⟨_, e, by unfold eOr; simp [h1]; (try rfl), h⟩
  | _ => cases h
theorem we_not {Q : D → En → Prop} (h : WE fa env fun x e => IsB x fun b => Q (.bool !b) e) : WE (eNot fa) env Q := by
  obtain ⟨x, e, h1, h⟩ := h
  cases x with
  | bool b => exact ⟨_, e, by unfold eNot; simp [h1]; (try rfl), h⟩
  | _ => cases h
theorem we_if {Q : D → En → Prop} (h : WB p env fun b e => IfB b (WE fa e Q) (WE fb e Q)) : WE (eIf p fa fb) env Q := by
  obtain ⟨b, e, h1, h⟩ := h
  cases b with
  | true => obtain ⟨w, e2, h2, q⟩ : WE fa e Q := h; exact ⟨w, e2, by unfold eIf; simp [h1, h2], q⟩
  | false => obtain ⟨w, e2, h2, q⟩ : WE fb e Q := h; exact ⟨w, e2, by unfold eIf; simp [h1, h2], q⟩
theorem we_fz {Q : D → En → Prop} (h : WL l env fun ds e => Q (.list ds) e) : WE (eFz l) env Q := by
  obtain ⟨x, e, h1, h⟩ := h
  exact ⟨_, e, by unfold eFz; rw [h1]; (try rfl), h⟩
theorem we_tup {Q : D → En → Prop} (h : WL l env fun ds e => Fit ds.length (Q (.tuple ds) e)) : WE (eTup l) env Q := by
  obtain ⟨x, e, h1, h2, h⟩ := h
  exact ⟨_, e, by unfold eTup; simp [h1, h2]; (try rfl), h⟩
def cutOf (x : D) (a b : Option Int) : Option D := match x with
  | .list ds => some (.list (cutD ds a b))
  | .tuple ds => some (.tuple (cutD ds a b))
  | _ => none
theorem wo_cutL {ds : List D} {a b : Option Int} {Q : D → Prop} (q : Q (.list (cutD ds a b))) : WO (cutOf (.list ds) a b) Q := ⟨_, rfl, q⟩
theorem wo_cutT {ds : List D} {a b : Option Int} {Q : D → Prop} (q : Q (.tuple (cutD ds a b))) : WO (cutOf (.tuple ds) a b) Q := ⟨_, rfl, q⟩
theorem we_sl {lo hi : Pf} {Q : D → En → Prop} (h : WE fa env fun x e => WP lo e fun a e1 => WP hi e1 fun b e2 => WO (cutOf x a b) fun z => Q z e2) : WE (eSl fa lo hi) env Q := by
  obtain ⟨x, e, h1, a, e1, h2, b, e2, h3, z, h4, h⟩ := h
  unfold cutOf at h4
  split at h4 <;> cases h4
  · exact ⟨_, e2, by unfold eSl; simp [h1, h2, h3]; (try rfl), h⟩
  · exact ⟨_, e2, by unfold eSl; simp [h1, h2, h3]; (try rfl), h⟩
theorem wp_no {Q : Option Int → En → Prop} (q : Q none env) : WP pNo env Q := ⟨_, _, rfl, q⟩
theorem wp_e {Q : Option Int → En → Prop} (h : WE f env fun x e => IsI x fun n => Q (some n) e) : WP (pE f) env Q := by
  obtain ⟨x, e, h1, h⟩ := h
  cases x with
  | int n => exact ⟨_, e, by unfold pE; rw [h1]; (try rfl), h⟩
  | _ => cases h

/-! lists -/
theorem wl_nil {Q : List D → En → Prop} (q : Q [] env) : WL lNil env Q := ⟨_, _, rfl, q⟩
theorem wl_cons {Q : List D → En → Prop} (h : WE f env fun x e => WL l e fun xs e' => Q (x :: xs) e') : WL (lCons f l) env Q := by
  obtain ⟨x, e, h1, xs, e', h2, q⟩ := h
  exact ⟨_, e', by unfold lCons; simp [h1, h2]; (try rfl), q⟩
theorem wl_lst {Q : List D → En → Prop} (h : WL l env fun ds e => Fit ds.length (Q ds e)) : WL (lLst l) env Q := by
  obtain ⟨x, e, h1, h2, q⟩ := h
  exact ⟨_, e, by unfold lLst; simp [h1, h2]; (try rfl), q⟩
theorem wl_un {g : D → Option (List D)} {Q : List D → En → Prop} (h : WE fa env fun x e => WO (g x) fun z => Q z e) : WL (lUn g fa) env Q := by
  obtain ⟨x, e, h1, z, h2, q⟩ := h
  exact ⟨z, e, by unfold lUn; rw [h1]; simp [h2], q⟩
theorem wl_slV {lo hi : Pf} {Q : List D → En → Prop} {b : Bool} {ds0 : List D} (h0 : env[i]? = some (.own b ds0) ∨ env[i]? = some (.ro ds0)) (h : WP lo env fun a e1 => WP hi e1 fun b e2 => Any e2[i]? fun ds => Q (cutD ds a b) e2) : WL (lSlV i lo hi) env Q := by
  obtain ⟨a, e1, h2, b, e2, h3, c, ds, h4, q⟩ := h
  refine ⟨_, e2, ?_, q⟩
  unfold lSlV
  rcases h0 with h0 | h0 <;> rcases h4 with h4 | h4 <;> · simp [eO, h0, h2, h3]; simp [h4]
theorem wl_slO {lo hi : Pf} {Q : List D → En → Prop} {b : Bool} {ds0 : List D} (h0 : env[i]? = some (.own b ds0)) (h : WP lo env fun a e1 => WP hi e1 fun b e2 => Any e2[i]? fun ds => Q (cutD ds a b) e2) : WL (lSlV i lo hi) env Q := wl_slV (.inl h0) h
theorem wl_slR {lo hi : Pf} {Q : List D → En → Prop} {ds0 : List D} (h0 : env[i]? = some (.ro ds0)) (h : WP lo env fun a e1 => WP hi e1 fun b e2 => Any e2[i]? fun ds => Q (cutD ds a b) e2) : WL (lSlV i lo hi) env Q := wl_slV (b := true) (.inr h0) h
theorem wl_it {Q : List D → En → Prop} (h : WE f env fun x e => IsS x fun ds => Q ds e) : WL (lIt f) env Q := by
  obtain ⟨x, e, h1, h⟩ := h
  cases x with
  | list ds => exact ⟨_, e, by unfold lIt; rw [h1]; rfl, h⟩
  | tuple ds => exact ⟨_, e, by unfold lIt; rw [h1]; rfl, h⟩
  | _ => cases h
theorem wl_rng1 {Q : List D → En → Prop} (h : WE f env fun x e => IsI x fun n => Sml n (Q (irange 0 n.toNat) e)) : WL (lRng1 f) env Q := by
  obtain ⟨x, e, h1, h⟩ := h
  cases x with
  | int n => exact ⟨_, e, by unfold lRng1; rw [h1]; show (if _ then _ else _) = _; rw [if_pos h.1], h.2⟩
  | _ => cases h
theorem wl_rng2 {f' : Ef} {Q : List D → En → Prop} (h : WE f env fun x e => WE f' e fun y e' => IsI x fun m => IsI y fun n => Sml m (Sml n (Q (irange m (n - m).toNat) e'))) : WL (lRng2 f f') env Q := by
  obtain ⟨x, e, h1, y, e', h2, h⟩ := h
  cases x with
  | int m => cases y with
    | int n => exact ⟨_, e', by unfold lRng2; simp [h1, h2, h.1, h.2.1]; (try rfl), h.2.2⟩
    | _ => cases h
  | _ => cases h
theorem wl_enum {Q : List D → En → Prop} (h : WE f env fun x e => IsL x fun ds => Q (pairs (irange 0 ds.length) ds) e) : WL (lEnum f) env Q := by
  obtain ⟨x, e, h1, h⟩ := h
  cases x with
  | list ds => exact ⟨_, e, by unfold lEnum; rw [h1]; rfl, h⟩
  | _ => cases h
/-- a comprehension, by what has been gathered -/
theorem lc_inv {vs : List Nat} {g : Tf} {c : Bf} {f : Ef} (I : List D → List D → En → Prop) : ∀ (ds acc : List D) (env : En), I ds acc env →
    (∀ d ds acc env, I (d :: ds) acc env → WT g d env fun e1 => WB c e1 fun b e2 => IfB b (WE f e2 fun x e3 => I ds (acc ++ [x]) (wipeE e3 vs)) (I ds acc (wipeE e2 vs))) →
    ∃ xs e, lcGo vs g c f ds env = some (xs, e) ∧ I [] (acc ++ xs) e
  | [], acc, env, h, _ => ⟨[], env, rfl, by rw [List.append_nil]; exact h⟩
  | d :: ds, acc, env, h, s => by
    obtain ⟨e1, h1, b, e2, h2, h3⟩ := s d ds acc env h
    cases b with
    | true =>
      obtain ⟨x, e3, h4, h5⟩ : WE f e2 fun x e3 => I ds (acc ++ [x]) (wipeE e3 vs) := h3
      obtain ⟨xs, e4, h6, h7⟩ := lc_inv I ds (acc ++ [x]) _ h5 s
      exact ⟨x :: xs, e4, by unfold lcGo; simp [h1, h2, h4, h6], by rw [List.append_assoc] at h7; exact h7⟩
    | false =>
      obtain ⟨xs, e4, h6, h7⟩ := lc_inv I ds acc _ (show I ds acc (wipeE e2 vs) from h3) s
      exact ⟨xs, e4, by unfold lcGo; simp [h1, h2, h6], h7⟩
theorem wl_comp {vs : List Nat} {g : Tf} {c : Bf} {f : Ef} {Q : List D → En → Prop} (I : List D → List D → List D → En → En → Prop)
    (h : WL l env fun ds e => noOwn e vs = true ∧ fits ds.length = true ∧ I ds ds [] (wipeE e vs) e ∧
      (∀ d rs acc e', I ds (d :: rs) acc e' e → WT g d e' fun e1 => WB c e1 fun b e2 => IfB b (WE f e2 fun x e3 => I ds rs (acc ++ [x]) (wipeE e3 vs) e) (I ds rs acc (wipeE e2 vs) e)) ∧
      ∀ xs e', I ds [] xs e' e → Q xs (backE e e' vs)) : WL (lComp l vs g c f) env Q := by
  obtain ⟨ds, e, h1, h2, h3, h4, h5, h6⟩ := h
  obtain ⟨xs, e', h7, h8⟩ := lc_inv (fun rs acc e' => I ds rs acc e' e) ds [] (wipeE e vs) h4 h5
  exact ⟨xs, backE e e' vs, by unfold lComp; simp [h1, h2, h3, h7], h6 xs e' h8⟩
theorem lc_pure {vs : List Nat} {g : Tf} {c : Bf} {f : Ef} {P : D → Bool} {F : D → D} {env : En} : ∀ (ds : List D),
    (∀ d ∈ ds, WT g d env fun e1 => WB c e1 fun b e2 => b = P d ∧ IfB b (WE f e2 fun x e3 => x = F d ∧ wipeE e3 vs = env) (wipeE e2 vs = env)) →
    lcGo vs g c f ds env = some ((ds.filter P).map F, env)
  | [], _ => rfl
  | d :: ds, s => by
    have ih := lc_pure (vs := vs) (g := g) (c := c) (f := f) (P := P) (F := F) (env := env) ds fun d hd => s d (List.mem_cons_of_mem _ hd)
    obtain ⟨e1, h1, b, e2, h2, h3, h4⟩ := s d List.mem_cons_self
    cases b with
    | true =>
      obtain ⟨x, e3, h4, h5, h6⟩ : WE f e2 fun x e3 => x = F d ∧ wipeE e3 vs = env := h4
      unfold lcGo; simp [h1, h2, h4, h5, h6, ih, ← h3]
    | false =>
      have h6 : wipeE e2 vs = env := h4
      unfold lcGo; simp [h1, h2, h6, ih, ← h3]
/-- a comprehension that touches no slot -/
theorem wl_compP {vs : List Nat} {g : Tf} {c : Bf} {f : Ef} {Q : List D → En → Prop} (P : List D → D → Bool) (F : List D → D → D)
    (h : WL l env fun ds e => noOwn e vs = true ∧ fits ds.length = true ∧
      (∀ d ∈ ds, WT g d (wipeE e vs) fun e1 => WB c e1 fun b e2 => b = P ds d ∧ IfB b (WE f e2 fun x e3 => x = F ds d ∧ wipeE e3 vs = wipeE e vs) (wipeE e2 vs = wipeE e vs)) ∧
      Q ((ds.filter (P ds)).map (F ds)) (backE e (wipeE e vs) vs)) : WL (lComp l vs g c f) env Q := by
  obtain ⟨ds, e, h1, h2, h3, h4, q⟩ := h
  exact ⟨_, _, by unfold lComp; simp [h1, h2, h3, lc_pure ds h4], q⟩

theorem wc_nil {vs : List Nat} {g : Tf} {c : Bf} {f : Ef} {Q : List D → En → Prop} (q : Q [] env) : WC vs g c f [] env Q := ⟨[], env, rfl, q⟩
theorem wc_cons {vs : List Nat} {g : Tf} {c : Bf} {f : Ef} {ds : List D} {Q : List D → En → Prop} (h : WT g d env fun e1 => WB c e1 fun b e2 => IfB b (WE f e2 fun x e3 => Nrm (wipeE e3 vs) fun e4 => WC vs g c f ds e4 fun xs e => Q (x :: xs) e) (Nrm (wipeE e2 vs) fun e4 => WC vs g c f ds e4 Q)) : WC vs g c f (d :: ds) env Q := by
  obtain ⟨e1, h1, b, e2, h2, h3⟩ := h
  cases b with
  | true =>
    obtain ⟨x, e3, h4, xs, e, h5, q⟩ : WE f e2 fun x e3 => WC vs g c f ds (wipeE e3 vs) fun xs e => Q (x :: xs) e := h3
    exact ⟨x :: xs, e, by unfold lcGo; simp [h1, h2, h4, h5], q⟩
  | false =>
    obtain ⟨xs, e, h5, q⟩ : WC vs g c f ds (wipeE e2 vs) Q := h3
    exact ⟨xs, e, by unfold lcGo; simp [h1, h2, h5], q⟩
/-! tests -/
theorem wb_v {Q : Bool → En → Prop} (h : WE f env fun x e => IsB x fun b => Q b e) : WB (bV f) env Q := by
  obtain ⟨x, e, h1, h⟩ := h
  cases x with
  | bool b => exact ⟨_, e, by unfold bV; rw [h1]; (try rfl), h⟩
  | _ => cases h
theorem wb_and {Q : Bool → En → Prop} (h : WB p env fun b e => IfB b (WB q e Q) (Q false e)) : WB (bAnd p q) env Q := by
  obtain ⟨b, e, h1, h⟩ := h
  cases b with
  | true => obtain ⟨b, e', h2, q⟩ : WB q e Q := h; exact ⟨b, e', by unfold bAnd; simp [h1, h2], q⟩
  | false => exact ⟨_, e, by unfold bAnd; simp [h1]; (try rfl), h⟩
theorem wb_or {Q : Bool → En → Prop} (h : WB p env fun b e => IfB b (Q true e) (WB q e Q)) : WB (bOr p q) env Q := by
  obtain ⟨b, e, h1, h⟩ := h
  cases b with
  | false => obtain ⟨b, e', h2, q⟩ : WB q e Q := h; exact ⟨b, e', by unfold bOr; simp [h1, h2], q⟩
  | true => exact ⟨_, e, by unfold bOr; simp [h1]; (try rfl), h⟩
theorem wb_not {Q : Bool → En → Prop} (h : WB p env fun b e => Q (!b) e) : WB (bNot p) env Q := by
  obtain ⟨b, e, h1, h⟩ := h
  exact ⟨_, e, by unfold bNot; rw [h1]; (try rfl), h⟩
theorem wb_yes {Q : Bool → En → Prop} (q : Q true env) : WB bYes env Q := ⟨_, _, rfl, q⟩

/-! targets -/
theorem wt_n {Q : En → Prop} (q : Nrm (env.set i (.val d)) Q) : WT (tN i) d env Q := ⟨_, rfl, q⟩
theorem wt_t {n : Nat} {r : List D → En → Option En} {ds : List D} {Q : En → Prop} (hl : ds.length = n) (h : WTs r ds env Q) : WT (tT n r) (.tuple ds) env Q := by
  obtain ⟨e, h, q⟩ := h
  exact ⟨e, by unfold tT; simp [hl, h], q⟩
theorem wts_nil {Q : En → Prop} (q : Q env) : WTs gsN [] env Q := ⟨_, rfl, q⟩
theorem wts_cons {g : Tf} {r : List D → En → Option En} {ds : List D} {Q : En → Prop} (h : WT g d env fun e => WTs r ds e Q) : WTs (gsC g r) (d :: ds) env Q := by
  obtain ⟨e, h1, e', h2, q⟩ := h
  exact ⟨e', by unfold gsC; simp [h1, h2], q⟩

/-! calls -/
theorem wa_nil {Q : List Ar → En → Prop} (q : Q [] env) : WA aNil env Q := ⟨_, _, rfl, q⟩
theorem wa_v {a : Af} {Q : List Ar → En → Prop} (h : WE f env fun x e => WA a e fun xs e' => Q (.v x :: xs) e') : WA (aV f a) env Q := by
  obtain ⟨x, e, h1, xs, e', h2, q⟩ := h
  exact ⟨_, e', by unfold aV; simp [h1, h2]; (try rfl), q⟩
theorem wa_r {a : Af} {Q : List Ar → En → Prop} {b : Bool} {ds : List D} (h0 : env[i]? = some (.own b ds)) (h : WA a env fun xs e' => Q (.r i :: xs) e') : WA (aR i a) env Q := by
  obtain ⟨xs, e', h2, q⟩ := h
  exact ⟨_, e', by unfold aR; simp [eO, h0, h2]; (try rfl), q⟩
theorem wa_o {a : Af} {Q : List Ar → En → Prop} (h0 : ∃ d, eO i env = some (d, env)) (h : WA a env fun xs e' => Q (.o i :: xs) e') : WA (aO i a) env Q := by
  obtain ⟨_, h0⟩ := h0
  obtain ⟨xs, e', h2, q⟩ := h
  exact ⟨_, e', by unfold aO; simp [h0, h2]; (try rfl), q⟩
theorem wa_oR {a : Af} {Q : List Ar → En → Prop} {ds : List D} (h0 : env[i]? = some (.ro ds)) (h : WA a env fun xs e' => Q (.o i :: xs) e') : WA (aO i a) env Q := wa_o ⟨_, by unfold eO; rw [h0]⟩ h
theorem wa_oO {a : Af} {Q : List Ar → En → Prop} {b : Bool} {ds : List D} (h0 : env[i]? = some (.own b ds)) (h : WA a env fun xs e' => Q (.o i :: xs) e') : WA (aO i a) env Q := wa_o ⟨_, by unfold eO; rw [h0]⟩ h
theorem wa_oV {a : Af} {Q : List Ar → En → Prop} (h0 : env[i]? = some (.val d)) (h : WA a env fun xs e' => Q (.o i :: xs) e') : WA (aO i a) env Q := wa_o ⟨_, by unfold eO; rw [h0]⟩ h
theorem we_call {g : Gf} {fa : Af} {Q : D → En → Prop} (h : WA fa env fun as e => CallG g as e Q) : WE (eCall g fa) env Q := by
  obtain ⟨as, e, h1, h⟩ := h
  rcases h with ⟨h3, args, h2, d, a', h4, q⟩ | ⟨i, h3, h4, args, h2, d, a', h5, e', h6, q⟩
  · exact ⟨d, e, by unfold eCall; simp [h1, h2, h3, h4], q⟩
  · exact ⟨d, e', by unfold eCall; simp only [h1, Option.bind_some, h3]; simp [show i ∉ oSlots as from fun z => by simp [z] at h4, h2, h5, h6], q⟩
theorem wl_call {g : Hf} {fa : Af} {Q : List D → En → Prop} (h : WA fa env fun as e => CallH g as e Q) : WL (lCall g fa) env Q := by
  obtain ⟨as, e, h1, h⟩ := h
  rcases h with ⟨h3, args, h2, d, a', h4, q⟩ | ⟨i, h3, h4, args, h2, d, a', h5, e', h6, q⟩
  · exact ⟨d, e, by unfold lCall; simp [h1, h2, h3, h4], q⟩
  · exact ⟨d, e', by unfold lCall; simp only [h1, Option.bind_some, h3]; simp [show i ∉ oSlots as from fun z => by simp [z] at h4, h2, h5, h6], q⟩
theorem cg0 {g : Gf} {as : List Ar} {Q : D → En → Prop} (h : rSlots as = []) (q : WO (resArs env as) fun args => WG g args fun d _ => Q d env) : CallG g as env Q := .inl ⟨h, q⟩
theorem cg1 {g : Gf} {as : List Ar} {Q : D → En → Prop} (h : rSlots as = [i]) (h2 : (oSlots as).contains i = false) (q : WO (resArs env as) fun args => WG g args fun d a' => WO (backAr env as a') fun e' => Q d e') : CallG g as env Q := .inr ⟨i, h, h2, q⟩
theorem ch0 {g : Hf} {as : List Ar} {Q : List D → En → Prop} (h : rSlots as = []) (q : WO (resArs env as) fun args => WH g args fun d _ => Q d env) : CallH g as env Q := .inl ⟨h, q⟩
theorem ch1 {g : Hf} {as : List Ar} {Q : List D → En → Prop} (h : rSlots as = [i]) (h2 : (oSlots as).contains i = false) (q : WO (resArs env as) fun args => WH g args fun d a' => WO (backAr env as a') fun e' => Q d e') : CallH g as env Q := .inr ⟨i, h, h2, q⟩
theorem res_nil {Q : List Sl → Prop} (q : Q []) : WO (resArs env []) Q := ⟨_, rfl, q⟩
theorem res_cons {a : Ar} {as : List Ar} {x : Sl} {Q : List Sl → Prop} (h : resAr env a = some x) (q : WO (resArs env as) fun xs => Q (x :: xs)) : WO (resArs env (a :: as)) Q := by
  obtain ⟨xs, h2, q⟩ := q
  exact ⟨_, by unfold resArs; simp [h, h2], q⟩
theorem res_v {as : List Ar} {Q : List Sl → Prop} (q : WO (resArs env as) fun xs => Q (.val d :: xs)) : WO (resArs env (.v d :: as)) Q := res_cons rfl q
theorem res_r {as : List Ar} {b : Bool} {ds : List D} {Q : List Sl → Prop} (h : env[i]? = some (.own b ds)) (q : WO (resArs env as) fun xs => Q (.own false ds :: xs)) : WO (resArs env (.r i :: as)) Q := res_cons (by unfold resAr; dsimp only; rw [h]) q
theorem res_oO {as : List Ar} {b : Bool} {ds : List D} {Q : List Sl → Prop} (h : env[i]? = some (.own b ds)) (q : WO (resArs env as) fun xs => Q (.ro ds :: xs)) : WO (resArs env (.o i :: as)) Q := res_cons (by unfold resAr; dsimp only; rw [h]) q
theorem res_oR {as : List Ar} {ds : List D} {Q : List Sl → Prop} (h : env[i]? = some (.ro ds)) (q : WO (resArs env as) fun xs => Q (.ro ds :: xs)) : WO (resArs env (.o i :: as)) Q := res_cons (by unfold resAr; dsimp only; rw [h]) q
theorem res_oV {as : List Ar} {ds : List D} {Q : List Sl → Prop} (h : env[i]? = some (.val (.list ds))) (q : WO (resArs env as) fun xs => Q (.ro ds :: xs)) : WO (resArs env (.o i :: as)) Q := res_cons (by unfold resAr; dsimp only; rw [h]) q
theorem back_nil {xs : List Sl} {Q : En → Prop} (q : Q env) : WO (backAr env [] xs) Q := ⟨_, by unfold backAr; (try rfl), q⟩
theorem back_v {as : List Ar} {x : Sl} {xs : List Sl} {Q : En → Prop} (q : WO (backAr env as xs) Q) : WO (backAr env (.v d :: as) (x :: xs)) Q := q
theorem back_o {as : List Ar} {x : Sl} {xs : List Sl} {Q : En → Prop} (q : WO (backAr env as xs) Q) : WO (backAr env (.o i :: as) (x :: xs)) Q := q
theorem back_r {as : List Ar} {ds ds0 : List D} {b : Bool} {xs : List Sl} {Q : En → Prop} (h : env[i]? = some (.own b ds0)) (q : Nrm (env.set i (.own b ds)) fun e => WO (backAr e as xs) Q) : WO (backAr env (.r i :: as) (.own false ds :: xs)) Q := by
  obtain ⟨e, h1, q⟩ := q
  exact ⟨e, by unfold backAr; rw [h]; exact h1, q⟩

/-! methods -/
theorem we_mut {g : List D → D → Option (List D × D)} {Q : D → En → Prop} {b : Bool} {ds0 : List D} (h0 : env[i]? = some (.own b ds0)) (h : WE f env fun x e => Own e[i]? fun l ds => WO (g ds x) fun r => Nrm (e.set i (.own l r.1)) (Q r.2)) : WE (eMut g i f) env Q := by
  obtain ⟨x, e, h1, l, ds, h2, r, h3, q⟩ := h
  exact ⟨_, _, by unfold eMut isOwn; rw [h0]; simp only [if_true, h1, Option.bind_some, h2, h3]; (try rfl), q⟩
theorem we_mut0 {g : List D → Option (List D × D)} {Q : D → En → Prop} {b : Bool} {ds : List D} (h0 : env[i]? = some (.own b ds)) (h : WO (g ds) fun r => Nrm (env.set i (.own b r.1)) (Q r.2)) : WE (eMut0 g i) env Q := by
  obtain ⟨r, h3, q⟩ := h
  exact ⟨_, _, by unfold eMut0; rw [h0]; simp only [h3]; (try rfl), q⟩

/-! statements -/
theorem ws_nil {N : En → Prop} {R : D → En → Prop} {L : List D → En → Prop} (q : N env) : WS sNil env ⟨N, R, L⟩ := ⟨.nx env, rfl, q⟩
theorem ws_seq {f g : Sf} {N : En → Prop} {R : D → En → Prop} {L : List D → En → Prop} (h : WS f env ⟨fun e => WS g e ⟨N, R, L⟩, R, L⟩) : WS (sSeq f g) env ⟨N, R, L⟩ := by
  obtain ⟨o, h1, h⟩ := h
  cases o with
  | nx e =>
    obtain ⟨o, h2, q⟩ : WS g e ⟨N, R, L⟩ := h
    exact ⟨o, by unfold sSeq; simp [h1, h2], q⟩
  | rt d e => exact ⟨.rt d e, by unfold sSeq; simp [h1]; (try rfl), h⟩
  | rn d e => exact ⟨.rn d e, by unfold sSeq; simp [h1]; (try rfl), h⟩
  | rp d d2 e => exact ⟨.rp d d2 e, by unfold sSeq; simp [h1]; (try rfl), h⟩
theorem ws_cut {f : Sf} {N : En → Prop} {R : D → En → Prop} {L : List D → En → Prop} (I : En → Prop) (h : WS f env ⟨I, R, L⟩) (h2 : ∀ e, I e → N e) : WS f env ⟨N, R, L⟩ := h.mono (fun e q => h2 e q) (fun _ _ q => q) fun _ _ q => q
/-- with a resting place between the two -/
theorem ws_mid {f g : Sf} {N : En → Prop} {R : D → En → Prop} {L : List D → En → Prop} (I : En → Prop) (h : WS f env ⟨I, R, L⟩) (h2 : ∀ e, I e → WS g e ⟨N, R, L⟩) : WS (sSeq f g) env ⟨N, R, L⟩ := ws_seq (h.mono (fun e q => h2 e q) (fun _ _ q => q) fun _ _ q => q)
theorem ws_expr {N : En → Prop} {R : D → En → Prop} {L : List D → En → Prop} (h : WE f env fun _ e => N e) : WS (sExpr f) env ⟨N, R, L⟩ := by
  obtain ⟨x, e, h1, q⟩ := h
  exact ⟨.nx e, by unfold sExpr; rw [h1]; (try rfl), q⟩
theorem ws_ret {N : En → Prop} {R : D → En → Prop} {L : List D → En → Prop} (h : WE f env R) : WS (sRet f) env ⟨N, R, L⟩ := by
  obtain ⟨x, e, h1, q⟩ := h
  exact ⟨.rt x e, by unfold sRet; rw [h1]; (try rfl), q⟩
theorem ws_retL {N : En → Prop} {R : D → En → Prop} {L : List D → En → Prop} (h : WL l env L) : WS (sRetL l) env ⟨N, R, L⟩ := by
  obtain ⟨x, e, h1, q⟩ := h
  exact ⟨.rn x e, by unfold sRetL; rw [h1]; (try rfl), q⟩
theorem ws_retN {N : En → Prop} {R : D → En → Prop} {L : List D → En → Prop} (q : R .none env) : WS sRetN env ⟨N, R, L⟩ := ⟨.rt .none env, rfl, q⟩
theorem ws_retO {N : En → Prop} {R : D → En → Prop} {L : List D → En → Prop} {ds : List D} (h : env[i]? = some (.own true ds)) (q : Nrm (env.set i .no) (L ds)) : WS (sRetO i) env ⟨N, R, L⟩ := ⟨.rn ds _, by unfold sRetO; rw [h], q⟩
theorem ws_frz {f : Sf} {N : En → Prop} {R : D → En → Prop} {L : List D → En → Prop} {ds : List D} (h : env[i]? = some (.own true ds)) (q : Nrm (env.set i (.val (.list ds))) fun e => WS f e ⟨N, R, L⟩) : WS (sFrz i f) env ⟨N, R, L⟩ := by
  obtain ⟨o, h1, q⟩ := q
  exact ⟨o, by unfold sFrz frz; rw [h]; exact h1, q⟩
theorem ws_frzV {f : Sf} {N : En → Prop} {R : D → En → Prop} {L : List D → En → Prop} (h : env[i]? = some (.val d)) (q : WS f env ⟨N, R, L⟩) : WS (sFrz i f) env ⟨N, R, L⟩ := by
  obtain ⟨o, h1, q⟩ := q
  exact ⟨o, by unfold sFrz frz; rw [h]; exact h1, q⟩
theorem ws_if {f g : Sf} {N : En → Prop} {R : D → En → Prop} {L : List D → En → Prop} (h : WB c env fun b e => IfB b (WS f e ⟨N, R, L⟩) (WS g e ⟨N, R, L⟩)) : WS (sIf c f g) env ⟨N, R, L⟩ := by
  obtain ⟨b, e, h1, h⟩ := h
  cases b with
  | true => obtain ⟨o, h2, q⟩ : WS f e ⟨N, R, L⟩ := h; exact ⟨o, by unfold sIf; simp [h1, h2], q⟩
  | false => obtain ⟨o, h2, q⟩ : WS g e ⟨N, R, L⟩ := h; exact ⟨o, by unfold sIf; simp [h1, h2], q⟩
theorem ws_set {N : En → Prop} {R : D → En → Prop} {L : List D → En → Prop} (h : WE f env fun x e => Nrm (e.set i (.val x)) N) : WS (sSet i f) env ⟨N, R, L⟩ := by
  obtain ⟨x, e, h1, q⟩ := h
  exact ⟨.nx _, by unfold sSet; rw [h1]; (try rfl), q⟩
theorem ws_setO {N : En → Prop} {R : D → En → Prop} {L : List D → En → Prop} (h : WL l env fun x e => Nrm (e.set i (.own true x)) N) : WS (sSetO i l) env ⟨N, R, L⟩ := by
  obtain ⟨x, e, h1, q⟩ := h
  exact ⟨.nx _, by unfold sSetO; rw [h1]; (try rfl), q⟩
theorem ws_asg {g : Tf} {N : En → Prop} {R : D → En → Prop} {L : List D → En → Prop} (h : WE f env fun x e => WT g x e N) : WS (sAsg f g) env ⟨N, R, L⟩ := by
  obtain ⟨x, e, h1, e', h2, q⟩ := h
  exact ⟨.nx _, by unfold sAsg; simp [h1, h2]; (try rfl), q⟩
theorem ws_par {N : En → Prop} {R : D → En → Prop} {L : List D → En → Prop} (h : WL l env fun ds e => Two ds fun x y => Nrm ((e.set i (.val x)).set j (.val y)) N) : WS (sPar i j l) env ⟨N, R, L⟩ := by
  obtain ⟨x, e, h1, h⟩ := h
  unfold Two at h
  split at h
  case h_2 => cases h
  have q := h
  exact ⟨.nx _, by unfold sPar; rw [h1]; (try rfl), q⟩
theorem ws_putI {fk fe : Ef} {N : En → Prop} {R : D → En → Prop} {L : List D → En → Prop} {b : Bool} {ds0 : List D} (h0 : env[i]? = some (.own b ds0)) (h : WE fe env fun x e => WE fk e fun y e' => IsI y fun k => Own e'[i]? fun l ds => WO (ixN ds.length k) fun j => Nrm (e'.set i (.own l (ds.set j x))) N) : WS (sPutI i fk fe) env ⟨N, R, L⟩ := by
  obtain ⟨x, e, h1, y, e', h2, h⟩ := h
  cases y with
  | int k =>
    obtain ⟨l, ds, h3, j, h4, q⟩ := h
    exact ⟨.nx _, by unfold sPutI isOwn; rw [h0]; simp only [if_true]; unfold sPut; simp only [h1, h2, Option.bind_some, h3, h4]; (try rfl), q⟩
  | _ => cases h
/-- for: by what is still to be walked -/
theorem for_go {g : Tf} {body : Sf} {N : En → Prop} {R : D → En → Prop} {L : List D → En → Prop} (I : List D → En → Prop) : ∀ (ds : List D) (env : En), I ds env →
    (∀ d rs e, I (d :: rs) e → WT g d e fun e1 => WS body e1 ⟨I rs, R, L⟩) → (∀ e, I [] e → N e) → WS (forGo g body ds) env ⟨N, R, L⟩
  | [], env, h, _, q => ⟨.nx env, rfl, q env h⟩
  | d :: ds, env, h, s, q => by
    obtain ⟨e1, h1, o, h2, h3⟩ := s d ds env h
    cases o with
    | nx e =>
      obtain ⟨o, h4, h5⟩ := for_go I ds e h3 s q
      exact ⟨o, by unfold forGo; simp [h1, h2, h4], h5⟩
    | rt d e => exact ⟨.rt d e, by unfold forGo; simp [h1, h2]; (try rfl), h3⟩
    | rn d e => exact ⟨.rn d e, by unfold forGo; simp [h1, h2]; (try rfl), h3⟩
    | rp d d2 e => exact ⟨.rp d d2 e, by unfold forGo; simp [h1, h2]; (try rfl), h3⟩
theorem ws_for {g : Tf} {body : Sf} {N : En → Prop} {R : D → En → Prop} {L : List D → En → Prop} (I : List D → List D → En → Prop) (h : WL l env fun ds e => I ds ds e ∧ (∀ d rs e, I ds (d :: rs) e → WT g d e fun e1 => WS body e1 ⟨I ds rs, R, L⟩) ∧ ∀ e, I ds [] e → N e) : WS (sFor l g body) env ⟨N, R, L⟩ := by
  obtain ⟨ds, e, h1, h2, h3, h4⟩ := h
  obtain ⟨o, h5, q⟩ := for_go (I ds) ds e h2 h3 h4
  exact ⟨o, by unfold sFor; simp [h1, h5], q⟩
/-- for: by the turn -/
theorem ws_forN {g : Tf} {body : Sf} {N : En → Prop} {R : D → En → Prop} {L : List D → En → Prop} (I : List D → Nat → En → Prop) (h : WL l env fun ds e => I ds 0 e ∧ (∀ k d e, k < ds.length → ds[k]? = some d → I ds k e → WT g d e fun e1 => WS body e1 ⟨I ds (k + 1), R, L⟩) ∧ ∀ e, I ds ds.length e → N e) : WS (sFor l g body) env ⟨N, R, L⟩ := by
  obtain ⟨ds, e, h1, h2, h3, h4⟩ := h
  obtain ⟨o, h5, q⟩ := for_go (N := N) (R := R) (L := L) (body := body) (g := g) (fun rs e => ∃ k, k ≤ ds.length ∧ ds.drop k = rs ∧ I ds k e) ds e ⟨0, Nat.zero_le _, rfl, h2⟩ (fun d rs e ⟨k, hk, h5, h6⟩ => by
    have hlt : k < ds.length := by
      rcases Nat.lt_or_ge k ds.length with h | h
      · exact h
      · rw [List.drop_eq_nil_of_le h] at h5; cases h5
    have e1 : ds[k]? = some d := by
      rw [List.drop_eq_getElem_cons hlt] at h5
      injection h5 with h5 _
      rw [List.getElem?_eq_getElem hlt, h5]
    obtain ⟨x1, h7, o, h8, h9⟩ := h3 k d e hlt e1 h6
    refine ⟨x1, h7, o, h8, ?_⟩
    cases o with
    | nx e' =>
      refine ⟨k + 1, hlt, ?_, h9⟩
      rw [List.drop_eq_getElem_cons hlt] at h5
      injection h5 with _ h5
    | rt d e => exact h9
    | rn d e => exact h9
    | rp d d2 e => exact h9) (fun e ⟨k, hk, h5, h6⟩ => by
    have : k = ds.length := by
      rw [List.drop_eq_nil_iff] at h5
      omega
    subst this
    exact h4 e h6)
  exact ⟨o, by unfold sFor; simp [h1, h5], q⟩
/-! defs -/
theorem wg_run {n np : Nat} {f : Sf} {args : List Sl} {Q : D → List Sl → Prop} (hl : args.length = np) (h : Nrm (args ++ List.replicate (n - np) .no) fun e => WS f e ⟨fun e => Q .none (e.take np), fun d e => Q d (e.take np), fun ds e => Q (.list ds) (e.take np)⟩) : WG (fnRun n np f) args Q := by
  obtain ⟨o, h1, q⟩ := h
  cases o with
  | nx e => exact ⟨_, _, by unfold fnRun; rw [if_pos hl, h1], q⟩
  | rt d e => exact ⟨_, _, by unfold fnRun; rw [if_pos hl, h1], q⟩
  | rn d e => exact ⟨_, _, by unfold fnRun; rw [if_pos hl, h1], q⟩
  | rp d d2 e => exact ⟨_, _, by unfold fnRun; rw [if_pos hl, h1], q⟩
theorem wh_new {n np : Nat} {f : Sf} {args : List Sl} {Q : List D → List Sl → Prop} (hl : args.length = np) (h : Nrm (args ++ List.replicate (n - np) .no) fun e => WS f e ⟨fun e => False, fun d e => False, fun ds e => Q ds (e.take np)⟩) : WH (fnNew n np f) args Q := by
  obtain ⟨o, h1, q⟩ := h
  cases o with
  | nx e => cases q
  | rt d e => cases q
  | rn d e => exact ⟨_, _, by unfold fnNew; rw [if_pos hl, h1], q⟩
  | rp d d2 e => cases q

/-! what is worked out -/
variable {Q : D → Prop} {a b : Int}
theorem wo_add (q : Q (.int (a + b))) : WO (gAdd (.int a) (.int b)) Q := ⟨_, rfl, q⟩
theorem wo_addL {xs ys : List D} (h : fits (xs.length + ys.length) = true) (q : Q (.list (xs ++ ys))) : WO (gAdd (.list xs) (.list ys)) Q := ⟨_, by unfold gAdd; dsimp only; rw [if_pos h], q⟩
theorem wo_addT {xs ys : List D} (h : fits (xs.length + ys.length) = true) (q : Q (.tuple (xs ++ ys))) : WO (gAdd (.tuple xs) (.tuple ys)) Q := ⟨_, by unfold gAdd; dsimp only; rw [if_pos h], q⟩
theorem wo_sub (q : Q (.int (a - b))) : WO (gSub (.int a) (.int b)) Q := ⟨_, rfl, q⟩
theorem wo_mul (h : mulOk a b = true) (q : Q (.int (a * b))) : WO (gMul (.int a) (.int b)) Q := ⟨_, by unfold gMul; dsimp only; rw [if_pos h], q⟩
theorem wo_div (h1 : 0 < b) (h2 : b < 10 ^ 250 * 10 ^ 250) (q : Q (.int (a / b))) : WO (gDiv (.int a) (.int b)) Q := ⟨_, by unfold gDiv divOk; dsimp only; rw [decide_eq_true h1, decide_eq_true h2]; (try rfl), q⟩
theorem wo_mod (h1 : 0 < b) (q : Q (.int (a % b))) : WO (gMod (.int a) (.int b)) Q := ⟨_, by unfold gMod; dsimp only; rw [decide_eq_true h1]; (try rfl), q⟩
theorem wo_neg (q : Q (.int (-a))) : WO (gNeg (.int a)) Q := ⟨_, rfl, q⟩
theorem wo_lt (q : Q (.bool (decide (a < b)))) : WO (gLt (.int a) (.int b)) Q := ⟨_, rfl, q⟩
theorem wo_le (q : Q (.bool (decide (a ≤ b)))) : WO (gLe (.int a) (.int b)) Q := ⟨_, rfl, q⟩
theorem wo_gt (q : Q (.bool (decide (b < a)))) : WO (gGt (.int a) (.int b)) Q := ⟨_, rfl, q⟩
theorem wo_ge (q : Q (.bool (decide (b ≤ a)))) : WO (gGe (.int a) (.int b)) Q := ⟨_, rfl, q⟩
theorem shp_int : shp (.int a) = true := rfl
theorem eqv_int : PyData.eqv (.int a) (.int b) = decide (a = b) := by unfold PyData.eqv; by_cases h : a = b <;> simp [h]
theorem wo_eq (q : Q (.bool (decide (a = b)))) : WO (gEq (.int a) (.int b)) Q := ⟨_, by unfold gEq; rw [shp_int, shp_int]; simp only [Bool.and_self, if_true]; rw [eqv_int], q⟩
theorem wo_ne (q : Q (.bool (!decide (a = b)))) : WO (gNe (.int a) (.int b)) Q := ⟨_, by unfold gNe; rw [shp_int, shp_int]; simp only [Bool.and_self, if_true]; rw [eqv_int], q⟩
theorem eqv_bool {a b : Bool} : PyData.eqv (.bool a) (.bool b) = (a == b) := by unfold PyData.eqv; rfl
theorem wo_eqB {a b : Bool} (q : Q (.bool (a == b))) : WO (gEq (.bool a) (.bool b)) Q := ⟨_, by unfold gEq; rw [show shp (.bool a) = true from rfl, show shp (.bool b) = true from rfl]; simp only [Bool.and_self, if_true]; rw [eqv_bool], q⟩
theorem wo_neB {a b : Bool} (q : Q (.bool (!(a == b)))) : WO (gNe (.bool a) (.bool b)) Q := ⟨_, by unfold gNe; rw [show shp (.bool a) = true from rfl, show shp (.bool b) = true from rfl]; simp only [Bool.and_self, if_true]; rw [eqv_bool], q⟩
theorem wo_neD (h1 : shp d = true) (h2 : shp e = true) (q : Q (.bool (!PyData.eqv d e))) : WO (gNe d e) Q := ⟨_, by unfold gNe; rw [h1, h2]; (try rfl), q⟩
theorem atI_ix {α : Type} {xs : List α} {k : Int} (h1 : 0 ≤ k) (h2 : k < xs.length) : atI xs k = some (xs[k.toNat]'(by omega)) := by
  unfold atI ixN
  rw [if_pos h1, if_pos h2]
  simp only [Option.bind_some]
  exact List.getElem?_eq_getElem _
theorem wo_idxL {ds : List D} {k : Int} (h1 : 0 ≤ k) (h2 : k < ds.length) (q : ∀ d, ds[k.toNat]? = some d → d ∈ ds → Q d) : WO (gIdx (.list ds) (.int k)) Q :=
  ⟨_, atI_ix h1 h2, q _ (List.getElem?_eq_getElem _) (List.getElem_mem _)⟩
theorem wo_idxE {x d : D} {k : Int} (h : gIdx d (.int k) = some x) (q : Q x) : WO (gIdx d (.int k)) Q := ⟨_, h, q⟩
theorem wo_lenL {ds : List D} (q : Q (.int (ds.length : Int))) : WO (gLen (.list ds)) Q := ⟨_, rfl, q⟩
theorem wo_lenT {ds : List D} (q : Q (.int (ds.length : Int))) : WO (gLen (.tuple ds)) Q := ⟨_, rfl, q⟩
theorem wo_abs (q : Q (.int (if a < 0 then -a else a))) : WO (gAbs (.int a)) Q := ⟨_, rfl, q⟩
theorem wo_intB {b : Bool} (q : Q (.int (if b then 1 else 0))) : WO (gInt (.bool b)) Q := ⟨_, rfl, q⟩
theorem wo_intI (q : Q (.int a)) : WO (gInt (.int a)) Q := ⟨_, rfl, q⟩
theorem wo_listL {ds : List D} {Q : List D → Prop} (q : Q ds) : WO (gList (.list ds)) Q := ⟨_, rfl, q⟩
theorem wo_listT {ds : List D} {Q : List D → Prop} (q : Q ds) : WO (gList (.tuple ds)) Q := ⟨_, rfl, q⟩
theorem wo_tupL {ds : List D} (q : Q (.tuple ds)) : WO (gTuple (.list ds)) Q := ⟨_, rfl, q⟩
theorem wo_tupT {ds : List D} (q : Q (.tuple ds)) : WO (gTuple (.tuple ds)) Q := ⟨_, rfl, q⟩
theorem wo_all {ns : List Bool} {ds : List D} (h : ds = ns.map .bool) (q : Q (.bool (ns.all id))) : WO (gAll (.list ds)) Q := ⟨_, by subst h; unfold gAll; dsimp only; rw [blsOf_map]; (try rfl), q⟩
theorem wo_max (q : Q (.int (if b > a then b else a))) : WO (gMax2 (.int a) (.int b)) Q := ⟨_, rfl, q⟩
theorem wo_min (q : Q (.int (if b < a then b else a))) : WO (gMin2 (.int a) (.int b)) Q := ⟨_, rfl, q⟩
theorem wo_app {ds : List D} {Q : List D × D → Prop} (h : fits (ds.length + 1) = true) (q : Q (ds ++ [d], .none)) : WO (mAppend ds d) Q := ⟨_, by unfold mAppend; rw [if_pos h], q⟩
theorem wo_ext {ds es : List D} {Q : List D × D → Prop} (h : fits (ds.length + es.length) = true) (q : Q (ds ++ es, .none)) : WO (mExtend ds (.list es)) Q := ⟨_, by unfold mExtend; dsimp only; rw [if_pos h], q⟩
theorem wo_isN (q : Q (.bool (isNone d))) : WO (gIsN d .none) Q := ⟨_, rfl, q⟩
theorem wo_ntN (q : Q (.bool (!isNone d))) : WO (gNtN d .none) Q := ⟨_, rfl, q⟩
theorem wo_isiE {T : Ty} {z : D} (h : gIsi T d = some z) (q : Q z) : WO (gIsi T d) Q := ⟨z, h, q⟩
theorem wo_allE {z : D} (h : gAll d = some z) (q : Q z) : WO (gAll d) Q := ⟨z, h, q⟩
theorem wo_anyE {z : D} (h : gAny d = some z) (q : Q z) : WO (gAny d) Q := ⟨z, h, q⟩
theorem wo_eqT (h : (shp d && shp e && PyData.eqv d e) = true) (q : Q (.bool true)) : WO (gEq d e) Q := by
  simp only [Bool.and_eq_true] at h
  exact ⟨_, by unfold gEq; rw [h.1.1, h.1.2, h.2]; rfl, q⟩
theorem wo_eqF (h : (shp d && shp e && !PyData.eqv d e) = true) (q : Q (.bool false)) : WO (gEq d e) Q := by
  simp only [Bool.and_eq_true, Bool.not_eq_true'] at h
  exact ⟨_, by unfold gEq; rw [h.1.1, h.1.2, h.2]; rfl, q⟩
theorem wo_neT (h : (shp d && shp e && !PyData.eqv d e) = true) (q : Q (.bool true)) : WO (gNe d e) Q := by
  simp only [Bool.and_eq_true, Bool.not_eq_true'] at h
  exact ⟨_, by unfold gNe; rw [h.1.1, h.1.2, h.2]; rfl, q⟩
theorem wo_neF (h : (shp d && shp e && PyData.eqv d e) = true) (q : Q (.bool false)) : WO (gNe d e) Q := by
  simp only [Bool.and_eq_true] at h
  exact ⟨_, by unfold gNe; rw [h.1.1, h.1.2, h.2]; rfl, q⟩
theorem wo_isiI (q : Q (.bool true)) : WO (gIsi .int (.int a)) Q := ⟨_, rfl, q⟩
theorem wo_isiB (q : Q (.bool false)) : WO (gIsi .bool (.int a)) Q := ⟨_, rfl, q⟩
theorem wo_ixE {n j : Nat} {k : Int} {Q : Nat → Prop} (h : ixN n k = some j) (q : Q j) : WO (ixN n k) Q := ⟨j, h, q⟩
theorem wo_ix {n : Nat} {k : Int} {Q : Nat → Prop} (h1 : 0 ≤ k) (h2 : k < n) (q : Q k.toNat) : WO (ixN n k) Q := ⟨_, by unfold ixN; rw [if_pos h1, if_pos h2], q⟩
theorem mul_ok1 (h : a.natAbs < 2 ^ 64) : mulOk a b = true := by unfold mulOk; rw [decide_eq_true h]; rfl
theorem mul_ok2 (h : b.natAbs < 2 ^ 64) : mulOk a b = true := by unfold mulOk; rw [decide_eq_true h]; simp
theorem mul_ok3 (h1 : a.natAbs < 10 ^ 250 * 10 ^ 250) (h2 : b.natAbs < 10 ^ 250 * 10 ^ 250) : mulOk a b = true := by unfold mulOk; rw [decide_eq_true h1, decide_eq_true h2]; simp
theorem fits_of {n : Nat} (h : n ≤ 16777216) : fits n = true := decide_eq_true h
end
theorem wo_p10_60 {Q : D → Prop} (q : Q (.int 1000000000000000000000000000000000000000000000000000000000000)) : WO (gPow (.int 10) (.int 60)) Q := ⟨_, rfl, q⟩
theorem wo_p10_18 {Q : D → Prop} (q : Q (.int 1000000000000000000)) : WO (gPow (.int 10) (.int 18)) Q := ⟨_, rfl, q⟩
theorem wo_p10_30 {Q : D → Prop} (q : Q (.int 1000000000000000000000000000000)) : WO (gPow (.int 10) (.int 30)) Q := ⟨_, rfl, q⟩
theorem wo_p2_24 {Q : D → Prop} (q : Q (.int 16777216)) : WO (gPow (.int 2) (.int 24)) Q := ⟨_, rfl, q⟩
theorem wo_p10_8 {Q : D → Prop} (q : Q (.int 100000000)) : WO (gPow (.int 10) (.int 8)) Q := ⟨_, rfl, q⟩
theorem wo_p10_19 {Q : D → Prop} (q : Q (.int 10000000000000000000)) : WO (gPow (.int 10) (.int 19)) Q := ⟨_, rfl, q⟩
theorem wo_p10_55 {Q : D → Prop} (q : Q (.int 10000000000000000000000000000000000000000000000000000000)) : WO (gPow (.int 10) (.int 55)) Q := ⟨_, rfl, q⟩
theorem wo_p10_59 {Q : D → Prop} (q : Q (.int 100000000000000000000000000000000000000000000000000000000000)) : WO (gPow (.int 10) (.int 59)) Q := ⟨_, rfl, q⟩
theorem wo_p3_30 {Q : D → Prop} (q : Q (.int 205891132094649)) : WO (gPow (.int 3) (.int 30)) Q := ⟨_, rfl, q⟩
theorem wo_p2_40 {Q : D → Prop} (q : Q (.int 1099511627776)) : WO (gPow (.int 2) (.int 40)) Q := ⟨_, rfl, q⟩
theorem wo_p10_54 {Q : D → Prop} (q : Q (.int 1000000000000000000000000000000000000000000000000000000)) : WO (gPow (.int 10) (.int 54)) Q := ⟨_, rfl, q⟩
theorem wo_p3_13 {Q : D → Prop} (q : Q (.int 1594323)) : WO (gPow (.int 3) (.int 13)) Q := ⟨_, rfl, q⟩
theorem wo_p2_20 {Q : D → Prop} (q : Q (.int 1048576)) : WO (gPow (.int 2) (.int 20)) Q := ⟨_, rfl, q⟩
theorem wo_p10_57 {Q : D → Prop} (q : Q (.int 1000000000000000000000000000000000000000000000000000000000)) : WO (gPow (.int 10) (.int 57)) Q := ⟨_, rfl, q⟩
theorem wo_p10_40 {Q : D → Prop} (q : Q (.int 10000000000000000000000000000000000000000)) : WO (gPow (.int 10) (.int 40)) Q := ⟨_, rfl, q⟩
theorem wo_p10_61 {Q : D → Prop} (q : Q (.int 10000000000000000000000000000000000000000000000000000000000000)) : WO (gPow (.int 10) (.int 61)) Q := ⟨_, rfl, q⟩
theorem wo_p10_50 {Q : D → Prop} (q : Q (.int 100000000000000000000000000000000000000000000000000)) : WO (gPow (.int 10) (.int 50)) Q := ⟨_, rfl, q⟩
end M

namespace M
open PySem PySem.Spec PyProof.Rows L2
theorem irange_length (lo : Int) (n : Nat) : (irange lo n).length = n := by unfold irange; rw [List.length_map, List.length_range]
theorem cut_take (xs : List D) (n : Nat) : M.cutD xs none (some (n : Int)) = xs.take n := by
  unfold M.cutD
  rw [HT.sIx_none, HT.sIx_nat, List.drop_zero, Nat.sub_zero]
  rcases Nat.le_total n xs.length with h | h
  · rw [Nat.min_eq_left h]
  · rw [Nat.min_eq_right h, List.take_of_length_le (Nat.le_refl _), List.take_of_length_le h]
theorem ints_get {cs : List Int} {k : Nat} {d : D} (h : (cs.map PyData.int)[k]? = some d) : ∃ c : Int, d = .int c := by
  rw [List.getElem?_map] at h
  cases e : cs[k]? with
  | none => rw [e] at h; cases h
  | some c => rw [e] at h; cases h; exact ⟨c, rfl⟩
theorem pick_w {xs : List Int} {ds : List D} {k lo hi : Int} {Q : D → Prop} (h0 : 0 ≤ k) (h1 : k < ds.length) (e : ds = xs.map .int) (hb : ∀ x ∈ xs, lo ≤ x ∧ x ≤ hi) (q : ∀ x : Int, lo ≤ x → x ≤ hi → x ∈ xs → Q (.int x)) : WO (gIdx (.list ds) (.int k)) Q := by
  subst e
  refine wo_idxL h0 h1 fun d _ hd => ?_
  obtain ⟨x, hx, rfl⟩ := List.mem_map.mp hd
  exact q x (hb x hx).1 (hb x hx).2 hx
/-! ### common parts -/
theorem canLay_ints : ∀ ns : List Int, PyData.canLayAll0 (ns.map .int) = true
  | [] => rfl
  | n :: ns => canLay_ints ns
theorem depth_ints : ∀ ns : List Int, PyData.depthAll (ns.map .int) = 0
  | [] => rfl
  | n :: ns => by
    show max 0 (PyData.depthAll (ns.map .int)) = 0
    rw [depth_ints ns]
    rfl
theorem shp_ints (ns : List Int) : shp (.list (ns.map .int)) = true := by
  unfold shp SeqAt.shaped
  have h1 : (PyData.list (ns.map PyData.int)).canLay0 = true := canLay_ints ns
  have h2 : (PyData.list (ns.map PyData.int)).depth = 1 := by
    show PyData.depthAll (ns.map .int) + 1 = 1
    rw [depth_ints]
  rw [h1, h2]
  rfl
structure IsG (a b g : Int) : Prop where
  pos : 0 ≤ g
  da : g ∣ a
  db : g ∣ b
  all : ∀ d : Int, d ∣ a → d ∣ b → d ∣ g
theorem IsG.uniq {a b g h : Int} (x : IsG a b g) (y : IsG a b h) : g = h := Int.dvd_antisymm x.pos y.pos (y.all g x.da x.db) (x.all h y.da y.db)
theorem IsG.symm {a b g : Int} (x : IsG a b g) : IsG b a g := ⟨x.pos, x.db, x.da, fun d h1 h2 => x.all d h2 h1⟩
theorem IsG.ne {a b g : Int} (x : IsG a b g) (h : 0 < b) : 0 < g := by
  rcases Int.lt_or_eq_of_le x.pos with h1 | h1
  · exact h1
  · have := x.db
    rw [← h1] at this
    have := Int.zero_dvd.mp this
    omega
/-- g is made of both, s and t times -/
structure Bz (a b g s t : Int) : Prop where
  G : IsG a b g
  eq : s * a + t * b = g
  sb : s.natAbs ≤ b.natAbs + 1
  tb : t.natAbs ≤ a.natAbs + 1
/-- the turn's state of the search for the greatest common part -/
structure Eu (a b r0 s0 t0 r1 s1 t1 : Int) : Prop where
  h0 : 0 ≤ r0
  h1 : 0 ≤ r1
  e0 : s0 * a + t0 * b = r0
  e1 : s1 * a + t1 * b = r1
  dv : ∀ d : Int, (d ∣ r0 ∧ d ∣ r1) ↔ (d ∣ a ∧ d ∣ b)
  sg : ∃ e p0 p1 u0 u1 : Int, (e = 1 ∨ e = -1) ∧ 0 ≤ p0 ∧ 0 ≤ p1 ∧ 0 ≤ u0 ∧ 0 ≤ u1 ∧ s0 = e * p0 ∧ s1 = -(e * p1) ∧ t0 = -(e * u0) ∧ t1 = e * u1 ∧ p0 * r1 + p1 * r0 = b ∧ u0 * r1 + u1 * r0 = a ∧ p0 ≤ b + 1 ∧ p1 ≤ b + 1 ∧ u0 ≤ a + 1 ∧ u1 ≤ a + 1
theorem Eu.start {a b : Int} (ha : 0 ≤ a) (hb : 0 ≤ b) : Eu a b a 1 0 b 0 1 :=
  ⟨ha, hb, by omega, by omega, fun d => Iff.rfl, 1, 1, 0, 0, 1, .inl rfl, by omega, by omega, by omega, by omega, by omega, by omega, by omega, by omega, by omega, by omega, by omega, by omega, by omega, by omega⟩
theorem Eu.step {a b r0 s0 t0 r1 s1 t1 : Int} (E : Eu a b r0 s0 t0 r1 s1 t1) (hr : r1 ≠ 0) : Eu a b r1 s1 t1 (r0 - r0 / r1 * r1) (s0 - r0 / r1 * s1) (t0 - r0 / r1 * t1) ∧ (r0 - r0 / r1 * r1).toNat < r1.toNat ∧ 0 ≤ r0 / r1 ∧ r0 / r1 ≤ r0 := by
  obtain ⟨h0, h1, e0, e1, dv, e, p0, p1, u0, u1, he, hp0, hp1, hu0, hu1, rfl, rfl, rfl, rfl, i1, i2, b1, b2, b3, b4⟩ := E
  have hr1 : 0 < r1 := by omega
  have q0 : 0 ≤ r0 / r1 := Int.ediv_nonneg h0 h1
  have q1 : r0 / r1 ≤ r0 := Int.ediv_le_self _ h0
  have m1 := Int.mul_ediv_add_emod r0 r1
  have m2 := Int.emod_nonneg r0 hr
  have m3 := Int.emod_lt_of_pos r0 hr1
  have m4 : r0 - r0 / r1 * r1 = r0 % r1 := by rw [Int.mul_comm]; omega
  generalize r0 / r1 = q at *
  have k1 : 0 ≤ q * p1 := Int.mul_nonneg q0 hp1
  have k2 : 0 ≤ q * u1 := Int.mul_nonneg q0 hu1
  have k3 : p1 * (r0 - q * r1) + (p0 + q * p1) * r1 = b := by grind
  have k4 : u1 * (r0 - q * r1) + (u0 + q * u1) * r1 = a := by grind
  have k5 : 0 ≤ p1 * (r0 - q * r1) := Int.mul_nonneg hp1 (by omega)
  have k6 : 0 ≤ u1 * (r0 - q * r1) := Int.mul_nonneg hu1 (by omega)
  have k7 : (p0 + q * p1) * 1 ≤ (p0 + q * p1) * r1 := Int.mul_le_mul_of_nonneg_left (by omega) (by omega)
  have k8 : (u0 + q * u1) * 1 ≤ (u0 + q * u1) * r1 := Int.mul_le_mul_of_nonneg_left (by omega) (by omega)
  refine ⟨⟨h1, by omega, e1, by grind, fun d => ?_, -e, p1, p0 + q * p1, u1, u0 + q * u1, by omega, hp1, by omega, hu1, by omega, by grind, by grind, by grind, by grind, k3, k4, by omega, by omega, by omega, by omega⟩, by omega, q0, q1⟩
  rw [← dv d]
  constructor
  · rintro ⟨d1, d2⟩
    refine ⟨?_, d1⟩
    have : r0 = (r0 - q * r1) + q * r1 := by omega
    rw [this]
    exact Int.dvd_add d2 (Int.dvd_mul_of_dvd_right d1)
  · rintro ⟨d1, d2⟩
    exact ⟨d2, Int.dvd_sub d1 (Int.dvd_mul_of_dvd_right d2)⟩
theorem Eu.fin {a b r0 s0 t0 s1 t1 : Int} (ha : 0 ≤ a) (hb : 0 ≤ b) (E : Eu a b r0 s0 t0 0 s1 t1) : Bz a b r0 s0 t0 := by
  obtain ⟨h0, h1, e0, e1, dv, e, p0, p1, u0, u1, he, hp0, hp1, hu0, hu1, rfl, rfl, rfl, rfl, i1, i2, b1, b2, b3, b4⟩ := E
  have := (dv r0).mp ⟨Int.dvd_refl _, Int.dvd_zero _⟩
  refine ⟨⟨h0, this.1, this.2, fun d d1 d2 => ((dv d).mpr ⟨d1, d2⟩).1⟩, e0, ?_, ?_⟩
  · rcases he with rfl | rfl <;> omega
  · rcases he with rfl | rfl <;> omega
theorem Eu.sz {a b r0 s0 t0 r1 s1 t1 : Int} (E : Eu a b r0 s0 t0 r1 s1 t1) : s1.natAbs ≤ b.natAbs + 1 ∧ t1.natAbs ≤ a.natAbs + 1 := by
  obtain ⟨h0, h1, e0, e1, dv, e, p0, p1, u0, u1, he, hp0, hp1, hu0, hu1, rfl, rfl, rfl, rfl, i1, i2, b1, b2, b3, b4⟩ := E
  constructor
  · rcases he with rfl | rfl <;> omega
  · rcases he with rfl | rfl <;> omega
/-! ### values that == can be asked of -/
def scal : D → Bool
  | .none => true
  | .bool _ => true
  | .int _ => true
  | .str x => (PyData.str x).canLay0
  | _ => false
theorem scal_int (x : Int) : scal (.int x) = true := rfl
theorem scal_lay : ∀ d : D, scal d = true → d.canLay0 = true ∧ d.depth = 0
  | .none, _ => ⟨rfl, rfl⟩
  | .bool _, _ => ⟨rfl, rfl⟩
  | .int _, _ => ⟨rfl, rfl⟩
  | .str _, h => ⟨h, rfl⟩
  | .list _, h => by cases h
  | .tuple _, h => by cases h
  | .dict _, h => by cases h
theorem scal_all : ∀ ds : List D, ds.all scal = true → PyData.canLayAll0 ds = true ∧ PyData.depthAll ds = 0
  | [], _ => ⟨rfl, rfl⟩
  | d :: ds, h => by
    rw [List.all_cons, Bool.and_eq_true] at h
    obtain ⟨h1, h2⟩ := scal_lay d h.1
    obtain ⟨h3, h4⟩ := scal_all ds h.2
    refine ⟨?_, ?_⟩
    · show (d.canLay0 && PyData.canLayAll0 ds) = true
      rw [h1, h3]; rfl
    · show max d.depth (PyData.depthAll ds) = 0
      rw [h2, h4]; rfl
theorem shp_tup {ds : List D} (h : ds.all scal = true) : shp (.tuple ds) = true := by
  obtain ⟨h1, h2⟩ := scal_all ds h
  unfold shp SeqAt.shaped
  rw [show (PyData.tuple ds).canLay0 = true from h1, show (PyData.tuple ds).depth = 1 from by show PyData.depthAll ds + 1 = 1; rw [h2]]
  rfl
/-! ### stretches joined -/
def Jd (f1 s1 f2 s2 : Int) (d : D) : Prop := ∃ g : Int, IsG s1 s2 g ∧ 0 < g ∧ (((f2 - f1) % g ≠ 0 ∧ d = .tuple [.str "none", .int g]) ∨ ((f2 - f1) % g = 0 ∧ ∃ x : Int, 0 ≤ x ∧ x < s1 / g * s2 ∧ x % s1 = f1 ∧ x % s2 = f2 ∧ d = .tuple [.str "all", .int x, .int (s1 / g * s2)]))
theorem emod_of_sub {x y s : Int} (h : s ∣ x - y) (h0 : 0 ≤ y) (h1 : y < s) : x % s = y := by
  have := Int.emod_emod_of_dvd x (Int.dvd_refl s)
  rw [← Int.emod_eq_of_lt h0 h1]
  exact Int.emod_eq_emod_iff_emod_sub_eq_zero.mpr (Int.emod_eq_zero_of_dvd h)
theorem sub_of_emod {x y s : Int} (h : x % s = y % s) : s ∣ x - y := Int.dvd_of_emod_eq_zero (Int.emod_eq_emod_iff_emod_sub_eq_zero.mp h)
theorem lcm_dvd {s1 s2 g a b x : Int} (B : Bz s1 s2 g a b) (hg : 0 < g) (h1 : s1 ∣ x) (h2 : s2 ∣ x) : s1 / g * s2 ∣ x := by
  obtain ⟨p, hp⟩ := B.G.da
  obtain ⟨q, hq⟩ := B.G.db
  obtain ⟨c, rfl⟩ := h1
  obtain ⟨d, hd⟩ := h2
  have e1 : s1 / g = p := by rw [hp, Int.mul_ediv_cancel_left _ (by omega)]
  rw [e1]
  have eq := B.eq
  refine ⟨a * d + b * c * 1, ?_⟩
  have : g * (s1 * c) = g * (p * s2 * (a * d + b * c * 1)) := by grind
  exact Int.eq_of_mul_eq_mul_left (show g ≠ 0 by omega) this
theorem zero_of_dvd {x w : Int} (h : w ∣ x) (h1 : -w < x) (h2 : x < w) : x = 0 := by
  obtain ⟨k, rfl⟩ := h
  rcases Int.lt_trichotomy k 0 with h | h | h
  · have := Int.mul_le_mul_of_nonneg_left (show k ≤ -1 by omega) (show 0 ≤ w by omega)
    omega
  · rw [h, Int.mul_zero]
  · have := Int.mul_le_mul_of_nonneg_left (show 1 ≤ k by omega) (show 0 ≤ w by omega)
    omega
theorem IsG.bz {a b g : Int} (G : IsG a b g) (hb : 0 ≤ b) (ha : 0 ≤ a) : ∃ s t : Int, Bz a b g s t := by
  -- by the search itself
  have : ∀ n : Nat, ∀ r0 s0 t0 r1 s1 t1 : Int, r1.toNat < n → Eu a b r0 s0 t0 r1 s1 t1 → ∃ r s t : Int, Bz a b r s t := by
    intro n
    induction n with
    | zero => intro _ _ _ _ _ _ h; omega
    | succ n ih =>
      intro r0 s0 t0 r1 s1 t1 h E
      by_cases hr : r1 = 0
      · subst hr
        exact ⟨_, _, _, E.fin ha hb⟩
      · obtain ⟨E2, lt, _, _⟩ := E.step hr
        exact ih _ _ _ _ _ _ (by omega) E2
  obtain ⟨r, s, t, B⟩ := this (b.toNat + 1) a 1 0 b 0 1 (by omega) (Eu.start ha hb)
  have := B.G.uniq G
  subst this
  exact ⟨s, t, B⟩
theorem crt_uniq {s1 s2 g x y : Int} (G : IsG s1 s2 g) (hg : 0 < g) (h1 : 0 ≤ s1) (h2 : 0 ≤ s2) (x0 : 0 ≤ x) (x1 : x < s1 / g * s2) (y0 : 0 ≤ y) (y1 : y < s1 / g * s2) (e1 : x % s1 = y % s1) (e2 : x % s2 = y % s2) : x = y := by
  obtain ⟨s, t, B⟩ := G.bz h2 h1
  have := zero_of_dvd (lcm_dvd B hg (sub_of_emod e1) (sub_of_emod e2)) (by omega) (by omega)
  omega
theorem lcm_comm {s1 s2 g : Int} (G : IsG s1 s2 g) (hg : 0 < g) : s1 / g * s2 = s2 / g * s1 := by
  obtain ⟨p, hp⟩ := G.da
  obtain ⟨q, hq⟩ := G.db
  have e1 : s1 / g = p := by rw [hp, Int.mul_ediv_cancel_left _ (by omega)]
  have e2 : s2 / g = q := by rw [hq, Int.mul_ediv_cancel_left _ (by omega)]
  rw [e1, e2, hp, hq]
  grind
theorem Jd.uniq {f1 s1 f2 s2 : Int} {d e : D} (h1 : 0 < s1) (h2 : 0 < s2) (x : Jd f1 s1 f2 s2 d) (y : Jd f1 s1 f2 s2 e) : d = e := by
  obtain ⟨g, G, hg, x⟩ := x
  obtain ⟨g', G', _, y⟩ := y
  have := G.uniq G'
  subst this
  rcases x with ⟨n, rfl⟩ | ⟨n, x, x0, x1, x2, x3, rfl⟩
  · rcases y with ⟨_, rfl⟩ | ⟨m, _⟩
    · rfl
    · exact absurd m n
  · rcases y with ⟨m, _⟩ | ⟨m, y, y0, y1, y2, y3, rfl⟩
    · exact absurd n m
    · rw [crt_uniq G hg (by omega) (by omega) x0 x1 y0 y1 (x2.trans y2.symm) (x3.trans y3.symm)]
/-! ### weights -/
theorem filter_yes (ds : List D) : ds.filter (fun _ => true) = ds := List.filter_eq_self.mpr fun _ _ => rfl
def dot : List Int → List Int → Int
  | w :: ws, n :: ns => w * n + dot ws ns
  | _, _ => 0
theorem dot_app : ∀ (ws ns : List Int) (w n : Int), ws.length = ns.length → dot (ws ++ [w]) (ns ++ [n]) = dot ws ns + w * n
  | [], [], w, n, _ => by simp [dot]
  | [], _ :: _, _, _, h => by simp at h
  | _ :: _, [], _, _, h => by simp at h
  | v :: ws, m :: ns, w, n, h => by
    have := dot_app ws ns w n (by simpa using h)
    show v * m + dot (ws ++ [w]) (ns ++ [n]) = v * m + dot ws ns + w * n
    omega
theorem dot_mod (m s : Int) : ∀ (ws ns : List Int), m ∣ dot (ws.map fun w => w * s % m) ns - s * dot ws ns
  | [], [] => ⟨0, by simp [dot]⟩
  | [], _ :: _ => ⟨0, by simp [dot]⟩
  | _ :: _, [] => ⟨0, by simp [dot]⟩
  | w :: ws, n :: ns => by
    obtain ⟨c, hc⟩ := dot_mod m s ws ns
    have e := Int.mul_ediv_add_emod (w * s) m
    refine ⟨c - w * s / m * n, ?_⟩
    show w * s % m * n + dot (ws.map fun w => w * s % m) ns - s * (w * n + dot ws ns) = _
    generalize w * s / m = q at *
    generalize w * s % m = r at *
    grind
structure We (m : Int) (ns : List Int) (g : Int) (ws : List Int) : Prop where
  pos : 0 < g
  dm : g ∣ m
  dn : ∀ n ∈ ns, g ∣ n
  all : ∀ d : Int, d ∣ m → (∀ n ∈ ns, d ∣ n) → d ∣ g
  len : ws.length = ns.length
  dot : m ∣ dot ws ns - g
  rng : ∀ w ∈ ws, 0 ≤ w ∧ w < m
theorem We.start {m : Int} (hm : 0 < m) : We m [] m [] := ⟨hm, Int.dvd_refl _, fun n h => (by cases h), fun d h _ => h, rfl, ⟨-1, by simp [M.dot]⟩, fun w h => (by cases h)⟩
theorem We.step {m g n g' s t : Int} {ns ws : List Int} (hm : 0 < m) (W : We m ns g ws) (B : Bz g (n % m) g' s t) : We m (ns ++ [n]) g' ((ws.map fun w => w * s % m) ++ [t % m]) := by
  have hgm := Int.dvd_trans B.G.da W.dm
  have en : n = n % m + m * (n / m) := by have := Int.mul_ediv_add_emod n m; omega
  refine ⟨?_, hgm, fun x hx => ?_, fun d d1 d2 => ?_, ?_, ?_, fun w hw => ?_⟩
  · rcases Int.lt_or_eq_of_le B.G.pos with h | h
    · exact h
    · rw [← h] at hgm
      have := Int.zero_dvd.mp hgm
      omega
  · rcases List.mem_append.mp hx with hx | hx
    · exact Int.dvd_trans B.G.da (W.dn x hx)
    · rw [List.mem_singleton] at hx
      subst hx
      rw [en]
      exact Int.dvd_add B.G.db (Int.dvd_mul_of_dvd_left hgm)
  · refine B.G.all d (W.all d d1 fun x hx => d2 x (List.mem_append_left _ hx)) ?_
    have : n % m = n - m * (n / m) := by omega
    rw [this]
    exact Int.dvd_sub (d2 n (by simp)) (Int.dvd_mul_of_dvd_left d1)
  · simp [W.len]
  · rw [dot_app _ _ _ _ (by simp [W.len])]
    obtain ⟨a, ha⟩ := dot_mod m s ws ns
    obtain ⟨b, hb⟩ := W.dot
    have et := Int.mul_ediv_add_emod t m
    have eq := B.eq
    refine ⟨a + s * b - t / m * n + t * (n / m), ?_⟩
    generalize M.dot (ws.map fun w => w * s % m) ns = X at *
    generalize M.dot ws ns = Y at *
    generalize n / m = p at *
    generalize n % m = q at *
    generalize t / m = u at *
    generalize t % m = v at *
    grind
  · rcases List.mem_append.mp hw with hw | hw
    · obtain ⟨v, _, rfl⟩ := List.mem_map.mp hw
      exact ⟨Int.emod_nonneg _ (by omega), Int.emod_lt_of_pos _ hm⟩
    · rw [List.mem_singleton] at hw
      subst hw
      exact ⟨Int.emod_nonneg _ (by omega), Int.emod_lt_of_pos _ hm⟩
theorem We.one {m f g : Int} {ws : List Int} (W : We m [f] g ws) : IsG m f g := ⟨by have := W.pos; omega, W.dm, W.dn f (by simp), fun d d1 d2 => W.all d d1 fun n hn => by rw [List.mem_singleton] at hn; subst hn; exact d2⟩
theorem wo_allM {ds : List D} {p : D → Bool} {Q : D → Prop} (q : Q (.bool (ds.all p))) : WO (gAll (.list (ds.map fun d => .bool (p d)))) Q := by
  refine wo_all (ns := ds.map p) (by rw [List.map_map]; rfl) ?_
  rw [List.all_map]
  exact q
/-! ### many stretches -/
theorem Jd.all {f1 s1 f2 s2 : Int} {d : D} (h0 : 0 ≤ f1) (h1 : f1 < s1) (h2 : 0 ≤ f2) (h3 : f2 < s2) (J : Jd f1 s1 f2 s2 d) :
    (∃ g : Int, d = .tuple [.str "none", .int g] ∧ ∀ y : Int, ¬ (y % s1 = f1 ∧ y % s2 = f2)) ∨ ∃ x w : Int, d = .tuple [.str "all", .int x, .int w] ∧ 0 ≤ x ∧ x < w ∧ w ≤ s1 * s2 ∧ ∀ y : Int, (y % s1 = f1 ∧ y % s2 = f2) ↔ y % w = x := by
  obtain ⟨g, G, hg, ⟨hn, rfl⟩ | ⟨hn, x, x0, x1, x2, x3, rfl⟩⟩ := J
  · refine .inl ⟨g, rfl, fun y ⟨e1, e2⟩ => hn ?_⟩
    have a1 : s1 ∣ y - f1 := sub_of_emod (by rw [e1, Int.emod_eq_of_lt h0 h1])
    have a2 : s2 ∣ y - f2 := sub_of_emod (by rw [e2, Int.emod_eq_of_lt h2 h3])
    have := Int.dvd_sub (Int.dvd_trans G.da a1) (Int.dvd_trans G.db a2)
    rw [show y - f1 - (y - f2) = f2 - f1 by omega] at this
    exact Int.emod_eq_zero_of_dvd this
  · obtain ⟨s, t, B⟩ := G.bz (show 0 ≤ s2 by omega) (show 0 ≤ s1 by omega)
    have hd : s1 / g ≤ s1 := Int.ediv_le_self _ (by omega)
    refine .inr ⟨x, s1 / g * s2, rfl, x0, x1, Int.mul_le_mul_of_nonneg_right hd (by omega), fun y => ⟨fun ⟨e1, e2⟩ => ?_, fun e => ?_⟩⟩
    · exact emod_of_sub (lcm_dvd B hg (sub_of_emod (e1.trans x2.symm)) (sub_of_emod (e2.trans x3.symm))) x0 x1
    · have hw : s1 / g * s2 ∣ y - x := sub_of_emod (by rw [e, Int.emod_eq_of_lt x0 x1])
      have w2 : s2 ∣ s1 / g * s2 := Int.dvd_mul_left _ _
      have w1 : s1 ∣ s1 / g * s2 := by rw [lcm_comm G hg]; exact Int.dvd_mul_left _ _
      refine ⟨?_, ?_⟩
      · rw [← x2]
        exact Int.emod_eq_emod_iff_emod_sub_eq_zero.mpr (Int.emod_eq_zero_of_dvd (Int.dvd_trans w1 hw))
      · rw [← x3]
        exact Int.emod_eq_emod_iff_emod_sub_eq_zero.mpr (Int.emod_eq_zero_of_dvd (Int.dvd_trans w2 hw))
abbrev St2 := Int × Int
def Alls (ss : List St2) (x : Int) : Prop := ∀ p ∈ ss, x % p.2 = p.1
def stD (p : St2) : D := .tuple [.int p.1, .int p.2]
def Told (ss : List St2) (d : D) : Prop := (d = .none ∧ ∀ x, ¬ Alls ss x) ∨ ∃ p : St2, d = stD p ∧ 0 ≤ p.1 ∧ p.1 < p.2 ∧ ∀ x, Alls ss x ↔ x % p.2 = p.1
theorem Told.uniq {ss tt : List St2} {d e : D} (h : ∀ x, Alls ss x ↔ Alls tt x) (x : Told ss d) (y : Told tt e) : d = e := by
  rcases x with ⟨rfl, x⟩ | ⟨⟨f, w⟩, rfl, x0, x1, x⟩
  · rcases y with ⟨rfl, _⟩ | ⟨⟨f, w⟩, rfl, y0, y1, y⟩
    · rfl
    · exact absurd ((h f).mpr ((y f).mpr (Int.emod_eq_of_lt y0 y1))) (x f)
  · rcases y with ⟨rfl, y⟩ | ⟨⟨f', w'⟩, rfl, y0, y1, y⟩
    · exact absurd ((h f).mp ((x f).mpr (Int.emod_eq_of_lt x0 x1))) (y f)
    · dsimp only at x x0 x1 y y0 y1
      have key : ∀ z : Int, z % w = f ↔ z % w' = f' := fun z => (x z).symm.trans ((h z).trans (y z))
      have a1 : (f + w) % w' = f' := (key _).mp (by rw [Int.add_emod_right]; exact Int.emod_eq_of_lt x0 x1)
      have a2 : f % w' = f' := (key _).mp (Int.emod_eq_of_lt x0 x1)
      have b1 : (f' + w') % w = f := (key _).mpr (by rw [Int.add_emod_right]; exact Int.emod_eq_of_lt y0 y1)
      have b2 : f' % w = f := (key _).mpr (Int.emod_eq_of_lt y0 y1)
      have d1 : w' ∣ w := by have := sub_of_emod (a1.trans a2.symm); rwa [show f + w - f = w by omega] at this
      have d2 : w ∣ w' := by have := sub_of_emod (b1.trans b2.symm); rwa [show f' + w' - f' = w' by omega] at this
      have := Int.dvd_antisymm (by omega) (by omega) d1 d2
      subst this
      rw [Int.emod_eq_of_lt x0 x1] at a2
      rw [a2]
theorem Told.shp {ss : List St2} {d : D} (h : Told ss d) : M.shp d = true := by
  rcases h with ⟨rfl, _⟩ | ⟨p, rfl, _⟩
  · rfl
  · exact shp_tup (by simp only [List.all_cons, List.all_nil, scal_int, Bool.and_true])
theorem Alls.cons {p : St2} {ss : List St2} {x : Int} : Alls (p :: ss) x ↔ x % p.2 = p.1 ∧ Alls ss x := by
  unfold Alls
  simp
theorem Alls.app {q : St2} {ss : List St2} {x : Int} : Alls (ss ++ [q]) x ↔ Alls ss x ∧ x % q.2 = q.1 := by
  unfold Alls
  constructor
  · exact fun h => ⟨fun p hp => h p (by simp [hp]), h q (by simp)⟩
  · rintro ⟨h1, h2⟩ p hp
    rcases List.mem_append.mp hp with hp | hp
    · exact h1 p hp
    · rw [List.mem_singleton] at hp; subst hp; exact h2
end M

namespace M
open PySem PySem.Spec PyProof.Rows L2
section
variable {X : Cx}
theorem Da.zip {F : Hp} : ∀ {xs : List V} {ds : List D}, Da F xs ds → ∀ q ∈ xs.zip ds, Dt F q.1 q.2
  | [], [], _, q, hq => by simp at hq
  | [], _ :: _, h, _, _ => by cases h
  | _ :: _, [], h, _, _ => by cases h
  | _ :: _, _ :: _, h, q, hq => by
    cases h with
    | cons h1 t =>
      rw [List.zip_cons_cons] at hq
      rcases List.mem_cons.mp hq with rfl | hq
      · exact h1
      · exact Da.zip t q hq
/-! ### list of a text, of a range; tuple of a range -/
def lRg1 (f : Ef) : Lf := fun env => (f env).bind fun r => match r.1 with
  | .int n => if smallI n && fits n.toNat then some (irange 0 n.toNat, r.2) else none
  | _ => none
def eTupRg (f : Ef) : Ef := fun env => (lRg1 f env).map fun r => (.tuple r.1, r.2)
/-! ### xs + ys, xs * k as new lists -/
/-- xs a name: its list may be the def's own -/
def asList : Sl → Option (List D)
  | .own _ xs => some xs
  | .val (.list xs) => some xs
  | _ => none
def listD : D → Option (List D)
  | .list xs => some xs
  | _ => none
def lAddV (i : Nat) (fb : Ef) : Lf := fun env => (eO i env).bind fun _ => (fb env).bind fun q => (listD q.1).bind fun ys => ((q.2[i]?).bind asList).bind fun xs => if fits (xs.length + ys.length) then some (xs ++ ys, q.2) else none
/-- both are values -/
def lAddE (fa fb : Ef) : Lf := fun env => (fa env).bind fun r => (fb r.2).bind fun q => match r.1, q.1 with
  | .list xs, .list ys => if fits (xs.length + ys.length) then some (xs ++ ys, q.2) else none
  | _, _ => none
section
variable {env : En} {fa fb : Ef} {i : Nat}
theorem wl_addO {Q : List D → En → Prop} {b : Bool} {ds0 : List D} (h0 : env[i]? = some (.own b ds0)) (h : WE fb env fun y e' => IsL y fun ys => Own e'[i]? fun _ xs => Fit (xs.length + ys.length) (Q (xs ++ ys) e')) : WL (lAddV i fb) env Q := by
  obtain ⟨y, e', h1, h⟩ := h
  cases y with
  | list ys =>
    obtain ⟨b, xs, h2, h3, q⟩ := h
    exact ⟨_, e', by unfold lAddV; simp [eO, h0, h1, h2, h3, listD, asList], q⟩
  | _ => cases h
theorem wl_addE {Q : List D → En → Prop} (h : WE fa env fun x e => WE fb e fun y e' => IsL x fun xs => IsL y fun ys => Fit (xs.length + ys.length) (Q (xs ++ ys) e')) : WL (lAddE fa fb) env Q := by
  obtain ⟨x, e, h1, y, e', h2, h⟩ := h
  cases x with
  | list xs =>
    cases y with
    | list ys =>
      obtain ⟨h3, q⟩ := h
      exact ⟨_, e', by unfold lAddE; simp [h1, h2, h3], q⟩
    | _ => cases h
  | _ => cases h
theorem wl_rg1 {Q : List D → En → Prop} (h : WE fa env fun x e => IsI x fun n => Sml n (Fit n.toNat (Q (irange 0 n.toNat) e))) : WL (lRg1 fa) env Q := by
  obtain ⟨x, e, h1, h⟩ := h
  cases x with
  | int n =>
    obtain ⟨h2, h3, q⟩ := h
    exact ⟨_, e, by unfold lRg1; simp [h1, h2, h3], q⟩
  | _ => cases h
theorem we_tupRg {Q : D → En → Prop} (h : WL (lRg1 fa) env fun ds e => Q (.tuple ds) e) : WE (eTupRg fa) env Q := by
  obtain ⟨ds, e, h1, q⟩ := h
  exact ⟨_, e, by unfold eTupRg; rw [h1]; rfl, q⟩
end
end
end M

namespace M
open PySem PySem.Spec PyProof.Rows L2
/-! ### own lists looked at as values, for as long as an expression runs whose answer is flat -/
def unown : Sl → Sl
  | .own _ ds => .val (.list ds)
  | .dct _ _ => .no
  | x => x
theorem unown_own {b : Bool} {ds : List D} : unown (.own b ds) = .val (.list ds) := rfl
theorem unown_val {d : D} : unown (.val d) = .val d := rfl
theorem unown_no : unown .no = .no := rfl
theorem unown_ro {ds : List D} : unown (.ro ds) = .ro ds := rfl
theorem unown_dct {w : World} {kvs : List (D × D)} : unown (.dct w kvs) = .no := rfl
def unowns : En → En
  | [] => []
  | x :: xs => unown x :: unowns xs
theorem unowns_nil : unowns [] = [] := rfl
theorem unowns_cons {x : Sl} {xs : En} : unowns (x :: xs) = unown x :: unowns xs := rfl
def eBor (f : Ef) : Ef := fun env => (f (unowns env)).bind fun r => if flatD r.1 then some (r.1, env) else none
def bBor (f : Bf) : Bf := fun env => (f (unowns env)).map fun r => (r.1, env)
section
variable {K : Frg} {G : Gm} {F F' : Hp} {env env' : En} {s : L2.St} {H H' : Hp}
end
section
variable {X : Cx} {e : Expr} {f : Ef} {c : Bf} {env : En}
theorem we_bor {Q : D → En → Prop} (h : Nrm (unowns env) fun e => WE f e fun d _ => flatD d = true ∧ Q d env) : WE (eBor f) env Q := by
  obtain ⟨d, e, h1, h2, q⟩ := h
  exact ⟨d, env, by unfold eBor; rw [h1]; simp [h2], q⟩
theorem wb_bor {Q : Bool → En → Prop} (h : Nrm (unowns env) fun e => WB c e fun b _ => Q b env) : WB (bBor c) env Q := by
  obtain ⟨b, e, h1, q⟩ := h
  exact ⟨b, env, by unfold bBor; rw [h1]; rfl, q⟩
end
/-! ### is, of truths -/
def gIsB : D → D → Option D
  | .bool a, .bool b => some (.bool (decide (a = b)))
  | _, _ => none
def gNtB : D → D → Option D
  | .bool a, .bool b => some (.bool (!decide (a = b)))
  | _, _ => none
theorem wo_isB {a b : Bool} {Q : D → Prop} (q : Q (.bool (decide (a = b)))) : WO (gIsB (.bool a) (.bool b)) Q := ⟨_, rfl, q⟩
theorem wo_ntB {a b : Bool} {Q : D → Prop} (q : Q (.bool (!decide (a = b)))) : WO (gNtB (.bool a) (.bool b)) Q := ⟨_, rfl, q⟩
end M

namespace M
open PySem PySem.Spec PyProof.Rows L2
section
variable {X : Cx}
end
/-! ### a new list made while own lists are looked at -/
mutual
def lfree : D → Bool
  | .none => true
  | .bool _ => true
  | .int _ => true
  | .str _ => true
  | .tuple ds => lfreeA ds
  | _ => false
def lfreeA : List D → Bool
  | [] => true
  | d :: ds => lfree d && lfreeA ds
end
def lBor (f : Lf) : Lf := fun env => (f (unowns env)).bind fun r => if lfreeA r.1 then some (r.1, env) else none
theorem wl_bor {f : Lf} {env : En} {Q : List D → En → Prop} (h : Nrm (unowns env) fun e => WL f e fun ds _ => lfreeA ds = true ∧ Q ds env) : WL (lBor f) env Q := by
  obtain ⟨ds, e, h1, h2, q⟩ := h
  exact ⟨ds, env, by unfold lBor; rw [h1]; simp [h2], q⟩
end M

namespace M
open PySem PySem.Spec PyProof.Rows L2
/-! ### zip of a list and a tuple -/
def ItzM (K : Frg) (a b : Addr) : It :=
  ⟨fun i H => ∃ (xs ys : List V) (x y : V), SqL K H a xs ∧ SqT K H b ys ∧ xs[i]? = some x ∧ ys[i]? = some y,
    fun i H v H' => ∃ T x y, v = .ref T ∧ H T = none ∧ H' = upd H T (.tup [x, y]) ∧ (∀ xs, SqL K H a xs → xs[i]? = some x) ∧ ∀ ys, SqT K H b ys → ys[i]? = some y,
    fun i H => ∃ xs ys : List V, SqL K H a xs ∧ SqT K H b ys ∧ (xs.length = i ∨ ys.length = i) ∧ i ≤ xs.length ∧ i ≤ ys.length⟩
theorem sep_of {z TI TO i1 i2 a b : Addr} (D : ZipApart z TI TO i1 i2 a b) : ZipSep2 z TI TO i1 i2 [i1, a] [i2, b] where
  TIz := D.TIz
  TOz := D.TOz
  TITO := D.TITO
  TIi1 := D.TIi1
  mem1 := by simp
  zf1 := by simp [D.i1z.symm, D.l1z.symm]
  Tf1 := by simp [D.TOi1, D.l1TO.symm]
  TIi2 := D.TIi2
  mem2 := by simp
  zf2 := by simp [D.i2z.symm, D.l2z.symm]
  Tf2 := by simp [D.TOi2, D.l2TO.symm]
  sep1_2 := by simp [D.i12, D.l2i1.symm]
  sep2_1 := by simp [D.i12.symm, D.l1i2.symm]
theorem turn_zipM {P : Program} {w : World} {K : Frg} {elts : List Expr} {kk : Nat} {tpos : Pos} {a b z TI TO i1 i2 : Addr} (D : ZipApart z TI TO i1 i2 a b) :
    Turn P w K (.Tuple elts kk tpos) (ItzM K a b) [z, TI, TO, i1, i2] z (fun i h => IsZip h z TI TO .none ∧ IsTupOf2 h TI (.ref i1) (.ref i2) ∧ (∃ x y, IsTupOf2 h TO x y) ∧ h.IsListIter i1 a i ∧ h.IsTupleIter i2 b i) where
  mem := by simp
  obj := fun i h st c hc => by
    obtain ⟨hz, hTI, ⟨x, y, hTO⟩, ⟨o1, e1, _, d1⟩, ⟨o2, e2, _, d2⟩⟩ := st
    have e' : c = z ∨ c = TI ∨ c = TO ∨ c = i1 ∨ c = i2 := by simpa using hc
    rcases e' with q | q | q | q | q
    · rw [q]; exact ⟨_, hz, fun v q => nomatch q⟩
    · rw [q]; exact ⟨_, hTI, fun v q => nomatch q⟩
    · rw [q]; exact ⟨_, hTO, fun v q => nomatch q⟩
    · rw [q]; exact ⟨o1, e1, fun v q => by rw [d1] at q; cases q⟩
    · rw [q]; exact ⟨o2, e2, fun v q => by rw [d2] at q; cases q⟩
  keep := fun i h h' st k => by
    obtain ⟨hz, hTI, ⟨x, y, hTO⟩, h1, h2⟩ := st
    exact ⟨k z (by simp) _ hz, k TI (by simp) _ hTI, ⟨x, y, k TO (by simp) _ hTO⟩, h1.at fun o q => k i1 (by simp) o q, h2.at fun o q => k i2 (by simp) o q⟩
  item := by
    intro X hP hw hK hc i pins s σ H E I hf st hg
    subst hP hw hK
    obtain ⟨hz, hTI, ⟨x0, y0, hTO⟩, h1, h2⟩ := st
    obtain ⟨xs, ys, x, y, hqx, hqy, hx, hy⟩ := hg
    obtain ⟨its, rv, p, _⟩ := I.list hqx
    obtain ⟨its2, rv2, p2, _⟩ := I.tuple hqy
    obtain ⟨u, hu, ru⟩ := rv.get hx
    obtain ⟨u2, hu2, ru2⟩ := rv2.get hy
    have hzl : z < s.heap.objs.size := Heap.lt_size hz
    have hh : X.A.in1.handled = none := I.ok.hd hc
    refine wpAny_pyNext_zipD2_item (sep_of D) (Draws.list hh i1 a D.l1i1 its.toArray) (Draws.tuple hh i2 b D.l2i2 its2.toArray) hz hTI hTO ⟨h1, p.isList⟩ ⟨h2, p2⟩
      (by rw [List.size_toArray]; exact (List.getElem?_eq_some_iff.mp hu).1) (by rw [List.size_toArray]; exact (List.getElem?_eq_some_iff.mp hu2).1) fun v1 v2 h' tk e1 e2 z' TO' st1 st2 hT hsz hk => ?_
    have e1 : its[i]? = some v1 := by simpa using e1
    have e2 : its2[i]? = some v2 := by simpa using e2
    rw [hu] at e1
    rw [hu2] at e2
    cases e1
    cases e2
    refine ⟨_, rfl, wpAny_letOwnedTupleGo_zip (s := { s with heap := h', toks := tk }) z' fun h'' z'' sb => ?_⟩
    have hT2 : h''.get? s.heap.objs.size = some { cls := .type "tuple", data := .seq #[u, u2] } := (sb.2 _ (Nat.ne_of_gt hzl)).trans hT
    have new : ObjOk X.prog X.w (upd H s.heap.objs.size (.tup [x, y])) h'' s.heap.objs.size (.tup [x, y]) :=
      ⟨by show 2 ≤ sizeLine; decide, [u, u2], .cons ru (.cons ru2 .nil), ⟨_, hT2, rfl, _, rfl⟩⟩
    have I1 : Inv X pins σ (upd H s.heap.objs.size (.tup [x, y])) { s with heap := h'', toks := tk } :=
      I.turnedNew (t' := tk) (ch := [z, TI, TO, i1, i2]) (fun c o hb q => (sb.2 c (fun q' => hb (by simp [q']))).trans (hk c o (fun q' => hb (by simp [q'])) (fun q' => hb (by simp [q'])) (fun q' => hb (by simp [q'])) (fun q' => hb (by simp [q'])) q)) hf (Nat.le_refl _) new
    refine ⟨.ref s.heap.objs.size, _, I1, rfl, ⟨_, x, y, rfl, I.hok.fresh (Nat.le_refl _), rfl, fun l hl => by rw [I.list_inj hl hqx]; exact hx, fun l hl => by rw [I.tuple_inj hl hqy]; exact hy⟩, ⟨z'', ?_, ⟨u, u2, ?_⟩, ?_, ?_⟩, fun c hcm => ?_⟩
    · exact (sb.2 _ D.TIz).trans (hk _ _ D.TIz D.TITO D.TIi1 D.TIi2 hTI)
    · exact (sb.2 _ D.TOz).trans TO'
    · exact st1.1.at fun o q => (sb.2 _ D.i1z).trans q
    · exact st2.1.at fun o q => (sb.2 _ D.i2z).trans q
    · have hlt : c < s.heap.objs.size := by
        have e' : c = z ∨ c = TI ∨ c = TO ∨ c = i1 ∨ c = i2 := by simpa using hcm
        rcases e' with q | q | q | q | q
        · rw [q]; exact hzl
        · rw [q]; exact Heap.lt_size hTI
        · rw [q]; exact Heap.lt_size hTO
        · rw [q]; obtain ⟨_, e1, _⟩ := h1; exact Heap.lt_size e1
        · rw [q]; obtain ⟨_, e2, _⟩ := h2; exact Heap.lt_size e2
      rw [upd_ne (Nat.ne_of_lt hlt)]
      exact (hf c hcm).1
  done := by
    intro X hP hw hK hc i pins s σ H E I hf st hg
    subst hP hw hK
    obtain ⟨hz, hTI, ⟨x0, y0, hTO⟩, h1, h2⟩ := st
    obtain ⟨xs, ys, hqx, hqy, hend, hi1, hi2⟩ := hg
    obtain ⟨its, rv, p, _⟩ := I.list hqx
    obtain ⟨its2, rv2, p2, _⟩ := I.tuple hqy
    have l1 := rv.length
    have l2 := rv2.length
    have hh : X.A.in1.handled = none := I.ok.hd hc
    exact wpAny_pyNext_zipD2_end (sep_of D) (Draws.list hh i1 a D.l1i1 its.toArray) (Draws.tuple hh i2 b D.l2i2 its2.toArray) hz hTI hTO ⟨h1, p.isList⟩ ⟨h2, p2⟩
      (by rw [List.size_toArray]; omega) (by rw [List.size_toArray]; omega) (by rw [List.size_toArray, List.size_toArray]; omega) fun h' tk hk => ⟨rfl, I.turnedL (t' := tk) (ch := [z, TI, TO, i1, i2]) (fun c o hb q =>
      hk c o (fun q' => hb (by simp [q'])) (fun q' => hb (by simp [q'])) (fun q' => hb (by simp [q'])) (fun q' => hb (by simp [q'])) q) hf⟩
  self := fun A i s Q E st h => wpAny_pyIter_zip st.1 h
def iZipM (K : Frg) (ta : TA) : TI := fun σ H R => ta σ H fun vs H1 => ∃ a b xs ys, vs = [.ref a, .ref b] ∧ SqL K H1 a xs ∧ SqT K H1 b ys ∧ R (ItzM K a b) H1
theorem pi_zipM {X : Cx} {e e2 : Expr} {ta : TA} {p pos tpos : Pos} {elts : List Expr} {kk : Nat} (hg : Gl X "zip") (hm : X.mg "zip" = none) (ha : PA X [e, e2] ta)
    (hs : starEach [e, e2] X.env = (false, eval e X.env) :: starEach [e2] X.env := by rfl) (hpl : (backTo pos (starEach [e2] X.env)).any (·.1) = false := by rfl) :
    PI X (.Tuple elts kk tpos) (.Call (.Name "zip" p) [e, e2] [] pos) (iZipM X.K ta) := by
  refine ⟨fun pins s σ H R I h => ?_⟩
  refine Call_ (ld_blt I hg hm PyProof.Rows.boot_zip (PyProof.Rows.callWith_type1 (thn (ha.run pos pins s σ H _ I h) fun us s1 ⟨vs, H1, I1, r1, q1⟩ => ?_) hs hpl))
  obtain ⟨a, b, xs, ys, ex, hqx, hqy, q⟩ := q1
  subst ex
  cases r1 with
  | cons r rr =>
    cases rr with
    | cons r' rr =>
      cases rr
      cases r
      cases r'
      have fresh5 : ∀ c, c ∈ [s1.heap.objs.size + 4, s1.heap.objs.size + 2, s1.heap.objs.size + 3, s1.heap.objs.size, s1.heap.objs.size + 1] → FpOk X pins H1 c := fun c hcm => by
        have hle : s1.heap.objs.size ≤ c := by
          simp only [List.mem_cons, List.not_mem_nil, or_false] at hcm
          rcases hcm with z | z | z | z | z <;> rw [z]
          · exact Nat.le_add_right _ _
          · exact Nat.le_add_right _ _
          · exact Nat.le_add_right _ _
          · exact Nat.le_refl _
          · exact Nat.le_add_right _ _
        exact I1.fpOk hle (I1.hok.fresh hle)
      obtain ⟨its, rv, p1, _⟩ := I1.list hqx
      obtain ⟨its2, rv2, p2, _⟩ := I1.tuple hqy
      obtain ⟨o2, ho2, _⟩ := id p2
      refine zip_begins2 (begins_list a its.toArray) (begins_tuple b its2.toArray) p1.isList p2 fun h' hz hTI hTO h1 h2 hsz hk => wpAny_pyIter_zip hz ?_
      have I2 : Inv X pins σ H1 { s1 with heap := h' } := I1.kept (t' := s1.toks) hk
      exact ⟨s1.heap.objs.size + 4, [s1.heap.objs.size + 4, s1.heap.objs.size + 2, s1.heap.objs.size + 3, s1.heap.objs.size, s1.heap.objs.size + 1], _, _, H1, rfl, I2, turn_zipM (PySem.W.ktu_apart s1.heap.objs.size a b p1.lt (Heap.lt_size ho2)), ⟨hz, hTI, ⟨_, _, hTO⟩, ⟨_, h1, rfl, rfl⟩, ⟨_, h2, rfl, rfl⟩⟩, fresh5, q⟩
theorem walk_zipM {K : Frg} {a b : Addr} {xs ys : List V} {n : Nat} (hn : n = min xs.length ys.length) : Walk (ItzM K a b) n (fun H => SqL K H a xs ∧ SqT K H b ys) (YPair (fun i => xs[i]?) (fun i => ys[i]?)) := by
  subst hn
  refine ⟨fun i _ hi q => ?_, fun _ q => ⟨xs, ys, q.1, q.2, by omega, by omega, by omega⟩, fun i H v H' _ q y => ?_⟩
  · have h1 : i < xs.length := by omega
    have h2 : i < ys.length := by omega
    exact ⟨xs, ys, xs[i], ys[i], q.1, q.2, by simp [h1], by simp [h2]⟩
  · obtain ⟨T, x, z, h1, h2, h3, h4, h5⟩ := y
    exact ⟨T, x, z, h1, h2, h3, h4 xs q.1, h5 ys q.2⟩
end M

namespace M
open PySem PySem.Spec PyProof.Rows L2
/-! ### enumerate of a tuple -/
def lEnumA (f : Ef) : Lf := fun env => (f env).bind fun r => match r.1 with
  | .list ds => some (pairs (irange 0 ds.length) ds, r.2)
  | .tuple ds => some (pairs (irange 0 ds.length) ds, r.2)
  | _ => none
theorem wl_enumA {f : Ef} {env : En} {Q : List D → En → Prop} (h : WE f env fun x e => IsS x fun ds => Q (pairs (irange 0 ds.length) ds) e) : WL (lEnumA f) env Q := by
  obtain ⟨x, e, h1, h⟩ := h
  cases x with
  | list ds => exact ⟨_, e, by unfold lEnumA; rw [h1]; rfl, h⟩
  | tuple ds => exact ⟨_, e, by unfold lEnumA; rw [h1]; rfl, h⟩
  | _ => cases h
end M

namespace M
open PySem PySem.Spec PyProof.Rows L2
/-! ### how many unlike items a list has: len(set(xs)) -/
section
variable {prog : Program} {w : World} {A : Around} {R : Result → Shared → Prop} {I : Addr} {fp wr : List Addr} {G : Array GenState → Array GenState → Prop} {n : Nat} {P : Nat → Value → Prop} {St : Nat → Shared → Prop}
end
section
variable {prog : Program} {w : World} {A : Around} {E : Value → Shared → Prop} {s : Shared}
end
/-! ### xs.insert(i, e) -/
def eMut2 (g : List D → D → D → Option (List D × D)) (i : Nat) (f f2 : Ef) : Ef := fun env => if isOwn env i then (f env).bind fun r => (f2 r.2).bind fun r2 => match r2.2[i]? with
  | some (.own l ds) => (g ds r.1 r2.1).map fun q => (q.2, r2.2.set i (.own l q.1))
  | _ => none
  else none
def GM2 (r : V → List V → Hp → VK → Prop) (g : List D → D → D → Option (List D × D)) : Prop := ∀ F a vs ds y d y2 d2 es z H, Same F H → H a = some (.lst vs) → Da F vs ds → Dt F y d → Dt F y2 d2 → g ds d d2 = some (es, z) → ∀ Q : VK,
  (∀ us v, Da F us es → Dt F v z → Q v (upd H a (.lst us))) → r (.ref a) [y, y2] H Q
theorem re_mut2 {K : Frg} {i : Nat} {r : V → List V → Hp → VK → Prop} {g : List D → D → D → Option (List D × D)} {tb tc : TE} {fb fc : Ef} (hg : GM2 r g) (h2 : RE K tb fb) (h2' : RE K tc fc) : RE K (tBM K "list" r (tVar i) (tCons tb (tCons tc tNil))) (eMut2 g i fb fc) := fun G F env s H d env' k e Q q => by
  unfold eMut2 at e
  split at e
  · rename_i h0
    obtain ⟨l0, ds0, h0⟩ := isOwn_some h0
    obtain ⟨a, vs0, hv, hH, _⟩ := k.own i l0 ds0 h0
    obtain ⟨⟨d1, e1⟩, h1, e⟩ := Option.bind_eq_some_iff.mp e
    obtain ⟨⟨d2, e2⟩, h5, e⟩ := Option.bind_eq_some_iff.mp e
    dsimp only at e h5
    split at e
    · rename_i l ds h3
      obtain ⟨⟨es, z⟩, h4, e⟩ := Option.map_eq_some_iff.mp e
      cases e
      refine ⟨_, hv, .inl ⟨rfl, _, SqL.of hH⟩, ?_⟩
      refine h2 G F env s H d1 e1 k h1 _ fun F1 H1 v1 k1 s1 p1 => ?_
      refine h2' G F1 e1 s H1 d2 e2 k1 h5 _ fun F2 H2 v2 k2 s2 p2 => ?_
      obtain ⟨b, vs, g1, g2, g3, g4, g5, g6⟩ := k2.own i l ds h3
      rw [hv] at g1
      cases g1
      exact hg F2 a vs ds v1 d1 v2 d2 es z H2 k2.fr g2 g5 (Dt.mono s2 _ _ p1) p2 h4 Q fun us v pu pv => q F2 _ v (ok_mut k2 h3 hv pu) (s1.trans s2) pv
    · cases e
  · cases e
def mInsert : List D → D → D → Option (List D × D) := fun ds d d2 => match d with
  | .int i => if decide (0 ≤ i) && decide (i < 2 ^ 63) && fits (ds.length + 1) then some (ds.take i.toNat ++ [d2] ++ ds.drop i.toNat, .none) else none
  | _ => none
theorem gm_insert : GM2 (fun x vs H Q => ∃ (l : Addr) (xs : List V) (i : Int) (y : V), x = .ref l ∧ vs = [.int i, y] ∧ H l = some (.lst xs) ∧ xs.length < sizeLine ∧ 0 ≤ i ∧ i < 2 ^ 63 ∧
    Q .non (upd H l (.lst (xs.take i.toNat ++ [y] ++ xs.drop i.toNat)))) mInsert := fun F a vs ds y d y2 d2 es z H _ h p py py2 e Q q => by
  unfold mInsert at e
  split at e
  · split at e
    · rename_i i hf
      simp only [Bool.and_eq_true, decide_eq_true_eq] at hf
      cases e
      cases py
      have := fits_line hf.2
      exact ⟨a, vs, i, y2, rfl, rfl, h, by rw [p.length]; omega, hf.1.1, hf.1.2, q _ _ (((p.take _).append (.cons py2 .nil)).append (p.drop _)) .non⟩
    · cases e
  · cases e
section
variable {X : Cx} {e e2 : Expr} {fe fe2 : Ef} {x : Str} {p2 : Pos} {pos apos : Pos} {name : Str} {id : String}
theorem xe_mut2 (i : Nat) {r : V → List V → Hp → VK → Prop} {g : List D → D → D → Option (List D × D)} (slot : Slot "list" name id) (hty : typeOf (.builtin id) = pure (.type "method_descriptor")) (hm : MtR X id r) (hg : GM2 r g) (ha : XE X e fe) (hb : XE X e2 fe2) (hN : X.N[i]? = some x := by rfl) (hv : Vis X.env.scope x := by first | exact Or.inl rfl | exact Or.inr (Or.inl rfl) | exact Or.inr (Or.inr rfl))
    (hd : (x == ("__debug__" : Str)) = false := by decide) (hcd : (x == ("__classdict__" : Str)) = false := by decide)
    (hbase : attributeBase (.Name x p2) name X.env (eval (.Name x p2) X.env) = eval (.Name x p2) X.env := by rfl)
    (hfew : ((backTo pos (starEach [e, e2] X.env)).all (fun x => !x.1) && (backToKw pos (keywordEach [] X.env)).all (fun x => x.1.isSome)
      && decide (([e, e2] : List Expr).length + ([] : List Keyword).length + (if ([] : List Keyword).isEmpty then 0 else 1) < 30)) = true := by rfl)
    (hline : (apos.endLine == pos.line) = true := by rfl) (hs : starEach [e, e2] X.env = (false, eval e X.env) :: starEach [e2] X.env := by rfl) (hs2 : starEach [e2] X.env = (false, eval e2 X.env) :: starEach [] X.env := by rfl) (hplain : (backTo pos (starEach [e2] X.env)).any (·.1) = false := by rfl) :
    XE X (.Call (.Attribute (.Name x p2) name apos) [e, e2] [] pos) (eMut2 g i fe fe2) :=
  let ⟨_, h1, h2⟩ := ha.ex
  let ⟨_, h3, h4⟩ := hb.ex
  ⟨_, pe_bm PySem.F.plainAttrs_list slot hty hm (pe_var hN hv hd hcd) (pa_cons h1 (pa_cons h3 pa_nil hs2) hs) hbase hfew hline hs hplain, re_mut2 hg h2 h4⟩
end
theorem we_mut2 {env : En} {f f2 : Ef} {i : Nat} {g : List D → D → D → Option (List D × D)} {Q : D → En → Prop} {b : Bool} {ds0 : List D} (h0 : env[i]? = some (.own b ds0)) (h : WE f env fun x e => WE f2 e fun y e2 => Own e2[i]? fun l ds => WO (g ds x y) fun r => Nrm (e2.set i (.own l r.1)) (Q r.2)) : WE (eMut2 g i f f2) env Q := by
  obtain ⟨x, e, h1, y, e2, h4, l, ds, h2, r, h3, q⟩ := h
  exact ⟨_, _, by unfold eMut2 isOwn; rw [h0]; simp only [if_true, h1, h4, Option.bind_some, h2, h3]; (try rfl), q⟩
theorem wo_insert {ds : List D} {i : Int} {d : D} {Q : List D × D → Prop} (h0 : 0 ≤ i) (h1 : i ≤ ds.length) (hl : ds.length < 1000000) (q : Q (ds.take i.toNat ++ d :: ds.drop i.toNat, .none)) : WO (mInsert ds (.int i) d) Q := by
  refine ⟨(ds.take i.toNat ++ [d] ++ ds.drop i.toNat, .none), ?_, by rw [List.append_assoc]; exact q⟩
  unfold mInsert
  dsimp only
  rw [decide_eq_true h0, decide_eq_true (show i < 2 ^ 63 by omega), fits_of (show ds.length + 1 ≤ 16777216 by omega)]
  rfl
end M

namespace M
open PySem PySem.Spec PyProof.Rows L2
def ItzN (K : Frg) (a b : Addr) : It :=
  ⟨fun i H => ∃ (xs ys : List V) (x y : V), SqT K H a xs ∧ SqL K H b ys ∧ xs[i]? = some x ∧ ys[i]? = some y,
    fun i H v H' => ∃ T x y, v = .ref T ∧ H T = none ∧ H' = upd H T (.tup [x, y]) ∧ (∀ xs, SqT K H a xs → xs[i]? = some x) ∧ ∀ ys, SqL K H b ys → ys[i]? = some y,
    fun i H => ∃ xs ys : List V, SqT K H a xs ∧ SqL K H b ys ∧ (xs.length = i ∨ ys.length = i) ∧ i ≤ xs.length ∧ i ≤ ys.length⟩
theorem turn_zipN {P : Program} {w : World} {K : Frg} {elts : List Expr} {kk : Nat} {tpos : Pos} {a b z TI TO i1 i2 : Addr} (D : ZipApart z TI TO i1 i2 a b) :
    Turn P w K (.Tuple elts kk tpos) (ItzN K a b) [z, TI, TO, i1, i2] z (fun i h => IsZip h z TI TO .none ∧ IsTupOf2 h TI (.ref i1) (.ref i2) ∧ (∃ x y, IsTupOf2 h TO x y) ∧ h.IsTupleIter i1 a i ∧ h.IsListIter i2 b i) where
  mem := by simp
  obj := fun i h st c hc => by
    obtain ⟨hz, hTI, ⟨x, y, hTO⟩, ⟨o1, e1, _, d1⟩, ⟨o2, e2, _, d2⟩⟩ := st
    have e' : c = z ∨ c = TI ∨ c = TO ∨ c = i1 ∨ c = i2 := by simpa using hc
    rcases e' with q | q | q | q | q
    · rw [q]; exact ⟨_, hz, fun v q => nomatch q⟩
    · rw [q]; exact ⟨_, hTI, fun v q => nomatch q⟩
    · rw [q]; exact ⟨_, hTO, fun v q => nomatch q⟩
    · rw [q]; exact ⟨o1, e1, fun v q => by rw [d1] at q; cases q⟩
    · rw [q]; exact ⟨o2, e2, fun v q => by rw [d2] at q; cases q⟩
  keep := fun i h h' st k => by
    obtain ⟨hz, hTI, ⟨x, y, hTO⟩, h1, h2⟩ := st
    exact ⟨k z (by simp) _ hz, k TI (by simp) _ hTI, ⟨x, y, k TO (by simp) _ hTO⟩, h1.at fun o q => k i1 (by simp) o q, h2.at fun o q => k i2 (by simp) o q⟩
  item := by
    intro X hP hw hK hc i pins s σ H E I hf st hg
    subst hP hw hK
    obtain ⟨hz, hTI, ⟨x0, y0, hTO⟩, h1, h2⟩ := st
    obtain ⟨xs, ys, x, y, hqx, hqy, hx, hy⟩ := hg
    obtain ⟨its, rv, p, _⟩ := I.tuple hqx
    obtain ⟨its2, rv2, p2, _⟩ := I.list hqy
    obtain ⟨u, hu, ru⟩ := rv.get hx
    obtain ⟨u2, hu2, ru2⟩ := rv2.get hy
    have hzl : z < s.heap.objs.size := Heap.lt_size hz
    have hh : X.A.in1.handled = none := I.ok.hd hc
    refine wpAny_pyNext_zipD2_item (sep_of D) (Draws.tuple hh i1 a D.l1i1 its.toArray) (Draws.list hh i2 b D.l2i2 its2.toArray) hz hTI hTO ⟨h1, p⟩ ⟨h2, p2.isList⟩
      (by rw [List.size_toArray]; exact (List.getElem?_eq_some_iff.mp hu).1) (by rw [List.size_toArray]; exact (List.getElem?_eq_some_iff.mp hu2).1) fun v1 v2 h' tk e1 e2 z' TO' st1 st2 hT hsz hk => ?_
    have e1 : its[i]? = some v1 := by simpa using e1
    have e2 : its2[i]? = some v2 := by simpa using e2
    rw [hu] at e1
    rw [hu2] at e2
    cases e1
    cases e2
    refine ⟨_, rfl, wpAny_letOwnedTupleGo_zip (s := { s with heap := h', toks := tk }) z' fun h'' z'' sb => ?_⟩
    have hT2 : h''.get? s.heap.objs.size = some { cls := .type "tuple", data := .seq #[u, u2] } := (sb.2 _ (Nat.ne_of_gt hzl)).trans hT
    have new : ObjOk X.prog X.w (upd H s.heap.objs.size (.tup [x, y])) h'' s.heap.objs.size (.tup [x, y]) :=
      ⟨by show 2 ≤ sizeLine; decide, [u, u2], .cons ru (.cons ru2 .nil), ⟨_, hT2, rfl, _, rfl⟩⟩
    have I1 : Inv X pins σ (upd H s.heap.objs.size (.tup [x, y])) { s with heap := h'', toks := tk } :=
      I.turnedNew (t' := tk) (ch := [z, TI, TO, i1, i2]) (fun c o hb q => (sb.2 c (fun q' => hb (by simp [q']))).trans (hk c o (fun q' => hb (by simp [q'])) (fun q' => hb (by simp [q'])) (fun q' => hb (by simp [q'])) (fun q' => hb (by simp [q'])) q)) hf (Nat.le_refl _) new
    refine ⟨.ref s.heap.objs.size, _, I1, rfl, ⟨_, x, y, rfl, I.hok.fresh (Nat.le_refl _), rfl, fun l hl => by rw [I.tuple_inj hl hqx]; exact hx, fun l hl => by rw [I.list_inj hl hqy]; exact hy⟩, ⟨z'', ?_, ⟨u, u2, ?_⟩, ?_, ?_⟩, fun c hcm => ?_⟩
    · exact (sb.2 _ D.TIz).trans (hk _ _ D.TIz D.TITO D.TIi1 D.TIi2 hTI)
    · exact (sb.2 _ D.TOz).trans TO'
    · exact st1.1.at fun o q => (sb.2 _ D.i1z).trans q
    · exact st2.1.at fun o q => (sb.2 _ D.i2z).trans q
    · have hlt : c < s.heap.objs.size := by
        have e' : c = z ∨ c = TI ∨ c = TO ∨ c = i1 ∨ c = i2 := by simpa using hcm
        rcases e' with q | q | q | q | q
        · rw [q]; exact hzl
        · rw [q]; exact Heap.lt_size hTI
        · rw [q]; exact Heap.lt_size hTO
        · rw [q]; obtain ⟨_, e1, _⟩ := h1; exact Heap.lt_size e1
        · rw [q]; obtain ⟨_, e2, _⟩ := h2; exact Heap.lt_size e2
      rw [upd_ne (Nat.ne_of_lt hlt)]
      exact (hf c hcm).1
  done := by
    intro X hP hw hK hc i pins s σ H E I hf st hg
    subst hP hw hK
    obtain ⟨hz, hTI, ⟨x0, y0, hTO⟩, h1, h2⟩ := st
    obtain ⟨xs, ys, hqx, hqy, hend, hi1, hi2⟩ := hg
    obtain ⟨its, rv, p, _⟩ := I.tuple hqx
    obtain ⟨its2, rv2, p2, _⟩ := I.list hqy
    have l1 := rv.length
    have l2 := rv2.length
    have hh : X.A.in1.handled = none := I.ok.hd hc
    exact wpAny_pyNext_zipD2_end (sep_of D) (Draws.tuple hh i1 a D.l1i1 its.toArray) (Draws.list hh i2 b D.l2i2 its2.toArray) hz hTI hTO ⟨h1, p⟩ ⟨h2, p2.isList⟩
      (by rw [List.size_toArray]; omega) (by rw [List.size_toArray]; omega) (by rw [List.size_toArray, List.size_toArray]; omega) fun h' tk hk => ⟨rfl, I.turnedL (t' := tk) (ch := [z, TI, TO, i1, i2]) (fun c o hb q =>
      hk c o (fun q' => hb (by simp [q'])) (fun q' => hb (by simp [q'])) (fun q' => hb (by simp [q'])) (fun q' => hb (by simp [q'])) q) hf⟩
  self := fun A i s Q E st h => wpAny_pyIter_zip st.1 h
def iZipN (K : Frg) (ta : TA) : TI := fun σ H R => ta σ H fun vs H1 => ∃ a b xs ys, vs = [.ref a, .ref b] ∧ SqT K H1 a xs ∧ SqL K H1 b ys ∧ R (ItzN K a b) H1
theorem pi_zipN {X : Cx} {e e2 : Expr} {ta : TA} {p pos tpos : Pos} {elts : List Expr} {kk : Nat} (hg : Gl X "zip") (hm : X.mg "zip" = none) (ha : PA X [e, e2] ta)
    (hs : starEach [e, e2] X.env = (false, eval e X.env) :: starEach [e2] X.env := by rfl) (hpl : (backTo pos (starEach [e2] X.env)).any (·.1) = false := by rfl) :
    PI X (.Tuple elts kk tpos) (.Call (.Name "zip" p) [e, e2] [] pos) (iZipN X.K ta) := by
  refine ⟨fun pins s σ H R I h => ?_⟩
  refine Call_ (ld_blt I hg hm PyProof.Rows.boot_zip (PyProof.Rows.callWith_type1 (thn (ha.run pos pins s σ H _ I h) fun us s1 ⟨vs, H1, I1, r1, q1⟩ => ?_) hs hpl))
  obtain ⟨a, b, xs, ys, ex, hqx, hqy, q⟩ := q1
  subst ex
  cases r1 with
  | cons r rr =>
    cases rr with
    | cons r' rr =>
      cases rr
      cases r
      cases r'
      have fresh5 : ∀ c, c ∈ [s1.heap.objs.size + 4, s1.heap.objs.size + 2, s1.heap.objs.size + 3, s1.heap.objs.size, s1.heap.objs.size + 1] → FpOk X pins H1 c := fun c hcm => by
        have hle : s1.heap.objs.size ≤ c := by
          simp only [List.mem_cons, List.not_mem_nil, or_false] at hcm
          rcases hcm with z | z | z | z | z <;> rw [z]
          · exact Nat.le_add_right _ _
          · exact Nat.le_add_right _ _
          · exact Nat.le_add_right _ _
          · exact Nat.le_refl _
          · exact Nat.le_add_right _ _
        exact I1.fpOk hle (I1.hok.fresh hle)
      obtain ⟨its, rv, p1, _⟩ := I1.tuple hqx
      obtain ⟨its2, rv2, p2, _⟩ := I1.list hqy
      obtain ⟨o1, ho1, _⟩ := id p1
      refine zip_begins2 (begins_tuple a its.toArray) (begins_list b its2.toArray) p1 p2.isList fun h' hz hTI hTO h1 h2 hsz hk => wpAny_pyIter_zip hz ?_
      have I2 : Inv X pins σ H1 { s1 with heap := h' } := I1.kept (t' := s1.toks) hk
      exact ⟨s1.heap.objs.size + 4, [s1.heap.objs.size + 4, s1.heap.objs.size + 2, s1.heap.objs.size + 3, s1.heap.objs.size, s1.heap.objs.size + 1], _, _, H1, rfl, I2, turn_zipN (PySem.W.ktu_apart s1.heap.objs.size a b (Heap.lt_size ho1) p2.lt), ⟨hz, hTI, ⟨_, _, hTO⟩, ⟨_, h1, rfl, rfl⟩, ⟨_, h2, rfl, rfl⟩⟩, fresh5, q⟩
theorem walk_zipN {K : Frg} {a b : Addr} {xs ys : List V} {n : Nat} (hn : n = min xs.length ys.length) : Walk (ItzN K a b) n (fun H => SqT K H a xs ∧ SqL K H b ys) (YPair (fun i => xs[i]?) (fun i => ys[i]?)) := by
  subst hn
  refine ⟨fun i _ hi q => ?_, fun _ q => ⟨xs, ys, q.1, q.2, by omega, by omega, by omega⟩, fun i H v H' _ q y => ?_⟩
  · have h1 : i < xs.length := by omega
    have h2 : i < ys.length := by omega
    exact ⟨xs, ys, xs[i], ys[i], q.1, q.2, by simp [h1], by simp [h2]⟩
  · obtain ⟨T, x, z, h1, h2, h3, h4, h5⟩ := y
    exact ⟨T, x, z, h1, h2, h3, h4 xs q.1, h5 ys q.2⟩
/-! ### zip of two, each a list or a tuple -/
theorem pi_or {X : Cx} {tg it : Expr} {w1 w2 : TI} (h1 : PI X tg it w1) (h2 : PI X tg it w2) : PI X tg it (fun σ H R => w1 σ H R ∨ w2 σ H R) := ⟨fun pins s σ H R I h => h.elim (h1.run pins s σ H R I) (h2.run pins s σ H R I)⟩
def lZipA (f g : Ef) : Lf := fun env => (f env).bind fun r => (g r.2).bind fun q => match r.1, q.1 with
  | .list ds, .list es => some (pairs ds es, q.2)
  | .tuple ds, .tuple es => some (pairs ds es, q.2)
  | .list ds, .tuple es => some (pairs ds es, q.2)
  | .tuple ds, .list es => some (pairs ds es, q.2)
  | _, _ => none
theorem xi_zipA {X : Cx} {a b : Expr} {fa fb : Ef} {pos p tpos : Pos} {elts : List Expr} {kk : Nat} (ha : XE X a fa) (hb : XE X b fb) (hm : X.mg "zip" = none) (hg : Gl X "zip" := by rfl) (hs : starEach [a, b] X.env = (false, eval a X.env) :: starEach [b] X.env := by rfl) (hs2 : starEach [b] X.env = (false, eval b X.env) :: starEach [] X.env := by rfl)
    (hpl : (backTo pos (starEach [b] X.env)).any (·.1) = false := by rfl) : XI X (.Tuple elts kk tpos) (.Call (.Name "zip" p) [a, b] [] pos) (lZipA fa fb) := by
  obtain ⟨t, h1, h2⟩ := ha.ex
  obtain ⟨u, h3, h4⟩ := hb.ex
  have pa := pa_cons h1 (pa_cons h3 pa_nil hs2) hs
  refine ⟨_, pi_or (RZ.pi_zipA hg hm pa hs hpl) (pi_or (pi_zipM hg hm pa hs hpl) (pi_zipN hg hm pa hs hpl)), fun G F env s H ds env' k e R q => ?_⟩
  unfold lZipA at e
  obtain ⟨⟨d, e1⟩, h5, e⟩ := Option.bind_eq_some_iff.mp e
  obtain ⟨⟨d2, e2⟩, h6, e⟩ := Option.bind_eq_some_iff.mp e
  dsimp only at e h6
  split at e
  · cases e
    refine .inl (h2 G F env s H _ e1 k h5 _ fun F1 H1 v k1 s1 p1 => ?_)
    refine h4 G F1 e1 s H1 _ _ k1 h6 _ fun F2 H2 v2 k2 s2 p2 => ?_
    have p3 := Dt.mono s2 _ _ p1
    cases p3 with
    | lst a1 b1 =>
      cases p2 with
      | lst a2 b2 => exact ⟨_, _, _, _, rfl, .inl ⟨SqL.of (k2.fr _ _ a1), SqL.of (k2.fr _ _ a2), q F2 H2 _ k2 (s1.trans s2) (wk_pair (walk_zip rfl) (by rw [b1.length, b2.length]) (fun G F env s H _ k e => ⟨SqL.of (k.fr _ _ (e _ _ a1)), SqL.of (k.fr _ _ (e _ _ a2))⟩) (fun i v _ hv => b1.get' hv) fun i v _ hv => b2.get' hv)⟩⟩
  · cases e
    refine .inl (h2 G F env s H _ e1 k h5 _ fun F1 H1 v k1 s1 p1 => ?_)
    refine h4 G F1 e1 s H1 _ _ k1 h6 _ fun F2 H2 v2 k2 s2 p2 => ?_
    have p3 := Dt.mono s2 _ _ p1
    cases p3 with
    | tup a1 b1 =>
      cases p2 with
      | tup a2 b2 => exact ⟨_, _, _, _, rfl, .inr ⟨SqT.of (k2.fr _ _ a1), SqT.of (k2.fr _ _ a2), q F2 H2 _ k2 (s1.trans s2) (wk_pair (walk_zipT rfl) (by rw [b1.length, b2.length]) (fun G F env s H _ k e => ⟨SqT.of (k.fr _ _ (e _ _ a1)), SqT.of (k.fr _ _ (e _ _ a2))⟩) (fun i v _ hv => b1.get' hv) fun i v _ hv => b2.get' hv)⟩⟩
  · cases e
    refine .inr (.inl (h2 G F env s H _ e1 k h5 _ fun F1 H1 v k1 s1 p1 => ?_))
    refine h4 G F1 e1 s H1 _ _ k1 h6 _ fun F2 H2 v2 k2 s2 p2 => ?_
    have p3 := Dt.mono s2 _ _ p1
    cases p3 with
    | lst a1 b1 =>
      cases p2 with
      | tup a2 b2 => exact ⟨_, _, _, _, rfl, SqL.of (k2.fr _ _ a1), SqT.of (k2.fr _ _ a2), q F2 H2 _ k2 (s1.trans s2) (wk_pair (walk_zipM rfl) (by rw [b1.length, b2.length]) (fun G F env s H _ k e => ⟨SqL.of (k.fr _ _ (e _ _ a1)), SqT.of (k.fr _ _ (e _ _ a2))⟩) (fun i v _ hv => b1.get' hv) fun i v _ hv => b2.get' hv)⟩
  · cases e
    refine .inr (.inr (h2 G F env s H _ e1 k h5 _ fun F1 H1 v k1 s1 p1 => ?_))
    refine h4 G F1 e1 s H1 _ _ k1 h6 _ fun F2 H2 v2 k2 s2 p2 => ?_
    have p3 := Dt.mono s2 _ _ p1
    cases p3 with
    | tup a1 b1 =>
      cases p2 with
      | lst a2 b2 => exact ⟨_, _, _, _, rfl, SqT.of (k2.fr _ _ a1), SqL.of (k2.fr _ _ a2), q F2 H2 _ k2 (s1.trans s2) (wk_pair (walk_zipN rfl) (by rw [b1.length, b2.length]) (fun G F env s H _ k e => ⟨SqT.of (k.fr _ _ (e _ _ a1)), SqL.of (k.fr _ _ (e _ _ a2))⟩) (fun i v _ hv => b1.get' hv) fun i v _ hv => b2.get' hv)⟩
  · cases e
/-! ### a text's index of another one -/
/-! ### i ** j of a greater i -/
end M

namespace M
open PySem PySem.Spec PyProof.Rows L2
/-! ### min and max of a list of data that are alike -/
section
variable {X : Cx}
end
/-! ### the rest by a number of either sign -/
/-! ### how often a list has a thing -/
section
variable {X : Cx}
end
/-! ### a list from its end to its beginning -/
end M

namespace M
open PySem PySem.Spec PyProof.Rows L2
/-! ### a tuple told with a new list at its end, and the list changed by the one who asked -/
def unT : List Ar → Option (List D × Nat)
  | [] => none
  | .r i :: as => match as with
    | [] => some ([], i)
    | _ :: _ => none
  | .v d :: as => (unT as).map fun r => (d :: r.1, r.2)
  | .o _ :: _ => none
def sRetT (fa : Af) : Sf := fun env => (fa env).bind fun r => (unT r.1).bind fun q => match r.2[q.2]? with
  | some (.own true ds) => if fits (q.1.length + 1) then some (.rp q.1 ds (r.2.set q.2 .no)) else none
  | _ => none
section
variable {X : Cx} {K : Frg} {st : Stmt} {rest es : List Stmt} {e a b : Expr} {f g : Sf} {fe fa fb : Ef} {pos : Pos}
end
section
variable {P : Program} {w : World} {K : Frg} {mg : Str → Option Value} {base : Heap}
end
/-! the one who asked: slot i holds what was told -/
abbrev Td := En → List D → List D → Option Out
section
variable {K : Frg} {G : Gm} {F : Hp} {env : En} {s : L2.St} {H H' : Hp} {i : Nat}
end
section
variable {X : Cx} {K : Frg} {st : Stmt} {rest sts : List Stmt} {e a b : Expr} {f : Sf} {fe : Ef} {pos : Pos} {i : Nat}
/-- from here on it is a value -/
def tdP (i : Nat) (f : Sf) : Td := fun env as ds => f (env.set i (.val (.tuple (as ++ [.list ds]))))
/-! statements that only look: they go on or hand back something flat -/
abbrev Gpu := En → Option (Option D)
def pNil : Gpu := fun _ => some none
def pSeq (f g : Gpu) : Gpu := fun env => (f env).bind fun r => match r with
  | none => g env
  | some d => some (some d)
def pRet (f : Ef) : Gpu := fun env => (eBor f env).map fun r => some r.1
def pIf (c : Bf) (f g : Gpu) : Gpu := fun env => (bBor c env).bind fun r => if r.1 then f env else g env
/-- a look at what was told, the told tuple a value for so long -/
def lookT (i : Nat) (env : En) (as ds : List D) : En := unowns (env.set i (.val (.tuple (as ++ [.list ds]))))
def tdG (i : Nat) (fp : Gpu) (fr : Td) : Td := fun env as ds => (fp (lookT i env as ds)).bind fun r => match r with
  | none => fr env as ds
  | some d => if flatD d then some (.rt d env) else none
/-- a parting -/
def thenS (fr : Sf) : Out → Option Out
  | .nx env1 => fr env1
  | o => some o
def tdIf (i : Nat) (c : Bf) (fa fb : Td) (fr : Sf) : Td := fun env as ds => (c (lookT i env as ds)).bind fun r => (if r.1 then fa env as ds else fb env as ds).bind (thenS fr)
/-! a whole number written down -/
/-- y = list(x[j]) -/
def tdK (i ik : Nat) (j : Int) (fr : Td) : Td := fun env as ds => if ixN (as.length + 1) j = some as.length ∧ ik ≠ i then fr (env.set ik (.val (.list ds))) as ds else none
def tdA (i : Nat) (j c : Int) (fr : Td) : Td := fun env as ds => if ixN (as.length + 1) j = some as.length ∧ fits (ds.length + 1) = true then fr env as (ds ++ [.int c]) else none
def tdC (i : Nat) (j : Int) (fr : Td) : Td := fun env as ds => if ixN (as.length + 1) j = some as.length then fr env as [] else none
/-- a, b = x: the list is the def's own -/
def tdU (i ia ib : Nat) (f : Sf) : Td := fun env as ds => match as with
  | [d] => if ia ≠ i ∧ ib ≠ i then f ((env.set ia (.val d)).set ib (.own true ds)) else none
  | _ => none
end
/-! what it leaves -/
def RetT (ars : List Ar) (e : En) (R : D → En → Prop) : Prop := ∃ as i ds, unT ars = some (as, i) ∧ e[i]? = some (.own true ds) ∧ fits (as.length + 1) = true ∧ R (.tuple (as ++ [.list ds])) (e.set i .no)
section
variable {env : En} {N : En → Prop} {R : D → En → Prop} {L : List D → En → Prop} {i ik : Nat} {as ds : List D} {j c : Int} {Q : Po} {A : Prop} {B : D → Prop}
theorem ws_retT {fa : Af} (h : WA fa env fun ars e => RetT ars e R) : WS (sRetT fa) env ⟨N, R, L⟩ := by
  obtain ⟨ars, e, h1, as, i, ds, h2, h3, h4, q⟩ := h
  exact ⟨.rp as ds (e.set i .no), by unfold sRetT; simp only [h1, h2, h3, h4, Option.bind_some, if_true], q⟩
theorem retT1 {a : D} (h : env[i]? = some (.own true ds)) (q : Nrm (env.set i .no) (R (.tuple [a, .list ds]))) : RetT [.v a, .r i] env R := ⟨[a], i, ds, rfl, h, rfl, q⟩
theorem retT2 {a b : D} (h : env[i]? = some (.own true ds)) (q : Nrm (env.set i .no) (R (.tuple [a, b, .list ds]))) : RetT [.v a, .v b, .r i] env R := ⟨[a, b], i, ds, rfl, h, rfl, q⟩
def WTd (f : Td) (env : En) (as ds : List D) (Q : Po) : Prop := ∃ o, f env as ds = some o ∧ Q.at o
def WPu (f : Gpu) (env : En) (A : Prop) (B : D → Prop) : Prop := ∃ r, f env = some r ∧ match r with
  | none => A
  | some d => B d
theorem wpu_nil (q : A) : WPu pNil env A B := ⟨none, rfl, q⟩
theorem wpu_seq {f g : Gpu} (h : WPu f env (WPu g env A B) B) : WPu (pSeq f g) env A B := by
  obtain ⟨r, h1, h2⟩ := h
  cases r with
  | none => obtain ⟨r, h3, q⟩ := h2; exact ⟨r, by unfold pSeq; rw [h1]; exact h3, q⟩
  | some d => exact ⟨some d, by unfold pSeq; rw [h1]; rfl, h2⟩
theorem wpu_ret {f : Ef} (h : WE (eBor f) env fun d _ => B d) : WPu (pRet f) env A B := by
  obtain ⟨d, e, h1, q⟩ := h
  exact ⟨some d, by unfold pRet; rw [h1]; rfl, q⟩
theorem wpu_if {c : Bf} {f g : Gpu} (h : WB (bBor c) env fun b _ => IfB b (WPu f env A B) (WPu g env A B)) : WPu (pIf c f g) env A B := by
  obtain ⟨b, e, h1, h2⟩ := h
  cases b with
  | true => obtain ⟨r, h3, q⟩ : WPu f env A B := h2; exact ⟨r, by unfold pIf; rw [h1]; exact h3, q⟩
  | false => obtain ⟨r, h3, q⟩ : WPu g env A B := h2; exact ⟨r, by unfold pIf; rw [h1]; exact h3, q⟩
theorem wtd_P {f : Sf} (h : Nrm (env.set i (.val (.tuple (as ++ [.list ds])))) fun e => WS f e Q) : WTd (tdP i f) env as ds Q := h
theorem wtd_G {fp : Gpu} {fr : Td} (h : Nrm (unowns (env.set i (.val (.tuple (as ++ [.list ds]))))) fun e => WPu fp e (WTd fr env as ds ⟨N, R, L⟩) fun d => flatD d = true ∧ R d env) : WTd (tdG i fp fr) env as ds ⟨N, R, L⟩ := by
  obtain ⟨r, h1, h2⟩ : WPu fp (lookT i env as ds) (WTd fr env as ds ⟨N, R, L⟩) fun d => flatD d = true ∧ R d env := h
  cases r with
  | none => obtain ⟨o, h3, q⟩ := h2; exact ⟨o, by unfold tdG; rw [h1]; exact h3, q⟩
  | some d => exact ⟨.rt d env, by unfold tdG; rw [h1]; simp only [Option.bind_some, h2.1, if_true], h2.2⟩
theorem wtd_If {gc : Bf} {fa fb : Td} {fr : Sf} (h : Nrm (unowns (env.set i (.val (.tuple (as ++ [.list ds]))))) fun e => WB (bBor gc) e fun b _ => IfB b (WTd fa env as ds ⟨fun e => WS fr e ⟨N, R, L⟩, R, L⟩) (WTd fb env as ds ⟨fun e => WS fr e ⟨N, R, L⟩, R, L⟩)) : WTd (tdIf i (bBor gc) fa fb fr) env as ds ⟨N, R, L⟩ := by
  obtain ⟨b, e, h1, h2⟩ : WB (bBor gc) (lookT i env as ds) fun b _ => IfB b (WTd fa env as ds ⟨fun e => WS fr e ⟨N, R, L⟩, R, L⟩) (WTd fb env as ds ⟨fun e => WS fr e ⟨N, R, L⟩, R, L⟩) := h
  have fin : ∀ o, (⟨fun e => WS fr e ⟨N, R, L⟩, R, L⟩ : Po).at o → ∃ o', thenS fr o = some o' ∧ (⟨N, R, L⟩ : Po).at o' := fun o q => by
    cases o with
    | nx e => exact q
    | rt d e => exact ⟨_, rfl, q⟩
    | rn d e => exact ⟨_, rfl, q⟩
    | rp d d2 e => exact ⟨_, rfl, q⟩
  cases b with
  | true =>
    obtain ⟨o, h3, q⟩ : WTd fa env as ds ⟨fun e => WS fr e ⟨N, R, L⟩, R, L⟩ := h2
    obtain ⟨o', h4, q'⟩ := fin o q
    exact ⟨o', by unfold tdIf; rw [h1]; simp only [Option.bind_some, if_true, h3]; exact h4, q'⟩
  | false =>
    obtain ⟨o, h3, q⟩ : WTd fb env as ds ⟨fun e => WS fr e ⟨N, R, L⟩, R, L⟩ := h2
    obtain ⟨o', h4, q'⟩ := fin o q
    exact ⟨o', by unfold tdIf; rw [h1]; simp only [Option.bind_some, Bool.false_eq_true, if_false, h3]; exact h4, q'⟩
theorem wtd_K {fr : Td} (h : ixN (as.length + 1) j = some as.length ∧ ik ≠ i) (q : Nrm (env.set ik (.val (.list ds))) fun e => WTd fr e as ds Q) : WTd (tdK i ik j fr) env as ds Q := by
  obtain ⟨o, h1, q⟩ : WTd fr (env.set ik (.val (.list ds))) as ds Q := q
  exact ⟨o, by unfold tdK; rw [if_pos h]; exact h1, q⟩
theorem wtd_A {fr : Td} (h : ixN (as.length + 1) j = some as.length) (hf : fits (ds.length + 1) = true) (q : WTd fr env as (ds ++ [.int c]) Q) : WTd (tdA i j c fr) env as ds Q := by
  obtain ⟨o, h1, q⟩ := q
  exact ⟨o, by unfold tdA; rw [if_pos ⟨h, hf⟩]; exact h1, q⟩
theorem wtd_C {fr : Td} (h : ixN (as.length + 1) j = some as.length) (q : WTd fr env as [] Q) : WTd (tdC i j fr) env as ds Q := by
  obtain ⟨o, h1, q⟩ := q
  exact ⟨o, by unfold tdC; rw [if_pos h]; exact h1, q⟩
theorem wtd_U {f : Sf} {ia ib : Nat} {d : D} (h : ia ≠ i ∧ ib ≠ i) (q : Nrm ((env.set ia (.val d)).set ib (.own true ds)) fun e => WS f e Q) : WTd (tdU i ia ib f) env [d] ds Q := by
  obtain ⟨o, h1, q⟩ : WS f ((env.set ia (.val d)).set ib (.own true ds)) Q := q
  exact ⟨o, by unfold tdU; dsimp only; rw [if_pos h]; exact h1, q⟩
end
/-! what a body hands back that isn't told -/
section
variable {p : D → Prop} {f g : Sf}
end
end M

namespace M
open PySem PySem.Spec PyProof.Rows L2
/-! ### a new list handed in to be changed, and forgotten -/
def valsA : List Ar → Option (List D)
  | [] => some []
  | .v d :: as => (valsA as).map fun r => d :: r
  | _ :: _ => none
def eCallN (g : Gf) (fl : Lf) (fa : Af) : Ef := fun env => (fl env).bind fun r => (fa r.2).bind fun q => (valsA q.1).bind fun ds => (g (.own false r.1 :: ds.map .val)).map fun w => (w.1, q.2)
section
variable {X : Cx} {k : Nat} {fx : Addr} {fd : FuncData} {ps : List Str} {x : Str} {p pos : Pos} {e : Expr} {es : List Expr} {fa : Af} {fl : Lf} {g : Gf}
end
theorem we_callN {env : En} {g : Gf} {fl : Lf} {fa : Af} {Q : D → En → Prop} (h : WL fl env fun ls e => WA fa e fun ars e2 => WO (valsA ars) fun ds => WG g (.own false ls :: ds.map .val) fun d _ => Q d e2) : WE (eCallN g fl fa) env Q := by
  obtain ⟨ls, e1, h1, ars, e2, h2, ds, h3, d, a', h4, q⟩ := h
  exact ⟨d, e2, by unfold eCallN; simp only [h1, h2, h3, h4, Option.bind_some, Option.map_some], q⟩
theorem vals_nil {Q : List D → Prop} (q : Q []) : WO (valsA []) Q := ⟨_, rfl, q⟩
theorem vals_v {d : D} {as : List Ar} {Q : List D → Prop} (h : WO (valsA as) fun ds => Q (d :: ds)) : WO (valsA (.v d :: as)) Q := by
  obtain ⟨ds, h1, q⟩ := h
  exact ⟨_, by unfold valsA; rw [h1]; rfl, q⟩
end M

namespace M
open PySem PySem.Spec PyProof.Rows L2

/-! ### refusals: a def that may raise -/
/-- an exception: its class, the field it bears -/
structure Xc where
  C : Addr
  fd : Option (Str × Int)
/-- it as a value, once it is caught -/
def xD (x : Xc) : D := .dict [(.int (x.C : Int), match x.fd with
  | none => .none
  | some p => .tuple [.str p.1, .int p.2])]
/-- how it lies while it flies: its dict is newer than H0 -/
def IsX (H0 F H : Hp) (x : Xc) (cls : Value) (d : Option Addr) : Prop := cls = .ref x.C ∧ match x.fd with
  | none => d = none
  | some p => ∃ a, d = some a ∧ H a = some (.xd [(p.1, .int p.2)]) ∧ F a = none ∧ H0 a = none
abbrev Ox := Out ⊕ (Xc × En)
abbrev Sfx := En → Option Ox
abbrev Efx := En → Option ((D × En) ⊕ (Xc × En))
def RSX (K : Frg) (G : Gm) (F : Hp) (E : Ends) (W : WX) : Ox → Prop
  | .inl o => RSx K G F E o
  | .inr (x, env) => ∀ F' s' H' cls d, Ok K G F' env s' H' → Same F F' → IsX G.H0 F' H' x cls d → W cls d s' H'
theorem RSX.up {K : Frg} {G : Gm} {F F' : Hp} {E : Ends} {W : WX} {o : Ox} (s : Same F F') (h : RSX K G F E W o) : RSX K G F' E W o := by
  cases o with
  | inl o => exact RSx.up (F := F) s h
  | inr p =>
    obtain ⟨x, env⟩ := p
    exact fun F2 s2 H2 cls d k e q => h F2 s2 H2 cls d k (s.trans e) q
def cSX (K : Frg) (f : Sfx) (W : WX) : TS := fun E s H => ∃ G F env o, Ok K G F env s H ∧ f env = some o ∧ RSX K G F E W o
def cEX (K : Frg) (f : Efx) (W : WX) : TE := fun s H Q => ∃ G F env o, Ok K G F env s H ∧ f env = some o ∧ match o with
  | .inl (d, env') => ∀ F' H' v, Ok K G F' env' s H' → Same F F' → Dt F' v d → Q v H'
  | .inr (x, env') => ∀ F' H' cls d, Ok K G F' env' s H' → Same F F' → IsX G.H0 F' H' x cls d → W cls d s H'
structure XSX (X : Cx) (W : WX) (st : Stmt) (f : Sfx) : Prop where
  ok : PS X st (cSX X.K f W)
structure XSsX (X : Cx) (W : WX) (sts : List Stmt) (f : Sfx) : Prop where
  ok : PSs X sts (cSX X.K f W)
structure XEX (X : Cx) (W : WX) (e : Expr) (f : Efx) : Prop where
  ok : PE X e (cEX X.K f W)
section
variable {X : Cx}
theorem PS.imp {st : Stmt} {t u : TS} (h : PS X st t) (i : ∀ D s H, u D s H → t D s H) : PS X st u := ⟨fun pins s σ H D I q => h.run pins s σ H D I (i D σ H q)⟩
theorem PSs.imp {st : List Stmt} {t u : TS} (h : PSs X st t) (i : ∀ D s H, u D s H → t D s H) : PSs X st u := ⟨fun pins s σ H D I q => h.run pins s σ H D I (i D σ H q)⟩
theorem PE.imp {e : Expr} {t u : TE} (h : PE X e t) (i : ∀ s H Q, u s H Q → t s H Q) : PE X e u := ⟨fun pins s σ H Q I q => h.run pins s σ H Q I (i σ H Q q)⟩
theorem ps_nox {st : Stmt} {t : TS} (h : PS X.nox st t) : PS X st t := ⟨fun pins s σ H D I hw =>
  wpAny_mono (h.run pins s σ H D (I.wish _) hw) (fun _ _ q => q.unwish) fun _ _ z => False.elim z⟩
variable {W : WX} {st : Stmt} {rest : List Stmt} {e : Expr} {f g : Sf} {fx gx : Sfx} {fe : Efx} {pos : Pos}
def sLift (f : Sf) : Sfx := fun env => (f env).map .inl
theorem xsx_of (h : XS X.nox st f) : XSX X W st (sLift f) := by
  obtain ⟨t, h1, h2⟩ := h.ex
  refine ⟨PS.imp (ps_nox h1) fun E s H ⟨G, F, env, o, k, e, q⟩ => ?_⟩
  unfold sLift at e
  obtain ⟨o1, e1, e2⟩ := Option.map_eq_some_iff.mp e
  subst e2
  exact h2 G F env s H o1 k e1 E q
theorem xssx_of {sts : List Stmt} (h : XSs X.nox sts f) : XSsX X W sts (sLift f) := by
  obtain ⟨t, h1, h2⟩ := h.ex
  refine ⟨PSs.imp h1.nox fun E s H ⟨G, F, env, o, k, e, q⟩ => ?_⟩
  unfold sLift at e
  obtain ⟨o1, e1, e2⟩ := Option.map_eq_some_iff.mp e
  subst e2
  exact h2 G F env s H o1 k e1 E q
def sSeqX (f g : Sfx) : Sfx := fun env => (f env).bind fun o => match o with
  | .inl (.nx env1) => g env1
  | o => some o
theorem xssx_one (h : XSX X W st fx) : XSsX X W [st] fx := ⟨pss_one h.ok⟩
theorem xssx_cons (h1 : XSX X W st fx) (h2 : XSsX X W rest gx) : XSsX X W (st :: rest) (sSeqX fx gx) := by
  refine ⟨PSs.imp (pss_cons h1.ok h2.ok) fun E s H ⟨G, F, env, o, k, e, q⟩ => ?_⟩
  unfold sSeqX at e
  obtain ⟨o1, e1, e2⟩ := Option.bind_eq_some_iff.mp e
  refine ⟨G, F, env, o1, k, e1, ?_⟩
  cases o1 with
  | inr p =>
    cases e2
    exact q
  | inl o1 =>
    cases o1 with
    | nx env1 => exact fun F' s' H' k' se => ⟨G, F', env1, o, k', e2, RSX.up se q⟩
    | rt d env1 => cases e2; exact q
    | rn ds env1 => cases e2; exact q
    | rp as ds env1 => cases e2; exact q
def sIfX (c : Bf) (f g : Sfx) : Sfx := fun env => (c env).bind fun r => if r.1 then f r.2 else g r.2
theorem xsx_if {c : Expr} {p1 p2 : List Stmt} {gc : Bf} (hc : XB X.nox c gc) (ha : XSsX X W p1 fx) (hb : XSsX X W p2 gx) : XSX X W (.If c p1 p2 pos) (sIfX gc fx gx) := by
  obtain ⟨t, h1, h2⟩ := hc.ex
  refine ⟨PS.imp (ps_if h1.nox ha.ok hb.ok) fun E s H ⟨G, F, env, o, k, e, q⟩ => ?_⟩
  unfold sIfX at e
  obtain ⟨⟨b, e1⟩, h3, e⟩ := Option.bind_eq_some_iff.mp e
  refine h2 G F env s H b e1 k h3 _ fun F1 H1 k1 s1 => ?_
  cases b with
  | true => exact ⟨G, F1, e1, o, k1, e, RSX.up s1 q⟩
  | false => exact ⟨G, F1, e1, o, k1, e, RSX.up s1 q⟩

/-! ### raise X('..') -/
structure Xo (K : Frg) (mg : Str → Option Value) (nm : Str) (C : Addr) : Prop where
  m : mg nm = some (.ref C)
  x : PySem.W.excIn K C [.type "ValueError", .type "Exception", .type "BaseException", .type "object"] "ValueError.__new__" = true
  k : PySem.W.keepIn K (.ref C) = true
  b : PySem.W.subIn K (.ref C) (.type "BaseException") = some true
  t : PySem.W.typeIn K (.ref C) = some (.type "type")
def sRaise0 (C : Addr) : Sfx := fun env => some (.inr (⟨C, none⟩, env))
theorem xsx_raise0 {nm m : Str} {C : Addr} {j : Nat} {p p2 pos2 : Pos} (T : Xo X.K X.mg nm C) (tk : Takes X W) (hc : X.calm = true := by rfl) (hg : Gl X nm := by rfl) (hdb : (nm == ("__debug__" : Str)) = false := by decide) :
    XSX X W (.Raise (some (.Call (.Name nm p) [.Constant (.str m) j p2] [] pos)) none pos2) (sRaise0 C) := by
  refine ⟨PS.imp (ps_raise hc tk (pmk_own PySem.F.excBase_ValueError T.x T.m T.k (raises_own T.b T.t) hg hdb)) fun E s H ⟨G, F, env, o, k, e, q⟩ => ?_⟩
  cases e
  exact q F s H _ _ k (Same.refl F) ⟨rfl, rfl⟩

/-! ### a def that may raise -/
abbrev Gfx := List Sl → Option ((D × List Sl) ⊕ (Xc × List Sl))
def outD (np : Nat) : Out → D × List Sl
  | .nx env => (.none, env.take np)
  | .rt d env => (d, env.take np)
  | .rn ds env => (.list ds, env.take np)
  | .rp as ds env => (.tuple (as ++ [.list ds]), env.take np)
def fnRunX (n np : Nat) (f : Sfx) : Gfx := fun args => if args.length = np then (f (args ++ List.replicate (n - np) .no)).map fun r => match r with
  | .inl o => .inl (outD np o)
  | .inr (x, env) => .inr (x, env.take np)
  else none
def spX (K : Frg) (g : Gfx) : Sp := fun vs H Q E => ∃ F args r, g args = some r ∧ Same F H ∧ ArgsOk K F H args vs ∧ match r with
  | .inl (d, args') => ∀ F' H' v, Post F H F' H' args args' vs v d → Q v H'
  | .inr (x, args') => ∀ F' H' cls dd, Post F H F' H' args args' vs .non .none → IsX H F' H' x cls dd → E cls dd H'
section
variable {P : Program} {w : World} {K : Frg} {mg : Str → Option Value} {base : Heap}
theorem fn_okX {x qual : Str} {st : Stmt} {f : Addr} {fd : FuncData} {N ps : List Str} {k : Nat} {g : Gfx} (fb : Sfx) (n np : Nat) (F : Fun K x qual st f fd) (S : FnScope N ps (defScope st))
    (hn : N.length = n) (hp : ps.length = np) (hg : g = fnRunX n np fb)
    (hbody : ∀ (cdv : Value) (A : Around) (outer : List Env) (s : Shared) (H : Hp) (E : XK), Room k (A.deeper (envOfC qual (defScope st) s.heap.objs.size f cdv)) →
      XSsX (cxOf (L2.CX P w) P w K mg base N qual (defScope st) f cdv A outer s H E) (fun cls d _ H => E cls d H) (defBody st) fb) : FnOk P w K mg base (L2.CX P w) (k + 1) f fd ps (spX K g) := by
  subst hn hp hg
  refine F.okX S (fun vs H Q E h => ?_) (fun cdv A outer s H vs Q E hr h => ?_)
  · obtain ⟨Fz, args, r, hg, fr, a, _⟩ := h
    unfold fnRunX at hg
    split at hg
    · rename_i hl
      rw [a.len, hl]
    · cases hg
  · obtain ⟨Fz, args, r, hg, fr, a, q⟩ := h
    refine ⟨_, (hbody cdv A outer s H E hr).ok, ?_⟩
    have hpl : ps.length ≤ N.length := by have := congrArg List.length S.pre; rw [List.length_take] at this; omega
    unfold fnRunX at hg
    split at hg
    · rename_i hl
      have k0 := ok_start hl.symm hpl fr a
      obtain ⟨o, he, hr⟩ := Option.map_eq_some_iff.mp hg
      subst hr
      refine ⟨_, Fz, _, o, k0, he, ?_⟩
      cases o with
      | inr p =>
        obtain ⟨x, env⟩ := p
        exact fun F' s' H' cls d k' s1 hx => q F' H' cls d (post_of a hl.symm k' .non) hx
      | inl o =>
        cases o with
        | nx env => exact fun F' s' H' k' s1 => q F' H' .non (post_of a hl.symm k' .non)
        | rt d env => exact fun F' s' H' v k' s1 p => q F' H' v (post_of a hl.symm k' p)
        | rn ds env =>
          intro F' s' H' p us k' s1 g1 g2 g3 g4 g5 g6
          exact q _ H' (.ref p) (post_of a hl.symm (k'.freeze g1 g2 g3 g5 (k'.notdctL g1)) (.lst upd_same (Da.mono (same_upd g2) _ _ g6)))
        | rp as ds env =>
          intro F' s' H' t p ws us k' s1 n
          obtain ⟨F2, k2, s2, pd, _⟩ := n.frz k'
          exact q F2 H' (.ref t) (post_of a hl.symm k2 pd)
    · cases hg
end

/-! ### its call -/
theorem isX_dom {H0 H F' H' : Hp} {x : Xc} {cls : Value} {d : Option Addr} (hd : ∀ a, H a = none → H0 a = none) (h : IsX H F' H' x cls d) : IsX H0 F' H' x cls d := by
  obtain ⟨C, fd⟩ := x
  obtain ⟨h1, h2⟩ := h
  refine ⟨h1, ?_⟩
  cases fd with
  | none => exact h2
  | some p =>
    obtain ⟨a, h3, h4, h5, h6⟩ := h2
    exact ⟨a, h3, h4, h5, hd a h6⟩
def eCallX (g : Gfx) (fa : Af) : Efx := fun env => (fa env).bind fun r => match rSlots r.1 with
  | [] => (resArs r.2 r.1).bind fun args => (g args).map fun q => match q with
    | .inl (d, _) => .inl (d, r.2)
    | .inr (x, _) => .inr (x, r.2)
  | _ => none
theorem xex_call {k : Nat} {fa : Addr} {fd : FuncData} {ps : List Str} {x : Str} {p : Pos} {es : List Expr} {af : Af} {g : Gfx} (FF : FnOk X.prog X.w X.K X.mg X.base (L2.CX X.prog X.w) k fa fd ps (spX X.K g)) (hr : Room k X.A) (hm : X.mg x = some (.ref fa)) (hk : PySem.W.keepIn X.K (.ref fa) = true) (hb : Binds X.K fd ps []) (tk : Takes X W) (ha : XA X.nox (e :: es) af) (hg : Gl X x := by rfl)
    (hdb : (x == ("__debug__" : Str)) = false := by decide) (he : starEach (e :: es) X.env = (false, eval e X.env) :: starEach es X.env := by rfl) (hpl : (backTo pos (starEach es X.env)).any (·.1) = false := by rfl) :
    XEX X W (.Call (.Name x p) (e :: es) [] pos) (eCallX g af) := by
  obtain ⟨t, h1, h2⟩ := ha.ex
  have h1' : PA X (e :: es) t := ⟨fun pos pins s σ H Q I hw => wpAny_mono (h1.run pos pins s σ H Q (I.wish _) hw) (fun _ _ ⟨v, H', I', r, q⟩ => ⟨v, H', I'.unwish, r, q⟩) fun _ _ z => False.elim z⟩
  refine ⟨PE.imp (pe_callS FF hr hg hm hk hb (fun σ => passAt tk σ) h1' hdb he hpl) fun s H Q ⟨G, F, env, o, k, e, q⟩ => ?_⟩
  unfold eCallX at e
  obtain ⟨⟨as, e1⟩, h3, e⟩ := Option.bind_eq_some_iff.mp e
  refine h2 G F env s H as e1 k h3 _ fun F1 H1 vs k1 s1 p1 => ?_
  dsimp only at e
  split at e
  · rename_i hrs
    obtain ⟨args, h4, e⟩ := Option.bind_eq_some_iff.mp e
    obtain ⟨r, h5, e⟩ := Option.map_eq_some_iff.mp e
    subst e
    refine ⟨F1, args, r, h5, k1.fr, args_ok k1 p1 h4 (by rw [hrs]; intro i hi; cases hi) (by rw [hrs]; intro i hi; cases hi), ?_⟩
    cases r with
    | inl r =>
      obtain ⟨d, args'⟩ := r
      exact fun F' H' v po => q F' H' v (ok_after k1 p1 h4 po rfl (fun j => .inl rfl) (by rw [hrs]; intro i hi; cases hi)) (s1.trans po.grow) po.res
    | inr r =>
      obtain ⟨x, args'⟩ := r
      exact fun F' H' cls d po hx => q F' H' cls d (ok_after k1 p1 h4 po rfl (fun j => .inl rfl) (by rw [hrs]; intro i hi; cases hi)) (s1.trans po.grow) (isX_dom k1.dom hx)
  · cases e
def eUp (f : Efx) (h : D → En → Out) : Sfx := fun env => (f env).map fun r => match r with
  | .inl (d, e) => .inl (h d e)
  | .inr p => .inr p
def sExprX (f : Efx) : Sfx := eUp f fun _ e => .nx e
def sRetX (f : Efx) : Sfx := eUp f fun d e => .rt d e
def sSetX (i : Nat) (f : Efx) : Sfx := eUp f fun d e => .nx (e.set i (.val d))
theorem eUp_cases {f : Efx} {h : D → En → Out} {env : En} {o : Ox} (e : eUp f h env = some o) : (∃ d e1, f env = some (.inl (d, e1)) ∧ o = .inl (h d e1)) ∨ ∃ x e1, f env = some (.inr (x, e1)) ∧ o = .inr (x, e1) := by
  unfold eUp at e
  obtain ⟨r, h1, e⟩ := Option.map_eq_some_iff.mp e
  subst e
  cases r with
  | inl r => exact .inl ⟨r.1, r.2, h1, rfl⟩
  | inr r => exact .inr ⟨r.1, r.2, h1, rfl⟩
theorem xsx_expr (he : XEX X W e fe) (hs : swapsWith e none pos.line X.env = pure false := by rfl) : XSX X W (.Expr e pos) (sExprX fe) := by
  refine ⟨PS.imp (ps_expr he.ok hs) fun E s H ⟨G, F, env, o, k, e, q⟩ => ?_⟩
  rcases eUp_cases e with ⟨d, e1, h1, rfl⟩ | ⟨x, e1, h1, rfl⟩
  · exact ⟨G, F, env, _, k, h1, fun F' H' v k' s' _ => q F' s H' k' s'⟩
  · exact ⟨G, F, env, _, k, h1, fun F' H' cls d k' s' hx => q F' s H' cls d k' s' hx⟩
theorem xsx_ret (he : XEX X W e fe) : XSX X W (.Return (some e) pos) (sRetX fe) := by
  refine ⟨PS.imp (ps_ret he.ok) fun E s H ⟨G, F, env, o, k, e, q⟩ => ?_⟩
  rcases eUp_cases e with ⟨d, e1, h1, rfl⟩ | ⟨x, e1, h1, rfl⟩
  · exact ⟨G, F, env, _, k, h1, fun F' H' v k' s' p => q F' s H' v k' s' p⟩
  · exact ⟨G, F, env, _, k, h1, fun F' H' cls d k' s' hx => q F' s H' cls d k' s' hx⟩
theorem xsx_set (i : Nat) {x : Str} {pos' : Pos} (he : XEX X W e fe) (hN : X.N.Nodup) (hi : X.N[i]? = some x := by rfl) (hx : Loc X.env.scope x := by first | exact Or.inl rfl | exact Or.inr rfl) (hs : swapsWith e (some (.Name x pos')) pos.line X.env = pure false := by rfl)
    (hf : X.fn x = true ∨ X.env.scope.names.lookup x = some .local := by first | exact .inl rfl | exact .inr rfl | assumption) : XSX X W (.Assign [.Name x pos'] e pos) (sSetX i fe) := by
  refine ⟨PS.imp (ps_set hN hi hx he.ok hs hf) fun E s H ⟨G, F, env, o, k, e, q⟩ => ?_⟩
  rcases eUp_cases e with ⟨d, e1, h1, rfl⟩ | ⟨x, e1, h1, rfl⟩
  · exact ⟨G, F, env, _, k, h1, fun F' H' v k' s' p => q F' _ H' (ok_set k' p) s'⟩
  · exact ⟨G, F, env, _, k, h1, fun F' H' cls d k' s' hx => q F' s H' cls d k' s' hx⟩

/-! ### for, in a def that may raise -/
def forGoX (g : Tf) (body : Sfx) : List D → En → Option Ox
  | [], env => some (.inl (.nx env))
  | d :: ds, env => (g d env).bind fun env1 => (body env1).bind fun o => match o with
    | .inl (.nx env2) => forGoX g body ds env2
    | o => some o
def sForX (src : Lf) (g : Tf) (body : Sfx) : Sfx := fun env => (src env).bind fun r => forGoX g body r.1 r.2
theorem xsx_for {tg iter : Expr} {body : List Stmt} {src : Lf} {gt : Tf} {sl : List Nat} {fb : Sfx} (hp : PassesOwn (model X.prog X.w) X.A X.env X.xe) (hi : XI X tg iter src) (hg : XG X tg gt sl) (hb : XSsX X W body fb) (hc : X.calm = true := by rfl)
    (hs : ∀ x, foldedSetIterable iter X.env x = pure x := by intro _; rfl) : XSX X W (.For tg iter body [] pos) (sForX src gt fb) := by
  obtain ⟨wi, p1, q1⟩ := hi.ex
  obtain ⟨tg', p2, q2⟩ := hg.ex
  refine ⟨PS.imp (ps_for hp hc p1 p2 hb.ok hs) fun E s H ⟨G, F, env, o, k, e, q⟩ => ?_⟩
  unfold sForX at e
  obtain ⟨⟨ds, e1⟩, h1, e⟩ := Option.bind_eq_some_iff.mp e
  refine q1 G F env s H ds e1 k h1 _ fun F1 H1 J k1 s1 w => ?_
  obtain ⟨Gp, Y, w1, w2, w3⟩ := w
  refine for_it w1 (fun i s' H' => ∃ F' env', Ok X.K G F' env' s' H' ∧ Same F1 F' ∧ forGoX gt fb (ds.drop i) env' = some o) ⟨F1, e1, k1, Same.refl F1, e⟩ (fun i s' H' hi ⟨F', env', k', s'', _⟩ => w2 G F' env' s' H' (Same.refl _) k' s'') (fun i x s' H' H'' hi ⟨F', env', k', s'', e'⟩ y => ?_) fun s' H' ⟨F', env', k', s'', e'⟩ => ?_
  · obtain ⟨F2, k2, s2, _, d, hd, pd⟩ := w3 i H' x H'' G F' env' s' hi (Same.refl _) k' s'' y
    have hdr : ds.drop i = d :: ds.drop (i + 1) := by
      obtain ⟨hl, hx⟩ := List.getElem?_eq_some_iff.mp hd
      rw [List.drop_eq_getElem_cons hl, hx]
    rw [hdr] at e'
    unfold forGoX at e'
    obtain ⟨env2, h2, e'⟩ := Option.bind_eq_some_iff.mp e'
    obtain ⟨o2, h3, e'⟩ := Option.bind_eq_some_iff.mp e'
    refine q2 G F2 env' s' H'' x d env2 k2 pd h2 _ fun s3 k3 _ => ?_
    refine ⟨G, F2, env2, o2, k3, h3, ?_⟩
    cases o2 with
    | inr p =>
      cases e'
      exact RSX.up (E := E) (s1.trans (s''.trans s2)) q
    | inl o2 =>
      cases o2 with
      | nx env3 => exact fun F4 s4 H4 k4 s5 => ⟨F4, env3, k4, (s''.trans s2).trans s5, e'⟩
      | rt v ee =>
        cases e'
        exact (RSx.up (F := F) (E := E) (o := .rt v ee) (s1.trans (s''.trans s2)) q).same_rt rfl (by simp)
      | rn v ee =>
        cases e'
        exact (RSx.up (F := F) (E := E) (o := .rn v ee) (s1.trans (s''.trans s2)) q).same_rt rfl (by simp)
      | rp v w ee =>
        cases e'
        exact (RSx.up (F := F) (E := E) (o := .rp v w ee) (s1.trans (s''.trans s2)) q).same_rt rfl (by simp)
  · rw [List.drop_length] at e'
    cases e'
    exact q F' s' H' k' (s1.trans s'')
end

/-! ### except D as e: in the suite e is a value -/
/-- what is there already, new since the entry, is tracked from here on -/
theorem inv_track {X : Cx} {pins : List (Addr × Obj)} {sg : L2.St} {hp : Hp} {sh : Shared} {p : Addr} {u : HO} (iv : Inv X pins sg hp sh) (n0 : X.s_0.heap.get? p = none) (hn : hp p = none) (nL : p ≠ X.env.locals)
    (nC : ∀ y c, X.env.cells.lookup y = some c → c ≠ p) (np : ∀ r ∈ X.pn ++ pins, r.1 ≠ p) (ob : ObjOk X.prog X.w (upd hp p u) sh.heap p u) : Inv X pins sg (upd hp p u) sh := by
  have ne : ∀ {b o}, hp b = some o → b ≠ p := fun e z => by rw [z, hn] at e; cases e
  have un : Un X.fs X.ex X.H_0 (upd hp p u) X.s_0.heap sh.heap :=
    { keep := iv.base.keep, slot := iv.base.slot, there := iv.base.there
      free := fun b o e z hx => by
        rw [upd_ne fun y => by rw [y, n0] at e; cases e]
        exact iv.base.free b o e z hx
      tups := fun b l e => by have z := iv.base.tups b l e; rw [upd_ne (ne z)]; exact z
      frzs := fun b o w e => by have z := iv.base.frzs b o w e; rw [upd_ne (ne z)]; exact z
      tbls := fun b l e => by obtain ⟨m, z⟩ := iv.base.tbls b l e; exact ⟨m, by rw [upd_ne (ne z)]; exact z⟩ }
  refine { ok := iv.ok, os := iv.os, bare := iv.bare, base := un, loc := iv.loc, cell := iv.cell, len := iv.len, free := ?_, freeC := fun y c e => ?_, pin := fun r hr => ?_, hok := fun b o e => ?_ }
  · rw [upd_ne (Ne.symm nL)]; exact iv.free
  · rw [upd_ne (nC y c e)]; exact iv.freeC y c e
  · obtain ⟨h1, h2, h3⟩ := iv.pin r hr
    exact ⟨h1, by rw [upd_ne (np r hr)]; exact h2, h3⟩
  · by_cases hb : b = p
    · subst hb
      rw [upd_same] at e
      cases e
      exact ob
    · rw [upd_ne hb] at e
      refine (iv.hok b o e).stay (fun _ _ _ z => z) (fun c z => ?_) fun c l z => ?_
      · rw [upd_ne (ne z)]; exact z
      · rw [upd_ne (ne z)]; exact z
theorem suite_in {X : Cx} {pins : List (Addr × Obj)} {sg : L2.St} {hp : Hp} {sh : Shared} {p : Addr} (iv : Inv X pins sg hp sh) : Inv (X.suite p (X.pn ++ pins)) [] sg hp sh :=
  { ok := iv.ok.suite p _, os := iv.os, bare := iv.bare, base := iv.base, loc := iv.loc, cell := iv.cell, free := iv.free, freeC := iv.freeC, pin := fun r hr => iv.pin r (by rw [List.append_nil] at hr; exact hr), hok := iv.hok, len := iv.len }
theorem suite_out {X : Cx} {pins pl : List (Addr × Obj)} {sg : L2.St} {hp : Hp} {sh : Shared} {p : Addr} (iv : Inv (X.suite p (X.pn ++ pins)) pl sg hp sh) (ok : X.Ok) : Inv X pins sg hp sh :=
  { ok := ok, os := iv.os, bare := iv.bare, base := iv.base, loc := iv.loc, cell := iv.cell, free := iv.free, freeC := iv.freeC, pin := fun r hr => iv.pin r (List.mem_append_left _ hr), hok := iv.hok, len := iv.len }
def wV (K : Frg) (CD : Addr) (i : Nat) (ts : TS) (D : Ends) : WX := fun cls d sg hp => ∃ C, cls = .ref C ∧ PySem.W.exmOne K (.ref C) (.ref CD) = some true ∧ ∀ p, hp p = none →
  ts { nx := fun sg' hp' => D.nx (sg'.set i none) hp', rt := D.rt, bk := fun sg' hp' => D.bk (sg'.set i none) hp', ct := fun sg' hp' => D.ct (sg'.set i none) hp' } (sg.set i (some (.ref p))) (upd hp p (ExV C d p))
section
variable {X : Cx} {x n : Str} {CD : Addr} {i : Nat} {body sts : List Stmt} {st0 : Stmt} {np pos pos' : Pos} {tb : WX → TS} {ts : TS}
theorem ps_tryV (hs : X.stack = X.env :: X.outer) (hf : X.env.frame = some X.env.locals) (hex : X.ex = []) (hN : X.N.Nodup) (hi : X.N[i]? = some n) (hln : X.env.kindOf n = some .local) (hc : Names X x (.ref CD))
    (hb : ∀ (W : WX) (pn : List (Addr × Obj)) (xe : Value → Shared → Prop), Takes (X.tr pn xe) W → PassesOwn (model X.prog X.w) X.A X.env xe → PSs (X.tr pn xe) body (tb W)) (hsu : ∀ (p : Addr) (pn : List (Addr × Obj)), PSs (X.suite p pn) (st0 :: sts) ts) :
    PS X (.Try body [.ExceptHandler (some (.Name x np)) (some n) (st0 :: sts) pos'] [] [] pos) (fun D sg hp => tb (wV X.K CD i ts D) D sg hp) := by
  refine ⟨fun pins sh sg hp D iv h => ?_⟩
  have ok := iv.ok
  have hfr : X.A.frames = some (X.env :: X.outer) := by rw [ok.frames, hs]
  refine wpAny_Try_except (wpAny_mono ((hb (wV X.K CD i ts D) (X.pn ++ pins) (fun u sh1 => wpAny (model X.prog X.w) X.A (noteFrame u X.env) (fun _ sh2 => wpAny (model X.prog X.w) X.A (setFlight u none) (fun _ sh3 =>
    wpAny (model X.prog X.w) X.A (handleBy u X.env [.ExceptHandler (some (.Name x np)) (some n) (st0 :: sts) pos']) (SP X pins D) X.xe sh3) X.xe sh2) X.xe sh1) (fun u sh' xx => ?_) PassesOwn.looking).run [] sh sg hp D (iv.toTry _) h) (fun fl sh1 hsp => ?_) fun _ _ z => z)
  · obtain ⟨p, B, sI, pins', sg', hp', cls, d, rfl, J0, nb, up, sky, na, os, ag, C, rfl, hex1, hyes⟩ := xx
    have J : Inv X pins sg' hp' sI := J0.ofTry ok
    show wpAny (model X.prog X.w) X.A (noteFrame (.ref p) X.env) _ _ _
    refine Sky.land Zc.steady hfr hf (by rw [← hs]; exact sky) fun h3 fl3 up3 => ?_
    have J3 := J.landed nb fl3.1 (up.trans up3) (s' := { sh' with heap := h3 }) os ag
    obtain ⟨o3, vs3, ho3, hz3, hd3⟩ := fl3.there
    have nfr : p ∉ frs (X.env :: X.outer) := fun hm => by
      obtain ⟨_, o', e', hnf⟩ := fl3.2.2.1.mem hm
      rw [ho3] at e'
      cases e'
      exact hnf _ hd3
    have nL : p ≠ X.env.locals := fun z => nfr (List.mem_filterMap.mpr ⟨X.env, List.mem_cons_self, by rw [hf, z]⟩)
    have nB : B.get? p = none := fl3.2.1
    have nI : sI.heap.get? p = none := by
      cases e : sI.heap.get? p with
      | none => rfl
      | some o =>
        have z := nb p o e (by rw [hs]; exact nfr)
        rw [nB] at z; cases z
    have n0 : X.s_0.heap.get? p = none := by
      cases e : X.s_0.heap.get? p with
      | none => rfl
      | some o =>
        obtain ⟨o', z⟩ := J.base.there p o e (by rw [hex]; exact fun z => nomatch z)
        rw [nI] at z; cases z
    have LT : PySem.W.Looks (model X.prog X.w) h3 (typeOf (.ref p)) (.ref C) := fun A Q E s k q => wpAny_typeOf_ref (k _ _ ho3) (by rw [hz3.1]; exact q)
    have LM := PySem.W.exm_one (M := model X.prog X.w) J3.kIn LT hex1
    refine wpAny_handleBy_cons (codeAny_handlers_test ?_) (by intro q; cases q)
    have S3 : Inv (X.suite p (X.pn ++ pins)) [] sg' hp' { sh' with heap := h3 } := suite_in J3
    have test : ∀ {Q : Value → Shared → Prop} {E : Value → Shared → Prop}, Q (.ref CD) { sh' with heap := h3 } → wpAny (model X.prog X.w) (X.A.mark (some (.ref p))) (eval (.Name x np) X.env) Q E { sh' with heap := h3 } := fun {Q E} q => by
      obtain ⟨hg, hdbg, hm | ⟨hm, hv, hnn⟩⟩ := hc
      · exact ld_glob (X := X.suite p (X.pn ++ pins)) S3 hg hm q hdbg
      · exact ld_blt (X := X.suite p (X.pn ++ pins)) S3 hg hm hv q hnn hdbg
    refine test (LM.here (codeAny_handlers_suite_as ?_))
    refine HandSPX.lands_againZ fl3 fun h4 fl4 up4 => ?_
    have J4 := J.landed nb fl4.1 ((up.trans up3).trans up4) (s' := { sh' with heap := h4 }) os ag
    obtain ⟨o4, vs4, ho4, hz4, hd4⟩ := fl4.there
    have K4 : Inv X pins sg' (upd hp' p (ExV C d p)) { sh' with heap := h4 } := by
      refine inv_track J4 n0 na nL (fun y c e z => ?_) (fun r hr z => ?_) ⟨⟨o4, vs4, ho4, hz4, hd4⟩, ⟨o4, ho4⟩, fun _ _ ⟨oe, vs, e1, e2, e3⟩ kk => ⟨oe, vs, kk _ e1, e2, e3⟩⟩
      · obtain ⟨v, o, e1, e2⟩ := J4.cell y c e
        rw [z] at e1
        have e3 : h4.get? p = some o := e1
        rw [ho4] at e3
        cases e3
        rw [hd4] at e2
        cases e2
      · obtain ⟨e1, _⟩ := J.pin r hr
        rw [z, nI] at e1; cases e1
    refine store_ok (X := X.suite p (X.pn ++ pins)) (v := .ref p) (suite_in K4) hN hi (.inl hln) rfl (fun sh5 S5 => ?_) (.inr hln)
    refine wpAny_mono ((hsu p (X.pn ++ pins)).run [] sh5 _ _ _ S5 (hyes p na)) (fun fl sh6 hsp => ?_) (fun _ _ z => False.elim z)
    have fin : ∀ {sg6 : L2.St} {hp6 : Hp} {Q : Shared → Prop}, Inv (X.suite p (X.pn ++ pins)) [] sg6 hp6 sh6 → (∀ sh7, Inv X pins (sg6.set i none) hp6 sh7 → Q sh7) →
        wpAny (model X.prog X.w) X.A (do bindName X.env n .none; unbindBehindTheSuite X.env n pos') (fun _ sh7 => Q sh7) X.xe sh6 := fun {sg6 hp6 Q} S6 hq => gone_ok (suite_out S6 ok) hN hi hln hq
    cases fl with
    | next =>
      obtain ⟨sg6, hp6, S6, q6⟩ := hsp
      exact fin S6 fun sh7 J7 => ⟨_, _, J7, q6⟩
    | brk =>
      obtain ⟨sg6, hp6, S6, q6⟩ := hsp
      exact fin S6 fun sh7 J7 => ⟨_, _, J7, q6⟩
    | cont =>
      obtain ⟨sg6, hp6, S6, q6⟩ := hsp
      exact fin S6 fun sh7 J7 => ⟨_, _, J7, q6⟩
    | ret u =>
      obtain ⟨v6, sg6, hp6, S6, r6, q6⟩ := hsp
      exact fin S6 fun sh7 J7 => ⟨_, _, _, J7, r6, q6⟩
  · cases fl with
    | next => obtain ⟨sg', hp', J, q⟩ := hsp; exact wpAny_execs_nil ⟨sg', hp', J.ofTry ok, q⟩
    | brk => obtain ⟨sg', hp', J, q⟩ := hsp; exact ⟨sg', hp', J.ofTry ok, q⟩
    | cont => obtain ⟨sg', hp', J, q⟩ := hsp; exact ⟨sg', hp', J.ofTry ok, q⟩
    | ret u => obtain ⟨v, sg', hp', J, r, q⟩ := hsp; exact ⟨v, sg', hp', J.ofTry ok, r, q⟩
end
theorem ok_non {K : Frg} {G : Gm} {F : Hp} {env : En} {s : L2.St} {H : Hp} (i : Nat) (k : Ok K G F env s H) : Ok K G F (env.set i .no) (s.set i none) H := by
  have no : ∀ {j : Nat} {x : Sl}, (env.set i .no)[j]? = some x → x ≠ .no → i ≠ j ∧ env[j]? = some x := fun {j x} e hx => by
    rcases set_get e with ⟨_, _, z⟩ | ⟨h1, h2⟩
    · exact absurd z.symm hx
    · exact ⟨h1, h2⟩
  refine { len := by simp [k.len], fr := k.fr, val := fun j d e => ?_, own := fun j l es e => ?_, ro := fun j es e => ?_, sep := fun j j' l es m fs e1 e2 e3 => ?_, pin := k.pin, dom := k.dom, grow := k.grow, new := k.new, rin := k.rin, dct := k.dct.slots fun j w kvs e => ?_ }
  · obtain ⟨h1, h2⟩ := no e (by simp)
    rw [List.getElem?_set_ne h1]
    exact k.val j d h2
  · obtain ⟨h1, h2⟩ := no e (by simp)
    rw [List.getElem?_set_ne h1]
    exact k.own j l es h2
  · obtain ⟨h1, h2⟩ := no e (by simp)
    rw [List.getElem?_set_ne h1]
    exact k.ro j es h2
  · obtain ⟨h1, h2⟩ := no e1 (by simp)
    obtain ⟨h3, h4⟩ := no e2 (by simp)
    rw [List.getElem?_set_ne h1, List.getElem?_set_ne h3] at e3
    exact k.sep j j' _ _ _ _ h2 h4 e3
  · obtain ⟨h1, h2⟩ := no e (by simp)
    exact ⟨h2, List.getElem?_set_ne h1⟩
/-- a caught exception lies as a value -/
theorem ok_caught {K : Frg} {G : Gm} {F : Hp} {env : En} {s : L2.St} {H : Hp} {x : Xc} {cls : Value} {d : Option Addr} {p : Addr} (k : Ok K G F env s H) (h : IsX G.H0 F H x cls d) (hp : H p = none) : ∃ F', Ok K G F' env s (upd H p (ExV x.C d p)) ∧ Same F F' ∧ Dt F' (.ref p) (xD x) := by
  obtain ⟨C, fd⟩ := x
  obtain ⟨_, h2⟩ := h
  cases fd with
  | none =>
    cases (show d = none from h2)
    exact ⟨_, k.alloc hp, same_upd (k.fr.free hp), .xc upd_same⟩
  | some q =>
    obtain ⟨f, z⟩ := q
    obtain ⟨b, rfl, h3, h4, h5⟩ := h2
    have k1 := k.freeze h3 h4 h5 (fun j l es e y => by
      obtain ⟨a, vs, g1, g2, _⟩ := k.own j l es e
      rw [y] at g1
      cases g1
      rw [h3] at g2
      cases g2) (k.notdct h3 fun _ h => nomatch h)
    have s1 : Same F (upd F b (.xd [(f, .int z)])) := same_upd h4
    have s2 : Same (upd F b (.xd [(f, .int z)])) (upd (upd F b (.xd [(f, .int z)])) p (ExV C (some b) p)) := same_upd (k1.fr.free hp)
    exact ⟨_, k1.alloc hp, s1.trans s2, .xf upd_same (s2 _ _ upd_same)⟩
/-- a reading that hangs on the mirror alone -/
def cS (K : Frg) (f : Sf) : TS := fun E s H => ∃ G F env o, Ok K G F env s H ∧ f env = some o ∧ RSx K G F E o
theorem XSs.can {X : Cx} {sts : List Stmt} {f : Sf} (h : XSs X sts f) : PSs X sts (cS X.K f) := by
  obtain ⟨t, h1, h2⟩ := h.ex
  exact PSs.imp h1 fun E s H ⟨G, F, env, o, k, e, q⟩ => h2 G F env s H o k e E q
def outNo (i : Nat) : Out → Out
  | .nx env => .nx (env.set i .no)
  | o => o
def sTry (cat : Addr → Bool) (i : Nat) (f : Sfx) (g : Sf) : Sf := fun env => (f env).bind fun r => match r with
  | .inl o => some o
  | .inr (x, env1) => if cat x.C then (g (env1.set i (.val (xD x)))).map (outNo i) else none
section
variable {X : Cx} {x n : Str} {CD : Addr} {body sts : List Stmt} {st0 : Stmt} {np pos pos' : Pos} {f : Sfx} {g : Sf}
theorem xs_try (cat : Addr → Bool) (i : Nat) (hN : X.N.Nodup) (gC : X.mg x = some (.ref CD)) (hcat : ∀ C, cat C = true → PySem.W.exmOne X.K (.ref C) (.ref CD) = some true)
    (hb : ∀ (W : WX) (pn : List (Addr × Obj)) (xe : Value → Shared → Prop), Takes (X.tr pn xe) W → PassesOwn (model X.prog X.w) X.A X.env xe → XSsX (X.tr pn xe) W body f) (hsu : ∀ (p : Addr) (pn : List (Addr × Obj)), XSs (X.suite p pn) (st0 :: sts) g)
    (hs : X.stack = X.env :: X.outer := by rfl) (hf : X.env.frame = some X.env.locals := by rfl) (hex : X.ex = [] := by rfl) (hi : X.N[i]? = some n := by rfl) (hln : X.env.kindOf n = some .local := by rfl) (hg : Gl X x := by rfl) (hdb : (x == ("__debug__" : Str)) = false := by decide) :
    XS X (.Try body [.ExceptHandler (some (.Name x np)) (some n) (st0 :: sts) pos'] [] [] pos) (sTry cat i f g) := by
  refine ⟨_, ps_tryV hs hf hex hN hi hln ⟨hg, hdb, .inl gC⟩ (ts := cS X.K g) (tb := cSX X.K f) (fun W pn xe tk hp => (hb W pn xe tk hp).ok) (fun p pn => (hsu p pn).can), fun G F env s H o k e E q => ?_⟩
  unfold sTry at e
  obtain ⟨r, h1, e⟩ := Option.bind_eq_some_iff.mp e
  refine ⟨G, F, env, r, k, h1, ?_⟩
  cases r with
  | inl o1 => cases e; exact q
  | inr r =>
    obtain ⟨y, env1⟩ := r
    dsimp only at e
    split at e
    · rename_i hc
      obtain ⟨o1, h2, e⟩ := Option.map_eq_some_iff.mp e
      subst e
      intro F1 s1 H1 cls d k1 e1 hx
      refine ⟨y.C, hx.1, hcat _ hc, fun p hp => ?_⟩
      obtain ⟨F2, k2, e2, pd⟩ := ok_caught k1 hx hp
      refine ⟨G, F2, _, o1, ok_set k2 pd, h2, ?_⟩
      cases o1 with
      | nx env2 => exact fun F3 s3 H3 k3 e3 => q F3 _ H3 (ok_non i k3) ((e1.trans e2).trans e3)
      | rt v ee => exact fun F3 s3 H3 v k3 e3 p => q F3 s3 H3 v k3 ((e1.trans e2).trans e3) p
      | rn ds ee => exact fun F3 s3 H3 p vs k3 e3 h1 h2 h3 h4 h5 h6 => q F3 s3 H3 p vs k3 ((e1.trans e2).trans e3) h1 h2 h3 h4 h5 h6
      | rp as ds ee => exact fun F3 s3 H3 t p vs us k3 e3 nn => q F3 s3 H3 t p vs us k3 ((e1.trans e2).trans e3) nn
    · cases e
end

/-! ### isinstance and fields of a caught exception -/
/-- the class at D of what d says, for isinstance -/
def tyX : D → Option Value
  | .dict [(.int c, _)] => some (.ref c.toNat)
  | .dict _ => none
  | d => some (.type (tyD d))
/-- what isinstance asks of it -/
theorem kit_dt {X : Cx} {F H : Hp} {pins : List (Addr × Obj)} {sg : L2.St} {sh : Shared} {v : V} {u t : Value} {d : D} (iv : Inv X pins sg H sh) (k : Same F H) (hE : ∀ C, t = .ref C → ExcC X.K C) (h : Dt F v d) (ht : tyX d = some t) (r : RelV v u) :
    ∃ P : Heap → Prop, PySem.W.KitX X.K u t P ∧ P sh.heap ∧ u ≠ .builtin "__main__.__loader__#opaque" := by
  have base : TyX X.K H v t → ∃ P : Heap → Prop, PySem.W.KitX X.K u t P ∧ P sh.heap ∧ u ≠ .builtin "__main__.__loader__#opaque" := fun y => kit_of iv r y
  have exc : ∀ {a C : Addr} {dd : Option Addr}, v = .ref a → t = .ref C → F a = some (ExV C dd a) → (dd = none ∨ ∃ b f z, dd = some b ∧ F b = some (.xd [(f, .int z)])) → ∃ P : Heap → Prop, PySem.W.KitX X.K u t P ∧ P sh.heap ∧ u ≠ .builtin "__main__.__loader__#opaque" := fun {a C dd} hv ht' ha hd => by
    subst hv ht'
    cases (show u = Value.ref a from r)
    have T := hE C rfl
    obtain ⟨⟨oe, vs, e1, e2, e3⟩, _, _⟩ := iv.hok a _ (k _ _ ha)
    obtain ⟨cd, hcd⟩ := PySem.W.any_some T.hd
    have mk : ∀ {od : Option Obj}, PySem.W.InstAt sh.heap a oe C od → ∃ P : Heap → Prop, PySem.W.KitX X.K (.ref a) (.ref C) P ∧ P sh.heap ∧ Value.ref a ≠ .builtin "__main__.__loader__#opaque" := fun J =>
      ⟨_, PySem.W.kitx_exc (by rw [hcd.1]; rfl) T.hg T.hk T.hs T.ha T.hn T.ht T.hm, J, fun z => nomatch z⟩
    rcases hd with rfl | ⟨b, f, z, rfl, hb⟩
    · exact mk (od := none) ⟨e1, e2.1, by unfold PySem.W.notCls; rw [e3] <;> rfl, by rw [e2.2]; trivial⟩
    · obtain ⟨mA, hns, _⟩ := show ObjOk X.prog X.w H sh.heap b (.xd [(f, .int z)]) from iv.hok b _ (k _ _ hb)
      obtain ⟨od, ho, _⟩ := lookIn_ns hns
      exact mk (od := some od) ⟨e1, e2.1, by unfold PySem.W.notCls; rw [e3] <;> rfl, by rw [e2.2]; exact ho⟩
  cases h with
  | non => cases ht; exact base (.base .non)
  | bl b => cases ht; exact base (.base (.bl b))
  | int i => cases ht; exact base (.base (.int i))
  | str x => cases ht; exact base (.base (.str x))
  | lst a b => cases ht; exact base (.base (.lst (k _ _ a)))
  | tup a b => cases ht; exact base (.base (.tup (k _ _ a)))
  | xc ha => cases ht; exact exc rfl rfl ha (.inl rfl)
  | xf ha hb => cases ht; exact exc rfl rfl ha (.inr ⟨_, _, _, rfl, hb⟩)
  | dic _ _ _ => cases ht
def rIsD (K : Frg) : List V → Hp → VK → Prop := fun xs H Q => ∃ (x c : V) (cv t : Value) (d : D) (F : Hp) (b : Bool), xs = [x, c] ∧ ClsV c cv ∧ Same F H ∧ Dt F x d ∧ tyX d = some t ∧ (∀ C, t = .ref C → ExcC K C) ∧ PySem.W.kitOne K t cv = some b ∧ Q (.bl b) H
theorem call_isD {X : Cx} : CallR X (.builtin "isinstance") (rIsD X.K) := by
  rintro pins s σ H xs us Q I r ⟨x, c, cv, t, d, F, b, rfl, hc, fr, hd, ht, hE, hk, q⟩
  obtain _ | ⟨rx, _ | ⟨rc, rr⟩⟩ := r
  cases rr
  cases hc.eq rc
  obtain ⟨P, Z, hp, hx⟩ := kit_dt I fr hE hd ht rx
  exact PySem.W.kia_one Z I.kIn hp hk hx fun tk => ⟨.bl b, H, I.tok tk, rfl, q⟩
def rIsTD (K : Frg) : List V → Hp → VK → Prop := fun xs H Q => ∃ (x : V) (tp : Addr) (cs : List V) (cvs : List Value) (t : Value) (d : D) (F : Hp) (b : Bool), xs = [x, .ref tp] ∧ H tp = some (.tup cs) ∧ Paired ClsV cs cvs ∧ Same F H ∧ Dt F x d ∧ tyX d = some t ∧ (∀ C, t = .ref C → ExcC K C) ∧ PySem.W.kitAny K t cvs = some b ∧ Q (.bl b) H
theorem call_isTD {X : Cx} : CallR X (.builtin "isinstance") (rIsTD X.K) := by
  rintro pins s σ H xs us Q I r ⟨x, tp, cs, cvs, t, d, F, b, rfl, hT, hcs, fr, hd, ht, hE, hk, q⟩
  obtain _ | ⟨rx, _ | ⟨rc, rr⟩⟩ := r
  cases rr
  rename_i u1 u2
  cases (show u2 = Value.ref tp from rc)
  obtain ⟨P, Z, hp, hx⟩ := kit_dt I fr hE hd ht rx
  obtain ⟨_, its, rv, ob, h1, h2, n, h3⟩ := show ObjOk X.prog X.w H s.heap tp (.tup cs) from I.hok tp _ hT
  cases ClsV.all hcs rv
  obtain ⟨oc, od, dt, sl⟩ := ob
  dsimp only at h2 h3
  subst h2 h3
  exact PySem.W.kia_tup Z I.kIn hp h1 hk hx fun tk => ⟨.bl b, H, I.tok tk, rfl, q⟩
/-- what is told of an exception, by its class; of None it is no -/
def gIsO (tab : List (Addr × Bool)) : D → Option D
  | .none => some (.bool false)
  | .dict [(.int c, _)] => (tab.lookup c.toNat).map .bool
  | _ => none
/-- the classes' answers for one class cv, or for a row of them -/
def TabOk (K : Frg) (tab : List (Addr × Bool)) (cv : Value) : Prop := PySem.W.kitOne K (.type "NoneType") cv = some false ∧ ∀ r ∈ tab, ExcC K r.1 ∧ PySem.W.kitOne K (.ref r.1) cv = some r.2
def TabsOk (K : Frg) (tab : List (Addr × Bool)) (cvs : List Value) : Prop := PySem.W.kitAny K (.type "NoneType") cvs = some false ∧ ∀ r ∈ tab, ExcC K r.1 ∧ PySem.W.kitAny K (.ref r.1) cvs = some r.2
theorem lookup_mem {tab : List (Addr × Bool)} {C : Addr} {b : Bool} (h : tab.lookup C = some b) : (C, b) ∈ tab := by
  induction tab with
  | nil => cases h
  | cons r tab ih =>
    obtain ⟨C', b'⟩ := r
    rw [List.lookup_cons] at h
    split at h
    · rename_i e
      cases h
      rw [eq_of_beq e]
      exact List.mem_cons_self
    · exact List.mem_cons_of_mem _ (ih h)
theorem gIsO_of {K : Frg} {F : Hp} {v : V} {tab : List (Addr × Bool)} {d z : D} (hE : ∀ r ∈ tab, ExcC K r.1) (h : gIsO tab d = some z) : ∃ t b, z = .bool b ∧ tyX d = some t ∧ (∀ C, t = .ref C → ExcC K C) ∧ ((t = .type "NoneType" ∧ b = false) ∨ ∃ C, (C, b) ∈ tab ∧ t = .ref C) := by
  unfold gIsO at h
  split at h
  · cases h
    exact ⟨_, false, rfl, rfl, fun C z => (by cases z), .inl ⟨rfl, rfl⟩⟩
  · rename_i c q
    obtain ⟨b, h1, h2⟩ := Option.map_eq_some_iff.mp h
    have hm := lookup_mem h1
    exact ⟨_, b, h2.symm, rfl, fun C z => (by cases z; exact hE _ hm), .inr ⟨_, hm, rfl⟩⟩
  · cases h
section
variable {X : Cx} {e : Expr} {f : Ef} {p pos p2 : Pos}
theorem xe_isC {y : Str} {c : V} {cv : Value} (tab : List (Addr × Bool)) (T : TabOk X.K tab cv) (hc : ClsV c cv) (pc : PE X (.Name y p2) (tC c)) (hm : X.mg "isinstance" = none) (ha : XE X e f) (hg : Gl X "isinstance" := by rfl)
    (he : starEach [e, .Name y p2] X.env = (false, eval e X.env) :: starEach [.Name y p2] X.env := by rfl) (he2 : starEach [.Name y p2] X.env = (false, eval (.Name y p2) X.env) :: starEach [] X.env := by rfl) (hpl : (backTo pos (starEach [.Name y p2] X.env)).any (·.1) = false := by rfl) :
    XE X (.Call (.Name "isinstance" p) [e, .Name y p2] [] pos) (eUn (gIsO tab) f) := by
  obtain ⟨t, h1, h2⟩ := ha.ex
  refine ⟨_, pe_callB call_isD hg hm boot_isinstance (pa_cons h1 (pa_cons pc pa_nil he2) he) (by decide) (by decide) he hpl, fun G F env s H d env' k e Q q => ?_⟩
  obtain ⟨d1, h3, h4⟩ := un_some e
  obtain ⟨ty, b, rfl, h5, h6, h7⟩ := gIsO_of (F := F) (v := .non) (fun r hr => (T.2 r hr).1) h4
  refine h2 G F env s H d1 env' k h3 _ fun F1 H1 v1 k1 s1 p1 => ?_
  refine ⟨v1, c, cv, ty, d1, F1, b, rfl, hc, k1.fr, p1, h5, h6, ?_, q F1 H1 _ k1 s1 (.bl _)⟩
  rcases h7 with ⟨rfl, rfl⟩ | ⟨C, hC, rfl⟩
  · exact T.1
  · exact (T.2 _ hC).2
theorem xe_isO {y : Str} {CN : Addr} (tab : List (Addr × Bool)) (T : TabOk X.K tab (.ref CN)) (hmy : X.mg y = some (.ref CN)) (hm : X.mg "isinstance" = none) (ha : XE X e f) (hgy : Gl X y := by rfl) (hdb : (y == ("__debug__" : Str)) = false := by decide) (hg : Gl X "isinstance" := by rfl)
    (he : starEach [e, .Name y p2] X.env = (false, eval e X.env) :: starEach [.Name y p2] X.env := by rfl) (he2 : starEach [.Name y p2] X.env = (false, eval (.Name y p2) X.env) :: starEach [] X.env := by rfl) (hpl : (backTo pos (starEach [.Name y p2] X.env)).any (·.1) = false := by rfl) :
    XE X (.Call (.Name "isinstance" p) [e, .Name y p2] [] pos) (eUn (gIsO tab) f) := xe_isC tab T (.own CN) (pe_glob hgy hmy rfl hdb) hm ha hg he he2 hpl
theorem xe_isVE (tab : List (Addr × Bool)) (T : TabOk X.K tab (.type "ValueError")) (hmy : X.mg "ValueError" = none) (hm : X.mg "isinstance" = none) (ha : XE X e f) (hgy : Gl X "ValueError" := by rfl) (hg : Gl X "isinstance" := by rfl)
    (he : starEach [e, .Name "ValueError" p2] X.env = (false, eval e X.env) :: starEach [.Name "ValueError" p2] X.env := by rfl) (he2 : starEach [.Name "ValueError" p2] X.env = (false, eval (.Name "ValueError" p2) X.env) :: starEach [] X.env := by rfl) (hpl : (backTo pos (starEach [.Name "ValueError" p2] X.env)).any (·.1) = false := by rfl) :
    XE X (.Call (.Name "isinstance" p) [e, .Name "ValueError" p2] [] pos) (eUn (gIsO tab) f) := xe_isC tab T (.ty "ValueError") (pe_bltn (v := .ty "ValueError") hgy hmy L2.boot_ValueError rfl (by decide) (by decide)) hm ha hg he he2 hpl
/-- a row of own classes -/
inductive PCs (X : Cx) : List Expr → List Value → Prop
  | nil : PCs X [] []
  | cons {y : Str} {p : Pos} {C : Addr} {es : List Expr} {cvs : List Value} (hm : X.mg y = some (.ref C)) (t : PCs X es cvs) (hg : Gl X y := by rfl) (hdb : (y == ("__debug__" : Str)) = false := by decide)
      (he : starEach (.Name y p :: es) X.env = (false, eval (.Name y p) X.env) :: starEach es X.env := by rfl) : PCs X (.Name y p :: es) (.ref C :: cvs)
theorem PCs.pa {es : List Expr} {cvs : List Value} (h : PCs X es cvs) : ∃ t, PA X es t ∧ ∃ cs, Paired ClsV cs cvs ∧ cs.length = es.length ∧ ∀ s H Q, Q cs H → t s H Q := by
  induction h with
  | nil => exact ⟨_, pa_nil, [], .nil, rfl, fun s H Q q => q⟩
  | @cons y p C es cvs hm t hg hdb he ih =>
    obtain ⟨u, h1, cs, h2, h3, h4⟩ := ih
    exact ⟨_, pa_cons (pe_glob (v := .ref C) hg hm rfl hdb) h1 he, .ref C :: cs, .cons (.own C) h2, by simp [h3], fun s H Q q => h4 s H _ q⟩
theorem xe_isT {es : List Expr} {x1 : Nat} {cvs : List Value} (tab : List (Addr × Bool)) (T : TabsOk X.K tab cvs) (hcs : PCs X es cvs) (hl : es.length ≤ 16) (hm : X.mg "isinstance" = none) (ha : XE X e f) (hg : Gl X "isinstance" := by rfl)
    (he : starEach [e, .Tuple es x1 p2] X.env = (false, eval e X.env) :: starEach [.Tuple es x1 p2] X.env := by rfl) (he2 : starEach [.Tuple es x1 p2] X.env = (false, eval (.Tuple es x1 p2) X.env) :: starEach [] X.env := by rfl) (hpl : (backTo pos (starEach [.Tuple es x1 p2] X.env)).any (·.1) = false := by rfl) :
    XE X (.Call (.Name "isinstance" p) [e, .Tuple es x1 p2] [] pos) (eUn (gIsO tab) f) := by
  obtain ⟨t, h1, h2⟩ := ha.ex
  obtain ⟨u, g1, cs, g2, g3, g4⟩ := hcs.pa
  refine ⟨_, pe_callB call_isTD hg hm boot_isinstance (pa_cons h1 (pa_cons (pe_tup g1) pa_nil he2) he) (by decide) (by decide) he hpl, fun G F env s H d env' k e Q q => ?_⟩
  obtain ⟨d1, h3, h4⟩ := un_some e
  obtain ⟨ty, b, rfl, h5, h6, h7⟩ := gIsO_of (F := F) (v := .non) (fun r hr => (T.2 r hr).1) h4
  refine h2 G F env s H d1 env' k h3 _ fun F1 H1 v1 k1 s1 p1 => ?_
  refine g4 s H1 _ ⟨by rw [g3, sizeLine_eq]; omega, fun tp htp => ?_⟩
  have k2 := k1.laid (o := .tup cs) htp
  refine ⟨v1, tp, cs, cvs, ty, d1, F1, b, rfl, upd_same, g2, k2.fr, p1, h5, h6, ?_, q F1 _ _ k2 s1 (.bl _)⟩
  rcases h7 with ⟨rfl, rfl⟩ | ⟨C, hC, rfl⟩
  · exact T.1
  · exact (T.2 _ hC).2
/-- e.f -/
def gAttr (C : Addr) (n : Str) : D → Option D
  | .dict [(.int c, .tuple [.str g, .int z])] => if decide (c = (C : Int)) && (g == n) then some (.int z) else none
  | _ => none
end
/-! ### the classes' facts -/
theorem kit_self {K : Frg} {C : Addr} : PySem.W.kitOne K (.ref C) (.ref C) = some true := by
  unfold PySem.W.kitOne
  rw [if_pos (beq_self_eq_true _)]
theorem kit_own {K : Frg} {C : Addr} {t : Value} {b : Bool} (h : PySem.W.subIn K t (.ref C) = some b) (hc : PySem.W.isClsIn K C = true) (ht : PySem.W.typeIn K (.ref C) = some (.type "type")) (ne : (t == Value.ref C) = false) : PySem.W.kitOne K t (.ref C) = some b := by
  have hc' : (PySem.W.clsIn K C).isSome = true := hc
  unfold PySem.W.kitOne PySem.W.kitCls
  rw [ne, if_neg Bool.false_ne_true]
  dsimp only
  rw [hc', ht]
  exact h
theorem kit_blt {K : Frg} {n : String} {t : Value} {b : Bool} (h : PySem.W.subIn K t (.type n) = some b) (hm : PySem.W.kitMeta n = true) (ne : (t == Value.type n) = false) : PySem.W.kitOne K t (.type n) = some b := by
  unfold PySem.W.kitOne PySem.W.kitCls
  rw [ne, if_neg Bool.false_ne_true]
  dsimp only
  rw [if_pos hm]
  exact h
theorem any_nil {K : Frg} {t : Value} : PySem.W.kitAny K t [] = some false := rfl
theorem any_cons {K : Frg} {t c : Value} {cs : List Value} {b r : Bool} (h : PySem.W.kitOne K t c = some b) (hr : PySem.W.kitAny K t cs = some r) : PySem.W.kitAny K t (c :: cs) = some (b || r) := by
  unfold PySem.W.kitAny
  rw [h]
  cases b with
  | true => rfl
  | false => exact hr
theorem TabOk.nil {K : Frg} {cv : Value} (h : PySem.W.kitOne K (.type "NoneType") cv = some false) : TabOk K [] cv := ⟨h, fun _ z => nomatch z⟩
theorem TabOk.add {K : Frg} {cv : Value} {tab : List (Addr × Bool)} {C : Addr} {b : Bool} (e : ExcC K C) (h : PySem.W.kitOne K (.ref C) cv = some b) (t : TabOk K tab cv) : TabOk K ((C, b) :: tab) cv := ⟨t.1, fun r hr => by
  rcases List.mem_cons.mp hr with rfl | hr
  · exact ⟨e, h⟩
  · exact t.2 r hr⟩
theorem TabsOk.nil {K : Frg} {cvs : List Value} (h : PySem.W.kitAny K (.type "NoneType") cvs = some false) : TabsOk K [] cvs := ⟨h, fun _ z => nomatch z⟩
theorem TabsOk.add {K : Frg} {cvs : List Value} {tab : List (Addr × Bool)} {C : Addr} {b : Bool} (e : ExcC K C) (h : PySem.W.kitAny K (.ref C) cvs = some b) (t : TabsOk K tab cvs) : TabsOk K ((C, b) :: tab) cvs := ⟨t.1, fun r hr => by
  rcases List.mem_cons.mp hr with rfl | hr
  · exact ⟨e, h⟩
  · exact t.2 r hr⟩
def catOf (l : List Addr) (C : Addr) : Bool := l.contains C
theorem cat_nil {K : Frg} {D : Addr} : ∀ C, catOf [] C = true → PySem.W.exmOne K (.ref C) (.ref D) = some true := fun C h => by cases h
theorem cat_add {K : Frg} {l : List Addr} {C0 D : Addr} (b : PySem.W.subIn K (.ref D) (.type "BaseException") = some true) (hc : PySem.W.hasDictIn K D = true) (t : PySem.W.typeIn K (.ref D) = some (.type "type")) (h : PySem.W.subIn K (.ref C0) (.ref D) = some true)
    (r : ∀ C, catOf l C = true → PySem.W.exmOne K (.ref C) (.ref D) = some true) : ∀ C, catOf (C0 :: l) C = true → PySem.W.exmOne K (.ref C) (.ref D) = some true := fun C hC => by
  unfold catOf at hC
  rw [List.contains_cons] at hC
  rcases Bool.or_eq_true_iff.mp hC with e | e
  · rw [eq_of_beq e]
    exact PySem.W.exm_ref b hc t h
  · exact r C e
end M

namespace M
open PySem PySem.Spec PyProof.Rows L2
/-! ### rules about the mirrors of what may raise -/
structure Px where
  n : En → Prop
  r : D → En → Prop
  l : List D → En → Prop
  x : Xc → En → Prop
def Px.at (Q : Px) : Ox → Prop
  | .inl o => Po.at ⟨Q.n, Q.r, Q.l⟩ o
  | .inr (x, e) => Q.x x e
def WSX (f : Sfx) (env : En) (Q : Px) : Prop := ∃ o, f env = some o ∧ Q.at o
def WEX (f : Efx) (env : En) (Q : D → En → Prop) (X : Xc → En → Prop) : Prop := ∃ o, f env = some o ∧ match o with
  | .inl (d, e) => Q d e
  | .inr (x, e) => X x e
def WGX (g : Gfx) (args : List Sl) (Q : D → List Sl → Prop) (X : Xc → Prop) : Prop := ∃ o, g args = some o ∧ match o with
  | .inl (d, a) => Q d a
  | .inr (x, _) => X x
def CallGX (g : Gfx) (as : List Ar) (e : En) (Q : D → En → Prop) (X : Xc → En → Prop) : Prop := rSlots as = [] ∧ WO (resArs e as) fun args => WGX g args (fun d _ => Q d e) fun x => X x e
section
variable {env : En} {N : En → Prop} {R : D → En → Prop} {L : List D → En → Prop} {X : Xc → En → Prop} {f g : Sfx} {fe : Efx} {c : Bf} {i : Nat}
theorem WGX.mono {g : Gfx} {as : List Sl} {Q Q' : D → List Sl → Prop} {X X' : Xc → Prop} (h : WGX g as Q X) (m1 : ∀ d a, Q d a → Q' d a) (m2 : ∀ x, X x → X' x) : WGX g as Q' X' := by
  obtain ⟨o, h1, h2⟩ := h
  refine ⟨o, h1, ?_⟩
  cases o with
  | inl o => exact m1 _ _ h2
  | inr o => exact m2 _ h2
theorem wsx_lift {f : Sf} (h : WS f env ⟨N, R, L⟩) : WSX (sLift f) env ⟨N, R, L, X⟩ := by
  obtain ⟨o, h1, h2⟩ := h
  exact ⟨.inl o, by unfold sLift; rw [h1]; rfl, h2⟩
theorem wsx_seq (h : WSX f env ⟨fun e => WSX g e ⟨N, R, L, X⟩, R, L, X⟩) : WSX (sSeqX f g) env ⟨N, R, L, X⟩ := by
  obtain ⟨o, h1, h2⟩ := h
  cases o with
  | inr p => exact ⟨.inr p, by unfold sSeqX; rw [h1]; rfl, h2⟩
  | inl o =>
    cases o with
    | nx e =>
      obtain ⟨o, h3, h4⟩ : WSX g e ⟨N, R, L, X⟩ := h2
      exact ⟨o, by unfold sSeqX; rw [h1]; exact h3, h4⟩
    | rt d e => exact ⟨.inl (.rt d e), by unfold sSeqX; rw [h1]; rfl, h2⟩
    | rn d e => exact ⟨.inl (.rn d e), by unfold sSeqX; rw [h1]; rfl, h2⟩
    | rp as ds e => exact ⟨.inl (.rp as ds e), by unfold sSeqX; rw [h1]; rfl, h2⟩
theorem wsx_if (h : WB c env fun b e => IfB b (WSX f e ⟨N, R, L, X⟩) (WSX g e ⟨N, R, L, X⟩)) : WSX (sIfX c f g) env ⟨N, R, L, X⟩ := by
  obtain ⟨b, e, h1, h2⟩ := h
  cases b with
  | true => obtain ⟨o, h3, q⟩ : WSX f e ⟨N, R, L, X⟩ := h2; exact ⟨o, by unfold sIfX; rw [h1]; exact h3, q⟩
  | false => obtain ⟨o, h3, q⟩ : WSX g e ⟨N, R, L, X⟩ := h2; exact ⟨o, by unfold sIfX; rw [h1]; exact h3, q⟩
theorem wsx_raise0 {C : Addr} (h : X ⟨C, none⟩ env) : WSX (sRaise0 C) env ⟨N, R, L, X⟩ := ⟨_, rfl, h⟩
theorem wsx_up {h : D → En → Out} {Q : Px} (w : WEX fe env (fun d e => Q.at (.inl (h d e))) Q.x) : WSX (eUp fe h) env Q := by
  obtain ⟨o, h1, h2⟩ := w
  cases o with
  | inl o => exact ⟨.inl (h o.1 o.2), by unfold eUp; rw [h1]; rfl, h2⟩
  | inr o => exact ⟨.inr o, by unfold eUp; rw [h1]; rfl, h2⟩
theorem wsx_expr (h : WEX fe env (fun _ e => N e) X) : WSX (sExprX fe) env ⟨N, R, L, X⟩ := wsx_up h
theorem wsx_ret (h : WEX fe env R X) : WSX (sRetX fe) env ⟨N, R, L, X⟩ := wsx_up h
theorem wsx_set (h : WEX fe env (fun d e => Nrm (e.set i (.val d)) N) X) : WSX (sSetX i fe) env ⟨N, R, L, X⟩ := wsx_up h
theorem wex_call {g : Gfx} {fa : Af} {Q : D → En → Prop} (h : WA fa env fun as e => CallGX g as e Q X) : WEX (eCallX g fa) env Q X := by
  obtain ⟨as, e, h1, h2, args, h3, o, h4, h5⟩ := h
  cases o with
  | inl o => exact ⟨.inl (o.1, e), by unfold eCallX; simp [h1, h2, h3, h4], h5⟩
  | inr o => exact ⟨.inr (o.1, e), by unfold eCallX; simp [h1, h2, h3, h4], h5⟩
theorem cgx0 {g : Gfx} {as : List Ar} {Q : D → En → Prop} (hr : rSlots as = []) (h : WO (resArs env as) fun args => WGX g args (fun d _ => Q d env) fun x => X x env) : CallGX g as env Q X := ⟨hr, h⟩
theorem wgx_run {n np : Nat} {args : List Sl} {Q : D → List Sl → Prop} {Y : Xc → Prop} (hl : args.length = np) (h : Nrm (args ++ List.replicate (n - np) .no) fun e => WSX f e ⟨fun e => Q .none (e.take np), fun d e => Q d (e.take np), fun ds e => Q (.list ds) (e.take np), fun x _ => Y x⟩) : WGX (fnRunX n np f) args Q Y := by
  obtain ⟨o, h1, h2⟩ := h
  cases o with
  | inr o => exact ⟨.inr (o.1, o.2.take np), by unfold fnRunX; rw [if_pos hl, h1]; rfl, h2⟩
  | inl o =>
    refine ⟨.inl (outD np o), by unfold fnRunX; rw [if_pos hl, h1]; rfl, ?_⟩
    cases o <;> exact h2
theorem ws_try {cat : Addr → Bool} {g : Sf} (h : WSX f env ⟨N, R, L, fun x e => cat x.C = true ∧ WS g (e.set i (.val (xD x))) ⟨fun e => N (e.set i .no), R, L⟩⟩) : WS (sTry cat i f g) env ⟨N, R, L⟩ := by
  obtain ⟨o, h1, h2⟩ := h
  cases o with
  | inl o => exact ⟨o, by unfold sTry; rw [h1]; rfl, h2⟩
  | inr o =>
    obtain ⟨x, e⟩ := o
    obtain ⟨h3, o, h4, h5⟩ : cat x.C = true ∧ WS g (e.set i (.val (xD x))) ⟨fun e => N (e.set i .no), R, L⟩ := h2
    refine ⟨outNo i o, by unfold sTry; rw [h1]; simp [h3, h4], ?_⟩
    cases o <;> exact h5
theorem wo_isO {tab : List (Addr × Bool)} {x : Xc} {b : Bool} {Q : D → Prop} (h : tab.lookup x.C = some b) (q : Q (.bool b)) : WO (gIsO tab (xD x)) Q := ⟨_, by
  unfold gIsO xD
  obtain ⟨C, fd⟩ := x
  have : (Int.toNat (C : Int)) = C := rfl
  simp only [this, h]
  rfl, q⟩
theorem wo_isON {tab : List (Addr × Bool)} {Q : D → Prop} (q : Q (.bool false)) : WO (gIsO tab .none) Q := ⟨_, rfl, q⟩
theorem wo_attr {C : Addr} {n : Str} {z : Int} {Q : D → Prop} (q : Q (.int z)) : WO (gAttr C n (xD ⟨C, some (n, z)⟩)) Q := ⟨_, by unfold gAttr xD; simp, q⟩
theorem for_goX {t : Tf} {b : Sfx} {Q : Px} (I : Nat → En → Prop) (ds : List D) (hs : ∀ k d e, ds[k]? = some d → I k e → WT t d e fun e1 => WSX b e1 ⟨I (k + 1), Q.r, Q.l, Q.x⟩) (hd : ∀ e, I ds.length e → Q.n e) : ∀ (m k : Nat) (e : En), m + k = ds.length → I k e → WSX (fun env => forGoX t b (ds.drop k) env) e Q
  | 0, k, e, hm, hi => by
    rw [Nat.zero_add] at hm
    subst hm
    exact ⟨.inl (.nx e), by rw [List.drop_length]; rfl, hd e hi⟩
  | m + 1, k, e, hm, hi => by
    have hk : k < ds.length := by omega
    have hg : ds[k]? = some ds[k] := List.getElem?_eq_getElem hk
    obtain ⟨e1, h1, o, h2, h3⟩ := hs k _ e hg hi
    have hdr : ds.drop k = ds[k] :: ds.drop (k + 1) := List.drop_eq_getElem_cons hk
    have go : ∀ o', (match o with | .inl (.nx env2) => forGoX t b (ds.drop (k + 1)) env2 | o => some o) = some o' → forGoX t b (ds.drop k) e = some o' := fun o' z => by
      rw [hdr]
      unfold forGoX
      rw [h1, Option.bind_some, h2, Option.bind_some]
      exact z
    cases o with
    | inr p => exact ⟨_, go _ rfl, h3⟩
    | inl o =>
      cases o with
      | nx e2 =>
        obtain ⟨o', h4, h5⟩ := for_goX I ds hs hd m (k + 1) e2 (by omega) h3
        exact ⟨o', go _ h4, h5⟩
      | rt d e2 => exact ⟨_, go _ rfl, h3⟩
      | rn d e2 => exact ⟨_, go _ rfl, h3⟩
      | rp as d e2 => exact ⟨_, go _ rfl, h3⟩
theorem wsx_forN {src : Lf} {t : Tf} {b : Sfx} (I : List D → Nat → En → Prop) (h : WL src env fun ds e => I ds 0 e ∧ (∀ k d e, ds[k]? = some d → I ds k e → WT t d e fun e1 => WSX b e1 ⟨I ds (k + 1), R, L, X⟩) ∧ ∀ e, I ds ds.length e → N e) : WSX (sForX src t b) env ⟨N, R, L, X⟩ := by
  obtain ⟨ds, e, h1, h2, h3, h4⟩ := h
  obtain ⟨o, h5, h6⟩ := for_goX (Q := ⟨N, R, L, X⟩) (I ds) ds h3 h4 ds.length 0 e (by omega) h2
  exact ⟨o, by unfold sForX; rw [h1]; exact h5, h6⟩
end
end M

namespace M
open PySem PySem.Spec PyProof.Rows L2

/-! ### a refusal that bears a number: class C(D): def __init__(self, f): D.__init__(self, '..'); self.f = f -/
section
variable {X : Cx} {e : Expr} {es : List Expr} {ta : TA} {p1 p2 pos : Pos}
end
section
variable {P : Program} {w : World} {K : Frg} {mg : Str → Option Value} {base : Heap}
end
section
variable {X : Cx} {W : WX} {e : Expr} {fe : Ef} {p pos pos2 : Pos}
end
/-! ### raising within an expression: two mirrors, the value's and the exception's -/
abbrev Rf := En → Option (Xc × En)
section
variable {X : Cx} {W : WX} {e a b : Expr} {es : List Expr} {f fa fb : Ef} {fr : Rf} {g : Af} {fx : Efx} {p pos : Pos}
end
/-! their rules -/
section
variable {env : En} {f : Ef} {fr : Rf} {fx : Efx} {Q : D → En → Prop} {Y : Xc → En → Prop}
end
/-! ### where nothing is raised, both mirrors agree -/
section
variable {f g : Sf} {fx gx : Sfx} {fe : Ef} {ex : Efx} {a : Af} {i : Nat}
end
end M

namespace M
open PySem PySem.Spec PyProof.Rows L2
/-! ### a list unpacked into names -/
def tTL (n : Nat) (r : List D → En → Option En) : Tf := fun d env => match d with
  | .list ds => if ds.length = n then r ds env else none
  | _ => none
theorem wt_unl {env : En} {n : Nat} {r : List D → En → Option En} {ds : List D} {Q : En → Prop} (hl : ds.length = n) (h : WTs r ds env Q) : WT (tTL n r) (.list ds) env Q := by
  obtain ⟨e, h, q⟩ := h
  exact ⟨e, by unfold tTL; simp [hl, h], q⟩
end M

namespace M
open PySem PySem.Spec PyProof.Rows L2
/-! ### dicts: keys as data -/
section
variable {P : Program} {w : World} {F H : Hp} {h : Heap}
mutual
theorem nis_of (ok : HOk P w H h) (e : Same F H) : ∀ (d : D) (v : V) (u : Value) (k : NestedKey), Dt F v d → nkOf d = some k → RelV v u → NestedIs h k u
  | .none, _, _, _, p, q, r => by cases p; cases r; unfold nkOf at q; cases q; exact .none
  | .bool b, _, _, _, p, q, r => by cases p; cases r; unfold nkOf at q; cases q; exact .bool rfl
  | .int i, _, _, _, p, q, r => by cases p; obtain ⟨t, rfl⟩ := r; unfold nkOf at q; cases q; exact .int i t
  | .str x, _, _, _, p, q, r => by cases p; obtain ⟨t, rfl⟩ := r; unfold nkOf at q; cases q; exact .text x t
  | .tuple ds, _, _, _, p, q, r => by
    cases p with
    | tup s a =>
      cases r
      unfold nkOf at q
      obtain ⟨ks, q1, rfl⟩ := Option.map_eq_some_iff.mp q
      obtain ⟨_, its, rv, ob, g1, g2, n, g3⟩ := ok _ _ (e _ _ s)
      exact .tup g1 g2 g3 (nis_all ok e ds _ its ks a q1 rv)
  | .list _, _, _, _, _, q, _ => by unfold nkOf at q; cases q
  | .dict _, _, _, _, _, q, _ => by unfold nkOf at q; cases q
theorem nis_all (ok : HOk P w H h) (e : Same F H) : ∀ (ds : List D) (vs : List V) (us : List Value) (ks : List NestedKey), Da F vs ds → nkAll ds = some ks → Vals vs us → NestedAll h ks us
  | [], _, _, _, p, q, r => by cases p; cases r; unfold nkAll at q; cases q; exact .nil
  | d :: ds, _, _, _, p, q, r => by
    cases p with
    | cons p1 p2 =>
      cases r with
      | cons r1 r2 =>
        unfold nkAll at q
        obtain ⟨k, q1, q⟩ := Option.bind_eq_some_iff.mp q
        obtain ⟨ks, q2, rfl⟩ := Option.map_eq_some_iff.mp q
        exact .cons (nis_of ok e d _ _ k p1 q1 r1) (nis_all ok e ds _ _ ks p2 q2 r2)
end
end
def isTK (d : D) : Bool := match nkOf d with
  | some (.tup ks) => decide ((NestedKey.tup ks).depth ≤ 8)
  | _ => false
def isLK : D → Bool
  | .str _ => true
  | .int _ => true
  | _ => false
def kmode (kvs : List (D × D)) (kd : D) : Bool := (isTK kd && kvs.all fun p => isTK p.1) || (isLK kd && kvs.all fun p => isLK p.1)
def dFind (kvs : List (D × D)) (kd : D) : Option D := (kvs.find? fun p => decide (nkOf p.1 = nkOf kd)).map (·.2)
def dPut (kvs : List (D × D)) (kd vd : D) : List (D × D) := if (dFind kvs kd).isSome then kvs.map fun p => if nkOf p.1 = nkOf kd then (p.1, vd) else p else kvs ++ [(kd, vd)]
theorem isTK_some {d : D} (h : isTK d = true) : ∃ ks, nkOf d = some (.tup ks) ∧ (NestedKey.tup ks).depth ≤ 8 := by
  unfold isTK at h
  split at h
  · rename_i ks e
    exact ⟨ks, e, of_decide_eq_true h⟩
  · cases h
theorem tk_ref {F : Hp} {v : V} {d : D} (p : Dt F v d) (h : isTK d = true) : ∃ b, v = .ref b := by
  obtain ⟨ks, e, _⟩ := isTK_some h
  cases p with
  | tup s a => exact ⟨_, rfl⟩
  | lst s a => exact ⟨_, rfl⟩
  | xc s => exact ⟨_, rfl⟩
  | xf s a => exact ⟨_, rfl⟩
  | dic s a b => exact ⟨_, rfl⟩
  | _ => unfold nkOf at e; cases e
/-- entries, data, the kit's entries -/
inductive T3 (F : Hp) (w : World) : List (Int × V × V) → List (D × D) → List (NestedKey × Addr × Value) → Prop
  | nil : T3 F w [] [] []
  | cons {e : Int × V × V} {p : D × D} {x : NestedKey × Addr × Value} {es ps xs} : nkOf p.1 = some x.1 → e.1 = x.1.hash w → e.2.1 = .ref x.2.1 → RelV e.2.2 x.2.2 → Dt F e.2.1 p.1 → Dt F e.2.2 p.2 → T3 F w es ps xs → T3 F w (e :: es) (p :: ps) (x :: xs)
section
variable {F : Hp} {w : World} {es : List (Int × V × V)} {kvs : List (D × D)} {xs : List (NestedKey × Addr × Value)}
theorem T3.len (t : T3 F w es kvs xs) : kvs.length = xs.length := by
  induction t with
  | nil => rfl
  | cons _ _ _ _ _ _ _ ih => simp [ih]
theorem T3.find (t : T3 F w es kvs xs) {kd : D} {nk : NestedKey} (hk : nkOf kd = some nk) : (∀ vd, dFind kvs kd = some vd → ∃ b u v, atKey xs nk = some (b, u) ∧ RelV v u ∧ Dt F v vd) ∧ (dFind kvs kd = none → atKey xs nk = none) := by
  unfold dFind atKey
  rw [hk]
  induction t with
  | nil => exact ⟨fun _ h => (by cases h), fun _ => rfl⟩
  | @cons e p x es ps xs h1 h2 h3 h4 h5 h6 _ ih =>
    rw [List.find?_cons, List.find?_cons]
    by_cases hx : x.1 = nk
    · have : decide (nkOf p.1 = some nk) = true := decide_eq_true (by rw [h1, hx])
      rw [this, decide_eq_true hx]
      exact ⟨fun vd h => by cases h; exact ⟨x.2.1, x.2.2, e.2.2, rfl, h4, h6⟩, fun h => (by cases h)⟩
    · have : decide (nkOf p.1 = some nk) = false := decide_eq_false (by rw [h1]; exact fun z => hx (Option.some.inj z))
      rw [this, decide_eq_false hx]
      exact ih
theorem T3.app (t : T3 F w es kvs xs) {e : Int × V × V} {p : D × D} {x : NestedKey × Addr × Value} (t1 : T3 F w [e] [p] [x]) : T3 F w (es ++ [e]) (kvs ++ [p]) (xs ++ [x]) := by
  induction t with
  | nil => exact t1
  | cons h1 h2 h3 h4 h5 h6 _ ih => exact .cons h1 h2 h3 h4 h5 h6 ih
theorem T3.put (t : T3 F w es kvs xs) {kd vd : D} {nk : NestedKey} {b : Addr} {u : Value} {v : V} (hk : nkOf kd = some nk) (py : Dt F (.ref b) kd) (pv : Dt F v vd) (r : RelV v u) : ∃ es', T3 F w es' (dPut kvs kd vd) (storedH xs nk b u) := by
  have hf := t.find hk
  unfold dPut storedH
  cases hd : dFind kvs kd with
  | some d0 =>
    obtain ⟨b0, u0, v0, h0, _⟩ := hf.1 d0 hd
    rw [h0]
    simp only [Option.isSome_some, if_true]
    clear hf hd h0
    rw [hk]
    induction t with
    | nil => exact ⟨[], .nil⟩
    | @cons e p x es ps xs h1 h2 h3 h4 h5 h6 _ ih =>
      obtain ⟨es', ih⟩ := ih
      rw [List.map_cons, List.map_cons]
      by_cases hx : x.1 = nk
      · rw [if_pos (by rw [h1, hx]), putAt, if_pos hx]
        exact ⟨(e.1, e.2.1, v) :: es', .cons h1 h2 h3 r h5 pv ih⟩
      · rw [if_neg (by rw [h1]; exact fun z => hx (Option.some.inj z)), putAt, if_neg hx]
        exact ⟨e :: es', .cons h1 h2 h3 h4 h5 h6 ih⟩
  | none =>
    rw [hf.2 hd]
    simp only [Option.isSome_none, Bool.false_eq_true, if_false]
    exact ⟨es ++ [(nk.hash w, .ref b, v)], t.app (.cons hk rfl rfl r py pv .nil)⟩
theorem T3.ents (t : T3 F w es kvs xs) : Paired (EntOk F w) es kvs := by
  induction t with
  | nil => exact .nil
  | cons h1 h2 h3 h4 h5 h6 _ ih => exact .cons ⟨⟨_, h1, h2⟩, h5, h6⟩ ih
theorem T3.keys (t : T3 F w es kvs xs) : (kvs.map fun p => nkOf p.1) = (xs.map (·.1)).map some := by
  induction t with
  | nil => rfl
  | cons h1 h2 h3 h4 h5 h6 _ ih => rw [List.map_cons, List.map_cons, List.map_cons, ih, h1]
theorem nodup_some {α : Type} {l : List α} (h : l.Nodup) : (l.map some).Nodup := by
  rw [List.nodup_iff_pairwise_ne, List.pairwise_map]
  exact (List.nodup_iff_pairwise_ne.mp h).imp fun hn e => hn (Option.some.inj e)
theorem nodup_of_some {α : Type} {l : List α} (h : (l.map some).Nodup) : l.Nodup := by
  rw [List.nodup_iff_pairwise_ne, List.pairwise_map] at h
  rw [List.nodup_iff_pairwise_ne]
  exact h.imp fun hn e => hn (by rw [e])
end
/-- what is known of a dict that is looked into -/
structure Look (H : Hp) (w : World) (a : Addr) (y : V) (F : Hp) (es : List (Int × V × V)) (kvs : List (D × D)) (kd : D) : Prop where
  sm : Same F H
  at' : H a = some (DicO a es)
  en : EntsOk F w es kvs
  key : Dt F y kd
  mode : kmode kvs kd = true
section
variable {P : Program} {w : World} {F H : Hp} {h : Heap} {a : Addr} {es : List (Int × V × V)} {kvs : List (D × D)}
theorem dicH (ok : HOk P w H h) (sm : Same F H) (e : H a = some (DicO a es)) (en : EntsOk F w es kvs) (hk : (kvs.all fun p => isTK p.1) = true) : ∃ xs : List (NestedKey × Addr × Value), h.DictOfH (nestedKind P w) a xs ∧ (a == sysModules) = false ∧ T3 F w es kvs xs := by
  obtain ⟨o, ds, ep, h1, h2, h3, h4, h5⟩ := (ok a _ e).1
  have hk' : ∀ p ∈ kvs, isTK p.1 = true := fun p hp => List.all_eq_true.mp hk p hp
  have key : ∀ {es : List (Int × V × V)} {kvs : List (D × D)} {L : List DictEntry}, Paired (EntOk F w) es kvs → Paired EntR es L → (∀ p ∈ kvs, isTK p.1 = true) → ∃ xs, L = xs.map (entryOfKey (nestedKind P w)) ∧ T3 F w es kvs xs ∧ ∀ x ∈ xs, (nestedKind P w).is h x.1 x.2.1 := by
    intro es kvs L hp
    induction hp generalizing L with
    | nil => intro hL _; cases hL; exact ⟨[], rfl, .nil, fun x hx => by cases hx⟩
    | @cons e p es ps r t ih =>
      intro hL hm
      cases hL with
      | @cons _ x _ L r2 t2 =>
        obtain ⟨xs, g1, g2, g3⟩ := ih t2 fun q hq => hm q (List.mem_cons_of_mem _ hq)
        obtain ⟨⟨nk, n1, n2⟩, p1, p2⟩ := r
        obtain ⟨r3, r4, r5⟩ := r2
        have hm0 := hm p List.mem_cons_self
        obtain ⟨b, hb⟩ := tk_ref p1 hm0
        obtain ⟨ks, q1, q2⟩ := isTK_some hm0
        rw [hb] at r4
        have r4 : x.key = .ref b := r4
        have hn : NestedIs h nk (.ref b) := nis_of ok sm p.1 e.2.1 _ nk p1 n1 (by rw [hb]; rfl)
        refine ⟨(nk, b, x.val) :: xs, ?_, .cons n1 n2 hb r5 p1 p2 g2, fun y hy => ?_⟩
        · rw [List.map_cons, ← g1]
          have : x = entryOfKey (nestedKind P w) (nk, b, x.val) := by
            show x = ⟨nk.hash w, .ref b, x.val⟩
            rw [← n2, ← r3, ← r4]
          rw [← this]
        · rcases List.mem_cons.mp hy with rfl | hy
          · refine ⟨hn, ?_⟩
            rw [q1] at n1
            cases n1
            exact q2
          · exact g3 y hy
  obtain ⟨xs, g1, g2, g3⟩ := key en.all h5 hk'
  exact ⟨xs, ⟨o, ds, ep, h1, h2, h3, g1, g3, nodup_of_some (by rw [← g2.keys]; exact en.nd)⟩, h4, g2⟩
theorem dicH_new {P : Program} {xs : List (NestedKey × Addr × Value)} (m : h.DictOfH (nestedKind P w) a xs) (t : T3 F w es kvs xs) (hs : (a == sysModules) = false) (hl : kvs.length ≤ sizeLine) (H' : Hp) : ObjOk P w H' h a (DicO a es) ∧ EntsOk F w es kvs := by
  obtain ⟨o, ds, ep, h1, h2, h3, h4, h5, h6⟩ := m
  have hp : Paired EntR es ds.toList := by
    rw [h4]
    clear h4 h5 h6
    induction t with
    | nil => exact .nil
    | cons g1 g2 g3 g4 g5 g6 _ ih => exact .cons ⟨g2.symm, by rw [g3]; rfl, g4⟩ (ih (by simp at hl; omega))
  exact ⟨⟨⟨o, ds, ep, h1, h2, h3, hs, hp⟩, ⟨o, h1⟩, fun h1 h2 ⟨o, ds, ep, g1, g2, g3, g4, g5⟩ k => ⟨o, ds, ep, k o g1, g2, g3, g4, g5⟩⟩, ⟨t.ents, by rw [t.keys]; exact nodup_some h6, hl⟩⟩
end
/-! keys that are texts or numbers -/
def kOf : D → Option Key
  | .int i => some (.inl i)
  | .str x => some (.inr x)
  | _ => none
theorem kOf_of {d : D} (h : isLK d = true) : ∃ k, kOf d = some k := by
  cases d <;> first | exact ⟨_, rfl⟩ | (cases h)
theorem kOf_nk {d : D} {k : Key} (h : kOf d = some k) : ∃ nk, nkOf d = some nk ∧ (∀ w : World, nk.hash w = keyH w k) ∧ ∀ (e : D) (j : Key), kOf e = some j → (nkOf e = some nk ↔ j = k) := by
  cases d <;> cases h
  · rename_i i
    refine ⟨.num i, by unfold nkOf; rfl, fun w => by unfold NestedKey.hash keyH; rfl, fun e j h => ?_⟩
    cases e <;> cases h
    · unfold nkOf
      exact ⟨fun h => by cases h; rfl, fun h => by cases h; rfl⟩
    · unfold nkOf
      exact ⟨fun h => (by cases h), fun h => (by cases h)⟩
  · rename_i x
    refine ⟨.text x, by unfold nkOf; rfl, fun w => by unfold NestedKey.hash keyH; rfl, fun e j h => ?_⟩
    cases e <;> cases h
    · unfold nkOf
      exact ⟨fun h => (by cases h), fun h => (by cases h)⟩
    · unfold nkOf
      exact ⟨fun h => by cases h; rfl, fun h => by cases h; rfl⟩
theorem kOf_v {F : Hp} {v : V} {d : D} {k : Key} (p : Dt F v d) (h : kOf d = some k) : v = kV k := by
  cases d <;> cases h <;> cases p <;> rfl
theorem keyIs_of {k : Key} {u : Value} (r : RelV (kV k) u) : keyIs k u = true := by
  cases k with
  | inl i => obtain ⟨t, rfl⟩ := r; exact keyIs_int i t
  | inr x => obtain ⟨t, rfl⟩ := r; exact keyIs_str x t
theorem keyIs_to {k : Key} {u : Value} (h : keyIs k u = true) : RelV (kV k) u := by
  rcases keyIs_shape h with ⟨i, t, rfl, rfl⟩ | ⟨x, t, rfl, rfl⟩
  · exact ⟨t, rfl⟩
  · exact ⟨t, rfl⟩
inductive L3 (F : Hp) (w : World) : List (Int × V × V) → List (D × D) → List (Key × Value) → Prop
  | nil : L3 F w [] [] []
  | cons {e : Int × V × V} {p : D × D} {x : Key × Value} {es ps xs} : kOf p.1 = some x.1 → e.1 = keyH w x.1 → e.2.1 = kV x.1 → RelV e.2.2 x.2 → Dt F e.2.1 p.1 → Dt F e.2.2 p.2 → L3 F w es ps xs → L3 F w (e :: es) (p :: ps) (x :: xs)
section
variable {F : Hp} {w : World} {es : List (Int × V × V)} {kvs : List (D × D)} {xs : List (Key × Value)}
theorem L3.find (t : L3 F w es kvs xs) {kd : D} {k : Key} (hk : kOf kd = some k) : (∀ vd, dFind kvs kd = some vd → ∃ u v, valueAt xs k = some u ∧ RelV v u ∧ Dt F v vd) ∧ (dFind kvs kd = none → valueAt xs k = none) := by
  obtain ⟨nk, n1, _, n3⟩ := kOf_nk hk
  unfold dFind valueAt
  rw [n1]
  induction t with
  | nil => exact ⟨fun _ h => (by cases h), fun _ => rfl⟩
  | @cons e p x es ps xs h1 h2 h3 h4 h5 h6 _ ih =>
    rw [List.find?_cons, List.find?_cons]
    by_cases hx : x.1 = k
    · have : decide (nkOf p.1 = some nk) = true := decide_eq_true ((n3 p.1 x.1 h1).mpr hx)
      rw [this, decide_eq_true hx]
      exact ⟨fun vd h => by cases h; exact ⟨x.2, e.2.2, rfl, h4, h6⟩, fun h => (by cases h)⟩
    · have : decide (nkOf p.1 = some nk) = false := decide_eq_false fun z => hx ((n3 p.1 x.1 h1).mp z)
      rw [this, decide_eq_false hx]
      exact ih
theorem L3.app (t : L3 F w es kvs xs) {e : Int × V × V} {p : D × D} {x : Key × Value} (t1 : L3 F w [e] [p] [x]) : L3 F w (es ++ [e]) (kvs ++ [p]) (xs ++ [x]) := by
  induction t with
  | nil => exact t1
  | cons h1 h2 h3 h4 h5 h6 _ ih => exact .cons h1 h2 h3 h4 h5 h6 ih
theorem L3.put (t : L3 F w es kvs xs) {kd vd : D} {k : Key} {y : V} {u : Value} {v : V} (hk : kOf kd = some k) (py : Dt F y kd) (pv : Dt F v vd) (r : RelV v u) : ∃ es', L3 F w es' (dPut kvs kd vd) (stored xs k u) := by
  have hf := t.find hk
  obtain ⟨nk, n1, n2, n3⟩ := kOf_nk hk
  have hany : (xs.any fun kv => decide (kv.1 = k)) = (dFind kvs kd).isSome := by
    have e : (xs.any fun kv => decide (kv.1 = k)) = (valueAt xs k).isSome := by
      rw [Bool.eq_iff_iff, List.any_eq_true, valueAt_isSome, List.mem_map]
      exact ⟨fun ⟨x, h1, h2⟩ => ⟨x, h1, of_decide_eq_true h2⟩, fun ⟨x, h1, h2⟩ => ⟨x, h1, decide_eq_true h2⟩⟩
    rw [e]
    cases hd : dFind kvs kd with
    | some d0 => obtain ⟨u0, v0, h0, _⟩ := hf.1 d0 hd; rw [h0]; rfl
    | none => rw [hf.2 hd]; rfl
  unfold dPut stored
  rw [hany]
  cases hd : dFind kvs kd with
  | some d0 =>
    simp only [Option.isSome_some, if_true]
    clear hf hd hany
    rw [n1]
    induction t with
    | nil => exact ⟨[], .nil⟩
    | @cons e p x es ps xs h1 h2 h3 h4 h5 h6 _ ih =>
      obtain ⟨es', ih⟩ := ih
      rw [List.map_cons, List.map_cons]
      by_cases hx : x.1 = k
      · rw [if_pos ((n3 p.1 x.1 h1).mpr hx), if_pos hx]
        exact ⟨(e.1, e.2.1, v) :: es', .cons h1 h2 h3 r h5 pv ih⟩
      · rw [if_neg fun z => hx ((n3 p.1 x.1 h1).mp z), if_neg hx]
        exact ⟨e :: es', .cons h1 h2 h3 h4 h5 h6 ih⟩
  | none =>
    simp only [Option.isSome_none, Bool.false_eq_true, if_false]
    exact ⟨es ++ [(keyH w k, y, v)], t.app (.cons hk rfl (kOf_v py hk) r py pv .nil)⟩
theorem L3.ents (t : L3 F w es kvs xs) : Paired (EntOk F w) es kvs := by
  induction t with
  | nil => exact .nil
  | cons h1 h2 h3 h4 h5 h6 _ ih =>
    obtain ⟨nk, n1, n2, _⟩ := kOf_nk h1
    exact .cons ⟨⟨nk, n1, by rw [h2, n2]⟩, h5, h6⟩ ih
theorem L3.nd (t : L3 F w es kvs xs) : (xs.map (·.1)).Nodup ↔ (kvs.map fun p => nkOf p.1).Nodup := by
  have mem : ∀ {es : List (Int × V × V)} {kvs : List (D × D)} {xs : List (Key × Value)}, L3 F w es kvs xs → ∀ {p : D} {k : Key}, kOf p = some k → (k ∈ xs.map (·.1) ↔ nkOf p ∈ kvs.map fun p => nkOf p.1) := by
    intro es kvs xs t p k hk
    obtain ⟨nk, n1, _, n3⟩ := kOf_nk hk
    induction t with
    | nil => simp
    | @cons e q x es ps xs h1 h2 h3 h4 h5 h6 _ ih =>
      rw [List.map_cons, List.map_cons, List.mem_cons, List.mem_cons, ih, n1]
      have := n3 q.1 x.1 h1
      constructor
      · rintro (h | h)
        · exact .inl (this.mpr h.symm).symm
        · exact .inr h
      · rintro (h | h)
        · exact .inl (this.mp h.symm).symm
        · exact .inr h
  induction t with
  | nil => simp
  | cons h1 h2 h3 h4 h5 h6 t ih =>
    rw [List.map_cons, List.map_cons, List.nodup_cons, List.nodup_cons]
    exact and_congr (not_congr (mem t h1)) ih
end
section
variable {P : Program} {w : World} {F H : Hp} {h : Heap} {a : Addr} {es : List (Int × V × V)} {kvs : List (D × D)}
theorem dicL (ok : HOk P w H h) (e : H a = some (DicO a es)) (en : EntsOk F w es kvs) (hk : (kvs.all fun p => isLK p.1) = true) : ∃ xs : List (Key × Value), h.DictOf (mixKind P w) a xs ∧ (a == sysModules) = false ∧ L3 F w es kvs xs := by
  obtain ⟨o, ds, ep, h1, h2, h3, h4, h5⟩ := (ok a _ e).1
  have hk' : ∀ p ∈ kvs, isLK p.1 = true := fun p hp => List.all_eq_true.mp hk p hp
  have key : ∀ {es : List (Int × V × V)} {kvs : List (D × D)} {L : List DictEntry}, Paired (EntOk F w) es kvs → Paired EntR es L → (∀ p ∈ kvs, isLK p.1 = true) → ∃ xs, Pairs (mixKind P w) L xs ∧ L3 F w es kvs xs ∧ ∀ e ∈ L, ∃ k, (mixKind P w).is k e.key = true ∧ e.hash = (mixKind P w).hash k := by
    intro es kvs L hp
    induction hp generalizing L with
    | nil => intro hL _; cases hL; exact ⟨[], .nil, .nil, fun x hx => by cases hx⟩
    | @cons e p es ps r t ih =>
      intro hL hm
      cases hL with
      | @cons _ x _ L r2 t2 =>
        obtain ⟨xs, g1, g2, g3⟩ := ih t2 fun q hq => hm q (List.mem_cons_of_mem _ hq)
        obtain ⟨⟨nk, n1, n2⟩, p1, p2⟩ := r
        obtain ⟨r3, r4, r5⟩ := r2
        obtain ⟨k, hk⟩ := kOf_of (hm p List.mem_cons_self)
        obtain ⟨nk', m1, m2, _⟩ := kOf_nk hk
        rw [n1] at m1
        cases m1
        have hv := kOf_v p1 hk
        have hi : keyIs k x.key = true := keyIs_of (by rw [← hv]; exact r4)
        refine ⟨(k, x.val) :: xs, .cons hi rfl g1, .cons hk (by rw [n2, m2]) hv r5 p1 p2 g2, fun y hy => ?_⟩
        rcases List.mem_cons.mp hy with rfl | hy
        · exact ⟨k, hi, by rw [r3, n2, m2]; rfl⟩
        · exact g3 y hy
  obtain ⟨xs, g1, g2, g3⟩ := key en.all h5 hk'
  exact ⟨xs, ⟨o, ds, ep, h1, h2, h3, fun e he => g3 e (by simpa using he), g1, g2.nd.mpr en.nd⟩, h4, g2⟩
theorem dicL_new {xs : List (Key × Value)} (m : h.DictOf (mixKind P w) a xs) (t : L3 F w es kvs xs) (hs : (a == sysModules) = false) (hl : kvs.length ≤ sizeLine) (H' : Hp) : ObjOk P w H' h a (DicO a es) ∧ EntsOk F w es kvs := by
  obtain ⟨o, ds, ep, h1, h2, h3, h4, h5, h6⟩ := m
  have hp : Paired EntR es ds.toList := by
    have h4 : ∀ e ∈ ds.toList, ∃ k, (mixKind P w).is k e.key = true ∧ e.hash = (mixKind P w).hash k := fun e he => h4 e (by simpa using he)
    clear h6 hl h3
    generalize ds.toList = L at *
    induction t generalizing L with
    | nil => cases h5; exact .nil
    | cons g1 g2 g3 g4 g5 g6 _ ih =>
      cases h5 with
      | @cons e kv L xs q1 q2 q3 =>
        obtain ⟨k, j1, j2⟩ := h4 e List.mem_cons_self
        have ek := (mixKind P w).inj _ _ _ j1 q1
        subst ek
        exact .cons ⟨by rw [j2, g2]; rfl, by rw [g3]; exact keyIs_to q1, by rw [q2]; exact g4⟩ (ih _ q3 fun e he => h4 e (List.mem_cons_of_mem _ he))
  exact ⟨⟨⟨o, ds, ep, h1, h2, h3, hs, hp⟩, ⟨o, h1⟩, fun h1 h2 ⟨o, ds, ep, g1, g2, g3, g4, g5⟩ k => ⟨o, ds, ep, k o g1, g2, g3, g4, g5⟩⟩, ⟨t.ents, t.nd.mp h6, hl⟩⟩
end
/-! ### the operations -/
section
variable {X : Cx} {pins : List (Addr × Obj)} {σ : L2.St} {F H : Hp} {s : Shared} {a : Addr} {es : List (Int × V × V)} {kvs : List (D × D)} {kd dd : D} {y z : V} {u r : Value} {A : Around} {E : Value → Shared → Prop}
theorem dic_is (I : Inv X pins σ H s) (e : H a = some (DicO a es)) : s.TypeIs (.ref a) "dict" ∧ (∀ b, Value.ref a = .ref b → ∃ ob, s.heap.get? b = some ob ∧ ob.dict = none) := by
  obtain ⟨o, ds, ep, h1, h2, h3, _⟩ := (I.hok a _ e).1
  exact ⟨⟨o, h1, h2.1⟩, fun b q => by cases q; exact ⟨o, h1, h2.2.1⟩⟩
theorem Look.ref (L : Look H X.w a y F es kvs kd) (h : isTK kd = true) : ∃ b nk, y = .ref b ∧ nkOf kd = some nk ∧ nk.depth ≤ 8 := by
  obtain ⟨b, hb⟩ := tk_ref L.key h
  obtain ⟨ks, q1, q2⟩ := isTK_some h
  exact ⟨b, _, hb, q1, q2⟩
theorem Look.two (L : Look H X.w a y F es kvs kd) : (isTK kd = true ∧ (kvs.all fun p => isTK p.1) = true) ∨ (isLK kd = true ∧ (kvs.all fun p => isLK p.1) = true) := by
  have := L.mode
  unfold kmode at this
  rcases Bool.or_eq_true_iff.mp this with h | h
  · exact .inl (Bool.and_eq_true_iff.mp h)
  · exact .inr (Bool.and_eq_true_iff.mp h)
theorem dx_get2 {Q : Value → Shared → Prop} (hu : A.units + 65 < cLine) (I : Inv X pins σ H s) (L : Look H X.w a y F es kvs kd) (ry : RelV y u) (rz : RelV z r) (dz : Dt F z dd) (h : ∀ v w' s', Inv X pins σ H s' → RelV v w' → Dt F v ((dFind kvs kd).getD dd) → Q w' s') :
    wpAny (model X.prog X.w) A (call (.builtin "dict.get") [.ref a, u, r]) Q E s := by
  rcases L.two with ⟨m1, m2⟩ | ⟨m1, m2⟩
  · obtain ⟨b, nk, rfl, q1, q2⟩ := L.ref m1
    cases ry
    obtain ⟨xs, d1, d2, t⟩ := dicH (P := X.prog) I.hok L.sm L.at' L.en m2
    have hn := nis_of I.hok L.sm kd _ _ nk L.key q1 (show RelV (.ref b) (.ref b) from rfl)
    have hf := t.find q1
    refine call_meetsIn PySem.F.slot_dict_get d1.typeIs PySem.F.entry_dict_get (PySem.F.args_dict_get_3 _ _ _) (meetsH_dict_get_default (nestedKind X.prog X.w) a b d2 r) ⟨by show A.in1.units + 8 < cLine; show A.units + 1 + 8 < cLine; omega, nk, xs, ⟨hn, q2⟩, d1, ?_⟩
    cases hd : dFind kvs kd with
    | some vd =>
      obtain ⟨b', u', v', g1, g2, g3⟩ := hf.1 vd hd
      rw [g1]
      exact h v' u' _ (I.tok _) g2 (by rw [hd]; exact g3)
    | none =>
      rw [hf.2 hd]
      exact h z r _ (I.tok _) rz (by rw [hd]; exact dz)
  · obtain ⟨k, hk⟩ := kOf_of m1
    obtain ⟨xs, d1, d2, t⟩ := dicL (P := X.prog) I.hok L.at' L.en m2
    have hf := t.find hk
    have hi : (mixKind X.prog X.w).is k u = true := keyIs_of (by rw [← kOf_v L.key hk]; exact ry)
    refine call_meetsIn PySem.F.slot_dict_get d1.typeIs PySem.F.entry_dict_get (PySem.F.args_dict_get_3 _ _ _) (meets_dict_get_default (mixKind X.prog X.w) a hi d2 r) ⟨_, d1.mapOf, ?_⟩
    cases hd : dFind kvs kd with
    | some vd =>
      obtain ⟨u', v', g1, g2, g3⟩ := hf.1 vd hd
      rw [g1]
      exact h v' u' _ (I.tok _) g2 (by rw [hd]; exact g3)
    | none =>
      rw [hf.2 hd]
      exact h z r _ (I.tok _) rz (by rw [hd]; exact dz)
theorem dx_idx {Q : Value → Shared → Prop} (hu : A.units + 65 < cLine) (I : Inv X pins σ H s) (L : Look H X.w a y F es kvs kd) (ry : RelV y u) (hd : dFind kvs kd = some dd) (h : ∀ v w' s', Inv X pins σ H s' → RelV v w' → Dt F v dd → Q w' s') :
    wpAny (model X.prog X.w) A (getItem (.ref a) u) Q E s := by
  rcases L.two with ⟨m1, m2⟩ | ⟨m1, m2⟩
  · obtain ⟨b, nk, rfl, q1, q2⟩ := L.ref m1
    cases ry
    obtain ⟨xs, d1, d2, t⟩ := dicH (P := X.prog) I.hok L.sm L.at' L.en m2
    have hn := nis_of I.hok L.sm kd _ _ nk L.key q1 (show RelV (.ref b) (.ref b) from rfl)
    obtain ⟨b', u', v', g1, g2, g3⟩ := (t.find q1).1 dd hd
    exact wpAny_getItem_heap (knd := nestedKind X.prog X.w) (by show A.in1.units + 8 < cLine; show A.units + 1 + 8 < cLine; omega) ⟨hn, q2⟩ d1 g1 (h v' u' _ (I.tok _) g2 g3)
  · obtain ⟨k, hk⟩ := kOf_of m1
    obtain ⟨xs, d1, d2, t⟩ := dicL (P := X.prog) I.hok L.at' L.en m2
    obtain ⟨u', v', g1, g2, g3⟩ := (t.find hk).1 dd hd
    have hi : (mixKind X.prog X.w).is k u = true := keyIs_of (by rw [← kOf_v L.key hk]; exact ry)
    exact wpAny_getItem_of hi d1.mapOf g1 (h v' u' _ (I.tok _) g2 g3)
theorem dput_len (kvs : List (D × D)) (kd vd : D) : (dPut kvs kd vd).length ≤ kvs.length + 1 := by
  unfold dPut
  split
  · rw [List.length_map]; omega
  · rw [List.length_append]; exact Nat.le_refl _
theorem dx_set {Q : Unit → Shared → Prop} {vd : D} {v : V} (hu : A.units + 65 < cLine) (I : Inv X pins σ H s) (L : Look H X.w a y F es kvs kd) (ry : RelV y u) (rv : RelV v r) (dv : Dt F v vd) (hl : kvs.length < sizeLine)
    (h : ∀ es' s', Inv X pins σ (upd H a (DicO a es')) s' → EntsOk F X.w es' (dPut kvs kd vd) → Q () s') : wpAny (model X.prog X.w) A (setItem (.ref a) u r) Q E s := by
  have hl' : (dPut kvs kd vd).length ≤ sizeLine := Nat.le_trans (dput_len _ _ _) hl
  rcases L.two with ⟨m1, m2⟩ | ⟨m1, m2⟩
  · obtain ⟨b, nk, rfl, q1, q2⟩ := L.ref m1
    cases ry
    obtain ⟨xs, d1, d2, t⟩ := dicH (P := X.prog) I.hok L.sm L.at' L.en m2
    have hn := nis_of I.hok L.sm kd _ _ nk L.key q1 (show RelV (.ref b) (.ref b) from rfl)
    obtain ⟨es', t'⟩ := t.put (b := b) (u := r) q1 L.key dv rv
    refine wpAny_setItem_heap (knd := nestedKind X.prog X.w) (hsz := by rw [← t.len]; exact Nat.le_of_lt hl) (by show A.in1.units + 8 < cLine; show A.units + 1 + 8 < cLine; omega) ⟨hn, q2⟩ d1 fun h' m' hs => ?_
    obtain ⟨n1, n2⟩ := dicH_new m' t' d2 hl' (upd H a (DicO a es'))
    have he : ∃ q, h'.get? a = some q := let ⟨q, _, _, hq, _⟩ := m'; ⟨q, hq⟩
    exact h es' _ (d_write I (by rw [L.at']; exact True.intro) hs he n1) n2
  · obtain ⟨k, hk⟩ := kOf_of m1
    obtain ⟨xs, d1, d2, t⟩ := dicL (P := X.prog) I.hok L.at' L.en m2
    have hi : (mixKind X.prog X.w).is k u = true := keyIs_of (by rw [← kOf_v L.key hk]; exact ry)
    obtain ⟨es', t'⟩ := t.put (u := r) hk L.key dv rv
    have hlen : kvs.length = xs.length := by
      have : ∀ {es : List (Int × V × V)} {kvs : List (D × D)} {xs : List (Key × Value)}, L3 F X.w es kvs xs → kvs.length = xs.length := fun t => by
        induction t with
        | nil => rfl
        | cons _ _ _ _ _ _ _ ih => simp [ih]
      exact this t
    refine wpAny_setItem_pairs (hsz := by rw [← hlen]; exact Nat.le_of_lt hl) hi d1 fun h' m' hs => ?_
    obtain ⟨n1, n2⟩ := dicL_new m' t' d2 hl' (upd H a (DicO a es'))
    have he : ∃ q, h'.get? a = some q := let ⟨q, _, _, hq, _⟩ := m'; ⟨q, hq⟩
    exact h es' _ (d_write I (by rw [L.at']; exact True.intro) hs he n1) n2
theorem dic_empty {P : Program} {w : World} {H : Hp} (h : Heap) (hb : sysModules < h.objs.size) : ObjOk P w H (h.push { cls := .type "dict", data := .dict #[] }) h.objs.size (DicO h.objs.size []) :=
  ⟨⟨_, #[], 0, Heap.get?_push_size _ rfl, ⟨rfl, rfl, rfl⟩, rfl, beq_eq_false_iff_ne.mpr (Ne.symm (Nat.ne_of_lt hb)), .nil⟩, ⟨_, Heap.get?_push_size _ rfl⟩, fun h1 h2 ⟨o, ds, ep, g1, g2, g3, g4, g5⟩ k => ⟨o, ds, ep, k o g1, g2, g3, g4, g5⟩⟩
end
/-! ### readings -/
def tXNew : TE := fun _ H Q => ∀ p, H p = none → Q (.ref p) (upd H p (DicO p []))
def tXGet2 (w : World) (td ty tx : TE) : TE := fun σ H Q => td σ H fun x H1 => ∃ a, x = .ref a ∧ (∃ es, H1 a = some (DicO a es)) ∧ ty σ H1 fun y H2 => tx σ H2 fun z H3 =>
  ∃ F es kvs kd dd, Look H3 w a y F es kvs kd ∧ Dt F z dd ∧ ∀ v, Dt F v ((dFind kvs kd).getD dd) → Q v H3
def tXIdx (w : World) (td ty : TE) : TE := fun σ H Q => td σ H fun x H1 => ty σ H1 fun y H2 => ∃ a F es kvs kd dd, x = .ref a ∧ Look H2 w a y F es kvs kd ∧ dFind kvs kd = some dd ∧ ∀ v, Dt F v dd → Q v H2
def sXSet (w : World) : TSet := fun x y v H Q => ∃ a F es kvs kd vd, x = .ref a ∧ Look H w a y F es kvs kd ∧ Dt F v vd ∧ kvs.length < sizeLine ∧ ∀ es', EntsOk F w es' (dPut kvs kd vd) → Q (upd H a (DicO a es'))
section
variable {X : Cx} {o i e f : Expr} {pos apos cpos : Pos} {td ty tx : TE}
theorem pe_xnew : PE X (.Dict [] [] pos) tXNew := ⟨fun pins s σ H Q I h =>
  wpAny_Dict_empty ⟨.ref s.heap.objs.size, _, I.laid (a := s.heap.objs.size) (o := DicO s.heap.objs.size []) (t' := s.toks) (fun _ _ q => Heap.get?_push_of_some _ q) (Nat.le_refl _) (dic_empty s.heap I.big), rfl, h _ (I.hok.fresh (Nat.le_refl _))⟩⟩
theorem pe_xget2 (hu : X.A.units + 65 < cLine) (ho : PE X o td) (he : PE X e ty) (hf : PE X f tx) (m : M2 X o "get" apos e f cpos) : PE X (.Call (.Attribute o "get" apos) [e, f] [] cpos) (tXGet2 X.w td ty tx) := by
  refine ⟨fun pins s σ H Q I h => ?_⟩
  refine wpAny_Call_method m.base m.few m.line PySem.F.plainAttrs_dict PySem.F.slot_dict_get PySem.F.type_dict_get (thn (ho.run pins s σ H _ I h) fun u s1 ⟨x, H1, I1, rx, a, ex, ⟨es0, d⟩, q1⟩ => ?_)
  subst ex
  obtain rfl : u = Value.ref a := rx
  obtain ⟨t1, t2⟩ := dic_is I1 d
  refine ⟨t1, t2, ?_⟩
  rw [m.trees]
  refine Calls.callWith_builtin rfl (Calls.evalArgs_plain (Calls.spliced_cons (thn (he.run pins s1 σ H1 _ I1 q1) fun iv s2 ⟨y, H2, I2, ry, q2⟩ =>
    Calls.spliced_cons (thn (hf.run pins s2 σ H2 _ I2 q2) fun fv s3 ⟨z, H3, I3, rz, F, es, kvs, kd, dd, L, dz, q3⟩ => Calls.spliced_nil ?_))))
  exact dx_get2 hu I3 L ry rz dz fun v w' s4 I4 rw' pv => ⟨v, H3, I4, rw', q3 v pv⟩
theorem pe_xidx (hu : X.A.units + 65 < cLine) (ho : PE X o td) (hi : PE X i ty) (hs : NoSl i) : PE X (.Subscript o i pos) (tXIdx X.w td ty) := by
  refine ⟨fun pins s σ H Q I h => ?_⟩
  refine subD_of PySem.F.slot_dict_getitem.lookup hs (thn (ho.run pins s σ H _ I h) fun u s1 ⟨x, H1, I1, rx, q1⟩ => thn (hi.run pins s1 σ H1 _ I1 q1) fun iv s2 ⟨y, H2, I2, ry, a, F, es, kvs, kd, dd, ex, L, hd, q2⟩ => ?_)
  subst ex
  obtain rfl : u = Value.ref a := rx
  exact ⟨(dic_is I2 L.at').1, dx_idx hu I2 L ry hd fun v w' s3 I3 rw' pv => ⟨v, H2, I3, rw', q2 v pv⟩⟩
theorem set_xdict (hu : X.A.units + 65 < cLine) : PSet X (sXSet X.w) := by
  intro pins s σ H o i v ov iv u Q I ro ri rv h
  obtain ⟨a, F, es, kvs, kd, vd, ex, L, dv, hl, q⟩ := h
  subst ex
  cases ro
  exact dx_set hu I L ri rv dv hl fun es' s' I' en => ⟨_, I', q es' en⟩
end
/-! ### slots that hold dicts -/
theorem isDct_some {env : En} {i : Nat} (h : isDct env i = true) : ∃ w kvs, env[i]? = some (.dct w kvs) := by
  unfold isDct at h
  split at h
  · rename_i w kvs e; exact ⟨w, kvs, e⟩
  · cases h
theorem ok_dput {K : Frg} {G : Gm} {F : Hp} {env : En} {s : L2.St} {H : Hp} {i : Nat} {w : World} {kvs kvs' : List (D × D)} {a : Addr} {es : List (Int × V × V)} (k : Ok K G F env s H) (h : env[i]? = some (.dct w kvs)) (ha : s[i]? = some (some (.ref a))) (q : EntsOk F w es kvs') :
    Ok K G F (env.set i (.dct w kvs')) s (upd H a (DicO a es)) := by
  obtain ⟨b, es0, h1, h2, h3, h4, h5, h6⟩ := k.dct.at' i w kvs h
  rw [ha] at h1
  cases h1
  have hi : i < env.length := (List.getElem?_eq_some_iff.mp h).1
  have nf : ∀ c o, F c = some o → c ≠ a := fun c o e z => by subst z; rw [h3] at e; cases e
  refine ⟨by simp [k.len], fun c o e => by rw [upd_ne (nf c o e)]; exact k.fr c o e, fun j d e => ?_, fun j m fs e => ?_, fun j fs e => ?_, fun j j' m fs n gs e1 e2 e3 => ?_, fun c o e => ?_, fun c e => ?_, k.grow, k.new, k.rin, ⟨fun j w' kvs2 e => ?_, fun j j' w1 k1 w2 k2 e1 e2 e3 => ?_⟩⟩
  · rcases set_get e with ⟨_, _, z⟩ | ⟨hj, z⟩
    · cases z
    · exact k.val j d z
  · rcases set_get e with ⟨_, _, z⟩ | ⟨hj, z⟩
    · cases z
    · obtain ⟨c, ws, g1, g2, g3⟩ := k.own j m fs z
      have ne : c ≠ a := fun w => by subst w; rw [h2] at g2; cases g2
      exact ⟨c, ws, g1, by rw [upd_ne ne]; exact g2, g3⟩
  · rcases set_get e with ⟨_, _, z⟩ | ⟨hj, z⟩
    · cases z
    · exact k.ro j fs z
  · rcases set_get e1 with ⟨_, _, z⟩ | ⟨_, z⟩
    · cases z
    · rcases set_get e2 with ⟨_, _, z2⟩ | ⟨_, z2⟩
      · cases z2
      · exact k.sep j j' _ _ _ _ z z2 e3
  · have ne : c ≠ a := fun z => by subst z; rw [h4] at e; cases e
    rw [upd_ne ne]; exact k.pin c o e
  · by_cases hc : c = a
    · subst hc; rw [upd_same] at e; cases e
    · rw [upd_ne hc] at e; exact k.dom c e
  · rcases set_get e with ⟨rfl, _, z⟩ | ⟨hj, z⟩
    · cases z
      exact ⟨a, es, ha, upd_same, h3, h4, h5, q⟩
    · obtain ⟨c, es2, g1, g2, g3⟩ := k.dct.at' j w' kvs2 z
      have ne : c ≠ a := fun w => by subst w; exact hj (k.dct.sep i j _ _ _ _ h z (ha.trans g1.symm))
      exact ⟨c, es2, g1, by rw [upd_ne ne]; exact g2, g3⟩
  · have bk : ∀ (j : Nat) w' ks, (env.set i (.dct w kvs'))[j]? = some (.dct w' ks) → ∃ w2 ks2, env[j]? = some (.dct w2 ks2) := fun j w' ks e => by
      rcases set_get e with ⟨rfl, _, z⟩ | ⟨_, z⟩
      · exact ⟨_, _, h⟩
      · exact ⟨_, _, z⟩
    obtain ⟨_, _, g1⟩ := bk j w1 k1 e1
    obtain ⟨_, _, g2⟩ := bk j' w2 k2 e2
    exact k.dct.sep j j' _ _ _ _ g1 g2 e3
theorem ok_dnew {K : Frg} {G : Gm} {F : Hp} {env : En} {s : L2.St} {H : Hp} {i : Nat} {w : World} {kvs : List (D × D)} {p : Addr} {es : List (Int × V × V)} (k : Ok K G F env s H) (h1 : H p = some (DicO p es)) (h2 : F p = none) (h3 : G.H0 p = none) (h4 : G.P p = none)
    (h5 : ∀ (j : Nat) w kvs, env[j]? = some (.dct w kvs) → s[j]? ≠ some (some (.ref p))) (h6 : EntsOk F w es kvs) : Ok K G F (env.set i (.dct w kvs)) (s.set i (some (.ref p))) H := by
  refine ⟨by simp [k.len], k.fr, fun j d' e => ?_, fun j l es e => ?_, fun j es e => ?_, fun j j' l es m fs e1 e2 e3 => ?_, k.pin, k.dom, k.grow, k.new, k.rin, ⟨fun j w' kvs2 e => ?_, fun j j' w1 k1 w2 k2 e1 e2 e3 => ?_⟩⟩
  · rcases set_get e with ⟨rfl, hl, z⟩ | ⟨hj, z⟩
    · cases z
    · rw [List.getElem?_set_ne hj]
      exact k.val j d' z
  · rcases set_get e with ⟨rfl, hl, z⟩ | ⟨hj, z⟩
    · cases z
    · rw [List.getElem?_set_ne hj]
      exact k.own j l es z
  · rcases set_get e with ⟨rfl, hl, z⟩ | ⟨hj, z⟩
    · cases z
    · rw [List.getElem?_set_ne hj]
      exact k.ro j es z
  · rcases set_get e1 with ⟨rfl, hl, z⟩ | ⟨hj, z⟩
    · cases z
    · rcases set_get e2 with ⟨rfl, hl, z2⟩ | ⟨hj2, z2⟩
      · cases z2
      · rw [List.getElem?_set_ne hj, List.getElem?_set_ne hj2] at e3
        exact k.sep j j' _ _ _ _ z z2 e3
  · rcases set_get e with ⟨rfl, hl, z⟩ | ⟨hj, z⟩
    · cases z
      exact ⟨p, es, by rw [List.getElem?_set_self (by rw [k.len]; exact hl)], h1, h2, h4, h3, h6⟩
    · rw [List.getElem?_set_ne hj]
      exact k.dct.at' j w' kvs2 z
  · rcases set_get e1 with ⟨rfl, hl, z⟩ | ⟨hj, z⟩
    · rcases set_get e2 with ⟨rfl, hl2, z2⟩ | ⟨hj2, z2⟩
      · rfl
      · rw [List.getElem?_set_self (by rw [k.len]; exact hl), List.getElem?_set_ne hj2] at e3
        exact absurd e3.symm (h5 j' _ _ z2)
    · rcases set_get e2 with ⟨rfl, hl, z2⟩ | ⟨hj2, z2⟩
      · rw [List.getElem?_set_self (by rw [k.len]; exact hl), List.getElem?_set_ne hj] at e3
        exact absurd e3 (h5 j _ _ z)
      · rw [List.getElem?_set_ne hj, List.getElem?_set_ne hj2] at e3
        exact k.dct.sep j j' _ _ _ _ z z2 e3
theorem ents_nil {F : Hp} {w : World} : EntsOk F w [] [] := ⟨.nil, List.nodup_nil, Nat.zero_le _⟩
open Classical in
noncomputable def eDGet2 (w : World) (i : Nat) (fk fx : Ef) : Ef := fun env => if isDct env i = true then (fk env).bind fun r => (fx r.2).bind fun q => match q.2[i]? with
  | some (.dct w' kvs) => if w' = w ∧ kmode kvs r.1 = true then some ((dFind kvs r.1).getD q.1, q.2) else none
  | _ => none
  else none
open Classical in
noncomputable def eDIdx (w : World) (i : Nat) (fk : Ef) : Ef := fun env => if isDct env i = true then (fk env).bind fun r => match r.2[i]? with
  | some (.dct w' kvs) => if w' = w ∧ kmode kvs r.1 = true then (dFind kvs r.1).map fun d => (d, r.2) else none
  | _ => none
  else none
open Classical in
noncomputable def eDIn (w : World) (i : Nat) (fk : Ef) : Ef := fun env => (fk env).bind fun r => match r.2[i]? with
  | some (.dct w' kvs) => if w' = w ∧ kmode kvs r.1 = true then some (.bool (dFind kvs r.1).isSome, r.2) else none
  | _ => none
open Classical in
noncomputable def sDPut (w : World) (i : Nat) (fk fv : Ef) : Sf := fun env => (fv env).bind fun r => if isDct r.2 i = true then (fk r.2).bind fun q => match q.2[i]? with
  | some (.dct w' kvs) => if w' = w ∧ kmode kvs q.1 = true ∧ kvs.length < 1000000 then some (.nx (q.2.set i (.dct w (dPut kvs q.1 r.1)))) else none
  | _ => none
  else none
def sDNew (w : World) (i : Nat) : Sf := fun env => some (.nx (env.set i (.dct w [])))
section
variable {K : Frg} {w : World} {ty tx : TE} {fk fx fv : Ef}
theorem slot_dct {G : Gm} {F : Hp} {env : En} {s : L2.St} {H : Hp} {i : Nat} {w : World} {kvs : List (D × D)} {a : Addr} (k : Ok K G F env s H) (h : env[i]? = some (.dct w kvs)) (ha : s[i]? = some (some (.ref a))) : ∃ es, H a = some (DicO a es) ∧ EntsOk F w es kvs := by
  obtain ⟨b, es, h1, h2, _, _, _, h6⟩ := k.dct.at' i w kvs h
  rw [ha] at h1
  cases h1
  exact ⟨es, h2, h6⟩
theorem re_dget2 (i : Nat) (hk : RE K ty fk) (hx : RE K tx fx) : RE K (tXGet2 w (tVar i) ty tx) (eDGet2 w i fk fx) := fun G F env s H d env' k e Q q => by
  unfold eDGet2 at e
  split at e
  · rename_i h0
    obtain ⟨w0, kvs0, h0⟩ := isDct_some h0
    obtain ⟨a, es0, g1, g2, _⟩ := k.dct.at' i w0 kvs0 h0
    obtain ⟨⟨kd, e1⟩, h1, ea⟩ := Option.bind_eq_some_iff.mp e
    clear e
    have e := ea
    clear ea
    obtain ⟨⟨dd, e2⟩, h2, ea⟩ := Option.bind_eq_some_iff.mp e
    clear e
    have e := ea
    clear ea
    dsimp only at e
    split at e
    · rename_i w' kvs h3
      split at e
      · rename_i hm
        obtain ⟨rfl, hm⟩ := hm
        cases e
        refine ⟨_, g1, a, rfl, ⟨es0, g2⟩, ?_⟩
        refine hk G F env s H kd _ k h1 _ fun F1 H1 y k1 s1 py => ?_
        refine hx G F1 e1 s H1 dd _ k1 h2 _ fun F2 H2 z k2 s2 pz => ?_
        obtain ⟨es, j1, j2⟩ := slot_dct k2 h3 g1
        exact ⟨F2, es, kvs, kd, dd, ⟨k2.fr, j1, j2, Dt.mono s2 _ _ py, hm⟩, pz, fun v pv => q F2 H2 v k2 (s1.trans s2) pv⟩
      · cases e
    · cases e
  · cases e
theorem re_didx (i : Nat) (hk : RE K ty fk) : RE K (tXIdx w (tVar i) ty) (eDIdx w i fk) := fun G F env s H d env' k e Q q => by
  unfold eDIdx at e
  split at e
  · rename_i h0
    obtain ⟨w0, kvs0, h0⟩ := isDct_some h0
    obtain ⟨a, es0, g1, g2, _⟩ := k.dct.at' i w0 kvs0 h0
    obtain ⟨⟨kd, e1⟩, h1, ea⟩ := Option.bind_eq_some_iff.mp e
    clear e
    have e := ea
    clear ea
    dsimp only at e
    split at e
    · rename_i w' kvs h3
      split at e
      · rename_i hm
        obtain ⟨rfl, hm⟩ := hm
        obtain ⟨dd, h4, ea⟩ := Option.map_eq_some_iff.mp e
        clear e
        cases ea
        refine ⟨_, g1, ?_⟩
        refine hk G F env s H kd _ k h1 _ fun F1 H1 y k1 s1 py => ?_
        obtain ⟨es, j1, j2⟩ := slot_dct k1 h3 g1
        exact ⟨a, F1, es, kvs, kd, d, rfl, ⟨k1.fr, j1, j2, py, hm⟩, h4, fun v pv => q F1 H1 v k1 s1 pv⟩
      · cases e
    · cases e
  · cases e
theorem rs_dput (i : Nat) {tv : TE} (hk : RE K ty fk) (hv : RE K tv fv) : RS K (tAsg tv (L2.gSub (tVar i) ty (sXSet w))) (sDPut w i fk fv) := fun G F env s H o k e E q => by
  unfold sDPut at e
  obtain ⟨⟨vd, e1⟩, h1, ea⟩ := Option.bind_eq_some_iff.mp e
  clear e
  have e := ea
  clear ea
  dsimp only at e
  split at e
  · rename_i h0
    obtain ⟨w0, kvs0, h0⟩ := isDct_some h0
    obtain ⟨⟨kd, e2⟩, h2, ea⟩ := Option.bind_eq_some_iff.mp e
    clear e
    have e := ea
    clear ea
    dsimp only at e
    split at e
    · rename_i w' kvs h3
      split at e
      · rename_i hm
        obtain ⟨rfl, hm, hl⟩ := hm
        cases e
        refine hv G F env s H vd e1 k h1 _ fun F1 H1 v k1 s1 pv => ?_
        obtain ⟨a, es0, g1, g2, _⟩ := k1.dct.at' i w0 kvs0 h0
        refine ⟨_, g1, ?_⟩
        refine hk G F1 e1 s H1 kd e2 k1 h2 _ fun F2 H2 y k2 s2 py => ?_
        obtain ⟨es, j1, j2⟩ := slot_dct k2 h3 g1
        refine ⟨a, F2, es, kvs, kd, vd, rfl, ⟨k2.fr, j1, j2, py, hm⟩, Dt.mono s2 _ _ pv, by rw [sizeLine_eq]; omega, fun es' en => ?_⟩
        exact q F2 _ _ (ok_dput k2 h3 g1 en) (s1.trans s2)
      · cases e
    · cases e
  · cases e
theorem rs_dnew (i : Nat) : RS K (tAsg tXNew (gName i)) (sDNew w i) := fun G F env s H o k e E q => by
  cases e
  intro p hp
  have k1 : Ok K G F env s (upd H p (DicO p [])) := k.laid hp
  refine q F _ _ (ok_dnew k1 upd_same (k.fr.free hp) (k.dom p hp) (k.pin.free hp) (k.notdctN hp) ents_nil) (Same.refl F)
end
section
variable {X : Cx} {x : Str} {p2 p3 pos apos cpos : Pos} {e f ke : Expr} {fk fx fv : Ef}
theorem xe_dget2 (i : Nat) (hu : X.A.units + 65 < cLine) (hk : XE X e fk) (hx : XE X f fx) (hN : X.N[i]? = some x := by rfl) (hv : Vis X.env.scope x := by first | exact Or.inl rfl | exact Or.inr (Or.inl rfl) | exact Or.inr (Or.inr rfl)) (hd : (x == ("__debug__" : Str)) = false := by decide)
    (hcd : (x == ("__classdict__" : Str)) = false := by decide) (m : M2 X (.Name x p2) "get" apos e f cpos := by exact ⟨rfl, rfl, rfl, rfl⟩) : XE X (.Call (.Attribute (.Name x p2) "get" apos) [e, f] [] cpos) (eDGet2 X.w i fk fx) :=
  let ⟨_, h1, h2⟩ := hk.ex; let ⟨_, h3, h4⟩ := hx.ex; ⟨_, pe_xget2 hu (pe_var hN hv hd hcd) h1 h3 m, re_dget2 i h2 h4⟩
theorem xe_didx (i : Nat) (hu : X.A.units + 65 < cLine) (hk : XE X e fk) (hN : X.N[i]? = some x := by rfl) (hv : Vis X.env.scope x := by first | exact Or.inl rfl | exact Or.inr (Or.inl rfl) | exact Or.inr (Or.inr rfl)) (hd : (x == ("__debug__" : Str)) = false := by decide)
    (hcd : (x == ("__classdict__" : Str)) = false := by decide) (hs : NoSl e := by intro _ _; rfl) : XE X (.Subscript (.Name x p2) e pos) (eDIdx X.w i fk) :=
  let ⟨_, h1, h2⟩ := hk.ex; ⟨_, pe_xidx hu (pe_var hN hv hd hcd) h1 hs, re_didx i h2⟩
theorem xs_dput (i : Nat) (hu : X.A.units + 65 < cLine) (he : XE X e fv) (hk : XE X ke fk) (hN : X.N[i]? = some x := by rfl) (hv : Vis X.env.scope x := by first | exact Or.inl rfl | exact Or.inr (Or.inl rfl) | exact Or.inr (Or.inr rfl))
    (hd : (x == ("__debug__" : Str)) = false := by decide) (hcd : (x == ("__classdict__" : Str)) = false := by decide) (hs : swapsWithSole [.Subscript (.Name x p2) ke p3] e pos.line X.env = pure false := by rfl) (hw : swappedStores [.Subscript (.Name x p2) ke p3] e X.env = pure none := by rfl)
    (h1 : (assignEach [.Subscript (.Name x p2) ke p3] X.env).map (·.2) = [assign (.Subscript (.Name x p2) ke p3) X.env] := by rfl)
    (ha : ∀ v, assign (.Subscript (.Name x p2) ke p3) X.env v = (do
      let ov ← holding [v] (eval (.Name x p2) X.env)
      let iv ← holding [v, ov] (eval ke X.env)
      standAt p3
      holding [v, ov, iv] (setItem ov iv v)
      release [v, ov, iv] []) := by intro _; rfl) : XS X (.Assign [.Subscript (.Name x p2) ke p3] e pos) (sDPut X.w i fk fv) :=
  let ⟨_, g1, g2⟩ := he.ex; let ⟨_, g3, g4⟩ := hk.ex
  ⟨_, ps_asg g1 (pg_sub (pe_var hN hv hd hcd) g3 (set_xdict hu) ha) hs hw h1, rs_dput i g4 g2⟩
theorem xs_dnew (i : Nat) (hN : X.N.Nodup) (hi : X.N[i]? = some x := by rfl) (hx : Loc X.env.scope x := by first | exact Or.inl rfl | exact Or.inr rfl) (hs : swapsWith (.Dict [] [] p2) (some (.Name x p3)) pos.line X.env = pure false := by rfl)
    (hf : X.fn x = true ∨ X.env.scope.names.lookup x = some .local := by first | exact .inl rfl | exact .inr rfl | assumption) : XS X (.Assign [.Name x p3] (.Dict [] [] p2) pos) (sDNew X.w i) :=
  ⟨_, ps_set hN hi hx pe_xnew hs hf, rs_dnew i⟩
end
/-! ### to reason about them -/
section
variable {env : En} {w : World} {i : Nat} {fk fx fv : Ef} {kvs : List (D × D)}
theorem we_dget2 {Q : D → En → Prop} {kvs0 : List (D × D)} (h0 : env[i]? = some (.dct w kvs0)) (h : WE fk env fun kd e1 => WE fx e1 fun dd e2 => ∃ kvs, e2[i]? = some (.dct w kvs) ∧ kmode kvs kd = true ∧ Q ((dFind kvs kd).getD dd) e2) : WE (eDGet2 w i fk fx) env Q := by
  obtain ⟨kd, e1, h1, dd, e2, h2, kvs, h3, h4, q⟩ := h
  refine ⟨_, e2, ?_, q⟩
  unfold eDGet2 isDct
  rw [h0]
  simp only [if_true, h1, h2, Option.bind_some, h3, h4, and_self]
theorem we_didx {Q : D → En → Prop} {kvs0 : List (D × D)} (h0 : env[i]? = some (.dct w kvs0)) (h : WE fk env fun kd e1 => ∃ kvs d, e1[i]? = some (.dct w kvs) ∧ kmode kvs kd = true ∧ dFind kvs kd = some d ∧ Q d e1) : WE (eDIdx w i fk) env Q := by
  obtain ⟨kd, e1, h1, kvs, d, h3, h4, h5, q⟩ := h
  refine ⟨d, e1, ?_, q⟩
  unfold eDIdx isDct
  rw [h0]
  simp only [if_true, h1, Option.bind_some, h3, h4, and_self, h5, Option.map_some]
theorem we_din {Q : D → En → Prop} (h : WE fk env fun kd e1 => ∃ kvs, e1[i]? = some (.dct w kvs) ∧ kmode kvs kd = true ∧ Q (.bool (dFind kvs kd).isSome) e1) : WE (eDIn w i fk) env Q := by
  obtain ⟨kd, e1, h1, kvs, h3, h4, q⟩ := h
  refine ⟨_, e1, ?_, q⟩
  unfold eDIn
  simp only [h1, Option.bind_some, h3, h4, and_self, if_true]
theorem ws_dput {N : En → Prop} {R : D → En → Prop} {L : List D → En → Prop} (h : WE fv env fun vd e1 => isDct e1 i = true ∧ WE fk e1 fun kd e2 => ∃ kvs, e2[i]? = some (.dct w kvs) ∧ kmode kvs kd = true ∧ kvs.length < 1000000 ∧ Nrm (e2.set i (.dct w (dPut kvs kd vd))) N) : WS (sDPut w i fk fv) env ⟨N, R, L⟩ := by
  obtain ⟨vd, e1, h1, h0, kd, e2, h2, kvs, h3, h4, h5, q⟩ := h
  refine ⟨.nx _, ?_, q⟩
  unfold sDPut
  simp only [h1, Option.bind_some, h0, if_true, h2, h3, h4, h5, and_self]
theorem ws_dnew {N : En → Prop} {R : D → En → Prop} {L : List D → En → Prop} (q : Nrm (env.set i (.dct w [])) N) : WS (sDNew w i) env ⟨N, R, L⟩ := ⟨.nx _, rfl, q⟩
end
end M

namespace M
open PySem PySem.Spec PyProof.Rows L2
/-! ### own lists as values while an expression runs whose answer holds no list -/
def eBorL (f : Ef) : Ef := fun env => (f (unowns env)).bind fun r => if lfree r.1 then some (r.1, env) else none
section
variable {K : Frg} {G : Gm} {F F' : Hp} {env env' : En} {s : L2.St} {H H' : Hp}
end
theorem we_borL {f : Ef} {env : En} {Q : D → En → Prop} (h : Nrm (unowns env) fun e => WE f e fun d _ => lfree d = true ∧ Q d env) : WE (eBorL f) env Q := by
  obtain ⟨d, e, h1, h2, q⟩ := h
  exact ⟨d, env, by unfold eBorL; rw [h1]; simp [h2], q⟩
end M

namespace M
open PySem PySem.Spec PyProof.Rows L2
/-! ### max of a tuple with a default -/
section
variable {X : Cx}
end
end M

namespace M
open PySem PySem.Spec PyProof.Rows L2
/-! ### list.index of what is there -/
def gLidx : D → D → Option D
  | .list ds, d => if shp d && shp (.list ds) then (ds.findIdx? fun y => PyData.eqv y d).map fun (j : Nat) => .int (j : Int) else none
  | _, _ => none
theorem xe_lidx {X : Cx} {o e : Expr} {fo fe : Ef} {apos pos : Pos} (hu : X.A.units + 65 < cLine) (ha : XE X o fo) (hb : XE X e fe) (hbase : attributeBase o "index" X.env (eval o X.env) = eval o X.env := by rfl)
    (hfew : ((backTo pos (starEach [e] X.env)).all (fun x => !x.1) && (backToKw pos (keywordEach [] X.env)).all (fun x => x.1.isSome)
      && decide (([e] : List Expr).length + ([] : List Keyword).length + (if ([] : List Keyword).isEmpty then 0 else 1) < 30)) = true := by rfl)
    (hline : (apos.endLine == pos.line) = true := by rfl) (he : starEach [e] X.env = (false, eval e X.env) :: starEach [] X.env := by rfl) (hpl : (backTo pos (starEach [] X.env)).any (·.1) = false := by rfl) :
    XE X (.Call (.Attribute o "index" apos) [e] [] pos) (eBin gLidx fo fe) := by
  obtain ⟨t, h1, h2⟩ := ha.ex
  obtain ⟨u, h3, h4⟩ := hb.ex
  refine ⟨_, pe_bm PySem.F.plainAttrs_list PySem.F.slot_list_index PySem.F.type_list_index (mt_indexD hu) h1 (pa_cons h3 pa_nil he) hbase hfew hline he hpl, fun G F env s H d env' k e Q q => ?_⟩
  unfold eBin at e
  obtain ⟨⟨d1, e1⟩, h5, e⟩ := Option.bind_eq_some_iff.mp e
  obtain ⟨⟨d2, e2⟩, h6, e⟩ := Option.bind_eq_some_iff.mp e
  obtain ⟨z, h7, e⟩ := Option.map_eq_some_iff.mp e
  cases e
  dsimp only at h6 h7
  refine h2 G F env s H _ e1 k h5 _ fun F1 H1 v k1 s1 p1 => ?_
  unfold gLidx at h7
  split at h7
  · rename_i ds d2'
    split at h7
    · rename_i hf
      rw [Bool.and_eq_true] at hf
      obtain ⟨j, hj, h8⟩ := Option.map_eq_some_iff.mp h7
      cases h8
      obtain ⟨hjl, hj1, hj2⟩ := List.findIdx?_eq_some_iff_getElem.mp hj
      cases p1 with
      | lst a1 b1 =>
        refine ⟨.inl ⟨rfl, _, SqL.of (k1.fr _ _ a1)⟩, ?_⟩
        refine h4 G F1 e1 s H1 _ _ k1 h6 _ fun F2 H2 v2 k2 s2 p2 => ?_
        exact ⟨_, _, _, ds, j, ds[j]'hjl, rfl, rfl, .lst (SqL.of (k2.fr _ _ (s2 _ _ a1))) (Da.dp _ _ (ndA_sh hf.2) (Da.mono k2.fr _ _ (Da.mono s2 _ _ b1))), Dt.dp _ _ (nd_sh hf.1) (Dt.mono k2.fr _ _ p2), hf.2, hf.1, List.getElem?_eq_getElem hjl, hj1, fun m z' hm hz' => by
          have hml : m < ds.length := by omega
          rw [List.getElem?_eq_getElem hml] at hz'
          cases hz'
          exact Bool.eq_false_iff.mpr (hj2 m hm), q F2 H2 _ k2 (s1.trans s2) (.int _)⟩
    · cases h7
  · cases h7
end M

namespace M
open PySem PySem.Spec PyProof.Rows L2
/-! ### a new list handed in as the last argument, to be changed and forgotten -/
abbrev Nf := En → Option ((List D × List D) × En)
def nlL (fl : Lf) : Nf := fun env => (fl env).map fun r => (([], r.1), r.2)
def nlV (f : Ef) (g : Nf) : Nf := fun env => (f env).bind fun r => (g r.2).map fun q => ((r.1 :: q.1.1, q.1.2), q.2)
section
variable {X : Cx} {e : Expr} {es : List Expr} {f : Ef} {fl : Lf} {g : Nf}
end
def eCallNL (g : Gf) (fa : Nf) : Ef := fun env => (fa env).bind fun q => (g (q.1.1.map .val ++ [.own false q.1.2])).map fun w => (w.1, q.2)
section
variable {X : Cx} {k : Nat} {fx : Addr} {fd : FuncData} {ps : List Str} {x : Str} {p pos : Pos} {e : Expr} {es : List Expr} {fa : Nf} {g : Gf}
end
def WNl (f : Nf) (env : En) (Q : List D → List D → En → Prop) : Prop := ∃ ds ls e, f env = some ((ds, ls), e) ∧ Q ds ls e
theorem wnl_l {env : En} {fl : Lf} {Q : List D → List D → En → Prop} (h : WL fl env fun ls e => Q [] ls e) : WNl (nlL fl) env Q := by
  obtain ⟨ls, e1, h1, q⟩ := h
  exact ⟨[], ls, e1, by unfold nlL; simp only [h1, Option.map_some], q⟩
theorem wnl_v {env : En} {f : Ef} {g : Nf} {Q : List D → List D → En → Prop} (h : WE f env fun d e => WNl g e fun ds ls e2 => Q (d :: ds) ls e2) : WNl (nlV f g) env Q := by
  obtain ⟨d, e1, h1, ds, ls, e2, h2, q⟩ := h
  exact ⟨_, _, e2, by unfold nlV; simp only [h1, h2, Option.bind_some, Option.map_some], q⟩
theorem we_callNL {env : En} {g : Gf} {fa : Nf} {Q : D → En → Prop} (h : WNl fa env fun ds ls e => WG g (ds.map .val ++ [.own false ls]) fun d _ => Q d e) : WE (eCallNL g fa) env Q := by
  obtain ⟨ds, ls, e1, h1, d, a', h4, q⟩ := h
  exact ⟨d, e1, by unfold eCallNL; simp only [h1, h4, Option.bind_some, Option.map_some], q⟩
end M

namespace L2
open PySem PySem.Spec PyProof.Rows
/-! ### a op1 b op2 c op3 d -/
section
variable {X : Cx} {a b c d : Expr} {ta tb tc td : TE} {pos : Pos}
end
end L2
namespace M
open PySem PySem.Spec PyProof.Rows L2
def eCh3 (g g' g'' : D → D → Option D) (fa fb fc fd : Ef) : Ef := fun env => (fa env).bind fun r => (fb r.2).bind fun q => (g r.1 q.1).bind fun z => match z with
  | .bool true => (fc q.2).bind fun w => (g' q.1 w.1).bind fun z => match z with
    | .bool true => (fd w.2).bind fun u => (g'' w.1 u.1).map fun d => (d, u.2)
    | .bool false => some (.bool false, w.2)
    | _ => none
  | .bool false => some (.bool false, q.2)
  | _ => none
section
variable {X : Cx} {a b c d : Expr} {pos : Pos} {fa fb fc fd : Ef} {r r' r'' : R2} {g g' g'' : D → D → Option D} {op op' op'' : CmpOp}
end
theorem we_chain3 {g g' g'' : D → D → Option D} {fa fb fc fd : Ef} {env : En} {Q : D → En → Prop} (h : WE fa env fun x e => WE fb e fun y e' => WO (g x y) fun z => IsB z fun b => IfB b (WE fc e' fun w e2 => WO (g' y w) fun z => IsB z fun b => IfB b (WE fd e2 fun u e3 => WO (g'' w u) fun z => Q z e3) (Q (.bool false) e2)) (Q (.bool false) e')) : WE (eCh3 g g' g'' fa fb fc fd) env Q := by
  obtain ⟨x, e1, h1, y, e2, h2, z, h3, h⟩ := h
  cases z with
  | bool b =>
    cases b with
    | false => exact ⟨_, e2, by unfold eCh3; simp [h1, h2, h3]; (try rfl), h⟩
    | true =>
      obtain ⟨w, e3, h4, z', h5, h⟩ := (show WE fc e2 _ from h)
      cases z' with
      | bool b =>
        cases b with
        | false => exact ⟨_, e3, by unfold eCh3; simp [h1, h2, h3, h4, h5]; (try rfl), h⟩
        | true =>
          obtain ⟨u, e4, h6, z2, h7, q⟩ := (show WE fd e3 _ from h)
          exact ⟨z2, e4, by unfold eCh3; simp [h1, h2, h3, h4, h5, h6, h7], q⟩
      | _ => exact h.elim
  | _ => exact h.elim
end M

namespace M
open PySem PySem.Spec PyProof.Rows L2

/-! ### a comprehension whose first step raises -/
theorem funFrames_sub {h B B' : Heap} (k : ∀ b, B.get? b = none → B'.get? b = none) : ∀ {l : List Env}, h.FunFrames B l → h.FunFrames B' l
  | [], _ => trivial
  | _ :: _, ⟨hk, ⟨L', o, hf, hb, ho, hd⟩, hr⟩ => ⟨hk, ⟨L', o, hf, k _ hb, ho, hd⟩, funFrames_sub k hr⟩
theorem tracedZ_sub {h B B' : Heap} {e : Addr} {Z : Obj → Prop} {fl : Value} (k : ∀ b, B.get? b = none → B'.get? b = none) (t : HandSPX.TracedZ h B e Z fl) : HandSPX.TracedZ h B' e Z fl := by
  obtain ⟨oe, vs, T, oT, ts, h1, h2, h3, h4, h5, r⟩ := t
  exact ⟨oe, vs, T, oT, ts, h1, h2, h3, h4, k _ h5, r⟩
theorem tracedZ_but {h h' B : Heap} {C e : Addr} {Z : Obj → Prop} {fl : Value} {m : Str → Option Value} (hn : h.Ns C m) (hs : Heap.SameBut C h h') (t : HandSPX.TracedZ h B e Z fl) : HandSPX.TracedZ h' B e Z fl := by
  obtain ⟨oe, vs, T, oT, ts, h1, h2, h3, h4, h5, h6, h7, h8, h9⟩ := t
  obtain ⟨o, es, ep, ho, hd, _⟩ := hn
  have ne : ∀ {b o' vs'}, h.get? b = some o' → o'.data = .fields vs' → b ≠ C := fun {b o' vs'} e1 e2 z => by
    subst z
    rw [ho] at e1
    cases e1
    rw [hd] at e2
    cases e2
  exact ⟨oe, vs, T, oT, ts, (hs.2 _ (ne h1 h3)).trans h1, h2, h3, h4, h5, h6, (hs.2 _ (ne h7 h8)).trans h7, h8, h9⟩
section
variable {X : Cx} {W : WX} {pins : List (Addr × Obj)} {σ σ8 : L2.St} {H H3 : Hp} {s s3 s' : Shared} {scope : Scope} {ce : Env} {fp : List Addr} {E : XK}
/-- out of a call within the block, to the block's end -/
theorem blk_raise (tk : Takes X W) (hst : X.stack = X.env :: X.outer) (hfr : X.env.frame = some X.env.locals) (I3 : Inv X pins σ H3 s3) (f3 : ∀ b ∈ fp, FpOk X pins H3 b) (hcf : ce.frame = X.env.frame) (hCl : s3.heap.objs.size ≤ ce.locals)
    {xeb : Value → Shared → Prop} {p' : List (Addr × Obj)} (I : Inv ((X.blk s3 H3 scope ce fp).wish xeb) p' σ8 H s) {u : Value} (c : CX X.prog X.w X.stack H s E u s') (hW : ∀ cls d H', E cls d H' → W cls d σ H') :
    notedBy (model X.prog X.w) X.A ce (CompFails (model X.prog X.w) X.A X.xe ce) u s' := by
  obtain ⟨a, B, H', cls, d, rfl, fl, hok, ub, na, os, ag, hE⟩ := c
  obtain ⟨G, g1, g2⟩ := restrict s'.heap fun b => (B.get? b).isSome || decide (b ∈ frs X.stack)
  have st : B.StaysIn s'.heap := fl.1
  have gB : ∀ b o, B.get? b = some o → G.get? b = some o := fun b o e => by
    rw [g1 b (by simp [e])]
    exact st b o e
  have gF : ∀ b, b ∈ frs X.stack → G.get? b = s'.heap.get? b := fun b hb => g1 b (by simp [hb])
  have og : ∀ b o, G.get? b = some o → s'.heap.get? b = some o ∧ ((B.get? b).isSome = true ∨ b ∈ frs X.stack) := fun b o e => by
    cases q : ((B.get? b).isSome || decide (b ∈ frs X.stack)) with
    | false => rw [g2 b q] at e; cases e
    | true =>
      rw [g1 b q] at e
      exact ⟨e, by simpa [Bool.or_eq_true] using q⟩
  have J6 : Inv ((X.blk s3 H3 scope ce fp).wish xeb) p' σ8 H' { s with heap := G, gens := s'.gens, drawn := s'.drawn, toks := s'.toks } := by
    refine I.call (ch := []) ⟨fun b o e n hb _ => gB b o (ub.keep b o e n hb), fun b o e n hb _ => ?_, fun b o e n _ => ub.free b o e n, fun b o e _ => ?_, ub.tups, ub.frzs, ub.tbls⟩ (hok.kept gB) ag (fun _ z => nomatch z)
    · obtain ⟨sl, q⟩ := ub.slot b o e hb
      exact ⟨sl, by rw [gF b hb]; exact q⟩
    · by_cases hb : b ∈ frs X.stack
      · obtain ⟨sl, q⟩ := ub.slot b o e hb
        exact ⟨_, by rw [gF b hb]; exact q⟩
      · obtain ⟨o', q⟩ := ub.there b o e hb
        exact ⟨o', gB b o' q⟩
  have nb : ∀ b o, G.get? b = some o → b ∉ frs X.stack → B.get? b = some o := fun b o e hb => by
    obtain ⟨e', h⟩ := og b o e
    rcases h with h | h
    · obtain ⟨o', q⟩ := Option.isSome_iff_exists.mp h
      have z := st b o' q
      rw [e'] at z; cases z
      exact q
    · exact absurd h hb
  have I7 : Inv X pins σ H' { s with heap := G, gens := s'.gens, drawn := s'.drawn, toks := s'.toks } := I3.call' (ch := fp) J6.os J6.base J6.hok J6.bare fun b hb => ⟨(f3 b hb).2.2.2.1, (f3 b hb).2.1, (f3 b hb).2.2.2.2.1, (f3 b hb).2.2.2.2.2⟩
  have nC : H' ce.locals = none := J6.free
  have fC : FpOk X pins H' ce.locals := I3.fpOk hCl nC
  obtain ⟨m, hn, _⟩ := J6.loc
  have hn : G.Ns ce.locals m := hn
  have hn1 : s'.heap.Ns ce.locals m := hn.keeps fun b o e => (og b o e).1
  -- noted by the frame
  show wpAny _ _ (noteFrame (.ref a) ce) _ _ s'
  rw [noteFrame_env _ hcf]
  have hA : X.A.frames = some (X.env :: X.outer) := by rw [I3.ok.frames, hst]
  rw [hst] at fl
  refine HandSPX.looks_onZ Zc.steady hA hfr fl fun h1 hh up => ?_
  have hn2 : h1.Ns ce.locals m := hn1.upToSlots fun b o e hnf => up b o e hnf
  refine ⟨m, hn2, fun h2 m2 hm2 sb => ?_⟩
  -- the block let go
  obtain ⟨B', b1, b2⟩ := restrict B fun b => decide (b ≠ ce.locals)
  have bk : ∀ b, B.get? b = none → B'.get? b = none := fun b hb => by
    by_cases q : b = ce.locals
    · exact b2 b (by simp [q])
    · rw [b1 b (by simp [q])]; exact hb
  have bo : ∀ b o, B'.get? b = some o → B.get? b = some o ∧ b ≠ ce.locals := fun b o e => by
    by_cases q : b = ce.locals
    · rw [b2 b (by simp [q])] at e; cases e
    · rw [b1 b (by simp [q])] at e; exact ⟨e, q⟩
  obtain ⟨x1, x2, x3, x4⟩ := hh
  have y1 : B'.StaysIn h2 := fun b o e => by
    obtain ⟨e1, e2⟩ := bo b o e
    exact (sb.2 b e2).trans (x1 b o e1)
  have y3 : h2.FunFrames B' (X.env :: X.outer) := Heap.FunFrames.sameBut sb hm2 (funFrames_sub bk x3)
  have y4 : HandSPX.TracedZ h2 B' a (Zc cls d) (rawInt X.env.locals) := tracedZ_but hn2 sb (tracedZ_sub bk x4)
  obtain ⟨oe, vs, T, oT, ts, he, hz, hd, h1', _, hTe, hT, hdT, h3'⟩ := id y4
  unfold PySem.passOn
  refine wpAny_bind (wpAny_field (s := { s' with heap := h2 }) he hd h1' ?_)
  rw [if_neg (show ¬ ((Value.ref T == Value.none) = true) from by simp)]
  rw [hcf, hfr]
  refine wpAny_bind (HandSPX.setFlight_anyZ (s := { s' with heap := h2 }) y1 y3 y4 fun h3 k1 k2 k3 k4 => ?_)
  refine wpAny_throw ?_
  -- in the def's air
  obtain ⟨G', c1, c2⟩ := restrict G fun b => decide (b ≠ ce.locals)
  have co : ∀ b o, G'.get? b = some o → G.get? b = some o ∧ b ≠ ce.locals := fun b o e => by
    by_cases q : b = ce.locals
    · rw [c2 b (by simp [q])] at e; cases e
    · rw [c1 b (by simp [q])] at e; exact ⟨e, q⟩
  obtain ⟨f0, f1, f2, f4, f5, f6⟩ := fC
  have I8 := I7.turned (t' := s'.toks) (h' := G') (it := ce.locals) (fun b o hb e => by rw [c1 b (by simp [hb])]; exact e) f0 f1 f4 f5 f6
  refine tk _ _ ⟨a, B', _, pins, σ, H', cls, d, rfl, I8, fun b o e hb => ?_, fun b o e hnf => ?_, .inr (.inr ?_), na, os, ag, hW _ _ _ hE⟩
  · obtain ⟨e1, e2⟩ := co b o e
    rw [b1 b (by simp [e2])]
    exact nb b o e1 hb
  · obtain ⟨e1, e2⟩ := co b o e
    obtain ⟨sl, q⟩ := up b o (og b o e1).1 hnf
    have q2 : h2.get? b = some { o with slots := sl } := (sb.2 b e2).trans q
    obtain ⟨sl3, q3⟩ := k4 b { o with slots := sl } q2 hnf
    exact ⟨sl3, q3⟩
  · rw [hst]
    exact ⟨k1, bk _ x2, k2, k3⟩
end
section
variable {X : Cx} {W : WX}
/-- the reading: the first item's step raises -/
def tLcX (wi : TI) (g : TG) (ta : TA) (sp : Sp) (W : WX) (vs : List Nat) : TS := fun _ σ H => wi σ H fun J H1 => ∀ D, H1 D = none → J.go 0 (upd H1 D (.lst [])) ∧ ∀ x H', J.yld 0 (upd H1 D (.lst [])) x H' → g x (wipe σ vs) H' fun σ2 H2 => ta σ2 H2 fun as H3 => sp as H3 (fun _ _ => False) (fun cls d H4 => W cls d σ H4)
theorem ps_lcX {k : Nat} {fa : Addr} {fd : FuncData} {ps : List Str} {sp : Sp} {y x : Str} {py p : Pos} {e : Expr} {es : List Expr} {cpos : Pos} {tg iter : Expr} {scope : Scope} {own : List (Str × Nat)} {pos spos : Pos} {wi : TI} {g : TG} {ta : TA}
    (FF : FnOk X.prog X.w X.K X.mg X.base (L2.CX X.prog X.w) k fa fd ps sp) (hr : Room k X.A) (hm : X.mg x = some (.ref fa)) (hkp : PySem.W.keepIn X.K (.ref fa) = true) (hb : Binds X.K fd ps [])
    (tk : Takes X W) (hst : X.stack = X.env :: X.outer) (hfr : X.env.frame = some X.env.locals) (hc : X.calm = true) (hN : X.N.Nodup)
    (hsw : swapsWith (.ListComp (.Call (.Name x p) (e :: es) [] cpos) [⟨tg, iter, [], 0⟩] scope pos) (some (.Name y py)) spos.line X.env = pure true) (hi : PI X tg iter wi) (ok : BlkOk X.N X.env.scope scope own)
    (hg : ∀ (s : Shared) (H : Hp) (C : Addr) (cl : List (Str × Addr)) (fp : List Addr), PG (X.blk s H scope (compEnvC scope cl C X.env) fp) tg g)
    (ha : ∀ (s : Shared) (H : Hp) (C : Addr) (cl : List (Str × Addr)) (fp : List Addr), PA (X.blk s H scope (compEnvC scope cl C X.env) fp) (e :: es) ta)
    (hgl : ∀ (s : Shared) (H : Hp) (C : Addr) (cl : List (Str × Addr)) (fp : List Addr), Gl (X.blk s H scope (compEnvC scope cl C X.env) fp) x)
    (he : ∀ (C : Addr) (cl : List (Str × Addr)), starEach (e :: es) (compEnvC scope cl C X.env) = (false, eval e (compEnvC scope cl C X.env)) :: starEach es (compEnvC scope cl C X.env)) (hpl : ∀ (C : Addr) (cl : List (Str × Addr)), (backTo cpos (starEach es (compEnvC scope cl C X.env))).any (·.1) = false)
    (hs : ∀ x, foldedSetIterable iter X.env x = pure x := by intro _; rfl) (hdb : (x == ("__debug__" : Str)) = false := by decide) :
    PS X (.Assign [.Name y py] (.ListComp (.Call (.Name x p) (e :: es) [] cpos) [⟨tg, iter, [], 0⟩] scope pos) spos) (tLcX wi g ta sp W (own.map (·.2))) := by
  refine ⟨fun pins s σ H D I h => ?_⟩
  rw [exec_Assign_Name_used _ _ _ _ hsw]
  refine wpAny_bind (wpAny_standAt (wpAny_bind ?_))
  show wpAny _ X.A (do let _ ← comprehension (.ListComp (.Call (.Name x p) (e :: es) [] cpos) [⟨tg, iter, [], 0⟩] scope pos) scope X.env (firstIterPos [⟨tg, iter, [], 0⟩] pos) (newList []) false (eval iter X.env) (some (assign (.Name y py) X.env))) _ _ s
  refine wpAny_bind (wpAny_mono (Q := fun _ _ => False) ?_ (fun _ _ z => z.elim) fun _ _ e => e)
  have hfree : ∀ y ∈ scope.names, y.2 = .free → ∃ c, X.env.cells.lookup y.1 = some c := fun y hy e => by
    rcases ok.free y hy e with k | k
    · exact I.ok.has _ (.inl k)
    · exact I.ok.has _ (.inr k)
  have h : wi σ H fun J H1 => ∀ D, H1 D = none → J.go 0 (upd H1 D (.lst [])) ∧ ∀ x H', J.yld 0 (upd H1 D (.lst [])) x H' → g x (wipe σ (own.map (·.2))) H' fun σ2 H2 => ta σ2 H2 fun as H3 => sp as H3 (fun _ _ => False) (fun cls d H4 => W cls d σ H4) := h
  refine comprehension_at (use := some (assign (.Name y py) X.env)) (Q := fun _ _ => False) rfl hs (closure_ok hfree) ok.kind (fun y hy e => by rw [ok.uniq y hy, e])
    (thn (hi.run pins s σ H _ I h) fun xv s1 hx => thn hx fun itv s2 h2 => ?_)
  obtain ⟨it, fp, tn, J, H2, e2, I2, T, st2, f2, q⟩ := h2
  subst e2
  refine wpAny_newObj_type (newEnv_comp ?_) (by show 0 ≤ sizeLine; decide)
  generalize hD : s2.heap.objs.size = D0
  have hDn : H2 D0 = none := I2.hok.fresh (Nat.le_of_eq hD)
  obtain ⟨go, step⟩ := q D0 hDn
  generalize hs3 : ({ s2 with heap := s2.heap.push { cls := .type "list", data := .seq ([] : List Value).toArray } } : Shared) = s3
  have I3 : Inv X pins σ (upd H2 D0 (.lst [])) s3 := by
    rw [← hs3]
    refine I2.laid (t' := s2.toks) (fun b o e => Heap.get?_push_of_some _ e) (Nat.le_of_eq hD) ⟨Nat.zero_le _, [], 0, .nil, ?_⟩
    rw [← hD]
    exact Heap.get?_push_size _ rfl
  have h3 : s3.heap = s2.heap.push { cls := .type "list", data := .seq ([] : List Value).toArray } := by rw [← hs3]
  have sz : ∀ b ∈ fp, b < s2.heap.objs.size := fun b hb => by
    obtain ⟨o, e, _⟩ := T.obj _ _ st2 b hb
    exact Heap.lt_size e
  have f3 : ∀ b ∈ fp, FpOk X pins (upd H2 D0 (.lst [])) b ∧ b < s3.heap.objs.size := fun b hb => by
    have hlt := sz b hb
    refine ⟨⟨?_, (f2 b hb).2⟩, by rw [h3, Heap.size_push]; exact Nat.lt_succ_of_lt hlt⟩
    rw [upd_ne (by rw [← hD]; exact Nat.ne_of_lt hlt)]
    exact (f2 b hb).1
  have st3 : tn 0 s3.heap := T.keep _ _ _ st2 fun b _ o e => by rw [h3]; exact Heap.get?_push_of_some _ e
  have I4 := block_start I3 ok hN f3
  have pg := hg s3 (upd H2 D0 (.lst [])) s3.heap.objs.size (cellsFrom (s3.heap.objs.size + 1) scope.names (cloFrom X.env.cells scope.names [])) fp
  have pa := ha s3 (upd H2 D0 (.lst [])) s3.heap.objs.size (cellsFrom (s3.heap.objs.size + 1) scope.names (cloFrom X.env.cells scope.names [])) fp
  have gl := hgl s3 (upd H2 D0 (.lst [])) s3.heap.objs.size (cellsFrom (s3.heap.objs.size + 1) scope.names (cloFrom X.env.cells scope.names [])) fp
  have he1 := he s3.heap.objs.size (cellsFrom (s3.heap.objs.size + 1) scope.names (cloFrom X.env.cells scope.names []))
  have hpl1 := hpl s3.heap.objs.size (cellsFrom (s3.heap.objs.size + 1) scope.names (cloFrom X.env.cells scope.names []))
  show codeAny _ _ (.compStart (.ListComp (.Call (.Name x p) (e :: es) [] cpos) [⟨tg, iter, [], 0⟩] scope pos) 0 (.ref it) (.ref D0) (compEnvC scope (cellsFrom (s3.heap.objs.size + 1) scope.names (cloFrom X.env.cells scope.names [])) s3.heap.objs.size X.env)) (compEnds (model X.prog X.w) X.A X.xe (some (assign (.Name y py) X.env)) (fun _ _ => False) (.ref D0) (compEnvC scope (cellsFrom (s3.heap.objs.size + 1) scope.names (cloFrom X.env.cells scope.names [])) s3.heap.objs.size X.env)) { s3 with heap := pushCells (s3.heap.push { cls := .type "dict", data := .dict #[] }) scope.names }
  have nfp : ∀ b ∈ fp, (upd H2 D0 (.lst [])) b = none := fun b hb => (f3 b hb).1.1
  have cL0 : (compEnvC scope (cellsFrom (s3.heap.objs.size + 1) scope.names (cloFrom X.env.cells scope.names [])) s3.heap.objs.size X.env).locals = s3.heap.objs.size := rfl
  have cF0 : (compEnvC scope (cellsFrom (s3.heap.objs.size + 1) scope.names (cloFrom X.env.cells scope.names [])) s3.heap.objs.size X.env).frame = X.env.frame := rfl
  generalize hce : compEnvC scope (cellsFrom (s3.heap.objs.size + 1) scope.names (cloFrom X.env.cells scope.names [])) s3.heap.objs.size X.env = ce at I4 pg pa gl he1 hpl1 cL0 cF0 ⊢
  generalize hH3 : upd H2 D0 (.lst []) = H3 at I3 I4 pg pa gl go step nfp f3
  generalize hs4 : ({ s3 with heap := pushCells (s3.heap.push { cls := .type "dict", data := .dict #[] }) scope.names } : Shared) = s4 at I4 ⊢
  have st4 : tn 0 s4.heap := T.keep _ _ _ st3 fun b _ o e => by rw [← hs4]; exact pushCells_keeps _ _ _ _ (Heap.get?_push_of_some _ e)
  have stat : ∀ {σ' : L2.St} {H' : Hp} {s' : Shared}, Inv (X.blk s3 H3 scope ce fp) [] σ' H' s' → (∀ b ∈ fp, H' b = none) → ∀ b ∈ fp, FpOk (X.blk s3 H3 scope ce fp) [] H' b := fun {σ' H' s'} I' hn b hb =>
    ⟨hn b hb, (I'.ok.exf b hb).1, I'.ok.exfs b hb, .inl hb, fun x c e => (I'.ok.exf b hb).2 x c e, fun p hp => absurd (show p ∈ ([] : List (Addr × Obj)) ++ [] from hp) (by simp)⟩
  have loop : codeAny (model X.prog X.w) X.A (.compLoop (.ListComp (.Call (.Name x p) (e :: es) [] cpos) [⟨tg, iter, [], 0⟩] scope pos) 0 (.ref it) (.ref D0) ce) (compEnds (model X.prog X.w) X.A X.xe (some (assign (.Name y py) X.env)) (fun _ _ => False) (.ref D0) ce) s4 := by
    refine compLoop_any (fun _ s' => Inv (X.blk s3 H3 scope ce fp) [] (wipe σ (own.map (·.2))) H3 s' ∧ tn 0 s'.heap) ?_ 0 ⟨I4, st4⟩
    rintro n s5 ⟨I5, st5⟩
    have ti := T.item (X.blk s3 H3 scope ce fp) rfl rfl rfl hc 0 [] s5 _ H3 (fun _ _ => False) I5 (stat I5 nfp) st5 go
    refine thnF ti fun r s6 ⟨u, hr6, h6⟩ => ?_
    subst hr6
    refine thnF h6 fun _ s7 ⟨xv, H7, I7, r7, y7, st7, n7⟩ => ?_
    refine thnF (pg.run [] s7 _ H7 xv u _ I7 r7 (step xv H7 y7)) fun _ s8 ⟨σ8, H8, I8, q8⟩ => ?_
    refine thnF ((pts_nil (X := X.blk s3 H3 scope ce fp)).run [] s8 σ8 H8 (fun b H => b = true ∧ H8 = H) I8 ⟨rfl, rfl⟩) fun b s9 ⟨H9, I9, hb9, hH9⟩ => ?_
    subst hb9
    subst hH9
    rw [if_pos rfl]
    have pa' : PA ((X.blk s3 H3 scope ce fp).wish (notedBy (model X.prog X.w) X.A ce (CompFails (model X.prog X.w) X.A X.xe ce))) (e :: es) ta := ⟨fun pos pins s σ H Q I hw => wpAny_mono (pa.run pos pins s σ H Q (I.wish _) hw) (fun _ _ ⟨v, H', I', r, q⟩ => ⟨v, H', I'.unwish.wish _, r, q⟩) fun _ _ z => False.elim z⟩
    refine wpAny_mono ((pe_callS (X := (X.blk s3 H3 scope ce fp).wish (notedBy (model X.prog X.w) X.A ce (CompFails (model X.prog X.w) X.A X.xe ce))) (E := fun _ cls d H4 => W cls d σ H4) FF hr gl hm hkp hb (fun σ' pins' H' s' e' s'' I' c => blk_raise tk hst hfr I3 (fun b hb => (f3 b hb).1) cF0 (by rw [cL0]; exact Nat.le_refl _) I' c fun _ _ _ h => h) pa' hdb he1 hpl1).run [] s9 σ8 H8 (fun _ _ => False) (I9.wish _) q8) (fun _ _ ⟨_, _, _, _, z⟩ => z.elim) fun _ _ z => z
  exact codeAny_compStart_list loop (T.self X.A 0 _ _ _ st4 loop)
end
end M
namespace M
open PySem PySem.Spec PyProof.Rows L2
/-- the canonical reading of arguments -/
def cA (K : Frg) (f : Af) : TA := fun s H Q => ∃ G F env as env', Ok K G F env s H ∧ f env = some (as, env') ∧ ∀ F' H' vs, Ok K G F' env' s H' → Same F F' → ArsOk F' s as vs → Q vs H'
theorem XA.can {X : Cx} {es : List Expr} {f : Af} (h : XA X es f) : PA X es (cA X.K f) := by
  obtain ⟨t, h1, h2⟩ := h.ex
  exact ⟨fun pos pins s σ H Q I ⟨G, F, env, as, env', k, e, q⟩ => h1.run pos pins s σ H Q I (h2 G F env σ H as env' k e Q q)⟩
/-- x = [f(..) for .. in ..] whose first step raises -/
def sCompX (src : Lf) (vs : List Nat) (gt : Tf) (g : Gfx) (af : Af) : Sfx := fun env => (src env).bind fun r => match r.1 with
  | [] => none
  | d :: _ => (gt d (wipeE r.2 vs)).bind fun e2 => (eCallX g af e2).bind fun o => match o with
    | .inl _ => none
    | .inr p => some (.inr (p.1, List.replicate env.length .no))
theorem ok_no {K : Frg} {G : Gm} {F : Hp} {env : En} {s s2 : L2.St} {H : Hp} {n : Nat} (k : Ok K G F env s H) (hl : s2.length = n) : Ok K G F (List.replicate n .no) s2 H := by
  have no : ∀ {j : Nat} {x : Sl}, (List.replicate n Sl.no)[j]? = some x → x = .no := fun {j x} e => by
    rw [List.getElem?_replicate] at e
    split at e
    · cases e; rfl
    · cases e
  exact ⟨by rw [hl, List.length_replicate], k.fr, fun j d e => (by cases no e), fun j l ds e => (by cases no e), fun j ds e => (by cases no e), fun i j l ds m es e1 _ _ => (by cases no e1), k.pin, k.dom, k.grow, k.new, k.rin, ⟨fun i w kvs e => (by cases no e), fun i j w kvs w' kvs' e _ _ => (by cases no e)⟩⟩
theorem xsx_compX {X : Cx} {W : WX} {k : Nat} {fa : Addr} {fd : FuncData} {ps : List Str} {x y : Str} {p py cpos pos spos : Pos} {es : List Expr} {e : Expr} {af : Af} {g : Gfx} {tg iter : Expr} {scope : Scope} {own : List (Str × Nat)} {src : Lf} {gt : Tf} {sl : List Nat}
    (FF : FnOk X.prog X.w X.K X.mg X.base (L2.CX X.prog X.w) k fa fd ps (spX X.K g)) (hr : Room k X.A) (hm : X.mg x = some (.ref fa)) (hk : PySem.W.keepIn X.K (.ref fa) = true) (hb : Binds X.K fd ps []) (tk : Takes X W)
    (hi : XI X tg iter src) (hN : X.N.Nodup) (ok : BlkOk X.N X.env.scope scope own)
    (hg : ∀ s H C cl fp, XG (Blk X scope s H C cl fp) tg gt sl) (ha : ∀ s H C cl fp, XA (Blk X scope s H C cl fp) (e :: es) af)
    (hsw : swapsWith (.ListComp (.Call (.Name x p) (e :: es) [] cpos) [⟨tg, iter, [], 0⟩] scope pos) (some (.Name y py)) spos.line X.env = pure true)
    (hst : X.stack = X.env :: X.outer := by rfl) (hfr : X.env.frame = some X.env.locals := by rfl) (hc : X.calm = true := by rfl)
    (hgl : ∀ (s : Shared) (H : Hp) (C : Addr) (cl : List (Str × Addr)) (fp : List Addr), Gl (X.blk s H scope (compEnvC scope cl C X.env) fp) x := by intro _ _ _ _ _; rfl)
    (he : ∀ (C : Addr) (cl : List (Str × Addr)), starEach (e :: es) (compEnvC scope cl C X.env) = (false, eval e (compEnvC scope cl C X.env)) :: starEach es (compEnvC scope cl C X.env) := by intro _ _; rfl) (hpl : ∀ (C : Addr) (cl : List (Str × Addr)), (backTo cpos (starEach es (compEnvC scope cl C X.env))).any (·.1) = false := by intro _ _; rfl)
    (hs : ∀ x, foldedSetIterable iter X.env x = pure x := by intro _; rfl) (hdb : (x == ("__debug__" : Str)) = false := by decide) :
    XSX X W (.Assign [.Name y py] (.ListComp (.Call (.Name x p) (e :: es) [] cpos) [⟨tg, iter, [], 0⟩] scope pos) spos) (sCompX src (own.map (·.2)) gt g af) := by
  obtain ⟨wi, p1, q1⟩ := hi.ex
  refine ⟨PS.imp (ps_lcX (ta := cA X.K af) (g := cG X.K gt sl) (sp := spX X.K g) (y := y) (py := py) (spos := spos) (pos := pos) FF hr hm hk hb tk hst hfr hc hN hsw p1 ok (fun s H C cl fp => (hg s H C cl fp).can) (fun s H C cl fp => (ha s H C cl fp).can) hgl he hpl hs hdb) fun E s H ⟨G, F, env, o, k1, e1, q⟩ => ?_⟩
  unfold sCompX at e1
  obtain ⟨⟨ds, ev1⟩, h1, e1⟩ := Option.bind_eq_some_iff.mp e1
  dsimp only at e1
  match ds, h1, e1 with
  | [], _, e1 => cases e1
  | d :: ds, h1, e1 =>
    obtain ⟨ev2, h2, e1⟩ := Option.bind_eq_some_iff.mp e1
    obtain ⟨o1, h3, e1⟩ := Option.bind_eq_some_iff.mp e1
    match o1, h3, e1 with
    | .inl _, _, e1 => cases e1
    | .inr (xc, ev3), h3, e1 =>
      cases e1
      refine q1 G F env s H (d :: ds) ev1 k1 h1 _ fun F1 H1 J k2 s1 w => ?_
      obtain ⟨Gp, Y, w1, w2, w3⟩ := w
      intro L hL
      have kw := (ok_wipe (own.map (·.2)) k2).laid (o := .lst []) hL
      refine ⟨w1.goes 0 _ (by simp) (w2 G F1 _ _ _ (Same.refl _) kw (Same.refl _)), fun xv H2 yl => ?_⟩
      obtain ⟨F2, k3, s2, hh, d2, hd, pd⟩ := w3 0 _ xv H2 G F1 _ _ (by simp) (Same.refl _) kw (Same.refl _) (w1.yields 0 _ xv H2 (by simp) (w2 G F1 _ _ _ (Same.refl _) kw (Same.refl _)) yl)
      have hd : d = d2 := by simpa using hd
      subst hd
      unfold eCallX at h3
      obtain ⟨⟨as, ev4⟩, h4, h3⟩ := Option.bind_eq_some_iff.mp h3
      dsimp only at h3
      split at h3
      · rename_i hrs
        obtain ⟨args, h5, h3⟩ := Option.bind_eq_some_iff.mp h3
        obtain ⟨r, h6, h3⟩ := Option.map_eq_some_iff.mp h3
        match r, h6, h3 with
        | .inl (_, _), _, h3 => cases h3
        | .inr (x2, args'), h6, h3 =>
          cases h3
          refine ⟨G, F2, _, d, ev2, k3, pd, h2, fun s3 k4 _ => ⟨G, F2, ev2, as, ev3, k4, h4, fun F4 H4 vs k5 s5 p5 => ⟨F4, args, _, h6, k5.fr, args_ok k5 p5 h5 (by rw [hrs]; intro i hi; cases hi) (by rw [hrs]; intro i hi; cases hi), fun F5 H5 cls dd po hx => ?_⟩⟩⟩
          exact q F5 s H5 cls dd (ok_no (ok_after k5 p5 h5 po rfl (fun j => .inl rfl) (by rw [hrs]; intro i hi; cases hi)) k1.len) (((s1.trans s2).trans s5).trans po.grow) (isX_dom k5.dom hx)
      · cases h3
end M

namespace M
open PySem PySem.Spec PyProof.Rows L2
/-! ### clocks as data -/
abbrev Hd := Int × Int × Str
def hD (h : Hd) : D := .tuple [.int h.1, .int h.2.1, .str h.2.2]
def isLk (x : Str) : Prop := ∃ c : Nat, 97 ≤ c ∧ c ≤ 122 ∧ x = ⟨#[c]⟩
def HandsOk (m : Int) (hs : List Hd) : Prop := ∀ h ∈ hs, 0 ≤ h.1 ∧ h.1 < m ∧ 0 ≤ h.2.1 ∧ h.2.1 < m ∧ isLk h.2.2
abbrev clockD (m : Int) (hs : List Hd) (b r : Bool) : D := .tuple [.int m, .tuple (hs.map hD), .bool b, .bool r]
def tO (o : List Nat) : D := .tuple (o.map fun (j : Nat) => PyData.int (j : Int))
/-! shapes -/
def Lay (n : Nat) (d : D) : Prop := d.canLay0 = true ∧ d.depth ≤ n
theorem Lay.shp {n : Nat} {d : D} (h : Lay n d) (hn : n ≤ 64) : M.shp d = true := by
  unfold M.shp SeqAt.shaped
  rw [h.1, decide_eq_true (show d.depth ≤ 64 by have := h.2; omega)]
  rfl
theorem Lay.mono {n m : Nat} {d : D} (h : Lay n d) (hn : n ≤ m) : Lay m d := ⟨h.1, Nat.le_trans h.2 hn⟩
/-! letters -/
def letters : List Nat := [97, 98, 99, 100, 101, 102, 103, 104, 105, 106, 107, 108, 109, 110, 111, 112, 113, 114, 115, 116, 117, 118, 119, 120, 121, 122]
/-! ### swaps -/
def nextS (looks : List Str) (l : Str) (some_ : List Nat) : List (List Nat) := ((List.range looks.length).filter fun j => decide (j ∉ some_) && decide (looks[j]? = some l)).map fun j => some_ ++ [j]
def swapsGo (looks : List Str) : List Str → List (List Nat) → List (List Nat)
  | [], acc => acc
  | l :: ls, acc => swapsGo looks ls (acc.flatMap (nextS looks l))
def swapsL (looks : List Str) : List (List Nat) := swapsGo looks looks [[]]
theorem swapsGo_snoc (looks : List Str) (l : Str) : ∀ (ls : List Str) (acc : List (List Nat)), swapsGo looks (ls ++ [l]) acc = (swapsGo looks ls acc).flatMap (nextS looks l)
  | [], _ => rfl
  | k :: ls, acc => swapsGo_snoc looks l ls _
/-- what holds of each swap -/
structure SwOk (n : Nat) (o : List Nat) : Prop where
  len : o.length = n
  lt : ∀ j ∈ o, j < n
  nd : o.Nodup
theorem swapsGo_ok (looks : List Str) : ∀ (k : Nat), k ≤ looks.length → ∀ o ∈ swapsGo looks (looks.take k) [[]], o.length = k ∧ (∀ j ∈ o, j < looks.length) ∧ o.Nodup ∧ ∀ i, i < k → ∃ j, o[i]? = some j ∧ looks[j]? = looks[i]?
  | 0, _, o, ho => by
    rw [List.take_zero] at ho
    simp only [swapsGo, List.mem_singleton] at ho
    subst ho
    exact ⟨rfl, fun j hj => (by cases hj), List.nodup_nil, fun i hi => absurd hi (Nat.not_lt_zero _)⟩
  | k + 1, h, o, ho => by
    have hk : k < looks.length := by omega
    rw [List.take_succ_eq_append_getElem hk, swapsGo_snoc] at ho
    obtain ⟨p, hp, hx⟩ := List.mem_flatMap.mp ho
    obtain ⟨h1, h2, h3, h4⟩ := swapsGo_ok looks k (by omega) p hp
    unfold nextS at hx
    obtain ⟨j, hj, rfl⟩ := List.mem_map.mp hx
    obtain ⟨hj1, hj2⟩ := List.mem_filter.mp hj
    simp only [Bool.and_eq_true, decide_eq_true_eq] at hj2
    refine ⟨by simp [h1], fun i hi => ?_, ?_, fun i hi => ?_⟩
    · rcases List.mem_append.mp hi with hi | hi
      · exact h2 i hi
      · rw [List.mem_singleton] at hi; subst hi; exact List.mem_range.mp hj1
    · refine List.nodup_append.mpr ⟨h3, by simp, fun a ha b hb e => ?_⟩
      rw [List.mem_singleton] at hb
      subst hb; subst e
      exact hj2.1 ha
    · by_cases hi' : i < k
      · obtain ⟨j', e1, e2⟩ := h4 i hi'
        exact ⟨j', by rw [List.getElem?_append_left (by omega)]; exact e1, e2⟩
      · have : i = k := by omega
        subst this
        refine ⟨j, by rw [List.getElem?_append_right (by omega), h1]; simp, ?_⟩
        rw [hj2.2, List.getElem?_eq_getElem hk]
theorem swapsL_ok {looks : List Str} {o : List Nat} (h : o ∈ swapsL looks) : SwOk looks.length o ∧ ∀ i, i < looks.length → ∃ j, o[i]? = some j ∧ looks[j]? = looks[i]? := by
  have := swapsGo_ok looks looks.length (Nat.le_refl _)
  rw [List.take_length] at this
  obtain ⟨h1, h2, h3, h4⟩ := this o h
  exact ⟨⟨h1, h2, h3⟩, h4⟩
/-! readings -/
abbrev Rd := List Nat × Bool
def rD (r : Rd) : D := .tuple [tO r.1, .bool r.2]
def readL (mir : Bool) (sw : List (List Nat)) : List Rd := sw.flatMap fun o => if mir then [(o, false), (o, true)] else [(o, false)]
theorem readL_mem {mir : Bool} {sw : List (List Nat)} {r : Rd} (h : r ∈ readL mir sw) : r.1 ∈ sw ∧ (r.2 = true → mir = true) := by
  unfold readL at h
  obtain ⟨o, ho, hr⟩ := List.mem_flatMap.mp h
  cases mir
  · simp only [Bool.false_eq_true, if_false, List.mem_singleton] at hr; subst hr; exact ⟨ho, fun z => by cases z⟩
  · simp only [if_true, List.mem_cons, List.not_mem_nil, or_false] at hr
    rcases hr with rfl | rfl
    · exact ⟨ho, fun _ => rfl⟩
    · exact ⟨ho, fun _ => rfl⟩
abbrev looksOf (hs : List Hd) : List Str := hs.map fun h => h.2.2
abbrev readOf (hs : List Hd) (mir : Bool) : List Rd := readL mir (swapsL (looksOf hs))
/-! rows -/
abbrev Rw := Int × Int × Int
def sgn (mir : Bool) : Int := if mir then -1 else 1
def row1 (m : Int) (hs : List Hd) (mir : Bool) (j : Nat) (h : Hd) : Rw := ((hs.getD j (0, 0, ⟨#[]⟩)).1, sgn mir * h.1 % m, (sgn mir * h.2.1 - (hs.getD j (0, 0, ⟨#[]⟩)).2.1) % m)
def rows0 (m : Int) (hs : List Hd) (r : Rd) : List Rw := List.zipWith (row1 m hs r.2) r.1 hs
def lessR (m : Int) (a b : Rw) : Rw := ((a.1 - b.1) % m, (a.2.1 - b.2.1) % m, (a.2.2 - b.2.2) % m)
def rowsL (m : Int) (hs : List Hd) (bl : Bool) (r : Rd) : List Rw := if bl then (rows0 m hs r).tail.map (fun x => lessR m x ((rows0 m hs r).headD (0, 0, 0))) else rows0 m hs r
/-! ### rules for tuples of numbers of hands -/
theorem getD_eq {α : Type} {l : List α} {j : Nat} {d : α} (h : j < l.length) : l.getD j d = l[j] := by
  rw [List.getD_eq_getElem?_getD, List.getElem?_eq_getElem h]
  rfl
/-! first numbers of the plain rows -/
def firstsL (m : Int) (hs : List Hd) (bl : Bool) : List Int := if bl then hs.tail.map (fun h => (h.1 - (hs.headD (0, 0, ⟨#[]⟩)).1) % m) else hs.map (·.1)
theorem swOk_range (n : Nat) : SwOk n (List.range n) := ⟨List.length_range, fun j h => List.mem_range.mp h, List.nodup_range⟩
theorem rows0_plain (m : Int) (hs : List Hd) : (rows0 m hs (List.range hs.length, false)).map (·.1) = hs.map (·.1) := by
  refine List.ext_getElem? fun k => ?_
  unfold rows0
  rw [List.map_zipWith, List.getElem?_zipWith, List.getElem?_map]
  by_cases hk : k < hs.length
  · rw [List.getElem?_range hk, List.getElem?_eq_getElem hk]
    show some (row1 m hs false k hs[k]).1 = some hs[k].1
    unfold row1
    rw [getD_eq hk]
  · rw [List.getElem?_eq_none (by omega : hs.length ≤ k), List.getElem?_eq_none (by rw [List.length_range]; omega)]
    rfl
theorem rowsL_firsts {m : Int} (hm : 0 < m) (hs : List Hd) (bl : Bool) : (rowsL m hs bl (List.range hs.length, false)).map (·.1) = firstsL m hs bl := by
  have h := rows0_plain m hs
  unfold rowsL firstsL
  cases bl
  · exact h
  · generalize rows0 m hs (List.range hs.length, false) = R at *
    cases R with
    | nil => cases hs with
      | nil => rfl
      | cons _ _ => cases h
    | cons r0 R => cases hs with
      | nil => cases h
      | cons h0 hs =>
        rw [List.map_cons, List.map_cons] at h
        injection h with e1 e2
        show ((R.map fun x => lessR m x r0).map (·.1)) = hs.map fun h => (h.1 - h0.1) % m
        have e3 : hs.map (fun h => (h.1 - h0.1) % m) = (hs.map (·.1)).map (fun x => (x - h0.1) % m) := by rw [List.map_map]; rfl
        rw [e3, ← e2, List.map_map, List.map_map, ← e1]
        rfl
/-- the greatest number that divides a dial and some numbers -/
structure Gd (m : Int) (ns : List Int) (g : Int) : Prop where
  pos : 0 < g
  dm : g ∣ m
  dn : ∀ n ∈ ns, g ∣ n
  all : ∀ d : Int, d ∣ m → (∀ n ∈ ns, d ∣ n) → d ∣ g
theorem Gd.uniq {m g h : Int} {ns : List Int} (x : Gd m ns g) (y : Gd m ns h) : g = h :=
  Int.dvd_antisymm (by have := x.pos; omega) (by have := y.pos; omega) (y.all g x.dm x.dn) (x.all h y.dm y.dn)
theorem Gd.start {m : Int} (hm : 0 < m) : Gd m [] m := ⟨hm, Int.dvd_refl _, fun n h => (by cases h), fun d h _ => h⟩
theorem Gd.step {m g n g' : Int} {ns : List Int} (x : Gd m ns g) (G : IsG g n g') : Gd m (ns ++ [n]) g' := by
  have hp := G.symm.ne x.pos
  refine ⟨hp, Int.dvd_trans G.da x.dm, fun y hy => ?_, fun d d1 d2 => G.all d (x.all d d1 fun y hy => d2 y (List.mem_append_left _ hy)) (d2 n (by simp))⟩
  rcases List.mem_append.mp hy with hy | hy
  · exact Int.dvd_trans G.da (x.dn y hy)
  · rw [List.mem_singleton] at hy; subst hy; exact G.db
theorem HandsOk.mono {m n : Int} {hs : List Hd} (h : HandsOk m hs) (hn : m ≤ n) : HandsOk n hs := fun x hx => by
  obtain ⟨h1, h2, h3, h4, h5⟩ := h x hx
  exact ⟨h1, by omega, h3, by omega, h5⟩
theorem irange_mem {lo : Int} {n : Nat} {d : D} (h : d ∈ irange lo n) : ∃ i : Int, d = .int i ∧ lo ≤ i ∧ i < lo + n := by
  unfold irange at h
  obtain ⟨k, h1, rfl⟩ := List.mem_map.mp h
  exact ⟨_, rfl, by omega, by have := List.mem_range.mp h1; omega⟩
theorem eqvAll_ints : ∀ xs ys : List Int, PyData.eqvAll (xs.map .int) (ys.map .int) = decide (xs = ys)
  | [], [] => by unfold PyData.eqvAll; rfl
  | [], y :: ys => by unfold PyData.eqvAll; rfl
  | x :: xs, [] => by unfold PyData.eqvAll; rfl
  | x :: xs, y :: ys => by
    show (PyData.eqv (.int x) (.int y) && PyData.eqvAll (xs.map .int) (ys.map .int)) = _
    rw [eqvAll_ints xs ys, eqv_int, ← Bool.decide_and]
    exact decide_eq_decide.mpr (by rw [List.cons.injEq])
theorem wo_neInts {xs ys : List Int} {Q : D → Prop} (q : Q (.bool (!decide (xs = ys)))) : WO (gNe (.list (xs.map .int)) (.list (ys.map .int))) Q :=
  wo_neD (shp_ints xs) (shp_ints ys) (by
    have : PyData.eqv (.list (xs.map .int)) (.list (ys.map .int)) = decide (xs = ys) := by unfold PyData.eqv; exact eqvAll_ints xs ys
    rw [this]; exact q)
/-! ### what a reading takes for a tick -/
def takenB (m : Int) (R : List Rw) (t u : Int) : Bool := R.all fun r => decide ((r.1 * u - r.2.1 * t - r.2.2) % m = 0)
/-- a hand's turn by a reading -/
def turn1 (m : Int) (hs : List Hd) (mir : Bool) (t u : Int) (j : Nat) (h : Hd) : Int := ((hs.getD j (0, 0, ⟨#[]⟩)).2.1 + (hs.getD j (0, 0, ⟨#[]⟩)).1 * u - (if mir then 0 - (h.2.1 + h.1 * t) else h.2.1 + h.1 * t)) % m
def turnsL (m : Int) (hs : List Hd) (r : Rd) (t u : Int) : List Int := List.zipWith (turn1 m hs r.2 t u) r.1 hs
theorem row_turn {m : Int} {hs : List Hd} {mir : Bool} {t u : Int} {j : Nat} {h : Hd} : m ∣ (row1 m hs mir j h).1 * u - (row1 m hs mir j h).2.1 * t - (row1 m hs mir j h).2.2 - turn1 m hs mir t u j h := by
  unfold row1 turn1
  dsimp only
  generalize hs.getD j (0, 0, ⟨#[]⟩) = g
  have hsg : sgn mir = 1 ∧ mir = false ∨ sgn mir = -1 ∧ mir = true := by cases mir; exact .inl ⟨rfl, rfl⟩; exact .inr ⟨rfl, rfl⟩
  have e1 := Int.mul_ediv_add_emod (sgn mir * h.1) m
  have e2 := Int.mul_ediv_add_emod (sgn mir * h.2.1 - g.2.1) m
  have e3 := Int.mul_ediv_add_emod (g.2.1 + g.1 * u - (if mir then 0 - (h.2.1 + h.1 * t) else h.2.1 + h.1 * t)) m
  rcases hsg with ⟨a, b⟩ | ⟨a, b⟩
  · rw [b] at e3 ⊢
    simp only [Bool.false_eq_true, if_false] at e3 ⊢
    rw [show sgn false = 1 from rfl, Int.one_mul, Int.one_mul] at *
    rw [b] at e1 e2
    rw [show sgn false = 1 from rfl] at e1 e2
    rw [Int.one_mul] at e1 e2
    refine ⟨h.1 / m * t + (h.2.1 - g.2.1) / m + (g.2.1 + g.1 * u - (h.2.1 + h.1 * t)) / m, ?_⟩
    grind
  · rw [b] at e1 e2 e3 ⊢
    simp only [if_true] at e3 ⊢
    rw [show sgn true = -1 from rfl] at e1 e2 ⊢
    refine ⟨-1 * h.1 / m * t + (-1 * h.2.1 - g.2.1) / m + (g.2.1 + g.1 * u - (0 - (h.2.1 + h.1 * t))) / m, ?_⟩
    grind
end M

namespace Lw
open PySem PySem.Spec PyProof.Rows L2 M
def topS (i : Nat) : Stmt := PySem.Challenge.pw_dialdoubt_k52_hands_that_there_are_none.main.body.getD i (.Pass ⟨0, 0, 0, 0⟩)
abbrev s_is_look : Stmt := topS 12
abbrev N_is_look : List Str := ["text"]
theorem sc_is_look : FnScope N_is_look ["text"] (defScope s_is_look) := ⟨rfl, rfl, rfl, by decide +kernel, rfl, by decide +kernel, by decide +kernel⟩
abbrev s_many_readings : Stmt := topS 13
abbrev N_many_readings : List Str := ["hands", "mirror", "found", "met", "gear", "start", "look"]
theorem sc_many_readings : FnScope N_many_readings ["hands", "mirror"] (defScope s_many_readings) := ⟨rfl, rfl, rfl, by decide +kernel, rfl, by decide +kernel, by decide +kernel⟩
abbrev s_hand_asked : Stmt := topS 15
abbrev N_hand_asked : List Str := ["clock", "hand"]
theorem sc_hand_asked : FnScope N_hand_asked ["clock", "hand"] (defScope s_hand_asked) := ⟨rfl, rfl, rfl, by decide +kernel, rfl, by decide +kernel, by decide +kernel⟩
abbrev s_common_parts : Stmt := topS 18
abbrev N_common_parts : List Str := ["one", "other", "first", "second", "times", "rest", "a", "b"]
theorem sc_common_parts : FnScope N_common_parts ["one", "other"] (defScope s_common_parts) := ⟨rfl, rfl, rfl, by decide +kernel, rfl, by decide +kernel, by decide +kernel⟩
abbrev s_swaps_of : Stmt := topS 21
abbrev N_swaps_of : List Str := ["hands", "found", "gear", "start", "look", "longer", "some", "hand"]
theorem sc_swaps_of : FnScope N_swaps_of ["hands"] (defScope s_swaps_of) := ⟨rfl, rfl, rfl, by decide +kernel, rfl, by decide +kernel, by decide +kernel⟩
abbrev s_rows_of : Stmt := topS 23
abbrev N_rows_of : List Str := ["clock", "reading", "many", "hands", "blank", "mirror", "swap", "mirrored", "sign", "rows", "hand", "gear", "start", "look", "row", "one", "other"]
theorem sc_rows_of : FnScope N_rows_of ["clock", "reading"] (defScope s_rows_of) := ⟨rfl, rfl, rfl, by decide +kernel, rfl, by decide +kernel, by decide +kernel⟩
abbrev s_times_all : Stmt := topS 26
abbrev N_times_all : List Str := ["multipliers", "numbers", "by", "number"]
theorem sc_times_all : FnScope N_times_all ["multipliers", "numbers"] (defScope s_times_all) := ⟨rfl, rfl, rfl, by decide +kernel, rfl, by decide +kernel, by decide +kernel⟩
abbrev s__law_cell_at : Stmt := topS 39
abbrev N__law_cell_at : List Str := ["script", "k", "cell"]
theorem sc__law_cell_at : FnScope N__law_cell_at ["script", "k"] (defScope s__law_cell_at) := ⟨rfl, rfl, rfl, by decide +kernel, rfl, by decide +kernel, by decide +kernel⟩
abbrev s__law_state : Stmt := topS 41
abbrev N__law_state : List Str := ["cell", "left"]
theorem sc__law_state : FnScope N__law_state ["cell"] (defScope s__law_state) := ⟨rfl, rfl, rfl, by decide +kernel, rfl, by decide +kernel, by decide +kernel⟩
abbrev s__law_next : Stmt := topS 42
abbrev N__law_next : List Str := ["state", "many", "found"]
theorem sc__law_next : FnScope N__law_next ["state", "many"] (defScope s__law_next) := ⟨rfl, rfl, rfl, by decide +kernel, rfl, by decide +kernel, by decide +kernel⟩
abbrev s_made_clock : Stmt := topS 14
abbrev N_made_clock : List Str := ["many", "hands", "blank", "mirror", "found", "gear", "start", "look"]
theorem sc_made_clock : FnScope N_made_clock ["many", "hands", "blank", "mirror"] (defScope s_made_clock) := ⟨rfl, rfl, rfl, by decide +kernel, rfl, by decide +kernel, by decide +kernel⟩
abbrev s_with_hand : Stmt := topS 16
abbrev N_with_hand : List Str := ["clock", "hand", "gear", "start", "many", "hands", "blank", "mirror", "found"]
theorem sc_with_hand : FnScope N_with_hand ["clock", "hand", "gear", "start"] (defScope s_with_hand) := ⟨rfl, rfl, rfl, by decide +kernel, rfl, by decide +kernel, by decide +kernel⟩
abbrev s_weights_of : Stmt := topS 19
abbrev N_weights_of : List Str := ["many", "numbers", "greatest", "found", "number", "times", "more", "weight"]
theorem sc_weights_of : FnScope N_weights_of ["many", "numbers"] (defScope s_weights_of) := ⟨rfl, rfl, rfl, by decide +kernel, rfl, by decide +kernel, by decide +kernel⟩
abbrev s_readings_of : Stmt := topS 22
abbrev N_readings_of : List Str := ["clock", "found", "swap"]
theorem sc_readings_of : FnScope N_readings_of ["clock"] (defScope s_readings_of) := ⟨rfl, rfl, rfl, by decide +kernel, rfl, by decide +kernel, by decide +kernel⟩
abbrev s_is_taken : Stmt := topS 24
abbrev N_is_taken : List Str := ["clock", "reading", "tick", "other", "a", "b", "c"]
theorem sc_is_taken : FnScope N_is_taken ["clock", "reading", "tick", "other"] (defScope s_is_taken) := ⟨rfl, rfl, rfl, by decide +kernel, rfl, by decide +kernel, by decide +kernel⟩
abbrev s_put_together : Stmt := topS 29
abbrev N_put_together : List Str := ["many", "row", "rows", "at", "one"]
theorem sc_put_together : FnScope N_put_together ["many", "row", "rows"] (defScope s_put_together) := ⟨rfl, rfl, rfl, by decide +kernel, rfl, by decide +kernel, by decide +kernel⟩
abbrev s__law_folded : Stmt := topS 40
abbrev N__law_folded : List Str := ["script", "many", "k", "cells", "at"]
theorem sc__law_folded : FnScope N__law_folded ["script", "many"] (defScope s__law_folded) := ⟨rfl, rfl, rfl, by decide +kernel, rfl, by decide +kernel, by decide +kernel⟩
abbrev s__law_below : Stmt := topS 43
abbrev N__law_below : List Str := ["state", "top", "found", "k"]
theorem sc__law_below : FnScope N__law_below ["state", "top"] (defScope s__law_below) := ⟨rfl, rfl, rfl, by decide +kernel, rfl, by decide +kernel, by decide +kernel⟩
abbrev s__law_looks : Stmt := topS 44
abbrev N__law_looks : List Str := ["state", "count", "mirror", "base", "k", "letters", "way", "shape", "found"]
theorem sc__law_looks : FnScope N__law_looks ["state", "count", "mirror"] (defScope s__law_looks) := ⟨rfl, rfl, rfl, by decide +kernel, rfl, by decide +kernel, by decide +kernel⟩
abbrev s_cleared_of : Stmt := topS 27
abbrev N_cleared_of : List Str := ["many", "numbers", "greatest", "weights", "found", "at", "number", "times", "weight", "to"]
theorem sc_cleared_of : FnScope N_cleared_of ["many", "numbers"] (defScope s_cleared_of) := ⟨rfl, rfl, rfl, by decide +kernel, rfl, by decide +kernel, by decide +kernel⟩
abbrev s_changed_by : Stmt := topS 32
abbrev N_changed_by : List Str := ["clock", "kind", "hand", "more", "gear", "start"]
theorem sc_changed_by : FnScope N_changed_by ["clock", "kind", "hand", "more"] (defScope s_changed_by) := ⟨rfl, rfl, rfl, by decide +kernel, rfl, by decide +kernel, by decide +kernel⟩
abbrev s_is_doubt : Stmt := topS 36
abbrev N_is_doubt : List Str := ["clock", "doubt", "tick", "other", "reading"]
theorem sc_is_doubt : FnScope N_is_doubt ["clock", "doubt"] (defScope s_is_doubt) := ⟨rfl, rfl, rfl, by decide +kernel, rfl, by decide +kernel, by decide +kernel⟩
abbrev s__law_clock : Stmt := topS 45
abbrev N__law_clock : List Str := ["state", "many", "blank", "mirror", "count", "hands", "look", "few", "any_one", "gear"]
theorem sc__law_clock : FnScope N__law_clock ["state", "many"] (defScope s__law_clock) := ⟨rfl, rfl, rfl, by decide +kernel, rfl, by decide +kernel, by decide +kernel⟩
abbrev s_reading_doubt : Stmt := topS 28
abbrev N_reading_doubt : List Str := ["many", "rows", "ones", "dues", "nought", "weights", "greatest", "row", "gaps", "ends", "empty", "again", "common", "end", "gap", "a", "b", "c"]
theorem sc_reading_doubt : FnScope N_reading_doubt ["many", "rows"] (defScope s_reading_doubt) := ⟨rfl, rfl, rfl, by decide +kernel, rfl, by decide +kernel, by decide +kernel⟩
abbrev s__law_small : Stmt := topS 46
abbrev N__law_small : List Str := ["state", "many"]
theorem sc__law_small : FnScope N__law_small ["state"] (defScope s__law_small) := ⟨rfl, rfl, rfl, by decide +kernel, rfl, by decide +kernel, by decide +kernel⟩
abbrev s_whole_paper : Stmt := topS 30
abbrev N_whole_paper : List Str := ["clock", "many", "papers", "reading", "found"]
theorem sc_whole_paper : FnScope N_whole_paper ["clock"] (defScope s_whole_paper) := ⟨rfl, rfl, rfl, by decide +kernel, rfl, by decide +kernel, by decide +kernel⟩
abbrev s_other_by : Stmt := topS 33
abbrev N_other_by : List Str := ["clock", "kind", "hand", "tries", "doubts", "more", "changed", "told"]
theorem sc_other_by : FnScope N_other_by ["clock", "kind", "hand", "tries"] (defScope s_other_by) := ⟨rfl, rfl, rfl, by decide +kernel, rfl, by decide +kernel, by decide +kernel⟩
abbrev s_other_right : Stmt := topS 37
abbrev N_other_right : List Str := ["clock", "kind", "hand", "tries", "told", "changed", "doubts", "found", "more", "one", "doubt"]
theorem sc_other_right : FnScope N_other_right ["clock", "kind", "hand", "tries", "told"] (defScope s_other_right) := ⟨rfl, rfl, rfl, by decide +kernel, rfl, by decide +kernel, by decide +kernel⟩
abbrev s_other_gear : Stmt := topS 34
abbrev N_other_gear : List Str := ["clock", "hand", "tries"]
theorem sc_other_gear : FnScope N_other_gear ["clock", "hand", "tries"] (defScope s_other_gear) := ⟨rfl, rfl, rfl, by decide +kernel, rfl, by decide +kernel, by decide +kernel⟩
abbrev s_other_start : Stmt := topS 35
abbrev N_other_start : List Str := ["clock", "hand", "tries"]
theorem sc_other_start : FnScope N_other_start ["clock", "hand", "tries"] (defScope s_other_start) := ⟨rfl, rfl, rfl, by decide +kernel, rfl, by decide +kernel, by decide +kernel⟩
abbrev s__law_refused : Stmt := topS 47
abbrev N__law_refused : List Str := ["way", "clock", "hand", "tries", "caught", "told", "e"]
theorem sc__law_refused : FnScope N__law_refused ["way", "clock", "hand", "tries"] (defScope s__law_refused) := ⟨rfl, rfl, rfl, by decide +kernel, rfl, by decide +kernel, by decide +kernel⟩
abbrev s_law : Stmt := topS 48
abbrev N_law : List Str := ["script", "cell", "state", "clock", "far", "tries", "hand", "way"]
theorem sc_law : FnScope N_law ["script"] (defScope s_law) := ⟨rfl, rfl, rfl, by decide +kernel, rfl, by decide +kernel, by decide +kernel⟩
def c_LETTERS : Ef := eC (.str "abcdefghijklmnopqrstuvwxyz")
def c_MOST_HANDS : Ef := eC (.int (5))
def c_MOST_MARKS : Ef := eC (.int (1000000000000000000000000000000000000000000000000000000000000))
def c_MOST_READINGS : Ef := eC (.int (6))
abbrev C_BadClock : Addr := 37
abbrev C_Coarse : Addr := 92
abbrev C_DoubtError : Addr := 24
abbrev C_NoHand : Addr := 61
abbrev C_NoSuch : Addr := 73
def cat_DoubtError : Addr → Bool := catOf [C_NoHand]
def tab_NoHand : List (Addr × Bool) := [(C_NoHand, true)]
def tab_ValueError : List (Addr × Bool) := [(C_NoHand, true)]
def tabT_0 : List (Addr × Bool) := [(C_NoHand, false)]
/-! ### the mirrors -/
noncomputable section
def b_is_look : Sf :=
  (sRet (eAnd (eBin gEq (eUn gLen (eV 0)) (eC (.int 1))) (eBin gIs (eV 0) c_LETTERS)))
def g_is_look : Gf := fnRun 1 1 b_is_look
def b_many_readings (w : World) : Sf :=
  (sSeq (sSet 2 (eBin gAdd (eC (.int 1)) (eUn gInt (eV 1))))
  (sSeq (sDNew w 3)
  (sSeq (sFor (lIt (eV 0)) (tT 3 (gsC (tN 4) (gsC (tN 5) (gsC (tN 6) gsN))))
  (sSeq (sDPut w 3 (eV 6) (eBin gAdd (eDGet2 w 3 (eV 6) (eC (.int 0))) (eC (.int 1))))
  (sSet 2 (eBin gMul (eV 2) (eDIdx w 3 (eV 6))))))
  (sRet (eV 2)))))
def g_many_readings (w : World) : Gf := fnRun 7 2 (b_many_readings w)
def b_hand_asked : Sf :=
  (sIf (bNot (bV (eChain gLe gLt (eC (.int 0)) (eV 1) (eUn gLen (eBin gIdx (eV 0) (eC (.int 1)))))))
  sNo
  sNil)
def g_hand_asked : Gf := fnRun 2 2 b_hand_asked
def bx_hand_asked : Sfx :=
  (sIfX (bNot (bV (eChain gLe gLt (eC (.int 0)) (eV 1) (eUn gLen (eBin gIdx (eV 0) (eC (.int 1)))))))
  (sRaise0 C_NoHand)
  (sLift sNil))
def gx_hand_asked : Gfx := fnRunX 2 2 bx_hand_asked
def b_common_parts : Sf :=
  (sSeq (sPar 2 3 (lCons (eTup (lCons (eV 0) (lCons (eC (.int 1)) (lCons (eC (.int 0)) lNil)))) (lCons (eTup (lCons (eV 1) (lCons (eC (.int 0)) (lCons (eC (.int 1)) lNil)))) lNil)))
  (sSeq (sWh FU (bV (eBin gNe (eBin gIdx (eV 3) (eC (.int 0))) (eC (.int 0))))
  (sSeq (sSet 4 (eBin gDiv (eBin gIdx (eV 2) (eC (.int 0))) (eBin gIdx (eV 3) (eC (.int 0)))))
  (sSeq (sSet 5 (eUn gTuple (eFz (lComp (lZip (eV 2) (eV 3)) [6, 7] (tT 2 (gsC (tN 6) (gsC (tN 7) gsN))) bYes (eBin gSub (eV 6) (eBin gMul (eV 4) (eV 7)))))))
  (sPar 2 3 (lCons (eV 3) (lCons (eV 5) lNil))))))
  (sRet (eV 2))))
def g_common_parts : Gf := fnRun 8 2 b_common_parts
def b_swaps_of : Sf :=
  (sSeq (sSet 1 (eFz (lLst (lCons (eTup lNil) lNil))))
  (sSeq (sFor (lIt (eV 0)) (tT 3 (gsC (tN 2) (gsC (tN 3) (gsC (tN 4) gsN))))
  (sSeq (sSetO 5 (lLst lNil))
  (sSeq (sFor (lIt (eV 1)) (tN 6)
  (sFor (lRng1 (eUn gLen (eV 0))) (tN 7)
  (sIf (bAnd (bV (eBin gNi (eV 7) (eV 6))) (bV (eBin gEq (eBin gIdx (eBin gIdx (eV 0) (eV 7)) (eC (.int 2))) (eV 4))))
  (sExpr (eMut mAppend 5 (eBin gAdd (eV 6) (eTup (lCons (eV 7) lNil)))))
  sNil)))
  (sFrz 5 (sSet 1 (eV 5))))))
  (sRet (eV 1))))
def g_swaps_of : Gf := fnRun 8 1 b_swaps_of
def b_rows_of : Sf :=
  (sSeq (sAsg (eV 0) (tT 4 (gsC (tN 2) (gsC (tN 3) (gsC (tN 4) (gsC (tN 5) gsN))))))
  (sSeq (sAsg (eV 1) (tT 2 (gsC (tN 6) (gsC (tN 7) gsN))))
  (sSeq (sSet 8 (eBin gSub (eC (.int 1)) (eBin gMul (eC (.int 2)) (eUn gInt (eV 7)))))
  (sSeq (sSetO 9 (lLst lNil))
  (sSeq (sFor (lZip (eV 6) (eV 3)) (tT 2 (gsC (tN 10) (gsC (tT 3 (gsC (tN 11) (gsC (tN 12) (gsC (tN 13) gsN)))) gsN)))
  (sExpr (eMut mAppend 9 (eTup (lCons (eBin gIdx (eBin gIdx (eV 3) (eV 10)) (eC (.int 0))) (lCons (eBin gMod (eBin gMul (eV 8) (eV 11)) (eV 2)) (lCons (eBin gMod (eBin gSub (eBin gMul (eV 8) (eV 12)) (eBin gIdx (eBin gIdx (eV 3) (eV 10)) (eC (.int 1)))) (eV 2)) lNil)))))))
  (sSeq (sIf (bNot (bV (eV 4)))
  (sFrz 9 (sRet (eV 9)))
  sNil)
  (sRet (eFz (lComp (lIt (eFz (lSlV 9 (pE (eC (.int 1))) pNo))) [14] (tN 14) bYes (eUn gTuple (eFz (lComp (lZip (eV 14) (eBinV gIdx 9 (eC (.int 0)))) [15, 16] (tT 2 (gsC (tN 15) (gsC (tN 16) gsN))) bYes (eBin gMod (eBin gSub (eV 15) (eV 16)) (eV 2))))))))))))))
def g_rows_of : Gf := fnRun 17 2 b_rows_of
def b_times_all : Sf :=
  (sRet (eUn gSum (eFz (lComp (lZipA (eV 0) (eV 1)) [2, 3] (tT 2 (gsC (tN 2) (gsC (tN 3) gsN))) bYes (eBin gMul (eV 2) (eV 3))))))
def g_times_all : Gf := fnRun 4 2 b_times_all
def b__law_cell_at : Sf :=
  (sSeq (sIf (bV (eBin gLt (eV 1) (eUn gLen (eO 0))))
  (sRet (eBinV gIdx 0 (eV 1)))
  sNil)
  (sSeq (sSet 2 (eC (.int 0)))
  (sSeq (sIf (bV (eBinV gNe 0 (eFz (lLst lNil))))
  (sSet 2 (eBin gMod (eBinV gIdx 0 (eBin gMod (eV 1) (eUn gLen (eO 0)))) (eC (.int 1000003))))
  sNil)
  (sRet (eBin gAdd (eBin gAdd (eV 2) (eBin gMul (eC (.int 104729)) (eV 1))) (eC (.int 13)))))))
def g__law_cell_at : Gf := fnRun 3 2 b__law_cell_at
def b__law_state : Sf :=
  (sSeq (sSet 1 (eC (.int 0)))
  (sSeq (sIf (bV (eBin gGe (eV 0) (eBin gPow (eC (.int 10)) (eC (.int 18)))))
  (sSet 1 (eV 0))
  sNil)
  (sRetL (lLst (lCons (eV 1) (lCons (eBin gMod (eBin gMul (eBin gAdd (eBin gMod (eV 0) (eC (.int 2147483629))) (eC (.int 11))) (eC (.int 48271))) (eC (.int 2147483647))) lNil))))))
def g__law_state : Hf := fnNew 2 1 b__law_state
def b__law_next : Sf :=
  (sSeq (sIf (bV (eBin gGt (eBinV gIdx 0 (eC (.int 0))) (eC (.int 0))))
  (sSeq (sSet 2 (eBin gMod (eBinV gIdx 0 (eC (.int 0))) (eV 1)))
  (sSeq (sPutI 0 (eC (.int 0)) (eBin gDiv (eBinV gIdx 0 (eC (.int 0))) (eV 1)))
  (sRet (eV 2))))
  sNil)
  (sSeq (sPutI 0 (eC (.int 1)) (eBin gMod (eBin gAdd (eBin gMul (eBinV gIdx 0 (eC (.int 1))) (eC (.int 69621))) (eC (.int 40692))) (eC (.int 2147483647))))
  (sRet (eBin gMod (eBin gDiv (eBin gMod (eBin gMul (eBinV gIdx 0 (eC (.int 1))) (eBinV gIdx 0 (eC (.int 1)))) (eC (.int 2147483629))) (eC (.int 8))) (eV 1)))))
def g__law_next : Gf := fnRun 3 2 b__law_next
def b_made_clock (w : World) : Sf :=
  (sSeq (sIf (bOr (bNot (bV (eChain gLe gLe (eC (.int 2)) (eV 0) c_MOST_MARKS))) (bNot (bV (eChain gLe gLe (eC (.int 1)) (eUn gLen (eV 1)) c_MOST_HANDS))))
  sNo
  sNil)
  (sSeq (sIf (bNot (bV (eUn gAll (eFz (lComp (lIt (eV 1)) [5, 6, 7] (tT 3 (gsC (tN 5) (gsC (tN 6) (gsC (tN 7) gsN)))) bYes (eCall g_is_look (aV (eV 7) aNil)))))))
  sNo
  sNil)
  (sSeq (sIf (bV (eBin gGt (eCall (g_many_readings w) (aV (eV 1) (aV (eV 3) aNil))) c_MOST_READINGS))
  sNo
  sNil)
  (sSeq (sSet 4 (eUn gTuple (eFz (lComp (lIt (eV 1)) [5, 6, 7] (tT 3 (gsC (tN 5) (gsC (tN 6) (gsC (tN 7) gsN)))) bYes (eTup (lCons (eBin gMod (eV 5) (eV 0)) (lCons (eBin gMod (eV 6) (eV 0)) (lCons (eV 7) lNil))))))))
  (sRet (eTup (lCons (eV 0) (lCons (eV 4) (lCons (eV 2) (lCons (eV 3) lNil))))))))))
def g_made_clock (w : World) : Gf := fnRun 8 4 (b_made_clock w)
def b_with_hand : Sf :=
  (sSeq (sExpr (eCall g_hand_asked (aV (eV 0) (aV (eV 1) aNil))))
  (sSeq (sAsg (eV 0) (tT 4 (gsC (tN 4) (gsC (tN 5) (gsC (tN 6) (gsC (tN 7) gsN))))))
  (sSeq (sSetO 8 (lUn gList (eV 5)))
  (sSeq (sPutI 8 (eV 1) (eTup (lCons (eBin gMod (eV 2) (eV 4)) (lCons (eBin gMod (eV 3) (eV 4)) (lCons (eBin gIdx (eBin gIdx (eV 5) (eV 1)) (eC (.int 2))) lNil)))))
  (sRet (eTup (lCons (eV 4) (lCons (eUn gTuple (eO 8)) (lCons (eV 6) (lCons (eV 7) lNil))))))))))
def g_with_hand : Gf := fnRun 9 4 b_with_hand
def bx_with_hand : Sfx :=
  (sSeqX (sExprX (eCallX gx_hand_asked (aV (eV 0) (aV (eV 1) aNil))))
  (sLift (sSeq (sAsg (eV 0) (tT 4 (gsC (tN 4) (gsC (tN 5) (gsC (tN 6) (gsC (tN 7) gsN))))))
  (sSeq (sSetO 8 (lUn gList (eV 5)))
  (sSeq (sPutI 8 (eV 1) (eTup (lCons (eBin gMod (eV 2) (eV 4)) (lCons (eBin gMod (eV 3) (eV 4)) (lCons (eBin gIdx (eBin gIdx (eV 5) (eV 1)) (eC (.int 2))) lNil)))))
  (sRet (eTup (lCons (eV 4) (lCons (eUn gTuple (eO 8)) (lCons (eV 6) (lCons (eV 7) lNil)))))))))))
def gx_with_hand : Gfx := fnRunX 9 4 bx_with_hand
def b_weights_of : Sf :=
  (sSeq (sSet 2 (eV 0))
  (sSeq (sSet 3 (eFz (lLst lNil)))
  (sSeq (sFor (lIt (eV 1)) (tN 4)
  (sSeq (sAsg (eCall g_common_parts (aV (eV 2) (aV (eBin gMod (eV 4) (eV 0)) aNil))) (tT 3 (gsC (tN 2) (gsC (tN 5) (gsC (tN 6) gsN)))))
  (sSet 3 (eBin gAdd (eFz (lComp (lIt (eV 3)) [7] (tN 7) bYes (eBin gMod (eBin gMul (eV 7) (eV 5)) (eV 0)))) (eFz (lLst (lCons (eBin gMod (eV 6) (eV 0)) lNil)))))))
  (sRet (eTup (lCons (eV 2) (lCons (eV 3) lNil)))))))
def g_weights_of : Gf := fnRun 8 2 b_weights_of
def b_readings_of : Sf :=
  (sSeq (sSetO 1 (lLst lNil))
  (sSeq (sFor (lIt (eCall g_swaps_of (aV (eBin gIdx (eV 0) (eC (.int 1))) aNil))) (tN 2)
  (sSeq (sExpr (eMut mAppend 1 (eTup (lCons (eV 2) (lCons (eC (.bool false)) lNil)))))
  (sIf (bV (eBin gIdx (eV 0) (eC (.int 3))))
  (sExpr (eMut mAppend 1 (eTup (lCons (eV 2) (lCons (eC (.bool true)) lNil)))))
  sNil)))
  (sFrz 1 (sRet (eV 1)))))
def g_readings_of : Gf := fnRun 3 1 b_readings_of
def b_is_taken : Sf :=
  (sRet (eUn gAll (eFz (lComp (lIt (eCall g_rows_of (aV (eV 0) (aV (eV 1) aNil)))) [4, 5, 6] (tT 3 (gsC (tN 4) (gsC (tN 5) (gsC (tN 6) gsN)))) bYes (eBin gEq (eBin gMod (eBin gSub (eBin gSub (eBin gMul (eV 4) (eV 3)) (eBin gMul (eV 5) (eV 2))) (eV 6)) (eBin gIdx (eV 0) (eC (.int 0)))) (eC (.int 0)))))))
def g_is_taken : Gf := fnRun 7 4 b_is_taken
def b_put_together : Sf :=
  (sRet (eUn gTuple (eFz (lComp (lRng1 (eUn gLen (eBin gIdx (eV 2) (eC (.int 0))))) [3] (tN 3) bYes (eBin gMod (eCall g_times_all (aV (eV 1) (aV (eFz (lComp (lIt (eV 2)) [4] (tN 4) bYes (eBin gIdx (eV 4) (eV 3)))) aNil))) (eV 0))))))
def g_put_together : Gf := fnRun 5 3 b_put_together
def b__law_folded : Sf :=
  (sSeq (sSetO 3 (lComp (lRng1 (eV 1)) [2] (tN 2) bYes (eCall g__law_cell_at (aO 0 (aV (eV 2) aNil)))))
  (sSeq (sFor (lRng2 (eV 1) (eUn gLen (eO 0))) (tN 2)
  (sSeq (sSet 4 (eBin gMod (eV 2) (eV 1)))
  (sPutI 3 (eV 4) (eBin gMod (eBin gAdd (eBin gMul (eBin gMod (eBinV gIdx 3 (eV 4)) (eBin gPow (eC (.int 10)) (eC (.int 60)))) (eC (.int 48271))) (eBinV gIdx 0 (eV 2))) (eBin gAdd (eBin gPow (eC (.int 10)) (eC (.int 60))) (eC (.int 7)))))))
  (sFrz 3 (sRet (eV 3)))))
def g__law_folded : Gf := fnRun 5 2 b__law_folded
def b__law_below : Sf :=
  (sSeq (sIf (bV (eBin gLe (eV 1) (eBin gPow (eC (.int 2)) (eC (.int 24)))))
  (sRet (eCall g__law_next (aR 0 (aV (eV 1) aNil))))
  sNil)
  (sSeq (sSet 2 (eC (.int 0)))
  (sSeq (sFor (lRng1 (eC (.int 9))) (tN 3)
  (sSet 2 (eBin gAdd (eBin gMul (eV 2) (eBin gPow (eC (.int 2)) (eC (.int 24)))) (eCall g__law_next (aR 0 (aV (eBin gPow (eC (.int 2)) (eC (.int 24))) aNil))))))
  (sRet (eBin gMod (eV 2) (eV 1))))))
def g__law_below : Gf := fnRun 4 2 b__law_below
def b__law_looks : Sf :=
  (sSeq (sSet 3 (eCall g__law_next (aR 0 (aV (eC (.int 26)) aNil))))
  (sSeq (sSet 5 (eFz (lComp (lRng1 (eC (.int 5))) [4] (tN 4) bYes (eBin gIdx (eC (.str "abcdefghijklmnopqrstuvwxyz")) (eBin gMod (eBin gAdd (eV 3) (eBin gMul (eC (.int 5)) (eV 4))) (eC (.int 26)))))))
  (sSeq (sSet 6 (eCall g__law_next (aR 0 (aV (eC (.int 6)) aNil))))
  (sSeq (sSet 7 (eBin gIdx (eFz (lLst (lCons (eFz (lLst (lCons (eC (.int 0)) (lCons (eC (.int 1)) (lCons (eC (.int 2)) (lCons (eC (.int 3)) (lCons (eC (.int 4)) lNil))))))) (lCons (eFz (lLst (lCons (eC (.int 0)) (lCons (eC (.int 0)) (lCons (eC (.int 1)) (lCons (eC (.int 2)) (lCons (eC (.int 3)) lNil))))))) (lCons (eFz (lLst (lCons (eC (.int 0)) (lCons (eC (.int 0)) (lCons (eC (.int 1)) (lCons (eC (.int 1)) (lCons (eC (.int 2)) lNil))))))) (lCons (eFz (lLst (lCons (eC (.int 0)) (lCons (eC (.int 0)) (lCons (eC (.int 0)) (lCons (eC (.int 1)) (lCons (eC (.int 2)) lNil))))))) (lCons (eFz (lLst (lCons (eC (.int 0)) (lCons (eC (.int 1)) (lCons (eC (.int 1)) (lCons (eC (.int 2)) (lCons (eC (.int 3)) lNil))))))) (lCons (eFz (lLst (lCons (eC (.int 0)) (lCons (eC (.int 0)) (lCons (eC (.int 1)) (lCons (eC (.int 1)) (lCons (eC (.int 2)) lNil))))))) lNil)))))))) (eV 6)))
  (sSeq (sIf (bAnd (bV (eV 2)) (bV (eBin gIs (eV 6) (eTup (lCons (eC (.int 2)) (lCons (eC (.int 3)) (lCons (eC (.int 5)) lNil)))))))
  (sSet 7 (eFz (lLst (lCons (eC (.int 0)) (lCons (eC (.int 0)) (lCons (eC (.int 1)) (lCons (eC (.int 2)) (lCons (eC (.int 3)) lNil))))))))
  sNil)
  (sSeq (sSetO 8 (lLst lNil))
  (sSeq (sFor (lIt (eSl (eV 7) pNo (pE (eV 1)))) (tN 4)
  (sExpr (eMut2 mInsert 8 (eCall g__law_next (aR 0 (aV (eBin gAdd (eUn gLen (eO 8)) (eC (.int 1))) aNil))) (eBin gIdx (eV 5) (eV 4)))))
  (sFrz 8 (sRet (eV 8))))))))))
def g__law_looks : Gf := fnRun 9 3 b__law_looks
def b_cleared_of : Sf :=
  (sSeq (sAsg (eCall g_weights_of (aV (eV 0) (aV (eV 1) aNil))) (tT 2 (gsC (tN 2) (gsC (tN 3) gsN))))
  (sSeq (sSetO 4 (lLst lNil))
  (sSeq (sFor (lEnum (eV 1)) (tT 2 (gsC (tN 5) (gsC (tN 6) gsN)))
  (sSeq (sSet 7 (eBin gDiv (eV 6) (eV 2)))
  (sExpr (eMut mAppend 4 (eFz (lComp (lEnum (eV 3)) [9, 8] (tT 2 (gsC (tN 9) (gsC (tN 8) gsN))) bYes (eBin gSub (eUn gInt (eBin gEq (eV 9) (eV 5))) (eBin gMul (eV 7) (eV 8)))))))))
  (sSeq (sExpr (eMut mAppend 4 (eFz (lComp (lIt (eV 3)) [8] (tN 8) bYes (eBin gMul (eBin gDiv (eV 0) (eV 2)) (eV 8))))))
  (sFrz 4 (sRet (eTup (lCons (eV 4) (lCons (eV 3) (lCons (eV 2) lNil))))))))))
def g_cleared_of : Gf := fnRun 10 2 b_cleared_of
def b_changed_by : Sf :=
  (sSeq (sAsg (eTup (lCons (eC (.int 0)) (lCons (eC (.int 0)) lNil))) (tT 2 (gsC (tN 4) (gsC (tN 5) gsN))))
  (sSeq (sIf (bV (eChain gLe gLt (eC (.int 0)) (eV 2) (eUn gLen (eBin gIdx (eV 0) (eC (.int 1))))))
  (sAsg (eSl (eBin gIdx (eBin gIdx (eV 0) (eC (.int 1))) (eV 2)) pNo (pE (eC (.int 2)))) (tT 2 (gsC (tN 4) (gsC (tN 5) gsN))))
  sNil)
  (sSeq (sIf (bV (eBin gEq (eV 1) (eC (.str "gear"))))
  (sRet (eCall g_with_hand (aV (eV 0) (aV (eV 2) (aV (eBin gAdd (eV 4) (eV 3)) (aV (eV 5) aNil))))))
  sNil)
  (sRet (eCall g_with_hand (aV (eV 0) (aV (eV 2) (aV (eV 4) (aV (eBin gAdd (eV 5) (eV 3)) aNil)))))))))
def g_changed_by : Gf := fnRun 6 4 b_changed_by
def bx_changed_by : Sfx :=
  (sSeqX (sLift (sAsg (eTup (lCons (eC (.int 0)) (lCons (eC (.int 0)) lNil))) (tT 2 (gsC (tN 4) (gsC (tN 5) gsN)))))
  (sSeqX (sLift (sIf (bV (eChain gLe gLt (eC (.int 0)) (eV 2) (eUn gLen (eBin gIdx (eV 0) (eC (.int 1))))))
  (sAsg (eSl (eBin gIdx (eBin gIdx (eV 0) (eC (.int 1))) (eV 2)) pNo (pE (eC (.int 2)))) (tT 2 (gsC (tN 4) (gsC (tN 5) gsN))))
  sNil))
  (sSeqX (sIfX (bV (eBin gEq (eV 1) (eC (.str "gear"))))
  (sRetX (eCallX gx_with_hand (aV (eV 0) (aV (eV 2) (aV (eBin gAdd (eV 4) (eV 3)) (aV (eV 5) aNil))))))
  (sLift sNil))
  (sRetX (eCallX gx_with_hand (aV (eV 0) (aV (eV 2) (aV (eV 4) (aV (eBin gAdd (eV 5) (eV 3)) aNil)))))))))
def gx_changed_by : Gfx := fnRunX 6 4 bx_changed_by
def b_is_doubt : Sf :=
  (sSeq (sAsg (eV 1) (tT 3 (gsC (tN 2) (gsC (tN 3) (gsC (tN 4) gsN)))))
  (sSeq (sIf (bOr (bV (eBin gEq (eBin gMod (eBin gSub (eV 2) (eV 3)) (eBin gIdx (eV 0) (eC (.int 0)))) (eC (.int 0)))) (bV (eBin gNi (eV 4) (eCall g_readings_of (aV (eV 0) aNil)))))
  (sRet (eC (.bool false)))
  sNil)
  (sRet (eCall g_is_taken (aV (eV 0) (aV (eV 4) (aV (eV 2) (aV (eV 3) aNil))))))))
def g_is_doubt : Gf := fnRun 5 2 b_is_doubt
def b__law_clock (w : World) : Sf :=
  (sSeq (sSet 2 (eBin gEq (eCall g__law_next (aR 0 (aV (eC (.int 4)) aNil))) (eC (.int 0))))
  (sSeq (sSet 3 (eBin gEq (eCall g__law_next (aR 0 (aV (eC (.int 3)) aNil))) (eC (.int 0))))
  (sSeq (sSet 4 (eBin gIdx (eFz (lLst (lCons (eC (.int 2)) (lCons (eC (.int 2)) (lCons (eC (.int 3)) (lCons (eC (.int 4)) (lCons (eC (.int 1)) (lCons (eC (.int 5)) lNil)))))))) (eCall g__law_next (aR 0 (aV (eC (.int 6)) aNil)))))
  (sSeq (sSetO 5 (lLst lNil))
  (sSeq (sFor (lIt (eCall g__law_looks (aR 0 (aV (eV 4) (aV (eV 3) aNil))))) (tN 6)
  (sSeq (sSet 7 (eBin gAdd (eC (.int 1)) (eCall g__law_next (aR 0 (aV (eC (.int 12)) aNil)))))
  (sSeq (sSet 8 (eCall g__law_below (aR 0 (aV (eV 1) aNil))))
  (sSeq (sSet 9 (eBin gIdx (eFz (lLst (lCons (eC (.int 1)) (lCons (eV 7) (lCons (eV 8) (lCons (eBin gSub (eC (.int 0)) (eV 7)) (lCons (eBin gMul (eV 7) (eBin gDiv (eV 1) (eC (.int 6)))) (lCons (eBin gMul (eV 7) (eV 8)) lNil)))))))) (eCall g__law_next (aR 0 (aV (eC (.int 6)) aNil)))))
  (sExpr (eMut mAppend 5 (eTup (lCons (eV 9) (lCons (eBin gMul (eCall g__law_below (aR 0 (aV (eV 1) aNil))) (eUn gInt (eBin gGt (eCall g__law_next (aR 0 (aV (eC (.int 3)) aNil))) (eC (.int 0))))) (lCons (eV 6) lNil))))))))))
  (sFrz 5 (sRet (eCall (g_made_clock w) (aV (eV 1) (aV (eV 5) (aV (eV 2) (aV (eV 3) aNil))))))))))))
def g__law_clock (w : World) : Gf := fnRun 10 2 (b__law_clock w)
def b_reading_doubt : Sf :=
  (sSeq (sIf (bV (eBin gEq (eV 1) (eFz (lLst lNil))))
  (sRet (eTup (lCons (eC (.str "doubt")) (lCons (eC (.int 0)) (lCons (eC (.int 1)) lNil)))))
  sNil)
  (sSeq (sSet 2 (eFz (lComp (lIt (eV 1)) [15, 16, 17] (tT 3 (gsC (tN 15) (gsC (tN 16) (gsC (tN 17) gsN)))) bYes (eV 15))))
  (sSeq (sSet 3 (eFz (lComp (lIt (eV 1)) [15, 16, 17] (tT 3 (gsC (tN 15) (gsC (tN 16) (gsC (tN 17) gsN)))) bYes (eV 17))))
  (sSeq (sAsg (eCall g_cleared_of (aV (eV 0) (aV (eFz (lComp (lIt (eV 1)) [15, 16, 17] (tT 3 (gsC (tN 15) (gsC (tN 16) (gsC (tN 17) gsN)))) bYes (eBin gMod (eBin gSub (eV 15) (eV 16)) (eV 0)))) aNil))) (tT 3 (gsC (tN 4) (gsC (tN 5) (gsC (tN 6) gsN)))))
  (sSeq (sSet 8 (eFz (lComp (lIt (eV 4)) [7] (tN 7) bYes (eBin gMod (eCall g_times_all (aV (eV 7) (aV (eV 2) aNil))) (eV 0)))))
  (sSeq (sSet 9 (eFz (lComp (lIt (eV 4)) [7] (tN 7) bYes (eBin gMod (eCall g_times_all (aV (eV 7) (aV (eV 3) aNil))) (eV 0)))))
  (sSeq (sAsg (eCall g_cleared_of (aV (eV 0) (aV (eV 8) aNil))) (tT 3 (gsC (tN 10) (gsC (tN 11) (gsC (tN 12) gsN)))))
  (sSeq (sFor (lIt (eV 10)) (tN 7)
  (sIf (bV (eBin gNe (eBin gMod (eCall g_times_all (aV (eV 7) (aV (eV 9) aNil))) (eV 0)) (eC (.int 0))))
  (sRet (eTup (lCons (eC (.str "never")) (lCons (eCall g_put_together (aV (eV 0) (aV (eV 7) (aV (eV 4) aNil)))) lNil))))
  sNil))
  (sSeq (sSet 13 (eBin gMod (eCall g_times_all (aV (eV 11) (aV (eV 9) aNil))) (eV 0)))
  (sSeq (sSet 14 (eBin gMod (eBin gDiv (eV 13) (eV 12)) (eBin gDiv (eV 0) (eV 12))))
  (sSeq (sIf (bAnd (bV (eBin gEq (eV 14) (eC (.int 0)))) (bV (eBin gEq (eV 12) (eC (.int 1)))))
  (sRet (eTup (lCons (eC (.str "one")) (lCons (eCall g_put_together (aV (eV 0) (aV (eV 11) (aV (eV 4) aNil)))) lNil))))
  sNil)
  (sSeq (sIf (bV (eBin gEq (eV 14) (eC (.int 0))))
  (sSet 14 (eBin gDiv (eV 0) (eV 12)))
  sNil)
  (sRet (eTup (lCons (eC (.str "doubt")) (lCons (eBin gDiv (eBin gMod (eBin gSub (eCall g_times_all (aV (eV 5) (aV (eV 3) aNil))) (eBin gMul (eCall g_times_all (aV (eV 5) (aV (eV 2) aNil))) (eV 14))) (eV 0)) (eV 6)) (lCons (eV 14) lNil)))))))))))))))))
def g_reading_doubt : Gf := fnRun 18 2 b_reading_doubt
def b__law_small (w : World) : Sf :=
  (sSeq (sSet 1 (eBin gIdx (eFz (lLst (lCons (eBin gAdd (eC (.int 2)) (eCall g__law_next (aR 0 (aV (eC (.int 47)) aNil)))) (lCons (eBin gIdx (eFz (lLst (lCons (eC (.int 12)) (lCons (eC (.int 24)) (lCons (eC (.int 30)) (lCons (eC (.int 36)) (lCons (eC (.int 48)) (lCons (eC (.int 15)) (lCons (eC (.int 35)) (lCons (eC (.int 33)) lNil)))))))))) (eCall g__law_next (aR 0 (aV (eC (.int 8)) aNil)))) lNil)))) (eCall g__law_next (aR 0 (aV (eC (.int 2)) aNil)))))
  (sRet (eCall (g__law_clock w) (aR 0 (aV (eV 1) aNil)))))
def g__law_small (w : World) : Gf := fnRun 2 1 (b__law_small w)
def b_whole_paper : Sf :=
  (sSeq (sSet 1 (eBin gIdx (eV 0) (eC (.int 0))))
  (sSeq (sSetO 2 (lLst lNil))
  (sSeq (sFor (lIt (eCall g_readings_of (aV (eV 0) aNil))) (tN 3)
  (sSeq (sSet 4 (eCall g_reading_doubt (aV (eV 1) (aV (eCall g_rows_of (aV (eV 0) (aV (eV 3) aNil))) aNil))))
  (sSeq (sIf (bV (eBin gEq (eBin gIdx (eV 4) (eC (.int 0))) (eC (.str "doubt"))))
  (sRet (eTup (lCons (eC (.str "rival")) (lCons (eBin gIdx (eV 4) (eC (.int 1))) (lCons (eBin gMod (eBin gAdd (eBin gIdx (eV 4) (eC (.int 1))) (eBin gIdx (eV 4) (eC (.int 2)))) (eV 1)) (lCons (eV 3) lNil))))))
  sNil)
  (sExpr (eMut mAppend 2 (eV 4))))))
  (sFrz 2 (sRet (eTup (lCons (eC (.str "clear")) (lCons (eV 2) lNil))))))))
def g_whole_paper : Gf := fnRun 5 1 b_whole_paper
def b_other_by : Sf :=
  (sSeq (sSetO 4 (lLst lNil))
  (sSeq (sFor (lRng1 (eV 3)) (tN 5)
  (sSeq (sSet 6 (eCall g_changed_by (aV (eV 0) (aV (eV 1) (aV (eV 2) (aV (eV 5) aNil))))))
  (sSeq (sSet 7 (eCall g_whole_paper (aV (eV 6) aNil)))
  (sSeq (sIf (bV (eBin gEq (eBin gIdx (eV 7) (eC (.int 0))) (eC (.str "clear"))))
  (sFrz 4 (sRet (eTup (lCons (eC (.str "found")) (lCons (eBin gIdx (eBin gIdx (eBin gIdx (eV 6) (eC (.int 1))) (eV 2)) (eBin gLidx (eFz (lLst (lCons (eC (.str "gear")) (lCons (eC (.str "start")) lNil)))) (eV 1))) (lCons (eV 4) lNil))))))
  sNil)
  (sExpr (eMut mAppend 4 (eSl (eV 7) (pE (eC (.int 1))) pNo)))))))
  (sFrz 4 (sRet (eTup (lCons (eC (.str "none")) (lCons (eV 4) lNil)))))))
def g_other_by : Gf := fnRun 8 4 b_other_by
def bx_other_by : Sfx :=
  (sSeqX (sLift (sSetO 4 (lLst lNil)))
  (sSeqX (sForX (lRng1 (eV 3)) (tN 5)
  (sSeqX (sSetX 6 (eCallX gx_changed_by (aV (eV 0) (aV (eV 1) (aV (eV 2) (aV (eV 5) aNil))))))
  (sLift (sSeq (sSet 7 (eCall g_whole_paper (aV (eV 6) aNil)))
  (sSeq (sIf (bV (eBin gEq (eBin gIdx (eV 7) (eC (.int 0))) (eC (.str "clear"))))
  (sFrz 4 (sRet (eTup (lCons (eC (.str "found")) (lCons (eBin gIdx (eBin gIdx (eBin gIdx (eV 6) (eC (.int 1))) (eV 2)) (eBin gLidx (eFz (lLst (lCons (eC (.str "gear")) (lCons (eC (.str "start")) lNil)))) (eV 1))) (lCons (eV 4) lNil))))))
  sNil)
  (sExpr (eMut mAppend 4 (eSl (eV 7) (pE (eC (.int 1))) pNo))))))))
  (sLift (sFrz 4 (sRet (eTup (lCons (eC (.str "none")) (lCons (eV 4) lNil))))))))
def gx_other_by : Gfx := fnRunX 8 4 bx_other_by
def b_other_right : Sf :=
  (sSeq (sSet 5 (eFz (lComp (lRng1 (eV 3)) [8] (tN 8) bYes (eCall g_changed_by (aV (eV 0) (aV (eV 1) (aV (eV 2) (aV (eV 8) aNil))))))))
  (sSeq (sSet 6 (eBin gIdx (eV 4) (eUn gNeg (eC (.int 1)))))
  (sSeq (sIf (bV (eBin gGt (eUn gLen (eV 6)) (eV 3)))
  (sRet (eC (.bool false)))
  sNil)
  (sSeq (sIf (bNot (bV (eUn gAll (eFz (lComp (lZip (eV 5) (eV 6)) [9, 10] (tT 2 (gsC (tN 9) (gsC (tN 10) gsN))) bYes (eCall g_is_doubt (aV (eV 9) (aV (eV 10) aNil))))))))
  (sRet (eC (.bool false)))
  sNil)
  (sSeq (sIf (bV (eBin gEq (eBin gIdx (eV 4) (eC (.int 0))) (eC (.str "none"))))
  (sRet (eBin gEq (eUn gLen (eV 6)) (eV 3)))
  sNil)
  (sSeq (sIf (bV (eBin gEq (eUn gLen (eV 6)) (eV 3)))
  (sRet (eC (.bool false)))
  sNil)
  (sSeq (sSet 7 (eBin gIdx (eV 5) (eUn gLen (eV 6))))
  (sSeq (sIf (bV (eBin gNe (eBin gIdx (eV 4) (eC (.int 1))) (eBin gIdx (eBin gIdx (eBin gIdx (eV 7) (eC (.int 1))) (eV 2)) (eBin gLidx (eFz (lLst (lCons (eC (.str "gear")) (lCons (eC (.str "start")) lNil)))) (eV 1)))))
  (sRet (eC (.bool false)))
  sNil)
  (sRet (eBin gEq (eBin gIdx (eCall g_whole_paper (aV (eV 7) aNil)) (eC (.int 0))) (eC (.str "clear"))))))))))))
def bx_other_right : Sfx :=
  (sSeqX (sCompX (lRng1 (eV 3)) [8] (tN 8) gx_changed_by (aV (eV 0) (aV (eV 1) (aV (eV 2) (aV (eV 8) aNil)))))
  (sLift (sSeq (sSet 6 (eBin gIdx (eV 4) (eUn gNeg (eC (.int 1)))))
  (sSeq (sIf (bV (eBin gGt (eUn gLen (eV 6)) (eV 3)))
  (sRet (eC (.bool false)))
  sNil)
  (sSeq (sIf (bNot (bV (eUn gAll (eFz (lComp (lZip (eV 5) (eV 6)) [9, 10] (tT 2 (gsC (tN 9) (gsC (tN 10) gsN))) bYes (eCall g_is_doubt (aV (eV 9) (aV (eV 10) aNil))))))))
  (sRet (eC (.bool false)))
  sNil)
  (sSeq (sIf (bV (eBin gEq (eBin gIdx (eV 4) (eC (.int 0))) (eC (.str "none"))))
  (sRet (eBin gEq (eUn gLen (eV 6)) (eV 3)))
  sNil)
  (sSeq (sIf (bV (eBin gEq (eUn gLen (eV 6)) (eV 3)))
  (sRet (eC (.bool false)))
  sNil)
  (sSeq (sSet 7 (eBin gIdx (eV 5) (eUn gLen (eV 6))))
  (sSeq (sIf (bV (eBin gNe (eBin gIdx (eV 4) (eC (.int 1))) (eBin gIdx (eBin gIdx (eBin gIdx (eV 7) (eC (.int 1))) (eV 2)) (eBin gLidx (eFz (lLst (lCons (eC (.str "gear")) (lCons (eC (.str "start")) lNil)))) (eV 1)))))
  (sRet (eC (.bool false)))
  sNil)
  (sRet (eBin gEq (eBin gIdx (eCall g_whole_paper (aV (eV 7) aNil)) (eC (.int 0))) (eC (.str "clear")))))))))))))
def gx_other_right : Gfx := fnRunX 11 5 bx_other_right
def b_other_gear : Sf :=
  (sRet (eCall g_other_by (aV (eV 0) (aV (eC (.str "gear")) (aV (eV 1) (aV (eV 2) aNil))))))
def bx_other_gear : Sfx :=
  (sRetX (eCallX gx_other_by (aV (eV 0) (aV (eC (.str "gear")) (aV (eV 1) (aV (eV 2) aNil))))))
def gx_other_gear : Gfx := fnRunX 3 3 bx_other_gear
def b_other_start : Sf :=
  (sRet (eCall g_other_by (aV (eV 0) (aV (eC (.str "start")) (aV (eV 1) (aV (eV 2) aNil))))))
def bx_other_start : Sfx :=
  (sRetX (eCallX gx_other_by (aV (eV 0) (aV (eC (.str "start")) (aV (eV 1) (aV (eV 2) aNil))))))
def gx_other_start : Gfx := fnRunX 3 3 bx_other_start
def b__law_refused : Sf :=
  (sSeq (sSet 4 (eC .none))
  (sSeq (sTry cat_DoubtError 6
  (sIfX (bV (eBin gEq (eV 0) (eC (.int 0))))
  (sExprX (eCallX gx_other_gear (aV (eV 1) (aV (eV 2) (aV (eV 3) aNil)))))
  (sIfX (bV (eBin gEq (eV 0) (eC (.int 1))))
  (sExprX (eCallX gx_other_start (aV (eV 1) (aV (eV 2) (aV (eV 3) aNil)))))
  (sSeqX (sLift (sSet 5 (eBin gIdx (eFz (lLst (lCons (eTup (lCons (eC (.str "none")) (lCons (eFz (lLst lNil)) lNil))) (lCons (eTup (lCons (eC (.str "found")) (lCons (eC (.int 1)) (lCons (eFz (lLst lNil)) lNil)))) (lCons (eTup (lCons (eC (.str "none")) (lCons (eFz (lLst (lCons (eTup (lCons (eC (.int 0)) (lCons (eC (.int 1)) (lCons (eTup (lCons (eTup (lCons (eC (.int 0)) lNil)) (lCons (eC (.bool false)) lNil))) lNil)))) lNil))) lNil))) lNil))))) (eBin gMod (eV 0) (eC (.int 3))))))
  (sExprX (eCallX gx_other_right (aV (eV 1) (aV (eBin gIdx (eFz (lLst (lCons (eC (.str "gear")) (lCons (eC (.str "start")) lNil)))) (eBin gMod (eV 0) (eC (.int 2)))) (aV (eV 2) (aV (eV 3) (aV (eV 5) aNil))))))))))
  (sSet 4 (eV 6)))
  (sSeq (sIf (bOr (bNot (bV (eUn (gIsO tab_NoHand) (eV 4)))) (bNot (bV (eUn (gIsO tab_ValueError) (eV 4)))))
  (sRet (eC (.bool false)))
  sNil)
  (sRet (eNot (eUn (gIsO tabT_0) (eV 4)))))))
def g__law_refused : Gf := fnRun 7 4 b__law_refused
def b_law (w : World) : Sf :=
  (sSeq (sFor (lIt (eCall g__law_folded (aO 0 (aV (eC (.int 6)) aNil)))) (tN 1)
  (sSeq (sSetO 2 (lCall g__law_state (aV (eV 1) aNil)))
  (sSeq (sSet 3 (eCall (g__law_small w) (aR 2 aNil)))
  (sSeq (sSet 4 (eCall g__law_below (aR 2 (aV (eBin gPow (eC (.int 10)) (eC (.int 60))) aNil))))
  (sSeq (sSet 5 (eBin gAdd (eC (.int 1)) (eCall g__law_next (aR 2 (aV (eC (.int 40)) aNil)))))
  (sFor (lIt (eFz (lLst (lCons (eUn gNeg (eC (.int 1))) (lCons (eUn gLen (eBin gIdx (eV 3) (eC (.int 1)))) (lCons (eBin gSub (eUn gNeg (eC (.int 1))) (eV 4)) (lCons (eBin gAdd (eUn gLen (eBin gIdx (eV 3) (eC (.int 1)))) (eV 4)) (lCons (eBin gSub (eC (.int 0)) (eUn gLen (eBin gIdx (eV 3) (eC (.int 1))))) lNil)))))))) (tN 6)
  (sIf (bNot (bV (eUn gAll (eFz (lComp (lRng1 (eC (.int 8))) [7] (tN 7) bYes (eCall g__law_refused (aV (eV 7) (aV (eV 3) (aV (eV 6) (aV (eV 5) aNil))))))))))
  (sRet (eC (.bool false)))
  sNil)))))))
  (sRet (eC (.bool true))))
def g_law (w : World) : Gf := fnRun 8 1 (b_law w)
end
def sr_rows_of_0 : Scope := { kind := .function, names := [(".0", .local), ("row", .local), ("tuple", .globalImplicit), ("zip", .globalImplicit), ("many", .cell), ("rows", .cell)], isGenerator := false, isCoroutine := false, more := [] }
def sr_put_together_0 : Scope := { kind := .function, names := [(".0", .local), ("at", .cell), ("times_all", .globalImplicit), ("many", .cell), ("row", .cell), ("rows", .cell)], isGenerator := false, isCoroutine := false, more := [] }
/-! ### what the top has left -/
structure Tx (K : Frg) (mg : Str → Option Value) where
  f_is_look : Addr
  d_is_look : FuncData
  F_is_look : Fun K "is_look" "is_look" s_is_look f_is_look d_is_look
  m_is_look : mg "is_look" = some (.ref f_is_look)
  b_is_look : Binds K d_is_look ["text"] []
  f_many_readings : Addr
  d_many_readings : FuncData
  F_many_readings : Fun K "many_readings" "many_readings" s_many_readings f_many_readings d_many_readings
  m_many_readings : mg "many_readings" = some (.ref f_many_readings)
  b_many_readings : Binds K d_many_readings ["hands", "mirror"] []
  f_hand_asked : Addr
  d_hand_asked : FuncData
  F_hand_asked : Fun K "hand_asked" "hand_asked" s_hand_asked f_hand_asked d_hand_asked
  m_hand_asked : mg "hand_asked" = some (.ref f_hand_asked)
  b_hand_asked : Binds K d_hand_asked ["clock", "hand"] []
  f_common_parts : Addr
  d_common_parts : FuncData
  F_common_parts : Fun K "common_parts" "common_parts" s_common_parts f_common_parts d_common_parts
  m_common_parts : mg "common_parts" = some (.ref f_common_parts)
  b_common_parts : Binds K d_common_parts ["one", "other"] []
  f_swaps_of : Addr
  d_swaps_of : FuncData
  F_swaps_of : Fun K "swaps_of" "swaps_of" s_swaps_of f_swaps_of d_swaps_of
  m_swaps_of : mg "swaps_of" = some (.ref f_swaps_of)
  b_swaps_of : Binds K d_swaps_of ["hands"] []
  f_rows_of : Addr
  d_rows_of : FuncData
  F_rows_of : Fun K "rows_of" "rows_of" s_rows_of f_rows_of d_rows_of
  m_rows_of : mg "rows_of" = some (.ref f_rows_of)
  b_rows_of : Binds K d_rows_of ["clock", "reading"] []
  f_times_all : Addr
  d_times_all : FuncData
  F_times_all : Fun K "times_all" "times_all" s_times_all f_times_all d_times_all
  m_times_all : mg "times_all" = some (.ref f_times_all)
  b_times_all : Binds K d_times_all ["multipliers", "numbers"] []
  f__law_cell_at : Addr
  d__law_cell_at : FuncData
  F__law_cell_at : Fun K "_law_cell_at" "_law_cell_at" s__law_cell_at f__law_cell_at d__law_cell_at
  m__law_cell_at : mg "_law_cell_at" = some (.ref f__law_cell_at)
  b__law_cell_at : Binds K d__law_cell_at ["script", "k"] []
  f__law_state : Addr
  d__law_state : FuncData
  F__law_state : Fun K "_law_state" "_law_state" s__law_state f__law_state d__law_state
  m__law_state : mg "_law_state" = some (.ref f__law_state)
  b__law_state : Binds K d__law_state ["cell"] []
  f__law_next : Addr
  d__law_next : FuncData
  F__law_next : Fun K "_law_next" "_law_next" s__law_next f__law_next d__law_next
  m__law_next : mg "_law_next" = some (.ref f__law_next)
  b__law_next : Binds K d__law_next ["state", "many"] []
  f_made_clock : Addr
  d_made_clock : FuncData
  F_made_clock : Fun K "made_clock" "made_clock" s_made_clock f_made_clock d_made_clock
  m_made_clock : mg "made_clock" = some (.ref f_made_clock)
  b_made_clock : Binds K d_made_clock ["many", "hands", "blank", "mirror"] []
  f_with_hand : Addr
  d_with_hand : FuncData
  F_with_hand : Fun K "with_hand" "with_hand" s_with_hand f_with_hand d_with_hand
  m_with_hand : mg "with_hand" = some (.ref f_with_hand)
  b_with_hand : Binds K d_with_hand ["clock", "hand", "gear", "start"] []
  f_weights_of : Addr
  d_weights_of : FuncData
  F_weights_of : Fun K "weights_of" "weights_of" s_weights_of f_weights_of d_weights_of
  m_weights_of : mg "weights_of" = some (.ref f_weights_of)
  b_weights_of : Binds K d_weights_of ["many", "numbers"] []
  f_readings_of : Addr
  d_readings_of : FuncData
  F_readings_of : Fun K "readings_of" "readings_of" s_readings_of f_readings_of d_readings_of
  m_readings_of : mg "readings_of" = some (.ref f_readings_of)
  b_readings_of : Binds K d_readings_of ["clock"] []
  f_is_taken : Addr
  d_is_taken : FuncData
  F_is_taken : Fun K "is_taken" "is_taken" s_is_taken f_is_taken d_is_taken
  m_is_taken : mg "is_taken" = some (.ref f_is_taken)
  b_is_taken : Binds K d_is_taken ["clock", "reading", "tick", "other"] []
  f_put_together : Addr
  d_put_together : FuncData
  F_put_together : Fun K "put_together" "put_together" s_put_together f_put_together d_put_together
  m_put_together : mg "put_together" = some (.ref f_put_together)
  b_put_together : Binds K d_put_together ["many", "row", "rows"] []
  f__law_folded : Addr
  d__law_folded : FuncData
  F__law_folded : Fun K "_law_folded" "_law_folded" s__law_folded f__law_folded d__law_folded
  m__law_folded : mg "_law_folded" = some (.ref f__law_folded)
  b__law_folded : Binds K d__law_folded ["script", "many"] []
  f__law_below : Addr
  d__law_below : FuncData
  F__law_below : Fun K "_law_below" "_law_below" s__law_below f__law_below d__law_below
  m__law_below : mg "_law_below" = some (.ref f__law_below)
  b__law_below : Binds K d__law_below ["state", "top"] []
  f__law_looks : Addr
  d__law_looks : FuncData
  F__law_looks : Fun K "_law_looks" "_law_looks" s__law_looks f__law_looks d__law_looks
  m__law_looks : mg "_law_looks" = some (.ref f__law_looks)
  b__law_looks : Binds K d__law_looks ["state", "count", "mirror"] []
  f_cleared_of : Addr
  d_cleared_of : FuncData
  F_cleared_of : Fun K "cleared_of" "cleared_of" s_cleared_of f_cleared_of d_cleared_of
  m_cleared_of : mg "cleared_of" = some (.ref f_cleared_of)
  b_cleared_of : Binds K d_cleared_of ["many", "numbers"] []
  f_changed_by : Addr
  d_changed_by : FuncData
  F_changed_by : Fun K "changed_by" "changed_by" s_changed_by f_changed_by d_changed_by
  m_changed_by : mg "changed_by" = some (.ref f_changed_by)
  b_changed_by : Binds K d_changed_by ["clock", "kind", "hand", "more"] []
  f_is_doubt : Addr
  d_is_doubt : FuncData
  F_is_doubt : Fun K "is_doubt" "is_doubt" s_is_doubt f_is_doubt d_is_doubt
  m_is_doubt : mg "is_doubt" = some (.ref f_is_doubt)
  b_is_doubt : Binds K d_is_doubt ["clock", "doubt"] []
  f__law_clock : Addr
  d__law_clock : FuncData
  F__law_clock : Fun K "_law_clock" "_law_clock" s__law_clock f__law_clock d__law_clock
  m__law_clock : mg "_law_clock" = some (.ref f__law_clock)
  b__law_clock : Binds K d__law_clock ["state", "many"] []
  f_reading_doubt : Addr
  d_reading_doubt : FuncData
  F_reading_doubt : Fun K "reading_doubt" "reading_doubt" s_reading_doubt f_reading_doubt d_reading_doubt
  m_reading_doubt : mg "reading_doubt" = some (.ref f_reading_doubt)
  b_reading_doubt : Binds K d_reading_doubt ["many", "rows"] []
  f__law_small : Addr
  d__law_small : FuncData
  F__law_small : Fun K "_law_small" "_law_small" s__law_small f__law_small d__law_small
  m__law_small : mg "_law_small" = some (.ref f__law_small)
  b__law_small : Binds K d__law_small ["state"] []
  f_whole_paper : Addr
  d_whole_paper : FuncData
  F_whole_paper : Fun K "whole_paper" "whole_paper" s_whole_paper f_whole_paper d_whole_paper
  m_whole_paper : mg "whole_paper" = some (.ref f_whole_paper)
  b_whole_paper : Binds K d_whole_paper ["clock"] []
  f_other_by : Addr
  d_other_by : FuncData
  F_other_by : Fun K "other_by" "other_by" s_other_by f_other_by d_other_by
  m_other_by : mg "other_by" = some (.ref f_other_by)
  b_other_by : Binds K d_other_by ["clock", "kind", "hand", "tries"] []
  f_other_right : Addr
  d_other_right : FuncData
  F_other_right : Fun K "other_right" "other_right" s_other_right f_other_right d_other_right
  m_other_right : mg "other_right" = some (.ref f_other_right)
  b_other_right : Binds K d_other_right ["clock", "kind", "hand", "tries", "told"] []
  f_other_gear : Addr
  d_other_gear : FuncData
  F_other_gear : Fun K "other_gear" "other_gear" s_other_gear f_other_gear d_other_gear
  m_other_gear : mg "other_gear" = some (.ref f_other_gear)
  b_other_gear : Binds K d_other_gear ["clock", "hand", "tries"] []
  f_other_start : Addr
  d_other_start : FuncData
  F_other_start : Fun K "other_start" "other_start" s_other_start f_other_start d_other_start
  m_other_start : mg "other_start" = some (.ref f_other_start)
  b_other_start : Binds K d_other_start ["clock", "hand", "tries"] []
  f__law_refused : Addr
  d__law_refused : FuncData
  F__law_refused : Fun K "_law_refused" "_law_refused" s__law_refused f__law_refused d__law_refused
  m__law_refused : mg "_law_refused" = some (.ref f__law_refused)
  b__law_refused : Binds K d__law_refused ["way", "clock", "hand", "tries"] []
  f_law : Addr
  d_law : FuncData
  F_law : Fun K "law" "law" s_law f_law d_law
  m_law : mg "law" = some (.ref f_law)
  b_law : Binds K d_law ["script"] []
  t_LETTERS : Tok
  m_LETTERS : mg "LETTERS" = some (.str "abcdefghijklmnopqrstuvwxyz" t_LETTERS)
  t_MOST_HANDS : Tok
  m_MOST_HANDS : mg "MOST_HANDS" = some (.int (5) t_MOST_HANDS)
  t_MOST_MARKS : Tok
  m_MOST_MARKS : mg "MOST_MARKS" = some (.int (1000000000000000000000000000000000000000000000000000000000000) t_MOST_MARKS)
  t_MOST_READINGS : Tok
  m_MOST_READINGS : mg "MOST_READINGS" = some (.int (6) t_MOST_READINGS)
  z_ValueError : mg "ValueError" = none
  z_all : mg "all" = none
  z_enumerate : mg "enumerate" = none
  z_int : mg "int" = none
  z_isinstance : mg "isinstance" = none
  z_len : mg "len" = none
  z_list : mg "list" = none
  z_range : mg "range" = none
  z_sum : mg "sum" = none
  z_tuple : mg "tuple" = none
  z_zip : mg "zip" = none
  m_BadClock : mg "BadClock" = some (.ref C_BadClock)
  m_Coarse : mg "Coarse" = some (.ref C_Coarse)
  m_DoubtError : mg "DoubtError" = some (.ref C_DoubtError)
  m_NoHand : mg "NoHand" = some (.ref C_NoHand)
  m_NoSuch : mg "NoSuch" = some (.ref C_NoSuch)
  o_NoHand : Xo K mg "NoHand" C_NoHand
  e_DoubtError : ∀ C, cat_DoubtError C = true → PySem.W.exmOne K (.ref C) (.ref C_DoubtError) = some true
  i_NoHand : TabOk K tab_NoHand (.ref C_NoHand)
  i_ValueError : TabOk K tab_ValueError (.type "ValueError")
  it_0 : TabsOk K tabT_0 [.ref C_BadClock, .ref C_Coarse, .ref C_NoSuch]
section
variable {P : Program} {w : World} {K : Frg} {mg : Str → Option Value} {base : Heap} (T : Tx K mg)
include T
theorem ok_is_look : FnOk P w K mg base CX0 1 T.f_is_look T.d_is_look ["text"] (spF K g_is_look) :=
  fn_okE (k := 0) b_is_look 1 1 T.F_is_look sc_is_look rfl rfl rfl fun cdv A outer s H E hr =>
  (xss_one (xs_ret (xe_and (xe_cmp (op_eqD hr.units) gq_eq (xe_len T.z_len (XE.xo (xv 0))) xe_int (nomark _)) (xe_one (xe_in (hu65 hr) (xv 0) (XE.xo (xe_glob (v := .str _) (by rfl) T.m_LETTERS ⟨_, rfl⟩ (fun _ => .str _))))))))
theorem ok_many_readings : FnOk P w K mg base CX0 1 T.f_many_readings T.d_many_readings ["hands", "mirror"] (spF K (g_many_readings w)) :=
  fn_okE (k := 0) (b_many_readings w) 7 2 T.F_many_readings sc_many_readings rfl rfl rfl fun cdv A outer s H E hr =>
  (xss_cons (xs_set 2 (xe_add xe_int (xe_int1 T.z_int (XE.xo (xv 1)))) sc_many_readings.nd)
  (xss_cons (xs_dnew 3 sc_many_readings.nd)
  (xss_cons (xs_for PassesOwn.never (xi_seq (xv 0)) (xg_tup (xgs_cons (xg_name 4 sc_many_readings.nd) (xgs_cons (xg_name 5 sc_many_readings.nd) (xgs_cons (xg_name 6 sc_many_readings.nd) xgs_nil))))
  (xss_cons (xs_dput 3 (hu65 hr) (xe_add (xe_dget2 3 (hu65 hr) (xv 6) xe_int) xe_int) (xv 6))
  (xss_one (xs_set 2 (xe_mul (xv 2) (xe_didx 3 (hu65 hr) (xv 6))) sc_many_readings.nd))))
  (xss_one (xs_ret (xv 2))))))
theorem okX_hand_asked : FnOk P w K mg base (L2.CX P w) 1 T.f_hand_asked T.d_hand_asked ["clock", "hand"] (spX K gx_hand_asked) :=
  fn_okX (k := 0) bx_hand_asked 2 2 T.F_hand_asked sc_hand_asked rfl rfl rfl fun cdv A outer s H E hr =>
  (xssx_one (xsx_if (xb_not (xb_chain op_le gq_le op_lt gq_lt xe_int (xv 1) (xe_len T.z_len (XE.xo (xe_idx (xv 0) xe_int)))))
  (xssx_one (xsx_raise0 T.o_NoHand (takes_of rfl rfl rfl rfl)))
  (xssx_of xss_nil)))
theorem ok_common_parts : FnOk P w K mg base CX0 1 T.f_common_parts T.d_common_parts ["one", "other"] (spF K g_common_parts) :=
  fn_okE (k := 0) b_common_parts 8 2 T.F_common_parts sc_common_parts rfl rfl rfl fun cdv A outer s H E hr =>
  (xss_cons (xs_par 2 3 (xl_cons (xe_tup (xl_cons (xv 0) (xl_cons xe_int (xl_cons xe_int xl_nil)))) (xl_cons (xe_tup (xl_cons (xv 1) (xl_cons xe_int (xl_cons xe_int xl_nil)))) xl_nil)) sc_common_parts.nd)
  (xss_cons (xs_while FU PassesOwn.never (xb_cmp (op_neD hr.units) gq_ne (xe_idx (xv 3) xe_int) xe_int (nomark _))
  (xss_cons (xs_set 4 (xe_div (xe_idx (xv 2) xe_int) (xe_idx (xv 3) xe_int)) sc_common_parts.nd)
  (xss_cons (xs_set 5 (xe_tuple T.z_tuple (XE.xo (XN.xe (xn_comp (own := [("a", 6), ("b", 7)]) (xi_zip (xv 2) (xv 3) T.z_zip) sc_common_parts.nd (blkOk_by (N := N_common_parts) (sc := defScope s_common_parts) (by decide +kernel)) (fun _ _ _ _ _ => (xg_tup (xgs_cons (xg_name 6 sc_common_parts.nd) (xgs_cons (xg_name 7 sc_common_parts.nd) xgs_nil)))) (fun _ _ _ _ _ => xts_nil) (fun _ _ _ _ _ => (xe_sub (xv 6) (xe_mul (xv 4) (xv 7)))))))) sc_common_parts.nd)
  (xss_one (xs_par 2 3 (xl_cons (xv 3) (xl_cons (xv 5) xl_nil)) sc_common_parts.nd)))))
  (xss_one (xs_ret (xv 2)))))
theorem ok_swaps_of : FnOk P w K mg base CX0 1 T.f_swaps_of T.d_swaps_of ["hands"] (spF K g_swaps_of) :=
  fn_okE (k := 0) b_swaps_of 8 1 T.F_swaps_of sc_swaps_of rfl rfl rfl fun cdv A outer s H E hr =>
  (xss_cons (xs_set 1 (XN.xe (xn_lst (xl_cons (xe_tup xl_nil) xl_nil))) sc_swaps_of.nd)
  (xss_cons (xs_for PassesOwn.never (xi_seq (xv 0)) (xg_tup (xgs_cons (xg_name 2 sc_swaps_of.nd) (xgs_cons (xg_name 3 sc_swaps_of.nd) (xgs_cons (xg_name 4 sc_swaps_of.nd) xgs_nil))))
  (xss_cons (xs_setO 5 (xn_lst xl_nil) sc_swaps_of.nd)
  (xss_cons (xs_for PassesOwn.never (xi_seq (xv 1)) (xg_name 6 sc_swaps_of.nd)
  (xss_one (xs_for PassesOwn.never (xi_rng1 (xe_len T.z_len (XE.xo (xv 0))) T.z_range) (xg_name 7 sc_swaps_of.nd)
  (xss_one (xs_if (xb_w (xw_and (xb_ni (hu65 hr) (xv 7) (XE.xo (xv 6))) (xw_and1 (xb_cmp (op_eqD hr.units) gq_eq (xe_idx (xe_idx (xv 0) (xv 7)) xe_int) (xv 4) (nomark _)))))
  (xss_one (xs_expr (xe_mut 5 PySem.F.slot_list_append PySem.F.type_list_append mt_append gm_append (xe_add (xv 6) (xe_tup (xl_cons (xv 7) xl_nil))))))
  xss_nil)))))
  (xss_one (xs_frz 5 (xs_set 1 (xv 5) sc_swaps_of.nd))))))
  (xss_one (xs_ret (xv 1)))))
theorem ok_rows_of : FnOk P w K mg base CX0 1 T.f_rows_of T.d_rows_of ["clock", "reading"] (spF K g_rows_of) :=
  fn_okE (k := 0) b_rows_of 17 2 T.F_rows_of sc_rows_of rfl rfl rfl fun cdv A outer s H E hr =>
  (xss_cons (xs_asg (xv 0) (xg_tup (xgs_cons (xg_name 2 sc_rows_of.nd) (xgs_cons (xg_name 3 sc_rows_of.nd) (xgs_cons (xg_name 4 sc_rows_of.nd) (xgs_cons (xg_name 5 sc_rows_of.nd) xgs_nil))))))
  (xss_cons (xs_asg (xv 1) (xg_tup (xgs_cons (xg_name 6 sc_rows_of.nd) (xgs_cons (xg_name 7 sc_rows_of.nd) xgs_nil))))
  (xss_cons (xs_set 8 (xe_sub xe_int (xe_mul xe_int (xe_int1 T.z_int (XE.xo (xv 7))))) sc_rows_of.nd)
  (xss_cons (xs_setO 9 (xn_lst xl_nil) sc_rows_of.nd)
  (xss_cons (xs_for PassesOwn.never (xi_zip (xv 6) (xv 3) T.z_zip) (xg_tup (xgs_cons (xg_name 10 sc_rows_of.nd) (xgs_cons (xg_tup (xgs_cons (xg_name 11 sc_rows_of.nd) (xgs_cons (xg_name 12 sc_rows_of.nd) (xgs_cons (xg_name 13 sc_rows_of.nd) xgs_nil)))) xgs_nil)))
  (xss_one (xs_expr (xe_mut 9 PySem.F.slot_list_append PySem.F.type_list_append mt_append gm_append (xe_tup (xl_cons (xe_idx (xe_idx (xv 3) (xv 10)) xe_int) (xl_cons (xe_mod (xe_mul (xv 8) (xv 11)) (xv 2)) (xl_cons (xe_mod (xe_sub (xe_mul (xv 8) (xv 12)) (xe_idx (xe_idx (xv 3) (xv 10)) xe_int)) (xv 2)) xl_nil))))))))
  (xss_cons (xs_if (xb_not (xb_val (xv 4)))
  (xss_one (xs_frz 9 (xs_ret (xv 9))))
  xss_nil)
  (xss_one (xs_ret (XN.xe (xn_comp (own := [("row", 14)]) (xi_seq (XN.xe (xn_sliceV 9 (xp_some xe_int) xp_none))) sc_rows_of.nd (blkOk_by (N := N_rows_of) (sc := defScope s_rows_of) (by decide +kernel)) (fun _ _ _ _ _ => (xg_name 14 sc_rows_of.nd)) (fun _ _ _ _ _ => xts_nil) (fun _ _ _ _ _ => (xe_tuple T.z_tuple (XE.xo (XN.xe (xn_comp (own := [("one", 15), ("other", 16)]) (xi_zip (xv 14) (xe_idxV 9 xe_int) T.z_zip) sc_rows_of.nd (blkOk_to rfl (blkOk_by (N := N_rows_of) (sc := sr_rows_of_0) (by decide +kernel))) (fun _ _ _ _ _ => (xg_tup (xgs_cons (xg_name 15 sc_rows_of.nd) (xgs_cons (xg_name 16 sc_rows_of.nd) xgs_nil)))) (fun _ _ _ _ _ => xts_nil) (fun _ _ _ _ _ => (xe_mod (xe_sub (xv 15) (xv 16)) (xv 2))))))))))))))))))
theorem ok_times_all : FnOk P w K mg base CX0 1 T.f_times_all T.d_times_all ["multipliers", "numbers"] (spF K g_times_all) :=
  fn_okE (k := 0) b_times_all 4 2 T.F_times_all sc_times_all rfl rfl rfl fun cdv A outer s H E hr =>
  (xss_one (xs_ret (xe_sum T.z_sum (XE.xo (XN.xe (xn_comp (own := [("by", 2), ("number", 3)]) (xi_zipA (xv 0) (xv 1) T.z_zip) sc_times_all.nd (blkOk_by (N := N_times_all) (sc := defScope s_times_all) (by decide +kernel)) (fun _ _ _ _ _ => (xg_tup (xgs_cons (xg_name 2 sc_times_all.nd) (xgs_cons (xg_name 3 sc_times_all.nd) xgs_nil)))) (fun _ _ _ _ _ => xts_nil) (fun _ _ _ _ _ => (xe_mul (xv 2) (xv 3)))))))))
theorem ok__law_cell_at : FnOk P w K mg base CX0 1 T.f__law_cell_at T.d__law_cell_at ["script", "k"] (spF K g__law_cell_at) :=
  fn_okE (k := 0) b__law_cell_at 3 2 T.F__law_cell_at sc__law_cell_at rfl rfl rfl fun cdv A outer s H E hr =>
  (xss_cons (xs_if (xb_cmp op_lt gq_lt (xv 1) (xe_len T.z_len (xvo 0)) (nomark _))
  (xss_one (xs_ret (xe_idxV 0 (xv 1))))
  xss_nil)
  (xss_cons (xs_set 2 xe_int sc__law_cell_at.nd)
  (xss_cons (xs_if (xb_cmpV 0 (op_neD hr.units) gq_ne (XN.xe (xn_lst xl_nil)) (nomark _))
  (xss_one (xs_set 2 (xe_mod (xe_idxV 0 (xe_mod (xv 1) (xe_len T.z_len (xvo 0)))) xe_int) sc__law_cell_at.nd))
  xss_nil)
  (xss_one (xs_ret (xe_add (xe_add (xv 2) (xe_mul xe_int (xv 1))) xe_int))))))
theorem ok__law_state : FnOk P w K mg base CX0 1 T.f__law_state T.d__law_state ["cell"] (spN K g__law_state) :=
  fn_newE (k := 0) b__law_state 2 1 T.F__law_state sc__law_state rfl rfl rfl fun cdv A outer s H E hr =>
  (xss_cons (xs_set 1 xe_int sc__law_state.nd)
  (xss_cons (xs_if (xb_cmp op_ge gq_ge (xv 0) (xe_pow xe_int xe_int) (nomark _))
  (xss_one (xs_set 1 (xv 0) sc__law_state.nd))
  xss_nil)
  (xss_one (xs_retL (xn_lst (xl_cons (xv 1) (xl_cons (xe_mod (xe_mul (xe_add (xe_mod (xv 0) xe_int) xe_int) xe_int) xe_int) xl_nil)))))))
theorem ok__law_next : FnOk P w K mg base CX0 1 T.f__law_next T.d__law_next ["state", "many"] (spF K g__law_next) :=
  fn_okE (k := 0) b__law_next 3 2 T.F__law_next sc__law_next rfl rfl rfl fun cdv A outer s H E hr =>
  (xss_cons (xs_if (xb_cmp op_gt gq_gt (xe_idxV 0 xe_int) xe_int (nomark _))
  (xss_cons (xs_set 2 (xe_mod (xe_idxV 0 xe_int) (xv 1)) sc__law_next.nd)
  (xss_cons (xs_put 0 (xe_div (xe_idxV 0 xe_int) (xv 1)) xe_int)
  (xss_one (xs_ret (xv 2)))))
  xss_nil)
  (xss_cons (xs_put 0 (xe_mod (xe_add (xe_mul (xe_idxV 0 xe_int) xe_int) xe_int) xe_int) xe_int)
  (xss_one (xs_ret (xe_mod (xe_div (xe_mod (xe_mul (xe_idxV 0 xe_int) (xe_idxV 0 xe_int)) xe_int) xe_int) (xv 1))))))
theorem ok_made_clock : FnOk P w K mg base CX0 2 T.f_made_clock T.d_made_clock ["many", "hands", "blank", "mirror"] (spF K (g_made_clock w)) :=
  fn_okE (k := 1) (b_made_clock w) 8 4 T.F_made_clock sc_made_clock rfl rfl rfl fun cdv A outer s H E hr =>
  (xss_cons (xs_if (xb_w (xw_or (xb_not (xb_chain op_le gq_le op_le gq_le xe_int (xv 0) (xe_glob (v := .int _) (by rfl) T.m_MOST_MARKS ⟨_, rfl⟩ (fun _ => .int _)))) (xw_or1 (xb_not (xb_chain op_le gq_le op_le gq_le xe_int (xe_len T.z_len (XE.xo (xv 1))) (xe_glob (v := .int _) (by rfl) T.m_MOST_HANDS ⟨_, rfl⟩ (fun _ => .int _)))))))
  (xss_one xs_never)
  xss_nil)
  (xss_cons (xs_if (xb_not (xb_val (xe_all T.z_all (XE.xo (XN.xe (xn_comp (own := [("gear", 5), ("start", 6), ("look", 7)]) (xi_seq (xv 1)) sc_made_clock.nd (blkOk_by (N := N_made_clock) (sc := defScope s_made_clock) (by decide +kernel)) (fun _ _ _ _ _ => (xg_tup (xgs_cons (xg_name 5 sc_made_clock.nd) (xgs_cons (xg_name 6 sc_made_clock.nd) (xgs_cons (xg_name 7 sc_made_clock.nd) xgs_nil))))) (fun _ _ _ _ _ => xts_nil) (fun _ _ _ _ _ => (xe_call ((ok_is_look T).mono (by decide)) hr T.m_is_look T.F_is_look.kp T.b_is_look (xa_v (xv 7) xa_nil)))))))))
  (xss_one xs_never)
  xss_nil)
  (xss_cons (xs_if (xb_cmp op_gt gq_gt (xe_call ((ok_many_readings T).mono (by decide)) hr T.m_many_readings T.F_many_readings.kp T.b_many_readings (xa_v (xv 1) (xa_v (xv 3) xa_nil))) (xe_glob (v := .int _) (by rfl) T.m_MOST_READINGS ⟨_, rfl⟩ (fun _ => .int _)) (nomark _))
  (xss_one xs_never)
  xss_nil)
  (xss_cons (xs_set 4 (xe_tuple T.z_tuple (XE.xo (XN.xe (xn_comp (own := [("gear", 5), ("start", 6), ("look", 7)]) (xi_seq (xv 1)) sc_made_clock.nd (blkOk_by (N := N_made_clock) (sc := defScope s_made_clock) (by decide +kernel)) (fun _ _ _ _ _ => (xg_tup (xgs_cons (xg_name 5 sc_made_clock.nd) (xgs_cons (xg_name 6 sc_made_clock.nd) (xgs_cons (xg_name 7 sc_made_clock.nd) xgs_nil))))) (fun _ _ _ _ _ => xts_nil) (fun _ _ _ _ _ => (xe_tup (xl_cons (xe_mod (xv 5) (xv 0)) (xl_cons (xe_mod (xv 6) (xv 0)) (xl_cons (xv 7) xl_nil))))))))) sc_made_clock.nd)
  (xss_one (xs_ret (xe_tup (xl_cons (xv 0) (xl_cons (xv 4) (xl_cons (xv 2) (xl_cons (xv 3) xl_nil)))))))))))
theorem okX_with_hand : FnOk P w K mg base (L2.CX P w) 2 T.f_with_hand T.d_with_hand ["clock", "hand", "gear", "start"] (spX K gx_with_hand) :=
  fn_okX (k := 1) bx_with_hand 9 4 T.F_with_hand sc_with_hand rfl rfl rfl fun cdv A outer s H E hr =>
  (xssx_cons (xsx_expr (xex_call ((okX_hand_asked T).mono (by decide)) hr T.m_hand_asked T.F_hand_asked.kp T.b_hand_asked (takes_of rfl rfl rfl rfl) (xa_v (xv 0) (xa_v (xv 1) xa_nil))))
  (xssx_of (xss_cons (xs_asg (xv 0) (xg_tup (xgs_cons (xg_name 4 sc_with_hand.nd) (xgs_cons (xg_name 5 sc_with_hand.nd) (xgs_cons (xg_name 6 sc_with_hand.nd) (xgs_cons (xg_name 7 sc_with_hand.nd) xgs_nil))))))
  (xss_cons (xs_setO 8 (xn_list T.z_list (XE.xo (xv 5))) sc_with_hand.nd)
  (xss_cons (xs_put 8 (xe_tup (xl_cons (xe_mod (xv 2) (xv 4)) (xl_cons (xe_mod (xv 3) (xv 4)) (xl_cons (xe_idx (xe_idx (xv 5) (xv 1)) xe_int) xl_nil)))) (xv 1))
  (xss_one (xs_ret (xe_tup (xl_cons (xv 4) (xl_cons (xe_tuple T.z_tuple (xvo 8)) (xl_cons (xv 6) (xl_cons (xv 7) xl_nil))))))))))))
theorem ok_weights_of : FnOk P w K mg base CX0 2 T.f_weights_of T.d_weights_of ["many", "numbers"] (spF K g_weights_of) :=
  fn_okE (k := 1) b_weights_of 8 2 T.F_weights_of sc_weights_of rfl rfl rfl fun cdv A outer s H E hr =>
  (xss_cons (xs_set 2 (xv 0) sc_weights_of.nd)
  (xss_cons (xs_set 3 (XN.xe (xn_lst xl_nil)) sc_weights_of.nd)
  (xss_cons (xs_for PassesOwn.never (xi_seq (xv 1)) (xg_name 4 sc_weights_of.nd)
  (xss_cons (xs_asg (xe_call ((ok_common_parts T).mono (by decide)) hr T.m_common_parts T.F_common_parts.kp T.b_common_parts (xa_v (xv 2) (xa_v (xe_mod (xv 4) (xv 0)) xa_nil))) (xg_tup (xgs_cons (xg_name 2 sc_weights_of.nd) (xgs_cons (xg_name 5 sc_weights_of.nd) (xgs_cons (xg_name 6 sc_weights_of.nd) xgs_nil)))))
  (xss_one (xs_set 3 (xe_add (XN.xe (xn_comp (own := [("weight", 7)]) (xi_seq (xv 3)) sc_weights_of.nd (blkOk_by (N := N_weights_of) (sc := defScope s_weights_of) (by decide +kernel)) (fun _ _ _ _ _ => (xg_name 7 sc_weights_of.nd)) (fun _ _ _ _ _ => xts_nil) (fun _ _ _ _ _ => (xe_mod (xe_mul (xv 7) (xv 5)) (xv 0))))) (XN.xe (xn_lst (xl_cons (xe_mod (xv 6) (xv 0)) xl_nil)))) sc_weights_of.nd))))
  (xss_one (xs_ret (xe_tup (xl_cons (xv 2) (xl_cons (xv 3) xl_nil))))))))
theorem ok_readings_of : FnOk P w K mg base CX0 2 T.f_readings_of T.d_readings_of ["clock"] (spF K g_readings_of) :=
  fn_okE (k := 1) b_readings_of 3 1 T.F_readings_of sc_readings_of rfl rfl rfl fun cdv A outer s H E hr =>
  (xss_cons (xs_setO 1 (xn_lst xl_nil) sc_readings_of.nd)
  (xss_cons (xs_for PassesOwn.never (xi_seq (xe_call ((ok_swaps_of T).mono (by decide)) hr T.m_swaps_of T.F_swaps_of.kp T.b_swaps_of (xa_v (xe_idx (xv 0) xe_int) xa_nil))) (xg_name 2 sc_readings_of.nd)
  (xss_cons (xs_expr (xe_mut 1 PySem.F.slot_list_append PySem.F.type_list_append mt_append gm_append (xe_tup (xl_cons (xv 2) (xl_cons xe_bl xl_nil)))))
  (xss_one (xs_if (xb_val (xe_idx (xv 0) xe_int))
  (xss_one (xs_expr (xe_mut 1 PySem.F.slot_list_append PySem.F.type_list_append mt_append gm_append (xe_tup (xl_cons (xv 2) (xl_cons xe_bl xl_nil))))))
  xss_nil))))
  (xss_one (xs_frz 1 (xs_ret (xv 1))))))
theorem ok_is_taken : FnOk P w K mg base CX0 2 T.f_is_taken T.d_is_taken ["clock", "reading", "tick", "other"] (spF K g_is_taken) :=
  fn_okE (k := 1) b_is_taken 7 4 T.F_is_taken sc_is_taken rfl rfl rfl fun cdv A outer s H E hr =>
  (xss_one (xs_ret (xe_all T.z_all (XE.xo (XN.xe (xn_comp (own := [("a", 4), ("b", 5), ("c", 6)]) (xi_seq (xe_call ((ok_rows_of T).mono (by decide)) hr T.m_rows_of T.F_rows_of.kp T.b_rows_of (xa_v (xv 0) (xa_v (xv 1) xa_nil)))) sc_is_taken.nd (blkOk_by (N := N_is_taken) (sc := defScope s_is_taken) (by decide +kernel)) (fun _ _ _ _ _ => (xg_tup (xgs_cons (xg_name 4 sc_is_taken.nd) (xgs_cons (xg_name 5 sc_is_taken.nd) (xgs_cons (xg_name 6 sc_is_taken.nd) xgs_nil))))) (fun _ _ _ _ _ => xts_nil) (fun _ _ _ _ _ => (xe_cmp (op_eqD hr.units) gq_eq (xe_mod (xe_sub (xe_sub (xe_mul (xv 4) (xv 3)) (xe_mul (xv 5) (xv 2))) (xv 6)) (xe_idx (xv 0) xe_int)) xe_int (nomark _)))))))))
theorem ok_put_together : FnOk P w K mg base CX0 2 T.f_put_together T.d_put_together ["many", "row", "rows"] (spF K g_put_together) :=
  fn_okE (k := 1) b_put_together 5 3 T.F_put_together sc_put_together rfl rfl rfl fun cdv A outer s H E hr =>
  (xss_one (xs_ret (xe_tuple T.z_tuple (XE.xo (XN.xe (xn_comp (own := [("at", 3)]) (xi_rng1 (xe_len T.z_len (XE.xo (xe_idx (xv 2) xe_int))) T.z_range) sc_put_together.nd (blkOk_by (N := N_put_together) (sc := defScope s_put_together) (by decide +kernel)) (fun _ _ _ _ _ => (xg_name 3 sc_put_together.nd)) (fun _ _ _ _ _ => xts_nil) (fun _ _ _ _ _ => (xe_mod (xe_call ((ok_times_all T).mono (by decide)) hr T.m_times_all T.F_times_all.kp T.b_times_all (xa_v (xv 1) (xa_v (XN.xe (xn_comp (own := [("one", 4)]) (xi_seq (xv 2)) sc_put_together.nd (blkOk_to rfl (blkOk_by (N := N_put_together) (sc := sr_put_together_0) (by decide +kernel))) (fun _ _ _ _ _ => (xg_name 4 sc_put_together.nd)) (fun _ _ _ _ _ => xts_nil) (fun _ _ _ _ _ => (xe_idx (xv 4) (xv 3))))) xa_nil))) (xv 0)))))))))
theorem ok__law_folded : FnOk P w K mg base CX0 2 T.f__law_folded T.d__law_folded ["script", "many"] (spF K g__law_folded) :=
  fn_okE (k := 1) b__law_folded 5 2 T.F__law_folded sc__law_folded rfl rfl rfl fun cdv A outer s H E hr =>
  (xss_cons (xs_setCompO 3 (own := [("k", 2)]) (xi_rng1 (xv 1) T.z_range) sc__law_folded.nd (blkOk_by (N := N__law_folded) (sc := defScope s__law_folded) (by decide +kernel)) (fun _ _ _ _ _ => (xg_name 2 sc__law_folded.nd)) (fun _ _ _ _ _ => xts_nil) (fun _ _ _ _ _ => (xe_call ((ok__law_cell_at T).mono (by decide)) hr T.m__law_cell_at T.F__law_cell_at.kp T.b__law_cell_at (xa_o 0 (xa_v (xv 2) xa_nil)))) (sw_true rfl rfl rfl (by decide +kernel)))
  (xss_cons (xs_for PassesOwn.never (xi_rng2 (xv 1) (xe_len T.z_len (xvo 0)) T.z_range) (xg_name 2 sc__law_folded.nd)
  (xss_cons (xs_set 4 (xe_mod (xv 2) (xv 1)) sc__law_folded.nd)
  (xss_one (xs_put 3 (xe_mod (xe_add (xe_mul (xe_mod (xe_idxV 3 (xv 4)) (xe_pow xe_int xe_int)) xe_int) (xe_idxV 0 (xv 2))) (xe_add (xe_pow xe_int xe_int) xe_int)) (xv 4)))))
  (xss_one (xs_frz 3 (xs_ret (xv 3))))))
theorem ok__law_below : FnOk P w K mg base CX0 2 T.f__law_below T.d__law_below ["state", "top"] (spF K g__law_below) :=
  fn_okE (k := 1) b__law_below 4 2 T.F__law_below sc__law_below rfl rfl rfl fun cdv A outer s H E hr =>
  (xss_cons (xs_if (xb_cmp op_le gq_le (xv 1) (xe_pow xe_int xe_int) (nomark _))
  (xss_one (xs_ret (xe_call ((ok__law_next T).mono (by decide)) hr T.m__law_next T.F__law_next.kp T.b__law_next (xa_r 0 (xa_v (xv 1) xa_nil)))))
  xss_nil)
  (xss_cons (xs_set 2 xe_int sc__law_below.nd)
  (xss_cons (xs_for PassesOwn.never (xi_rng1 xe_int T.z_range) (xg_name 3 sc__law_below.nd)
  (xss_one (xs_set 2 (xe_add (xe_mul (xv 2) (xe_pow xe_int xe_int)) (xe_call ((ok__law_next T).mono (by decide)) hr T.m__law_next T.F__law_next.kp T.b__law_next (xa_r 0 (xa_v (xe_pow xe_int xe_int) xa_nil)))) sc__law_below.nd)))
  (xss_one (xs_ret (xe_mod (xv 2) (xv 1)))))))
theorem ok__law_looks : FnOk P w K mg base CX0 2 T.f__law_looks T.d__law_looks ["state", "count", "mirror"] (spF K g__law_looks) :=
  fn_okE (k := 1) b__law_looks 9 3 T.F__law_looks sc__law_looks rfl rfl rfl fun cdv A outer s H E hr =>
  (xss_cons (xs_set 3 (xe_call ((ok__law_next T).mono (by decide)) hr T.m__law_next T.F__law_next.kp T.b__law_next (xa_r 0 (xa_v xe_int xa_nil))) sc__law_looks.nd)
  (xss_cons (xs_setComp 5 (own := [("k", 4)]) (xi_rng1 xe_int T.z_range) sc__law_looks.nd (blkOk_by (N := N__law_looks) (sc := defScope s__law_looks) (by decide +kernel)) (fun _ _ _ _ _ => (xg_name 4 sc__law_looks.nd)) (fun _ _ _ _ _ => xts_nil) (fun _ _ _ _ _ => (xe_idx xe_str (xe_mod (xe_add (xv 3) (xe_mul xe_int (xv 4))) xe_int))) (sw_true rfl rfl rfl (by decide +kernel)))
  (xss_cons (xs_set 6 (xe_call ((ok__law_next T).mono (by decide)) hr T.m__law_next T.F__law_next.kp T.b__law_next (xa_r 0 (xa_v xe_int xa_nil))) sc__law_looks.nd)
  (xss_cons (xs_set 7 (xe_idx (XN.xe (xn_lst (xl_cons (XN.xe (xn_lst (xl_cons xe_int (xl_cons xe_int (xl_cons xe_int (xl_cons xe_int (xl_cons xe_int xl_nil))))))) (xl_cons (XN.xe (xn_lst (xl_cons xe_int (xl_cons xe_int (xl_cons xe_int (xl_cons xe_int (xl_cons xe_int xl_nil))))))) (xl_cons (XN.xe (xn_lst (xl_cons xe_int (xl_cons xe_int (xl_cons xe_int (xl_cons xe_int (xl_cons xe_int xl_nil))))))) (xl_cons (XN.xe (xn_lst (xl_cons xe_int (xl_cons xe_int (xl_cons xe_int (xl_cons xe_int (xl_cons xe_int xl_nil))))))) (xl_cons (XN.xe (xn_lst (xl_cons xe_int (xl_cons xe_int (xl_cons xe_int (xl_cons xe_int (xl_cons xe_int xl_nil))))))) (xl_cons (XN.xe (xn_lst (xl_cons xe_int (xl_cons xe_int (xl_cons xe_int (xl_cons xe_int (xl_cons xe_int xl_nil))))))) xl_nil)))))))) (xv 6)) sc__law_looks.nd)
  (xss_cons (xs_if (xb_w (xw_and (xb_val (xv 2)) (xw_and1 (xb_in (hu65 hr) (xv 6) (XE.xo (xe_tup (xl_cons xe_int (xl_cons xe_int (xl_cons xe_int xl_nil)))))))))
  (xss_one (xs_set 7 (XN.xe (xn_lst (xl_cons xe_int (xl_cons xe_int (xl_cons xe_int (xl_cons xe_int (xl_cons xe_int xl_nil))))))) sc__law_looks.nd))
  xss_nil)
  (xss_cons (xs_setO 8 (xn_lst xl_nil) sc__law_looks.nd)
  (xss_cons (xs_for PassesOwn.never (xi_seq (xe_slice (xv 7) xp_none (xp_some (xv 1)))) (xg_name 4 sc__law_looks.nd)
  (xss_one (xs_expr (xe_mut2 8 PySem.F.slot_list_insert PySem.F.type_list_insert mt_insert gm_insert (xe_call ((ok__law_next T).mono (by decide)) hr T.m__law_next T.F__law_next.kp T.b__law_next (xa_r 0 (xa_v (xe_add (xe_len T.z_len (xvo 8)) xe_int) xa_nil))) (xe_idx (xv 5) (xv 4))))))
  (xss_one (xs_frz 8 (xs_ret (xv 8)))))))))))
theorem ok_cleared_of : FnOk P w K mg base CX0 3 T.f_cleared_of T.d_cleared_of ["many", "numbers"] (spF K g_cleared_of) :=
  fn_okE (k := 2) b_cleared_of 10 2 T.F_cleared_of sc_cleared_of rfl rfl rfl fun cdv A outer s H E hr =>
  (xss_cons (xs_asg (xe_call ((ok_weights_of T).mono (by decide)) hr T.m_weights_of T.F_weights_of.kp T.b_weights_of (xa_v (xv 0) (xa_v (xv 1) xa_nil))) (xg_tup (xgs_cons (xg_name 2 sc_cleared_of.nd) (xgs_cons (xg_name 3 sc_cleared_of.nd) xgs_nil))))
  (xss_cons (xs_setO 4 (xn_lst xl_nil) sc_cleared_of.nd)
  (xss_cons (xs_for PassesOwn.never (xi_enum (xv 1) T.z_enumerate) (xg_tup (xgs_cons (xg_name 5 sc_cleared_of.nd) (xgs_cons (xg_name 6 sc_cleared_of.nd) xgs_nil)))
  (xss_cons (xs_set 7 (xe_div (xv 6) (xv 2)) sc_cleared_of.nd)
  (xss_one (xs_expr (xe_mut 4 PySem.F.slot_list_append PySem.F.type_list_append mt_append gm_append (XN.xe (xn_comp (own := [("to", 9), ("weight", 8)]) (xi_enum (xv 3) T.z_enumerate) sc_cleared_of.nd (blkOk_by (N := N_cleared_of) (sc := defScope s_cleared_of) (by decide +kernel)) (fun _ _ _ _ _ => (xg_tup (xgs_cons (xg_name 9 sc_cleared_of.nd) (xgs_cons (xg_name 8 sc_cleared_of.nd) xgs_nil)))) (fun _ _ _ _ _ => xts_nil) (fun _ _ _ _ _ => (xe_sub (xe_int1 T.z_int (XE.xo (xe_cmp (op_eqD hr.units) gq_eq (xv 9) (xv 5) (nomark _)))) (xe_mul (xv 7) (xv 8)))))))))))
  (xss_cons (xs_expr (xe_mut 4 PySem.F.slot_list_append PySem.F.type_list_append mt_append gm_append (XN.xe (xn_comp (own := [("weight", 8)]) (xi_seq (xv 3)) sc_cleared_of.nd (blkOk_by (N := N_cleared_of) (sc := defScope s_cleared_of) (by decide +kernel)) (fun _ _ _ _ _ => (xg_name 8 sc_cleared_of.nd)) (fun _ _ _ _ _ => xts_nil) (fun _ _ _ _ _ => (xe_mul (xe_div (xv 0) (xv 2)) (xv 8)))))))
  (xss_one (xs_frz 4 (xs_ret (xe_tup (xl_cons (xv 4) (xl_cons (xv 3) (xl_cons (xv 2) xl_nil)))))))))))
theorem okX_changed_by : FnOk P w K mg base (L2.CX P w) 3 T.f_changed_by T.d_changed_by ["clock", "kind", "hand", "more"] (spX K gx_changed_by) :=
  fn_okX (k := 2) bx_changed_by 6 4 T.F_changed_by sc_changed_by rfl rfl rfl fun cdv A outer s H E hr =>
  (xssx_cons (xsx_of (xs_asg (xe_tup (xl_cons xe_int (xl_cons xe_int xl_nil))) (xg_tup (xgs_cons (xg_name 4 sc_changed_by.nd) (xgs_cons (xg_name 5 sc_changed_by.nd) xgs_nil)))))
  (xssx_cons (xsx_of (xs_if (xb_chain op_le gq_le op_lt gq_lt xe_int (xv 2) (xe_len T.z_len (XE.xo (xe_idx (xv 0) xe_int))))
  (xss_one (xs_asg (xe_slice (xe_idx (xe_idx (xv 0) xe_int) (xv 2)) xp_none (xp_some xe_int)) (xg_tup (xgs_cons (xg_name 4 sc_changed_by.nd) (xgs_cons (xg_name 5 sc_changed_by.nd) xgs_nil)))))
  xss_nil))
  (xssx_cons (xsx_if (xb_cmp (op_eqD hr.units) gq_eq (xv 1) xe_str (nomark _))
  (xssx_one (xsx_ret (xex_call ((okX_with_hand T).mono (by decide)) hr T.m_with_hand T.F_with_hand.kp T.b_with_hand (takes_of rfl rfl rfl rfl) (xa_v (xv 0) (xa_v (xv 2) (xa_v (xe_add (xv 4) (xv 3)) (xa_v (xv 5) xa_nil)))))))
  (xssx_of xss_nil))
  (xssx_one (xsx_ret (xex_call ((okX_with_hand T).mono (by decide)) hr T.m_with_hand T.F_with_hand.kp T.b_with_hand (takes_of rfl rfl rfl rfl) (xa_v (xv 0) (xa_v (xv 2) (xa_v (xv 4) (xa_v (xe_add (xv 5) (xv 3)) xa_nil))))))))))
theorem ok_is_doubt : FnOk P w K mg base CX0 3 T.f_is_doubt T.d_is_doubt ["clock", "doubt"] (spF K g_is_doubt) :=
  fn_okE (k := 2) b_is_doubt 5 2 T.F_is_doubt sc_is_doubt rfl rfl rfl fun cdv A outer s H E hr =>
  (xss_cons (xs_asg (xv 1) (xg_tup (xgs_cons (xg_name 2 sc_is_doubt.nd) (xgs_cons (xg_name 3 sc_is_doubt.nd) (xgs_cons (xg_name 4 sc_is_doubt.nd) xgs_nil)))))
  (xss_cons (xs_if (xb_w (xw_or (xb_cmp (op_eqD hr.units) gq_eq (xe_mod (xe_sub (xv 2) (xv 3)) (xe_idx (xv 0) xe_int)) xe_int (nomark _)) (xw_or1 (xb_ni (hu65 hr) (xv 4) (XE.xo (xe_call ((ok_readings_of T).mono (by decide)) hr T.m_readings_of T.F_readings_of.kp T.b_readings_of (xa_v (xv 0) xa_nil)))))))
  (xss_one (xs_ret xe_bl))
  xss_nil)
  (xss_one (xs_ret (xe_call ((ok_is_taken T).mono (by decide)) hr T.m_is_taken T.F_is_taken.kp T.b_is_taken (xa_v (xv 0) (xa_v (xv 4) (xa_v (xv 2) (xa_v (xv 3) xa_nil)))))))))
theorem ok__law_clock : FnOk P w K mg base CX0 3 T.f__law_clock T.d__law_clock ["state", "many"] (spF K (g__law_clock w)) :=
  fn_okE (k := 2) (b__law_clock w) 10 2 T.F__law_clock sc__law_clock rfl rfl rfl fun cdv A outer s H E hr =>
  (xss_cons (xs_set 2 (xe_cmp (op_eqD hr.units) gq_eq (xe_call ((ok__law_next T).mono (by decide)) hr T.m__law_next T.F__law_next.kp T.b__law_next (xa_r 0 (xa_v xe_int xa_nil))) xe_int (nomark _)) sc__law_clock.nd)
  (xss_cons (xs_set 3 (xe_cmp (op_eqD hr.units) gq_eq (xe_call ((ok__law_next T).mono (by decide)) hr T.m__law_next T.F__law_next.kp T.b__law_next (xa_r 0 (xa_v xe_int xa_nil))) xe_int (nomark _)) sc__law_clock.nd)
  (xss_cons (xs_set 4 (xe_idx (XN.xe (xn_lst (xl_cons xe_int (xl_cons xe_int (xl_cons xe_int (xl_cons xe_int (xl_cons xe_int (xl_cons xe_int xl_nil)))))))) (xe_call ((ok__law_next T).mono (by decide)) hr T.m__law_next T.F__law_next.kp T.b__law_next (xa_r 0 (xa_v xe_int xa_nil)))) sc__law_clock.nd)
  (xss_cons (xs_setO 5 (xn_lst xl_nil) sc__law_clock.nd)
  (xss_cons (xs_for PassesOwn.never (xi_seq (xe_call ((ok__law_looks T).mono (by decide)) hr T.m__law_looks T.F__law_looks.kp T.b__law_looks (xa_r 0 (xa_v (xv 4) (xa_v (xv 3) xa_nil))))) (xg_name 6 sc__law_clock.nd)
  (xss_cons (xs_set 7 (xe_add xe_int (xe_call ((ok__law_next T).mono (by decide)) hr T.m__law_next T.F__law_next.kp T.b__law_next (xa_r 0 (xa_v xe_int xa_nil)))) sc__law_clock.nd)
  (xss_cons (xs_set 8 (xe_call ((ok__law_below T).mono (by decide)) hr T.m__law_below T.F__law_below.kp T.b__law_below (xa_r 0 (xa_v (xv 1) xa_nil))) sc__law_clock.nd)
  (xss_cons (xs_set 9 (xe_idx (XN.xe (xn_lst (xl_cons xe_int (xl_cons (xv 7) (xl_cons (xv 8) (xl_cons (xe_sub xe_int (xv 7)) (xl_cons (xe_mul (xv 7) (xe_div (xv 1) xe_int)) (xl_cons (xe_mul (xv 7) (xv 8)) xl_nil)))))))) (xe_call ((ok__law_next T).mono (by decide)) hr T.m__law_next T.F__law_next.kp T.b__law_next (xa_r 0 (xa_v xe_int xa_nil)))) sc__law_clock.nd)
  (xss_one (xs_expr (xe_mut 5 PySem.F.slot_list_append PySem.F.type_list_append mt_append gm_append (xe_tup (xl_cons (xv 9) (xl_cons (xe_mul (xe_call ((ok__law_below T).mono (by decide)) hr T.m__law_below T.F__law_below.kp T.b__law_below (xa_r 0 (xa_v (xv 1) xa_nil))) (xe_int1 T.z_int (XE.xo (xe_cmp op_gt gq_gt (xe_call ((ok__law_next T).mono (by decide)) hr T.m__law_next T.F__law_next.kp T.b__law_next (xa_r 0 (xa_v xe_int xa_nil))) xe_int (nomark _))))) (xl_cons (xv 6) xl_nil)))))))))))
  (xss_one (xs_frz 5 (xs_ret (xe_call ((ok_made_clock T).mono (by decide)) hr T.m_made_clock T.F_made_clock.kp T.b_made_clock (xa_v (xv 1) (xa_v (xv 5) (xa_v (xv 2) (xa_v (xv 3) xa_nil)))))))))))))
theorem ok_reading_doubt : FnOk P w K mg base CX0 4 T.f_reading_doubt T.d_reading_doubt ["many", "rows"] (spF K g_reading_doubt) :=
  fn_okE (k := 3) b_reading_doubt 18 2 T.F_reading_doubt sc_reading_doubt rfl rfl rfl fun cdv A outer s H E hr =>
  (xss_cons (xs_if (xb_cmp (op_eqD hr.units) gq_eq (xv 1) (XN.xe (xn_lst xl_nil)) (nomark _))
  (xss_one (xs_ret (xe_tup (xl_cons xe_str (xl_cons xe_int (xl_cons xe_int xl_nil))))))
  xss_nil)
  (xss_cons (xs_set 2 (XN.xe (xn_comp (own := [("a", 15), ("b", 16), ("c", 17)]) (xi_seq (xv 1)) sc_reading_doubt.nd (blkOk_by (N := N_reading_doubt) (sc := defScope s_reading_doubt) (by decide +kernel)) (fun _ _ _ _ _ => (xg_tup (xgs_cons (xg_name 15 sc_reading_doubt.nd) (xgs_cons (xg_name 16 sc_reading_doubt.nd) (xgs_cons (xg_name 17 sc_reading_doubt.nd) xgs_nil))))) (fun _ _ _ _ _ => xts_nil) (fun _ _ _ _ _ => (xv 15)))) sc_reading_doubt.nd)
  (xss_cons (xs_set 3 (XN.xe (xn_comp (own := [("a", 15), ("b", 16), ("c", 17)]) (xi_seq (xv 1)) sc_reading_doubt.nd (blkOk_by (N := N_reading_doubt) (sc := defScope s_reading_doubt) (by decide +kernel)) (fun _ _ _ _ _ => (xg_tup (xgs_cons (xg_name 15 sc_reading_doubt.nd) (xgs_cons (xg_name 16 sc_reading_doubt.nd) (xgs_cons (xg_name 17 sc_reading_doubt.nd) xgs_nil))))) (fun _ _ _ _ _ => xts_nil) (fun _ _ _ _ _ => (xv 17)))) sc_reading_doubt.nd)
  (xss_cons (xs_asg (xe_call ((ok_cleared_of T).mono (by decide)) hr T.m_cleared_of T.F_cleared_of.kp T.b_cleared_of (xa_v (xv 0) (xa_v (XN.xe (xn_comp (own := [("a", 15), ("b", 16), ("c", 17)]) (xi_seq (xv 1)) sc_reading_doubt.nd (blkOk_by (N := N_reading_doubt) (sc := defScope s_reading_doubt) (by decide +kernel)) (fun _ _ _ _ _ => (xg_tup (xgs_cons (xg_name 15 sc_reading_doubt.nd) (xgs_cons (xg_name 16 sc_reading_doubt.nd) (xgs_cons (xg_name 17 sc_reading_doubt.nd) xgs_nil))))) (fun _ _ _ _ _ => xts_nil) (fun _ _ _ _ _ => (xe_mod (xe_sub (xv 15) (xv 16)) (xv 0))))) xa_nil))) (xg_tup (xgs_cons (xg_name 4 sc_reading_doubt.nd) (xgs_cons (xg_name 5 sc_reading_doubt.nd) (xgs_cons (xg_name 6 sc_reading_doubt.nd) xgs_nil)))))
  (xss_cons (xs_setComp 8 (own := [("row", 7)]) (xi_seq (xv 4)) sc_reading_doubt.nd (blkOk_by (N := N_reading_doubt) (sc := defScope s_reading_doubt) (by decide +kernel)) (fun _ _ _ _ _ => (xg_name 7 sc_reading_doubt.nd)) (fun _ _ _ _ _ => xts_nil) (fun _ _ _ _ _ => (xe_mod (xe_call ((ok_times_all T).mono (by decide)) hr T.m_times_all T.F_times_all.kp T.b_times_all (xa_v (xv 7) (xa_v (xv 2) xa_nil))) (xv 0))) (sw_true rfl rfl rfl (by decide +kernel)))
  (xss_cons (xs_setComp 9 (own := [("row", 7)]) (xi_seq (xv 4)) sc_reading_doubt.nd (blkOk_by (N := N_reading_doubt) (sc := defScope s_reading_doubt) (by decide +kernel)) (fun _ _ _ _ _ => (xg_name 7 sc_reading_doubt.nd)) (fun _ _ _ _ _ => xts_nil) (fun _ _ _ _ _ => (xe_mod (xe_call ((ok_times_all T).mono (by decide)) hr T.m_times_all T.F_times_all.kp T.b_times_all (xa_v (xv 7) (xa_v (xv 3) xa_nil))) (xv 0))) (sw_true rfl rfl rfl (by decide +kernel)))
  (xss_cons (xs_asg (xe_call ((ok_cleared_of T).mono (by decide)) hr T.m_cleared_of T.F_cleared_of.kp T.b_cleared_of (xa_v (xv 0) (xa_v (xv 8) xa_nil))) (xg_tup (xgs_cons (xg_name 10 sc_reading_doubt.nd) (xgs_cons (xg_name 11 sc_reading_doubt.nd) (xgs_cons (xg_name 12 sc_reading_doubt.nd) xgs_nil)))))
  (xss_cons (xs_for PassesOwn.never (xi_seq (xv 10)) (xg_name 7 sc_reading_doubt.nd)
  (xss_one (xs_if (xb_cmp (op_neD hr.units) gq_ne (xe_mod (xe_call ((ok_times_all T).mono (by decide)) hr T.m_times_all T.F_times_all.kp T.b_times_all (xa_v (xv 7) (xa_v (xv 9) xa_nil))) (xv 0)) xe_int (nomark _))
  (xss_one (xs_ret (xe_tup (xl_cons xe_str (xl_cons (xe_call ((ok_put_together T).mono (by decide)) hr T.m_put_together T.F_put_together.kp T.b_put_together (xa_v (xv 0) (xa_v (xv 7) (xa_v (xv 4) xa_nil)))) xl_nil)))))
  xss_nil)))
  (xss_cons (xs_set 13 (xe_mod (xe_call ((ok_times_all T).mono (by decide)) hr T.m_times_all T.F_times_all.kp T.b_times_all (xa_v (xv 11) (xa_v (xv 9) xa_nil))) (xv 0)) sc_reading_doubt.nd)
  (xss_cons (xs_set 14 (xe_mod (xe_div (xv 13) (xv 12)) (xe_div (xv 0) (xv 12))) sc_reading_doubt.nd)
  (xss_cons (xs_if (xb_w (xw_and (xb_cmp (op_eqD hr.units) gq_eq (xv 14) xe_int (nomark _)) (xw_and1 (xb_cmp (op_eqD hr.units) gq_eq (xv 12) xe_int (nomark _)))))
  (xss_one (xs_ret (xe_tup (xl_cons xe_str (xl_cons (xe_call ((ok_put_together T).mono (by decide)) hr T.m_put_together T.F_put_together.kp T.b_put_together (xa_v (xv 0) (xa_v (xv 11) (xa_v (xv 4) xa_nil)))) xl_nil)))))
  xss_nil)
  (xss_cons (xs_if (xb_cmp (op_eqD hr.units) gq_eq (xv 14) xe_int (nomark _))
  (xss_one (xs_set 14 (xe_div (xv 0) (xv 12)) sc_reading_doubt.nd))
  xss_nil)
  (xss_one (xs_ret (xe_tup (xl_cons xe_str (xl_cons (xe_div (xe_mod (xe_sub (xe_call ((ok_times_all T).mono (by decide)) hr T.m_times_all T.F_times_all.kp T.b_times_all (xa_v (xv 5) (xa_v (xv 3) xa_nil))) (xe_mul (xe_call ((ok_times_all T).mono (by decide)) hr T.m_times_all T.F_times_all.kp T.b_times_all (xa_v (xv 5) (xa_v (xv 2) xa_nil))) (xv 14))) (xv 0)) (xv 6)) (xl_cons (xv 14) xl_nil))))))))))))))))))
theorem ok__law_small : FnOk P w K mg base CX0 4 T.f__law_small T.d__law_small ["state"] (spF K (g__law_small w)) :=
  fn_okE (k := 3) (b__law_small w) 2 1 T.F__law_small sc__law_small rfl rfl rfl fun cdv A outer s H E hr =>
  (xss_cons (xs_set 1 (xe_idx (XN.xe (xn_lst (xl_cons (xe_add xe_int (xe_call ((ok__law_next T).mono (by decide)) hr T.m__law_next T.F__law_next.kp T.b__law_next (xa_r 0 (xa_v xe_int xa_nil)))) (xl_cons (xe_idx (XN.xe (xn_lst (xl_cons xe_int (xl_cons xe_int (xl_cons xe_int (xl_cons xe_int (xl_cons xe_int (xl_cons xe_int (xl_cons xe_int (xl_cons xe_int xl_nil)))))))))) (xe_call ((ok__law_next T).mono (by decide)) hr T.m__law_next T.F__law_next.kp T.b__law_next (xa_r 0 (xa_v xe_int xa_nil)))) xl_nil)))) (xe_call ((ok__law_next T).mono (by decide)) hr T.m__law_next T.F__law_next.kp T.b__law_next (xa_r 0 (xa_v xe_int xa_nil)))) sc__law_small.nd)
  (xss_one (xs_ret (xe_call ((ok__law_clock T).mono (by decide)) hr T.m__law_clock T.F__law_clock.kp T.b__law_clock (xa_r 0 (xa_v (xv 1) xa_nil))))))
theorem ok_whole_paper : FnOk P w K mg base CX0 5 T.f_whole_paper T.d_whole_paper ["clock"] (spF K g_whole_paper) :=
  fn_okE (k := 4) b_whole_paper 5 1 T.F_whole_paper sc_whole_paper rfl rfl rfl fun cdv A outer s H E hr =>
  (xss_cons (xs_set 1 (xe_idx (xv 0) xe_int) sc_whole_paper.nd)
  (xss_cons (xs_setO 2 (xn_lst xl_nil) sc_whole_paper.nd)
  (xss_cons (xs_for PassesOwn.never (xi_seq (xe_call ((ok_readings_of T).mono (by decide)) hr T.m_readings_of T.F_readings_of.kp T.b_readings_of (xa_v (xv 0) xa_nil))) (xg_name 3 sc_whole_paper.nd)
  (xss_cons (xs_set 4 (xe_call ((ok_reading_doubt T).mono (by decide)) hr T.m_reading_doubt T.F_reading_doubt.kp T.b_reading_doubt (xa_v (xv 1) (xa_v (xe_call ((ok_rows_of T).mono (by decide)) hr T.m_rows_of T.F_rows_of.kp T.b_rows_of (xa_v (xv 0) (xa_v (xv 3) xa_nil))) xa_nil))) sc_whole_paper.nd)
  (xss_cons (xs_if (xb_cmp (op_eqD hr.units) gq_eq (xe_idx (xv 4) xe_int) xe_str (nomark _))
  (xss_one (xs_ret (xe_tup (xl_cons xe_str (xl_cons (xe_idx (xv 4) xe_int) (xl_cons (xe_mod (xe_add (xe_idx (xv 4) xe_int) (xe_idx (xv 4) xe_int)) (xv 1)) (xl_cons (xv 3) xl_nil)))))))
  xss_nil)
  (xss_one (xs_expr (xe_mut 2 PySem.F.slot_list_append PySem.F.type_list_append mt_append gm_append (xv 4)))))))
  (xss_one (xs_frz 2 (xs_ret (xe_tup (xl_cons xe_str (xl_cons (xv 2) xl_nil)))))))))
theorem okX_other_by : FnOk P w K mg base (L2.CX P w) 6 T.f_other_by T.d_other_by ["clock", "kind", "hand", "tries"] (spX K gx_other_by) :=
  fn_okX (k := 5) bx_other_by 8 4 T.F_other_by sc_other_by rfl rfl rfl fun cdv A outer s H E hr =>
  (xssx_cons (xsx_of (xs_setO 4 (xn_lst xl_nil) sc_other_by.nd))
  (xssx_cons (xsx_for (passes_of rfl) (xi_rng1 (xv 3) T.z_range) (xg_name 5 sc_other_by.nd)
  (xssx_cons (xsx_set 6 (xex_call ((okX_changed_by T).mono (by decide)) hr T.m_changed_by T.F_changed_by.kp T.b_changed_by (takes_of rfl rfl rfl rfl) (xa_v (xv 0) (xa_v (xv 1) (xa_v (xv 2) (xa_v (xv 5) xa_nil))))) sc_other_by.nd)
  (xssx_of (xss_cons (xs_set 7 (xe_call ((ok_whole_paper T).mono (by decide)) hr T.m_whole_paper T.F_whole_paper.kp T.b_whole_paper (xa_v (xv 6) xa_nil)) sc_other_by.nd)
  (xss_cons (xs_if (xb_cmp (op_eqD hr.units) gq_eq (xe_idx (xv 7) xe_int) xe_str (nomark _))
  (xss_one (xs_frz 4 (xs_ret (xe_tup (xl_cons xe_str (xl_cons (xe_idx (xe_idx (xe_idx (xv 6) xe_int) (xv 2)) (xe_lidx (hu65 hr) (XN.xe (xn_lst (xl_cons xe_str (xl_cons xe_str xl_nil)))) (xv 1))) (xl_cons (xv 4) xl_nil)))))))
  xss_nil)
  (xss_one (xs_expr (xe_mut 4 PySem.F.slot_list_append PySem.F.type_list_append mt_append gm_append (xe_slice (xv 7) (xp_some xe_int) xp_none)))))))))
  (xssx_of (xss_one (xs_frz 4 (xs_ret (xe_tup (xl_cons xe_str (xl_cons (xv 4) xl_nil)))))))))
theorem okX_other_right : FnOk P w K mg base (L2.CX P w) 6 T.f_other_right T.d_other_right ["clock", "kind", "hand", "tries", "told"] (spX K gx_other_right) :=
  fn_okX (k := 5) bx_other_right 11 5 T.F_other_right sc_other_right rfl rfl rfl fun cdv A outer s H E hr =>
  (xssx_cons (xsx_compX (own := [("more", 8)]) ((okX_changed_by T).mono (by decide)) hr T.m_changed_by T.F_changed_by.kp T.b_changed_by (takes_of rfl rfl rfl rfl) (xi_rng1 (xv 3) T.z_range) sc_other_right.nd (blkOk_by (N := N_other_right) (sc := defScope s_other_right) (by decide +kernel)) (fun _ _ _ _ _ => (xg_name 8 sc_other_right.nd)) (fun _ _ _ _ _ => (xa_v (xv 0) (xa_v (xv 1) (xa_v (xv 2) (xa_v (xv 8) xa_nil))))) (sw_true rfl rfl rfl (by decide +kernel)))
  (xssx_of (xss_cons (xs_set 6 (xe_idx (xv 4) (xe_neg xe_int)) sc_other_right.nd)
  (xss_cons (xs_if (xb_cmp op_gt gq_gt (xe_len T.z_len (XE.xo (xv 6))) (xv 3) (nomark _))
  (xss_one (xs_ret xe_bl))
  xss_nil)
  (xss_cons (xs_if (xb_not (xb_val (xe_all T.z_all (XE.xo (XN.xe (xn_comp (own := [("one", 9), ("doubt", 10)]) (xi_zip (xv 5) (xv 6) T.z_zip) sc_other_right.nd (blkOk_by (N := N_other_right) (sc := defScope s_other_right) (by decide +kernel)) (fun _ _ _ _ _ => (xg_tup (xgs_cons (xg_name 9 sc_other_right.nd) (xgs_cons (xg_name 10 sc_other_right.nd) xgs_nil)))) (fun _ _ _ _ _ => xts_nil) (fun _ _ _ _ _ => (xe_call ((ok_is_doubt T).mono (by decide)) hr T.m_is_doubt T.F_is_doubt.kp T.b_is_doubt (xa_v (xv 9) (xa_v (xv 10) xa_nil))))))))))
  (xss_one (xs_ret xe_bl))
  xss_nil)
  (xss_cons (xs_if (xb_cmp (op_eqD hr.units) gq_eq (xe_idx (xv 4) xe_int) xe_str (nomark _))
  (xss_one (xs_ret (xe_cmp (op_eqD hr.units) gq_eq (xe_len T.z_len (XE.xo (xv 6))) (xv 3) (nomark _))))
  xss_nil)
  (xss_cons (xs_if (xb_cmp (op_eqD hr.units) gq_eq (xe_len T.z_len (XE.xo (xv 6))) (xv 3) (nomark _))
  (xss_one (xs_ret xe_bl))
  xss_nil)
  (xss_cons (xs_set 7 (xe_idx (xv 5) (xe_len T.z_len (XE.xo (xv 6)))) sc_other_right.nd)
  (xss_cons (xs_if (xb_cmp (op_neD hr.units) gq_ne (xe_idx (xv 4) xe_int) (xe_idx (xe_idx (xe_idx (xv 7) xe_int) (xv 2)) (xe_lidx (hu65 hr) (XN.xe (xn_lst (xl_cons xe_str (xl_cons xe_str xl_nil)))) (xv 1))) (nomark _))
  (xss_one (xs_ret xe_bl))
  xss_nil)
  (xss_one (xs_ret (xe_cmp (op_eqD hr.units) gq_eq (xe_idx (xe_call ((ok_whole_paper T).mono (by decide)) hr T.m_whole_paper T.F_whole_paper.kp T.b_whole_paper (xa_v (xv 7) xa_nil)) xe_int) xe_str (nomark _)))))))))))))
theorem okX_other_gear : FnOk P w K mg base (L2.CX P w) 7 T.f_other_gear T.d_other_gear ["clock", "hand", "tries"] (spX K gx_other_gear) :=
  fn_okX (k := 6) bx_other_gear 3 3 T.F_other_gear sc_other_gear rfl rfl rfl fun cdv A outer s H E hr =>
  (xssx_one (xsx_ret (xex_call ((okX_other_by T).mono (by decide)) hr T.m_other_by T.F_other_by.kp T.b_other_by (takes_of rfl rfl rfl rfl) (xa_v (xv 0) (xa_v xe_str (xa_v (xv 1) (xa_v (xv 2) xa_nil)))))))
theorem okX_other_start : FnOk P w K mg base (L2.CX P w) 7 T.f_other_start T.d_other_start ["clock", "hand", "tries"] (spX K gx_other_start) :=
  fn_okX (k := 6) bx_other_start 3 3 T.F_other_start sc_other_start rfl rfl rfl fun cdv A outer s H E hr =>
  (xssx_one (xsx_ret (xex_call ((okX_other_by T).mono (by decide)) hr T.m_other_by T.F_other_by.kp T.b_other_by (takes_of rfl rfl rfl rfl) (xa_v (xv 0) (xa_v xe_str (xa_v (xv 1) (xa_v (xv 2) xa_nil)))))))
theorem ok__law_refused : FnOk P w K mg base CX0 8 T.f__law_refused T.d__law_refused ["way", "clock", "hand", "tries"] (spF K g__law_refused) :=
  fn_okE (k := 7) b__law_refused 7 4 T.F__law_refused sc__law_refused rfl rfl rfl fun cdv A outer s H E hr =>
  (xss_cons (xs_set 4 xe_non sc__law_refused.nd)
  (xss_cons (xs_try cat_DoubtError 6 sc__law_refused.nd T.m_DoubtError T.e_DoubtError (fun W pn xe tk hp =>
  (xssx_one (xsx_if (xb_cmp (op_eqD hr.units) gq_eq (xv 0) xe_int (nomark _))
  (xssx_one (xsx_expr (xex_call ((okX_other_gear T).mono (by decide)) hr T.m_other_gear T.F_other_gear.kp T.b_other_gear tk (xa_v (xv 1) (xa_v (xv 2) (xa_v (xv 3) xa_nil))))))
  (xssx_one (xsx_if (xb_cmp (op_eqD hr.units) gq_eq (xv 0) xe_int (nomark _))
  (xssx_one (xsx_expr (xex_call ((okX_other_start T).mono (by decide)) hr T.m_other_start T.F_other_start.kp T.b_other_start tk (xa_v (xv 1) (xa_v (xv 2) (xa_v (xv 3) xa_nil))))))
  (xssx_cons (xsx_of (xs_set 5 (xe_idx (XN.xe (xn_lst (xl_cons (xe_tup (xl_cons xe_str (xl_cons (XN.xe (xn_lst xl_nil)) xl_nil))) (xl_cons (xe_tup (xl_cons xe_str (xl_cons xe_int (xl_cons (XN.xe (xn_lst xl_nil)) xl_nil)))) (xl_cons (xe_tup (xl_cons xe_str (xl_cons (XN.xe (xn_lst (xl_cons (xe_tup (xl_cons xe_int (xl_cons xe_int (xl_cons (xe_tup (xl_cons (xe_tup (xl_cons xe_int xl_nil)) (xl_cons xe_bl xl_nil))) xl_nil)))) xl_nil))) xl_nil))) xl_nil))))) (xe_mod (xv 0) xe_int)) sc__law_refused.nd))
  (xssx_one (xsx_expr (xex_call ((okX_other_right T).mono (by decide)) hr T.m_other_right T.F_other_right.kp T.b_other_right tk (xa_v (xv 1) (xa_v (xe_idx (XN.xe (xn_lst (xl_cons xe_str (xl_cons xe_str xl_nil)))) (xe_mod (xv 0) xe_int)) (xa_v (xv 2) (xa_v (xv 3) (xa_v (xv 5) xa_nil)))))))))))))) (fun p pn =>
  (xss_one (xs_set 4 (xv 6) sc__law_refused.nd))))
  (xss_cons (xs_if (xb_w (xw_or (xb_not (xb_val (xe_isO tab_NoHand T.i_NoHand T.m_NoHand T.z_isinstance (xv 4)))) (xw_or1 (xb_not (xb_val (xe_isVE tab_ValueError T.i_ValueError T.z_ValueError T.z_isinstance (xv 4)))))))
  (xss_one (xs_ret xe_bl))
  xss_nil)
  (xss_one (xs_ret (xe_not (xe_isT tabT_0 T.it_0 (.cons T.m_BadClock (.cons T.m_Coarse (.cons T.m_NoSuch .nil))) (by decide) T.z_isinstance (xv 4))))))))
theorem ok_law : FnOk P w K mg base CX0 9 T.f_law T.d_law ["script"] (spF K (g_law w)) :=
  fn_okE (k := 8) (b_law w) 8 1 T.F_law sc_law rfl rfl rfl fun cdv A outer s H E hr =>
  (xss_cons (xs_for PassesOwn.never (xi_seq (xe_call ((ok__law_folded T).mono (by decide)) hr T.m__law_folded T.F__law_folded.kp T.b__law_folded (xa_o 0 (xa_v xe_int xa_nil)))) (xg_name 1 sc_law.nd)
  (xss_cons (xs_setO 2 (xn_call ((ok__law_state T).mono (by decide)) hr T.m__law_state T.F__law_state.kp T.b__law_state (xa_v (xv 1) xa_nil)) sc_law.nd)
  (xss_cons (xs_set 3 (xe_call ((ok__law_small T).mono (by decide)) hr T.m__law_small T.F__law_small.kp T.b__law_small (xa_r 2 xa_nil)) sc_law.nd)
  (xss_cons (xs_set 4 (xe_call ((ok__law_below T).mono (by decide)) hr T.m__law_below T.F__law_below.kp T.b__law_below (xa_r 2 (xa_v (xe_pow xe_int xe_int) xa_nil))) sc_law.nd)
  (xss_cons (xs_set 5 (xe_add xe_int (xe_call ((ok__law_next T).mono (by decide)) hr T.m__law_next T.F__law_next.kp T.b__law_next (xa_r 2 (xa_v xe_int xa_nil)))) sc_law.nd)
  (xss_one (xs_for PassesOwn.never (xi_seq (XN.xe (xn_lst (xl_cons (xe_neg xe_int) (xl_cons (xe_len T.z_len (XE.xo (xe_idx (xv 3) xe_int))) (xl_cons (xe_sub (xe_neg xe_int) (xv 4)) (xl_cons (xe_add (xe_len T.z_len (XE.xo (xe_idx (xv 3) xe_int))) (xv 4)) (xl_cons (xe_sub xe_int (xe_len T.z_len (XE.xo (xe_idx (xv 3) xe_int)))) xl_nil)))))))) (xg_name 6 sc_law.nd)
  (xss_one (xs_if (xb_not (xb_val (xe_all T.z_all (XE.xo (XN.xe (xn_comp (own := [("way", 7)]) (xi_rng1 xe_int T.z_range) sc_law.nd (blkOk_by (N := N_law) (sc := defScope s_law) (by decide +kernel)) (fun _ _ _ _ _ => (xg_name 7 sc_law.nd)) (fun _ _ _ _ _ => xts_nil) (fun _ _ _ _ _ => (xe_call ((ok__law_refused T).mono (by decide)) hr T.m__law_refused T.F__law_refused.kp T.b__law_refused (xa_v (xv 7) (xa_v (xv 3) (xa_v (xv 6) (xa_v (xv 5) xa_nil))))))))))))
  (xss_one (xs_ret xe_bl))
  xss_nil)))))))))
  (xss_one (xs_ret xe_bl)))
end
end Lw

namespace Lw
open PySem PySem.Spec PyProof.Rows L2 M
theorem tx_mk {K : Frg} {h : Heap} {mg : Str → Option Value} (X : K.In h) (G : h.Ns mainGlobals mg)
    {od0 an0 : Option Addr} {sl0 : Array (Option Value)} {oc0 kV0 dc0 pm0 cd0 ct0 : Value} {f0 : Addr}
    (a0 : PySem.W.nsIn K mainGlobals "is_look" = some (some (.ref f0))) (l0 : K.lookup f0 = some ⟨oc0, od0, .func (PySem.W.fnOf "is_look" "is_look" (defArgs s_is_look) (defBody s_is_look) (defScope s_is_look) .none kV0 dc0 pm0 an0 cd0 ct0), sl0⟩) (c0 : PySem.W.codeIn K cd0 "is_look" = true) (k0 : PySem.W.keepIn K (.ref f0) = true)
    {od1 an1 : Option Addr} {sl1 : Array (Option Value)} {oc1 kV1 dc1 pm1 cd1 ct1 : Value} {f1 : Addr}
    (a1 : PySem.W.nsIn K mainGlobals "many_readings" = some (some (.ref f1))) (l1 : K.lookup f1 = some ⟨oc1, od1, .func (PySem.W.fnOf "many_readings" "many_readings" (defArgs s_many_readings) (defBody s_many_readings) (defScope s_many_readings) .none kV1 dc1 pm1 an1 cd1 ct1), sl1⟩) (c1 : PySem.W.codeIn K cd1 "many_readings" = true) (k1 : PySem.W.keepIn K (.ref f1) = true)
    {od2 an2 : Option Addr} {sl2 : Array (Option Value)} {oc2 kV2 dc2 pm2 cd2 ct2 : Value} {f2 : Addr}
    (a2 : PySem.W.nsIn K mainGlobals "hand_asked" = some (some (.ref f2))) (l2 : K.lookup f2 = some ⟨oc2, od2, .func (PySem.W.fnOf "hand_asked" "hand_asked" (defArgs s_hand_asked) (defBody s_hand_asked) (defScope s_hand_asked) .none kV2 dc2 pm2 an2 cd2 ct2), sl2⟩) (c2 : PySem.W.codeIn K cd2 "hand_asked" = true) (k2 : PySem.W.keepIn K (.ref f2) = true)
    {od3 an3 : Option Addr} {sl3 : Array (Option Value)} {oc3 kV3 dc3 pm3 cd3 ct3 : Value} {f3 : Addr}
    (a3 : PySem.W.nsIn K mainGlobals "common_parts" = some (some (.ref f3))) (l3 : K.lookup f3 = some ⟨oc3, od3, .func (PySem.W.fnOf "common_parts" "common_parts" (defArgs s_common_parts) (defBody s_common_parts) (defScope s_common_parts) .none kV3 dc3 pm3 an3 cd3 ct3), sl3⟩) (c3 : PySem.W.codeIn K cd3 "common_parts" = true) (k3 : PySem.W.keepIn K (.ref f3) = true)
    {od4 an4 : Option Addr} {sl4 : Array (Option Value)} {oc4 kV4 dc4 pm4 cd4 ct4 : Value} {f4 : Addr}
    (a4 : PySem.W.nsIn K mainGlobals "swaps_of" = some (some (.ref f4))) (l4 : K.lookup f4 = some ⟨oc4, od4, .func (PySem.W.fnOf "swaps_of" "swaps_of" (defArgs s_swaps_of) (defBody s_swaps_of) (defScope s_swaps_of) .none kV4 dc4 pm4 an4 cd4 ct4), sl4⟩) (c4 : PySem.W.codeIn K cd4 "swaps_of" = true) (k4 : PySem.W.keepIn K (.ref f4) = true)
    {od5 an5 : Option Addr} {sl5 : Array (Option Value)} {oc5 kV5 dc5 pm5 cd5 ct5 : Value} {f5 : Addr}
    (a5 : PySem.W.nsIn K mainGlobals "rows_of" = some (some (.ref f5))) (l5 : K.lookup f5 = some ⟨oc5, od5, .func (PySem.W.fnOf "rows_of" "rows_of" (defArgs s_rows_of) (defBody s_rows_of) (defScope s_rows_of) .none kV5 dc5 pm5 an5 cd5 ct5), sl5⟩) (c5 : PySem.W.codeIn K cd5 "rows_of" = true) (k5 : PySem.W.keepIn K (.ref f5) = true)
    {od6 an6 : Option Addr} {sl6 : Array (Option Value)} {oc6 kV6 dc6 pm6 cd6 ct6 : Value} {f6 : Addr}
    (a6 : PySem.W.nsIn K mainGlobals "times_all" = some (some (.ref f6))) (l6 : K.lookup f6 = some ⟨oc6, od6, .func (PySem.W.fnOf "times_all" "times_all" (defArgs s_times_all) (defBody s_times_all) (defScope s_times_all) .none kV6 dc6 pm6 an6 cd6 ct6), sl6⟩) (c6 : PySem.W.codeIn K cd6 "times_all" = true) (k6 : PySem.W.keepIn K (.ref f6) = true)
    {od7 an7 : Option Addr} {sl7 : Array (Option Value)} {oc7 kV7 dc7 pm7 cd7 ct7 : Value} {f7 : Addr}
    (a7 : PySem.W.nsIn K mainGlobals "_law_cell_at" = some (some (.ref f7))) (l7 : K.lookup f7 = some ⟨oc7, od7, .func (PySem.W.fnOf "_law_cell_at" "_law_cell_at" (defArgs s__law_cell_at) (defBody s__law_cell_at) (defScope s__law_cell_at) .none kV7 dc7 pm7 an7 cd7 ct7), sl7⟩) (c7 : PySem.W.codeIn K cd7 "_law_cell_at" = true) (k7 : PySem.W.keepIn K (.ref f7) = true)
    {od8 an8 : Option Addr} {sl8 : Array (Option Value)} {oc8 kV8 dc8 pm8 cd8 ct8 : Value} {f8 : Addr}
    (a8 : PySem.W.nsIn K mainGlobals "_law_state" = some (some (.ref f8))) (l8 : K.lookup f8 = some ⟨oc8, od8, .func (PySem.W.fnOf "_law_state" "_law_state" (defArgs s__law_state) (defBody s__law_state) (defScope s__law_state) .none kV8 dc8 pm8 an8 cd8 ct8), sl8⟩) (c8 : PySem.W.codeIn K cd8 "_law_state" = true) (k8 : PySem.W.keepIn K (.ref f8) = true)
    {od9 an9 : Option Addr} {sl9 : Array (Option Value)} {oc9 kV9 dc9 pm9 cd9 ct9 : Value} {f9 : Addr}
    (a9 : PySem.W.nsIn K mainGlobals "_law_next" = some (some (.ref f9))) (l9 : K.lookup f9 = some ⟨oc9, od9, .func (PySem.W.fnOf "_law_next" "_law_next" (defArgs s__law_next) (defBody s__law_next) (defScope s__law_next) .none kV9 dc9 pm9 an9 cd9 ct9), sl9⟩) (c9 : PySem.W.codeIn K cd9 "_law_next" = true) (k9 : PySem.W.keepIn K (.ref f9) = true)
    {od10 an10 : Option Addr} {sl10 : Array (Option Value)} {oc10 kV10 dc10 pm10 cd10 ct10 : Value} {f10 : Addr}
    (a10 : PySem.W.nsIn K mainGlobals "made_clock" = some (some (.ref f10))) (l10 : K.lookup f10 = some ⟨oc10, od10, .func (PySem.W.fnOf "made_clock" "made_clock" (defArgs s_made_clock) (defBody s_made_clock) (defScope s_made_clock) .none kV10 dc10 pm10 an10 cd10 ct10), sl10⟩) (c10 : PySem.W.codeIn K cd10 "made_clock" = true) (k10 : PySem.W.keepIn K (.ref f10) = true)
    {od11 an11 : Option Addr} {sl11 : Array (Option Value)} {oc11 kV11 dc11 pm11 cd11 ct11 : Value} {f11 : Addr}
    (a11 : PySem.W.nsIn K mainGlobals "with_hand" = some (some (.ref f11))) (l11 : K.lookup f11 = some ⟨oc11, od11, .func (PySem.W.fnOf "with_hand" "with_hand" (defArgs s_with_hand) (defBody s_with_hand) (defScope s_with_hand) .none kV11 dc11 pm11 an11 cd11 ct11), sl11⟩) (c11 : PySem.W.codeIn K cd11 "with_hand" = true) (k11 : PySem.W.keepIn K (.ref f11) = true)
    {od12 an12 : Option Addr} {sl12 : Array (Option Value)} {oc12 kV12 dc12 pm12 cd12 ct12 : Value} {f12 : Addr}
    (a12 : PySem.W.nsIn K mainGlobals "weights_of" = some (some (.ref f12))) (l12 : K.lookup f12 = some ⟨oc12, od12, .func (PySem.W.fnOf "weights_of" "weights_of" (defArgs s_weights_of) (defBody s_weights_of) (defScope s_weights_of) .none kV12 dc12 pm12 an12 cd12 ct12), sl12⟩) (c12 : PySem.W.codeIn K cd12 "weights_of" = true) (k12 : PySem.W.keepIn K (.ref f12) = true)
    {od13 an13 : Option Addr} {sl13 : Array (Option Value)} {oc13 kV13 dc13 pm13 cd13 ct13 : Value} {f13 : Addr}
    (a13 : PySem.W.nsIn K mainGlobals "readings_of" = some (some (.ref f13))) (l13 : K.lookup f13 = some ⟨oc13, od13, .func (PySem.W.fnOf "readings_of" "readings_of" (defArgs s_readings_of) (defBody s_readings_of) (defScope s_readings_of) .none kV13 dc13 pm13 an13 cd13 ct13), sl13⟩) (c13 : PySem.W.codeIn K cd13 "readings_of" = true) (k13 : PySem.W.keepIn K (.ref f13) = true)
    {od14 an14 : Option Addr} {sl14 : Array (Option Value)} {oc14 kV14 dc14 pm14 cd14 ct14 : Value} {f14 : Addr}
    (a14 : PySem.W.nsIn K mainGlobals "is_taken" = some (some (.ref f14))) (l14 : K.lookup f14 = some ⟨oc14, od14, .func (PySem.W.fnOf "is_taken" "is_taken" (defArgs s_is_taken) (defBody s_is_taken) (defScope s_is_taken) .none kV14 dc14 pm14 an14 cd14 ct14), sl14⟩) (c14 : PySem.W.codeIn K cd14 "is_taken" = true) (k14 : PySem.W.keepIn K (.ref f14) = true)
    {od15 an15 : Option Addr} {sl15 : Array (Option Value)} {oc15 kV15 dc15 pm15 cd15 ct15 : Value} {f15 : Addr}
    (a15 : PySem.W.nsIn K mainGlobals "put_together" = some (some (.ref f15))) (l15 : K.lookup f15 = some ⟨oc15, od15, .func (PySem.W.fnOf "put_together" "put_together" (defArgs s_put_together) (defBody s_put_together) (defScope s_put_together) .none kV15 dc15 pm15 an15 cd15 ct15), sl15⟩) (c15 : PySem.W.codeIn K cd15 "put_together" = true) (k15 : PySem.W.keepIn K (.ref f15) = true)
    {od16 an16 : Option Addr} {sl16 : Array (Option Value)} {oc16 kV16 dc16 pm16 cd16 ct16 : Value} {f16 : Addr}
    (a16 : PySem.W.nsIn K mainGlobals "_law_folded" = some (some (.ref f16))) (l16 : K.lookup f16 = some ⟨oc16, od16, .func (PySem.W.fnOf "_law_folded" "_law_folded" (defArgs s__law_folded) (defBody s__law_folded) (defScope s__law_folded) .none kV16 dc16 pm16 an16 cd16 ct16), sl16⟩) (c16 : PySem.W.codeIn K cd16 "_law_folded" = true) (k16 : PySem.W.keepIn K (.ref f16) = true)
    {od17 an17 : Option Addr} {sl17 : Array (Option Value)} {oc17 kV17 dc17 pm17 cd17 ct17 : Value} {f17 : Addr}
    (a17 : PySem.W.nsIn K mainGlobals "_law_below" = some (some (.ref f17))) (l17 : K.lookup f17 = some ⟨oc17, od17, .func (PySem.W.fnOf "_law_below" "_law_below" (defArgs s__law_below) (defBody s__law_below) (defScope s__law_below) .none kV17 dc17 pm17 an17 cd17 ct17), sl17⟩) (c17 : PySem.W.codeIn K cd17 "_law_below" = true) (k17 : PySem.W.keepIn K (.ref f17) = true)
    {od18 an18 : Option Addr} {sl18 : Array (Option Value)} {oc18 kV18 dc18 pm18 cd18 ct18 : Value} {f18 : Addr}
    (a18 : PySem.W.nsIn K mainGlobals "_law_looks" = some (some (.ref f18))) (l18 : K.lookup f18 = some ⟨oc18, od18, .func (PySem.W.fnOf "_law_looks" "_law_looks" (defArgs s__law_looks) (defBody s__law_looks) (defScope s__law_looks) .none kV18 dc18 pm18 an18 cd18 ct18), sl18⟩) (c18 : PySem.W.codeIn K cd18 "_law_looks" = true) (k18 : PySem.W.keepIn K (.ref f18) = true)
    {od19 an19 : Option Addr} {sl19 : Array (Option Value)} {oc19 kV19 dc19 pm19 cd19 ct19 : Value} {f19 : Addr}
    (a19 : PySem.W.nsIn K mainGlobals "cleared_of" = some (some (.ref f19))) (l19 : K.lookup f19 = some ⟨oc19, od19, .func (PySem.W.fnOf "cleared_of" "cleared_of" (defArgs s_cleared_of) (defBody s_cleared_of) (defScope s_cleared_of) .none kV19 dc19 pm19 an19 cd19 ct19), sl19⟩) (c19 : PySem.W.codeIn K cd19 "cleared_of" = true) (k19 : PySem.W.keepIn K (.ref f19) = true)
    {od20 an20 : Option Addr} {sl20 : Array (Option Value)} {oc20 kV20 dc20 pm20 cd20 ct20 : Value} {f20 : Addr}
    (a20 : PySem.W.nsIn K mainGlobals "changed_by" = some (some (.ref f20))) (l20 : K.lookup f20 = some ⟨oc20, od20, .func (PySem.W.fnOf "changed_by" "changed_by" (defArgs s_changed_by) (defBody s_changed_by) (defScope s_changed_by) .none kV20 dc20 pm20 an20 cd20 ct20), sl20⟩) (c20 : PySem.W.codeIn K cd20 "changed_by" = true) (k20 : PySem.W.keepIn K (.ref f20) = true)
    {od21 an21 : Option Addr} {sl21 : Array (Option Value)} {oc21 kV21 dc21 pm21 cd21 ct21 : Value} {f21 : Addr}
    (a21 : PySem.W.nsIn K mainGlobals "is_doubt" = some (some (.ref f21))) (l21 : K.lookup f21 = some ⟨oc21, od21, .func (PySem.W.fnOf "is_doubt" "is_doubt" (defArgs s_is_doubt) (defBody s_is_doubt) (defScope s_is_doubt) .none kV21 dc21 pm21 an21 cd21 ct21), sl21⟩) (c21 : PySem.W.codeIn K cd21 "is_doubt" = true) (k21 : PySem.W.keepIn K (.ref f21) = true)
    {od22 an22 : Option Addr} {sl22 : Array (Option Value)} {oc22 kV22 dc22 pm22 cd22 ct22 : Value} {f22 : Addr}
    (a22 : PySem.W.nsIn K mainGlobals "_law_clock" = some (some (.ref f22))) (l22 : K.lookup f22 = some ⟨oc22, od22, .func (PySem.W.fnOf "_law_clock" "_law_clock" (defArgs s__law_clock) (defBody s__law_clock) (defScope s__law_clock) .none kV22 dc22 pm22 an22 cd22 ct22), sl22⟩) (c22 : PySem.W.codeIn K cd22 "_law_clock" = true) (k22 : PySem.W.keepIn K (.ref f22) = true)
    {od23 an23 : Option Addr} {sl23 : Array (Option Value)} {oc23 kV23 dc23 pm23 cd23 ct23 : Value} {f23 : Addr}
    (a23 : PySem.W.nsIn K mainGlobals "reading_doubt" = some (some (.ref f23))) (l23 : K.lookup f23 = some ⟨oc23, od23, .func (PySem.W.fnOf "reading_doubt" "reading_doubt" (defArgs s_reading_doubt) (defBody s_reading_doubt) (defScope s_reading_doubt) .none kV23 dc23 pm23 an23 cd23 ct23), sl23⟩) (c23 : PySem.W.codeIn K cd23 "reading_doubt" = true) (k23 : PySem.W.keepIn K (.ref f23) = true)
    {od24 an24 : Option Addr} {sl24 : Array (Option Value)} {oc24 kV24 dc24 pm24 cd24 ct24 : Value} {f24 : Addr}
    (a24 : PySem.W.nsIn K mainGlobals "_law_small" = some (some (.ref f24))) (l24 : K.lookup f24 = some ⟨oc24, od24, .func (PySem.W.fnOf "_law_small" "_law_small" (defArgs s__law_small) (defBody s__law_small) (defScope s__law_small) .none kV24 dc24 pm24 an24 cd24 ct24), sl24⟩) (c24 : PySem.W.codeIn K cd24 "_law_small" = true) (k24 : PySem.W.keepIn K (.ref f24) = true)
    {od25 an25 : Option Addr} {sl25 : Array (Option Value)} {oc25 kV25 dc25 pm25 cd25 ct25 : Value} {f25 : Addr}
    (a25 : PySem.W.nsIn K mainGlobals "whole_paper" = some (some (.ref f25))) (l25 : K.lookup f25 = some ⟨oc25, od25, .func (PySem.W.fnOf "whole_paper" "whole_paper" (defArgs s_whole_paper) (defBody s_whole_paper) (defScope s_whole_paper) .none kV25 dc25 pm25 an25 cd25 ct25), sl25⟩) (c25 : PySem.W.codeIn K cd25 "whole_paper" = true) (k25 : PySem.W.keepIn K (.ref f25) = true)
    {od26 an26 : Option Addr} {sl26 : Array (Option Value)} {oc26 kV26 dc26 pm26 cd26 ct26 : Value} {f26 : Addr}
    (a26 : PySem.W.nsIn K mainGlobals "other_by" = some (some (.ref f26))) (l26 : K.lookup f26 = some ⟨oc26, od26, .func (PySem.W.fnOf "other_by" "other_by" (defArgs s_other_by) (defBody s_other_by) (defScope s_other_by) .none kV26 dc26 pm26 an26 cd26 ct26), sl26⟩) (c26 : PySem.W.codeIn K cd26 "other_by" = true) (k26 : PySem.W.keepIn K (.ref f26) = true)
    {od27 an27 : Option Addr} {sl27 : Array (Option Value)} {oc27 kV27 dc27 pm27 cd27 ct27 : Value} {f27 : Addr}
    (a27 : PySem.W.nsIn K mainGlobals "other_right" = some (some (.ref f27))) (l27 : K.lookup f27 = some ⟨oc27, od27, .func (PySem.W.fnOf "other_right" "other_right" (defArgs s_other_right) (defBody s_other_right) (defScope s_other_right) .none kV27 dc27 pm27 an27 cd27 ct27), sl27⟩) (c27 : PySem.W.codeIn K cd27 "other_right" = true) (k27 : PySem.W.keepIn K (.ref f27) = true)
    {od28 an28 : Option Addr} {sl28 : Array (Option Value)} {oc28 kV28 dc28 pm28 cd28 ct28 : Value} {f28 : Addr}
    (a28 : PySem.W.nsIn K mainGlobals "other_gear" = some (some (.ref f28))) (l28 : K.lookup f28 = some ⟨oc28, od28, .func (PySem.W.fnOf "other_gear" "other_gear" (defArgs s_other_gear) (defBody s_other_gear) (defScope s_other_gear) .none kV28 dc28 pm28 an28 cd28 ct28), sl28⟩) (c28 : PySem.W.codeIn K cd28 "other_gear" = true) (k28 : PySem.W.keepIn K (.ref f28) = true)
    {od29 an29 : Option Addr} {sl29 : Array (Option Value)} {oc29 kV29 dc29 pm29 cd29 ct29 : Value} {f29 : Addr}
    (a29 : PySem.W.nsIn K mainGlobals "other_start" = some (some (.ref f29))) (l29 : K.lookup f29 = some ⟨oc29, od29, .func (PySem.W.fnOf "other_start" "other_start" (defArgs s_other_start) (defBody s_other_start) (defScope s_other_start) .none kV29 dc29 pm29 an29 cd29 ct29), sl29⟩) (c29 : PySem.W.codeIn K cd29 "other_start" = true) (k29 : PySem.W.keepIn K (.ref f29) = true)
    {od30 an30 : Option Addr} {sl30 : Array (Option Value)} {oc30 kV30 dc30 pm30 cd30 ct30 : Value} {f30 : Addr}
    (a30 : PySem.W.nsIn K mainGlobals "_law_refused" = some (some (.ref f30))) (l30 : K.lookup f30 = some ⟨oc30, od30, .func (PySem.W.fnOf "_law_refused" "_law_refused" (defArgs s__law_refused) (defBody s__law_refused) (defScope s__law_refused) .none kV30 dc30 pm30 an30 cd30 ct30), sl30⟩) (c30 : PySem.W.codeIn K cd30 "_law_refused" = true) (k30 : PySem.W.keepIn K (.ref f30) = true)
    {od31 an31 : Option Addr} {sl31 : Array (Option Value)} {oc31 kV31 dc31 pm31 cd31 ct31 : Value} {f31 : Addr}
    (a31 : PySem.W.nsIn K mainGlobals "law" = some (some (.ref f31))) (l31 : K.lookup f31 = some ⟨oc31, od31, .func (PySem.W.fnOf "law" "law" (defArgs s_law) (defBody s_law) (defScope s_law) .none kV31 dc31 pm31 an31 cd31 ct31), sl31⟩) (c31 : PySem.W.codeIn K cd31 "law" = true) (k31 : PySem.W.keepIn K (.ref f31) = true)
    {t0 : Tok} (v0 : PySem.W.nsIn K mainGlobals "LETTERS" = some (some (.str "abcdefghijklmnopqrstuvwxyz" t0)))
    {t1 : Tok} (v1 : PySem.W.nsIn K mainGlobals "MOST_HANDS" = some (some (.int (5) t1)))
    {t2 : Tok} (v2 : PySem.W.nsIn K mainGlobals "MOST_MARKS" = some (some (.int (1000000000000000000000000000000000000000000000000000000000000) t2)))
    {t3 : Tok} (v3 : PySem.W.nsIn K mainGlobals "MOST_READINGS" = some (some (.int (6) t3)))
    (z0 : PySem.W.nsIn K mainGlobals "ValueError" = some none)
    (z1 : PySem.W.nsIn K mainGlobals "all" = some none)
    (z2 : PySem.W.nsIn K mainGlobals "enumerate" = some none)
    (z3 : PySem.W.nsIn K mainGlobals "int" = some none)
    (z4 : PySem.W.nsIn K mainGlobals "isinstance" = some none)
    (z5 : PySem.W.nsIn K mainGlobals "len" = some none)
    (z6 : PySem.W.nsIn K mainGlobals "list" = some none)
    (z7 : PySem.W.nsIn K mainGlobals "range" = some none)
    (z8 : PySem.W.nsIn K mainGlobals "sum" = some none)
    (z9 : PySem.W.nsIn K mainGlobals "tuple" = some none)
    (z10 : PySem.W.nsIn K mainGlobals "zip" = some none)
    (X_m_BadClock : PySem.W.nsIn K mainGlobals "BadClock" = some (some (.ref C_BadClock)))
    (X_m_Coarse : PySem.W.nsIn K mainGlobals "Coarse" = some (some (.ref C_Coarse)))
    (X_m_DoubtError : PySem.W.nsIn K mainGlobals "DoubtError" = some (some (.ref C_DoubtError)))
    (X_m_NoHand : PySem.W.nsIn K mainGlobals "NoHand" = some (some (.ref C_NoHand)))
    (X_m_NoSuch : PySem.W.nsIn K mainGlobals "NoSuch" = some (some (.ref C_NoSuch)))
    (X_x_NoHand : PySem.W.excIn K C_NoHand [.type "ValueError", .type "Exception", .type "BaseException", .type "object"] "ValueError.__new__" = true)
    (X_k_NoHand : PySem.W.keepIn K (.ref C_NoHand) = true)
    (X_hg_NoHand : PySem.W.findIn K (.ref C_NoHand) "__getattribute__" = some (some (.builtin "BaseException.__getattribute__")))
    (X_hk_NoHand : PySem.W.findIn K (.ref C_NoHand) "__getattr__" = some none)
    (X_ha_NoHand : PySem.W.findIn K (.ref C_NoHand) "__class__" = some (some (.builtin "object.__class__")))
    (X_hm_NoHand : PySem.W.mroIn K C_NoHand (.type "object") = some true)
    (X_hn_ : PySem.W.specialIn K (.builtin "object.__class__") "__get__" = some (some (.builtin "getset_descriptor.__get__")))
    (X_ht_ : PySem.W.takesIn K (.builtin "object.__class__") = some true)
    (X_b_DoubtError : PySem.W.subIn K (.ref C_DoubtError) (.type "BaseException") = some true)
    (X_hd_DoubtError : PySem.W.hasDictIn K C_DoubtError = true)
    (X_b_NoHand : PySem.W.subIn K (.ref C_NoHand) (.type "BaseException") = some true)
    (X_hd_NoHand : PySem.W.hasDictIn K C_NoHand = true)
    (X_ty_BadClock : PySem.W.typeIn K (.ref C_BadClock) = some (.type "type"))
    (X_ty_Coarse : PySem.W.typeIn K (.ref C_Coarse) = some (.type "type"))
    (X_ty_DoubtError : PySem.W.typeIn K (.ref C_DoubtError) = some (.type "type"))
    (X_ty_NoHand : PySem.W.typeIn K (.ref C_NoHand) = some (.type "type"))
    (X_ty_NoSuch : PySem.W.typeIn K (.ref C_NoSuch) = some (.type "type"))
    (X_ic_BadClock : PySem.W.isClsIn K C_BadClock = true)
    (X_sn_BadClock : PySem.W.subIn K (.type "NoneType") (.ref C_BadClock) = some false)
    (X_ic_Coarse : PySem.W.isClsIn K C_Coarse = true)
    (X_sn_Coarse : PySem.W.subIn K (.type "NoneType") (.ref C_Coarse) = some false)
    (X_ic_NoHand : PySem.W.isClsIn K C_NoHand = true)
    (X_sn_NoHand : PySem.W.subIn K (.type "NoneType") (.ref C_NoHand) = some false)
    (X_ic_NoSuch : PySem.W.isClsIn K C_NoSuch = true)
    (X_sn_NoSuch : PySem.W.subIn K (.type "NoneType") (.ref C_NoSuch) = some false)
    (X_sn_ValueError : PySem.W.subIn K (.type "NoneType") (.type "ValueError") = some false)
    (X_s_NoHand_BadClock : PySem.W.subIn K (.ref C_NoHand) (.ref C_BadClock) = some false)
    (X_s_NoHand_Coarse : PySem.W.subIn K (.ref C_NoHand) (.ref C_Coarse) = some false)
    (X_s_NoHand_DoubtError : PySem.W.subIn K (.ref C_NoHand) (.ref C_DoubtError) = some true)
    (X_s_NoHand_NoSuch : PySem.W.subIn K (.ref C_NoHand) (.ref C_NoSuch) = some false)
    (X_s_NoHand_ValueError : PySem.W.subIn K (.ref C_NoHand) (.type "ValueError") = some true) :
    ∃ T : Tx K mg, T.f_law = f31 ∧ T.d_law = PySem.W.fnOf "law" "law" (defArgs s_law) (defBody s_law) (defScope s_law) .none kV31 dc31 pm31 an31 cd31 ct31 := by
  have F0 := fun_mk (st := s_is_look) l0 c0 k0
  have B0 := F0.binds (ps := ["text"]) fun _ _ _ _ _ _ us hl => match us, hl with | [_], _ => rfl
  have F1 := fun_mk (st := s_many_readings) l1 c1 k1
  have B1 := F1.binds (ps := ["hands", "mirror"]) fun _ _ _ _ _ _ us hl => match us, hl with | [_, _], _ => rfl
  have F2 := fun_mk (st := s_hand_asked) l2 c2 k2
  have B2 := F2.binds (ps := ["clock", "hand"]) fun _ _ _ _ _ _ us hl => match us, hl with | [_, _], _ => rfl
  have F3 := fun_mk (st := s_common_parts) l3 c3 k3
  have B3 := F3.binds (ps := ["one", "other"]) fun _ _ _ _ _ _ us hl => match us, hl with | [_, _], _ => rfl
  have F4 := fun_mk (st := s_swaps_of) l4 c4 k4
  have B4 := F4.binds (ps := ["hands"]) fun _ _ _ _ _ _ us hl => match us, hl with | [_], _ => rfl
  have F5 := fun_mk (st := s_rows_of) l5 c5 k5
  have B5 := F5.binds (ps := ["clock", "reading"]) fun _ _ _ _ _ _ us hl => match us, hl with | [_, _], _ => rfl
  have F6 := fun_mk (st := s_times_all) l6 c6 k6
  have B6 := F6.binds (ps := ["multipliers", "numbers"]) fun _ _ _ _ _ _ us hl => match us, hl with | [_, _], _ => rfl
  have F7 := fun_mk (st := s__law_cell_at) l7 c7 k7
  have B7 := F7.binds (ps := ["script", "k"]) fun _ _ _ _ _ _ us hl => match us, hl with | [_, _], _ => rfl
  have F8 := fun_mk (st := s__law_state) l8 c8 k8
  have B8 := F8.binds (ps := ["cell"]) fun _ _ _ _ _ _ us hl => match us, hl with | [_], _ => rfl
  have F9 := fun_mk (st := s__law_next) l9 c9 k9
  have B9 := F9.binds (ps := ["state", "many"]) fun _ _ _ _ _ _ us hl => match us, hl with | [_, _], _ => rfl
  have F10 := fun_mk (st := s_made_clock) l10 c10 k10
  have B10 := F10.binds (ps := ["many", "hands", "blank", "mirror"]) fun _ _ _ _ _ _ us hl => match us, hl with | [_, _, _, _], _ => rfl
  have F11 := fun_mk (st := s_with_hand) l11 c11 k11
  have B11 := F11.binds (ps := ["clock", "hand", "gear", "start"]) fun _ _ _ _ _ _ us hl => match us, hl with | [_, _, _, _], _ => rfl
  have F12 := fun_mk (st := s_weights_of) l12 c12 k12
  have B12 := F12.binds (ps := ["many", "numbers"]) fun _ _ _ _ _ _ us hl => match us, hl with | [_, _], _ => rfl
  have F13 := fun_mk (st := s_readings_of) l13 c13 k13
  have B13 := F13.binds (ps := ["clock"]) fun _ _ _ _ _ _ us hl => match us, hl with | [_], _ => rfl
  have F14 := fun_mk (st := s_is_taken) l14 c14 k14
  have B14 := F14.binds (ps := ["clock", "reading", "tick", "other"]) fun _ _ _ _ _ _ us hl => match us, hl with | [_, _, _, _], _ => rfl
  have F15 := fun_mk (st := s_put_together) l15 c15 k15
  have B15 := F15.binds (ps := ["many", "row", "rows"]) fun _ _ _ _ _ _ us hl => match us, hl with | [_, _, _], _ => rfl
  have F16 := fun_mk (st := s__law_folded) l16 c16 k16
  have B16 := F16.binds (ps := ["script", "many"]) fun _ _ _ _ _ _ us hl => match us, hl with | [_, _], _ => rfl
  have F17 := fun_mk (st := s__law_below) l17 c17 k17
  have B17 := F17.binds (ps := ["state", "top"]) fun _ _ _ _ _ _ us hl => match us, hl with | [_, _], _ => rfl
  have F18 := fun_mk (st := s__law_looks) l18 c18 k18
  have B18 := F18.binds (ps := ["state", "count", "mirror"]) fun _ _ _ _ _ _ us hl => match us, hl with | [_, _, _], _ => rfl
  have F19 := fun_mk (st := s_cleared_of) l19 c19 k19
  have B19 := F19.binds (ps := ["many", "numbers"]) fun _ _ _ _ _ _ us hl => match us, hl with | [_, _], _ => rfl
  have F20 := fun_mk (st := s_changed_by) l20 c20 k20
  have B20 := F20.binds (ps := ["clock", "kind", "hand", "more"]) fun _ _ _ _ _ _ us hl => match us, hl with | [_, _, _, _], _ => rfl
  have F21 := fun_mk (st := s_is_doubt) l21 c21 k21
  have B21 := F21.binds (ps := ["clock", "doubt"]) fun _ _ _ _ _ _ us hl => match us, hl with | [_, _], _ => rfl
  have F22 := fun_mk (st := s__law_clock) l22 c22 k22
  have B22 := F22.binds (ps := ["state", "many"]) fun _ _ _ _ _ _ us hl => match us, hl with | [_, _], _ => rfl
  have F23 := fun_mk (st := s_reading_doubt) l23 c23 k23
  have B23 := F23.binds (ps := ["many", "rows"]) fun _ _ _ _ _ _ us hl => match us, hl with | [_, _], _ => rfl
  have F24 := fun_mk (st := s__law_small) l24 c24 k24
  have B24 := F24.binds (ps := ["state"]) fun _ _ _ _ _ _ us hl => match us, hl with | [_], _ => rfl
  have F25 := fun_mk (st := s_whole_paper) l25 c25 k25
  have B25 := F25.binds (ps := ["clock"]) fun _ _ _ _ _ _ us hl => match us, hl with | [_], _ => rfl
  have F26 := fun_mk (st := s_other_by) l26 c26 k26
  have B26 := F26.binds (ps := ["clock", "kind", "hand", "tries"]) fun _ _ _ _ _ _ us hl => match us, hl with | [_, _, _, _], _ => rfl
  have F27 := fun_mk (st := s_other_right) l27 c27 k27
  have B27 := F27.binds (ps := ["clock", "kind", "hand", "tries", "told"]) fun _ _ _ _ _ _ us hl => match us, hl with | [_, _, _, _, _], _ => rfl
  have F28 := fun_mk (st := s_other_gear) l28 c28 k28
  have B28 := F28.binds (ps := ["clock", "hand", "tries"]) fun _ _ _ _ _ _ us hl => match us, hl with | [_, _, _], _ => rfl
  have F29 := fun_mk (st := s_other_start) l29 c29 k29
  have B29 := F29.binds (ps := ["clock", "hand", "tries"]) fun _ _ _ _ _ _ us hl => match us, hl with | [_, _, _], _ => rfl
  have F30 := fun_mk (st := s__law_refused) l30 c30 k30
  have B30 := F30.binds (ps := ["way", "clock", "hand", "tries"]) fun _ _ _ _ _ _ us hl => match us, hl with | [_, _, _, _], _ => rfl
  have F31 := fun_mk (st := s_law) l31 c31 k31
  have B31 := F31.binds (ps := ["script"]) fun _ _ _ _ _ _ us hl => match us, hl with | [_], _ => rfl
  exact ⟨{ f_is_look := _, d_is_look := _, F_is_look := F0, m_is_look := PySem.W.mg_of X G a0, b_is_look := B0, f_many_readings := _, d_many_readings := _, F_many_readings := F1, m_many_readings := PySem.W.mg_of X G a1, b_many_readings := B1, f_hand_asked := _, d_hand_asked := _, F_hand_asked := F2, m_hand_asked := PySem.W.mg_of X G a2, b_hand_asked := B2, f_common_parts := _, d_common_parts := _, F_common_parts := F3, m_common_parts := PySem.W.mg_of X G a3, b_common_parts := B3, f_swaps_of := _, d_swaps_of := _, F_swaps_of := F4, m_swaps_of := PySem.W.mg_of X G a4, b_swaps_of := B4, f_rows_of := _, d_rows_of := _, F_rows_of := F5, m_rows_of := PySem.W.mg_of X G a5, b_rows_of := B5, f_times_all := _, d_times_all := _, F_times_all := F6, m_times_all := PySem.W.mg_of X G a6, b_times_all := B6, f__law_cell_at := _, d__law_cell_at := _, F__law_cell_at := F7, m__law_cell_at := PySem.W.mg_of X G a7, b__law_cell_at := B7, f__law_state := _, d__law_state := _, F__law_state := F8, m__law_state := PySem.W.mg_of X G a8, b__law_state := B8, f__law_next := _, d__law_next := _, F__law_next := F9, m__law_next := PySem.W.mg_of X G a9, b__law_next := B9, f_made_clock := _, d_made_clock := _, F_made_clock := F10, m_made_clock := PySem.W.mg_of X G a10, b_made_clock := B10, f_with_hand := _, d_with_hand := _, F_with_hand := F11, m_with_hand := PySem.W.mg_of X G a11, b_with_hand := B11, f_weights_of := _, d_weights_of := _, F_weights_of := F12, m_weights_of := PySem.W.mg_of X G a12, b_weights_of := B12, f_readings_of := _, d_readings_of := _, F_readings_of := F13, m_readings_of := PySem.W.mg_of X G a13, b_readings_of := B13, f_is_taken := _, d_is_taken := _, F_is_taken := F14, m_is_taken := PySem.W.mg_of X G a14, b_is_taken := B14, f_put_together := _, d_put_together := _, F_put_together := F15, m_put_together := PySem.W.mg_of X G a15, b_put_together := B15, f__law_folded := _, d__law_folded := _, F__law_folded := F16, m__law_folded := PySem.W.mg_of X G a16, b__law_folded := B16, f__law_below := _, d__law_below := _, F__law_below := F17, m__law_below := PySem.W.mg_of X G a17, b__law_below := B17, f__law_looks := _, d__law_looks := _, F__law_looks := F18, m__law_looks := PySem.W.mg_of X G a18, b__law_looks := B18, f_cleared_of := _, d_cleared_of := _, F_cleared_of := F19, m_cleared_of := PySem.W.mg_of X G a19, b_cleared_of := B19, f_changed_by := _, d_changed_by := _, F_changed_by := F20, m_changed_by := PySem.W.mg_of X G a20, b_changed_by := B20, f_is_doubt := _, d_is_doubt := _, F_is_doubt := F21, m_is_doubt := PySem.W.mg_of X G a21, b_is_doubt := B21, f__law_clock := _, d__law_clock := _, F__law_clock := F22, m__law_clock := PySem.W.mg_of X G a22, b__law_clock := B22, f_reading_doubt := _, d_reading_doubt := _, F_reading_doubt := F23, m_reading_doubt := PySem.W.mg_of X G a23, b_reading_doubt := B23, f__law_small := _, d__law_small := _, F__law_small := F24, m__law_small := PySem.W.mg_of X G a24, b__law_small := B24, f_whole_paper := _, d_whole_paper := _, F_whole_paper := F25, m_whole_paper := PySem.W.mg_of X G a25, b_whole_paper := B25, f_other_by := _, d_other_by := _, F_other_by := F26, m_other_by := PySem.W.mg_of X G a26, b_other_by := B26, f_other_right := _, d_other_right := _, F_other_right := F27, m_other_right := PySem.W.mg_of X G a27, b_other_right := B27, f_other_gear := _, d_other_gear := _, F_other_gear := F28, m_other_gear := PySem.W.mg_of X G a28, b_other_gear := B28, f_other_start := _, d_other_start := _, F_other_start := F29, m_other_start := PySem.W.mg_of X G a29, b_other_start := B29, f__law_refused := _, d__law_refused := _, F__law_refused := F30, m__law_refused := PySem.W.mg_of X G a30, b__law_refused := B30, f_law := _, d_law := _, F_law := F31, m_law := PySem.W.mg_of X G a31, b_law := B31, t_LETTERS := _, m_LETTERS := PySem.W.mg_of X G v0, t_MOST_HANDS := _, m_MOST_HANDS := PySem.W.mg_of X G v1, t_MOST_MARKS := _, m_MOST_MARKS := PySem.W.mg_of X G v2, t_MOST_READINGS := _, m_MOST_READINGS := PySem.W.mg_of X G v3, z_ValueError := PySem.W.mg_none_of X G z0, z_all := PySem.W.mg_none_of X G z1, z_enumerate := PySem.W.mg_none_of X G z2, z_int := PySem.W.mg_none_of X G z3, z_isinstance := PySem.W.mg_none_of X G z4, z_len := PySem.W.mg_none_of X G z5, z_list := PySem.W.mg_none_of X G z6, z_range := PySem.W.mg_none_of X G z7, z_sum := PySem.W.mg_none_of X G z8, z_tuple := PySem.W.mg_none_of X G z9, z_zip := PySem.W.mg_none_of X G z10, m_BadClock := PySem.W.mg_of X G X_m_BadClock, m_Coarse := PySem.W.mg_of X G X_m_Coarse, m_DoubtError := PySem.W.mg_of X G X_m_DoubtError, m_NoHand := PySem.W.mg_of X G X_m_NoHand, m_NoSuch := PySem.W.mg_of X G X_m_NoSuch, o_NoHand := ⟨PySem.W.mg_of X G X_m_NoHand, X_x_NoHand, X_k_NoHand, X_b_NoHand, X_ty_NoHand⟩, e_DoubtError := (cat_add X_b_DoubtError X_hd_DoubtError X_ty_DoubtError X_s_NoHand_DoubtError cat_nil), i_NoHand := (.add ⟨X_hg_NoHand, X_hk_NoHand, X_b_NoHand, X_hd_NoHand, X_ha_NoHand, X_hn_, X_ht_, X_hm_NoHand⟩ kit_self (.nil (kit_own X_sn_NoHand X_ic_NoHand X_ty_NoHand (by decide)))), i_ValueError := (.add ⟨X_hg_NoHand, X_hk_NoHand, X_b_NoHand, X_hd_NoHand, X_ha_NoHand, X_hn_, X_ht_, X_hm_NoHand⟩ (kit_blt X_s_NoHand_ValueError (by decide +kernel) (by decide)) (.nil (kit_blt X_sn_ValueError (by decide +kernel) (by decide)))), it_0 := (.add ⟨X_hg_NoHand, X_hk_NoHand, X_b_NoHand, X_hd_NoHand, X_ha_NoHand, X_hn_, X_ht_, X_hm_NoHand⟩ (any_cons (kit_own X_s_NoHand_BadClock X_ic_BadClock X_ty_BadClock (by decide)) (any_cons (kit_own X_s_NoHand_Coarse X_ic_Coarse X_ty_Coarse (by decide)) (any_cons (kit_own X_s_NoHand_NoSuch X_ic_NoSuch X_ty_NoSuch (by decide)) any_nil))) (.nil (any_cons (kit_own X_sn_BadClock X_ic_BadClock X_ty_BadClock (by decide)) (any_cons (kit_own X_sn_Coarse X_ic_Coarse X_ty_Coarse (by decide)) (any_cons (kit_own X_sn_NoSuch X_ic_NoSuch X_ty_NoSuch (by decide)) any_nil))))) }, rfl, rfl⟩
theorem all_mk {l : PySem.W.OpenLaw} {w : World} {K : Frg} {h : Heap} {mg : Str → Option Value} {fa : Addr} (X : K.In h) (G : h.Ns mainGlobals mg) (hfa : mg "law" = some (.ref fa))
    {od0 an0 : Option Addr} {sl0 : Array (Option Value)} {oc0 kV0 dc0 pm0 cd0 ct0 : Value} {f0 : Addr}
    (a0 : PySem.W.nsIn K mainGlobals "is_look" = some (some (.ref f0))) (l0 : K.lookup f0 = some ⟨oc0, od0, .func (PySem.W.fnOf "is_look" "is_look" (defArgs s_is_look) (defBody s_is_look) (defScope s_is_look) .none kV0 dc0 pm0 an0 cd0 ct0), sl0⟩) (c0 : PySem.W.codeIn K cd0 "is_look" = true) (k0 : PySem.W.keepIn K (.ref f0) = true)
    {od1 an1 : Option Addr} {sl1 : Array (Option Value)} {oc1 kV1 dc1 pm1 cd1 ct1 : Value} {f1 : Addr}
    (a1 : PySem.W.nsIn K mainGlobals "many_readings" = some (some (.ref f1))) (l1 : K.lookup f1 = some ⟨oc1, od1, .func (PySem.W.fnOf "many_readings" "many_readings" (defArgs s_many_readings) (defBody s_many_readings) (defScope s_many_readings) .none kV1 dc1 pm1 an1 cd1 ct1), sl1⟩) (c1 : PySem.W.codeIn K cd1 "many_readings" = true) (k1 : PySem.W.keepIn K (.ref f1) = true)
    {od2 an2 : Option Addr} {sl2 : Array (Option Value)} {oc2 kV2 dc2 pm2 cd2 ct2 : Value} {f2 : Addr}
    (a2 : PySem.W.nsIn K mainGlobals "hand_asked" = some (some (.ref f2))) (l2 : K.lookup f2 = some ⟨oc2, od2, .func (PySem.W.fnOf "hand_asked" "hand_asked" (defArgs s_hand_asked) (defBody s_hand_asked) (defScope s_hand_asked) .none kV2 dc2 pm2 an2 cd2 ct2), sl2⟩) (c2 : PySem.W.codeIn K cd2 "hand_asked" = true) (k2 : PySem.W.keepIn K (.ref f2) = true)
    {od3 an3 : Option Addr} {sl3 : Array (Option Value)} {oc3 kV3 dc3 pm3 cd3 ct3 : Value} {f3 : Addr}
    (a3 : PySem.W.nsIn K mainGlobals "common_parts" = some (some (.ref f3))) (l3 : K.lookup f3 = some ⟨oc3, od3, .func (PySem.W.fnOf "common_parts" "common_parts" (defArgs s_common_parts) (defBody s_common_parts) (defScope s_common_parts) .none kV3 dc3 pm3 an3 cd3 ct3), sl3⟩) (c3 : PySem.W.codeIn K cd3 "common_parts" = true) (k3 : PySem.W.keepIn K (.ref f3) = true)
    {od4 an4 : Option Addr} {sl4 : Array (Option Value)} {oc4 kV4 dc4 pm4 cd4 ct4 : Value} {f4 : Addr}
    (a4 : PySem.W.nsIn K mainGlobals "swaps_of" = some (some (.ref f4))) (l4 : K.lookup f4 = some ⟨oc4, od4, .func (PySem.W.fnOf "swaps_of" "swaps_of" (defArgs s_swaps_of) (defBody s_swaps_of) (defScope s_swaps_of) .none kV4 dc4 pm4 an4 cd4 ct4), sl4⟩) (c4 : PySem.W.codeIn K cd4 "swaps_of" = true) (k4 : PySem.W.keepIn K (.ref f4) = true)
    {od5 an5 : Option Addr} {sl5 : Array (Option Value)} {oc5 kV5 dc5 pm5 cd5 ct5 : Value} {f5 : Addr}
    (a5 : PySem.W.nsIn K mainGlobals "rows_of" = some (some (.ref f5))) (l5 : K.lookup f5 = some ⟨oc5, od5, .func (PySem.W.fnOf "rows_of" "rows_of" (defArgs s_rows_of) (defBody s_rows_of) (defScope s_rows_of) .none kV5 dc5 pm5 an5 cd5 ct5), sl5⟩) (c5 : PySem.W.codeIn K cd5 "rows_of" = true) (k5 : PySem.W.keepIn K (.ref f5) = true)
    {od6 an6 : Option Addr} {sl6 : Array (Option Value)} {oc6 kV6 dc6 pm6 cd6 ct6 : Value} {f6 : Addr}
    (a6 : PySem.W.nsIn K mainGlobals "times_all" = some (some (.ref f6))) (l6 : K.lookup f6 = some ⟨oc6, od6, .func (PySem.W.fnOf "times_all" "times_all" (defArgs s_times_all) (defBody s_times_all) (defScope s_times_all) .none kV6 dc6 pm6 an6 cd6 ct6), sl6⟩) (c6 : PySem.W.codeIn K cd6 "times_all" = true) (k6 : PySem.W.keepIn K (.ref f6) = true)
    {od7 an7 : Option Addr} {sl7 : Array (Option Value)} {oc7 kV7 dc7 pm7 cd7 ct7 : Value} {f7 : Addr}
    (a7 : PySem.W.nsIn K mainGlobals "_law_cell_at" = some (some (.ref f7))) (l7 : K.lookup f7 = some ⟨oc7, od7, .func (PySem.W.fnOf "_law_cell_at" "_law_cell_at" (defArgs s__law_cell_at) (defBody s__law_cell_at) (defScope s__law_cell_at) .none kV7 dc7 pm7 an7 cd7 ct7), sl7⟩) (c7 : PySem.W.codeIn K cd7 "_law_cell_at" = true) (k7 : PySem.W.keepIn K (.ref f7) = true)
    {od8 an8 : Option Addr} {sl8 : Array (Option Value)} {oc8 kV8 dc8 pm8 cd8 ct8 : Value} {f8 : Addr}
    (a8 : PySem.W.nsIn K mainGlobals "_law_state" = some (some (.ref f8))) (l8 : K.lookup f8 = some ⟨oc8, od8, .func (PySem.W.fnOf "_law_state" "_law_state" (defArgs s__law_state) (defBody s__law_state) (defScope s__law_state) .none kV8 dc8 pm8 an8 cd8 ct8), sl8⟩) (c8 : PySem.W.codeIn K cd8 "_law_state" = true) (k8 : PySem.W.keepIn K (.ref f8) = true)
    {od9 an9 : Option Addr} {sl9 : Array (Option Value)} {oc9 kV9 dc9 pm9 cd9 ct9 : Value} {f9 : Addr}
    (a9 : PySem.W.nsIn K mainGlobals "_law_next" = some (some (.ref f9))) (l9 : K.lookup f9 = some ⟨oc9, od9, .func (PySem.W.fnOf "_law_next" "_law_next" (defArgs s__law_next) (defBody s__law_next) (defScope s__law_next) .none kV9 dc9 pm9 an9 cd9 ct9), sl9⟩) (c9 : PySem.W.codeIn K cd9 "_law_next" = true) (k9 : PySem.W.keepIn K (.ref f9) = true)
    {od10 an10 : Option Addr} {sl10 : Array (Option Value)} {oc10 kV10 dc10 pm10 cd10 ct10 : Value} {f10 : Addr}
    (a10 : PySem.W.nsIn K mainGlobals "made_clock" = some (some (.ref f10))) (l10 : K.lookup f10 = some ⟨oc10, od10, .func (PySem.W.fnOf "made_clock" "made_clock" (defArgs s_made_clock) (defBody s_made_clock) (defScope s_made_clock) .none kV10 dc10 pm10 an10 cd10 ct10), sl10⟩) (c10 : PySem.W.codeIn K cd10 "made_clock" = true) (k10 : PySem.W.keepIn K (.ref f10) = true)
    {od11 an11 : Option Addr} {sl11 : Array (Option Value)} {oc11 kV11 dc11 pm11 cd11 ct11 : Value} {f11 : Addr}
    (a11 : PySem.W.nsIn K mainGlobals "with_hand" = some (some (.ref f11))) (l11 : K.lookup f11 = some ⟨oc11, od11, .func (PySem.W.fnOf "with_hand" "with_hand" (defArgs s_with_hand) (defBody s_with_hand) (defScope s_with_hand) .none kV11 dc11 pm11 an11 cd11 ct11), sl11⟩) (c11 : PySem.W.codeIn K cd11 "with_hand" = true) (k11 : PySem.W.keepIn K (.ref f11) = true)
    {od12 an12 : Option Addr} {sl12 : Array (Option Value)} {oc12 kV12 dc12 pm12 cd12 ct12 : Value} {f12 : Addr}
    (a12 : PySem.W.nsIn K mainGlobals "weights_of" = some (some (.ref f12))) (l12 : K.lookup f12 = some ⟨oc12, od12, .func (PySem.W.fnOf "weights_of" "weights_of" (defArgs s_weights_of) (defBody s_weights_of) (defScope s_weights_of) .none kV12 dc12 pm12 an12 cd12 ct12), sl12⟩) (c12 : PySem.W.codeIn K cd12 "weights_of" = true) (k12 : PySem.W.keepIn K (.ref f12) = true)
    {od13 an13 : Option Addr} {sl13 : Array (Option Value)} {oc13 kV13 dc13 pm13 cd13 ct13 : Value} {f13 : Addr}
    (a13 : PySem.W.nsIn K mainGlobals "readings_of" = some (some (.ref f13))) (l13 : K.lookup f13 = some ⟨oc13, od13, .func (PySem.W.fnOf "readings_of" "readings_of" (defArgs s_readings_of) (defBody s_readings_of) (defScope s_readings_of) .none kV13 dc13 pm13 an13 cd13 ct13), sl13⟩) (c13 : PySem.W.codeIn K cd13 "readings_of" = true) (k13 : PySem.W.keepIn K (.ref f13) = true)
    {od14 an14 : Option Addr} {sl14 : Array (Option Value)} {oc14 kV14 dc14 pm14 cd14 ct14 : Value} {f14 : Addr}
    (a14 : PySem.W.nsIn K mainGlobals "is_taken" = some (some (.ref f14))) (l14 : K.lookup f14 = some ⟨oc14, od14, .func (PySem.W.fnOf "is_taken" "is_taken" (defArgs s_is_taken) (defBody s_is_taken) (defScope s_is_taken) .none kV14 dc14 pm14 an14 cd14 ct14), sl14⟩) (c14 : PySem.W.codeIn K cd14 "is_taken" = true) (k14 : PySem.W.keepIn K (.ref f14) = true)
    {od15 an15 : Option Addr} {sl15 : Array (Option Value)} {oc15 kV15 dc15 pm15 cd15 ct15 : Value} {f15 : Addr}
    (a15 : PySem.W.nsIn K mainGlobals "put_together" = some (some (.ref f15))) (l15 : K.lookup f15 = some ⟨oc15, od15, .func (PySem.W.fnOf "put_together" "put_together" (defArgs s_put_together) (defBody s_put_together) (defScope s_put_together) .none kV15 dc15 pm15 an15 cd15 ct15), sl15⟩) (c15 : PySem.W.codeIn K cd15 "put_together" = true) (k15 : PySem.W.keepIn K (.ref f15) = true)
    {od16 an16 : Option Addr} {sl16 : Array (Option Value)} {oc16 kV16 dc16 pm16 cd16 ct16 : Value} {f16 : Addr}
    (a16 : PySem.W.nsIn K mainGlobals "_law_folded" = some (some (.ref f16))) (l16 : K.lookup f16 = some ⟨oc16, od16, .func (PySem.W.fnOf "_law_folded" "_law_folded" (defArgs s__law_folded) (defBody s__law_folded) (defScope s__law_folded) .none kV16 dc16 pm16 an16 cd16 ct16), sl16⟩) (c16 : PySem.W.codeIn K cd16 "_law_folded" = true) (k16 : PySem.W.keepIn K (.ref f16) = true)
    {od17 an17 : Option Addr} {sl17 : Array (Option Value)} {oc17 kV17 dc17 pm17 cd17 ct17 : Value} {f17 : Addr}
    (a17 : PySem.W.nsIn K mainGlobals "_law_below" = some (some (.ref f17))) (l17 : K.lookup f17 = some ⟨oc17, od17, .func (PySem.W.fnOf "_law_below" "_law_below" (defArgs s__law_below) (defBody s__law_below) (defScope s__law_below) .none kV17 dc17 pm17 an17 cd17 ct17), sl17⟩) (c17 : PySem.W.codeIn K cd17 "_law_below" = true) (k17 : PySem.W.keepIn K (.ref f17) = true)
    {od18 an18 : Option Addr} {sl18 : Array (Option Value)} {oc18 kV18 dc18 pm18 cd18 ct18 : Value} {f18 : Addr}
    (a18 : PySem.W.nsIn K mainGlobals "_law_looks" = some (some (.ref f18))) (l18 : K.lookup f18 = some ⟨oc18, od18, .func (PySem.W.fnOf "_law_looks" "_law_looks" (defArgs s__law_looks) (defBody s__law_looks) (defScope s__law_looks) .none kV18 dc18 pm18 an18 cd18 ct18), sl18⟩) (c18 : PySem.W.codeIn K cd18 "_law_looks" = true) (k18 : PySem.W.keepIn K (.ref f18) = true)
    {od19 an19 : Option Addr} {sl19 : Array (Option Value)} {oc19 kV19 dc19 pm19 cd19 ct19 : Value} {f19 : Addr}
    (a19 : PySem.W.nsIn K mainGlobals "cleared_of" = some (some (.ref f19))) (l19 : K.lookup f19 = some ⟨oc19, od19, .func (PySem.W.fnOf "cleared_of" "cleared_of" (defArgs s_cleared_of) (defBody s_cleared_of) (defScope s_cleared_of) .none kV19 dc19 pm19 an19 cd19 ct19), sl19⟩) (c19 : PySem.W.codeIn K cd19 "cleared_of" = true) (k19 : PySem.W.keepIn K (.ref f19) = true)
    {od20 an20 : Option Addr} {sl20 : Array (Option Value)} {oc20 kV20 dc20 pm20 cd20 ct20 : Value} {f20 : Addr}
    (a20 : PySem.W.nsIn K mainGlobals "changed_by" = some (some (.ref f20))) (l20 : K.lookup f20 = some ⟨oc20, od20, .func (PySem.W.fnOf "changed_by" "changed_by" (defArgs s_changed_by) (defBody s_changed_by) (defScope s_changed_by) .none kV20 dc20 pm20 an20 cd20 ct20), sl20⟩) (c20 : PySem.W.codeIn K cd20 "changed_by" = true) (k20 : PySem.W.keepIn K (.ref f20) = true)
    {od21 an21 : Option Addr} {sl21 : Array (Option Value)} {oc21 kV21 dc21 pm21 cd21 ct21 : Value} {f21 : Addr}
    (a21 : PySem.W.nsIn K mainGlobals "is_doubt" = some (some (.ref f21))) (l21 : K.lookup f21 = some ⟨oc21, od21, .func (PySem.W.fnOf "is_doubt" "is_doubt" (defArgs s_is_doubt) (defBody s_is_doubt) (defScope s_is_doubt) .none kV21 dc21 pm21 an21 cd21 ct21), sl21⟩) (c21 : PySem.W.codeIn K cd21 "is_doubt" = true) (k21 : PySem.W.keepIn K (.ref f21) = true)
    {od22 an22 : Option Addr} {sl22 : Array (Option Value)} {oc22 kV22 dc22 pm22 cd22 ct22 : Value} {f22 : Addr}
    (a22 : PySem.W.nsIn K mainGlobals "_law_clock" = some (some (.ref f22))) (l22 : K.lookup f22 = some ⟨oc22, od22, .func (PySem.W.fnOf "_law_clock" "_law_clock" (defArgs s__law_clock) (defBody s__law_clock) (defScope s__law_clock) .none kV22 dc22 pm22 an22 cd22 ct22), sl22⟩) (c22 : PySem.W.codeIn K cd22 "_law_clock" = true) (k22 : PySem.W.keepIn K (.ref f22) = true)
    {od23 an23 : Option Addr} {sl23 : Array (Option Value)} {oc23 kV23 dc23 pm23 cd23 ct23 : Value} {f23 : Addr}
    (a23 : PySem.W.nsIn K mainGlobals "reading_doubt" = some (some (.ref f23))) (l23 : K.lookup f23 = some ⟨oc23, od23, .func (PySem.W.fnOf "reading_doubt" "reading_doubt" (defArgs s_reading_doubt) (defBody s_reading_doubt) (defScope s_reading_doubt) .none kV23 dc23 pm23 an23 cd23 ct23), sl23⟩) (c23 : PySem.W.codeIn K cd23 "reading_doubt" = true) (k23 : PySem.W.keepIn K (.ref f23) = true)
    {od24 an24 : Option Addr} {sl24 : Array (Option Value)} {oc24 kV24 dc24 pm24 cd24 ct24 : Value} {f24 : Addr}
    (a24 : PySem.W.nsIn K mainGlobals "_law_small" = some (some (.ref f24))) (l24 : K.lookup f24 = some ⟨oc24, od24, .func (PySem.W.fnOf "_law_small" "_law_small" (defArgs s__law_small) (defBody s__law_small) (defScope s__law_small) .none kV24 dc24 pm24 an24 cd24 ct24), sl24⟩) (c24 : PySem.W.codeIn K cd24 "_law_small" = true) (k24 : PySem.W.keepIn K (.ref f24) = true)
    {od25 an25 : Option Addr} {sl25 : Array (Option Value)} {oc25 kV25 dc25 pm25 cd25 ct25 : Value} {f25 : Addr}
    (a25 : PySem.W.nsIn K mainGlobals "whole_paper" = some (some (.ref f25))) (l25 : K.lookup f25 = some ⟨oc25, od25, .func (PySem.W.fnOf "whole_paper" "whole_paper" (defArgs s_whole_paper) (defBody s_whole_paper) (defScope s_whole_paper) .none kV25 dc25 pm25 an25 cd25 ct25), sl25⟩) (c25 : PySem.W.codeIn K cd25 "whole_paper" = true) (k25 : PySem.W.keepIn K (.ref f25) = true)
    {od26 an26 : Option Addr} {sl26 : Array (Option Value)} {oc26 kV26 dc26 pm26 cd26 ct26 : Value} {f26 : Addr}
    (a26 : PySem.W.nsIn K mainGlobals "other_by" = some (some (.ref f26))) (l26 : K.lookup f26 = some ⟨oc26, od26, .func (PySem.W.fnOf "other_by" "other_by" (defArgs s_other_by) (defBody s_other_by) (defScope s_other_by) .none kV26 dc26 pm26 an26 cd26 ct26), sl26⟩) (c26 : PySem.W.codeIn K cd26 "other_by" = true) (k26 : PySem.W.keepIn K (.ref f26) = true)
    {od27 an27 : Option Addr} {sl27 : Array (Option Value)} {oc27 kV27 dc27 pm27 cd27 ct27 : Value} {f27 : Addr}
    (a27 : PySem.W.nsIn K mainGlobals "other_right" = some (some (.ref f27))) (l27 : K.lookup f27 = some ⟨oc27, od27, .func (PySem.W.fnOf "other_right" "other_right" (defArgs s_other_right) (defBody s_other_right) (defScope s_other_right) .none kV27 dc27 pm27 an27 cd27 ct27), sl27⟩) (c27 : PySem.W.codeIn K cd27 "other_right" = true) (k27 : PySem.W.keepIn K (.ref f27) = true)
    {od28 an28 : Option Addr} {sl28 : Array (Option Value)} {oc28 kV28 dc28 pm28 cd28 ct28 : Value} {f28 : Addr}
    (a28 : PySem.W.nsIn K mainGlobals "other_gear" = some (some (.ref f28))) (l28 : K.lookup f28 = some ⟨oc28, od28, .func (PySem.W.fnOf "other_gear" "other_gear" (defArgs s_other_gear) (defBody s_other_gear) (defScope s_other_gear) .none kV28 dc28 pm28 an28 cd28 ct28), sl28⟩) (c28 : PySem.W.codeIn K cd28 "other_gear" = true) (k28 : PySem.W.keepIn K (.ref f28) = true)
    {od29 an29 : Option Addr} {sl29 : Array (Option Value)} {oc29 kV29 dc29 pm29 cd29 ct29 : Value} {f29 : Addr}
    (a29 : PySem.W.nsIn K mainGlobals "other_start" = some (some (.ref f29))) (l29 : K.lookup f29 = some ⟨oc29, od29, .func (PySem.W.fnOf "other_start" "other_start" (defArgs s_other_start) (defBody s_other_start) (defScope s_other_start) .none kV29 dc29 pm29 an29 cd29 ct29), sl29⟩) (c29 : PySem.W.codeIn K cd29 "other_start" = true) (k29 : PySem.W.keepIn K (.ref f29) = true)
    {od30 an30 : Option Addr} {sl30 : Array (Option Value)} {oc30 kV30 dc30 pm30 cd30 ct30 : Value} {f30 : Addr}
    (a30 : PySem.W.nsIn K mainGlobals "_law_refused" = some (some (.ref f30))) (l30 : K.lookup f30 = some ⟨oc30, od30, .func (PySem.W.fnOf "_law_refused" "_law_refused" (defArgs s__law_refused) (defBody s__law_refused) (defScope s__law_refused) .none kV30 dc30 pm30 an30 cd30 ct30), sl30⟩) (c30 : PySem.W.codeIn K cd30 "_law_refused" = true) (k30 : PySem.W.keepIn K (.ref f30) = true)
    {od31 an31 : Option Addr} {sl31 : Array (Option Value)} {oc31 kV31 dc31 pm31 cd31 ct31 : Value} {f31 : Addr}
    (a31 : PySem.W.nsIn K mainGlobals "law" = some (some (.ref f31))) (l31 : K.lookup f31 = some ⟨oc31, od31, .func (PySem.W.fnOf "law" "law" (defArgs s_law) (defBody s_law) (defScope s_law) .none kV31 dc31 pm31 an31 cd31 ct31), sl31⟩) (c31 : PySem.W.codeIn K cd31 "law" = true) (k31 : PySem.W.keepIn K (.ref f31) = true)
    {t0 : Tok} (v0 : PySem.W.nsIn K mainGlobals "LETTERS" = some (some (.str "abcdefghijklmnopqrstuvwxyz" t0)))
    {t1 : Tok} (v1 : PySem.W.nsIn K mainGlobals "MOST_HANDS" = some (some (.int (5) t1)))
    {t2 : Tok} (v2 : PySem.W.nsIn K mainGlobals "MOST_MARKS" = some (some (.int (1000000000000000000000000000000000000000000000000000000000000) t2)))
    {t3 : Tok} (v3 : PySem.W.nsIn K mainGlobals "MOST_READINGS" = some (some (.int (6) t3)))
    (z0 : PySem.W.nsIn K mainGlobals "ValueError" = some none)
    (z1 : PySem.W.nsIn K mainGlobals "all" = some none)
    (z2 : PySem.W.nsIn K mainGlobals "enumerate" = some none)
    (z3 : PySem.W.nsIn K mainGlobals "int" = some none)
    (z4 : PySem.W.nsIn K mainGlobals "isinstance" = some none)
    (z5 : PySem.W.nsIn K mainGlobals "len" = some none)
    (z6 : PySem.W.nsIn K mainGlobals "list" = some none)
    (z7 : PySem.W.nsIn K mainGlobals "range" = some none)
    (z8 : PySem.W.nsIn K mainGlobals "sum" = some none)
    (z9 : PySem.W.nsIn K mainGlobals "tuple" = some none)
    (z10 : PySem.W.nsIn K mainGlobals "zip" = some none)
    (X_m_BadClock : PySem.W.nsIn K mainGlobals "BadClock" = some (some (.ref C_BadClock)))
    (X_m_Coarse : PySem.W.nsIn K mainGlobals "Coarse" = some (some (.ref C_Coarse)))
    (X_m_DoubtError : PySem.W.nsIn K mainGlobals "DoubtError" = some (some (.ref C_DoubtError)))
    (X_m_NoHand : PySem.W.nsIn K mainGlobals "NoHand" = some (some (.ref C_NoHand)))
    (X_m_NoSuch : PySem.W.nsIn K mainGlobals "NoSuch" = some (some (.ref C_NoSuch)))
    (X_x_NoHand : PySem.W.excIn K C_NoHand [.type "ValueError", .type "Exception", .type "BaseException", .type "object"] "ValueError.__new__" = true)
    (X_k_NoHand : PySem.W.keepIn K (.ref C_NoHand) = true)
    (X_hg_NoHand : PySem.W.findIn K (.ref C_NoHand) "__getattribute__" = some (some (.builtin "BaseException.__getattribute__")))
    (X_hk_NoHand : PySem.W.findIn K (.ref C_NoHand) "__getattr__" = some none)
    (X_ha_NoHand : PySem.W.findIn K (.ref C_NoHand) "__class__" = some (some (.builtin "object.__class__")))
    (X_hm_NoHand : PySem.W.mroIn K C_NoHand (.type "object") = some true)
    (X_hn_ : PySem.W.specialIn K (.builtin "object.__class__") "__get__" = some (some (.builtin "getset_descriptor.__get__")))
    (X_ht_ : PySem.W.takesIn K (.builtin "object.__class__") = some true)
    (X_b_DoubtError : PySem.W.subIn K (.ref C_DoubtError) (.type "BaseException") = some true)
    (X_hd_DoubtError : PySem.W.hasDictIn K C_DoubtError = true)
    (X_b_NoHand : PySem.W.subIn K (.ref C_NoHand) (.type "BaseException") = some true)
    (X_hd_NoHand : PySem.W.hasDictIn K C_NoHand = true)
    (X_ty_BadClock : PySem.W.typeIn K (.ref C_BadClock) = some (.type "type"))
    (X_ty_Coarse : PySem.W.typeIn K (.ref C_Coarse) = some (.type "type"))
    (X_ty_DoubtError : PySem.W.typeIn K (.ref C_DoubtError) = some (.type "type"))
    (X_ty_NoHand : PySem.W.typeIn K (.ref C_NoHand) = some (.type "type"))
    (X_ty_NoSuch : PySem.W.typeIn K (.ref C_NoSuch) = some (.type "type"))
    (X_ic_BadClock : PySem.W.isClsIn K C_BadClock = true)
    (X_sn_BadClock : PySem.W.subIn K (.type "NoneType") (.ref C_BadClock) = some false)
    (X_ic_Coarse : PySem.W.isClsIn K C_Coarse = true)
    (X_sn_Coarse : PySem.W.subIn K (.type "NoneType") (.ref C_Coarse) = some false)
    (X_ic_NoHand : PySem.W.isClsIn K C_NoHand = true)
    (X_sn_NoHand : PySem.W.subIn K (.type "NoneType") (.ref C_NoHand) = some false)
    (X_ic_NoSuch : PySem.W.isClsIn K C_NoSuch = true)
    (X_sn_NoSuch : PySem.W.subIn K (.type "NoneType") (.ref C_NoSuch) = some false)
    (X_sn_ValueError : PySem.W.subIn K (.type "NoneType") (.type "ValueError") = some false)
    (X_s_NoHand_BadClock : PySem.W.subIn K (.ref C_NoHand) (.ref C_BadClock) = some false)
    (X_s_NoHand_Coarse : PySem.W.subIn K (.ref C_NoHand) (.ref C_Coarse) = some false)
    (X_s_NoHand_DoubtError : PySem.W.subIn K (.ref C_NoHand) (.ref C_DoubtError) = some true)
    (X_s_NoHand_NoSuch : PySem.W.subIn K (.ref C_NoHand) (.ref C_NoSuch) = some false)
    (X_s_NoHand_ValueError : PySem.W.subIn K (.ref C_NoHand) (.type "ValueError") = some true) :
    ∃ fd : FuncData, (∀ (s : Shared) (v : Value), BindsTo s fd ⟨[v], []⟩ [("script", v)]) ∧ ∀ base : Heap, K.In base → base.Ns mainGlobals mg → FnOk l.prog w K mg base CX0 9 fa fd ["script"] (spF K (g_law w)) := by
  have e := hfa.symm.trans (PySem.W.mg_of X G a31)
  cases e
  obtain ⟨T, e1, e2⟩ := tx_mk X G a0 l0 c0 k0 a1 l1 c1 k1 a2 l2 c2 k2 a3 l3 c3 k3 a4 l4 c4 k4 a5 l5 c5 k5 a6 l6 c6 k6 a7 l7 c7 k7 a8 l8 c8 k8 a9 l9 c9 k9 a10 l10 c10 k10 a11 l11 c11 k11 a12 l12 c12 k12 a13 l13 c13 k13 a14 l14 c14 k14 a15 l15 c15 k15 a16 l16 c16 k16 a17 l17 c17 k17 a18 l18 c18 k18 a19 l19 c19 k19 a20 l20 c20 k20 a21 l21 c21 k21 a22 l22 c22 k22 a23 l23 c23 k23 a24 l24 c24 k24 a25 l25 c25 k25 a26 l26 c26 k26 a27 l27 c27 k27 a28 l28 c28 k28 a29 l29 c29 k29 a30 l30 c30 k30 a31 l31 c31 k31 v0 v1 v2 v3 z0 z1 z2 z3 z4 z5 z6 z7 z8 z9 z10 X_m_BadClock X_m_Coarse X_m_DoubtError X_m_NoHand X_m_NoSuch X_x_NoHand X_k_NoHand X_hg_NoHand X_hk_NoHand X_ha_NoHand X_hm_NoHand X_hn_ X_ht_ X_b_DoubtError X_hd_DoubtError X_b_NoHand X_hd_NoHand X_ty_BadClock X_ty_Coarse X_ty_DoubtError X_ty_NoHand X_ty_NoSuch X_ic_BadClock X_sn_BadClock X_ic_Coarse X_sn_Coarse X_ic_NoHand X_sn_NoHand X_ic_NoSuch X_sn_NoSuch X_sn_ValueError X_s_NoHand_BadClock X_s_NoHand_Coarse X_s_NoHand_DoubtError X_s_NoHand_NoSuch X_s_NoHand_ValueError
  refine ⟨T.d_law, fun s v => ?_, fun base _ _ => ?_⟩
  · rw [e2]; exact .of_eq rfl
  · have := ok_law (P := l.prog) (w := w) (base := base) T
    rw [e1] at this
    exact this
end Lw

section
open PySem PySem.W PyProof.Rows
set_option maxHeartbeats 0 in
theorem Lw.walked (hlaw : ∀ (w : PySem.World) (ns : List Int), ns.length ≤ 63 → ∃ args', Lw.g_law w [.ro (ns.map .int)] = some (.bool true, args')) : PySem.Challenge.rw_dialdoubt_k52_hands_that_there_are_none.Holds := by
  w_on
  refine Lw.wrap ?_
  k_fill
  refine L2.walk_of (l := PySem.Challenge.rw_dialdoubt_k52_hands_that_there_are_none) (n := 63) (k := 9) (x := "script") (CX := fun _ => L2.CX0) (sp := fun w => M.spF _ (Lw.g_law w)) rfl (by decide) rfl ⟨rfl, by decide, by decide⟩ (fun w h Y => PySem.W.kIn_of Y) ?F (fun _ _ a ns hl _ hS => M.law_sp hS (hlaw _ ns hl)) (fun _ _ _ _ _ h => h)
  case F =>
    intro w mg fa h KX G hmg
    refine' Lw.all_mk KX G hmg ?a0 ?l0 ?c0 ?k0 ?a1 ?l1 ?c1 ?k1 ?a2 ?l2 ?c2 ?k2 ?a3 ?l3 ?c3 ?k3 ?a4 ?l4 ?c4 ?k4 ?a5 ?l5 ?c5 ?k5 ?a6 ?l6 ?c6 ?k6 ?a7 ?l7 ?c7 ?k7 ?a8 ?l8 ?c8 ?k8 ?a9 ?l9 ?c9 ?k9 ?a10 ?l10 ?c10 ?k10 ?a11 ?l11 ?c11 ?k11 ?a12 ?l12 ?c12 ?k12 ?a13 ?l13 ?c13 ?k13 ?a14 ?l14 ?c14 ?k14 ?a15 ?l15 ?c15 ?k15 ?a16 ?l16 ?c16 ?k16 ?a17 ?l17 ?c17 ?k17 ?a18 ?l18 ?c18 ?k18 ?a19 ?l19 ?c19 ?k19 ?a20 ?l20 ?c20 ?k20 ?a21 ?l21 ?c21 ?k21 ?a22 ?l22 ?c22 ?k22 ?a23 ?l23 ?c23 ?k23 ?a24 ?l24 ?c24 ?k24 ?a25 ?l25 ?c25 ?k25 ?a26 ?l26 ?c26 ?k26 ?a27 ?l27 ?c27 ?k27 ?a28 ?l28 ?c28 ?k28 ?a29 ?l29 ?c29 ?k29 ?a30 ?l30 ?c30 ?k30 ?a31 ?l31 ?c31 ?k31 ?v0 ?v1 ?v2 ?v3 ?z0 ?z1 ?z2 ?z3 ?z4 ?z5 ?z6 ?z7 ?z8 ?z9 ?z10 ?X_m_BadClock ?X_m_Coarse ?X_m_DoubtError ?X_m_NoHand ?X_m_NoSuch ?X_x_NoHand ?X_k_NoHand ?X_hg_NoHand ?X_hk_NoHand ?X_ha_NoHand ?X_hm_NoHand ?X_hn_ ?X_ht_ ?X_b_DoubtError ?X_hd_DoubtError ?X_b_NoHand ?X_hd_NoHand ?X_ty_BadClock ?X_ty_Coarse ?X_ty_DoubtError ?X_ty_NoHand ?X_ty_NoSuch ?X_ic_BadClock ?X_sn_BadClock ?X_ic_Coarse ?X_sn_Coarse ?X_ic_NoHand ?X_sn_NoHand ?X_ic_NoSuch ?X_sn_NoSuch ?X_sn_ValueError ?X_s_NoHand_BadClock ?X_s_NoHand_Coarse ?X_s_NoHand_DoubtError ?X_s_NoHand_NoSuch ?X_s_NoHand_ValueError
    (case a0 => k_is); (case l0 => k_is); (case c0 => k_is); (case k0 => k_is); (case a1 => k_is); (case l1 => k_is); (case c1 => k_is); (case k1 => k_is); (case a2 => k_is); (case l2 => k_is); (case c2 => k_is); (case k2 => k_is); (case a3 => k_is); (case l3 => k_is); (case c3 => k_is); (case k3 => k_is); (case a4 => k_is); (case l4 => k_is); (case c4 => k_is); (case k4 => k_is); (case a5 => k_is); (case l5 => k_is); (case c5 => k_is); (case k5 => k_is); (case a6 => k_is); (case l6 => k_is); (case c6 => k_is); (case k6 => k_is); (case a7 => k_is); (case l7 => k_is); (case c7 => k_is); (case k7 => k_is); (case a8 => k_is); (case l8 => k_is); (case c8 => k_is); (case k8 => k_is); (case a9 => k_is); (case l9 => k_is); (case c9 => k_is); (case k9 => k_is); (case a10 => k_is); (case l10 => k_is); (case c10 => k_is); (case k10 => k_is); (case a11 => k_is); (case l11 => k_is); (case c11 => k_is); (case k11 => k_is); (case a12 => k_is); (case l12 => k_is); (case c12 => k_is); (case k12 => k_is); (case a13 => k_is); (case l13 => k_is); (case c13 => k_is); (case k13 => k_is); (case a14 => k_is); (case l14 => k_is); (case c14 => k_is); (case k14 => k_is); (case a15 => k_is); (case l15 => k_is); (case c15 => k_is); (case k15 => k_is); (case a16 => k_is); (case l16 => k_is); (case c16 => k_is); (case k16 => k_is); (case a17 => k_is); (case l17 => k_is); (case c17 => k_is); (case k17 => k_is); (case a18 => k_is); (case l18 => k_is); (case c18 => k_is); (case k18 => k_is); (case a19 => k_is); (case l19 => k_is); (case c19 => k_is); (case k19 => k_is); (case a20 => k_is); (case l20 => k_is); (case c20 => k_is); (case k20 => k_is); (case a21 => k_is); (case l21 => k_is); (case c21 => k_is); (case k21 => k_is); (case a22 => k_is); (case l22 => k_is); (case c22 => k_is); (case k22 => k_is); (case a23 => k_is); (case l23 => k_is); (case c23 => k_is); (case k23 => k_is); (case a24 => k_is); (case l24 => k_is); (case c24 => k_is); (case k24 => k_is); (case a25 => k_is); (case l25 => k_is); (case c25 => k_is); (case k25 => k_is); (case a26 => k_is); (case l26 => k_is); (case c26 => k_is); (case k26 => k_is); (case a27 => k_is); (case l27 => k_is); (case c27 => k_is); (case k27 => k_is); (case a28 => k_is); (case l28 => k_is); (case c28 => k_is); (case k28 => k_is); (case a29 => k_is); (case l29 => k_is); (case c29 => k_is); (case k29 => k_is); (case a30 => k_is); (case l30 => k_is); (case c30 => k_is); (case k30 => k_is); (case a31 => k_is); (case l31 => k_is); (case c31 => k_is); (case k31 => k_is); (case v0 => k_is); (case v1 => k_is); (case v2 => k_is); (case v3 => k_is); (case z0 => k_is); (case z1 => k_is); (case z2 => k_is); (case z3 => k_is); (case z4 => k_is); (case z5 => k_is); (case z6 => k_is); (case z7 => k_is); (case z8 => k_is); (case z9 => k_is); (case z10 => k_is); (case X_m_BadClock => k_is); (case X_m_Coarse => k_is); (case X_m_DoubtError => k_is); (case X_m_NoHand => k_is); (case X_m_NoSuch => k_is); (case X_x_NoHand => k_exc); (case X_k_NoHand => k_is); (case X_hg_NoHand => k_is); (case X_hk_NoHand => k_is); (case X_ha_NoHand => k_is); (case X_hm_NoHand => k_is); (case X_hn_ => k_is); (case X_ht_ => k_is); (case X_b_DoubtError => k_is); (case X_hd_DoubtError => k_is); (case X_b_NoHand => k_is); (case X_hd_NoHand => k_is); (case X_ty_BadClock => k_is); (case X_ty_Coarse => k_is); (case X_ty_DoubtError => k_is); (case X_ty_NoHand => k_is); (case X_ty_NoSuch => k_is); (case X_ic_BadClock => k_is); (case X_sn_BadClock => k_is); (case X_ic_Coarse => k_is); (case X_sn_Coarse => k_is); (case X_ic_NoHand => k_is); (case X_sn_NoHand => k_is); (case X_ic_NoSuch => k_is); (case X_sn_NoSuch => k_is); (case X_sn_ValueError => k_is); (case X_s_NoHand_BadClock => k_is); (case X_s_NoHand_Coarse => k_is); (case X_s_NoHand_DoubtError => k_is); (case X_s_NoHand_NoSuch => k_is); (case X_s_NoHand_ValueError => k_is)

end

namespace M
open PySem PySem.Spec PyProof.Rows L2
/-! ### all orders, rising -/
def nextO (n : Nat) (o : List Nat) : List (List Nat) := ((List.range n).filter fun j => decide (j ∉ o)).map fun j => o ++ [j]
def ordersGo (n : Nat) : Nat → List (List Nat)
  | 0 => [[]]
  | k + 1 => (ordersGo n k).flatMap (nextO n)
def ordersL (n : Nat) : List (List Nat) := ordersGo n n
theorem filter_flatMap {α β : Type} (p : α → Bool) (f : α → List β) : ∀ l : List α, (l.filter p).flatMap f = l.flatMap fun x => if p x then f x else []
  | [] => rfl
  | x :: l => by
    rw [List.filter_cons]
    by_cases h : p x = true
    · rw [if_pos h, List.flatMap_cons, List.flatMap_cons, if_pos h, filter_flatMap p f l]
    · rw [if_neg h, List.flatMap_cons, if_neg h, List.nil_append, filter_flatMap p f l]
/-- the looks that an order gives -/
def fitsB (looks : List Str) (k : Nat) (o : List Nat) : Bool := decide (o.map (fun j => looks[j]?) = (looks.take k).map some)
theorem swaps_orders (looks : List Str) : ∀ k, k ≤ looks.length → swapsGo looks (looks.take k) [[]] = (ordersGo looks.length k).filter (fitsB looks k)
  | 0, _ => by simp [swapsGo, ordersGo, fitsB]
  | k + 1, h => by
    have hk : k < looks.length := by omega
    have ht : looks.take (k + 1) = looks.take k ++ [looks[k]] := List.take_succ_eq_append_getElem hk
    have hs : swapsGo looks (looks.take (k + 1)) [[]] = (swapsGo looks (looks.take k) [[]]).flatMap (nextS looks looks[k]) := by rw [ht, swapsGo_snoc]
    rw [hs, swaps_orders looks k (by omega), filter_flatMap]
    show _ = ((ordersGo looks.length k).flatMap (nextO looks.length)).filter _
    rw [List.filter_flatMap]
    refine congrArg (List.flatMap · _) (funext fun o => ?_)
    unfold nextO nextS
    rw [List.filter_map, List.filter_filter]
    have key : ∀ j, fitsB looks (k + 1) (o ++ [j]) = (fitsB looks k o && decide (looks[j]? = some looks[k])) := fun j => by
      unfold fitsB
      rw [ht, List.map_append, List.map_append, ← Bool.decide_and]
      refine decide_eq_decide.mpr ⟨fun e => ?_, fun e => by rw [e.1]; simp [e.2]⟩
      obtain ⟨e1, e2⟩ := List.append_inj' e rfl
      exact ⟨e1, by simpa using e2⟩
    by_cases hf : fitsB looks k o = true
    · rw [if_pos hf]
      refine congrArg (List.map _) (List.filter_congr fun j _ => ?_)
      show _ = (fitsB looks (k + 1) (o ++ [j]) && decide (j ∉ o))
      rw [key, hf, Bool.true_and, Bool.and_comm]
    · rw [if_neg hf]
      have : (List.range looks.length).filter (fun j => ((fitsB looks (k + 1)) ∘ fun j => o ++ [j]) j && decide (j ∉ o)) = [] := List.filter_eq_nil_iff.mpr fun j _ => by
        show ¬ (fitsB looks (k + 1) (o ++ [j]) && decide (j ∉ o)) = true
        rw [key]
        simp [hf]
      rw [this]
      rfl
theorem swapsL_orders (looks : List Str) : swapsL looks = (ordersL looks.length).filter (fitsB looks looks.length) := by
  have := swaps_orders looks looks.length (Nat.le_refl _)
  rw [List.take_length] at this
  exact this
/-! rising -/
/-! sorted readings -/
end M

namespace M
open PySem PySem.Spec PyProof.Rows L2
theorem irange_nat (n : Nat) : irange 0 n = (List.range n).map fun (j : Nat) => PyData.int (j : Int) := by
  unfold irange
  exact List.map_congr_left fun j _ => by rw [Int.zero_add]
theorem wo_idxS {ls : List Str} {j : Nat} {Q : D → Prop} (h : j < ls.length) (q : Q (.str ls[j])) : WO (gIdx (.list (ls.map .str)) (.int (j : Int))) Q := by
  refine wo_idxL (by omega) (by rw [List.length_map]; omega) fun d hd _ => ?_
  rw [List.getElem?_map, Int.toNat_natCast, List.getElem?_eq_getElem h] at hd
  cases hd
  exact q
end M

namespace M
open PySem PySem.Spec PyProof.Rows L2
theorem all_zw {α β : Type} {f : Nat → Hd → α} {g : Nat → Hd → β} {p : α → Bool} {q : β → Bool} (h : ∀ j x, p (f j x) = q (g j x)) : ∀ (o : List Nat) (hs : List Hd), (List.zipWith f o hs).all p = (List.zipWith g o hs).all q
  | [], _ => rfl
  | _ :: _, [] => rfl
  | j :: o, x :: hs => by rw [List.zipWith_cons_cons, List.zipWith_cons_cons, List.all_cons, List.all_cons, h j x, all_zw h o hs]
theorem emod_zero_iff {m a b : Int} (h : m ∣ a - b) : a % m = 0 ↔ b % m = 0 := by
  have := Int.emod_eq_emod_iff_emod_sub_eq_zero.mpr (Int.emod_eq_zero_of_dvd h)
  rw [this]
theorem turn1_rng {m : Int} (hm : 0 < m) (hs : List Hd) (mir : Bool) (t u : Int) (j : Nat) (h : Hd) : 0 ≤ turn1 m hs mir t u j h ∧ turn1 m hs mir t u j h < m := ⟨Int.emod_nonneg _ (by omega), Int.emod_lt_of_pos _ hm⟩
theorem taken_plain {m : Int} (hm : 0 < m) (hs : List Hd) (r : Rd) (t u : Int) : takenB m (rowsL m hs false r) t u = (turnsL m hs r t u).all fun x => decide (x = 0) := by
  refine all_zw (f := row1 m hs r.2) (g := turn1 m hs r.2 t u) (fun j x => decide_eq_decide.mpr ?_) r.1 hs
  have h := row_turn (m := m) (hs := hs) (mir := r.2) (t := t) (u := u) (j := j) (h := x)
  obtain ⟨h1, h2⟩ := turn1_rng hm hs r.2 t u j x
  rw [emod_zero_iff h, Int.emod_eq_of_lt h1 h2]
theorem taken_blank {m : Int} (hm : 0 < m) (hs : List Hd) (r : Rd) (t u : Int) : takenB m (rowsL m hs true r) t u = (turnsL m hs r t u).tail.all fun x => decide (x = (turnsL m hs r t u).headD 0) := by
  obtain ⟨o, mir⟩ := r
  show takenB m ((rows0 m hs (o, mir)).tail.map fun x => lessR m x ((rows0 m hs (o, mir)).headD (0, 0, 0))) t u = _
  unfold rows0 turnsL takenB
  dsimp only
  generalize hf : row1 m hs mir = f
  generalize hg : turn1 m hs mir t u = g
  cases o with
  | nil => rfl
  | cons j o =>
    cases hs with
    | nil => rfl
    | cons x xs =>
      rw [List.zipWith_cons_cons, List.zipWith_cons_cons, List.tail_cons, List.tail_cons, List.headD_cons, List.headD_cons, List.all_map]
      refine all_zw (p := (fun r : Rw => decide ((r.1 * u - r.2.1 * t - r.2.2) % m = 0)) ∘ fun y => lessR m y (f j x)) (q := fun y => decide (y = g j x)) (fun j' x' => decide_eq_decide.mpr ?_) o xs
      have h0 := row_turn (m := m) (hs := x :: xs) (mir := mir) (t := t) (u := u) (j := j) (h := x)
      have h1 := row_turn (m := m) (hs := x :: xs) (mir := mir) (t := t) (u := u) (j := j') (h := x')
      obtain ⟨a1, a2⟩ := turn1_rng hm (x :: xs) mir t u j x
      obtain ⟨b1, b2⟩ := turn1_rng hm (x :: xs) mir t u j' x'
      rw [hf, hg] at h0 h1
      rw [hg] at a1 a2 b1 b2
      show ((lessR m (f j' x') (f j x)).1 * u - (lessR m (f j' x') (f j x)).2.1 * t - (lessR m (f j' x') (f j x)).2.2) % m = 0 ↔ _
      unfold lessR
      dsimp only
      generalize f j' x' = R1 at *
      generalize f j x = R0 at *
      generalize g j' x' = T1 at *
      generalize g j x = T0 at *
      have e1 := Int.mul_ediv_add_emod (R1.1 - R0.1) m
      have e2 := Int.mul_ediv_add_emod (R1.2.1 - R0.2.1) m
      have e3 := Int.mul_ediv_add_emod (R1.2.2 - R0.2.2) m
      have hd : m ∣ ((R1.1 - R0.1) % m * u - (R1.2.1 - R0.2.1) % m * t - (R1.2.2 - R0.2.2) % m) - (T1 - T0) := by
        obtain ⟨c0, k0⟩ := h0
        obtain ⟨c1, k1⟩ := h1
        refine ⟨c1 - c0 - (R1.1 - R0.1) / m * u + (R1.2.1 - R0.2.1) / m * t + (R1.2.2 - R0.2.2) / m, ?_⟩
        grind
      rw [emod_zero_iff hd]
      constructor
      · intro h
        obtain ⟨c, hc⟩ := Int.dvd_of_emod_eq_zero h
        rcases Int.lt_trichotomy c 0 with hc0 | hc0 | hc0
        · have := Int.mul_le_mul_of_nonneg_left (show c ≤ -1 by omega) (show 0 ≤ m by omega)
          omega
        · subst hc0; omega
        · have := Int.mul_le_mul_of_nonneg_left (show 1 ≤ c by omega) (show 0 ≤ m by omega)
          omega
      · intro h
        rw [h, Int.sub_self, Int.zero_emod]
theorem mem_zw {α : Type} {f : Nat → Hd → α} : ∀ {o : List Nat} {hs : List Hd} {x : α}, x ∈ List.zipWith f o hs → ∃ j ∈ o, ∃ h ∈ hs, x = f j h
  | [], _, x, hx => by cases hx
  | _ :: _, [], x, hx => by cases hx
  | j :: o, h :: hs, x, hx => by
    rw [List.zipWith_cons_cons] at hx
    rcases List.mem_cons.mp hx with rfl | hx
    · exact ⟨j, List.mem_cons_self, h, List.mem_cons_self, rfl⟩
    · obtain ⟨j', h1, h', h2, h3⟩ := mem_zw hx
      exact ⟨j', List.mem_cons_of_mem _ h1, h', List.mem_cons_of_mem _ h2, h3⟩
end M

namespace M
open PySem PySem.Spec PyProof.Rows L2
/-! ### pictures -/
abbrev Pc := Str × Int
def pD (p : Pc) : D := .tuple [.str p.1, .int p.2]
def PcOk (l : List Pc) : Prop := ∀ p ∈ l, isLk p.1
def leP : Pc → Pc → Bool := PySem.W.dataLe false pD
def sortP (l : List Pc) : List Pc := l.mergeSort leP
theorem leP_tot : PySem.W.TotalLe leP := by
  show PySem.W.TotalLe (PySem.W.sortLe _ false _)
  exact PySem.W.sortLe_total _ _ _
theorem pD_inj {a b : Pc} (h : PySem.W.keyToks (pD a) = PySem.W.keyToks (pD b)) : a = b := by
  obtain ⟨x, i⟩ := a
  obtain ⟨y, j⟩ := b
  unfold pD at h
  simp only [PySem.W.keyToks, PySem.W.keyToksAll, List.cons_append, List.nil_append, List.cons.injEq, Sum.inl.injEq, Sum.inr.injEq, true_and, and_true] at h
  obtain ⟨h1, h2⟩ := h
  have e : x = y := PySem.W.str_of_cps h1
  rw [e, h2]
theorem leP_anti {a b : Pc} (h1 : leP a b = true) (h2 : leP b a = true) : a = b := by
  have h1 : (!PySem.W.dataLt (pD b) (pD a)) = true := h1
  have h2 : (!PySem.W.dataLt (pD a) (pD b)) = true := h2
  rw [Bool.not_eq_true'] at h1 h2
  exact pD_inj (lex_total _ _ h2 h1)
theorem sortP_perm (l : List Pc) : (sortP l).Perm l := List.mergeSort_perm _ _
theorem sortP_eq {l k : List Pc} : sortP l = sortP k ↔ l.Perm k := by
  constructor
  · intro h
    exact (sortP_perm l).symm.trans (h ▸ sortP_perm k)
  · intro h
    exact List.Perm.eq_of_pairwise (le := fun a b => leP a b = true) (fun a b _ _ => leP_anti) (PySem.W.sort_pairwise leP_tot l) (PySem.W.sort_pairwise leP_tot k) ((sortP_perm l).trans (h.trans (sortP_perm k).symm))
theorem PcOk.perm {l k : List Pc} (h : PcOk l) (p : k.Perm l) : PcOk k := fun x hx => h x (p.mem_iff.mp hx)
theorem PcOk.sort {l : List Pc} (h : PcOk l) : PcOk (sortP l) := h.perm (sortP_perm l)
def markI (h : Hd) (t : Int) : Int := h.2.1 + h.1 * t
def picL (m : Int) (hs : List Hd) (t : Int) : List Pc := hs.map fun h => (h.2.2, markI h t % m)
def movL (m sg r : Int) (l : List Pc) : List Pc := l.map fun p => (p.1, (sg * p.2 + r) % m)
theorem picL_ok {m : Int} {hs : List Hd} {t : Int} (hk : ∀ h ∈ hs, isLk h.2.2) : PcOk (picL m hs t) := fun p hp => by
  obtain ⟨h, hh, rfl⟩ := List.mem_map.mp hp
  exact hk h hh
theorem PcOk.mov {m sg r : Int} {l : List Pc} (h : PcOk l) : PcOk (movL m sg r l) := fun p hp => by
  obtain ⟨x, hx, rfl⟩ := List.mem_map.mp hp
  exact h x hx
def InM (m : Int) (l : List Pc) : Prop := ∀ p ∈ l, 0 ≤ p.2 ∧ p.2 < m
theorem picL_in {m : Int} (hm : 0 < m) (hs : List Hd) (t : Int) : InM m (picL m hs t) := fun p hp => by
  obtain ⟨h, _, rfl⟩ := List.mem_map.mp hp
  exact ⟨Int.emod_nonneg _ (by omega), Int.emod_lt_of_pos _ hm⟩
theorem movL_comp {m a r b s : Int} (l : List Pc) : movL m b s (movL m a r l) = movL m (b * a) (b * r + s) l := by
  unfold movL
  rw [List.map_map]
  refine List.map_congr_left fun p _ => ?_
  show (p.1, (b * ((a * p.2 + r) % m) + s) % m) = (p.1, (b * a * p.2 + (b * r + s)) % m)
  have e := Int.mul_ediv_add_emod (a * p.2 + r) m
  refine congrArg (Prod.mk p.1) (Int.emod_eq_emod_iff_emod_sub_eq_zero.mpr (Int.emod_eq_zero_of_dvd ⟨-(b * ((a * p.2 + r) / m)), ?_⟩))
  generalize (a * p.2 + r) / m = q at *
  generalize (a * p.2 + r) % m = w at *
  grind
theorem movL_id {m r : Int} {l : List Pc} (h : InM m l) (hr : m ∣ r) : movL m 1 r l = l := by
  unfold movL
  have : ∀ p ∈ l, (p.1, (1 * p.2 + r) % m) = p := fun p hp => by
    obtain ⟨c, rfl⟩ := hr
    rw [Int.one_mul, Int.add_mul_emod_self_left, Int.emod_eq_of_lt (h p hp).1 (h p hp).2]
  rw [List.map_congr_left this, List.map_id'']
  exact fun _ => rfl
theorem movL_cong {m sg r s : Int} (l : List Pc) (h : m ∣ r - s) : movL m sg r l = movL m sg s l := by
  unfold movL
  refine List.map_congr_left fun p _ => congrArg (Prod.mk p.1) ?_
  exact Int.emod_eq_emod_iff_emod_sub_eq_zero.mpr (Int.emod_eq_zero_of_dvd (by rw [show sg * p.2 + r - (sg * p.2 + s) = r - s by omega]; exact h))
/-- a sign that the clock allows -/
def SgOk (mir : Bool) (sg : Int) : Prop := sg = 1 ∨ (mir = true ∧ sg = -1)
/-- two ticks show one picture -/
def Show (m : Int) (hs : List Hd) (bl mir : Bool) (t u : Int) : Prop := ∃ sg r : Int, SgOk mir sg ∧ (bl = false → r = 0) ∧ (movL m sg r (picL m hs t)).Perm (picL m hs u)
theorem SgOk.sq {mir : Bool} {sg : Int} (h : SgOk mir sg) : sg * sg = 1 := by
  rcases h with h | ⟨_, h⟩ <;> subst h <;> rfl
theorem SgOk.mul {mir : Bool} {a b : Int} (h : SgOk mir a) (k : SgOk mir b) : SgOk mir (b * a) := by
  rcases h with rfl | ⟨h, rfl⟩
  · rcases k with rfl | ⟨k, rfl⟩
    · exact .inl rfl
    · exact .inr ⟨k, rfl⟩
  · rcases k with rfl | ⟨k, rfl⟩
    · exact .inr ⟨h, rfl⟩
    · exact .inl rfl
theorem Show.refl {m : Int} (hm : 0 < m) (hs : List Hd) (bl mir : Bool) (t : Int) : Show m hs bl mir t t := ⟨1, 0, .inl rfl, fun _ => rfl, by rw [movL_id (picL_in hm hs t) ⟨0, by omega⟩]⟩
theorem Show.symm {m : Int} (hm : 0 < m) {hs : List Hd} {bl mir : Bool} {t u : Int} (h : Show m hs bl mir t u) : Show m hs bl mir u t := by
  obtain ⟨sg, r, h1, h2, h3⟩ := h
  refine ⟨sg, -(sg * r), h1, fun b => by rw [h2 b]; omega, ?_⟩
  have h4 : (movL m sg (-(sg * r)) (movL m sg r (picL m hs t))).Perm (movL m sg (-(sg * r)) (picL m hs u)) := h3.map _
  rw [movL_comp, h1.sq, movL_id (picL_in hm hs t) ⟨0, by omega⟩] at h4
  exact h4.symm
theorem Show.trans {m : Int} {hs : List Hd} {bl mir : Bool} {t u w : Int} (h : Show m hs bl mir t u) (k : Show m hs bl mir u w) : Show m hs bl mir t w := by
  obtain ⟨a, r, h1, h2, h3⟩ := h
  obtain ⟨b, s, k1, k2, k3⟩ := k
  refine ⟨b * a, b * r + s, h1.mul k1, fun e => by rw [h2 e, k2 e]; omega, ?_⟩
  have h4 : (movL m b s (movL m a r (picL m hs t))).Perm (movL m b s (picL m hs u)) := h3.map _
  rw [movL_comp] at h4
  exact h4.trans k3
/-! by readings -/
theorem perm_idx {α β : Type} {g : α → β} : ∀ {l k : List β}, l.Perm k → ∀ s : List α, k = s.map g → ∃ s' : List α, s'.Perm s ∧ l = s'.map g := by
  intro l k h
  induction h with
  | nil => intro s hs; exact ⟨s, List.Perm.refl _, hs⟩
  | cons x p ih =>
    intro s hs
    cases s with
    | nil => cases hs
    | cons a s =>
      rw [List.map_cons] at hs
      injection hs with h1 h2
      obtain ⟨s', h3, h4⟩ := ih s h2
      exact ⟨a :: s', h3.cons a, by rw [List.map_cons, h4, h1]⟩
  | swap x y l =>
    intro s hs
    cases s with
    | nil => cases hs
    | cons a s =>
      cases s with
      | nil => cases hs
      | cons b s =>
        rw [List.map_cons, List.map_cons] at hs
        injection hs with h1 hs
        injection hs with h2 h3
        exact ⟨b :: a :: s, List.Perm.swap a b s, by rw [List.map_cons, List.map_cons, h1, h2, h3]⟩
  | trans p q ih1 ih2 =>
    intro s hs
    obtain ⟨s1, h1, h2⟩ := ih2 s hs
    obtain ⟨s2, h3, h4⟩ := ih1 s1 h2
    exact ⟨s2, h3.trans h1, h4⟩
theorem orders_mem (n : Nat) : ∀ (k : Nat) (o : List Nat), o.length = k → (∀ j ∈ o, j < n) → o.Nodup → o ∈ ordersGo n k
  | 0, o, h, _, _ => by
    have := List.eq_nil_of_length_eq_zero h
    subst this
    simp [ordersGo]
  | k + 1, o, h, h1, h2 => by
    obtain ⟨p, j, rfl⟩ : ∃ p j, o = p ++ [j] := by
      have hne : o ≠ [] := fun e => by rw [e] at h; cases h
      exact ⟨o.dropLast, o.getLast hne, (List.dropLast_concat_getLast hne).symm⟩
    rw [List.length_append, List.length_singleton] at h
    obtain ⟨n1, _, n3⟩ := List.nodup_append.mp h2
    have hp := orders_mem n k p (by omega) (fun i hi => h1 i (List.mem_append_left _ hi)) n1
    show _ ∈ (ordersGo n k).flatMap (nextO n)
    refine List.mem_flatMap.mpr ⟨p, hp, List.mem_map.mpr ⟨j, List.mem_filter.mpr ⟨List.mem_range.mpr (h1 j (by simp)), decide_eq_true fun hj => n3 j hj j (by simp) rfl⟩, rfl⟩⟩
theorem perm_of_sub {α : Type} [BEq α] [LawfulBEq α] : ∀ {xs ys : List α}, xs.Nodup → (∀ x ∈ xs, x ∈ ys) → ys.length ≤ xs.length → xs.Perm ys
  | [], ys, _, _, h => by
    have := List.eq_nil_of_length_eq_zero (Nat.le_zero.mp h)
    rw [this]
  | x :: xs, ys, hn, hs, hl => by
    obtain ⟨h1, h2⟩ := List.nodup_cons.mp hn
    have hx := hs x List.mem_cons_self
    refine (List.Perm.cons x (perm_of_sub h2 (fun y hy => ?_) ?_)).trans (List.perm_cons_erase hx).symm
    · exact (List.mem_erase_of_ne (fun e => h1 (by rw [← e]; exact hy))).mpr (hs y (List.mem_cons_of_mem _ hy))
    · rw [List.length_erase_of_mem hx]
      rw [List.length_cons] at hl
      omega
theorem SwOk.perm {n : Nat} {o : List Nat} (h : SwOk n o) : o.Perm (List.range n) := by
  have hs : ∀ j ∈ o, j ∈ List.range n := fun j hj => List.mem_range.mpr (h.lt j hj)
  exact perm_of_sub h.nd hs (by rw [List.length_range, h.len]; exact Nat.le_refl _)
theorem swOk_of_perm {n : Nat} {o : List Nat} (h : o.Perm (List.range n)) : SwOk n o :=
  ⟨by rw [h.length_eq, List.length_range], fun j hj => List.mem_range.mp (h.mem_iff.mp hj), h.symm.nodup List.nodup_range⟩
theorem swaps_mem {looks : List Str} {o : List Nat} (h : SwOk looks.length o) (hl : ∀ i, i < looks.length → ∀ j, o[i]? = some j → looks[j]? = looks[i]?) : o ∈ swapsL looks := by
  rw [swapsL_orders]
  refine List.mem_filter.mpr ⟨orders_mem _ _ _ h.len h.lt h.nd, decide_eq_true ?_⟩
  rw [List.take_length]
  refine List.ext_getElem? fun i => ?_
  rw [List.getElem?_map, List.getElem?_map]
  by_cases hi : i < looks.length
  · have hio : i < o.length := by rw [h.len]; exact hi
    have := hl i hi o[i] (List.getElem?_eq_getElem hio)
    rw [List.getElem?_eq_getElem hio, Option.map_some, this, List.getElem?_eq_getElem hi]
    rfl
  · rw [List.getElem?_eq_none (by rw [h.len]; omega), List.getElem?_eq_none (by omega)]
    rfl
end M

namespace M
open PySem PySem.Spec PyProof.Rows L2
abbrev h0D : Hd := (0, 0, ⟨#[]⟩)
theorem turn_iff {m r t u : Int} {hs : List Hd} {mv : Bool} {j : Nat} {h : Hd} : turn1 m hs mv t u j h = r % m ↔ (sgn mv * (markI h t % m) + r) % m = markI (hs.getD j h0D) u % m := by
  have hX : (if mv then 0 - (h.2.1 + h.1 * t) else h.2.1 + h.1 * t) = sgn mv * markI h t := by
    cases mv
    · show h.2.1 + h.1 * t = 1 * (h.2.1 + h.1 * t)
      rw [Int.one_mul]
    · show 0 - (h.2.1 + h.1 * t) = -1 * (h.2.1 + h.1 * t)
      omega
  unfold turn1
  rw [hX]
  show (markI (hs.getD j h0D) u - sgn mv * markI h t) % m = _ ↔ _
  generalize markI (hs.getD j h0D) u = A
  generalize markI h t = B
  generalize sgn mv = s
  rw [Int.emod_eq_emod_iff_emod_sub_eq_zero, Int.emod_eq_emod_iff_emod_sub_eq_zero]
  have e := Int.mul_ediv_add_emod B m
  generalize B / m = q at *
  generalize B % m = w at *
  constructor
  · intro h
    obtain ⟨c, hc⟩ := Int.dvd_of_emod_eq_zero h
    exact Int.emod_eq_zero_of_dvd ⟨-c - s * q, by grind⟩
  · intro h
    obtain ⟨c, hc⟩ := Int.dvd_of_emod_eq_zero h
    exact Int.emod_eq_zero_of_dvd ⟨-c - s * q, by grind⟩
def pcA (m : Int) (hs : List Hd) (u : Int) (j : Nat) : Pc := ((hs.getD j h0D).2.2, markI (hs.getD j h0D) u % m)
def pcB (m s r t : Int) (h : Hd) : Pc := (h.2.2, (s * (markI h t % m) + r) % m)
theorem map_iff {m r t u : Int} {hs0 : List Hd} {mv : Bool} : ∀ {o : List Nat} {hs : List Hd}, o.length = hs.length → (o.map (pcA m hs0 u) = hs.map (pcB m (sgn mv) r t) ↔ o.map (fun j => (hs0.getD j h0D).2.2) = hs.map (fun h => h.2.2) ∧ ∀ x ∈ List.zipWith (turn1 m hs0 mv t u) o hs, x = r % m)
  | [], [], _ => by simp
  | [], _ :: _, h => by simp at h
  | _ :: _, [], h => by simp at h
  | j :: o, h :: hs, hl => by
    have ih := map_iff (m := m) (r := r) (t := t) (u := u) (hs0 := hs0) (mv := mv) (o := o) (hs := hs) (by simpa using hl)
    rw [List.map_cons, List.map_cons, List.map_cons, List.map_cons, List.zipWith_cons_cons, List.cons.injEq, List.cons.injEq, List.forall_mem_cons, ih, turn_iff]
    unfold pcA pcB
    rw [Prod.mk.injEq]
    constructor
    · rintro ⟨⟨a, b⟩, c, d⟩
      exact ⟨⟨a, c⟩, b.symm, d⟩
    · rintro ⟨⟨a, c⟩, b, d⟩
      exact ⟨⟨a, b.symm⟩, c, d⟩
theorem turnsL_rng {m : Int} (hm : 0 < m) {hs : List Hd} {r : Rd} {t u x : Int} (h : x ∈ turnsL m hs r t u) : x % m = x := by
  unfold turnsL at h
  obtain ⟨j, _, y, _, rfl⟩ := mem_zw h
  obtain ⟨a, b⟩ := turn1_rng hm hs r.2 t u j y
  exact Int.emod_eq_of_lt a b
theorem taken_iff {m : Int} (hm : 0 < m) {hs : List Hd} {bl : Bool} {rd : Rd} {t u : Int} : takenB m (rowsL m hs bl rd) t u = true ↔ ∃ r, (bl = false → r = 0) ∧ ∀ x ∈ turnsL m hs rd t u, x = r % m := by
  cases bl
  · rw [taken_plain hm, List.all_eq_true]
    constructor
    · intro h
      exact ⟨0, fun _ => rfl, fun x hx => by rw [Int.zero_emod]; exact of_decide_eq_true (h x hx)⟩
    · rintro ⟨r, h1, h2⟩ x hx
      have := h2 x hx
      rw [h1 rfl, Int.zero_emod] at this
      exact decide_eq_true this
  · rw [taken_blank hm]
    have hr := fun x => turnsL_rng hm (hs := hs) (r := rd) (t := t) (u := u) (x := x)
    generalize turnsL m hs rd t u = l at *
    cases l with
    | nil => exact ⟨fun _ => ⟨0, fun _ => rfl, fun x hx => by cases hx⟩, fun _ => rfl⟩
    | cons a l =>
      rw [List.tail_cons, List.headD_cons, List.all_eq_true]
      constructor
      · intro h
        refine ⟨a, fun z => (by cases z), fun x hx => ?_⟩
        rw [hr a List.mem_cons_self]
        rcases List.mem_cons.mp hx with rfl | hx
        · rfl
        · exact of_decide_eq_true (h x hx)
      · rintro ⟨r, _, h2⟩ x hx
        rw [h2 x (List.mem_cons_of_mem _ hx), h2 a List.mem_cons_self]
        exact decide_eq_true rfl
theorem map_getD (hs : List Hd) (F : Hd → Pc) : hs.map F = (List.range hs.length).map fun j => F (hs.getD j h0D) := by
  refine List.ext_getElem? fun i => ?_
  rw [List.getElem?_map, List.getElem?_map]
  by_cases hi : i < hs.length
  · rw [List.getElem?_range hi, List.getElem?_eq_getElem hi, Option.map_some, Option.map_some, getD_eq hi]
  · rw [List.getElem?_eq_none (by omega), List.getElem?_eq_none (by rw [List.length_range]; omega)]
    rfl
theorem movL_picL (m s r t : Int) (hs : List Hd) : movL m s r (picL m hs t) = hs.map (pcB m s r t) := by
  unfold movL picL
  rw [List.map_map]
  rfl
theorem picL_pcA (m u : Int) (hs : List Hd) : picL m hs u = (List.range hs.length).map (pcA m hs u) := map_getD hs _
theorem readOf_mem {mir mv : Bool} {sw : List (List Nat)} {o : List Nat} (h : o ∈ sw) (h2 : mv = true → mir = true) : (o, mv) ∈ readL mir sw := by
  unfold readL
  refine List.mem_flatMap.mpr ⟨o, h, ?_⟩
  cases mir
  · cases mv
    · simp
    · cases h2 rfl
  · cases mv <;> simp
theorem show_iff {m : Int} (hm : 0 < m) {hs : List Hd} {bl mir : Bool} {t u : Int} : Show m hs bl mir t u ↔ ∃ rd ∈ readOf hs mir, takenB m (rowsL m hs bl rd) t u = true := by
  constructor
  · rintro ⟨sg, r, h1, h2, h3⟩
    obtain ⟨mv, rfl, hmv⟩ : ∃ mv : Bool, sg = sgn mv ∧ (mv = true → mir = true) := by
      rcases h1 with rfl | ⟨h1, rfl⟩
      · exact ⟨false, rfl, fun z => by cases z⟩
      · exact ⟨true, rfl, fun _ => h1⟩
    rw [movL_picL] at h3
    obtain ⟨o, p, e⟩ := perm_idx h3 (List.range hs.length) (picL_pcA m u hs)
    have hsw := swOk_of_perm p
    obtain ⟨e1, e2⟩ := (map_iff hsw.len).mp e.symm
    refine ⟨(o, mv), readOf_mem (swaps_mem (by rw [List.length_map]; exact hsw) fun i hi j hj => ?_) hmv, (taken_iff hm).mpr ⟨r, h2, e2⟩⟩
    rw [List.length_map] at hi
    have hjn := hsw.lt j (List.mem_of_getElem? hj)
    have := congrArg (fun l : List Str => l[i]?) e1
    try dsimp only at this
    rw [List.getElem?_map, hj, Option.map_some, getD_eq hjn] at this
    rw [List.getElem?_map (i := j), List.getElem?_eq_getElem hjn, Option.map_some]
    exact this
  · rintro ⟨⟨o, mv⟩, h1, h2⟩
    obtain ⟨h3, h4⟩ := readL_mem h1
    obtain ⟨h5, h6⟩ := swapsL_ok h3
    rw [List.length_map] at h5 h6
    obtain ⟨r, h7, h8⟩ := (taken_iff hm).mp h2
    refine ⟨sgn mv, r, ?_, h7, ?_⟩
    · cases mv
      · exact .inl rfl
      · exact .inr ⟨h4 rfl, rfl⟩
    · rw [movL_picL, picL_pcA, ← (map_iff h5.len).mpr ⟨?_, h8⟩]
      · exact h5.perm.map _
      · refine List.ext_getElem? fun i => ?_
        rw [List.getElem?_map]
        by_cases hi : i < hs.length
        · obtain ⟨j, e1, e2⟩ := h6 i hi
          have hjn := h5.lt j (List.mem_of_getElem? e1)
          rw [List.getElem?_map, List.getElem?_map, List.getElem?_eq_getElem hjn, Option.map_some] at e2
          rw [e1, Option.map_some, getD_eq hjn, e2, List.getElem?_map]
        · rw [List.getElem?_eq_none (by rw [h5.len]; omega), List.getElem?_eq_none (by rw [List.length_map]; omega)]
          rfl
theorem irange_at {n k : Nat} {d : D} (h : (irange 0 n)[k]? = some d) : d = .int (k : Int) ∧ k < n := by
  rw [irange_nat, List.getElem?_map] at h
  by_cases hk : k < n
  · rw [List.getElem?_range hk] at h
    cases h
    exact ⟨rfl, hk⟩
  · rw [List.getElem?_eq_none (by rw [List.length_range]; omega)] at h
    cases h
/-! rows of a table -/
end M

namespace M
open PySem PySem.Spec PyProof.Rows L2
/-! ### numbers solved -/
def Slv (m : Int) (fs ds : List Int) (x : Int) : Prop := ∀ p ∈ fs.zip ds, m ∣ p.1 * x - p.2
theorem dot_slv {m x : Int} : ∀ {ws fs ds : List Int}, fs.length = ds.length → Slv m fs ds x → m ∣ dot ws ds - x * dot ws fs
  | [], _, _, _, _ => ⟨0, by simp [dot]⟩
  | _ :: _, [], [], _, _ => ⟨0, by simp [dot]⟩
  | _ :: _, [], _ :: _, h, _ => by simp at h
  | _ :: _, _ :: _, [], h, _ => by simp at h
  | w :: ws, f :: fs, d :: ds, hl, h => by
    obtain ⟨a, ha⟩ := dot_slv (ws := ws) (fs := fs) (ds := ds) (by simpa using hl) fun p hp => h p (by rw [List.zip_cons_cons]; exact List.mem_cons_of_mem _ hp)
    obtain ⟨b, hb⟩ := h (f, d) (by rw [List.zip_cons_cons]; exact List.mem_cons_self)
    refine ⟨a - w * b, ?_⟩
    show w * d + dot ws ds - x * (w * f + dot ws fs) = _
    have hb : f * x - d = m * b := hb
    grind
theorem dvd_mod_sub (m a : Int) : m ∣ a % m - a := ⟨-(a / m), by have := Int.mul_ediv_add_emod a m; grind⟩
end M

namespace M
open PySem PySem.Spec PyProof.Rows L2
/-! ### whole papers -/
theorem taken_dvd {m t u : Int} {R : List Rw} (h : takenB m R t u = true) : ∀ r ∈ R, m ∣ r.1 * u - r.2.1 * t - r.2.2 := fun r hr => by
  unfold takenB at h
  exact Int.dvd_of_emod_eq_zero (of_decide_eq_true (List.all_eq_true.mp h r hr))
end M

namespace M
open PySem PySem.Spec PyProof.Rows L2
/-! what multipliers of rows of multipliers come to -/
/-- a paper of a reading that shows that it takes no other tick for any -/
def PaperOk (m : Int) (R : List Rw) (d : D) : Prop := ∃ (w : Str) (ms : List Int), d = .tuple [.str w, .tuple (ms.map .int)] ∧ ms.length = R.length ∧ (∀ x ∈ ms, 0 ≤ x ∧ x < m) ∧
  ((w = "never" ∧ m ∣ dot ms (R.map (·.1)) ∧ m ∣ dot ms (R.map fun r => r.2.1) ∧ ¬ m ∣ dot ms (R.map fun r => r.2.2)) ∨ (w = "one" ∧ m ∣ dot ms (R.map (·.1)) - 1 ∧ m ∣ dot ms (R.map fun r => r.2.1) - 1 ∧ m ∣ dot ms (R.map fun r => r.2.2)))
theorem dot_taken {m t u : Int} : ∀ (ms : List Int) (R : List Rw), (∀ r ∈ R, m ∣ r.1 * u - r.2.1 * t - r.2.2) → m ∣ dot ms (R.map (·.1)) * u - dot ms (R.map fun r => r.2.1) * t - dot ms (R.map fun r => r.2.2)
  | [], _, _ => ⟨0, by simp [dot]⟩
  | _ :: _, [], _ => ⟨0, by simp [dot]⟩
  | w :: ws, r :: R, h => by
    obtain ⟨a, ha⟩ := dot_taken (m := m) (t := t) (u := u) ws R fun x hx => h x (List.mem_cons_of_mem _ hx)
    obtain ⟨b, hb⟩ := h r List.mem_cons_self
    rw [List.map_cons, List.map_cons, List.map_cons]
    exact ⟨w * b + a, by show (w * r.1 + dot ws _) * u - (w * r.2.1 + dot ws _) * t - (w * r.2.2 + dot ws _) = _; grind⟩
theorem PaperOk.clear {m t u : Int} {R : List Rw} {d : D} (P : PaperOk m R d) (h : takenB m R t u = true) : m ∣ u - t := by
  obtain ⟨w, ms, _, _, _, P⟩ := P
  obtain ⟨a, ha⟩ := dot_taken ms R (taken_dvd h)
  rcases P with ⟨_, ⟨b, hb⟩, ⟨c, hc⟩, hd⟩ | ⟨_, ⟨b, hb⟩, ⟨c, hc⟩, ⟨d, hd⟩⟩
  · exact absurd ⟨b * u - c * t - a, by grind⟩ hd
  · exact ⟨a - b * u + c * t + d, by grind⟩
/-- what whole_paper tells -/
def WholeOf (m : Int) (hs : List Hd) (bl mir : Bool) (d : D) : Prop := (∃ (t u : Int) (r : Rd), d = .tuple [.str "rival", .int t, .int u, rD r] ∧ r ∈ readOf hs mir ∧ 0 ≤ t ∧ t < m ∧ 0 ≤ u ∧ u < m ∧ u ≠ t ∧ takenB m (rowsL m hs bl r) t u = true) ∨
  ∃ ps : List D, d = .tuple [.str "clear", .list ps] ∧ ps.length = (readOf hs mir).length ∧ ∀ k (h1 : k < (readOf hs mir).length) (h2 : k < ps.length), PaperOk m (rowsL m hs bl (readOf hs mir)[k]) ps[k]
theorem papers_clear {m : Int} (hm : 0 < m) {hs : List Hd} {bl mir : Bool} {ps : List D} (hl : ps.length = (readOf hs mir).length) (h : ∀ k (h1 : k < (readOf hs mir).length) (h2 : k < ps.length), PaperOk m (rowsL m hs bl (readOf hs mir)[k]) ps[k]) {t u : Int} (hS : Show m hs bl mir t u) : m ∣ u - t := by
  obtain ⟨rd, hrd, hT⟩ := (show_iff hm).mp hS
  obtain ⟨k, hk, rfl⟩ := List.mem_iff_getElem.mp hrd
  exact (h k hk (by omega)).clear hT
end M

namespace M
open PySem PySem.Spec PyProof.Rows L2
/-- no coarse clock -/
def Fine (m : Int) (hs : List Hd) (bl : Bool) : Prop := Gd m (firstsL m hs bl) 1
def Cm (hs : List Hd) (bl : Bool) (d : Int) : Prop := if bl then ∀ h ∈ hs, ∀ h' ∈ hs, d ∣ h.1 - h'.1 else ∀ h ∈ hs, d ∣ h.1
theorem dvd_mod {m d a : Int} (h : d ∣ m) : d ∣ a % m ↔ d ∣ a := by
  obtain ⟨c, hc⟩ := h
  have e := Int.mul_ediv_add_emod a m
  constructor
  · rintro ⟨b, hb⟩
    exact ⟨c * (a / m) + b, by grind⟩
  · rintro ⟨b, hb⟩
    exact ⟨b - c * (a / m), by grind⟩
theorem firstsR {m : Int} {hs : List Hd} {bl : Bool} {r : Rd} (ho : SwOk hs.length r.1) (h1 : 1 ≤ hs.length) {d : Int} (hd : d ∣ m) : (∀ n ∈ (rowsL m hs bl r).map (·.1), d ∣ n) ↔ Cm hs bl d := by
  obtain ⟨o, mv⟩ := r
  have hol := ho.len
  have key : ∀ (o : List Nat) (xs : List Hd), o.length = xs.length → (List.zipWith (row1 m hs mv) o xs).map (·.1) = o.map fun j => (hs.getD j h0D).1 := by
    intro o
    induction o with
    | nil => intro xs _; rfl
    | cons j o ih =>
      intro xs hx
      cases xs with
      | nil => simp at hx
      | cons x xs =>
        rw [List.zipWith_cons_cons, List.map_cons, List.map_cons, ih xs (by simpa using hx)]
        rfl
  have hk := key o hs hol
  have hmem : ∀ P : Hd → Prop, (∀ j ∈ o, P (hs.getD j h0D)) ↔ ∀ h ∈ hs, P h := fun P => by
    constructor
    · intro h x hx
      obtain ⟨i, hi, rfl⟩ := List.mem_iff_getElem.mp hx
      have := h i (ho.perm.symm.mem_iff.mp (List.mem_range.mpr hi))
      rw [getD_eq hi] at this
      exact this
    · intro h j hj
      have := ho.lt j hj
      rw [getD_eq this]
      exact h _ (List.getElem_mem _)
  cases bl
  · show (∀ n ∈ (rows0 m hs (o, mv)).map (·.1), d ∣ n) ↔ ∀ h ∈ hs, d ∣ h.1
    show (∀ n ∈ (List.zipWith (row1 m hs mv) o hs).map (·.1), d ∣ n) ↔ ∀ h ∈ hs, d ∣ h.1
    rw [hk, List.forall_mem_map]
    exact hmem fun h => d ∣ h.1
  · show (∀ n ∈ ((rows0 m hs (o, mv)).tail.map (fun x => lessR m x ((rows0 m hs (o, mv)).headD (0, 0, 0)))).map (·.1), d ∣ n) ↔ ∀ h ∈ hs, ∀ h' ∈ hs, d ∣ h.1 - h'.1
    have hk : (rows0 m hs (o, mv)).map (·.1) = o.map fun j => (hs.getD j h0D).1 := hk
    cases hR : rows0 m hs (o, mv) with
    | nil =>
      rw [hR] at hk
      cases o with
      | nil => rw [List.length_nil] at hol; omega
      | cons _ _ => cases hk
    | cons r0 R =>
      rw [hR] at hk
      cases o with
      | nil => cases hk
      | cons j0 o =>
        rw [List.map_cons, List.map_cons] at hk
        injection hk with e0 e1
        rw [List.tail_cons, List.headD_cons, List.map_map, List.forall_mem_map]
        have h2 : (∀ x ∈ R, d ∣ ((fun x : Rw => x.1) ∘ fun x => lessR m x r0) x) ↔ ∀ j ∈ o, d ∣ (hs.getD j h0D).1 - (hs.getD j0 h0D).1 := by
          have : (∀ x ∈ R, d ∣ ((fun x : Rw => x.1) ∘ fun x => lessR m x r0) x) ↔ ∀ n ∈ R.map (·.1), d ∣ n - r0.1 := by
            rw [List.forall_mem_map]
            exact forall_congr' fun x => forall_congr' fun _ => dvd_mod hd
          rw [this, e1, e0, List.forall_mem_map]
        rw [h2]
        constructor
        · intro h
          have h3 : ∀ x ∈ hs, d ∣ x.1 - (hs.getD j0 h0D).1 := (hmem fun x => d ∣ x.1 - (hs.getD j0 h0D).1).mp fun j hj => by
            rcases List.mem_cons.mp hj with rfl | hj
            · exact ⟨0, by omega⟩
            · exact h j hj
          intro x hx y hy
          obtain ⟨a, ha⟩ := h3 x hx
          obtain ⟨b, hb⟩ := h3 y hy
          exact ⟨a - b, by grind⟩
        · intro h j hj
          have hj2 := ho.lt j (List.mem_cons_of_mem _ hj)
          have hj3 := ho.lt j0 List.mem_cons_self
          rw [getD_eq hj2, getD_eq hj3]
          exact h _ (List.getElem_mem _) _ (List.getElem_mem _)
theorem fine_iff {m : Int} {hs : List Hd} {bl : Bool} (hm : 0 < m) (h1 : 1 ≤ hs.length) : Fine m hs bl ↔ ∀ d : Int, d ∣ m → Cm hs bl d → d ∣ 1 := by
  have e := rowsL_firsts hm hs bl
  have key : ∀ d : Int, d ∣ m → ((∀ n ∈ firstsL m hs bl, d ∣ n) ↔ Cm hs bl d) := fun d hd => by
    rw [← e]
    exact firstsR (swOk_range _) h1 hd
  constructor
  · intro h d hd hc
    exact h.all d hd ((key d hd).mpr hc)
  · intro h
    exact ⟨by omega, ⟨m, by omega⟩, fun n _ => ⟨n, by omega⟩, fun d hd hc => h d hd ((key d hd).mp hc)⟩
theorem Fine.rows {m : Int} {hs : List Hd} {bl : Bool} {r : Rd} (hm : 0 < m) (h1 : 1 ≤ hs.length) (ho : SwOk hs.length r.1) (F : Fine m hs bl) : Gd m ((rowsL m hs bl r).map (·.1)) 1 :=
  ⟨by omega, ⟨m, by omega⟩, fun n _ => ⟨n, by omega⟩, fun d hd hc => (fine_iff hm h1).mp F d hd ((firstsR ho h1 hd).mp hc)⟩
theorem slv_map {m : Int} {R : List Rw} {f : Rw → Int} {u : Int} : Slv m (R.map (·.1)) (R.map f) u ↔ ∀ r ∈ R, m ∣ r.1 * u - f r := by
  unfold Slv
  rw [List.zip_map', List.forall_mem_map]
theorem slv_taken {m t u : Int} {R : List Rw} : Slv m (R.map (·.1)) (R.map fun r => (r.2.1 * t + r.2.2) % m) u ↔ takenB m R t u = true := by
  rw [slv_map]
  unfold takenB
  rw [List.all_eq_true]
  refine forall_congr' fun r => forall_congr' fun _ => ?_
  rw [decide_eq_true_eq]
  obtain ⟨c, hc⟩ := dvd_mod_sub m (r.2.1 * t + r.2.2)
  constructor
  · rintro ⟨a, ha⟩
    exact Int.emod_eq_zero_of_dvd ⟨a + c, by grind⟩
  · intro h
    obtain ⟨a, ha⟩ := Int.dvd_of_emod_eq_zero h
    exact ⟨a - c, by grind⟩
end M

namespace M
open PySem PySem.Spec PyProof.Rows L2
/-- what numbers solved tell, each with what shows it -/
def SolW (m : Int) (fs ds : List Int) (d : D) : Prop :=
  (∃ es : List Int, d = .tuple [.str "not", .list (es.map .int)] ∧ es.length = fs.length ∧ (∀ e ∈ es, e.natAbs ≤ 10 ^ 121) ∧ m ∣ dot es fs ∧ ¬ m ∣ dot es ds) ∨
  (∃ (x : Int) (ws : List Int), d = .tuple [.str "all", .int x, .int m, .list (ws.map .int)] ∧ 0 ≤ x ∧ x < m ∧ We m fs 1 ws ∧ ∀ u, Slv m fs ds u ↔ u % m = x)
theorem slv_dotE {m u : Int} {fs ds es : List Int} (hl : fs.length = ds.length) (h : Slv m fs ds u) (he : m ∣ dot es fs) : m ∣ dot es ds := by
  obtain ⟨a, ha⟩ := dot_slv (ws := es) hl h
  obtain ⟨c, hc⟩ := he
  exact ⟨a + u * c, by grind⟩
theorem SolW.not {m : Int} {fs ds : List Int} {es : List Int} (hl : fs.length = ds.length) (h1 : m ∣ dot es fs) (h2 : ¬ m ∣ dot es ds) (u : Int) : ¬ Slv m fs ds u := fun h => h2 (slv_dotE hl h h1)
def dueL (m t : Int) (R : List Rw) : List Int := R.map fun r => (r.2.1 * t + r.2.2) % m
/-- what a reading tells of a tick -/
def OneW (m : Int) (R : List Rw) (t : Int) (d : D) : Prop :=
  (∃ es : List Int, d = .tuple [.str "not", .list (es.map .int)] ∧ es.length = R.length ∧ (∀ e ∈ es, e.natAbs ≤ 10 ^ 121) ∧ m ∣ dot es (R.map (·.1)) ∧ ¬ m ∣ dot es (dueL m t R)) ∨
  (∃ (x : Int) (ws : List Int), d = .tuple [.str "all", .int x, .int m, .list (ws.map .int)] ∧ 0 ≤ x ∧ x < m ∧ We m (R.map (·.1)) 1 ws ∧ ∀ u, takenB m R t u = true ↔ u % m = x)
theorem OneW.not {m t : Int} {R : List Rw} {es : List Int} (h1 : m ∣ dot es (R.map (·.1))) (h2 : ¬ m ∣ dot es (dueL m t R)) (u : Int) : ¬ takenB m R t u = true := fun h =>
  SolW.not (by unfold dueL; rw [List.length_map, List.length_map]) h1 h2 u (slv_taken.mpr h)
/-- what a tick's paper says of a reading: no other tick is taken by it -/
def TickPaper (m : Int) (R : List Rw) (t : Int) (p : D) : Prop :=
  (∃ es : List Int, p = .tuple [.str "not", .tuple (es.map .int)] ∧ es.length = R.length ∧ (∀ e ∈ es, e.natAbs ≤ 10 ^ 121) ∧ m ∣ dot es (R.map (·.1)) ∧ ¬ m ∣ dot es (dueL m t R)) ∨
  (∃ ws : List Int, p = .tuple [.str "one", .tuple (ws.map .int)] ∧ We m (R.map (·.1)) 1 ws ∧ ∀ u, takenB m R t u = true ↔ u % m = t % m)
theorem TickPaper.clear {m t u : Int} {R : List Rw} {p : D} (h : TickPaper m R t p) (k : takenB m R t u = true) : u % m = t % m := by
  rcases h with ⟨es, rfl, _, _, h1, h2⟩ | ⟨ws, rfl, _, h3⟩
  · exact absurd k (OneW.not h1 h2 u)
  · exact (h3 u).mp k
end M

namespace M
open PySem PySem.Spec PyProof.Rows L2
def Met (m : Int) (E S : Int → Prop) (xs : List Int) : Prop := xs.Nodup ∧ ∀ u, u ∈ xs ↔ (0 ≤ u ∧ u < m) ∧ E u ∧ S u
theorem Met.cong {m : Int} {E S S' : Int → Prop} {xs : List Int} (h : Met m E S xs) (k : ∀ u, S' u ↔ S u) : Met m E S' xs := ⟨h.1, fun u => by rw [h.2 u, k u]⟩
theorem Met.nil (m : Int) (E : Int → Prop) : Met m E (fun _ => False) [] := ⟨List.nodup_nil, fun u => ⟨fun h => (by cases h), fun h => h.2.2.elim⟩⟩
theorem Met.not {m : Int} {E S P : Int → Prop} {xs : List Int} (h : Met m E S xs) (hp : ∀ u, ¬ P u) : Met m E (fun u => S u ∨ P u) xs := h.cong fun u => ⟨fun k => k.elim id fun k => (hp u k).elim, .inl⟩
theorem Met.old {m x : Int} {E S P : Int → Prop} {xs : List Int} (h : Met m E S xs) (hp : ∀ u, P u ↔ u % m = x) (hx : ¬ E x ∨ x ∈ xs) : Met m E (fun u => S u ∨ P u) xs := ⟨h.1, fun u => by
  constructor
  · intro k
    obtain ⟨a, b, c⟩ := (h.2 u).mp k
    exact ⟨a, b, .inl c⟩
  · rintro ⟨a, b, c | c⟩
    · exact (h.2 u).mpr ⟨a, b, c⟩
    · have e := (hp u).mp c
      rw [Int.emod_eq_of_lt a.1 a.2] at e
      subst e
      rcases hx with hx | hx
      · exact absurd b hx
      · exact hx⟩
theorem Met.new {m x : Int} {E S P : Int → Prop} {xs : List Int} (h : Met m E S xs) (hp : ∀ u, P u ↔ u % m = x) (h0 : 0 ≤ x) (h1 : x < m) (he : E x) (hx : x ∉ xs) : Met m E (fun u => S u ∨ P u) (xs ++ [x]) :=
  ⟨List.nodup_append.mpr ⟨h.1, by simp, fun a ha b hb e => hx (by rw [List.mem_singleton] at hb; rw [← hb, ← e]; exact ha)⟩, fun u => by
    rw [List.mem_append, List.mem_singleton, h.2 u]
    constructor
    · rintro (⟨a, b, c⟩ | rfl)
      · exact ⟨a, b, .inl c⟩
      · exact ⟨⟨h0, h1⟩, he, .inr ((hp u).mpr (Int.emod_eq_of_lt h0 h1))⟩
    · rintro ⟨a, b, c | c⟩
      · exact .inl ⟨a, b, c⟩
      · have e := (hp u).mp c
        rw [Int.emod_eq_of_lt a.1 a.2] at e
        exact .inr e⟩
end M

namespace M
open PySem PySem.Spec PyProof.Rows L2
/-! ### the least image of a picture -/
theorem toks_pDs : ∀ {l k : List Pc}, PySem.W.keyToksAll (l.map pD) = PySem.W.keyToksAll (k.map pD) → l = k
  | [], [], _ => rfl
  | [], _ :: _, h => by simp [PySem.W.keyToksAll] at h
  | _ :: _, [], h => by simp [PySem.W.keyToksAll] at h
  | (x, i) :: l, (y, j) :: k, h => by
    unfold pD at h
    simp only [List.map_cons, PySem.W.keyToksAll, PySem.W.keyToks, List.cons_append, List.nil_append, List.cons.injEq, Sum.inl.injEq, Sum.inr.injEq, true_and] at h
    obtain ⟨h1, h2, h3⟩ := h
    have e : x = y := PySem.W.str_of_cps h1
    rw [e, h2, toks_pDs (l := l) (k := k) h3]
def lpD (l : List Pc) : D := .list (l.map pD)
def leL : List Pc → List Pc → Bool := PySem.W.dataLe false lpD
theorem leL_anti {a b : List Pc} (h1 : leL a b = true) (h2 : leL b a = true) : a = b := by
  have h1 : (!PySem.W.dataLt (lpD b) (lpD a)) = true := h1
  have h2 : (!PySem.W.dataLt (lpD a) (lpD b)) = true := h2
  rw [Bool.not_eq_true'] at h1 h2
  have h3 := lex_total _ _ h2 h1
  unfold lpD at h3
  simp only [PySem.W.keyToks] at h3
  exact toks_pDs h3
structure Least (S : List (List Pc)) (L : List Pc) : Prop where
  mem : L ∈ S
  le : ∀ z ∈ S, leL L z = true
theorem least_uniq {S S' : List (List Pc)} {L L' : List Pc} (h : Least S L) (h' : Least S' L') (e : ∀ z, z ∈ S ↔ z ∈ S') : L = L' :=
  leL_anti (h.le _ ((e _).mpr h'.mem)) (h'.le _ ((e _).mp h.mem))
def sgnsL (mir : Bool) : List Int := if mir then [1, -1] else [1]
theorem sgns_ok {mir : Bool} {sg : Int} : sg ∈ sgnsL mir ↔ SgOk mir sg := by
  unfold sgnsL SgOk
  cases mir <;> simp
def backsL (bl : Bool) (row : List Pc) : List Int := if bl then row.map (·.2) else [0]
def imgs1 (m : Int) (bl : Bool) (P : List Pc) (sg : Int) : List (List Pc) := (backsL bl (movL m sg 0 P)).map fun b => sortP (movL m 1 (-b) (movL m sg 0 P))
def imgsL (m : Int) (bl mir : Bool) (P : List Pc) : List (List Pc) := (sgnsL mir).flatMap (imgs1 m bl P)
/-- one picture is another one, moved -/
def ShowL (m : Int) (bl mir : Bool) (P P' : List Pc) : Prop := ∃ sg r : Int, SgOk mir sg ∧ (bl = false → r = 0) ∧ (movL m sg r P).Perm P'
theorem ShowL.symm {m : Int} {bl mir : Bool} {P P' : List Pc} (hP : InM m P) (h : ShowL m bl mir P P') : ShowL m bl mir P' P := by
  obtain ⟨sg, r, h1, h2, h3⟩ := h
  refine ⟨sg, -(sg * r), h1, fun b => by rw [h2 b]; omega, ?_⟩
  have h4 : (movL m sg (-(sg * r)) (movL m sg r P)).Perm (movL m sg (-(sg * r)) P') := h3.map _
  rw [movL_comp, h1.sq, movL_id hP ⟨0, by omega⟩] at h4
  exact h4.symm
theorem img_mem {m : Int} {bl mir : Bool} {P : List Pc} {z : List Pc} : z ∈ imgsL m bl mir P ↔ ∃ sg b : Int, SgOk mir sg ∧ b ∈ backsL bl (movL m sg 0 P) ∧ z = sortP (movL m sg (-b) P) := by
  unfold imgsL imgs1
  rw [List.mem_flatMap]
  constructor
  · rintro ⟨sg, h1, h2⟩
    obtain ⟨b, h3, rfl⟩ := List.mem_map.mp h2
    refine ⟨sg, b, sgns_ok.mp h1, h3, ?_⟩
    rw [movL_comp, Int.one_mul, Int.mul_zero, Int.zero_add]
  · rintro ⟨sg, b, h1, h2, rfl⟩
    refine ⟨sg, sgns_ok.mpr h1, List.mem_map.mpr ⟨b, h2, ?_⟩⟩
    rw [movL_comp, Int.one_mul, Int.mul_zero, Int.zero_add]
theorem backs_iff {m sg b : Int} {bl : Bool} {P : List Pc} : b ∈ backsL bl (movL m sg 0 P) ↔ if bl then ∃ p ∈ P, b = sg * p.2 % m else b = 0 := by
  unfold backsL movL
  cases bl
  · simp
  · simp only [if_true, List.map_map, List.mem_map, Function.comp]
    constructor
    · rintro ⟨p, hp, rfl⟩
      exact ⟨p, hp, by rw [Int.add_zero]⟩
    · rintro ⟨p, hp, rfl⟩
      exact ⟨p, hp, by rw [Int.add_zero]⟩
theorem imgs_sub {m : Int} {bl mir : Bool} {P P' : List Pc} (h : ShowL m bl mir P P') {z : List Pc} (hz : z ∈ imgsL m bl mir P') : z ∈ imgsL m bl mir P := by
  obtain ⟨sg, r, h1, h2, h3⟩ := h
  obtain ⟨sg', b', k1, k2, rfl⟩ := img_mem.mp hz
  have hp : (movL m sg' (-b') P').Perm (movL m (sg' * sg) (sg' * r + -b') P) := by
    rw [← movL_comp]
    exact (h3.map _).symm
  rw [backs_iff] at k2
  refine img_mem.mpr ?_
  cases bl
  · rw [if_neg (by decide)] at k2
    subst k2
    refine ⟨sg' * sg, 0, h1.mul k1, backs_iff.mpr (by rw [if_neg (by decide)]), ?_⟩
    rw [h2 rfl, Int.mul_zero, Int.zero_add] at hp
    exact sortP_eq.mpr hp
  · rw [if_pos rfl] at k2
    obtain ⟨p', hp', rfl⟩ := k2
    obtain ⟨p, hpm, rfl⟩ := List.mem_map.mp (h3.mem_iff.mpr hp')
    refine ⟨sg' * sg, sg' * sg * p.2 % m, h1.mul k1, backs_iff.mpr (by rw [if_pos rfl]; exact ⟨p, hpm, rfl⟩), ?_⟩
    refine sortP_eq.mpr (hp.trans ?_)
    rw [movL_cong (s := -(sg' * sg * p.2 % m))]
    dsimp only
    obtain ⟨a, ha⟩ := dvd_mod_sub m (sg' * ((sg * p.2 + r) % m))
    obtain ⟨c, hc⟩ := dvd_mod_sub m (sg * p.2 + r)
    obtain ⟨e, he⟩ := dvd_mod_sub m (sg' * sg * p.2)
    exact ⟨e - a - sg' * c, by grind⟩
theorem imgs_show {m : Int} {bl mir : Bool} {P P' z : List Pc} (hP' : InM m P') (h : z ∈ imgsL m bl mir P) (h' : z ∈ imgsL m bl mir P') : ShowL m bl mir P P' := by
  obtain ⟨a, b, h1, h2, rfl⟩ := img_mem.mp h
  obtain ⟨a', b', k1, k2, e⟩ := img_mem.mp h'
  have hp := sortP_eq.mp e
  refine ⟨a' * a, a' * -b + a' * b', h1.mul k1, fun hb => ?_, ?_⟩
  · subst hb
    rw [backs_iff, if_neg (by decide)] at h2 k2
    rw [h2, k2]
    omega
  · have h4 : (movL m a' (a' * b') (movL m a (-b) P)).Perm (movL m a' (a' * b') (movL m a' (-b') P')) := hp.map _
    rw [movL_comp, movL_comp, k1.sq, movL_id hP' ⟨0, by grind⟩] at h4
    exact h4
theorem norm_eq {m : Int} {bl mir : Bool} {P P' L L' : List Pc} (hP : InM m P) (hP' : InM m P') (h : Least (imgsL m bl mir P) L) (h' : Least (imgsL m bl mir P') L') : L = L' ↔ ShowL m bl mir P P' := by
  constructor
  · rintro rfl
    exact imgs_show hP' h.mem h'.mem
  · intro hs
    exact least_uniq h h' fun z => ⟨imgs_sub (hs.symm hP), imgs_sub hs⟩
theorem imgs_ok {m : Int} {bl mir : Bool} {P : List Pc} (h : PcOk P) : ∀ z ∈ imgsL m bl mir P, PcOk z := fun z hz => by
  obtain ⟨a, b, _, _, rfl⟩ := img_mem.mp hz
  exact h.mov.sort
theorem imgs_len {m : Int} {bl mir : Bool} {P : List Pc} : ∀ z ∈ imgsL m bl mir P, z.length = P.length := fun z hz => by
  obtain ⟨a, b, _, _, rfl⟩ := img_mem.mp hz
  rw [(sortP_perm _).length_eq]
  unfold movL
  rw [List.length_map]
end M

namespace M
open PySem PySem.Spec PyProof.Rows L2
theorem showL_pics {m : Int} {hs : List Hd} {bl mir : Bool} {t u : Int} : ShowL m bl mir (sortP (picL m hs t)) (sortP (picL m hs u)) ↔ Show m hs bl mir t u := by
  constructor
  · rintro ⟨sg, r, h1, h2, h3⟩
    exact ⟨sg, r, h1, h2, ((sortP_perm _).symm.map _).trans (h3.trans (sortP_perm _))⟩
  · rintro ⟨sg, r, h1, h2, h3⟩
    exact ⟨sg, r, h1, h2, ((sortP_perm _).map _).trans (h3.trans (sortP_perm _).symm)⟩
theorem InM.sort {m : Int} {l : List Pc} (h : InM m l) : InM m (sortP l) := fun p hp => h p ((sortP_perm l).mem_iff.mp hp)
/-- the least image of what a tick shows -/
def NormAt (m : Int) (hs : List Hd) (bl mir : Bool) (t : Int) (L : List Pc) : Prop := Least (imgsL m bl mir (sortP (picL m hs t))) L
theorem NormAt.eq {m : Int} (hm : 0 < m) {hs : List Hd} {bl mir : Bool} {t u : Int} {L K : List Pc} (h : NormAt m hs bl mir t L) (k : NormAt m hs bl mir u K) : L = K ↔ Show m hs bl mir t u :=
  (norm_eq (picL_in hm hs t).sort (picL_in hm hs u).sort h k).trans showL_pics
theorem NormAt.ok {m : Int} {hs : List Hd} {bl mir : Bool} {t : Int} {L : List Pc} (hk : HandsOk m hs) (h : NormAt m hs bl mir t L) : PcOk L := imgs_ok (picL_ok fun h hh => (hk h hh).2.2.2.2).sort L h.mem
theorem NormAt.len {m : Int} {hs : List Hd} {bl mir : Bool} {t : Int} {L : List Pc} (h : NormAt m hs bl mir t L) : L.length = hs.length := by
  rw [imgs_len L h.mem, (sortP_perm _).length_eq]
  exact List.length_map ..
end M

namespace M
open PySem PySem.Spec PyProof.Rows L2
end M

namespace M
open PySem PySem.Spec PyProof.Rows L2
end M

namespace M
open PySem PySem.Spec PyProof.Rows L2
/-! ### dicts by look-ups -/
theorem dfind_put (kvs : List (D × D)) (kd vd e : D) : dFind (dPut kvs kd vd) e = if nkOf e = nkOf kd then some vd else dFind kvs e := by
  unfold dPut
  cases hd : dFind kvs kd with
  | some d0 =>
    simp only [Option.isSome_some, if_true]
    unfold dFind at hd ⊢
    induction kvs with
    | nil => cases hd
    | cons p ps ih =>
      rw [List.find?_cons] at hd
      rw [List.map_cons, List.find?_cons]
      by_cases hp : nkOf p.1 = nkOf kd
      · rw [if_pos hp]
        by_cases he : nkOf e = nkOf kd
        · rw [if_pos he]
          have : decide (nkOf p.1 = nkOf e) = true := decide_eq_true (hp.trans he.symm)
          dsimp only
          rw [this]
          rfl
        · rw [if_neg he]
          have : decide (nkOf p.1 = nkOf e) = false := decide_eq_false fun z => he (z.symm.trans hp)
          dsimp only
          rw [this, List.find?_cons, this]
          dsimp only
          have hno : ∀ ps : List (D × D), ((ps.map fun p => if nkOf p.1 = nkOf kd then (p.1, vd) else p).find? fun p => decide (nkOf p.1 = nkOf e)).map (·.2) = (ps.find? fun p => decide (nkOf p.1 = nkOf e)).map (·.2) := by
            intro ps
            induction ps with
            | nil => rfl
            | cons q qs ih =>
              rw [List.map_cons, List.find?_cons, List.find?_cons]
              by_cases hq : nkOf q.1 = nkOf kd
              · rw [if_pos hq]
                have : decide (nkOf q.1 = nkOf e) = false := decide_eq_false fun z => he (z.symm.trans hq)
                dsimp only
                rw [this]
                exact ih
              · rw [if_neg hq]
                cases decide (nkOf q.1 = nkOf e)
                · exact ih
                · rfl
          exact hno ps
      · have hp' : decide (nkOf p.1 = nkOf kd) = false := decide_eq_false hp
        rw [hp'] at hd
        rw [if_neg hp, List.find?_cons]
        cases hpe : decide (nkOf p.1 = nkOf e) with
        | true =>
          have := of_decide_eq_true hpe
          rw [if_neg fun z => hp (this.trans z)]
        | false => exact ih hd
  | none =>
    simp only [Option.isSome_none, Bool.false_eq_true, if_false]
    unfold dFind at hd ⊢
    rw [List.find?_append]
    by_cases he : nkOf e = nkOf kd
    · rw [if_pos he]
      have hn : (kvs.find? fun p => decide (nkOf p.1 = nkOf e)) = none := by
        rw [he]
        exact Option.map_eq_none_iff.mp hd
      rw [hn, List.find?_cons]
      have : decide (nkOf kd = nkOf e) = true := decide_eq_true he.symm
      dsimp only
      rw [this]
      rfl
    · rw [if_neg he, List.find?_cons]
      have : decide (nkOf kd = nkOf e) = false := decide_eq_false fun z => he z.symm
      dsimp only
      rw [this]
      simp
theorem dput_all {P : D → Bool} {kvs : List (D × D)} {kd vd : D} (h : (kvs.all fun p => P p.1) = true) (hk : P kd = true) : ((dPut kvs kd vd).all fun p => P p.1) = true := by
  unfold dPut
  split
  · rw [List.all_map, List.all_eq_true]
    intro p hp
    have := List.all_eq_true.mp h p hp
    show P (if _ then _ else _ : D × D).1 = true
    split <;> exact this
  · rw [List.all_append, h]
    simp [hk]
theorem nk_str (x : Str) : nkOf (.str x) = some (.text x) := by unfold nkOf; rfl
theorem nk_str_iff {x y : Str} : nkOf (.str x) = nkOf (.str y) ↔ x = y := by
  rw [nk_str, nk_str]
  exact ⟨fun h => by cases h; rfl, fun h => by rw [h]⟩
/-! ### how many readings -/
def cntR {α : Type} [DecidableEq α] : List α → Nat
  | [] => 1
  | x :: xs => (xs.count x + 1) * cntR xs
structure MetOk (kvs : List (D × D)) (ls : List Str) : Prop where
  lk : (kvs.all fun p => isLK p.1) = true
  len : kvs.length ≤ ls.length
  at' : ∀ x, dFind kvs (.str x) = if ls.count x = 0 then none else some (.int (ls.count x : Nat))
theorem met_nil : MetOk [] [] := ⟨rfl, Nat.le_refl _, fun x => rfl⟩
theorem MetOk.mode {kvs : List (D × D)} {ls : List Str} (h : MetOk kvs ls) (x : Str) : kmode kvs (.str x) = true := by
  unfold kmode
  rw [h.lk]
  show (_ || (true && true)) = true
  rw [Bool.and_self, Bool.or_true]
theorem MetOk.getD {kvs : List (D × D)} {ls : List Str} (h : MetOk kvs ls) (x : Str) : (dFind kvs (.str x)).getD (.int 0) = .int (ls.count x : Nat) := by
  rw [h.at']
  split
  · rename_i e; rw [e]; rfl
  · rfl
theorem MetOk.put {kvs : List (D × D)} {ls : List Str} (h : MetOk kvs ls) (x : Str) : MetOk (dPut kvs (.str x) (.int ((ls.count x : Nat) + 1))) (x :: ls) := by
  refine ⟨dput_all h.lk rfl, ?_, fun y => ?_⟩
  · have := dput_len kvs (.str x) (.int ((ls.count x : Nat) + 1))
    have := h.len
    rw [List.length_cons]; omega
  · rw [dfind_put]
    by_cases e : y = x
    · subst e
      rw [if_pos rfl, List.count_cons_self, if_neg (by omega)]
      rfl
    · rw [if_neg fun z => e (nk_str_iff.mp z), h.at', List.count_cons_of_ne (fun z => e z.symm)]
theorem MetOk.after {kvs : List (D × D)} {ls : List Str} (h : MetOk kvs ls) (x : Str) : dFind (dPut kvs (.str x) (.int ((ls.count x : Nat) + 1))) (.str x) = some (.int ((ls.count x : Nat) + 1)) := by
  rw [dfind_put, if_pos rfl]
theorem cntR_perm {α : Type} [DecidableEq α] {xs ys : List α} (p : xs.Perm ys) : cntR xs = cntR ys := by
  induction p with
  | nil => rfl
  | cons x p ih => unfold cntR; rw [p.count_eq, ih]
  | swap x y l =>
    simp only [cntR]
    by_cases e : x = y
    · subst e; rfl
    · rw [List.count_cons_of_ne e, List.count_cons_of_ne (fun z => e z.symm), Nat.mul_left_comm]
  | trans _ _ h1 h2 => exact h1.trans h2
theorem cntR_le {α : Type} [DecidableEq α] : ∀ xs : List α, xs.length ≤ 6 → cntR xs ≤ 10 ^ 6
  | xs, h => by
    have : ∀ xs : List α, cntR xs ≤ 10 ^ xs.length ∨ 9 < xs.length := fun xs => by
      induction xs with
      | nil => exact .inl (Nat.le_refl _)
      | cons x xs ih =>
        rcases ih with ih | ih
        · by_cases hl : 9 < (x :: xs).length
          · exact .inr hl
          · left
            rw [List.length_cons] at hl ⊢
            have hc : xs.count x ≤ xs.length := List.count_le_length
            unfold cntR
            rw [Nat.pow_succ, Nat.mul_comm]
            exact Nat.mul_le_mul ih (by omega)
        · exact .inr (by rw [List.length_cons]; omega)
    rcases this xs with h1 | h1
    · exact Nat.le_trans h1 (Nat.pow_le_pow_right (by decide) h)
    · omega
def SeqD (ds : List D) (d : D) : Prop := d = .list ds ∨ d = .tuple ds
theorem SeqD.isS {ds : List D} {d : D} (h : SeqD ds d) (Q : List D → Prop) (q : Q ds) : IsS d Q := by
  rcases h with rfl | rfl
  · exact iss_l q
  · exact iss_t q
theorem SeqD.len {ds : List D} {d : D} (h : SeqD ds d) (Q : D → Prop) (q : Q (.int (ds.length : Int))) : WO (gLen d) Q := by
  rcases h with rfl | rfl
  · exact wo_lenL q
  · exact wo_lenT q
theorem lk_in {x : Str} (h : isLk x) (Q : D → Prop) (q : Q (.bool true)) : WO (gIs (.str x) (.str "abcdefghijklmnopqrstuvwxyz")) Q := by
  obtain ⟨c, h1, h2, rfl⟩ := h
  have key : ∀ c ∈ letters, (!(Builtin.Str.occurrences ("abcdefghijklmnopqrstuvwxyz" : Str) ⟨#[c]⟩ 0 ("abcdefghijklmnopqrstuvwxyz" : Str).length 1).isEmpty) = true := by decide +kernel
  have hm : c ∈ letters := by
    have e : letters = (List.range 26).map (· + 97) := by decide
    rw [e]
    exact List.mem_map.mpr ⟨c - 97, List.mem_range.mpr (by omega), by omega⟩
  exact ⟨_, by unfold gIs isIn; dsimp only; rw [key c hm]; rfl, q⟩
theorem lk_len {x : Str} (h : isLk x) : x.length = 1 := by
  obtain ⟨c, _, _, rfl⟩ := h
  rfl
theorem wo_lenS {x : Str} {Q : D → Prop} (q : Q (.int (x.length : Int))) (h : x.length < 1000) : WO (gLen (.str x)) Q :=
  ⟨_, by unfold gLen; dsimp only; rw [if_pos (fits_of (by omega))], q⟩
/-- hands by their rests -/
def redH (m : Int) (hs : List Hd) : List Hd := hs.map fun h => (h.1 % m, h.2.1 % m, h.2.2)
def redD (m : Int) : D → D
  | .tuple [.int g, .int s, x] => .tuple [.int (g % m), .int (s % m), x]
  | d => d
theorem redD_hands (m : Int) (hs : List Hd) : (hs.map hD).map (redD m) = (redH m hs).map hD := by
  unfold redH
  rw [List.map_map, List.map_map]
  rfl
theorem looks_red (m : Int) (hs : List Hd) : looksOf (redH m hs) = looksOf hs := by
  unfold redH
  show List.map _ (List.map _ hs) = _
  rw [List.map_map]
  rfl
end M

namespace M
open PySem PySem.Spec PyProof.Rows L2
/-! ### sets of numbers, by size -/
def keptN (hs : List Hd) (S : List Nat) : List Hd := S.map fun j => hs.getD j h0D
theorem keptN_len (hs : List Hd) (S : List Nat) : (keptN hs S).length = S.length := List.length_map ..
/-- no two ticks of the clock show one picture -/
def Clr (m : Int) (hs : List Hd) (bl mir : Bool) : Prop := ∀ t u : Int, Show m hs bl mir t u → m ∣ u - t
/-- a doubt of a clock, as it's told -/
def DbtOk (m : Int) (hs : List Hd) (bl mir : Bool) (d : D) : Prop := ∃ (t u : Int) (r : Rd), d = .tuple [.int t, .int u, rD r] ∧ r ∈ readOf hs mir ∧ 0 ≤ t ∧ t < m ∧ 0 ≤ u ∧ u < m ∧ u ≠ t ∧ takenB m (rowsL m hs bl r) t u = true
theorem not_dvd {m t u : Int} (t0 : 0 ≤ t) (t1 : t < m) (u0 : 0 ≤ u) (u1 : u < m) (h : u ≠ t) : ¬ m ∣ u - t := fun ⟨k, hk⟩ => by
  have h1 : k < 1 := by
    refine Int.not_le.mp fun h1 => ?_
    have : m * 1 ≤ m * k := Int.mul_le_mul_of_nonneg_left h1 (by omega)
    omega
  have h2 : -1 < k := by
    refine Int.not_le.mp fun h1 => ?_
    have : m * k ≤ m * (-1) := Int.mul_le_mul_of_nonneg_left h1 (by omega)
    omega
  have h3 : k = 0 := by omega
  subst h3
  omega
theorem DbtOk.not {m : Int} (hm : 0 < m) {hs : List Hd} {bl mir : Bool} {d : D} (h : DbtOk m hs bl mir d) : ¬ Clr m hs bl mir := fun C => by
  obtain ⟨t, u, r, rfl, hr, t0, t1, u0, u1, hne, hT⟩ := h
  exact not_dvd t0 t1 u0 u1 hne (C t u ((show_iff hm).mpr ⟨r, hr, hT⟩))
structure DbtsOk (m : Int) (bl mir : Bool) (Hs : List (List Hd)) (ds : List D) : Prop where
  len : ds.length = Hs.length
  ok : ∀ k (h1 : k < Hs.length) (h2 : k < ds.length), DbtOk m Hs[k] bl mir ds[k]
theorem DbtsOk.nil {m : Int} {bl mir : Bool} : DbtsOk m bl mir [] [] := ⟨rfl, fun k h => absurd h (Nat.not_lt_zero _)⟩
theorem DbtsOk.append {m : Int} {bl mir : Bool} {A B : List (List Hd)} {ds es : List D} (h : DbtsOk m bl mir A ds) (k : DbtsOk m bl mir B es) : DbtsOk m bl mir (A ++ B) (ds ++ es) := by
  refine ⟨by rw [List.length_append, List.length_append, h.len, k.len], fun i h1 h2 => ?_⟩
  have hl := h.len
  by_cases hi : i < A.length
  · rw [List.getElem_append_left hi, List.getElem_append_left (show i < ds.length by omega)]
    exact h.ok i hi (by omega)
  · rw [List.getElem_append_right (by omega), List.getElem_append_right (show ds.length ≤ i by omega)]
    have := k.ok (i - A.length) (by rw [List.length_append] at h1; omega) (by rw [List.length_append] at h2; omega)
    simpa [hl] using this
theorem DbtsOk.not {m : Int} (hm : 0 < m) {bl mir : Bool} {Hs : List (List Hd)} {ds : List D} (h : DbtsOk m bl mir Hs ds) {H : List Hd} (hH : H ∈ Hs) : ¬ Clr m H bl mir := by
  obtain ⟨k, hk, rfl⟩ := List.mem_iff_getElem.mp hH
  exact (h.ok k hk (by rw [h.len]; exact hk)).not hm
/-- what whole_paper tells -/
theorem WholeOf.two {m : Int} (hm : 0 < m) {hs : List Hd} {bl mir : Bool} {d : D} (h : WholeOf m hs bl mir d) : (∃ e : D, d = .tuple [.str "clear", e] ∧ Clr m hs bl mir) ∨ ∃ a b c : D, d = .tuple [.str "rival", a, b, c] ∧ DbtOk m hs bl mir (.tuple [a, b, c]) ∧ ¬ Clr m hs bl mir := by
  rcases h with ⟨t, u, r, rfl, hr, t0, t1, u0, u1, hne, hT⟩ | ⟨ps, rfl, hl, hp⟩
  · have hD : DbtOk m hs bl mir (.tuple [.int t, .int u, rD r]) := ⟨t, u, r, rfl, hr, t0, t1, u0, u1, hne, hT⟩
    exact .inr ⟨_, _, _, rfl, hD, hD.not hm⟩
  · exact .inl ⟨_, rfl, fun t u hS => papers_clear hm hl hp hS⟩
/-! data -/
def naD : D → Nat
  | .int i => i.toNat
  | _ => 0
theorem filter_mem {n : Nat} {S : List Nat} (h : S.Pairwise (· < ·)) (h2 : ∀ x ∈ S, x < n) : (List.range n).filter (fun x => decide (x ∈ S)) = S := by
  refine List.Perm.eq_of_pairwise (le := fun a b => a < b) (fun a b _ _ x y => by omega) (List.Pairwise.filter _ List.pairwise_lt_range) h ((List.perm_ext_iff_of_nodup (List.Nodup.sublist List.filter_sublist List.nodup_range) (h.imp fun {a b} h => Nat.ne_of_lt h)).mpr fun x => ?_)
  rw [List.mem_filter, List.mem_range, decide_eq_true_iff]
  exact ⟨fun h => h.2, fun h => ⟨h2 x h, h⟩⟩
theorem irange_get {lo : Int} {n k : Nat} {d : D} (h : (irange lo n)[k]? = some d) : d = .int (lo + (k : Int)) ∧ k < n := by
  unfold irange at h
  rw [List.getElem?_map] at h
  by_cases hk : k < n
  · rw [List.getElem?_range hk] at h
    cases h
    exact ⟨rfl, hk⟩
  · rw [List.getElem?_eq_none (by rw [List.length_range]; omega)] at h
    cases h
theorem range_getD (hs : List Hd) : (List.range hs.length).map (fun j => hs.getD j h0D) = hs := List.ext_getElem (by rw [List.length_map, List.length_range]) fun i h1 h2 => by
  rw [List.getElem_map, List.getElem_range, List.getD_eq_getElem?_getD, List.getElem?_eq_getElem h2]
  rfl
/-- hands told by their numbers are a part of the hands, in their order -/
theorem keptN_sub {hs : List Hd} : ∀ {S : List Nat}, S.Pairwise (· < ·) → (∀ x ∈ S, x < hs.length) → (keptN hs S).Sublist hs := fun {S} hr hS => by
  have h1 : S.Sublist (List.range hs.length) := by
    rw [← filter_mem hr hS]
    exact List.filter_sublist
  have h2 := h1.map fun j => hs.getD j h0D
  have e : (List.range hs.length).map (fun j => hs.getD j h0D) = hs := range_getD hs
  rw [e] at h2
  exact h2
theorem sub_keptN {hs : List Hd} {l : List Hd} (h : l.Sublist hs) : ∃ S : List Nat, S.Pairwise (· < ·) ∧ (∀ x ∈ S, x < hs.length) ∧ keptN hs S = l := by
  have e : (List.range hs.length).map (fun j => hs.getD j h0D) = hs := range_getD hs
  rw [← e] at h
  obtain ⟨S, hS, rfl⟩ := List.sublist_map_iff.mp h
  exact ⟨S, List.Pairwise.sublist hS List.pairwise_lt_range, fun x hx => List.mem_range.mp (hS.subset hx), rfl⟩
/-- the fewest hands that a clock is told clear by; 0 where none do -/
def FewK (m : Int) (hs : List Hd) (bl mir : Bool) (k : Nat) : Prop := if k = 0 then ∀ l : List Hd, l.Sublist hs → l ≠ [] → ¬ Clr m l bl mir else (∃ l : List Hd, l.Sublist hs ∧ l.length = k ∧ Clr m l bl mir) ∧ ∀ l : List Hd, l.Sublist hs → l ≠ [] → l.length < k → ¬ Clr m l bl mir
theorem FewK.uniq {m : Int} {hs hs' : List Hd} {bl mir : Bool} {k k' : Nat} (h : FewK m hs bl mir k) (h' : FewK m hs' bl mir k') (h1 : ∀ l : List Hd, l.Sublist hs → ∃ l' : List Hd, l'.Sublist hs' ∧ l'.length = l.length ∧ (Clr m l bl mir → Clr m l' bl mir)) (h2 : ∀ l : List Hd, l.Sublist hs' → ∃ l' : List Hd, l'.Sublist hs ∧ l'.length = l.length ∧ (Clr m l bl mir → Clr m l' bl mir)) : k = k' := by
  have key : ∀ {hs hs' : List Hd} {k k' : Nat}, FewK m hs bl mir k → FewK m hs' bl mir k' → (∀ l : List Hd, l.Sublist hs → ∃ l' : List Hd, l'.Sublist hs' ∧ l'.length = l.length ∧ (Clr m l bl mir → Clr m l' bl mir)) → k ≠ 0 → k' ≠ 0 ∧ k' ≤ k := by
    intro hs hs' k k' h h' h1 hk
    unfold FewK at h h'
    rw [if_neg hk] at h
    obtain ⟨⟨l, l1, l2, l3⟩, _⟩ := h
    obtain ⟨l', a1, a2, a3⟩ := h1 l l1
    have hne : l' ≠ [] := fun e => by
      subst e
      rw [List.length_nil] at a2
      omega
    by_cases hk' : k' = 0
    · rw [if_pos hk'] at h'
      exact absurd (a3 l3) (h' l' a1 hne)
    · rw [if_neg hk'] at h'
      refine ⟨hk', Nat.le_of_not_lt fun hlt => h'.2 l' a1 hne (by omega) (a3 l3)⟩
  by_cases hk : k = 0
  · by_cases hk' : k' = 0
    · omega
    · exact absurd hk (key h' h h2 hk').1
  · have a := key h h' h1 hk
    have b := key h' h h2 a.1
    omega
theorem FewK.not {m : Int} {hs : List Hd} {bl mir : Bool} {k : Nat} (h : FewK m hs bl mir k) {T : List Nat} (h1 : T ≠ []) (h2 : k = 0 ∨ T.length < k) (t2 : T.Pairwise (· < ·)) (t3 : ∀ x ∈ T, x < hs.length) : ¬ Clr m (keptN hs T) bl mir := by
  have hne : keptN hs T ≠ [] := fun e => h1 (List.map_eq_nil_iff.mp e)
  unfold FewK at h
  split at h
  · exact h _ (keptN_sub t2 t3) hne
  · exact h.2 _ (keptN_sub t2 t3) hne (by rw [keptN_len]; omega)
theorem FewK.some {m : Int} {hs : List Hd} {bl mir : Bool} {T : List Nat} (h0 : T ≠ []) (t2 : T.Pairwise (· < ·)) (t3 : ∀ x ∈ T, x < hs.length) (hC : Clr m (keptN hs T) bl mir) (hN : ∀ U : List Nat, U ≠ [] → U.Pairwise (· < ·) → (∀ x ∈ U, x < hs.length) → U.length < T.length → ¬ Clr m (keptN hs U) bl mir) : FewK m hs bl mir T.length := by
  unfold FewK
  rw [if_neg fun e => h0 (List.eq_nil_of_length_eq_zero e)]
  refine ⟨⟨_, keptN_sub t2 t3, keptN_len hs T, hC⟩, fun l hl hne hlt => ?_⟩
  obtain ⟨U, u1, u2, rfl⟩ := sub_keptN hl
  rw [keptN_len] at hlt
  exact hN U (fun e => hne (by rw [e]; rfl)) u1 u2 hlt
theorem FewK.none {m : Int} {hs : List Hd} {bl mir : Bool} (hN : ∀ U : List Nat, U ≠ [] → U.Pairwise (· < ·) → (∀ x ∈ U, x < hs.length) → ¬ Clr m (keptN hs U) bl mir) : FewK m hs bl mir 0 := by
  unfold FewK
  rw [if_pos rfl]
  intro l hl hne
  obtain ⟨U, u1, u2, rfl⟩ := sub_keptN hl
  exact hN U (fun e => hne (by rw [e]; rfl)) u1 u2
end M

namespace M
open PySem PySem.Spec PyProof.Rows L2
/-! ### looks drawn: how many readings they make -/
def pt2 (w : Nat) (o a : List Nat) : List Nat := if w = 2 ∧ 3 < o.length then a.set (o.getD 3 0) (a.getD (o.getD 2 0) 0) else a
theorem cntR_map {α β : Type} [DecidableEq α] [DecidableEq β] (f : α → β) : ∀ (xs : List α), (∀ a ∈ xs, ∀ b ∈ xs, f a = f b → a = b) → cntR (xs.map f) = cntR xs
  | [], _ => rfl
  | x :: xs, h => by
    have ih := cntR_map f xs fun a ha b hb => h a (List.mem_cons_of_mem _ ha) b (List.mem_cons_of_mem _ hb)
    have hc : (xs.map f).count (f x) = xs.count x := by
      have : ∀ ys : List α, (∀ y ∈ ys, y ∈ x :: xs) → (ys.map f).count (f x) = ys.count x := by
        intro ys
        induction ys with
        | nil => intro _; rfl
        | cons y ys ih =>
          intro hy
          have ih := ih fun z hz => hy z (List.mem_cons_of_mem _ hz)
          rw [List.map_cons]
          by_cases e : y = x
          · subst e
            rw [List.count_cons_self, List.count_cons_self, ih]
          · rw [List.count_cons_of_ne e, List.count_cons_of_ne (fun z => e (h y (hy y List.mem_cons_self) x List.mem_cons_self z)), ih]
      exact this xs fun y hy => List.mem_cons_of_mem _ hy
    rw [List.map_cons]
    show ((xs.map f).count (f x) + 1) * cntR (xs.map f) = (xs.count x + 1) * cntR xs
    rw [hc, ih]
end M

namespace M
open PySem PySem.Spec PyProof.Rows L2
def dtr (c : Nat) : Str := ⟨#[97 + c]⟩
theorem dtr_lk {c : Nat} (h : c < 26) : isLk (dtr c) := ⟨97 + c, by omega, by omega, rfl⟩
theorem dtr_inj {a b : Nat} (h : dtr a = dtr b) : a = b := by
  unfold dtr at h
  injection h with h
  have : (#[97 + a] : Array Nat).toList = (#[97 + b] : Array Nat).toList := by rw [h]
  simp at this
  exact this
theorem wo_abc {k : Int} {Q : D → Prop} (h0 : 0 ≤ k) (h1 : k < 26) (q : Q (.str (dtr k.toNat))) : WO (gIdx (.str "abcdefghijklmnopqrstuvwxyz") (.int k)) Q := by
  have e1 : ("abcdefghijklmnopqrstuvwxyz" : Str).cps = letters.toArray := by decide +kernel
  have e2 : fits ("abcdefghijklmnopqrstuvwxyz" : Str).length = true := by decide +kernel
  obtain ⟨n, rfl⟩ := Int.eq_ofNat_of_zero_le h0
  refine ⟨_, ?_, q⟩
  unfold gIdx
  dsimp only
  rw [e2, if_pos rfl, e1]
  have h2 : n < 26 := by omega
  have h3 : n < letters.toArray.toList.length := h2
  have h4 : ∀ n < 26, letters.toArray.toList[n]? = some (97 + n) := by decide +kernel
  unfold atI ixN
  rw [if_pos (by omega), if_pos (by omega), Option.bind_some, Int.toNat_natCast, h4 n h2]
  rfl
/-- the letters that a base gives -/
def ltrs (b : Nat) : List Str := (List.range 5).map fun k => dtr ((b + 5 * k) % 26)
theorem ltrs_inj {b i j : Nat} (hb : b < 26) (hi : i < 5) (hj : j < 5) (h : dtr ((b + 5 * i) % 26) = dtr ((b + 5 * j) % 26)) : i = j := by
  have := dtr_inj h
  omega
def ways : List (List Nat) := [[0, 1, 2, 3, 4], [0, 0, 1, 2, 3], [0, 0, 1, 1, 2], [0, 0, 0, 1, 2], [0, 1, 1, 2, 3], [0, 0, 1, 1, 2]]
def wayOf (w : Nat) (mir : Bool) : List Nat := if mir && (w == 2 || w == 3 || w == 5) then [0, 0, 1, 2, 3] else ways.getD w []
theorem wayOf_ok : ∀ w < 6, ∀ mir, ∀ n < 6, (wayOf w mir).length = 5 ∧ (∀ k ∈ wayOf w mir, k < 5) ∧ cntR ((wayOf w mir).take n) * (1 + if mir then 1 else 0) ≤ 6 := by decide +kernel
theorem cntR_ltrs {b : Nat} (hb : b < 26) {p : List Nat} (hp : ∀ k ∈ p, k < 5) : cntR (p.map fun k => dtr ((b + 5 * k) % 26)) = cntR p :=
  cntR_map _ _ fun i hi j hj e => ltrs_inj hb (hp i hi) (hp j hj) e
end M


namespace Lw
open PySem PySem.Spec PyProof.Rows L2 M
local macro_rules | `(tactic| walk_at "sd") => `(tactic| (first | (with_reducible assumption) | omega | (simp; done) | (simp; omega) | decide))
local macro_rules | `(tactic| walk_at "v1") => `(tactic| (first | ((with_reducible show WE _ _ _); first | with_reducible refine we_chain3 ?_ | with_reducible refine we_callNL ?_ | with_reducible refine we_callN ?_ | with_reducible refine we_c ?_ | with_reducible refine we_un ?_ | with_reducible refine we_bin ?_ | with_reducible refine we_chain ?_ | with_reducible refine we_and ?_ | with_reducible refine we_or ?_ | with_reducible refine we_not ?_ | with_reducible refine we_if ?_ | with_reducible refine we_fz ?_ | with_reducible refine we_tup ?_ | with_reducible refine we_sl ?_ | with_reducible refine we_tupRg ?_ | with_reducible refine we_bor ?_ | with_reducible refine we_call ?_ | with_reducible refine we_din ?_ | with_reducible refine we_borL ?_ | ((with_reducible apply we_v); (· rfl)) | ((with_reducible show WE (eO _) _ _); first | ((with_reducible apply we_oV); (· rfl)) | ((with_reducible apply we_oW); (· rfl)) | ((with_reducible apply we_oR); (· rfl))) | ((with_reducible show WE (eBinV _ _ _) _ _); first | ((with_reducible apply we_bV); (· rfl)) | ((with_reducible apply we_bVr); (· rfl)) | ((with_reducible apply we_bVv); (· rfl))) | ((with_reducible apply we_mut); (· rfl)) | ((with_reducible apply we_mut0); (· rfl)) | ((with_reducible apply we_dget2); (· rfl)) | ((with_reducible apply we_didx); (· rfl))) | ((with_reducible show WO _ _); first | ((with_reducible show WO (gIsO _ _) _); first | with_reducible refine wo_isON ?_ | ((with_reducible refine wo_isO (b := true) ?_ ?_); (· rfl)) | ((with_reducible refine wo_isO (b := false) ?_ ?_); (· rfl))) | with_reducible refine wo_attr ?_ | ((with_reducible show WO (valsA _) _); first | with_reducible refine vals_nil ?_ | with_reducible refine vals_v ?_) | with_reducible refine wo_isB ?_ | with_reducible refine wo_ntB ?_ | ((with_reducible show WO (backAr _ _ _) _); first | with_reducible refine back_nil ?_ | with_reducible refine back_v ?_ | with_reducible refine back_o ?_ | ((with_reducible apply back_r); (· rfl))) | ((with_reducible show WO (resArs _ _) _); first | with_reducible refine res_nil ?_ | with_reducible refine res_v ?_ | ((with_reducible apply res_r); (· rfl)) | ((with_reducible apply res_oO); (· rfl)) | ((with_reducible apply res_oR); (· rfl)) | ((with_reducible apply res_oV); (· rfl))) | ((with_reducible show WO (gAdd _ _) _); first | with_reducible refine wo_add ?_ | ((with_reducible refine wo_addL ?_ ?_); (· first | rfl | (apply fits_of; first | omega | (simp; omega)))) | ((with_reducible refine wo_addT ?_ ?_); (· first | rfl | (apply fits_of; first | omega | (simp; omega))))) | with_reducible refine wo_sub ?_ | with_reducible refine wo_neg ?_ | with_reducible refine wo_lt ?_ | with_reducible refine wo_le ?_ | with_reducible refine wo_gt ?_ | with_reducible refine wo_ge ?_ | ((with_reducible show WO (gEq _ _) _); first | with_reducible refine wo_eq ?_ | with_reducible refine wo_eqB ?_ | ((with_reducible refine wo_eqT ?_ ?_); (· decide +kernel)) | ((with_reducible refine wo_eqF ?_ ?_); (· decide +kernel))) | ((with_reducible show WO (gNe _ _) _); first | with_reducible refine wo_ne ?_ | with_reducible refine wo_neB ?_ | ((with_reducible refine wo_neT ?_ ?_); (· decide +kernel)) | ((with_reducible refine wo_neF ?_ ?_); (· decide +kernel))) | with_reducible refine wo_isN ?_ | with_reducible refine wo_ntN ?_ | ((with_reducible show WO (gLen _) _); first | with_reducible refine wo_lenL ?_ | with_reducible refine wo_lenT ?_) | with_reducible refine wo_abs ?_ | ((with_reducible show WO (gInt _) _); first | with_reducible refine wo_intB ?_ | with_reducible refine wo_intI ?_) | ((with_reducible show WO (gList _) _); first | with_reducible refine wo_listL ?_ | with_reducible refine wo_listT ?_) | ((with_reducible show WO (gTuple _) _); first | with_reducible refine wo_tupL ?_ | with_reducible refine wo_tupT ?_) | with_reducible refine wo_max ?_ | with_reducible refine wo_min ?_ | ((with_reducible show WO (gIsi _ _) _); first | with_reducible refine wo_isiI ?_ | with_reducible refine wo_isiB ?_ | ((with_reducible apply wo_isiE); (· rfl))) | ((with_reducible show WO (cutOf _ _ _) _); first | with_reducible refine wo_cutL ?_ | with_reducible refine wo_cutT ?_) | ((with_reducible show WO (gPow _ _) _); first | with_reducible refine wo_p10_60 ?_ | with_reducible refine wo_p10_18 ?_ | with_reducible refine wo_p10_30 ?_ | with_reducible refine wo_p2_24 ?_ | with_reducible refine wo_p10_8 ?_ | with_reducible refine wo_p10_19 ?_ | with_reducible refine wo_p10_55 ?_ | with_reducible refine wo_p10_59 ?_ | with_reducible refine wo_p3_30 ?_ | with_reducible refine wo_p2_40 ?_ | with_reducible refine wo_p10_54 ?_ | with_reducible refine wo_p3_13 ?_ | with_reducible refine wo_p2_20 ?_ | with_reducible refine wo_p10_57 ?_ | with_reducible refine wo_p10_40 ?_ | with_reducible refine wo_p10_61 ?_ | with_reducible refine wo_p10_50 ?_) | ((with_reducible apply wo_idxE); (· rfl)) | ((with_reducible apply wo_allE); (· rfl)) | ((with_reducible apply wo_anyE); (· rfl)) | ((with_reducible show WO (ixN _ _) _); first | ((with_reducible apply wo_ixE); (· rfl)) | ((with_reducible refine wo_ix ?_ ?_ ?_); (· walk_at "sd"); (· walk_at "sd"))) | ((with_reducible refine wo_mod ?_ ?_); (· walk_at "sd")) | ((with_reducible refine wo_div ?_ ?_ ?_); (· walk_at "sd"); (· walk_at "sd")) | ((with_reducible refine wo_mul ?_ ?_); (· first | exact mul_ok1 (by walk_at "sd") | exact mul_ok2 (by walk_at "sd") | exact mul_ok3 (by omega) (by omega))) | ((with_reducible refine wo_app ?_ ?_); (· first | rfl | (apply fits_of; first | omega | (simp; omega)))) | ((with_reducible refine wo_ext ?_ ?_); (· first | rfl | (apply fits_of; first | omega | (simp; omega))))) | ((with_reducible show WS _ _ _); first | with_reducible refine ws_try ?_ | with_reducible refine ws_retT ?_ | with_reducible refine ws_seq ?_ | with_reducible refine ws_expr ?_ | with_reducible refine ws_ret ?_ | with_reducible refine ws_retL ?_ | with_reducible refine ws_if ?_ | with_reducible refine ws_set ?_ | with_reducible refine ws_setO ?_ | with_reducible refine ws_asg ?_ | with_reducible refine ws_par ?_ | with_reducible refine ws_nil ?_ | with_reducible refine ws_retN ?_ | with_reducible refine ws_dput ?_ | with_reducible refine ws_dnew ?_ | ((with_reducible show WS (sFrz _ _) _ _); first | ((with_reducible apply ws_frz); (· rfl)) | ((with_reducible apply ws_frzV); (· rfl))) | ((with_reducible apply ws_retO); (· rfl)) | ((with_reducible apply ws_putI); (· rfl))) | ((with_reducible apply nrm_); (· (try simp only [wipeE, backE, List.set_cons_zero, List.set_cons_succ, List.getElem?_cons_zero, List.getElem?_cons_succ, List.cons_append, List.nil_append, List.replicate_succ, List.replicate_zero, Nat.reduceSub, unowns_nil, unowns_cons, unown_own, unown_val, unown_no, unown_ro, unown_dct]); rfl)) | ((with_reducible show IfB _ _ _); first | with_reducible refine ifb_not ?_ | with_reducible refine ifb_t ?_ | with_reducible refine ifb_f ?_ | ((with_reducible refine ifb_decT ?_ ?_); (· first | (with_reducible assumption) | omega | (simp only [List.length_cons, List.length_nil]; omega))) | ((with_reducible refine ifb_decF ?_ ?_); (· first | (with_reducible assumption) | omega | (simp only [List.length_cons, List.length_nil]; omega))) | with_reducible refine ifb_dec (fun _ => ?_) (fun _ => ?_) | ((with_reducible apply ifb_eT); (· rfl)) | ((with_reducible apply ifb_eF); (· rfl))) | ((with_reducible show WB _ _ _); first | with_reducible refine wb_bor ?_ | with_reducible refine wb_v ?_ | with_reducible refine wb_and ?_ | with_reducible refine wb_or ?_ | with_reducible refine wb_not ?_ | with_reducible refine wb_yes ?_) | with_reducible refine isb ?_ | ((with_reducible show WL _ _ _); first | with_reducible refine wl_nil ?_ | with_reducible refine wl_cons ?_ | with_reducible refine wl_lst ?_ | with_reducible refine wl_un ?_ | with_reducible refine wl_it ?_ | with_reducible refine wl_rng1 ?_ | with_reducible refine wl_rng2 ?_ | with_reducible refine wl_enum ?_ | with_reducible refine wl_enumA ?_ | with_reducible refine wl_addE ?_ | with_reducible refine wl_rg1 ?_ | with_reducible refine wl_bor ?_ | with_reducible refine wl_call ?_ | ((with_reducible apply wl_addO); (· rfl)) | ((with_reducible show WL (lSlV _ _ _) _ _); first | ((with_reducible apply wl_slO); (· rfl)) | ((with_reducible apply wl_slR); (· rfl)))) | ((with_reducible show WA _ _ _); first | with_reducible refine wa_nil ?_ | with_reducible refine wa_v ?_ | ((with_reducible apply wa_r); (· rfl)) | ((with_reducible show WA (aO _ _) _ _); first | ((with_reducible apply wa_oR); (· rfl)) | ((with_reducible apply wa_oO); (· rfl)) | ((with_reducible apply wa_oV); (· rfl)))) | ((with_reducible show IsS _ _); first | with_reducible refine iss_l ?_ | with_reducible refine iss_t ?_) | ((with_reducible refine fit_ ?_ ?_); (· first | rfl | (apply fits_of; first | omega | (simp; omega)))) | ((with_reducible show CallG _ _ _ _); first | ((with_reducible apply cg0); (· rfl)) | ((with_reducible apply cg1); (· rfl); (· rfl))) | ((with_reducible show WT _ _ _ _); first | with_reducible refine wt_n ?_ | ((with_reducible apply wt_t); (· rfl)) | ((with_reducible apply wt_unl); (· rfl))) | ((with_reducible show WTs _ _ _ _); first | with_reducible refine wts_nil ?_ | with_reducible refine wts_cons ?_) | ((with_reducible apply own_); (· rfl)) | ((with_reducible refine sml_ ?_ ?_ ?_); (· walk_at "sd"); (· walk_at "sd")) | with_reducible refine isi_ ?_ | ((with_reducible show WNl _ _ _); first | with_reducible refine wnl_l ?_ | with_reducible refine wnl_v ?_) | ((with_reducible show WSX _ _ _); first | with_reducible refine wsx_lift ?_ | with_reducible refine wsx_seq ?_ | with_reducible refine wsx_if ?_ | with_reducible refine wsx_raise0 ?_ | with_reducible refine wsx_expr ?_ | with_reducible refine wsx_ret ?_ | with_reducible refine wsx_set ?_) | with_reducible refine wex_call ?_ | ((with_reducible show WPu _ _ _ _); first | with_reducible refine wpu_nil ?_ | with_reducible refine wpu_seq ?_ | with_reducible refine wpu_ret ?_ | with_reducible refine wpu_if ?_) | ((with_reducible show WTd _ _ _ _ _); first | with_reducible refine wtd_P ?_ | with_reducible refine wtd_G ?_ | with_reducible refine wtd_If ?_ | ((with_reducible refine wtd_K ?_ ?_); (· exact ⟨rfl, by decide⟩)) | ((with_reducible refine wtd_U ?_ ?_); (· exact ⟨rfl, by decide⟩)) | ((with_reducible refine wtd_C ?_ ?_); (· rfl)) | ((with_reducible refine wtd_A ?_ ?_ ?_); (· rfl); (· first | rfl | (apply fits_of; first | omega | (simp; omega))))) | with_reducible refine two_ ?_ | ((with_reducible show WC _ _ _ _ _ _ _); first | with_reducible refine wc_nil ?_ | with_reducible refine wc_cons ?_) | ((with_reducible show WP _ _ _); first | with_reducible refine wp_no ?_ | with_reducible refine wp_e ?_) | with_reducible refine isl ?_ | ((with_reducible show RetT _ _ _); first | ((with_reducible apply retT1); (· rfl)) | ((with_reducible apply retT2); (· rfl))) | ((with_reducible show Any _ _); first | ((with_reducible apply any_o); (· rfl)) | ((with_reducible apply any_r); (· rfl))) | ((with_reducible show CallH _ _ _ _); first | ((with_reducible apply ch0); (· rfl)) | ((with_reducible apply ch1); (· rfl); (· rfl))) | ((with_reducible apply cgx0); (· rfl))))
local macro_rules | `(tactic| walk_at "v2") => `(tactic| (first | ((with_reducible show WE _ _ _); first | with_reducible refine we_chain3 ?_ | with_reducible refine we_callNL ?_ | with_reducible refine we_callN ?_ | with_reducible refine we_c ?_ | with_reducible refine we_un ?_ | with_reducible refine we_bin ?_ | with_reducible refine we_chain ?_ | with_reducible refine we_and ?_ | with_reducible refine we_or ?_ | with_reducible refine we_not ?_ | with_reducible refine we_if ?_ | with_reducible refine we_fz ?_ | with_reducible refine we_tup ?_ | with_reducible refine we_sl ?_ | with_reducible refine we_tupRg ?_ | with_reducible refine we_bor ?_ | with_reducible refine we_call ?_ | with_reducible refine we_din ?_ | with_reducible refine we_borL ?_ | ((with_reducible apply we_v); (· rfl)) | ((with_reducible show WE (eO _) _ _); first | ((with_reducible apply we_oV); (· rfl)) | ((with_reducible apply we_oW); (· rfl)) | ((with_reducible apply we_oR); (· rfl))) | ((with_reducible show WE (eBinV _ _ _) _ _); first | ((with_reducible apply we_bV); (· rfl)) | ((with_reducible apply we_bVr); (· rfl)) | ((with_reducible apply we_bVv); (· rfl))) | ((with_reducible apply we_mut); (· rfl)) | ((with_reducible apply we_mut0); (· rfl)) | ((with_reducible apply we_dget2); (· rfl)) | ((with_reducible apply we_didx); (· rfl))) | ((with_reducible show WO _ _); first | ((with_reducible show WO (gIsO _ _) _); first | with_reducible refine wo_isON ?_ | ((with_reducible refine wo_isO (b := true) ?_ ?_); (· rfl)) | ((with_reducible refine wo_isO (b := false) ?_ ?_); (· rfl))) | with_reducible refine wo_attr ?_ | ((with_reducible show WO (valsA _) _); first | with_reducible refine vals_nil ?_ | with_reducible refine vals_v ?_) | with_reducible refine wo_isB ?_ | with_reducible refine wo_ntB ?_ | ((with_reducible show WO (backAr _ _ _) _); first | with_reducible refine back_nil ?_ | with_reducible refine back_v ?_ | with_reducible refine back_o ?_ | ((with_reducible apply back_r); (· rfl))) | ((with_reducible show WO (resArs _ _) _); first | with_reducible refine res_nil ?_ | with_reducible refine res_v ?_ | ((with_reducible apply res_r); (· rfl)) | ((with_reducible apply res_oO); (· rfl)) | ((with_reducible apply res_oR); (· rfl)) | ((with_reducible apply res_oV); (· rfl))) | ((with_reducible show WO (gAdd _ _) _); first | with_reducible refine wo_add ?_ | ((with_reducible refine wo_addL ?_ ?_); (· first | rfl | (apply fits_of; first | omega | (simp; omega)))) | ((with_reducible refine wo_addT ?_ ?_); (· first | rfl | (apply fits_of; first | omega | (simp; omega))))) | with_reducible refine wo_sub ?_ | with_reducible refine wo_neg ?_ | with_reducible refine wo_lt ?_ | with_reducible refine wo_le ?_ | with_reducible refine wo_gt ?_ | with_reducible refine wo_ge ?_ | ((with_reducible show WO (gEq _ _) _); first | with_reducible refine wo_eq ?_ | with_reducible refine wo_eqB ?_ | ((with_reducible refine wo_eqT ?_ ?_); (· decide +kernel)) | ((with_reducible refine wo_eqF ?_ ?_); (· decide +kernel))) | ((with_reducible show WO (gNe _ _) _); first | with_reducible refine wo_ne ?_ | with_reducible refine wo_neB ?_ | ((with_reducible refine wo_neT ?_ ?_); (· decide +kernel)) | ((with_reducible refine wo_neF ?_ ?_); (· decide +kernel))) | with_reducible refine wo_isN ?_ | with_reducible refine wo_ntN ?_ | ((with_reducible show WO (gLen _) _); first | with_reducible refine wo_lenL ?_ | with_reducible refine wo_lenT ?_) | with_reducible refine wo_abs ?_ | ((with_reducible show WO (gInt _) _); first | with_reducible refine wo_intB ?_ | with_reducible refine wo_intI ?_) | ((with_reducible show WO (gList _) _); first | with_reducible refine wo_listL ?_ | with_reducible refine wo_listT ?_) | ((with_reducible show WO (gTuple _) _); first | with_reducible refine wo_tupL ?_ | with_reducible refine wo_tupT ?_) | with_reducible refine wo_max ?_ | with_reducible refine wo_min ?_ | ((with_reducible show WO (gIsi _ _) _); first | with_reducible refine wo_isiI ?_ | with_reducible refine wo_isiB ?_ | ((with_reducible apply wo_isiE); (· rfl))) | ((with_reducible show WO (cutOf _ _ _) _); first | with_reducible refine wo_cutL ?_ | with_reducible refine wo_cutT ?_) | ((with_reducible show WO (gPow _ _) _); first | with_reducible refine wo_p10_60 ?_ | with_reducible refine wo_p10_18 ?_ | with_reducible refine wo_p10_30 ?_ | with_reducible refine wo_p2_24 ?_ | with_reducible refine wo_p10_8 ?_ | with_reducible refine wo_p10_19 ?_ | with_reducible refine wo_p10_55 ?_ | with_reducible refine wo_p10_59 ?_ | with_reducible refine wo_p3_30 ?_ | with_reducible refine wo_p2_40 ?_ | with_reducible refine wo_p10_54 ?_ | with_reducible refine wo_p3_13 ?_ | with_reducible refine wo_p2_20 ?_ | with_reducible refine wo_p10_57 ?_ | with_reducible refine wo_p10_40 ?_ | with_reducible refine wo_p10_61 ?_ | with_reducible refine wo_p10_50 ?_) | ((with_reducible apply wo_idxE); (· rfl)) | ((with_reducible apply wo_allE); (· rfl)) | ((with_reducible apply wo_anyE); (· rfl)) | ((with_reducible show WO (ixN _ _) _); first | ((with_reducible apply wo_ixE); (· rfl)) | ((with_reducible refine wo_ix ?_ ?_ ?_); (· walk_at "sd"); (· walk_at "sd"))) | ((with_reducible refine wo_mod ?_ ?_); (· walk_at "sd")) | ((with_reducible refine wo_div ?_ ?_ ?_); (· walk_at "sd"); (· walk_at "sd")) | ((with_reducible refine wo_mul ?_ ?_); (· first | exact mul_ok1 (by walk_at "sd") | exact mul_ok2 (by walk_at "sd") | exact mul_ok3 (by omega) (by omega))) | ((with_reducible refine wo_app ?_ ?_); (· first | rfl | (apply fits_of; first | omega | (simp; omega)))) | ((with_reducible refine wo_ext ?_ ?_); (· first | rfl | (apply fits_of; first | omega | (simp; omega))))) | ((with_reducible show WS _ _ _); first | with_reducible refine ws_try ?_ | with_reducible refine ws_retT ?_ | with_reducible refine ws_seq ?_ | with_reducible refine ws_expr ?_ | with_reducible refine ws_ret ?_ | with_reducible refine ws_retL ?_ | with_reducible refine ws_set ?_ | with_reducible refine ws_setO ?_ | with_reducible refine ws_asg ?_ | with_reducible refine ws_par ?_ | with_reducible refine ws_nil ?_ | with_reducible refine ws_retN ?_ | with_reducible refine ws_dput ?_ | with_reducible refine ws_dnew ?_ | ((with_reducible show WS (sFrz _ _) _ _); first | ((with_reducible apply ws_frz); (· rfl)) | ((with_reducible apply ws_frzV); (· rfl))) | ((with_reducible apply ws_retO); (· rfl)) | ((with_reducible apply ws_putI); (· rfl))) | ((with_reducible apply nrm_); (· (try simp only [wipeE, backE, List.set_cons_zero, List.set_cons_succ, List.getElem?_cons_zero, List.getElem?_cons_succ, List.cons_append, List.nil_append, List.replicate_succ, List.replicate_zero, Nat.reduceSub, unowns_nil, unowns_cons, unown_own, unown_val, unown_no, unown_ro, unown_dct]); rfl)) | ((with_reducible show IfB _ _ _); first | with_reducible refine ifb_not ?_ | with_reducible refine ifb_t ?_ | with_reducible refine ifb_f ?_ | ((with_reducible refine ifb_decT ?_ ?_); (· first | (with_reducible assumption) | omega | (simp only [List.length_cons, List.length_nil]; omega))) | ((with_reducible refine ifb_decF ?_ ?_); (· first | (with_reducible assumption) | omega | (simp only [List.length_cons, List.length_nil]; omega))) | with_reducible refine ifb_dec (fun _ => ?_) (fun _ => ?_) | ((with_reducible apply ifb_eT); (· rfl)) | ((with_reducible apply ifb_eF); (· rfl))) | ((with_reducible show WB _ _ _); first | with_reducible refine wb_bor ?_ | with_reducible refine wb_v ?_ | with_reducible refine wb_and ?_ | with_reducible refine wb_or ?_ | with_reducible refine wb_not ?_ | with_reducible refine wb_yes ?_) | with_reducible refine isb ?_ | ((with_reducible show WL _ _ _); first | with_reducible refine wl_nil ?_ | with_reducible refine wl_cons ?_ | with_reducible refine wl_lst ?_ | with_reducible refine wl_un ?_ | with_reducible refine wl_it ?_ | with_reducible refine wl_rng1 ?_ | with_reducible refine wl_rng2 ?_ | with_reducible refine wl_enum ?_ | with_reducible refine wl_enumA ?_ | with_reducible refine wl_addE ?_ | with_reducible refine wl_rg1 ?_ | with_reducible refine wl_bor ?_ | with_reducible refine wl_call ?_ | ((with_reducible apply wl_addO); (· rfl)) | ((with_reducible show WL (lSlV _ _ _) _ _); first | ((with_reducible apply wl_slO); (· rfl)) | ((with_reducible apply wl_slR); (· rfl)))) | ((with_reducible show WA _ _ _); first | with_reducible refine wa_nil ?_ | with_reducible refine wa_v ?_ | ((with_reducible apply wa_r); (· rfl)) | ((with_reducible show WA (aO _ _) _ _); first | ((with_reducible apply wa_oR); (· rfl)) | ((with_reducible apply wa_oO); (· rfl)) | ((with_reducible apply wa_oV); (· rfl)))) | ((with_reducible show IsS _ _); first | with_reducible refine iss_l ?_ | with_reducible refine iss_t ?_) | ((with_reducible refine fit_ ?_ ?_); (· first | rfl | (apply fits_of; first | omega | (simp; omega)))) | ((with_reducible show CallG _ _ _ _); first | ((with_reducible apply cg0); (· rfl)) | ((with_reducible apply cg1); (· rfl); (· rfl))) | ((with_reducible show WT _ _ _ _); first | with_reducible refine wt_n ?_ | ((with_reducible apply wt_t); (· rfl)) | ((with_reducible apply wt_unl); (· rfl))) | ((with_reducible show WTs _ _ _ _); first | with_reducible refine wts_nil ?_ | with_reducible refine wts_cons ?_) | ((with_reducible apply own_); (· rfl)) | ((with_reducible refine sml_ ?_ ?_ ?_); (· walk_at "sd"); (· walk_at "sd")) | with_reducible refine isi_ ?_ | ((with_reducible show WNl _ _ _); first | with_reducible refine wnl_l ?_ | with_reducible refine wnl_v ?_) | ((with_reducible show WSX _ _ _); first | with_reducible refine wsx_lift ?_ | with_reducible refine wsx_seq ?_ | with_reducible refine wsx_if ?_ | with_reducible refine wsx_raise0 ?_ | with_reducible refine wsx_expr ?_ | with_reducible refine wsx_ret ?_ | with_reducible refine wsx_set ?_) | with_reducible refine wex_call ?_ | ((with_reducible show WPu _ _ _ _); first | with_reducible refine wpu_nil ?_ | with_reducible refine wpu_seq ?_ | with_reducible refine wpu_ret ?_ | with_reducible refine wpu_if ?_) | ((with_reducible show WTd _ _ _ _ _); first | with_reducible refine wtd_P ?_ | with_reducible refine wtd_G ?_ | with_reducible refine wtd_If ?_ | ((with_reducible refine wtd_K ?_ ?_); (· exact ⟨rfl, by decide⟩)) | ((with_reducible refine wtd_U ?_ ?_); (· exact ⟨rfl, by decide⟩)) | ((with_reducible refine wtd_C ?_ ?_); (· rfl)) | ((with_reducible refine wtd_A ?_ ?_ ?_); (· rfl); (· first | rfl | (apply fits_of; first | omega | (simp; omega))))) | with_reducible refine two_ ?_ | ((with_reducible show WC _ _ _ _ _ _ _); first | with_reducible refine wc_nil ?_ | with_reducible refine wc_cons ?_) | ((with_reducible show WP _ _ _); first | with_reducible refine wp_no ?_ | with_reducible refine wp_e ?_) | with_reducible refine isl ?_ | ((with_reducible show RetT _ _ _); first | ((with_reducible apply retT1); (· rfl)) | ((with_reducible apply retT2); (· rfl))) | ((with_reducible show Any _ _); first | ((with_reducible apply any_o); (· rfl)) | ((with_reducible apply any_r); (· rfl))) | ((with_reducible show CallH _ _ _ _); first | ((with_reducible apply ch0); (· rfl)) | ((with_reducible apply ch1); (· rfl); (· rfl))) | ((with_reducible apply cgx0); (· rfl))))
local macro_rules | `(tactic| walk_at "vc") => `(tactic| (repeat' first | ((with_reducible show WE _ _ _); first | with_reducible refine we_chain3 ?_ | with_reducible refine we_callNL ?_ | with_reducible refine we_callN ?_ | with_reducible refine we_c ?_ | with_reducible refine we_un ?_ | with_reducible refine we_bin ?_ | with_reducible refine we_chain ?_ | with_reducible refine we_and ?_ | with_reducible refine we_or ?_ | with_reducible refine we_not ?_ | with_reducible refine we_if ?_ | with_reducible refine we_fz ?_ | with_reducible refine we_tup ?_ | with_reducible refine we_sl ?_ | with_reducible refine we_tupRg ?_ | with_reducible refine we_bor ?_ | with_reducible refine we_call ?_ | with_reducible refine we_din ?_ | with_reducible refine we_borL ?_ | ((with_reducible apply we_v); (· rfl)) | ((with_reducible show WE (eO _) _ _); first | ((with_reducible apply we_oV); (· rfl)) | ((with_reducible apply we_oW); (· rfl)) | ((with_reducible apply we_oR); (· rfl))) | ((with_reducible show WE (eBinV _ _ _) _ _); first | ((with_reducible apply we_bV); (· rfl)) | ((with_reducible apply we_bVr); (· rfl)) | ((with_reducible apply we_bVv); (· rfl))) | ((with_reducible apply we_mut); (· rfl)) | ((with_reducible apply we_mut0); (· rfl)) | ((with_reducible apply we_dget2); (· rfl)) | ((with_reducible apply we_didx); (· rfl))) | ((with_reducible show WO _ _); first | ((with_reducible show WO (gIsO _ _) _); first | with_reducible refine wo_isON ?_ | ((with_reducible refine wo_isO (b := true) ?_ ?_); (· rfl)) | ((with_reducible refine wo_isO (b := false) ?_ ?_); (· rfl))) | with_reducible refine wo_attr ?_ | ((with_reducible show WO (valsA _) _); first | with_reducible refine vals_nil ?_ | with_reducible refine vals_v ?_) | with_reducible refine wo_isB ?_ | with_reducible refine wo_ntB ?_ | ((with_reducible show WO (backAr _ _ _) _); first | with_reducible refine back_nil ?_ | with_reducible refine back_v ?_ | with_reducible refine back_o ?_ | ((with_reducible apply back_r); (· rfl))) | ((with_reducible show WO (resArs _ _) _); first | with_reducible refine res_nil ?_ | with_reducible refine res_v ?_ | ((with_reducible apply res_r); (· rfl)) | ((with_reducible apply res_oO); (· rfl)) | ((with_reducible apply res_oR); (· rfl)) | ((with_reducible apply res_oV); (· rfl))) | ((with_reducible show WO (gAdd _ _) _); first | with_reducible refine wo_add ?_ | ((with_reducible refine wo_addL ?_ ?_); (· first | rfl | (apply fits_of; first | omega | (simp; omega)))) | ((with_reducible refine wo_addT ?_ ?_); (· first | rfl | (apply fits_of; first | omega | (simp; omega))))) | with_reducible refine wo_sub ?_ | with_reducible refine wo_neg ?_ | with_reducible refine wo_lt ?_ | with_reducible refine wo_le ?_ | with_reducible refine wo_gt ?_ | with_reducible refine wo_ge ?_ | ((with_reducible show WO (gEq _ _) _); first | with_reducible refine wo_eq ?_ | with_reducible refine wo_eqB ?_ | ((with_reducible refine wo_eqT ?_ ?_); (· decide +kernel)) | ((with_reducible refine wo_eqF ?_ ?_); (· decide +kernel))) | ((with_reducible show WO (gNe _ _) _); first | with_reducible refine wo_ne ?_ | with_reducible refine wo_neB ?_ | ((with_reducible refine wo_neT ?_ ?_); (· decide +kernel)) | ((with_reducible refine wo_neF ?_ ?_); (· decide +kernel))) | with_reducible refine wo_isN ?_ | with_reducible refine wo_ntN ?_ | ((with_reducible show WO (gLen _) _); first | with_reducible refine wo_lenL ?_ | with_reducible refine wo_lenT ?_) | with_reducible refine wo_abs ?_ | ((with_reducible show WO (gInt _) _); first | with_reducible refine wo_intB ?_ | with_reducible refine wo_intI ?_) | ((with_reducible show WO (gList _) _); first | with_reducible refine wo_listL ?_ | with_reducible refine wo_listT ?_) | ((with_reducible show WO (gTuple _) _); first | with_reducible refine wo_tupL ?_ | with_reducible refine wo_tupT ?_) | with_reducible refine wo_max ?_ | with_reducible refine wo_min ?_ | ((with_reducible show WO (gIsi _ _) _); first | with_reducible refine wo_isiI ?_ | with_reducible refine wo_isiB ?_ | ((with_reducible apply wo_isiE); (· rfl))) | ((with_reducible show WO (cutOf _ _ _) _); first | with_reducible refine wo_cutL ?_ | with_reducible refine wo_cutT ?_) | ((with_reducible show WO (gPow _ _) _); first | with_reducible refine wo_p10_60 ?_ | with_reducible refine wo_p10_18 ?_ | with_reducible refine wo_p10_30 ?_ | with_reducible refine wo_p2_24 ?_ | with_reducible refine wo_p10_8 ?_ | with_reducible refine wo_p10_19 ?_ | with_reducible refine wo_p10_55 ?_ | with_reducible refine wo_p10_59 ?_ | with_reducible refine wo_p3_30 ?_ | with_reducible refine wo_p2_40 ?_ | with_reducible refine wo_p10_54 ?_ | with_reducible refine wo_p3_13 ?_ | with_reducible refine wo_p2_20 ?_ | with_reducible refine wo_p10_57 ?_ | with_reducible refine wo_p10_40 ?_ | with_reducible refine wo_p10_61 ?_ | with_reducible refine wo_p10_50 ?_) | ((with_reducible apply wo_idxE); (· rfl)) | ((with_reducible apply wo_allE); (· rfl)) | ((with_reducible apply wo_anyE); (· rfl)) | ((with_reducible show WO (ixN _ _) _); first | ((with_reducible apply wo_ixE); (· rfl)) | ((with_reducible refine wo_ix ?_ ?_ ?_); (· walk_at "sd"); (· walk_at "sd"))) | ((with_reducible refine wo_mod ?_ ?_); (· walk_at "sd")) | ((with_reducible refine wo_div ?_ ?_ ?_); (· walk_at "sd"); (· walk_at "sd")) | ((with_reducible refine wo_mul ?_ ?_); (· first | exact mul_ok1 (by walk_at "sd") | exact mul_ok2 (by walk_at "sd") | exact mul_ok3 (by omega) (by omega))) | ((with_reducible refine wo_app ?_ ?_); (· first | rfl | (apply fits_of; first | omega | (simp; omega)))) | ((with_reducible refine wo_ext ?_ ?_); (· first | rfl | (apply fits_of; first | omega | (simp; omega))))) | ((with_reducible show WS _ _ _); first | with_reducible refine ws_try ?_ | with_reducible refine ws_retT ?_ | with_reducible refine ws_seq ?_ | with_reducible refine ws_expr ?_ | with_reducible refine ws_ret ?_ | with_reducible refine ws_retL ?_ | with_reducible refine ws_if ?_ | with_reducible refine ws_set ?_ | with_reducible refine ws_setO ?_ | with_reducible refine ws_asg ?_ | with_reducible refine ws_par ?_ | with_reducible refine ws_nil ?_ | with_reducible refine ws_retN ?_ | with_reducible refine ws_dput ?_ | with_reducible refine ws_dnew ?_ | ((with_reducible show WS (sFrz _ _) _ _); first | ((with_reducible apply ws_frz); (· rfl)) | ((with_reducible apply ws_frzV); (· rfl))) | ((with_reducible apply ws_retO); (· rfl)) | ((with_reducible apply ws_putI); (· rfl))) | ((with_reducible apply nrm_); (· (try simp only [wipeE, backE, List.set_cons_zero, List.set_cons_succ, List.getElem?_cons_zero, List.getElem?_cons_succ, List.cons_append, List.nil_append, List.replicate_succ, List.replicate_zero, Nat.reduceSub, unowns_nil, unowns_cons, unown_own, unown_val, unown_no, unown_ro, unown_dct]); rfl)) | ((with_reducible show IfB _ _ _); first | with_reducible refine ifb_not ?_ | with_reducible refine ifb_t ?_ | with_reducible refine ifb_f ?_ | ((with_reducible refine ifb_decT ?_ ?_); (· first | (with_reducible assumption) | omega | (simp only [List.length_cons, List.length_nil]; omega))) | ((with_reducible refine ifb_decF ?_ ?_); (· first | (with_reducible assumption) | omega | (simp only [List.length_cons, List.length_nil]; omega))) | with_reducible refine ifb_dec (fun _ => ?_) (fun _ => ?_) | ((with_reducible apply ifb_eT); (· rfl)) | ((with_reducible apply ifb_eF); (· rfl))) | ((with_reducible show WB _ _ _); first | with_reducible refine wb_bor ?_ | with_reducible refine wb_v ?_ | with_reducible refine wb_and ?_ | with_reducible refine wb_or ?_ | with_reducible refine wb_not ?_ | with_reducible refine wb_yes ?_) | with_reducible refine isb ?_ | ((with_reducible show WL _ _ _); first | with_reducible refine wl_nil ?_ | with_reducible refine wl_cons ?_ | with_reducible refine wl_lst ?_ | with_reducible refine wl_un ?_ | with_reducible refine wl_it ?_ | with_reducible refine wl_rng1 ?_ | with_reducible refine wl_rng2 ?_ | with_reducible refine wl_enum ?_ | with_reducible refine wl_enumA ?_ | with_reducible refine wl_addE ?_ | with_reducible refine wl_rg1 ?_ | with_reducible refine wl_bor ?_ | with_reducible refine wl_call ?_ | ((with_reducible apply wl_addO); (· rfl)) | ((with_reducible show WL (lSlV _ _ _) _ _); first | ((with_reducible apply wl_slO); (· rfl)) | ((with_reducible apply wl_slR); (· rfl)))) | ((with_reducible show WA _ _ _); first | with_reducible refine wa_nil ?_ | with_reducible refine wa_v ?_ | ((with_reducible apply wa_r); (· rfl)) | ((with_reducible show WA (aO _ _) _ _); first | ((with_reducible apply wa_oR); (· rfl)) | ((with_reducible apply wa_oO); (· rfl)) | ((with_reducible apply wa_oV); (· rfl)))) | ((with_reducible show IsS _ _); first | with_reducible refine iss_l ?_ | with_reducible refine iss_t ?_) | ((with_reducible refine fit_ ?_ ?_); (· first | rfl | (apply fits_of; first | omega | (simp; omega)))) | ((with_reducible show CallG _ _ _ _); first | ((with_reducible apply cg0); (· rfl)) | ((with_reducible apply cg1); (· rfl); (· rfl))) | ((with_reducible show WT _ _ _ _); first | with_reducible refine wt_n ?_ | ((with_reducible apply wt_t); (· rfl)) | ((with_reducible apply wt_unl); (· rfl))) | ((with_reducible show WTs _ _ _ _); first | with_reducible refine wts_nil ?_ | with_reducible refine wts_cons ?_) | ((with_reducible apply own_); (· rfl)) | ((with_reducible refine sml_ ?_ ?_ ?_); (· walk_at "sd"); (· walk_at "sd")) | with_reducible refine isi_ ?_ | ((with_reducible show WNl _ _ _); first | with_reducible refine wnl_l ?_ | with_reducible refine wnl_v ?_) | ((with_reducible show WSX _ _ _); first | with_reducible refine wsx_lift ?_ | with_reducible refine wsx_seq ?_ | with_reducible refine wsx_if ?_ | with_reducible refine wsx_raise0 ?_ | with_reducible refine wsx_expr ?_ | with_reducible refine wsx_ret ?_ | with_reducible refine wsx_set ?_) | with_reducible refine wex_call ?_ | ((with_reducible show WPu _ _ _ _); first | with_reducible refine wpu_nil ?_ | with_reducible refine wpu_seq ?_ | with_reducible refine wpu_ret ?_ | with_reducible refine wpu_if ?_) | ((with_reducible show WTd _ _ _ _ _); first | with_reducible refine wtd_P ?_ | with_reducible refine wtd_G ?_ | with_reducible refine wtd_If ?_ | ((with_reducible refine wtd_K ?_ ?_); (· exact ⟨rfl, by decide⟩)) | ((with_reducible refine wtd_U ?_ ?_); (· exact ⟨rfl, by decide⟩)) | ((with_reducible refine wtd_C ?_ ?_); (· rfl)) | ((with_reducible refine wtd_A ?_ ?_ ?_); (· rfl); (· first | rfl | (apply fits_of; first | omega | (simp; omega))))) | with_reducible refine two_ ?_ | ((with_reducible show WC _ _ _ _ _ _ _); first | with_reducible refine wc_nil ?_ | with_reducible refine wc_cons ?_) | ((with_reducible show WP _ _ _); first | with_reducible refine wp_no ?_ | with_reducible refine wp_e ?_) | with_reducible refine isl ?_ | ((with_reducible show RetT _ _ _); first | ((with_reducible apply retT1); (· rfl)) | ((with_reducible apply retT2); (· rfl))) | ((with_reducible show Any _ _); first | ((with_reducible apply any_o); (· rfl)) | ((with_reducible apply any_r); (· rfl))) | ((with_reducible show CallH _ _ _ _); first | ((with_reducible apply ch0); (· rfl)) | ((with_reducible apply ch1); (· rfl); (· rfl))) | ((with_reducible apply cgx0); (· rfl))))
local macro_rules | `(tactic| walk_at "vd") => `(tactic| (repeat' first | ((with_reducible show WE _ _ _); first | with_reducible refine we_chain3 ?_ | with_reducible refine we_callNL ?_ | with_reducible refine we_callN ?_ | with_reducible refine we_c ?_ | with_reducible refine we_un ?_ | with_reducible refine we_bin ?_ | with_reducible refine we_chain ?_ | with_reducible refine we_and ?_ | with_reducible refine we_or ?_ | with_reducible refine we_not ?_ | with_reducible refine we_if ?_ | with_reducible refine we_fz ?_ | with_reducible refine we_tup ?_ | with_reducible refine we_sl ?_ | with_reducible refine we_tupRg ?_ | with_reducible refine we_bor ?_ | with_reducible refine we_call ?_ | with_reducible refine we_din ?_ | with_reducible refine we_borL ?_ | ((with_reducible apply we_v); (· rfl)) | ((with_reducible show WE (eO _) _ _); first | ((with_reducible apply we_oV); (· rfl)) | ((with_reducible apply we_oW); (· rfl)) | ((with_reducible apply we_oR); (· rfl))) | ((with_reducible show WE (eBinV _ _ _) _ _); first | ((with_reducible apply we_bV); (· rfl)) | ((with_reducible apply we_bVr); (· rfl)) | ((with_reducible apply we_bVv); (· rfl))) | ((with_reducible apply we_mut); (· rfl)) | ((with_reducible apply we_mut0); (· rfl)) | ((with_reducible apply we_dget2); (· rfl)) | ((with_reducible apply we_didx); (· rfl))) | ((with_reducible show WO _ _); first | ((with_reducible show WO (gIsO _ _) _); first | with_reducible refine wo_isON ?_ | ((with_reducible refine wo_isO (b := true) ?_ ?_); (· rfl)) | ((with_reducible refine wo_isO (b := false) ?_ ?_); (· rfl))) | with_reducible refine wo_attr ?_ | ((with_reducible show WO (valsA _) _); first | with_reducible refine vals_nil ?_ | with_reducible refine vals_v ?_) | with_reducible refine wo_isB ?_ | with_reducible refine wo_ntB ?_ | ((with_reducible show WO (backAr _ _ _) _); first | with_reducible refine back_nil ?_ | with_reducible refine back_v ?_ | with_reducible refine back_o ?_ | ((with_reducible apply back_r); (· rfl))) | ((with_reducible show WO (resArs _ _) _); first | with_reducible refine res_nil ?_ | with_reducible refine res_v ?_ | ((with_reducible apply res_r); (· rfl)) | ((with_reducible apply res_oO); (· rfl)) | ((with_reducible apply res_oR); (· rfl)) | ((with_reducible apply res_oV); (· rfl))) | ((with_reducible show WO (gAdd _ _) _); first | with_reducible refine wo_add ?_ | ((with_reducible refine wo_addL ?_ ?_); (· first | rfl | (apply fits_of; first | omega | (simp; omega)))) | ((with_reducible refine wo_addT ?_ ?_); (· first | rfl | (apply fits_of; first | omega | (simp; omega))))) | with_reducible refine wo_sub ?_ | with_reducible refine wo_neg ?_ | with_reducible refine wo_lt ?_ | with_reducible refine wo_le ?_ | with_reducible refine wo_gt ?_ | with_reducible refine wo_ge ?_ | ((with_reducible show WO (gEq _ _) _); first | with_reducible refine wo_eq ?_ | with_reducible refine wo_eqB ?_ | ((with_reducible refine wo_eqT ?_ ?_); (· decide +kernel)) | ((with_reducible refine wo_eqF ?_ ?_); (· decide +kernel))) | ((with_reducible show WO (gNe _ _) _); first | with_reducible refine wo_ne ?_ | with_reducible refine wo_neB ?_ | ((with_reducible refine wo_neT ?_ ?_); (· decide +kernel)) | ((with_reducible refine wo_neF ?_ ?_); (· decide +kernel))) | with_reducible refine wo_isN ?_ | with_reducible refine wo_ntN ?_ | ((with_reducible show WO (gLen _) _); first | with_reducible refine wo_lenL ?_ | with_reducible refine wo_lenT ?_) | with_reducible refine wo_abs ?_ | ((with_reducible show WO (gInt _) _); first | with_reducible refine wo_intB ?_ | with_reducible refine wo_intI ?_) | ((with_reducible show WO (gList _) _); first | with_reducible refine wo_listL ?_ | with_reducible refine wo_listT ?_) | ((with_reducible show WO (gTuple _) _); first | with_reducible refine wo_tupL ?_ | with_reducible refine wo_tupT ?_) | with_reducible refine wo_max ?_ | with_reducible refine wo_min ?_ | ((with_reducible show WO (gIsi _ _) _); first | with_reducible refine wo_isiI ?_ | with_reducible refine wo_isiB ?_ | ((with_reducible apply wo_isiE); (· rfl))) | ((with_reducible show WO (cutOf _ _ _) _); first | with_reducible refine wo_cutL ?_ | with_reducible refine wo_cutT ?_) | ((with_reducible show WO (gPow _ _) _); first | with_reducible refine wo_p10_60 ?_ | with_reducible refine wo_p10_18 ?_ | with_reducible refine wo_p10_30 ?_ | with_reducible refine wo_p2_24 ?_ | with_reducible refine wo_p10_8 ?_ | with_reducible refine wo_p10_19 ?_ | with_reducible refine wo_p10_55 ?_ | with_reducible refine wo_p10_59 ?_ | with_reducible refine wo_p3_30 ?_ | with_reducible refine wo_p2_40 ?_ | with_reducible refine wo_p10_54 ?_ | with_reducible refine wo_p3_13 ?_ | with_reducible refine wo_p2_20 ?_ | with_reducible refine wo_p10_57 ?_ | with_reducible refine wo_p10_40 ?_ | with_reducible refine wo_p10_61 ?_ | with_reducible refine wo_p10_50 ?_) | ((with_reducible apply wo_idxE); (· rfl)) | ((with_reducible apply wo_allE); (· rfl)) | ((with_reducible apply wo_anyE); (· rfl)) | ((with_reducible show WO (ixN _ _) _); first | ((with_reducible apply wo_ixE); (· rfl)) | ((with_reducible refine wo_ix ?_ ?_ ?_); (· walk_at "sd"); (· walk_at "sd"))) | ((with_reducible refine wo_mod ?_ ?_); (· walk_at "sd")) | ((with_reducible refine wo_div ?_ ?_ ?_); (· walk_at "sd"); (· walk_at "sd")) | ((with_reducible refine wo_mul ?_ ?_); (· first | exact mul_ok1 (by walk_at "sd") | exact mul_ok2 (by walk_at "sd") | exact mul_ok3 (by omega) (by omega))) | ((with_reducible refine wo_app ?_ ?_); (· first | rfl | (apply fits_of; first | omega | (simp; omega)))) | ((with_reducible refine wo_ext ?_ ?_); (· first | rfl | (apply fits_of; first | omega | (simp; omega))))) | ((with_reducible show WS _ _ _); first | with_reducible refine ws_try ?_ | with_reducible refine ws_retT ?_ | with_reducible refine ws_seq ?_ | with_reducible refine ws_expr ?_ | with_reducible refine ws_ret ?_ | with_reducible refine ws_retL ?_ | with_reducible refine ws_set ?_ | with_reducible refine ws_setO ?_ | with_reducible refine ws_asg ?_ | with_reducible refine ws_par ?_ | with_reducible refine ws_nil ?_ | with_reducible refine ws_retN ?_ | with_reducible refine ws_dput ?_ | with_reducible refine ws_dnew ?_ | ((with_reducible show WS (sFrz _ _) _ _); first | ((with_reducible apply ws_frz); (· rfl)) | ((with_reducible apply ws_frzV); (· rfl))) | ((with_reducible apply ws_retO); (· rfl)) | ((with_reducible apply ws_putI); (· rfl))) | ((with_reducible apply nrm_); (· (try simp only [wipeE, backE, List.set_cons_zero, List.set_cons_succ, List.getElem?_cons_zero, List.getElem?_cons_succ, List.cons_append, List.nil_append, List.replicate_succ, List.replicate_zero, Nat.reduceSub, unowns_nil, unowns_cons, unown_own, unown_val, unown_no, unown_ro, unown_dct]); rfl)) | ((with_reducible show IfB _ _ _); first | with_reducible refine ifb_not ?_ | with_reducible refine ifb_t ?_ | with_reducible refine ifb_f ?_ | ((with_reducible refine ifb_decT ?_ ?_); (· first | (with_reducible assumption) | omega | (simp only [List.length_cons, List.length_nil]; omega))) | ((with_reducible refine ifb_decF ?_ ?_); (· first | (with_reducible assumption) | omega | (simp only [List.length_cons, List.length_nil]; omega))) | with_reducible refine ifb_dec (fun _ => ?_) (fun _ => ?_) | ((with_reducible apply ifb_eT); (· rfl)) | ((with_reducible apply ifb_eF); (· rfl))) | ((with_reducible show WB _ _ _); first | with_reducible refine wb_bor ?_ | with_reducible refine wb_v ?_ | with_reducible refine wb_and ?_ | with_reducible refine wb_or ?_ | with_reducible refine wb_not ?_ | with_reducible refine wb_yes ?_) | with_reducible refine isb ?_ | ((with_reducible show WL _ _ _); first | with_reducible refine wl_nil ?_ | with_reducible refine wl_cons ?_ | with_reducible refine wl_lst ?_ | with_reducible refine wl_un ?_ | with_reducible refine wl_it ?_ | with_reducible refine wl_rng1 ?_ | with_reducible refine wl_rng2 ?_ | with_reducible refine wl_enum ?_ | with_reducible refine wl_enumA ?_ | with_reducible refine wl_addE ?_ | with_reducible refine wl_rg1 ?_ | with_reducible refine wl_bor ?_ | with_reducible refine wl_call ?_ | ((with_reducible apply wl_addO); (· rfl)) | ((with_reducible show WL (lSlV _ _ _) _ _); first | ((with_reducible apply wl_slO); (· rfl)) | ((with_reducible apply wl_slR); (· rfl)))) | ((with_reducible show WA _ _ _); first | with_reducible refine wa_nil ?_ | with_reducible refine wa_v ?_ | ((with_reducible apply wa_r); (· rfl)) | ((with_reducible show WA (aO _ _) _ _); first | ((with_reducible apply wa_oR); (· rfl)) | ((with_reducible apply wa_oO); (· rfl)) | ((with_reducible apply wa_oV); (· rfl)))) | ((with_reducible show IsS _ _); first | with_reducible refine iss_l ?_ | with_reducible refine iss_t ?_) | ((with_reducible refine fit_ ?_ ?_); (· first | rfl | (apply fits_of; first | omega | (simp; omega)))) | ((with_reducible show CallG _ _ _ _); first | ((with_reducible apply cg0); (· rfl)) | ((with_reducible apply cg1); (· rfl); (· rfl))) | ((with_reducible show WT _ _ _ _); first | with_reducible refine wt_n ?_ | ((with_reducible apply wt_t); (· rfl)) | ((with_reducible apply wt_unl); (· rfl))) | ((with_reducible show WTs _ _ _ _); first | with_reducible refine wts_nil ?_ | with_reducible refine wts_cons ?_) | ((with_reducible apply own_); (· rfl)) | ((with_reducible refine sml_ ?_ ?_ ?_); (· walk_at "sd"); (· walk_at "sd")) | with_reducible refine isi_ ?_ | ((with_reducible show WNl _ _ _); first | with_reducible refine wnl_l ?_ | with_reducible refine wnl_v ?_) | ((with_reducible show WSX _ _ _); first | with_reducible refine wsx_lift ?_ | with_reducible refine wsx_seq ?_ | with_reducible refine wsx_if ?_ | with_reducible refine wsx_raise0 ?_ | with_reducible refine wsx_expr ?_ | with_reducible refine wsx_ret ?_ | with_reducible refine wsx_set ?_) | with_reducible refine wex_call ?_ | ((with_reducible show WPu _ _ _ _); first | with_reducible refine wpu_nil ?_ | with_reducible refine wpu_seq ?_ | with_reducible refine wpu_ret ?_ | with_reducible refine wpu_if ?_) | ((with_reducible show WTd _ _ _ _ _); first | with_reducible refine wtd_P ?_ | with_reducible refine wtd_G ?_ | with_reducible refine wtd_If ?_ | ((with_reducible refine wtd_K ?_ ?_); (· exact ⟨rfl, by decide⟩)) | ((with_reducible refine wtd_U ?_ ?_); (· exact ⟨rfl, by decide⟩)) | ((with_reducible refine wtd_C ?_ ?_); (· rfl)) | ((with_reducible refine wtd_A ?_ ?_ ?_); (· rfl); (· first | rfl | (apply fits_of; first | omega | (simp; omega))))) | with_reducible refine two_ ?_ | ((with_reducible show WC _ _ _ _ _ _ _); first | with_reducible refine wc_nil ?_ | with_reducible refine wc_cons ?_) | ((with_reducible show WP _ _ _); first | with_reducible refine wp_no ?_ | with_reducible refine wp_e ?_) | with_reducible refine isl ?_ | ((with_reducible show RetT _ _ _); first | ((with_reducible apply retT1); (· rfl)) | ((with_reducible apply retT2); (· rfl))) | ((with_reducible show Any _ _); first | ((with_reducible apply any_o); (· rfl)) | ((with_reducible apply any_r); (· rfl))) | ((with_reducible show CallH _ _ _ _); first | ((with_reducible apply ch0); (· rfl)) | ((with_reducible apply ch1); (· rfl); (· rfl))) | ((with_reducible apply cgx0); (· rfl))))
local macro_rules | `(tactic| walk_at "nr") => `(tactic| ((with_reducible apply nrm_); (· (try simp only [wipeE, backE, List.set_cons_zero, List.set_cons_succ, List.getElem?_cons_zero, List.getElem?_cons_succ, List.cons_append, List.nil_append, List.replicate_succ, List.replicate_zero, Nat.reduceSub, unowns_nil, unowns_cons, unown_own, unown_val, unown_no, unown_ro, unown_dct]); rfl)))
local macro_rules | `(tactic| walk_at "nb") => `(tactic| simp only [wipeE, backE, List.set_cons_zero, List.set_cons_succ, List.getElem?_cons_zero, List.getElem?_cons_succ])
theorem dcell_w {ns : List Int} {k : Nat} {Q : D → List Sl → Prop} (hk : k ≤ 63) (q : ∀ (c : Int) x y, Q (.int c) [x, y]) : WG g__law_cell_at [.ro (ns.map .int), .val (.int (k : Int))] Q := by
  refine wg_run rfl ?_
  unfold b__law_cell_at
  by_cases h : (k : Int) < (((ns.map PyData.int).length : Nat) : Int)
  · walk_at "vc"
    refine wo_idxL (by omega) h fun d hd _ => ?_
    obtain ⟨c, rfl⟩ := ints_get hd
    exact q _ _ _
  · walk_at "nr"
    refine ws_mid (fun e => e = [.ro (ns.map .int), .val (.int (k : Int)), .no]) (by walk_at "vc"; rfl) ?_
    rintro _ rfl
    refine ws_mid (fun e => e = [.ro (ns.map .int), .val (.int (k : Int)), .val (.int 0)]) (by walk_at "vc"; rfl) ?_
    rintro _ rfl
    refine ws_mid (fun e => ∃ c : Int, e = [.ro (ns.map .int), .val (.int (k : Int)), .val (.int c)]) ?_ ?_
    · walk_at "vc"
      refine wo_neInts (ys := []) ?_
      by_cases h0 : ns = []
      · rw [decide_eq_true h0]
        walk_at "vc"
        exact ⟨_, rfl⟩
      · rw [decide_eq_false h0]
        have hp : 0 < ns.length := List.length_pos_iff.mpr h0
        have hl : ((ns.map PyData.int).length : Int) = (ns.length : Int) := by rw [List.length_map]
        walk_at "vc"
        refine wo_idxL (Int.emod_nonneg _ (by omega)) (Int.emod_lt_of_pos _ (by omega)) fun d hd _ => ?_
        obtain ⟨c, rfl⟩ := ints_get hd
        walk_at "vc"
        exact ⟨_, rfl⟩
    rintro _ ⟨c, rfl⟩
    walk_at "vc"
    exact q _ _ _
theorem dfold_w {ns : List Int} {m : Nat} {Q : D → List Sl → Prop} (hm : 1 ≤ m) (hm2 : m ≤ 63) (hl : ns.length ≤ 63) (q : ∀ (cs : List Int) x y, cs.length = m → Q (.list (cs.map .int)) [x, y]) : WG g__law_folded [.ro (ns.map .int), .val (.int (m : Int))] Q := by
  refine wg_run rfl ?_
  unfold b__law_folded
  walk_at "nr"
  refine ws_mid (fun e => ∃ cs : List Int, cs.length = m ∧ e = [.ro (ns.map .int), .val (.int (m : Int)), .no, .own true (cs.map .int), .no]) ?_ ?_
  · walk_at "vc"
    refine wl_comp (fun ds rs acc e' e => ∃ cs : List Int, acc = cs.map .int ∧ cs.length + rs.length = m ∧ (∀ d ∈ rs, ∃ k : Nat, k < m ∧ d = .int (k : Int)) ∧ e' = [.ro (ns.map .int), .val (.int (m : Int)), .no, .no, .no]) ?_
    walk_at "vc"
    refine ⟨rfl, fits_of (by rw [irange_length]; omega), ⟨[], rfl, by rw [irange_length, Int.toNat_natCast]; simp, fun d hd => ?_, rfl⟩, ?_, ?_⟩
    · obtain ⟨y, rfl, y0, y1⟩ := irange_mem hd
      exact ⟨y.toNat, by omega, by rw [Int.toNat_of_nonneg y0]⟩
    · rintro d rs acc e' ⟨cs, rfl, h1, h2, rfl⟩
      rw [List.length_cons] at h1
      obtain ⟨k, hk, rfl⟩ := h2 d List.mem_cons_self
      walk_at "vc"
      refine dcell_w (by omega) fun c _ _ => ?_
      walk_at "vc"
      exact ⟨cs ++ [c], by rw [List.map_append]; rfl, by simp; omega, fun d hd => h2 d (List.mem_cons_of_mem _ hd), rfl⟩
    · rintro acc e' ⟨cs, rfl, h1, h2, rfl⟩
      walk_at "nb"
      walk_at "nr"
      exact ⟨cs, by simpa using h1, rfl⟩
  rintro e ⟨cs, hcl, rfl⟩
  refine ws_mid (fun e => ∃ (cs : List Int) (x2 x4 : Sl), cs.length = m ∧ e = [.ro (ns.map .int), .val (.int (m : Int)), x2, .own true (cs.map .int), x4]) ?_ ?_
  · refine ws_forN (fun _ k e => ∃ (cs : List Int) (x2 x4 : Sl), cs.length = m ∧ e = [.ro (ns.map .int), .val (.int (m : Int)), x2, .own true (cs.map .int), x4]) ?_
    walk_at "vc"
    refine ⟨⟨cs, _, _, hcl, rfl⟩, ?_, ?_⟩
    · rintro k d e hkl hd ⟨cs, x2, x4, hcl, rfl⟩
      rw [irange_length, List.length_map] at hkl
      obtain ⟨rfl, hk1⟩ := irange_get hd
      have hr0 : 0 ≤ ((m : Int) + (k : Int)) % (m : Int) := Int.emod_nonneg _ (by omega)
      have hr1 : ((m : Int) + (k : Int)) % (m : Int) < (m : Int) := Int.emod_lt_of_pos _ (by omega)
      walk_at "vc"
      refine wo_idxL hr0 (by rw [List.length_map, hcl]; exact hr1) fun d hd _ => ?_
      obtain ⟨c, rfl⟩ := ints_get hd
      walk_at "vc"
      refine wo_idxL (by omega) (by rw [List.length_map]; omega) fun d hd _ => ?_
      obtain ⟨c2, rfl⟩ := ints_get hd
      walk_at "vc"
      refine wo_ix hr0 (by rw [List.length_map, hcl]; exact hr1) ?_
      walk_at "nr"
      refine ⟨_, _, _, ?_, by rw [← List.map_set]⟩
      rw [List.length_set]
      exact hcl
    · rintro e ⟨cs, x2, x4, hcl, rfl⟩
      exact ⟨cs, _, _, hcl, rfl⟩
  rintro e ⟨cs, x2, x4, hcl, rfl⟩
  walk_at "vc"
  exact q cs _ _ hcl
theorem dstate_w {c : Int} {Q : List D → List Sl → Prop} (q : ∀ (a b : Int) x, Q [.int a, .int b] [x]) : WH g__law_state [.val (.int c)] Q := by
  refine wh_new rfl ?_
  unfold b__law_state
  walk_at "vc"
  · exact q _ _ _
  · exact q _ _ _
theorem next_w {a b m : Int} {Q : D → List Sl → Prop} (hm : 0 < m) (hm2 : m < 10 ^ 200) (q : ∀ r a' b' x, 0 ≤ r → r < m → Q (.int r) [.own false [.int a', .int b'], x]) :
    WG g__law_next [.own false [.int a, .int b], .val (.int m)] Q := by
  refine wg_run rfl ?_
  unfold b__law_next
  walk_at "vc"
  · exact q _ _ _ _ (Int.emod_nonneg _ (by omega)) (Int.emod_lt_of_pos _ hm)
  · exact q _ _ _ _ (Int.emod_nonneg _ (by omega)) (Int.emod_lt_of_pos _ hm)
theorem below_w {a b m : Int} {Q : D → List Sl → Prop} (hm : 0 < m) (hm2 : m < 10 ^ 200) (q : ∀ r a' b' x, 0 ≤ r → r < m → Q (.int r) [.own false [.int a', .int b'], x]) :
    WG g__law_below [.own false [.int a, .int b], .val (.int m)] Q := by
  refine wg_run rfl ?_
  unfold b__law_below
  (repeat' first | walk_at "v1" | ((with_reducible refine next_w ?_ ?_ fun _ _ _ _ _ _ => ?_); (· walk_at "sd"); (· walk_at "sd")))
  · exact q _ _ _ _ (by assumption) (by assumption)
  refine ws_for (fun _ _ e => ∃ (a b f : Int) (t : Sl), e = [.own false [.int a, .int b], .val (.int m), .val (.int f), t]) ?_
  walk_at "vc"
  refine ⟨⟨a, b, 0, .no, rfl⟩, ?_, ?_⟩
  · rintro d _ _ ⟨a, b, f, t, rfl⟩
    (repeat' first | walk_at "v1" | ((with_reducible refine next_w ?_ ?_ fun _ _ _ _ _ _ => ?_); (· walk_at "sd"); (· walk_at "sd")))
    exact ⟨_, _, _, _, rfl⟩
  · rintro _ ⟨a, b, f, t, rfl⟩
    walk_at "vc"
    exact q _ _ _ _ (Int.emod_nonneg _ (by omega)) (Int.emod_lt_of_pos _ hm)
theorem dlooks_w {a b : Int} {n : Nat} {mir : Bool} {Q : D → List Sl → Prop} (hn : n ≤ 5) (q : ∀ (ls : List Str) (a' b' : Int) x y, ls.length = n → (∀ x ∈ ls, isLk x) → cntR ls * (1 + if mir then 1 else 0) ≤ 6 → Q (.list (ls.map .str)) [.own false [.int a', .int b'], x, y]) :
    WG g__law_looks [.own false [.int a, .int b], .val (.int (n : Int)), .val (.bool mir)] Q := by
  refine wg_run rfl ?_
  unfold b__law_looks
  walk_at "nr"
  refine ws_mid (fun e => ∃ (a b : Int) (c : Nat), c < 26 ∧ e = [.own false [.int a, .int b], .val (.int (n : Int)), .val (.bool mir), .val (.int (c : Int)), .no, .no, .no, .no, .no]) ?_ ?_
  · walk_at "vc"
    refine next_w (by omega) (by omega) fun r _ _ _ r0 r1 => ?_
    walk_at "vc"
    obtain ⟨c, rfl⟩ := Int.eq_ofNat_of_zero_le r0
    exact ⟨_, _, c, by omega, rfl⟩
  rintro e ⟨a, b, c, hc, rfl⟩
  refine ws_mid (fun e => e = [.own false [.int a, .int b], .val (.int (n : Int)), .val (.bool mir), .val (.int (c : Int)), .no, .val (.list ((ltrs c).map .str)), .no, .no, .no]) ?_ ?_
  · walk_at "vc"
    refine wl_compP (fun _ _ => true) (fun _ d => .str (dtr ((c + 5 * naD d) % 26))) ?_
    walk_at "vc"
    refine ⟨rfl, fits_of (by rw [irange_length]; omega), fun d hd => ?_, ?_⟩
    · obtain ⟨y, rfl, y0, y1⟩ := irange_mem hd
      walk_at "vc"
      refine ⟨rfl, ?_⟩
      walk_at "vc"
      refine wo_abc (Int.emod_nonneg _ (by omega)) (Int.emod_lt_of_pos _ (by omega)) ?_
      refine ⟨?_, rfl⟩
      show _ = PyData.str (dtr ((c + 5 * y.toNat) % 26))
      rw [show (((c : Int) + 5 * y) % 26).toNat = (c + 5 * y.toNat) % 26 by omega]
    rw [filter_yes]
    walk_at "vc"
    unfold ltrs irange
    rw [List.map_map, List.map_map]
    have : ((fun d => PyData.str (dtr ((c + 5 * naD d) % 26))) ∘ fun (i : Nat) => PyData.int (0 + (i : Int))) = (PyData.str ∘ fun k => dtr ((c + 5 * k) % 26)) := by
      funext k
      show PyData.str (dtr ((c + 5 * (0 + (k : Int)).toNat) % 26)) = _
      rw [show (0 + (k : Int)).toNat = k by omega]
      rfl
    rw [this]
    rfl
  rintro _ rfl
  refine ws_mid (fun e => ∃ (a b : Int) (w : Nat), w < 6 ∧ e = [.own false [.int a, .int b], .val (.int (n : Int)), .val (.bool mir), .val (.int (c : Int)), .no, .val (.list ((ltrs c).map .str)), .val (.int (w : Int)), .no, .no]) ?_ ?_
  · walk_at "vc"
    refine next_w (by omega) (by omega) fun r _ _ _ r0 r1 => ?_
    walk_at "vc"
    obtain ⟨w, rfl⟩ := Int.eq_ofNat_of_zero_le r0
    exact ⟨_, _, w, by omega, rfl⟩
  rintro e ⟨a, b, w, hw, rfl⟩
  refine ws_mid (fun e => e = [.own false [.int a, .int b], .val (.int (n : Int)), .val (.bool mir), .val (.int (c : Int)), .no, .val (.list ((ltrs c).map .str)), .val (.int (w : Int)), .val (.list ((ways.getD w []).map fun (j : Nat) => .int (j : Int))), .no]) ?_ ?_
  · walk_at "vc"
    have h6 : w = 0 ∨ w = 1 ∨ w = 2 ∨ w = 3 ∨ w = 4 ∨ w = 5 := by omega
    rcases h6 with rfl | rfl | rfl | rfl | rfl | rfl <;> (refine wo_idxE rfl ?_; walk_at "vc"; rfl)
  rintro _ rfl
  refine ws_mid (fun e => e = [.own false [.int a, .int b], .val (.int (n : Int)), .val (.bool mir), .val (.int (c : Int)), .no, .val (.list ((ltrs c).map .str)), .val (.int (w : Int)), .val (.list ((wayOf w mir).map fun (j : Nat) => .int (j : Int))), .no]) ?_ ?_
  · cases mir with
    | false => walk_at "vc"; rfl
    | true =>
      have h6 : w = 0 ∨ w = 1 ∨ w = 2 ∨ w = 3 ∨ w = 4 ∨ w = 5 := by omega
      walk_at "vc"
      rcases h6 with rfl | rfl | rfl | rfl | rfl | rfl
      · refine ⟨.bool false, rfl, ?_⟩
        walk_at "vc"
        rfl
      · refine ⟨.bool false, rfl, ?_⟩
        walk_at "vc"
        rfl
      · refine ⟨.bool true, rfl, ?_⟩
        walk_at "vc"
        rfl
      · refine ⟨.bool true, rfl, ?_⟩
        walk_at "vc"
        rfl
      · refine ⟨.bool false, rfl, ?_⟩
        walk_at "vc"
        rfl
      · refine ⟨.bool true, rfl, ?_⟩
        walk_at "vc"
        rfl
  rintro _ rfl
  obtain ⟨p1, p2, p3⟩ := wayOf_ok w hw mir n (by omega)
  generalize wayOf w mir = p at *
  refine ws_mid (fun e => e = [.own false [.int a, .int b], .val (.int (n : Int)), .val (.bool mir), .val (.int (c : Int)), .no, .val (.list ((ltrs c).map .str)), .val (.int (w : Int)), .val (.list (p.map fun (j : Nat) => .int (j : Int))), .own true []]) (by walk_at "vc"; rfl) ?_
  rintro _ rfl
  refine ws_mid (fun e => ∃ (a b : Int) (ls : List Str) (x4 : Sl), ls.Perm ((p.take n).map fun k => dtr ((c + 5 * k) % 26)) ∧ e = [.own false [.int a, .int b], .val (.int (n : Int)), .val (.bool mir), .val (.int (c : Int)), x4, .val (.list ((ltrs c).map .str)), .val (.int (w : Int)), .val (.list (p.map fun (j : Nat) => .int (j : Int))), .own true (ls.map .str)]) ?_ ?_
  · refine ws_forN (fun _ i e => ∃ (a b : Int) (ls : List Str) (x4 : Sl), ls.Perm (((p.take n).take i).map fun k => dtr ((c + 5 * k) % 26)) ∧ e = [.own false [.int a, .int b], .val (.int (n : Int)), .val (.bool mir), .val (.int (c : Int)), x4, .val (.list ((ltrs c).map .str)), .val (.int (w : Int)), .val (.list (p.map fun (j : Nat) => .int (j : Int))), .own true (ls.map .str)]) ?_
    walk_at "vc"
    rw [cut_take, ← List.map_take]
    refine ⟨⟨_, _, [], _, by simp, rfl⟩, ?_, ?_⟩
    · rintro i d e hi hd ⟨a, b, ls, x4, hP, rfl⟩
      rw [List.length_map] at hi
      rw [List.getElem?_map, List.getElem?_eq_getElem hi] at hd
      obtain rfl := Option.some.inj hd
      have hki := p2 _ (List.mem_of_mem_take (List.getElem_mem hi))
      have hll : ls.length ≤ 5 := by
        rw [hP.length_eq]
        simp
        omega
      rw [List.take_succ_eq_append_getElem hi, List.map_append]
      generalize (p.take n)[i] = k at *
      walk_at "vc"
      refine we_mut2 rfl ?_
      walk_at "vc"
      rw [List.length_map]
      refine next_w (by omega) (by omega) fun r _ _ _ r0 r1 => ?_
      walk_at "vc"
      have hk5 : k < (ltrs c).length := by
        unfold ltrs
        rw [List.length_map, List.length_range]
        exact hki
      refine wo_idxS hk5 ?_
      have hlk : (ltrs c)[k] = dtr ((c + 5 * k) % 26) := by
        have h5 : (ltrs c)[k]? = some (dtr ((c + 5 * k) % 26)) := by
          unfold ltrs
          rw [List.getElem?_map, List.getElem?_range hki]
          rfl
        rw [List.getElem?_eq_getElem hk5] at h5
        exact Option.some.inj h5
      rw [hlk]
      walk_at "vc"
      refine wo_insert r0 (by rw [List.length_map]; omega) (by rw [List.length_map]; omega) ?_
      walk_at "nr"
      refine ⟨_, _, ls.take r.toNat ++ dtr ((c + 5 * k) % 26) :: ls.drop r.toNat, _, ?_, by rw [List.map_append, List.map_cons, List.map_take, List.map_drop]⟩
      refine List.perm_middle.trans ?_
      rw [List.take_append_drop]
      exact (hP.cons _).trans (List.perm_append_comm (l₁ := [dtr ((c + 5 * k) % 26)]))
    · rintro e ⟨a, b, ls, x4, hP, rfl⟩
      rw [List.length_map, List.take_length] at hP
      exact ⟨_, _, ls, _, hP, rfl⟩
  rintro e ⟨a, b, ls, x4, hP, rfl⟩
  walk_at "vc"
  refine q ls _ _ _ _ ?_ (fun x hx => ?_) ?_
  · rw [hP.length_eq]
    simp
    omega
  · obtain ⟨k, _, rfl⟩ := List.mem_map.mp (hP.mem_iff.mp hx)
    exact dtr_lk (Nat.mod_lt _ (by omega))
  · rw [cntR_perm hP, cntR_ltrs hc fun k hk => p2 k (List.mem_of_mem_take hk)]
    exact p3

section
variable {w : World} {hs : List Hd} {d : D} {mir bl : Bool} {m : Int} {Q : D → List Sl → Prop}
theorem islook_w {x : Str} (h : isLk x) (q : ∀ y, Q (.bool true) [y]) : WG g_is_look [.val (.str x)] Q := by
  refine wg_run rfl ?_
  unfold b_is_look c_LETTERS
  walk_at "vc"
  refine wo_lenS ?_ (by rw [lk_len h]; decide)
  rw [lk_len h]
  walk_at "vc"
  refine lk_in h _ ?_
  walk_at "vc"
  exact q _
theorem manyr_w (hd : SeqD (hs.map hD) d) (hl : hs.length ≤ 6) (q : ∀ x y, Q (.int ((cntR (looksOf hs) * (1 + if mir then 1 else 0) : Nat) : Int)) [x, y]) :
    WG (g_many_readings w) [.val d, .val (.bool mir)] Q := by
  refine wg_run rfl ?_
  unfold b_many_readings
  walk_at "nr"
  refine ws_mid (fun e => e = [.val d, .val (.bool mir), .val (.int ((1 + if mir then 1 else 0 : Nat) : Int)), .no, .no, .no, .no]) (by cases mir <;> (walk_at "vc"; rfl)) ?_
  rintro _ rfl
  refine ws_mid (fun e => e = [.val d, .val (.bool mir), .val (.int ((1 + if mir then 1 else 0 : Nat) : Int)), .dct w [], .no, .no, .no]) (by walk_at "vc"; rfl) ?_
  rintro _ rfl
  have hm : (1 + if mir = true then 1 else 0 : Nat) ≤ 2 := by cases mir <;> decide
  generalize (1 + if mir = true then 1 else 0 : Nat) = b at *
  walk_at "vd"
  refine ws_cut (fun e => ∃ x3 x4 x5 x6 : Sl, e = [.val d, .val (.bool mir), .val (.int ((cntR (looksOf hs) * b : Nat) : Int)), x3, x4, x5, x6]) ?_ ?_
  · refine ws_forN (fun _ k e => ∃ (kvs : List (D × D)) (x4 x5 x6 : Sl), MetOk kvs ((looksOf hs).take k).reverse ∧ e = [.val d, .val (.bool mir), .val (.int ((cntR ((looksOf hs).take k).reverse * b : Nat) : Int)), .dct w kvs, x4, x5, x6]) ?_
    walk_at "vc"
    refine hd.isS _ ?_
    refine ⟨⟨[], .no, .no, .no, met_nil, ?_⟩, ?_, ?_⟩
    · have : cntR ((looksOf hs).take 0).reverse = 1 := rfl
      rw [this, Nat.one_mul]
    · rintro k d2 e hkl hd2 ⟨kvs, x4, x5, x6, hmet, rfl⟩
      rw [List.length_map] at hkl
      rw [List.getElem?_map, List.getElem?_eq_getElem hkl] at hd2
      obtain rfl := Option.some.inj hd2
      have hkl' : k < (looksOf hs).length := by rw [List.length_map]; exact hkl
      have htk : ((looksOf hs).take (k + 1)).reverse = hs[k].2.2 :: ((looksOf hs).take k).reverse := by
        rw [List.take_succ_eq_append_getElem hkl', List.reverse_append]
        show [(looksOf hs)[k]] ++ _ = _
        rw [List.getElem_map]
        rfl
      have hlen : ((looksOf hs).take k).reverse.length ≤ 6 := by
        rw [List.length_reverse, List.length_take, List.length_map]; omega
      rw [htk]
      generalize ((looksOf hs).take k).reverse = ls at *
      generalize hs[k] = hh at *
      obtain ⟨g, s, x⟩ := hh
      have hcl : ls.count x ≤ ls.length := List.count_le_length
      have hcr := cntR_le ls hlen
      have hml := hmet.len
      rw [show hD (g, s, x) = .tuple [.int g, .int s, .str x] from rfl]
      walk_at "vc"
      refine ⟨kvs, rfl, hmet.mode x, ?_⟩
      rw [hmet.getD]
      walk_at "vc"
      refine ⟨rfl, ?_⟩
      walk_at "vc"
      refine ⟨kvs, rfl, hmet.mode x, by omega, ?_⟩
      walk_at "vc"
      refine ⟨_, _, rfl, (hmet.put x).mode x, hmet.after x, ?_⟩
      have hb : cntR ls * b ≤ 10 ^ 6 * 2 := Nat.mul_le_mul hcr hm
      walk_at "vc"
      refine ⟨_, .val (.int g), .val (.int s), .val (.str x), hmet.put x, ?_⟩
      have e : ((cntR ls * b : Nat) : Int) * ((ls.count x : Int) + 1) = ((cntR (x :: ls) * b : Nat) : Int) := by
        rw [show cntR (x :: ls) = (ls.count x + 1) * cntR ls from rfl, show ((ls.count x : Int) + 1) = ((ls.count x + 1 : Nat) : Int) by omega, ← Int.natCast_mul]
        congr 1
        rw [Nat.mul_comm, Nat.mul_assoc]
      rw [← e]
    · rintro e ⟨kvs, x4, x5, x6, hmet, rfl⟩
      rw [List.length_map, List.take_of_length_le (by rw [List.length_map]; exact Nat.le_refl _), cntR_perm (List.reverse_perm _)]
      exact ⟨_, _, _, _, rfl⟩
  rintro e ⟨x3, x4, x5, x6, rfl⟩
  walk_at "vc"
  exact q _ _
theorem made_w (hd : SeqD (hs.map hD) d) (hm : 2 ≤ m) (hm2 : m ≤ 10 ^ 60) (h1 : 1 ≤ hs.length) (hn : hs.length ≤ 5) (hk : ∀ h ∈ hs, isLk h.2.2) (hr : cntR (looksOf hs) * (1 + if mir then 1 else 0) ≤ 6) (q : ∀ x, Q (clockD m (redH m hs) bl mir) [.val (.int m), x, .val (.bool bl), .val (.bool mir)]) :
    WG (g_made_clock w) [.val (.int m), .val d, .val (.bool bl), .val (.bool mir)] Q := by
  refine wg_run rfl ?_
  unfold b_made_clock c_MOST_MARKS c_MOST_HANDS c_MOST_READINGS
  walk_at "vc"
  refine hd.len _ ?_
  rw [List.length_map]
  walk_at "vc"
  refine wl_compP (fun _ _ => true) (fun _ _ => .bool true) ?_
  walk_at "vc"
  refine hd.isS _ ?_
  refine ⟨rfl, fits_of (by rw [List.length_map]; omega), fun d hd => ?_, ?_⟩
  · obtain ⟨h, hh, rfl⟩ := List.mem_map.mp hd
    have hx := hk h hh
    obtain ⟨g, s, x⟩ := h
    rw [show hD (g, s, x) = .tuple [.int g, .int s, .str x] from rfl]
    walk_at "vc"
    refine ⟨rfl, ?_⟩
    walk_at "vc"
    refine islook_w hx fun _ => ?_
    walk_at "vc"
    exact ⟨rfl, rfl⟩
  rw [filter_yes]
  walk_at "vc"
  refine wo_allM (p := fun _ => true) ?_
  walk_at "vc"
  refine ifb_eT (by simp) ?_
  walk_at "vc"
  refine manyr_w hd (by omega) fun _ _ => ?_
  walk_at "vc"
  refine wl_compP (fun _ _ => true) (fun _ => redD m) ?_
  walk_at "vc"
  refine hd.isS _ ?_
  refine ⟨rfl, fits_of (by rw [List.length_map]; omega), fun d hd => ?_, ?_⟩
  · obtain ⟨h, hh, rfl⟩ := List.mem_map.mp hd
    obtain ⟨g, s, x⟩ := h
    rw [show hD (g, s, x) = .tuple [.int g, .int s, .str x] from rfl]
    walk_at "vc"
    refine ⟨rfl, ?_⟩
    walk_at "vc"
    exact ⟨rfl, rfl⟩
  rw [filter_yes, redD_hands]
  walk_at "vc"
  exact q _
end

theorem red_ok {m : Int} {hs : List Hd} (hm : 0 < m) (hk : ∀ h ∈ hs, isLk h.2.2) : HandsOk m (redH m hs) := fun h hh => by
  unfold redH at hh
  obtain ⟨x, hx, rfl⟩ := List.mem_map.mp hh
  exact ⟨Int.emod_nonneg _ (by omega), Int.emod_lt_of_pos _ hm, Int.emod_nonneg _ (by omega), Int.emod_lt_of_pos _ hm, hk x hx⟩
theorem dclock_w {w : World} {a b m : Int} {Q : D → List Sl → Prop} (hm : 2 ≤ m) (hm2 : m ≤ 10 ^ 60) (q : ∀ (hs : List Hd) (bl mir : Bool) (a' b' : Int) x, 1 ≤ hs.length → hs.length ≤ 5 → HandsOk m hs → cntR (looksOf hs) * (1 + if mir then 1 else 0) ≤ 6 → Q (clockD m hs bl mir) [.own false [.int a', .int b'], x]) :
    WG (g__law_clock w) [.own false [.int a, .int b], .val (.int m)] Q := by
  refine wg_run rfl ?_
  unfold b__law_clock
  walk_at "nr"
  refine ws_mid (fun e => ∃ (a b : Int) (bl : Bool), e = [.own false [.int a, .int b], .val (.int m), .val (.bool bl), .no, .no, .no, .no, .no, .no, .no]) ?_ ?_
  · walk_at "vc"
    refine next_w (by omega) (by omega) fun r _ _ _ r0 r1 => ?_
    walk_at "vc"
    exact ⟨_, _, _, rfl⟩
  rintro e ⟨a, b, bl, rfl⟩
  refine ws_mid (fun e => ∃ (a b : Int) (mir : Bool), e = [.own false [.int a, .int b], .val (.int m), .val (.bool bl), .val (.bool mir), .no, .no, .no, .no, .no, .no]) ?_ ?_
  · walk_at "vc"
    refine next_w (by omega) (by omega) fun r _ _ _ r0 r1 => ?_
    walk_at "vc"
    exact ⟨_, _, _, rfl⟩
  rintro e ⟨a, b, mir, rfl⟩
  refine ws_mid (fun e => ∃ (a b : Int) (n : Nat), (1 ≤ n ∧ n ≤ 5) ∧ e = [.own false [.int a, .int b], .val (.int m), .val (.bool bl), .val (.bool mir), .val (.int (n : Int)), .no, .no, .no, .no, .no]) ?_ ?_
  · walk_at "vc"
    refine next_w (by omega) (by omega) fun r _ _ _ r0 r1 => ?_
    walk_at "vc"
    refine pick_w (xs := [2, 2, 3, 4, 1, 5]) (lo := 1) (hi := 5) r0 (by simp; omega) rfl (by decide) fun x x0 x1 _ => ?_
    obtain ⟨n, rfl⟩ := Int.eq_ofNat_of_zero_le (show 0 ≤ x by omega)
    walk_at "vc"
    exact ⟨_, _, n, by omega, rfl⟩
  rintro e ⟨a, b, n, ⟨n1, n5⟩, rfl⟩
  refine ws_mid (fun e => e = [.own false [.int a, .int b], .val (.int m), .val (.bool bl), .val (.bool mir), .val (.int (n : Int)), .own true [], .no, .no, .no, .no]) (by walk_at "vc"; rfl) ?_
  rintro _ rfl
  refine ws_mid (fun e => ∃ (a b : Int) (hs : List Hd) (x6 x7 x8 x9 : Sl), hs.length = n ∧ (∀ h ∈ hs, isLk h.2.2) ∧ cntR (looksOf hs) * (1 + if mir then 1 else 0) ≤ 6 ∧ e = [.own false [.int a, .int b], .val (.int m), .val (.bool bl), .val (.bool mir), .val (.int (n : Int)), .own true (hs.map hD), x6, x7, x8, x9]) ?_ ?_
  · refine ws_for (fun _ rs e => ∃ (a b : Int) (hs : List Hd) (ls : List Str) (x6 x7 x8 x9 : Sl), rs = ls.map .str ∧ (looksOf hs ++ ls).length = n ∧ (∀ x ∈ looksOf hs ++ ls, isLk x) ∧ cntR (looksOf hs ++ ls) * (1 + if mir then 1 else 0) ≤ 6 ∧ e = [.own false [.int a, .int b], .val (.int m), .val (.bool bl), .val (.bool mir), .val (.int (n : Int)), .own true (hs.map hD), x6, x7, x8, x9]) ?_
    walk_at "vc"
    refine dlooks_w n5 fun ls _ _ _ _ l1 l2 l3 => ?_
    walk_at "vc"
    refine ⟨⟨_, _, [], ls, _, _, _, _, rfl, l1, l2, l3, rfl⟩, ?_, ?_⟩
    · rintro d rs e ⟨a, b, hs, ls, x6, x7, x8, x9, g0, g1, g2, g3, rfl⟩
      cases ls with
      | nil => cases g0
      | cons l ls =>
        cases g0
        have hsl : hs.length ≤ 5 := by
          rw [List.length_append] at g1
          have : (looksOf hs).length = hs.length := List.length_map ..
          omega
        refine wt_n ?_
        walk_at "nr"
        refine ws_mid (fun e => ∃ (a b f : Int), (1 ≤ f ∧ f ≤ 12) ∧ e = [.own false [.int a, .int b], .val (.int m), .val (.bool bl), .val (.bool mir), .val (.int (n : Int)), .own true (hs.map hD), .val (.str l), .val (.int f), x8, x9]) ?_ ?_
        · walk_at "vc"
          refine next_w (by omega) (by omega) fun r _ _ _ r0 r1 => ?_
          walk_at "vc"
          exact ⟨_, _, _, by omega, rfl⟩
        rintro e ⟨a, b, f, ⟨f1, f2⟩, rfl⟩
        refine ws_mid (fun e => ∃ (a b y : Int), (0 ≤ y ∧ y < m) ∧ e = [.own false [.int a, .int b], .val (.int m), .val (.bool bl), .val (.bool mir), .val (.int (n : Int)), .own true (hs.map hD), .val (.str l), .val (.int f), .val (.int y), x9]) ?_ ?_
        · walk_at "vc"
          refine below_w (by omega) (by omega) fun r _ _ _ r0 r1 => ?_
          walk_at "vc"
          exact ⟨_, _, _, ⟨r0, r1⟩, rfl⟩
        rintro e ⟨a, b, y, ⟨y0, y1⟩, rfl⟩
        have m6 : 0 ≤ m / 6 := Int.ediv_nonneg (by omega) (by omega)
        have m7 : m / 6 ≤ m := Int.ediv_le_self _ (by omega)
        have p1 : f * (m / 6) ≤ 12 * 10 ^ 60 := Int.mul_le_mul f2 (by omega) m6 (by decide)
        have p2 : 0 ≤ f * (m / 6) := Int.mul_nonneg (by omega) m6
        have p3 : f * y ≤ 12 * 10 ^ 60 := Int.mul_le_mul f2 (by omega) y0 (by decide)
        have p4 : 0 ≤ f * y := Int.mul_nonneg (by omega) y0
        refine ws_mid (fun e => ∃ (a b g : Int), g.natAbs ≤ 10 ^ 62 ∧ e = [.own false [.int a, .int b], .val (.int m), .val (.bool bl), .val (.bool mir), .val (.int (n : Int)), .own true (hs.map hD), .val (.str l), .val (.int f), .val (.int y), .val (.int g)]) ?_ ?_
        · walk_at "vc"
          refine next_w (by omega) (by omega) fun r _ _ _ r0 r1 => ?_
          walk_at "vc"
          refine pick_w (xs := [1, f, y, 0 - f, f * (m / 6), f * y]) (lo := -10 ^ 62) (hi := 10 ^ 62) r0 (by simp; omega) rfl (fun z hz => ?_) fun z z0 z1 _ => ?_
          · simp only [List.mem_cons, List.not_mem_nil, or_false] at hz
            rcases hz with rfl | rfl | rfl | rfl | rfl | rfl <;> omega
          walk_at "vc"
          exact ⟨_, _, z, by omega, rfl⟩
        rintro e ⟨a, b, g, hg, rfl⟩
        walk_at "vc"
        refine below_w (by omega) (by omega) fun s _ _ _ s0 s1 => ?_
        walk_at "vc"
        refine next_w (by omega) (by omega) fun r _ _ _ r0 r1 => ?_
        walk_at "vc"
        refine ⟨_, _, hs ++ [(g, _, l)], ls, _, _, _, _, rfl, ?_, ?_, ?_, by rw [List.map_append]; rfl⟩
        all_goals rw [show looksOf (hs ++ [(g, _, l)]) = looksOf hs ++ [l] by unfold looksOf; rw [List.map_append]; rfl, List.append_assoc]
        · exact g1
        · exact g2
        · exact g3
    · rintro e ⟨a, b, hs, ls, x6, x7, x8, x9, g0, g1, g2, g3, rfl⟩
      cases ls with
      | cons _ _ => cases g0
      | nil =>
        rw [List.append_nil] at g1 g2 g3
        exact ⟨_, _, hs, _, _, _, _, by rw [← g1]; exact (List.length_map ..).symm, fun h hh => g2 h.2.2 (List.mem_map.mpr ⟨h, hh, rfl⟩), g3, rfl⟩
  rintro e ⟨a, b, hs, x6, x7, x8, x9, g1, g2, g3, rfl⟩
  walk_at "vc"
  refine made_w (.inl rfl) hm hm2 (by omega) (by omega) g2 g3 fun _ => ?_
  walk_at "vc"
  refine q (redH m hs) bl mir _ _ _ ?_ ?_ (red_ok (by omega) g2) (by rw [looks_red]; exact g3)
  · unfold redH; rw [List.length_map]; omega
  · unfold redH; rw [List.length_map]; omega

section
variable {w : World} {m g : Int} {hs : List Hd} {bl mir : Bool} {Q : D → List Sl → Prop} {X : Xc → Prop}
theorem small_w {a b : Int} {Q : D → List Sl → Prop} (q : ∀ (m : Int) (hs : List Hd) (bl mir : Bool) (a' b' : Int), 2 ≤ m → m ≤ 48 → 1 ≤ hs.length → hs.length ≤ 5 → HandsOk m hs → cntR (looksOf hs) * (1 + if mir then 1 else 0) ≤ 6 → Q (clockD m hs bl mir) [.own false [.int a', .int b']]) :
    WG (g__law_small w) [.own false [.int a, .int b]] Q := by
  refine wg_run rfl ?_
  unfold b__law_small
  walk_at "nr"
  refine ws_mid (fun e => ∃ a b m : Int, (2 ≤ m ∧ m ≤ 48) ∧ e = [.own false [.int a, .int b], .val (.int m)]) ?_ ?_
  · walk_at "vc"
    refine next_w (by omega) (by omega) fun r _ _ _ r0 r1 => ?_
    walk_at "vc"
    refine next_w (by omega) (by omega) fun r' _ _ _ r2 r3 => ?_
    walk_at "vc"
    refine pick_w (xs := [12, 24, 30, 36, 48, 15, 35, 33]) (lo := 2) (hi := 48) r2 (by simp; omega) rfl (by decide) fun x x0 x1 _ => ?_
    walk_at "vc"
    refine next_w (by omega) (by omega) fun r'' _ _ _ r4 r5 => ?_
    walk_at "vc"
    refine pick_w (xs := [2 + r, x]) (lo := 2) (hi := 48) r4 (by simp; omega) rfl (fun y hy => ?_) fun y y0 y1 _ => ?_
    · simp only [List.mem_cons, List.not_mem_nil, or_false] at hy
      rcases hy with rfl | rfl <;> omega
    walk_at "vc"
    exact ⟨_, _, y, ⟨y0, y1⟩, rfl⟩
  rintro e ⟨a, b, m, ⟨m1, m2⟩, rfl⟩
  walk_at "vc"
  refine dclock_w m1 (by omega) fun hs bl mir _ _ _ h1 hn hk hr => ?_
  walk_at "vc"
  exact q m hs bl mir _ _ m1 m2 h1 hn hk hr
end

end Lw

namespace Lw
open PySem PySem.Spec PyProof.Rows L2 M
local macro_rules | `(tactic| walk_at "sd") => `(tactic| (first | (with_reducible assumption) | omega | (simp; done) | (simp; omega) | decide))
local macro_rules | `(tactic| walk_at "v1") => `(tactic| (first | ((with_reducible show WE _ _ _); first | with_reducible refine we_chain3 ?_ | with_reducible refine we_callNL ?_ | with_reducible refine we_callN ?_ | with_reducible refine we_c ?_ | with_reducible refine we_un ?_ | with_reducible refine we_bin ?_ | with_reducible refine we_chain ?_ | with_reducible refine we_and ?_ | with_reducible refine we_or ?_ | with_reducible refine we_not ?_ | with_reducible refine we_if ?_ | with_reducible refine we_fz ?_ | with_reducible refine we_tup ?_ | with_reducible refine we_sl ?_ | with_reducible refine we_tupRg ?_ | with_reducible refine we_bor ?_ | with_reducible refine we_call ?_ | with_reducible refine we_din ?_ | with_reducible refine we_borL ?_ | ((with_reducible apply we_v); (· rfl)) | ((with_reducible show WE (eO _) _ _); first | ((with_reducible apply we_oV); (· rfl)) | ((with_reducible apply we_oW); (· rfl)) | ((with_reducible apply we_oR); (· rfl))) | ((with_reducible show WE (eBinV _ _ _) _ _); first | ((with_reducible apply we_bV); (· rfl)) | ((with_reducible apply we_bVr); (· rfl)) | ((with_reducible apply we_bVv); (· rfl))) | ((with_reducible apply we_mut); (· rfl)) | ((with_reducible apply we_mut0); (· rfl)) | ((with_reducible apply we_dget2); (· rfl)) | ((with_reducible apply we_didx); (· rfl))) | ((with_reducible show WO _ _); first | ((with_reducible show WO (gIsO _ _) _); first | with_reducible refine wo_isON ?_ | ((with_reducible refine wo_isO (b := true) ?_ ?_); (· rfl)) | ((with_reducible refine wo_isO (b := false) ?_ ?_); (· rfl))) | with_reducible refine wo_attr ?_ | ((with_reducible show WO (valsA _) _); first | with_reducible refine vals_nil ?_ | with_reducible refine vals_v ?_) | with_reducible refine wo_isB ?_ | with_reducible refine wo_ntB ?_ | ((with_reducible show WO (backAr _ _ _) _); first | with_reducible refine back_nil ?_ | with_reducible refine back_v ?_ | with_reducible refine back_o ?_ | ((with_reducible apply back_r); (· rfl))) | ((with_reducible show WO (resArs _ _) _); first | with_reducible refine res_nil ?_ | with_reducible refine res_v ?_ | ((with_reducible apply res_r); (· rfl)) | ((with_reducible apply res_oO); (· rfl)) | ((with_reducible apply res_oR); (· rfl)) | ((with_reducible apply res_oV); (· rfl))) | ((with_reducible show WO (gAdd _ _) _); first | with_reducible refine wo_add ?_ | ((with_reducible refine wo_addL ?_ ?_); (· first | rfl | (apply fits_of; first | omega | (simp; omega)))) | ((with_reducible refine wo_addT ?_ ?_); (· first | rfl | (apply fits_of; first | omega | (simp; omega))))) | with_reducible refine wo_sub ?_ | with_reducible refine wo_neg ?_ | with_reducible refine wo_lt ?_ | with_reducible refine wo_le ?_ | with_reducible refine wo_gt ?_ | with_reducible refine wo_ge ?_ | ((with_reducible show WO (gEq _ _) _); first | with_reducible refine wo_eq ?_ | with_reducible refine wo_eqB ?_ | ((with_reducible refine wo_eqT ?_ ?_); (· decide +kernel)) | ((with_reducible refine wo_eqF ?_ ?_); (· decide +kernel))) | ((with_reducible show WO (gNe _ _) _); first | with_reducible refine wo_ne ?_ | with_reducible refine wo_neB ?_ | ((with_reducible refine wo_neT ?_ ?_); (· decide +kernel)) | ((with_reducible refine wo_neF ?_ ?_); (· decide +kernel))) | with_reducible refine wo_isN ?_ | with_reducible refine wo_ntN ?_ | ((with_reducible show WO (gLen _) _); first | with_reducible refine wo_lenL ?_ | with_reducible refine wo_lenT ?_) | with_reducible refine wo_abs ?_ | ((with_reducible show WO (gInt _) _); first | with_reducible refine wo_intB ?_ | with_reducible refine wo_intI ?_) | ((with_reducible show WO (gList _) _); first | with_reducible refine wo_listL ?_ | with_reducible refine wo_listT ?_) | ((with_reducible show WO (gTuple _) _); first | with_reducible refine wo_tupL ?_ | with_reducible refine wo_tupT ?_) | with_reducible refine wo_max ?_ | with_reducible refine wo_min ?_ | ((with_reducible show WO (gIsi _ _) _); first | with_reducible refine wo_isiI ?_ | with_reducible refine wo_isiB ?_ | ((with_reducible apply wo_isiE); (· rfl))) | ((with_reducible show WO (cutOf _ _ _) _); first | with_reducible refine wo_cutL ?_ | with_reducible refine wo_cutT ?_) | ((with_reducible show WO (gPow _ _) _); first | with_reducible refine wo_p10_60 ?_ | with_reducible refine wo_p10_18 ?_ | with_reducible refine wo_p10_30 ?_ | with_reducible refine wo_p2_24 ?_ | with_reducible refine wo_p10_8 ?_ | with_reducible refine wo_p10_19 ?_ | with_reducible refine wo_p10_55 ?_ | with_reducible refine wo_p10_59 ?_ | with_reducible refine wo_p3_30 ?_ | with_reducible refine wo_p2_40 ?_ | with_reducible refine wo_p10_54 ?_ | with_reducible refine wo_p3_13 ?_ | with_reducible refine wo_p2_20 ?_ | with_reducible refine wo_p10_57 ?_ | with_reducible refine wo_p10_40 ?_ | with_reducible refine wo_p10_61 ?_ | with_reducible refine wo_p10_50 ?_) | ((with_reducible apply wo_idxE); (· rfl)) | ((with_reducible apply wo_allE); (· rfl)) | ((with_reducible apply wo_anyE); (· rfl)) | ((with_reducible show WO (ixN _ _) _); first | ((with_reducible apply wo_ixE); (· rfl)) | ((with_reducible refine wo_ix ?_ ?_ ?_); (· walk_at "sd"); (· walk_at "sd"))) | ((with_reducible refine wo_mod ?_ ?_); (· walk_at "sd")) | ((with_reducible refine wo_div ?_ ?_ ?_); (· walk_at "sd"); (· walk_at "sd")) | ((with_reducible refine wo_mul ?_ ?_); (· first | exact mul_ok1 (by walk_at "sd") | exact mul_ok2 (by walk_at "sd") | exact mul_ok3 (by omega) (by omega))) | ((with_reducible refine wo_app ?_ ?_); (· first | rfl | (apply fits_of; first | omega | (simp; omega)))) | ((with_reducible refine wo_ext ?_ ?_); (· first | rfl | (apply fits_of; first | omega | (simp; omega))))) | ((with_reducible show WS _ _ _); first | with_reducible refine ws_try ?_ | with_reducible refine ws_retT ?_ | with_reducible refine ws_seq ?_ | with_reducible refine ws_expr ?_ | with_reducible refine ws_ret ?_ | with_reducible refine ws_retL ?_ | with_reducible refine ws_if ?_ | with_reducible refine ws_set ?_ | with_reducible refine ws_setO ?_ | with_reducible refine ws_asg ?_ | with_reducible refine ws_par ?_ | with_reducible refine ws_nil ?_ | with_reducible refine ws_retN ?_ | with_reducible refine ws_dput ?_ | with_reducible refine ws_dnew ?_ | ((with_reducible show WS (sFrz _ _) _ _); first | ((with_reducible apply ws_frz); (· rfl)) | ((with_reducible apply ws_frzV); (· rfl))) | ((with_reducible apply ws_retO); (· rfl)) | ((with_reducible apply ws_putI); (· rfl))) | ((with_reducible apply nrm_); (· (try simp only [wipeE, backE, List.set_cons_zero, List.set_cons_succ, List.getElem?_cons_zero, List.getElem?_cons_succ, List.cons_append, List.nil_append, List.replicate_succ, List.replicate_zero, Nat.reduceSub, unowns_nil, unowns_cons, unown_own, unown_val, unown_no, unown_ro, unown_dct]); rfl)) | ((with_reducible show IfB _ _ _); first | with_reducible refine ifb_not ?_ | with_reducible refine ifb_t ?_ | with_reducible refine ifb_f ?_ | ((with_reducible refine ifb_decT ?_ ?_); (· first | (with_reducible assumption) | omega | (simp only [List.length_cons, List.length_nil]; omega))) | ((with_reducible refine ifb_decF ?_ ?_); (· first | (with_reducible assumption) | omega | (simp only [List.length_cons, List.length_nil]; omega))) | with_reducible refine ifb_dec (fun _ => ?_) (fun _ => ?_) | ((with_reducible apply ifb_eT); (· rfl)) | ((with_reducible apply ifb_eF); (· rfl))) | ((with_reducible show WB _ _ _); first | with_reducible refine wb_bor ?_ | with_reducible refine wb_v ?_ | with_reducible refine wb_and ?_ | with_reducible refine wb_or ?_ | with_reducible refine wb_not ?_ | with_reducible refine wb_yes ?_) | with_reducible refine isb ?_ | ((with_reducible show WL _ _ _); first | with_reducible refine wl_nil ?_ | with_reducible refine wl_cons ?_ | with_reducible refine wl_lst ?_ | with_reducible refine wl_un ?_ | with_reducible refine wl_it ?_ | with_reducible refine wl_rng1 ?_ | with_reducible refine wl_rng2 ?_ | with_reducible refine wl_enum ?_ | with_reducible refine wl_enumA ?_ | with_reducible refine wl_addE ?_ | with_reducible refine wl_rg1 ?_ | with_reducible refine wl_bor ?_ | with_reducible refine wl_call ?_ | ((with_reducible apply wl_addO); (· rfl)) | ((with_reducible show WL (lSlV _ _ _) _ _); first | ((with_reducible apply wl_slO); (· rfl)) | ((with_reducible apply wl_slR); (· rfl)))) | ((with_reducible show WA _ _ _); first | with_reducible refine wa_nil ?_ | with_reducible refine wa_v ?_ | ((with_reducible apply wa_r); (· rfl)) | ((with_reducible show WA (aO _ _) _ _); first | ((with_reducible apply wa_oR); (· rfl)) | ((with_reducible apply wa_oO); (· rfl)) | ((with_reducible apply wa_oV); (· rfl)))) | ((with_reducible show IsS _ _); first | with_reducible refine iss_l ?_ | with_reducible refine iss_t ?_) | ((with_reducible refine fit_ ?_ ?_); (· first | rfl | (apply fits_of; first | omega | (simp; omega)))) | ((with_reducible show CallG _ _ _ _); first | ((with_reducible apply cg0); (· rfl)) | ((with_reducible apply cg1); (· rfl); (· rfl))) | ((with_reducible show WT _ _ _ _); first | with_reducible refine wt_n ?_ | ((with_reducible apply wt_t); (· rfl)) | ((with_reducible apply wt_unl); (· rfl))) | ((with_reducible show WTs _ _ _ _); first | with_reducible refine wts_nil ?_ | with_reducible refine wts_cons ?_) | ((with_reducible apply own_); (· rfl)) | ((with_reducible refine sml_ ?_ ?_ ?_); (· walk_at "sd"); (· walk_at "sd")) | with_reducible refine isi_ ?_ | ((with_reducible show WNl _ _ _); first | with_reducible refine wnl_l ?_ | with_reducible refine wnl_v ?_) | ((with_reducible show WSX _ _ _); first | with_reducible refine wsx_lift ?_ | with_reducible refine wsx_seq ?_ | with_reducible refine wsx_if ?_ | with_reducible refine wsx_raise0 ?_ | with_reducible refine wsx_expr ?_ | with_reducible refine wsx_ret ?_ | with_reducible refine wsx_set ?_) | with_reducible refine wex_call ?_ | ((with_reducible show WPu _ _ _ _); first | with_reducible refine wpu_nil ?_ | with_reducible refine wpu_seq ?_ | with_reducible refine wpu_ret ?_ | with_reducible refine wpu_if ?_) | ((with_reducible show WTd _ _ _ _ _); first | with_reducible refine wtd_P ?_ | with_reducible refine wtd_G ?_ | with_reducible refine wtd_If ?_ | ((with_reducible refine wtd_K ?_ ?_); (· exact ⟨rfl, by decide⟩)) | ((with_reducible refine wtd_U ?_ ?_); (· exact ⟨rfl, by decide⟩)) | ((with_reducible refine wtd_C ?_ ?_); (· rfl)) | ((with_reducible refine wtd_A ?_ ?_ ?_); (· rfl); (· first | rfl | (apply fits_of; first | omega | (simp; omega))))) | with_reducible refine two_ ?_ | ((with_reducible show WC _ _ _ _ _ _ _); first | with_reducible refine wc_nil ?_ | with_reducible refine wc_cons ?_) | ((with_reducible show WP _ _ _); first | with_reducible refine wp_no ?_ | with_reducible refine wp_e ?_) | with_reducible refine isl ?_ | ((with_reducible show RetT _ _ _); first | ((with_reducible apply retT1); (· rfl)) | ((with_reducible apply retT2); (· rfl))) | ((with_reducible show Any _ _); first | ((with_reducible apply any_o); (· rfl)) | ((with_reducible apply any_r); (· rfl))) | ((with_reducible show CallH _ _ _ _); first | ((with_reducible apply ch0); (· rfl)) | ((with_reducible apply ch1); (· rfl); (· rfl))) | ((with_reducible apply cgx0); (· rfl))))
local macro_rules | `(tactic| walk_at "v2") => `(tactic| (first | ((with_reducible show WE _ _ _); first | with_reducible refine we_chain3 ?_ | with_reducible refine we_callNL ?_ | with_reducible refine we_callN ?_ | with_reducible refine we_c ?_ | with_reducible refine we_un ?_ | with_reducible refine we_bin ?_ | with_reducible refine we_chain ?_ | with_reducible refine we_and ?_ | with_reducible refine we_or ?_ | with_reducible refine we_not ?_ | with_reducible refine we_if ?_ | with_reducible refine we_fz ?_ | with_reducible refine we_tup ?_ | with_reducible refine we_sl ?_ | with_reducible refine we_tupRg ?_ | with_reducible refine we_bor ?_ | with_reducible refine we_call ?_ | with_reducible refine we_din ?_ | with_reducible refine we_borL ?_ | ((with_reducible apply we_v); (· rfl)) | ((with_reducible show WE (eO _) _ _); first | ((with_reducible apply we_oV); (· rfl)) | ((with_reducible apply we_oW); (· rfl)) | ((with_reducible apply we_oR); (· rfl))) | ((with_reducible show WE (eBinV _ _ _) _ _); first | ((with_reducible apply we_bV); (· rfl)) | ((with_reducible apply we_bVr); (· rfl)) | ((with_reducible apply we_bVv); (· rfl))) | ((with_reducible apply we_mut); (· rfl)) | ((with_reducible apply we_mut0); (· rfl)) | ((with_reducible apply we_dget2); (· rfl)) | ((with_reducible apply we_didx); (· rfl))) | ((with_reducible show WO _ _); first | ((with_reducible show WO (gIsO _ _) _); first | with_reducible refine wo_isON ?_ | ((with_reducible refine wo_isO (b := true) ?_ ?_); (· rfl)) | ((with_reducible refine wo_isO (b := false) ?_ ?_); (· rfl))) | with_reducible refine wo_attr ?_ | ((with_reducible show WO (valsA _) _); first | with_reducible refine vals_nil ?_ | with_reducible refine vals_v ?_) | with_reducible refine wo_isB ?_ | with_reducible refine wo_ntB ?_ | ((with_reducible show WO (backAr _ _ _) _); first | with_reducible refine back_nil ?_ | with_reducible refine back_v ?_ | with_reducible refine back_o ?_ | ((with_reducible apply back_r); (· rfl))) | ((with_reducible show WO (resArs _ _) _); first | with_reducible refine res_nil ?_ | with_reducible refine res_v ?_ | ((with_reducible apply res_r); (· rfl)) | ((with_reducible apply res_oO); (· rfl)) | ((with_reducible apply res_oR); (· rfl)) | ((with_reducible apply res_oV); (· rfl))) | ((with_reducible show WO (gAdd _ _) _); first | with_reducible refine wo_add ?_ | ((with_reducible refine wo_addL ?_ ?_); (· first | rfl | (apply fits_of; first | omega | (simp; omega)))) | ((with_reducible refine wo_addT ?_ ?_); (· first | rfl | (apply fits_of; first | omega | (simp; omega))))) | with_reducible refine wo_sub ?_ | with_reducible refine wo_neg ?_ | with_reducible refine wo_lt ?_ | with_reducible refine wo_le ?_ | with_reducible refine wo_gt ?_ | with_reducible refine wo_ge ?_ | ((with_reducible show WO (gEq _ _) _); first | with_reducible refine wo_eq ?_ | with_reducible refine wo_eqB ?_ | ((with_reducible refine wo_eqT ?_ ?_); (· decide +kernel)) | ((with_reducible refine wo_eqF ?_ ?_); (· decide +kernel))) | ((with_reducible show WO (gNe _ _) _); first | with_reducible refine wo_ne ?_ | with_reducible refine wo_neB ?_ | ((with_reducible refine wo_neT ?_ ?_); (· decide +kernel)) | ((with_reducible refine wo_neF ?_ ?_); (· decide +kernel))) | with_reducible refine wo_isN ?_ | with_reducible refine wo_ntN ?_ | ((with_reducible show WO (gLen _) _); first | with_reducible refine wo_lenL ?_ | with_reducible refine wo_lenT ?_) | with_reducible refine wo_abs ?_ | ((with_reducible show WO (gInt _) _); first | with_reducible refine wo_intB ?_ | with_reducible refine wo_intI ?_) | ((with_reducible show WO (gList _) _); first | with_reducible refine wo_listL ?_ | with_reducible refine wo_listT ?_) | ((with_reducible show WO (gTuple _) _); first | with_reducible refine wo_tupL ?_ | with_reducible refine wo_tupT ?_) | with_reducible refine wo_max ?_ | with_reducible refine wo_min ?_ | ((with_reducible show WO (gIsi _ _) _); first | with_reducible refine wo_isiI ?_ | with_reducible refine wo_isiB ?_ | ((with_reducible apply wo_isiE); (· rfl))) | ((with_reducible show WO (cutOf _ _ _) _); first | with_reducible refine wo_cutL ?_ | with_reducible refine wo_cutT ?_) | ((with_reducible show WO (gPow _ _) _); first | with_reducible refine wo_p10_60 ?_ | with_reducible refine wo_p10_18 ?_ | with_reducible refine wo_p10_30 ?_ | with_reducible refine wo_p2_24 ?_ | with_reducible refine wo_p10_8 ?_ | with_reducible refine wo_p10_19 ?_ | with_reducible refine wo_p10_55 ?_ | with_reducible refine wo_p10_59 ?_ | with_reducible refine wo_p3_30 ?_ | with_reducible refine wo_p2_40 ?_ | with_reducible refine wo_p10_54 ?_ | with_reducible refine wo_p3_13 ?_ | with_reducible refine wo_p2_20 ?_ | with_reducible refine wo_p10_57 ?_ | with_reducible refine wo_p10_40 ?_ | with_reducible refine wo_p10_61 ?_ | with_reducible refine wo_p10_50 ?_) | ((with_reducible apply wo_idxE); (· rfl)) | ((with_reducible apply wo_allE); (· rfl)) | ((with_reducible apply wo_anyE); (· rfl)) | ((with_reducible show WO (ixN _ _) _); first | ((with_reducible apply wo_ixE); (· rfl)) | ((with_reducible refine wo_ix ?_ ?_ ?_); (· walk_at "sd"); (· walk_at "sd"))) | ((with_reducible refine wo_mod ?_ ?_); (· walk_at "sd")) | ((with_reducible refine wo_div ?_ ?_ ?_); (· walk_at "sd"); (· walk_at "sd")) | ((with_reducible refine wo_mul ?_ ?_); (· first | exact mul_ok1 (by walk_at "sd") | exact mul_ok2 (by walk_at "sd") | exact mul_ok3 (by omega) (by omega))) | ((with_reducible refine wo_app ?_ ?_); (· first | rfl | (apply fits_of; first | omega | (simp; omega)))) | ((with_reducible refine wo_ext ?_ ?_); (· first | rfl | (apply fits_of; first | omega | (simp; omega))))) | ((with_reducible show WS _ _ _); first | with_reducible refine ws_try ?_ | with_reducible refine ws_retT ?_ | with_reducible refine ws_seq ?_ | with_reducible refine ws_expr ?_ | with_reducible refine ws_ret ?_ | with_reducible refine ws_retL ?_ | with_reducible refine ws_set ?_ | with_reducible refine ws_setO ?_ | with_reducible refine ws_asg ?_ | with_reducible refine ws_par ?_ | with_reducible refine ws_nil ?_ | with_reducible refine ws_retN ?_ | with_reducible refine ws_dput ?_ | with_reducible refine ws_dnew ?_ | ((with_reducible show WS (sFrz _ _) _ _); first | ((with_reducible apply ws_frz); (· rfl)) | ((with_reducible apply ws_frzV); (· rfl))) | ((with_reducible apply ws_retO); (· rfl)) | ((with_reducible apply ws_putI); (· rfl))) | ((with_reducible apply nrm_); (· (try simp only [wipeE, backE, List.set_cons_zero, List.set_cons_succ, List.getElem?_cons_zero, List.getElem?_cons_succ, List.cons_append, List.nil_append, List.replicate_succ, List.replicate_zero, Nat.reduceSub, unowns_nil, unowns_cons, unown_own, unown_val, unown_no, unown_ro, unown_dct]); rfl)) | ((with_reducible show IfB _ _ _); first | with_reducible refine ifb_not ?_ | with_reducible refine ifb_t ?_ | with_reducible refine ifb_f ?_ | ((with_reducible refine ifb_decT ?_ ?_); (· first | (with_reducible assumption) | omega | (simp only [List.length_cons, List.length_nil]; omega))) | ((with_reducible refine ifb_decF ?_ ?_); (· first | (with_reducible assumption) | omega | (simp only [List.length_cons, List.length_nil]; omega))) | with_reducible refine ifb_dec (fun _ => ?_) (fun _ => ?_) | ((with_reducible apply ifb_eT); (· rfl)) | ((with_reducible apply ifb_eF); (· rfl))) | ((with_reducible show WB _ _ _); first | with_reducible refine wb_bor ?_ | with_reducible refine wb_v ?_ | with_reducible refine wb_and ?_ | with_reducible refine wb_or ?_ | with_reducible refine wb_not ?_ | with_reducible refine wb_yes ?_) | with_reducible refine isb ?_ | ((with_reducible show WL _ _ _); first | with_reducible refine wl_nil ?_ | with_reducible refine wl_cons ?_ | with_reducible refine wl_lst ?_ | with_reducible refine wl_un ?_ | with_reducible refine wl_it ?_ | with_reducible refine wl_rng1 ?_ | with_reducible refine wl_rng2 ?_ | with_reducible refine wl_enum ?_ | with_reducible refine wl_enumA ?_ | with_reducible refine wl_addE ?_ | with_reducible refine wl_rg1 ?_ | with_reducible refine wl_bor ?_ | with_reducible refine wl_call ?_ | ((with_reducible apply wl_addO); (· rfl)) | ((with_reducible show WL (lSlV _ _ _) _ _); first | ((with_reducible apply wl_slO); (· rfl)) | ((with_reducible apply wl_slR); (· rfl)))) | ((with_reducible show WA _ _ _); first | with_reducible refine wa_nil ?_ | with_reducible refine wa_v ?_ | ((with_reducible apply wa_r); (· rfl)) | ((with_reducible show WA (aO _ _) _ _); first | ((with_reducible apply wa_oR); (· rfl)) | ((with_reducible apply wa_oO); (· rfl)) | ((with_reducible apply wa_oV); (· rfl)))) | ((with_reducible show IsS _ _); first | with_reducible refine iss_l ?_ | with_reducible refine iss_t ?_) | ((with_reducible refine fit_ ?_ ?_); (· first | rfl | (apply fits_of; first | omega | (simp; omega)))) | ((with_reducible show CallG _ _ _ _); first | ((with_reducible apply cg0); (· rfl)) | ((with_reducible apply cg1); (· rfl); (· rfl))) | ((with_reducible show WT _ _ _ _); first | with_reducible refine wt_n ?_ | ((with_reducible apply wt_t); (· rfl)) | ((with_reducible apply wt_unl); (· rfl))) | ((with_reducible show WTs _ _ _ _); first | with_reducible refine wts_nil ?_ | with_reducible refine wts_cons ?_) | ((with_reducible apply own_); (· rfl)) | ((with_reducible refine sml_ ?_ ?_ ?_); (· walk_at "sd"); (· walk_at "sd")) | with_reducible refine isi_ ?_ | ((with_reducible show WNl _ _ _); first | with_reducible refine wnl_l ?_ | with_reducible refine wnl_v ?_) | ((with_reducible show WSX _ _ _); first | with_reducible refine wsx_lift ?_ | with_reducible refine wsx_seq ?_ | with_reducible refine wsx_if ?_ | with_reducible refine wsx_raise0 ?_ | with_reducible refine wsx_expr ?_ | with_reducible refine wsx_ret ?_ | with_reducible refine wsx_set ?_) | with_reducible refine wex_call ?_ | ((with_reducible show WPu _ _ _ _); first | with_reducible refine wpu_nil ?_ | with_reducible refine wpu_seq ?_ | with_reducible refine wpu_ret ?_ | with_reducible refine wpu_if ?_) | ((with_reducible show WTd _ _ _ _ _); first | with_reducible refine wtd_P ?_ | with_reducible refine wtd_G ?_ | with_reducible refine wtd_If ?_ | ((with_reducible refine wtd_K ?_ ?_); (· exact ⟨rfl, by decide⟩)) | ((with_reducible refine wtd_U ?_ ?_); (· exact ⟨rfl, by decide⟩)) | ((with_reducible refine wtd_C ?_ ?_); (· rfl)) | ((with_reducible refine wtd_A ?_ ?_ ?_); (· rfl); (· first | rfl | (apply fits_of; first | omega | (simp; omega))))) | with_reducible refine two_ ?_ | ((with_reducible show WC _ _ _ _ _ _ _); first | with_reducible refine wc_nil ?_ | with_reducible refine wc_cons ?_) | ((with_reducible show WP _ _ _); first | with_reducible refine wp_no ?_ | with_reducible refine wp_e ?_) | with_reducible refine isl ?_ | ((with_reducible show RetT _ _ _); first | ((with_reducible apply retT1); (· rfl)) | ((with_reducible apply retT2); (· rfl))) | ((with_reducible show Any _ _); first | ((with_reducible apply any_o); (· rfl)) | ((with_reducible apply any_r); (· rfl))) | ((with_reducible show CallH _ _ _ _); first | ((with_reducible apply ch0); (· rfl)) | ((with_reducible apply ch1); (· rfl); (· rfl))) | ((with_reducible apply cgx0); (· rfl))))
local macro_rules | `(tactic| walk_at "vc") => `(tactic| (repeat' first | ((with_reducible show WE _ _ _); first | with_reducible refine we_chain3 ?_ | with_reducible refine we_callNL ?_ | with_reducible refine we_callN ?_ | with_reducible refine we_c ?_ | with_reducible refine we_un ?_ | with_reducible refine we_bin ?_ | with_reducible refine we_chain ?_ | with_reducible refine we_and ?_ | with_reducible refine we_or ?_ | with_reducible refine we_not ?_ | with_reducible refine we_if ?_ | with_reducible refine we_fz ?_ | with_reducible refine we_tup ?_ | with_reducible refine we_sl ?_ | with_reducible refine we_tupRg ?_ | with_reducible refine we_bor ?_ | with_reducible refine we_call ?_ | with_reducible refine we_din ?_ | with_reducible refine we_borL ?_ | ((with_reducible apply we_v); (· rfl)) | ((with_reducible show WE (eO _) _ _); first | ((with_reducible apply we_oV); (· rfl)) | ((with_reducible apply we_oW); (· rfl)) | ((with_reducible apply we_oR); (· rfl))) | ((with_reducible show WE (eBinV _ _ _) _ _); first | ((with_reducible apply we_bV); (· rfl)) | ((with_reducible apply we_bVr); (· rfl)) | ((with_reducible apply we_bVv); (· rfl))) | ((with_reducible apply we_mut); (· rfl)) | ((with_reducible apply we_mut0); (· rfl)) | ((with_reducible apply we_dget2); (· rfl)) | ((with_reducible apply we_didx); (· rfl))) | ((with_reducible show WO _ _); first | ((with_reducible show WO (gIsO _ _) _); first | with_reducible refine wo_isON ?_ | ((with_reducible refine wo_isO (b := true) ?_ ?_); (· rfl)) | ((with_reducible refine wo_isO (b := false) ?_ ?_); (· rfl))) | with_reducible refine wo_attr ?_ | ((with_reducible show WO (valsA _) _); first | with_reducible refine vals_nil ?_ | with_reducible refine vals_v ?_) | with_reducible refine wo_isB ?_ | with_reducible refine wo_ntB ?_ | ((with_reducible show WO (backAr _ _ _) _); first | with_reducible refine back_nil ?_ | with_reducible refine back_v ?_ | with_reducible refine back_o ?_ | ((with_reducible apply back_r); (· rfl))) | ((with_reducible show WO (resArs _ _) _); first | with_reducible refine res_nil ?_ | with_reducible refine res_v ?_ | ((with_reducible apply res_r); (· rfl)) | ((with_reducible apply res_oO); (· rfl)) | ((with_reducible apply res_oR); (· rfl)) | ((with_reducible apply res_oV); (· rfl))) | ((with_reducible show WO (gAdd _ _) _); first | with_reducible refine wo_add ?_ | ((with_reducible refine wo_addL ?_ ?_); (· first | rfl | (apply fits_of; first | omega | (simp; omega)))) | ((with_reducible refine wo_addT ?_ ?_); (· first | rfl | (apply fits_of; first | omega | (simp; omega))))) | with_reducible refine wo_sub ?_ | with_reducible refine wo_neg ?_ | with_reducible refine wo_lt ?_ | with_reducible refine wo_le ?_ | with_reducible refine wo_gt ?_ | with_reducible refine wo_ge ?_ | ((with_reducible show WO (gEq _ _) _); first | with_reducible refine wo_eq ?_ | with_reducible refine wo_eqB ?_ | ((with_reducible refine wo_eqT ?_ ?_); (· decide +kernel)) | ((with_reducible refine wo_eqF ?_ ?_); (· decide +kernel))) | ((with_reducible show WO (gNe _ _) _); first | with_reducible refine wo_ne ?_ | with_reducible refine wo_neB ?_ | ((with_reducible refine wo_neT ?_ ?_); (· decide +kernel)) | ((with_reducible refine wo_neF ?_ ?_); (· decide +kernel))) | with_reducible refine wo_isN ?_ | with_reducible refine wo_ntN ?_ | ((with_reducible show WO (gLen _) _); first | with_reducible refine wo_lenL ?_ | with_reducible refine wo_lenT ?_) | with_reducible refine wo_abs ?_ | ((with_reducible show WO (gInt _) _); first | with_reducible refine wo_intB ?_ | with_reducible refine wo_intI ?_) | ((with_reducible show WO (gList _) _); first | with_reducible refine wo_listL ?_ | with_reducible refine wo_listT ?_) | ((with_reducible show WO (gTuple _) _); first | with_reducible refine wo_tupL ?_ | with_reducible refine wo_tupT ?_) | with_reducible refine wo_max ?_ | with_reducible refine wo_min ?_ | ((with_reducible show WO (gIsi _ _) _); first | with_reducible refine wo_isiI ?_ | with_reducible refine wo_isiB ?_ | ((with_reducible apply wo_isiE); (· rfl))) | ((with_reducible show WO (cutOf _ _ _) _); first | with_reducible refine wo_cutL ?_ | with_reducible refine wo_cutT ?_) | ((with_reducible show WO (gPow _ _) _); first | with_reducible refine wo_p10_60 ?_ | with_reducible refine wo_p10_18 ?_ | with_reducible refine wo_p10_30 ?_ | with_reducible refine wo_p2_24 ?_ | with_reducible refine wo_p10_8 ?_ | with_reducible refine wo_p10_19 ?_ | with_reducible refine wo_p10_55 ?_ | with_reducible refine wo_p10_59 ?_ | with_reducible refine wo_p3_30 ?_ | with_reducible refine wo_p2_40 ?_ | with_reducible refine wo_p10_54 ?_ | with_reducible refine wo_p3_13 ?_ | with_reducible refine wo_p2_20 ?_ | with_reducible refine wo_p10_57 ?_ | with_reducible refine wo_p10_40 ?_ | with_reducible refine wo_p10_61 ?_ | with_reducible refine wo_p10_50 ?_) | ((with_reducible apply wo_idxE); (· rfl)) | ((with_reducible apply wo_allE); (· rfl)) | ((with_reducible apply wo_anyE); (· rfl)) | ((with_reducible show WO (ixN _ _) _); first | ((with_reducible apply wo_ixE); (· rfl)) | ((with_reducible refine wo_ix ?_ ?_ ?_); (· walk_at "sd"); (· walk_at "sd"))) | ((with_reducible refine wo_mod ?_ ?_); (· walk_at "sd")) | ((with_reducible refine wo_div ?_ ?_ ?_); (· walk_at "sd"); (· walk_at "sd")) | ((with_reducible refine wo_mul ?_ ?_); (· first | exact mul_ok1 (by walk_at "sd") | exact mul_ok2 (by walk_at "sd") | exact mul_ok3 (by omega) (by omega))) | ((with_reducible refine wo_app ?_ ?_); (· first | rfl | (apply fits_of; first | omega | (simp; omega)))) | ((with_reducible refine wo_ext ?_ ?_); (· first | rfl | (apply fits_of; first | omega | (simp; omega))))) | ((with_reducible show WS _ _ _); first | with_reducible refine ws_try ?_ | with_reducible refine ws_retT ?_ | with_reducible refine ws_seq ?_ | with_reducible refine ws_expr ?_ | with_reducible refine ws_ret ?_ | with_reducible refine ws_retL ?_ | with_reducible refine ws_if ?_ | with_reducible refine ws_set ?_ | with_reducible refine ws_setO ?_ | with_reducible refine ws_asg ?_ | with_reducible refine ws_par ?_ | with_reducible refine ws_nil ?_ | with_reducible refine ws_retN ?_ | with_reducible refine ws_dput ?_ | with_reducible refine ws_dnew ?_ | ((with_reducible show WS (sFrz _ _) _ _); first | ((with_reducible apply ws_frz); (· rfl)) | ((with_reducible apply ws_frzV); (· rfl))) | ((with_reducible apply ws_retO); (· rfl)) | ((with_reducible apply ws_putI); (· rfl))) | ((with_reducible apply nrm_); (· (try simp only [wipeE, backE, List.set_cons_zero, List.set_cons_succ, List.getElem?_cons_zero, List.getElem?_cons_succ, List.cons_append, List.nil_append, List.replicate_succ, List.replicate_zero, Nat.reduceSub, unowns_nil, unowns_cons, unown_own, unown_val, unown_no, unown_ro, unown_dct]); rfl)) | ((with_reducible show IfB _ _ _); first | with_reducible refine ifb_not ?_ | with_reducible refine ifb_t ?_ | with_reducible refine ifb_f ?_ | ((with_reducible refine ifb_decT ?_ ?_); (· first | (with_reducible assumption) | omega | (simp only [List.length_cons, List.length_nil]; omega))) | ((with_reducible refine ifb_decF ?_ ?_); (· first | (with_reducible assumption) | omega | (simp only [List.length_cons, List.length_nil]; omega))) | with_reducible refine ifb_dec (fun _ => ?_) (fun _ => ?_) | ((with_reducible apply ifb_eT); (· rfl)) | ((with_reducible apply ifb_eF); (· rfl))) | ((with_reducible show WB _ _ _); first | with_reducible refine wb_bor ?_ | with_reducible refine wb_v ?_ | with_reducible refine wb_and ?_ | with_reducible refine wb_or ?_ | with_reducible refine wb_not ?_ | with_reducible refine wb_yes ?_) | with_reducible refine isb ?_ | ((with_reducible show WL _ _ _); first | with_reducible refine wl_nil ?_ | with_reducible refine wl_cons ?_ | with_reducible refine wl_lst ?_ | with_reducible refine wl_un ?_ | with_reducible refine wl_it ?_ | with_reducible refine wl_rng1 ?_ | with_reducible refine wl_rng2 ?_ | with_reducible refine wl_enum ?_ | with_reducible refine wl_enumA ?_ | with_reducible refine wl_addE ?_ | with_reducible refine wl_rg1 ?_ | with_reducible refine wl_bor ?_ | with_reducible refine wl_call ?_ | ((with_reducible apply wl_addO); (· rfl)) | ((with_reducible show WL (lSlV _ _ _) _ _); first | ((with_reducible apply wl_slO); (· rfl)) | ((with_reducible apply wl_slR); (· rfl)))) | ((with_reducible show WA _ _ _); first | with_reducible refine wa_nil ?_ | with_reducible refine wa_v ?_ | ((with_reducible apply wa_r); (· rfl)) | ((with_reducible show WA (aO _ _) _ _); first | ((with_reducible apply wa_oR); (· rfl)) | ((with_reducible apply wa_oO); (· rfl)) | ((with_reducible apply wa_oV); (· rfl)))) | ((with_reducible show IsS _ _); first | with_reducible refine iss_l ?_ | with_reducible refine iss_t ?_) | ((with_reducible refine fit_ ?_ ?_); (· first | rfl | (apply fits_of; first | omega | (simp; omega)))) | ((with_reducible show CallG _ _ _ _); first | ((with_reducible apply cg0); (· rfl)) | ((with_reducible apply cg1); (· rfl); (· rfl))) | ((with_reducible show WT _ _ _ _); first | with_reducible refine wt_n ?_ | ((with_reducible apply wt_t); (· rfl)) | ((with_reducible apply wt_unl); (· rfl))) | ((with_reducible show WTs _ _ _ _); first | with_reducible refine wts_nil ?_ | with_reducible refine wts_cons ?_) | ((with_reducible apply own_); (· rfl)) | ((with_reducible refine sml_ ?_ ?_ ?_); (· walk_at "sd"); (· walk_at "sd")) | with_reducible refine isi_ ?_ | ((with_reducible show WNl _ _ _); first | with_reducible refine wnl_l ?_ | with_reducible refine wnl_v ?_) | ((with_reducible show WSX _ _ _); first | with_reducible refine wsx_lift ?_ | with_reducible refine wsx_seq ?_ | with_reducible refine wsx_if ?_ | with_reducible refine wsx_raise0 ?_ | with_reducible refine wsx_expr ?_ | with_reducible refine wsx_ret ?_ | with_reducible refine wsx_set ?_) | with_reducible refine wex_call ?_ | ((with_reducible show WPu _ _ _ _); first | with_reducible refine wpu_nil ?_ | with_reducible refine wpu_seq ?_ | with_reducible refine wpu_ret ?_ | with_reducible refine wpu_if ?_) | ((with_reducible show WTd _ _ _ _ _); first | with_reducible refine wtd_P ?_ | with_reducible refine wtd_G ?_ | with_reducible refine wtd_If ?_ | ((with_reducible refine wtd_K ?_ ?_); (· exact ⟨rfl, by decide⟩)) | ((with_reducible refine wtd_U ?_ ?_); (· exact ⟨rfl, by decide⟩)) | ((with_reducible refine wtd_C ?_ ?_); (· rfl)) | ((with_reducible refine wtd_A ?_ ?_ ?_); (· rfl); (· first | rfl | (apply fits_of; first | omega | (simp; omega))))) | with_reducible refine two_ ?_ | ((with_reducible show WC _ _ _ _ _ _ _); first | with_reducible refine wc_nil ?_ | with_reducible refine wc_cons ?_) | ((with_reducible show WP _ _ _); first | with_reducible refine wp_no ?_ | with_reducible refine wp_e ?_) | with_reducible refine isl ?_ | ((with_reducible show RetT _ _ _); first | ((with_reducible apply retT1); (· rfl)) | ((with_reducible apply retT2); (· rfl))) | ((with_reducible show Any _ _); first | ((with_reducible apply any_o); (· rfl)) | ((with_reducible apply any_r); (· rfl))) | ((with_reducible show CallH _ _ _ _); first | ((with_reducible apply ch0); (· rfl)) | ((with_reducible apply ch1); (· rfl); (· rfl))) | ((with_reducible apply cgx0); (· rfl))))
local macro_rules | `(tactic| walk_at "vd") => `(tactic| (repeat' first | ((with_reducible show WE _ _ _); first | with_reducible refine we_chain3 ?_ | with_reducible refine we_callNL ?_ | with_reducible refine we_callN ?_ | with_reducible refine we_c ?_ | with_reducible refine we_un ?_ | with_reducible refine we_bin ?_ | with_reducible refine we_chain ?_ | with_reducible refine we_and ?_ | with_reducible refine we_or ?_ | with_reducible refine we_not ?_ | with_reducible refine we_if ?_ | with_reducible refine we_fz ?_ | with_reducible refine we_tup ?_ | with_reducible refine we_sl ?_ | with_reducible refine we_tupRg ?_ | with_reducible refine we_bor ?_ | with_reducible refine we_call ?_ | with_reducible refine we_din ?_ | with_reducible refine we_borL ?_ | ((with_reducible apply we_v); (· rfl)) | ((with_reducible show WE (eO _) _ _); first | ((with_reducible apply we_oV); (· rfl)) | ((with_reducible apply we_oW); (· rfl)) | ((with_reducible apply we_oR); (· rfl))) | ((with_reducible show WE (eBinV _ _ _) _ _); first | ((with_reducible apply we_bV); (· rfl)) | ((with_reducible apply we_bVr); (· rfl)) | ((with_reducible apply we_bVv); (· rfl))) | ((with_reducible apply we_mut); (· rfl)) | ((with_reducible apply we_mut0); (· rfl)) | ((with_reducible apply we_dget2); (· rfl)) | ((with_reducible apply we_didx); (· rfl))) | ((with_reducible show WO _ _); first | ((with_reducible show WO (gIsO _ _) _); first | with_reducible refine wo_isON ?_ | ((with_reducible refine wo_isO (b := true) ?_ ?_); (· rfl)) | ((with_reducible refine wo_isO (b := false) ?_ ?_); (· rfl))) | with_reducible refine wo_attr ?_ | ((with_reducible show WO (valsA _) _); first | with_reducible refine vals_nil ?_ | with_reducible refine vals_v ?_) | with_reducible refine wo_isB ?_ | with_reducible refine wo_ntB ?_ | ((with_reducible show WO (backAr _ _ _) _); first | with_reducible refine back_nil ?_ | with_reducible refine back_v ?_ | with_reducible refine back_o ?_ | ((with_reducible apply back_r); (· rfl))) | ((with_reducible show WO (resArs _ _) _); first | with_reducible refine res_nil ?_ | with_reducible refine res_v ?_ | ((with_reducible apply res_r); (· rfl)) | ((with_reducible apply res_oO); (· rfl)) | ((with_reducible apply res_oR); (· rfl)) | ((with_reducible apply res_oV); (· rfl))) | ((with_reducible show WO (gAdd _ _) _); first | with_reducible refine wo_add ?_ | ((with_reducible refine wo_addL ?_ ?_); (· first | rfl | (apply fits_of; first | omega | (simp; omega)))) | ((with_reducible refine wo_addT ?_ ?_); (· first | rfl | (apply fits_of; first | omega | (simp; omega))))) | with_reducible refine wo_sub ?_ | with_reducible refine wo_neg ?_ | with_reducible refine wo_lt ?_ | with_reducible refine wo_le ?_ | with_reducible refine wo_gt ?_ | with_reducible refine wo_ge ?_ | ((with_reducible show WO (gEq _ _) _); first | with_reducible refine wo_eq ?_ | with_reducible refine wo_eqB ?_ | ((with_reducible refine wo_eqT ?_ ?_); (· decide +kernel)) | ((with_reducible refine wo_eqF ?_ ?_); (· decide +kernel))) | ((with_reducible show WO (gNe _ _) _); first | with_reducible refine wo_ne ?_ | with_reducible refine wo_neB ?_ | ((with_reducible refine wo_neT ?_ ?_); (· decide +kernel)) | ((with_reducible refine wo_neF ?_ ?_); (· decide +kernel))) | with_reducible refine wo_isN ?_ | with_reducible refine wo_ntN ?_ | ((with_reducible show WO (gLen _) _); first | with_reducible refine wo_lenL ?_ | with_reducible refine wo_lenT ?_) | with_reducible refine wo_abs ?_ | ((with_reducible show WO (gInt _) _); first | with_reducible refine wo_intB ?_ | with_reducible refine wo_intI ?_) | ((with_reducible show WO (gList _) _); first | with_reducible refine wo_listL ?_ | with_reducible refine wo_listT ?_) | ((with_reducible show WO (gTuple _) _); first | with_reducible refine wo_tupL ?_ | with_reducible refine wo_tupT ?_) | with_reducible refine wo_max ?_ | with_reducible refine wo_min ?_ | ((with_reducible show WO (gIsi _ _) _); first | with_reducible refine wo_isiI ?_ | with_reducible refine wo_isiB ?_ | ((with_reducible apply wo_isiE); (· rfl))) | ((with_reducible show WO (cutOf _ _ _) _); first | with_reducible refine wo_cutL ?_ | with_reducible refine wo_cutT ?_) | ((with_reducible show WO (gPow _ _) _); first | with_reducible refine wo_p10_60 ?_ | with_reducible refine wo_p10_18 ?_ | with_reducible refine wo_p10_30 ?_ | with_reducible refine wo_p2_24 ?_ | with_reducible refine wo_p10_8 ?_ | with_reducible refine wo_p10_19 ?_ | with_reducible refine wo_p10_55 ?_ | with_reducible refine wo_p10_59 ?_ | with_reducible refine wo_p3_30 ?_ | with_reducible refine wo_p2_40 ?_ | with_reducible refine wo_p10_54 ?_ | with_reducible refine wo_p3_13 ?_ | with_reducible refine wo_p2_20 ?_ | with_reducible refine wo_p10_57 ?_ | with_reducible refine wo_p10_40 ?_ | with_reducible refine wo_p10_61 ?_ | with_reducible refine wo_p10_50 ?_) | ((with_reducible apply wo_idxE); (· rfl)) | ((with_reducible apply wo_allE); (· rfl)) | ((with_reducible apply wo_anyE); (· rfl)) | ((with_reducible show WO (ixN _ _) _); first | ((with_reducible apply wo_ixE); (· rfl)) | ((with_reducible refine wo_ix ?_ ?_ ?_); (· walk_at "sd"); (· walk_at "sd"))) | ((with_reducible refine wo_mod ?_ ?_); (· walk_at "sd")) | ((with_reducible refine wo_div ?_ ?_ ?_); (· walk_at "sd"); (· walk_at "sd")) | ((with_reducible refine wo_mul ?_ ?_); (· first | exact mul_ok1 (by walk_at "sd") | exact mul_ok2 (by walk_at "sd") | exact mul_ok3 (by omega) (by omega))) | ((with_reducible refine wo_app ?_ ?_); (· first | rfl | (apply fits_of; first | omega | (simp; omega)))) | ((with_reducible refine wo_ext ?_ ?_); (· first | rfl | (apply fits_of; first | omega | (simp; omega))))) | ((with_reducible show WS _ _ _); first | with_reducible refine ws_try ?_ | with_reducible refine ws_retT ?_ | with_reducible refine ws_seq ?_ | with_reducible refine ws_expr ?_ | with_reducible refine ws_ret ?_ | with_reducible refine ws_retL ?_ | with_reducible refine ws_set ?_ | with_reducible refine ws_setO ?_ | with_reducible refine ws_asg ?_ | with_reducible refine ws_par ?_ | with_reducible refine ws_nil ?_ | with_reducible refine ws_retN ?_ | with_reducible refine ws_dput ?_ | with_reducible refine ws_dnew ?_ | ((with_reducible show WS (sFrz _ _) _ _); first | ((with_reducible apply ws_frz); (· rfl)) | ((with_reducible apply ws_frzV); (· rfl))) | ((with_reducible apply ws_retO); (· rfl)) | ((with_reducible apply ws_putI); (· rfl))) | ((with_reducible apply nrm_); (· (try simp only [wipeE, backE, List.set_cons_zero, List.set_cons_succ, List.getElem?_cons_zero, List.getElem?_cons_succ, List.cons_append, List.nil_append, List.replicate_succ, List.replicate_zero, Nat.reduceSub, unowns_nil, unowns_cons, unown_own, unown_val, unown_no, unown_ro, unown_dct]); rfl)) | ((with_reducible show IfB _ _ _); first | with_reducible refine ifb_not ?_ | with_reducible refine ifb_t ?_ | with_reducible refine ifb_f ?_ | ((with_reducible refine ifb_decT ?_ ?_); (· first | (with_reducible assumption) | omega | (simp only [List.length_cons, List.length_nil]; omega))) | ((with_reducible refine ifb_decF ?_ ?_); (· first | (with_reducible assumption) | omega | (simp only [List.length_cons, List.length_nil]; omega))) | with_reducible refine ifb_dec (fun _ => ?_) (fun _ => ?_) | ((with_reducible apply ifb_eT); (· rfl)) | ((with_reducible apply ifb_eF); (· rfl))) | ((with_reducible show WB _ _ _); first | with_reducible refine wb_bor ?_ | with_reducible refine wb_v ?_ | with_reducible refine wb_and ?_ | with_reducible refine wb_or ?_ | with_reducible refine wb_not ?_ | with_reducible refine wb_yes ?_) | with_reducible refine isb ?_ | ((with_reducible show WL _ _ _); first | with_reducible refine wl_nil ?_ | with_reducible refine wl_cons ?_ | with_reducible refine wl_lst ?_ | with_reducible refine wl_un ?_ | with_reducible refine wl_it ?_ | with_reducible refine wl_rng1 ?_ | with_reducible refine wl_rng2 ?_ | with_reducible refine wl_enum ?_ | with_reducible refine wl_enumA ?_ | with_reducible refine wl_addE ?_ | with_reducible refine wl_rg1 ?_ | with_reducible refine wl_bor ?_ | with_reducible refine wl_call ?_ | ((with_reducible apply wl_addO); (· rfl)) | ((with_reducible show WL (lSlV _ _ _) _ _); first | ((with_reducible apply wl_slO); (· rfl)) | ((with_reducible apply wl_slR); (· rfl)))) | ((with_reducible show WA _ _ _); first | with_reducible refine wa_nil ?_ | with_reducible refine wa_v ?_ | ((with_reducible apply wa_r); (· rfl)) | ((with_reducible show WA (aO _ _) _ _); first | ((with_reducible apply wa_oR); (· rfl)) | ((with_reducible apply wa_oO); (· rfl)) | ((with_reducible apply wa_oV); (· rfl)))) | ((with_reducible show IsS _ _); first | with_reducible refine iss_l ?_ | with_reducible refine iss_t ?_) | ((with_reducible refine fit_ ?_ ?_); (· first | rfl | (apply fits_of; first | omega | (simp; omega)))) | ((with_reducible show CallG _ _ _ _); first | ((with_reducible apply cg0); (· rfl)) | ((with_reducible apply cg1); (· rfl); (· rfl))) | ((with_reducible show WT _ _ _ _); first | with_reducible refine wt_n ?_ | ((with_reducible apply wt_t); (· rfl)) | ((with_reducible apply wt_unl); (· rfl))) | ((with_reducible show WTs _ _ _ _); first | with_reducible refine wts_nil ?_ | with_reducible refine wts_cons ?_) | ((with_reducible apply own_); (· rfl)) | ((with_reducible refine sml_ ?_ ?_ ?_); (· walk_at "sd"); (· walk_at "sd")) | with_reducible refine isi_ ?_ | ((with_reducible show WNl _ _ _); first | with_reducible refine wnl_l ?_ | with_reducible refine wnl_v ?_) | ((with_reducible show WSX _ _ _); first | with_reducible refine wsx_lift ?_ | with_reducible refine wsx_seq ?_ | with_reducible refine wsx_if ?_ | with_reducible refine wsx_raise0 ?_ | with_reducible refine wsx_expr ?_ | with_reducible refine wsx_ret ?_ | with_reducible refine wsx_set ?_) | with_reducible refine wex_call ?_ | ((with_reducible show WPu _ _ _ _); first | with_reducible refine wpu_nil ?_ | with_reducible refine wpu_seq ?_ | with_reducible refine wpu_ret ?_ | with_reducible refine wpu_if ?_) | ((with_reducible show WTd _ _ _ _ _); first | with_reducible refine wtd_P ?_ | with_reducible refine wtd_G ?_ | with_reducible refine wtd_If ?_ | ((with_reducible refine wtd_K ?_ ?_); (· exact ⟨rfl, by decide⟩)) | ((with_reducible refine wtd_U ?_ ?_); (· exact ⟨rfl, by decide⟩)) | ((with_reducible refine wtd_C ?_ ?_); (· rfl)) | ((with_reducible refine wtd_A ?_ ?_ ?_); (· rfl); (· first | rfl | (apply fits_of; first | omega | (simp; omega))))) | with_reducible refine two_ ?_ | ((with_reducible show WC _ _ _ _ _ _ _); first | with_reducible refine wc_nil ?_ | with_reducible refine wc_cons ?_) | ((with_reducible show WP _ _ _); first | with_reducible refine wp_no ?_ | with_reducible refine wp_e ?_) | with_reducible refine isl ?_ | ((with_reducible show RetT _ _ _); first | ((with_reducible apply retT1); (· rfl)) | ((with_reducible apply retT2); (· rfl))) | ((with_reducible show Any _ _); first | ((with_reducible apply any_o); (· rfl)) | ((with_reducible apply any_r); (· rfl))) | ((with_reducible show CallH _ _ _ _); first | ((with_reducible apply ch0); (· rfl)) | ((with_reducible apply ch1); (· rfl); (· rfl))) | ((with_reducible apply cgx0); (· rfl))))
local macro_rules | `(tactic| walk_at "nr") => `(tactic| ((with_reducible apply nrm_); (· (try simp only [wipeE, backE, List.set_cons_zero, List.set_cons_succ, List.getElem?_cons_zero, List.getElem?_cons_succ, List.cons_append, List.nil_append, List.replicate_succ, List.replicate_zero, Nat.reduceSub, unowns_nil, unowns_cons, unown_own, unown_val, unown_no, unown_ro, unown_dct]); rfl)))
local macro_rules | `(tactic| walk_at "nb") => `(tactic| simp only [wipeE, backE, List.set_cons_zero, List.set_cons_succ, List.getElem?_cons_zero, List.getElem?_cons_succ])
theorem askedX_w {m i : Int} {hs : List Hd} {bl mir : Bool} {Q : D → List Sl → Prop} {X : Xc → Prop} (h : ¬ (0 ≤ i ∧ i < hs.length)) (q : X ⟨C_NoHand, none⟩) : WGX gx_hand_asked [.val (clockD m hs bl mir), .val (.int i)] Q X := by
  refine wgx_run rfl ?_
  unfold bx_hand_asked
  walk_at "vc"
  all_goals first | exact q | (exfalso; simp only [List.length_map] at *; omega)

theorem wsx_compX {src : Lf} {vs : List Nat} {gt : Tf} {g : Gfx} {af : Af} {env : En} {N : En → Prop} {R : D → En → Prop} {L : List D → En → Prop} {Y : Xc → En → Prop}
    (h : WL src env fun ds e1 => ∃ d ds', ds = d :: ds' ∧ WT gt d (wipeE e1 vs) fun e2 => WEX (eCallX g af) e2 (fun _ _ => False) fun x _ => Y x (List.replicate env.length .no)) : WSX (sCompX src vs gt g af) env ⟨N, R, L, Y⟩ := by
  obtain ⟨ds, e1, h1, d, ds', rfl, e2, h2, o, h3, h4⟩ := h
  cases o with
  | inl p => exact False.elim h4
  | inr p => exact ⟨.inr (p.1, List.replicate env.length .no), by unfold sCompX; simp [h1, h2, h3], h4⟩
section
variable {m i : Int} {hs : List Hd} {bl mir : Bool} {Q : D → List Sl → Prop} {X : Xc → Prop}
theorem withhandX_w {g s : Int} (h : ¬ (0 ≤ i ∧ i < hs.length)) (q : X ⟨C_NoHand, none⟩) : WGX gx_with_hand [.val (clockD m hs bl mir), .val (.int i), .val (.int g), .val (.int s)] Q X := by
  refine wgx_run rfl ?_
  unfold bx_with_hand
  walk_at "vc"
  refine askedX_w h ?_
  exact q
theorem changedX_w {x : Str} (hx : x = "gear" ∨ x = "start") (h : ¬ (0 ≤ i ∧ i < hs.length)) (q : X ⟨C_NoHand, none⟩) :
    WGX gx_changed_by [.val (clockD m hs bl mir), .val (.str x), .val (.int i), .val (.int 0)] Q X := by
  refine wgx_run rfl ?_
  unfold bx_changed_by
  rcases hx with rfl | rfl
  · walk_at "vc"
    all_goals first | (refine withhandX_w h ?_; exact q) | (exfalso; simp only [List.length_map] at *; omega)
  · walk_at "vc"
    all_goals first | (refine withhandX_w h ?_; exact q) | (exfalso; simp only [List.length_map] at *; omega)
theorem otherbyX_w {x : Str} {t : Int} (hx : x = "gear" ∨ x = "start") (h : ¬ (0 ≤ i ∧ i < hs.length)) (t1 : 1 ≤ t) (t2 : t ≤ 40) (q : X ⟨C_NoHand, none⟩) :
    WGX gx_other_by [.val (clockD m hs bl mir), .val (.str x), .val (.int i), .val (.int t)] Q X := by
  refine wgx_run rfl ?_
  unfold bx_other_by
  walk_at "nr"
  refine wsx_seq (wsx_lift ?_)
  walk_at "vc"
  refine wsx_forN (fun _ k e => k = 0 ∧ e = [.val (clockD m hs bl mir), .val (.str x), .val (.int i), .val (.int t), .own true [], .no, .no, .no]) ?_
  walk_at "vc"
  refine ⟨⟨rfl, rfl⟩, ?_, ?_⟩
  · rintro k d e hd ⟨rfl, rfl⟩
    obtain ⟨rfl, _⟩ := irange_at hd
    walk_at "vc"
    refine changedX_w hx h ?_
    exact q
  · rintro e ⟨hk, rfl⟩
    rw [irange_length] at hk
    omega
theorem othergX_w {t : Int} (h : ¬ (0 ≤ i ∧ i < hs.length)) (t1 : 1 ≤ t) (t2 : t ≤ 40) (q : X ⟨C_NoHand, none⟩) :
    WGX gx_other_gear [.val (clockD m hs bl mir), .val (.int i), .val (.int t)] Q X := by
  refine wgx_run rfl ?_
  unfold bx_other_gear
  walk_at "vc"
  refine otherbyX_w (.inl rfl) h t1 t2 ?_
  exact q
theorem othersX_w {t : Int} (h : ¬ (0 ≤ i ∧ i < hs.length)) (t1 : 1 ≤ t) (t2 : t ≤ 40) (q : X ⟨C_NoHand, none⟩) :
    WGX gx_other_start [.val (clockD m hs bl mir), .val (.int i), .val (.int t)] Q X := by
  refine wgx_run rfl ?_
  unfold bx_other_start
  walk_at "vc"
  refine otherbyX_w (.inr rfl) h t1 t2 ?_
  exact q
theorem rightX_w {x : Str} {t : Int} {d : D} (hx : x = "gear" ∨ x = "start") (h : ¬ (0 ≤ i ∧ i < hs.length)) (t1 : 1 ≤ t) (t2 : t ≤ 40) (q : X ⟨C_NoHand, none⟩) :
    WGX gx_other_right [.val (clockD m hs bl mir), .val (.str x), .val (.int i), .val (.int t), .val d] Q X := by
  refine wgx_run rfl ?_
  unfold bx_other_right
  walk_at "nr"
  refine wsx_seq (wsx_compX ?_)
  walk_at "vc"
  refine ⟨.int 0, irange 1 (t.toNat - 1), ?_, ?_⟩
  · obtain ⟨n, rfl⟩ := Int.eq_ofNat_of_zero_le (show 0 ≤ t by omega)
    obtain ⟨n, rfl⟩ : ∃ n', n = n' + 1 := ⟨n - 1, by omega⟩
    unfold irange
    rw [Int.toNat_natCast, List.range_succ_eq_map, List.map_cons, List.map_map]
    congr 1
    refine List.map_congr_left fun k _ => ?_
    show PyData.int (0 + ((k + 1 : Nat) : Int)) = .int (1 + (k : Int))
    congr 1
    omega
  walk_at "vc"
  refine changedX_w hx h ?_
  exact q
theorem refused_w {t way : Int} (w0 : 0 ≤ way) (w1 : way < 8) (h : ¬ (0 ≤ i ∧ i < hs.length)) (t1 : 1 ≤ t) (t2 : t ≤ 40) (q : ∀ e, Q (.bool true) e) :
    WG g__law_refused [.val (.int way), .val (clockD m hs bl mir), .val (.int i), .val (.int t)] Q := by
  refine wg_run rfl ?_
  unfold b__law_refused
  have hw : way = 0 ∨ way = 1 ∨ way = 2 ∨ way = 3 ∨ way = 4 ∨ way = 5 ∨ way = 6 ∨ way = 7 := by omega
  rcases hw with rfl | rfl | rfl | rfl | rfl | rfl | rfl | rfl
  · walk_at "vc"
    refine othergX_w h t1 t2 ?_
    refine ⟨rfl, ?_⟩
    walk_at "vc"
    exact q _
  · walk_at "vc"
    refine othersX_w h t1 t2 ?_
    refine ⟨rfl, ?_⟩
    walk_at "vc"
    exact q _
  · walk_at "vc"
    refine rightX_w (.inl rfl) h t1 t2 ?_
    refine ⟨rfl, ?_⟩
    walk_at "vc"
    exact q _
  · walk_at "vc"
    refine rightX_w (.inr rfl) h t1 t2 ?_
    refine ⟨rfl, ?_⟩
    walk_at "vc"
    exact q _
  · walk_at "vc"
    refine rightX_w (.inl rfl) h t1 t2 ?_
    refine ⟨rfl, ?_⟩
    walk_at "vc"
    exact q _
  · walk_at "vc"
    refine rightX_w (.inr rfl) h t1 t2 ?_
    refine ⟨rfl, ?_⟩
    walk_at "vc"
    exact q _
  · walk_at "vc"
    refine rightX_w (.inl rfl) h t1 t2 ?_
    refine ⟨rfl, ?_⟩
    walk_at "vc"
    exact q _
  · walk_at "vc"
    refine rightX_w (.inr rfl) h t1 t2 ?_
    refine ⟨rfl, ?_⟩
    walk_at "vc"
    exact q _
end
theorem law_true (w : World) : ∀ ns : List Int, ns.length ≤ 63 → ∃ args', (g_law w) [.ro (ns.map .int)] = some (.bool true, args') := by
  intro ns hl
  suffices h : WG (g_law w) [.ro (ns.map .int)] (fun d _ => d = .bool true) by
    obtain ⟨d, a, e, rfl⟩ := h
    exact ⟨a, e⟩
  refine wg_run rfl ?_
  unfold b_law
  walk_at "nr"
  refine ws_mid (fun e => ∃ x1 x2 x3 x4 x5 x6 : Sl, e = [.ro (ns.map .int), x1, x2, x3, x4, x5, x6, .no]) ?_ ?_
  · refine ws_forN (fun _ k e => ∃ x1 x2 x3 x4 x5 x6 : Sl, e = [.ro (ns.map .int), x1, x2, x3, x4, x5, x6, .no]) ?_
    walk_at "vc"
    refine dfold_w (m := 6) (by decide) (by decide) hl fun cs _ _ hcl => ?_
    walk_at "vc"
    refine ⟨⟨_, _, _, _, _, _, rfl⟩, ?_, ?_⟩
    · rintro k d e hkl hd ⟨x1, x2, x3, x4, x5, x6, rfl⟩
      rw [List.length_map] at hkl
      rw [List.getElem?_map, List.getElem?_eq_getElem hkl] at hd
      obtain rfl := Option.some.inj hd
      generalize cs[k] = c
      refine wt_n ?_
      walk_at "nr"
      refine ws_mid (fun e => ∃ a b : Int, e = [.ro (ns.map .int), .val (.int c), .own true [.int a, .int b], x3, x4, x5, x6, .no]) ?_ ?_
      · walk_at "vc"
        refine dstate_w fun a b _ => ?_
        walk_at "vc"
        exact ⟨a, b, rfl⟩
      rintro e ⟨a, b, rfl⟩
      refine ws_mid (fun e => ∃ (a b m : Int) (hs : List Hd) (bl mir : Bool), 1 ≤ hs.length ∧ hs.length ≤ 5 ∧ e = [.ro (ns.map .int), .val (.int c), .own true [.int a, .int b], .val (clockD m hs bl mir), x4, x5, x6, .no]) ?_ ?_
      · walk_at "vc"
        refine small_w fun m hs bl mir _ _ m1 m2 h1 hn hk hr => ?_
        walk_at "vc"
        exact ⟨_, _, m, hs, bl, mir, h1, hn, rfl⟩
      rintro e ⟨a, b, m, hs, bl, mir, h1, hn, rfl⟩
      refine ws_mid (fun e => ∃ a b far : Int, 0 ≤ far ∧ e = [.ro (ns.map .int), .val (.int c), .own true [.int a, .int b], .val (clockD m hs bl mir), .val (.int far), x5, x6, .no]) ?_ ?_
      · walk_at "vc"
        refine below_w (by decide) (by decide) fun r _ _ _ r0 r1 => ?_
        walk_at "vc"
        exact ⟨_, _, r, r0, rfl⟩
      rintro e ⟨a, b, far, f0, rfl⟩
      refine ws_mid (fun e => ∃ a b t : Int, (1 ≤ t ∧ t ≤ 40) ∧ e = [.ro (ns.map .int), .val (.int c), .own true [.int a, .int b], .val (clockD m hs bl mir), .val (.int far), .val (.int t), x6, .no]) ?_ ?_
      · walk_at "vc"
        refine next_w (by omega) (by omega) fun r _ _ _ r0 r1 => ?_
        walk_at "vc"
        exact ⟨_, _, 1 + r, ⟨by omega, by omega⟩, rfl⟩
      rintro e ⟨a, b, t, ⟨t1, t2⟩, rfl⟩
      refine ws_forN (fun _ k e => ∃ x6 : Sl, e = [.ro (ns.map .int), .val (.int c), .own true [.int a, .int b], .val (clockD m hs bl mir), .val (.int far), .val (.int t), x6, .no]) ?_
      walk_at "vc"
      refine ⟨⟨_, rfl⟩, ?_, ?_⟩
      · rintro k d e hkl hd ⟨x6, rfl⟩
        obtain ⟨i, rfl, hi⟩ : ∃ i : Int, d = .int i ∧ ¬ (0 ≤ i ∧ i < hs.length) := by
          have h := List.mem_of_getElem? hd
          simp only [List.mem_cons, List.not_mem_nil, or_false] at h
          rcases h with rfl | rfl | rfl | rfl | rfl
          all_goals exact ⟨_, rfl, by (try simp only [List.length_map]); omega⟩
        refine wt_n ?_
        walk_at "vc"
        refine wl_compP (fun _ _ => true) (fun _ _ => .bool true) ?_
        walk_at "vc"
        refine ⟨rfl, rfl, fun d hd => ?_, ?_⟩
        · obtain ⟨way, rfl, w0, w1⟩ := irange_mem hd
          walk_at "vc"
          refine ⟨rfl, ?_⟩
          walk_at "vc"
          refine refused_w w0 (by omega) hi t1 t2 fun _ => ?_
          walk_at "vc"
          exact ⟨rfl, rfl⟩
        · rw [filter_yes]
          walk_at "vc"
          exact ⟨_, rfl⟩
      · rintro e ⟨x6, rfl⟩
        exact ⟨_, _, _, _, _, _, rfl⟩
    · rintro e ⟨x1, x2, x3, x4, x5, x6, rfl⟩
      exact ⟨_, _, _, _, _, _, rfl⟩
  rintro e ⟨x1, x2, x3, x4, x5, x6, rfl⟩
  walk_at "vc"
  rfl

end Lw

theorem PySem.Challenge.cw_dialdoubt_k52_hands_that_there_are_none_holds : PySem.Challenge.rw_dialdoubt_k52_hands_that_there_are_none.Holds :=
  Lw.walked Lw.law_true
